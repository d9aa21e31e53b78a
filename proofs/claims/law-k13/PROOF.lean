import PyProof.Rows.All
import Wide.All
import OpenK.AllK
import Wide.FinOn
import HandS.ForMost
import HandS.ForExc
import HandS.Walk
import HandS.TupAny
import KE.DataEq
import HandS.IsInst
import HandS.TupLen
import HandS.Zip
import HandS.DictComp
import HandS.NoneIn
import KE.SortData
import KE.DataMinMax
import HandS.MakeKwOnly
import KE.GoesEnum
import HandS.EndBits
import PyProof.ReprNest
import HandS.Wide
import HandS.WideBits
import HandS.Head0
import HandS.Head1
import HandS.Head2
import HandS.HeadEnd
import HandS.HeadHook1
import HandS.HeadHook2
import HandS.Star
import HandS.Style
import KE.IntBitsLaws
import PySem.Challenge.RW_heldroads_k13_whole_nights_ahead
set_option Elab.async false
set_option linter.all false
set_option maxRecDepth 100000
section
namespace DL
open PySem PySem.Spec L2
abbrev St := L2.St
/-- a value as a tree -/
inductive D where
  | non | bl (b : Bool) | int (i : Int) | str (x : Str)
  | lst (xs : List D) | tup (xs : List D) | dic (t : Bool) (kvs : List (D × D))
  | obj (c : Nat) (fs : List (Str × D)) | stm | opq (v : V) | wl
/-- the drawing stream: the cells that are left, the digits that are left, the count of draws, the mix -/
structure Strm where
  cells : List Int
  cur : Int
  cnt : Int
  seed : Int
/-- the fixed addresses: the stream's list, its cells' list; classes by number -/
structure Cfg where
  st : Addr
  sl : Addr
  cls : Nat → Addr
  exc : Nat → Addr
  fld : Nat → Str
inductive Tag | no | old | new | ex (i : Nat)
  deriving DecidableEq
abbrev Tags := Addr → Tag
/-- keys of dicts as trees -/
def kD : Key → D
  | .inl i => .int i
  | .inr x => .str x
def ksD (ks : List Key) : D := .tup (ks.map kD)
section
variable (T : Cfg) (H : Hp) (S : Addr → Prop)
mutual
inductive Rep : V → D → Prop
  | non : Rep .non .non
  | bl (b : Bool) : Rep (.bl b) (.bl b)
  | int (i : Int) : Rep (.int i) (.int i)
  | str (x : Str) : Rep (.str x) (.str x)
  | lst {a : Addr} {vs : List V} {ds : List D} : S a → H a = some (.lst vs) → RepL vs ds → Rep (.ref a) (.lst ds)
  | tup {a : Addr} {vs : List V} {ds : List D} : H a = some (.tup vs) → RepL vs ds → Rep (.ref a) (.tup ds)
  | dK {a : Addr} {kvs : List (Key × V)} {ds : List (D × D)} : S a → H a = some (.dK kvs) → ds.map (·.1) = kvs.map (fun p => kD p.1) → RepL (kvs.map (·.2)) (ds.map (·.2)) → Rep (.ref a) (.dic false ds)
  | dT {a : Addr} {kvs : List (List Key × V)} {ds : List (D × D)} : S a → H a = some (.dT kvs) → ds.map (·.1) = kvs.map (fun p => ksD p.1) → RepL (kvs.map (·.2)) (ds.map (·.2)) → Rep (.ref a) (.dic true ds)
  | obj {a dx : Addr} {c : Nat} {fs : List (Str × V)} {ds : List (Str × D)} : H a = some (.ins (T.cls c) dx fs) → ds.map (·.1) = fs.map (·.1) → RepL (fs.map (·.2)) (ds.map (·.2)) → Rep (.ref a) (.obj c ds)
  | stm : Rep (.ref T.st) .stm
  | opq (v : V) : Rep v (.opq v)
  | wl {a : Addr} {vs : List V} : S a → H a = some (.lst vs) → Rep (.ref a) .wl
inductive RepL : List V → List D → Prop
  | nil : RepL [] []
  | cons {v : V} {d : D} {vs : List V} {ds : List D} : Rep v d → RepL vs ds → RepL (v :: vs) (d :: ds)
end
end
/-- what may not be stored any more: tuples, instances -/
def Imm : HO → Prop
  | .tup _ => True
  | .ins _ _ _ => True
  | _ => False
/-- what a tree over S leans on is kept -/
def Keep (S : Addr → Prop) (H H' : Hp) : Prop := ∀ a o, H a = some o → (S a ∨ Imm o) → H' a = some o
section
variable {T : Cfg} {H H' : Hp} {S S' : Addr → Prop}
theorem Rep.both (k : Keep S H H') (hs : ∀ a, S a → S' a) :
    (∀ v d, Rep T H S v d → Rep T H' S' v d) ∧ (∀ vs ds, RepL T H S vs ds → RepL T H' S' vs ds) := by
  have h := fun v d (r : Rep T H S v d) => Rep.rec (T := T) (H := H) (S := S) (motive_1 := fun v d _ => Rep T H' S' v d) (motive_2 := fun vs ds _ => RepL T H' S' vs ds)
    .non .bl .int .str (fun hS e _ r => .lst (hs _ hS) (k _ _ e (.inl hS)) r) (fun e _ r => .tup (k _ _ e (.inr trivial)) r)
    (fun hS e m _ r => .dK (hs _ hS) (k _ _ e (.inl hS)) m r) (fun hS e m _ r => .dT (hs _ hS) (k _ _ e (.inl hS)) m r) (fun e m _ r => .obj (k _ _ e (.inr trivial)) m r) .stm .opq (fun hS e => .wl (hs _ hS) (k _ _ e (.inl hS))) .nil (fun _ _ r s => .cons r s) r
  refine ⟨h, ?_⟩
  intro vs ds r
  induction ds generalizing vs with
  | nil => cases r; exact .nil
  | cons d ds ih => cases r with | cons a b => exact .cons (h _ _ a) (ih _ b)
theorem Rep.keep {v : V} {d : D} (r : Rep T H S v d) (k : Keep S H H') : Rep T H' S v d := (Rep.both k fun _ h => h).1 _ _ r
theorem RepL.keep {vs : List V} {ds : List D} (r : RepL T H S vs ds) (k : Keep S H H') : RepL T H' S vs ds := (Rep.both k fun _ h => h).2 _ _ r
theorem Keep.refl : Keep S H H := fun _ _ e _ => e
theorem Rep.mono {v : V} {d : D} (r : Rep T H S v d) (hs : ∀ a, S a → S' a) : Rep T H S' v d := (Rep.both Keep.refl hs).1 _ _ r
theorem RepL.mono {vs : List V} {ds : List D} (r : RepL T H S vs ds) (hs : ∀ a, S a → S' a) : RepL T H S' vs ds := (Rep.both Keep.refl hs).2 _ _ r
theorem RepL.len {vs : List V} {ds : List D} (r : RepL T H S vs ds) : vs.length = ds.length := by
  induction ds generalizing vs with
  | nil => cases r; rfl
  | cons d ds ih => cases r with | cons a b => simp [ih b]
theorem RepL.get {vs : List V} {ds : List D} (r : RepL T H S vs ds) : ∀ (i : Nat) (d : D), ds[i]? = some d → ∃ v, vs[i]? = some v ∧ Rep T H S v d := by
  induction ds generalizing vs with
  | nil => intro i d e; simp at e
  | cons d0 ds ih =>
    cases r with
    | cons a b =>
      intro i d e
      cases i with
      | zero => simp at e; subst e; exact ⟨_, rfl, a⟩
      | succ i => simp at e; obtain ⟨v, h1, h2⟩ := ih b i d e; exact ⟨v, by simpa using h1, h2⟩
theorem RepL.getV {vs : List V} {ds : List D} (r : RepL T H S vs ds) : ∀ (i : Nat) (v : V), vs[i]? = some v → ∃ d, ds[i]? = some d ∧ Rep T H S v d := by
  induction ds generalizing vs with
  | nil => cases r; intro i d e; simp at e
  | cons d0 ds ih =>
    cases r with
    | cons a b =>
      intro i v e
      cases i with
      | zero => simp at e; subst e; exact ⟨_, rfl, a⟩
      | succ i => simp at e; obtain ⟨v, h1, h2⟩ := ih b i v e; exact ⟨v, by simpa using h1, h2⟩
theorem RepL.append {vs ws : List V} {ds es : List D} (r : RepL T H S vs ds) (q : RepL T H S ws es) : RepL T H S (vs ++ ws) (ds ++ es) := by
  induction ds generalizing vs with
  | nil => cases r; exact q
  | cons d ds ih => cases r with | cons a b => exact .cons a (ih b)
theorem RepL.one {v : V} {d : D} (r : Rep T H S v d) : RepL T H S [v] [d] := .cons r .nil
end
/-- no heap object but the stream's two is changed -/
def Ext (T : Cfg) (H H' : Hp) : Prop := ∀ a o, H a = some o → a ≠ T.st → a ≠ T.sl → H' a = some o
theorem Ext.refl {T : Cfg} {H : Hp} : Ext T H H := fun _ _ e _ _ => e
theorem Ext.trans {T : Cfg} {H H1 H2 : Hp} (a : Ext T H H1) (b : Ext T H1 H2) : Ext T H H2 := fun c o e h1 h2 => b c o (a c o e h1 h2) h1 h2
theorem Ext.new {T : Cfg} {H : Hp} {p : Addr} {o : HO} (h : H p = none) : Ext T H (upd H p o) := fun a u e _ _ => by
  rw [upd_ne (ne_of_none e h)]; exact e
/-- the stream stands -/
def StmAt (T : Cfg) (H : Hp) (s : Strm) : Prop :=
  H T.st = some (.lst [.ref T.sl, .int s.cur, .int s.cnt, .int s.seed]) ∧ H T.sl = some (.lst (s.cells.map V.int))
theorem StmAt.ne {T : Cfg} {H : Hp} {s : Strm} (h : StmAt T H s) : T.st ≠ T.sl := by
  intro e
  have h1 := h.1; have h2 := h.2
  rw [e] at h1; rw [h1] at h2
  have h3 := Option.some.inj h2
  injection h3 with h3
  cases hc : s.cells with
  | nil => rw [hc] at h3; simp at h3
  | cons c r => rw [hc] at h3; simp at h3
inductive Kid | o | n | e
  deriving DecidableEq
/-- how a value's lists and dicts are held: none within; shared (made here or not); ours alone as a whole; the top one ours alone, what is within it by the Kid -/
inductive Md | atom | sh (isNew : Bool) | xc | ow (k : Kid) | any
  deriving DecidableEq
/-- shared nodes -/
def shS (tg : Tags) (b : Bool) : Addr → Prop := fun a => tg a = .new ∨ (b = false ∧ tg a = .old)
def exS (tg : Tags) (i : Nat) : Addr → Prop := fun a => tg a = .ex i
/-- nodes that were laid between H and H' and are nobody's -/
def frS (tg : Tags) (H H' : Hp) : Addr → Prop := fun a => H a = none ∧ H' a ≠ none ∧ tg a = .no
def kidS (tg : Tags) (own : Addr → Prop) : Kid → Addr → Prop
  | .o => shS tg false
  | .n => shS tg true
  | .e => own
/-- a tree whose top list or dict lies in own, what is within in kid (and is not the top one) -/
def RepO (T : Cfg) (H : Hp) (own kid : Addr → Prop) (v : V) : D → Prop
  | .lst ds => ∃ a vs, v = .ref a ∧ own a ∧ H a = some (.lst vs) ∧ RepL T H (fun b => kid b ∧ b ≠ a) vs ds
  | .dic false kvs => ∃ (a : Addr) (xs : List (Key × V)), v = .ref a ∧ own a ∧ H a = some (.dK xs) ∧ kvs.map (·.1) = xs.map (fun p => kD p.1) ∧ RepL T H (fun b => kid b ∧ b ≠ a) (xs.map (·.2)) (kvs.map (·.2))
  | .dic true kvs => ∃ (a : Addr) (xs : List (List Key × V)), v = .ref a ∧ own a ∧ H a = some (.dT xs) ∧ kvs.map (·.1) = xs.map (fun p => ksD p.1) ∧ RepL T H (fun b => kid b ∧ b ≠ a) (xs.map (·.2)) (kvs.map (·.2))
  | d => Rep T H kid v d
/-- all nodes but the stream's -/
def anyS (T : Cfg) (H : Hp) : Addr → Prop := fun a => H a ≠ none ∧ a ≠ T.st ∧ a ≠ T.sl
/-- a value held by m, ours: own -/
def wS (tg : Tags) (own : Addr → Prop) : Md → Addr → Prop
  | .sh b => shS tg b
  | .xc => own
  | _ => fun _ => False
def RepW (T : Cfg) (tg : Tags) (own : Addr → Prop) (H : Hp) (m : Md) (v : V) (d : D) : Prop :=
  match m with
  | .ow k => RepO T H own (kidS tg own k) v d
  | .any => Rep T H (anyS T H) v d
  | m => Rep T H (wS tg own m) v d
abbrev Env := List (Option D)
/-- the state of a body: Γ how the slots hold, ρ their trees; H0 the heap at the entry, S0 the nodes of what was passed -/
structure Sta (T : Cfg) (H0 : Hp) (S0 : Addr → Prop) (Γ : List Md) (ρ : Env) (s : Strm) (σ : St) (H : Hp) (tg : Tags) : Prop where
  len : σ.length = ρ.length
  val : ∀ (i : Nat) (d : D), ρ[i]? = some (some d) → Γ.getD i .atom ≠ .any ∧ ∃ v, σ[i]? = some (some v) ∧ RepW T tg (exS tg i) H (Γ.getD i .atom) v d
  stm : StmAt T H s
  tgd : ∀ a, tg a ≠ .no → H a ≠ none
  tg0 : ∀ a, H0 a ≠ none → tg a = .no ∨ tg a = .old
  tgs : tg T.st = .no ∧ tg T.sl = .no
  old : ∀ a, tg a = .old → S0 a
  stm0 : H0 T.st ≠ none ∧ H0 T.sl ≠ none
  same : Ext T H0 H
/-- tags behind an expression: what was laid keeps its tag, what is new is nobody's or new -/
def TgX (H H' : Hp) (tg tg' : Tags) : Prop :=
  (∀ a, H a ≠ none → tg' a = tg a) ∧ (∀ a, H a = none → tg' a ≠ .no → tg' a = .new)
theorem TgX.refl {H H' : Hp} {tg : Tags} (h : ∀ a, tg a ≠ .no → H a ≠ none) : TgX H H' tg tg :=
  ⟨fun _ _ => rfl, fun a e n => absurd e (h a n)⟩
section
variable {T : Cfg} {H H1 H2 : Hp} {tg tg1 tg2 : Tags}
theorem Ext.some {T : Cfg} {H H' : Hp} {s s' : Strm} (h : Ext T H H') (h1 : StmAt T H s) (h2 : StmAt T H' s') {a : Addr} (n : H a ≠ none) : H' a ≠ none := by
  cases e : H a with
  | none => exact absurd e n
  | some o =>
    by_cases x : a = T.st
    · rw [x, h2.1]; simp
    · by_cases y : a = T.sl
      · rw [y, h2.2]; simp
      · rw [h a o e x y]; simp
theorem TgX.sh (x : TgX H H1 tg tg1) (td : ∀ a, tg a ≠ .no → H a ≠ none) {b : Bool} {a : Addr} (h : shS tg b a) : shS tg1 b a := by
  have n : tg a ≠ .no := by
    rcases h with h | ⟨_, h⟩ <;> (rw [h]; intro q; cases q)
  unfold shS; rw [x.1 a (td a n)]; exact h
end
end DL
end
section
namespace DL
open PySem PySem.Spec L2
section
variable {T : Cfg} {H H' H1 H2 : Hp} {tg tg' tg1 tg2 : Tags} {own own' kid kid' : Addr → Prop} {v : V} {d : D} {s s' : Strm} {m : Md}
theorem RepO.move (r : RepO T H own kid v d) (k : Keep (fun a => own a ∨ kid a) H H') (ho : ∀ a, own a → own' a) (hk : ∀ a, kid a → kid' a) : RepO T H' own' kid' v d := by
  have kk : ∀ a : Addr, Keep (fun b => kid b ∧ b ≠ a) H H' := fun a b o e h => k b o e (h.imp (fun h => .inr h.1) id)
  have mo : ∀ a : Addr, ∀ b, (kid b ∧ b ≠ a) → (kid' b ∧ b ≠ a) := fun a b h => ⟨hk b h.1, h.2⟩
  cases d with
  | lst ds =>
    obtain ⟨a, vs, e, h1, h2, h3⟩ := r
    exact ⟨a, vs, e, ho a h1, k a _ h2 (.inl (.inl h1)), (h3.keep (kk a)).mono (mo a)⟩
  | dic t kvs =>
    cases t <;>
    · obtain ⟨a, xs, e, h1, h2, h3, h4⟩ := r
      exact ⟨a, xs, e, ho a h1, k a _ h2 (.inl (.inl h1)), h3, (h4.keep (kk a)).mono (mo a)⟩
  | _ => exact (Rep.keep (show Rep T H kid v _ from r) (fun b o e h => k b o e (h.imp .inr id))).mono hk
/-- a tree told apart at its top is a tree -/
theorem RepO.flat (r : RepO T H own kid v d) (ho : ∀ a, own a → kid' a) (hk : ∀ a, kid a → kid' a) : Rep T H kid' v d := by
  have mo : ∀ a : Addr, ∀ b, (kid b ∧ b ≠ a) → kid' b := fun a b h => hk b h.1
  cases d with
  | lst ds =>
    obtain ⟨a, vs, rfl, h1, h2, h3⟩ := r
    exact .lst (ho a h1) h2 (h3.mono (mo a))
  | dic t kvs =>
    cases t
    · obtain ⟨a, xs, rfl, h1, h2, h3, h4⟩ := r
      exact .dK (ho a h1) h2 h3 (h4.mono (mo a))
    · obtain ⟨a, xs, rfl, h1, h2, h3, h4⟩ := r
      exact .dT (ho a h1) h2 h3 (h4.mono (mo a))
  | _ => exact Rep.mono (show Rep T H kid v _ from r) hk
theorem RepW.move (hm : m ≠ .any) (r : RepW T tg own H m v d) (k : Keep (fun a => own a ∨ shS tg false a) H H') (ho : ∀ a, own a → own' a) (hs : ∀ b a, shS tg b a → shS tg' b a) : RepW T tg' own' H' m v d := by
  have up : ∀ b a, shS tg b a → shS tg false a := fun b a h => h.imp id (fun h => ⟨rfl, h.2⟩)
  cases m with
  | any => exact absurd rfl hm
  | atom => exact Rep.keep (S := fun _ => False) r fun a o e h => k a o e (h.imp False.elim id)
  | sh b => exact (Rep.keep (S := shS tg b) r fun a o e h => k a o e (h.imp (fun h => .inr (up b a h)) id)).mono (hs b)
  | xc => exact (Rep.keep (S := own) r fun a o e h => k a o e (h.imp .inl id)).mono ho
  | ow kd =>
    refine RepO.move (own' := own') (kid := kidS tg own kd) r (fun a o e h => k a o e (h.imp (fun h => ?_) id)) ho fun a h => ?_
    · rcases h with h | h
      · exact .inl h
      · cases kd with
        | o => exact .inr h
        | n => exact .inr (up true a h)
        | e => exact .inl h
    · cases kd with
      | o => exact hs false a h
      | n => exact hs true a h
      | e => exact ho a h
theorem Keep.ofExt {S : Addr → Prop} (x : Ext T H H') (st : StmAt T H s) (h1 : ¬ S T.st) (h2 : ¬ S T.sl) : Keep S H H' := fun a o e h => by
  refine x a o e ?_ ?_
  · intro z
    rcases h with h | h
    · exact h1 (z ▸ h)
    · rw [z, st.1] at e; cases e; exact h
  · intro z
    rcases h with h | h
    · exact h2 (z ▸ h)
    · rw [z, st.2] at e; cases e; exact h
theorem shS_not {a : Addr} {b : Bool} (h : tg a = .no) : ¬ shS tg b a := by
  rintro (q | ⟨_, q⟩) <;> (rw [h] at q; cases q)
theorem exS_not {a : Addr} {i : Nat} (h : tg a = .no) : ¬ exS tg i a := by
  intro q; rw [exS, h] at q; cases q
end
section
variable {T : Cfg} {H0 H H' H1 H2 : Hp} {S0 own own' : Addr → Prop} {Γ Γ' Γ1 : List Md} {ρ ρ' : Env} {s s' s1 : Strm} {σ : St} {tg tg' tg1 tg2 : Tags} {v : V} {d : D} {m m' : Md}
theorem Sta.keep (S : Sta T H0 S0 Γ ρ s σ H tg) (x : Ext T H H') {i : Nat} : Keep (fun a => exS tg i a ∨ shS tg false a) H H' :=
  Keep.ofExt x S.stm (by rintro (h | h); exact exS_not S.tgs.1 h; exact shS_not S.tgs.1 h) (by rintro (h | h); exact exS_not S.tgs.2 h; exact shS_not S.tgs.2 h)
/-- the state behind what changes the stream alone and lays new objects -/
theorem Sta.ext (S : Sta T H0 S0 Γ ρ s σ H tg) (x : Ext T H H') (st : StmAt T H' s') (t1 : ∀ a, H a ≠ none → tg' a = tg a) (t2 : ∀ a, H a = none → tg' a ≠ .no → tg' a = .new ∧ H' a ≠ none) : Sta T H0 S0 Γ ρ s' σ H' tg' := by
  have nn : ∀ {a}, H a ≠ none → H' a ≠ none := fun n => x.some S.stm st n
  have st1 : H T.st ≠ none := by rw [S.stm.1]; simp
  have st2 : H T.sl ≠ none := by rw [S.stm.2]; simp
  have tt : ∀ a, tg a ≠ .no → tg' a = tg a := fun a n => t1 a (S.tgd a n)
  refine ⟨S.len, fun i d e => ?_, st, fun a n => ?_, fun a n => ?_, ⟨?_, ?_⟩, fun a e => ?_, S.stm0, S.same.trans x⟩
  · obtain ⟨h0, v, h1, h2⟩ := S.val i d e
    refine ⟨h0, v, h1, h2.move h0 (S.keep x) (fun a h => ?_) fun b a h => ?_⟩
    · unfold exS at h ⊢; rw [tt a (by rw [h]; intro q; cases q)]; exact h
    · unfold shS at h ⊢
      rw [tt a (by rcases h with h | ⟨_, h⟩ <;> (rw [h]; intro q; cases q))]; exact h
  · by_cases h : H a = none
    · exact (t2 a h n).2
    · exact nn h
  · by_cases h : a = T.st
    · rw [h, t1 _ st1]; exact .inl S.tgs.1
    · by_cases h' : a = T.sl
      · rw [h', t1 _ st2]; exact .inl S.tgs.2
      · cases e : H0 a with
        | none => exact absurd e n
        | some o => rw [t1 a (by rw [S.same a o e h h']; simp)]; exact S.tg0 a n
  · rw [t1 _ st1]; exact S.tgs.1
  · rw [t1 _ st2]; exact S.tgs.2
  · by_cases h : H a = none
    · rw [(t2 a h (by rw [e]; intro q; cases q)).1] at e; cases e
    · rw [t1 a h] at e; exact S.old a e
theorem Sta.ext0 (S : Sta T H0 S0 Γ ρ s σ H tg) (x : Ext T H H') (st : StmAt T H' s') : Sta T H0 S0 Γ ρ s' σ H' tg :=
  S.ext x st (fun _ _ => rfl) fun a h n => absurd h (S.tgd a n)
theorem Sta.tgx (S : Sta T H0 S0 Γ ρ s σ H tg) : TgX H H' tg tg := TgX.refl S.tgd
/-- what was made stays behind what comes later -/
theorem RepW.later0 (r : RepW T tg1 (frS tg1 H H1) H1 m v d) (S : Sta T H0 S0 Γ ρ s1 σ H1 tg1) (st : StmAt T H s) (x : Ext T H1 H2) (st2 : StmAt T H2 s') (t : TgX H1 H2 tg1 tg2) : RepW T tg2 (frS tg2 H H2) H2 m v d := by
  by_cases hm : m = .any
  · subst hm
    exact (Rep.keep (S := anyS T H1) r (Keep.ofExt x S.stm (fun h => h.2.1 rfl) (fun h => h.2.2 rfl))).mono fun a h => ⟨x.some S.stm st2 h.1, h.2⟩
  refine r.move hm ?_ (fun a h => ?_) fun b a h => t.sh S.tgd h
  · refine Keep.ofExt x S.stm ?_ ?_
    · rintro (h | h)
      · rw [frS, st.1] at h; cases h.1
      · exact shS_not S.tgs.1 h
    · rintro (h | h)
      · rw [frS, st.2] at h; cases h.1
      · exact shS_not S.tgs.2 h
  · refine ⟨h.1, x.some S.stm st2 h.2.1, ?_⟩
    rw [t.1 a h.2.1]; exact h.2.2
theorem RepW.grow (r : RepW T tg own H m v d) (ho : ∀ a, own a → own' a) : RepW T tg own' H m v d := by
  by_cases hm : m = .any
  · subst hm; exact r
  · exact r.move hm (fun _ _ e _ => e) ho fun _ _ h => h
theorem RepW.early0 (r : RepW T tg2 (frS tg2 H1 H2) H2 m v d) (u : ∀ a, H a ≠ none → H1 a ≠ none) : RepW T tg2 (frS tg2 H H2) H2 m v d :=
  r.grow fun a h => ⟨Classical.byContradiction fun n => u a n h.1, h.2⟩
abbrev Exn := Nat × D
abbrev M (α : Type) := Strm → Option (Except Exn α × Strm)
@[inline] def M.bind {α β : Type} (x : M α) (f : α → M β) : M β := fun s => match x s with
  | none => none
  | some (.error e, s') => some (.error e, s')
  | some (.ok a, s') => f a s'
instance : Monad M where
  pure a := fun s => some (.ok a, s)
  bind := M.bind
def M.fail {α : Type} : M α := fun _ => none
/-- of an option: stuck where it is none -/
def M.of {α : Type} (o : Option α) : M α := fun s => o.map fun a => (.ok a, s)
abbrev EF := Env → M D
theorem M.bind_eq {α β : Type} (x : M α) (f : α → M β) (s : Strm) : (x >>= f) s = match x s with
  | none => none
  | some (.error e, s') => some (.error e, s')
  | some (.ok a, s') => f a s' := rfl
theorem M.bind_some {α β : Type} {x : M α} {f : α → M β} {s s' : Strm} {r : Except Exn β} (h : (x >>= f) s = some (r, s')) :
    (∃ e, x s = some (.error e, s') ∧ r = .error e) ∨ (∃ a s1, x s = some (.ok a, s1) ∧ f a s1 = some (r, s')) := by
  rw [M.bind_eq] at h
  split at h
  · cases h
  · rename_i e s1 q; injection h with h; injection h with h1 h2; subst h2; exact .inl ⟨e, q, h1.symm⟩
  · rename_i a s1 q; exact .inr ⟨a, s1, q, h⟩
theorem M.of_some {α : Type} {o : Option α} {s s' : Strm} {r : Except Exn α} (h : M.of o s = some (r, s')) : ∃ a, o = some a ∧ r = .ok a ∧ s' = s := by
  unfold M.of at h
  cases o with
  | none => cases h
  | some a => simp at h; exact ⟨a, rfl, h.1.symm, h.2.symm⟩
/-- an exception in the heap H': made behind H -/
def Thr (T : Cfg) (H : Hp) (x : Exn) (s' : Strm) (c : Value) (dx : Addr) (H' : Hp) : Prop :=
  c = .ref (T.exc x.1) ∧ Ext T H H' ∧ StmAt T H' s' ∧ ∃ v, H' dx = some (.xd [(T.fld x.1, v)]) ∧ Rep T H' (fun a => H' a ≠ none ∧ a ≠ T.st ∧ a ≠ T.sl) v x.2
/-- from H to H': what was laid stays (but for the stream), tags too -/
structure Go (T : Cfg) (H H' : Hp) (tg tg' : Tags) : Prop where
  x : Ext T H H'
  t : TgX H H' tg tg'
  u : ∀ a, H a ≠ none → H' a ≠ none
theorem Go.refl (S : Sta T H0 S0 Γ ρ s σ H tg) : Go T H H tg tg := ⟨Ext.refl, S.tgx, fun _ h => h⟩
theorem Go.trans (a : Go T H H1 tg tg1) (b : Go T H1 H2 tg1 tg2) : Go T H H2 tg tg2 := by
  refine ⟨a.x.trans b.x, ⟨fun c hc => (b.t.1 c (a.u c hc)).trans (a.t.1 c hc), fun c hc n => ?_⟩, fun c h => b.u c (a.u c h)⟩
  by_cases h1 : H1 c = none
  · exact b.t.2 c h1 n
  · rw [b.t.1 c h1] at n ⊢; exact a.t.2 c hc n
/-- the state behind what only lays -/
theorem Sta.go {ρ1 : Env} {σ1 : St} {s2 : Strm} (S : Sta T H0 S0 Γ ρ s σ H tg) (g : Go T H H1 tg tg1) (S1 : Sta T H0 S0 Γ1 ρ1 s2 σ1 H1 tg1) : Sta T H0 S0 Γ ρ s2 σ H1 tg1 :=
  S.ext g.x S1.stm g.t.1 fun a h n => ⟨g.t.2 a h n, S1.tgd a n⟩
theorem Go.lay (S : Sta T H0 S0 Γ ρ s σ H tg) (x : Ext T H H1) (st : StmAt T H1 s1) : Go T H H1 tg tg := ⟨x, TgX.refl S.tgd, fun _ n => x.some S.stm st n⟩
/-- what is wanted behind an expression -/
def Cnt (T : Cfg) (E : XK) (H0 : Hp) (S0 : Addr → Prop) (Γ' : List Md) (ρ : Env) (σ : St) (m : Md) (H : Hp) (tg : Tags) (s' : Strm) (Q : VK) : Except Exn D → Prop
  | .ok d => ∀ v H' tg', Go T H H' tg tg' → Sta T H0 S0 Γ' ρ s' σ H' tg' → RepW T tg' (frS tg' H H') H' m v d → Q v H'
  | .error x => ∀ c dx H', Thr T H x s' c dx H' → E c (some dx) H'
section
variable (X : Cx)
def WE (e : Expr) (σ : St) (H : Hp) (Q : VK) : Prop := ∀ pins s, Inv X pins σ H s → wpAny (model X.prog X.w) X.A (eval e X.env) (EP X pins σ Q) X.xe s
def WT (e : Expr) (σ : St) (H : Hp) (Q : Bool → Hp → Prop) : Prop := ∀ pins s, Inv X pins σ H s → wpAny (model X.prog X.w) X.A (isTrue e X.env (eval e X.env)) (TP X pins σ Q) X.xe s
def WA (es : List Expr) (σ : St) (H : Hp) (Q : List V → Hp → Prop) : Prop := ∀ pos pins s, Inv X pins σ H s → wpAny (model X.prog X.w) X.A (spliced (backTo pos (starEach es X.env))) (AP X pins σ Q) X.xe s
def WS (st : Stmt) (D : Ends) (σ : St) (H : Hp) : Prop := ∀ pins s, Inv X pins σ H s → wpAny (model X.prog X.w) X.A (exec st X.env) (SP X pins D) X.xe s
def WSs (st : List Stmt) (D : Ends) (σ : St) (H : Hp) : Prop := ∀ pins s, Inv X pins σ H s → wpAny (model X.prog X.w) X.A (execs st X.env) (SP X pins D) X.xe s
end
section
variable {X : Cx} {e : Expr} {es : List Expr} {st : Stmt} {sts : List Stmt} {σ : St} {H : Hp}
theorem WE.pe : PE X e (WE X e) := ⟨fun pins s _ _ _ I h => h pins s I⟩
theorem WT.pt : PT X e (WT X e) := ⟨fun pins s _ _ _ I h => h pins s I⟩
theorem WA.pa : PA X es (WA X es) := ⟨fun pos pins s _ _ _ I h => h pos pins s I⟩
theorem WS.ps : PS X st (WS X st) := ⟨fun pins s _ _ _ I h => h pins s I⟩
theorem WSs.pss : PSs X sts (WSs X sts) := ⟨fun pins s _ _ _ I h => h pins s I⟩
theorem WE.of {t : TE} {Q : VK} (p : PE X e t) (h : t σ H Q) : WE X e σ H Q := fun pins s I => p.run pins s σ H Q I h
theorem WT.of {t : TT} {Q : Bool → Hp → Prop} (p : PT X e t) (h : t σ H Q) : WT X e σ H Q := fun pins s I => p.run pins s σ H Q I h
theorem WA.of {t : TA} {Q : List V → Hp → Prop} (p : PA X es t) (h : t σ H Q) : WA X es σ H Q := fun pos pins s I => p.run pos pins s σ H Q I h
theorem WS.of {t : TS} {D : Ends} (p : PS X st t) (h : t D σ H) : WS X st D σ H := fun pins s I => p.run pins s σ H D I h
theorem WSs.of {t : TS} {D : Ends} (p : PSs X sts t) (h : t D σ H) : WSs X sts D σ H := fun pins s I => p.run pins s σ H D I h
theorem WE.mono {Q Q' : VK} (h : WE X e σ H Q) (q : ∀ v H', Q v H' → Q' v H') : WE X e σ H Q' := fun pins s I => thn (h pins s I) fun u s' ⟨v, H', I', r, z⟩ => ⟨v, H', I', r, q v H' z⟩
theorem WT.mono {Q Q' : Bool → Hp → Prop} (h : WT X e σ H Q) (q : ∀ v H', Q v H' → Q' v H') : WT X e σ H Q' := fun pins s I => thn (h pins s I) fun u s' ⟨H', I', z⟩ => ⟨H', I', q u H' z⟩
theorem WA.mono {Q Q' : List V → Hp → Prop} (h : WA X es σ H Q) (q : ∀ v H', Q v H' → Q' v H') : WA X es σ H Q' := fun pos pins s I => thn (h pos pins s I) fun u s' ⟨v, H', I', r, z⟩ => ⟨v, H', I', r, q v H' z⟩
end
/-- e, read in slots held by Γ, is F of the trees, held by m; behind it the slots are held by Γ' -/
structure DE (T : Cfg) (X : Cx) (E : XK) (Γ : List Md) (e : Expr) (F : EF) (m : Md) (Γ' : List Md) : Prop where
  mk ::
  run : ∀ H0 S0 ρ s σ H tg, Sta T H0 S0 Γ ρ s σ H tg → ∀ r s', F ρ s = some (r, s') → ∀ Q : VK, Cnt T E H0 S0 Γ' ρ σ m H tg s' Q r → WE X e σ H Q
instance {T : Cfg} {X : Cx} {E : XK} {Γ : List Md} {e : Expr} {F : EF} {m : Md} {Γ' : List Md} : CoeFun (DE T X E Γ e F m Γ') (fun _ => ∀ H0 S0 ρ s σ H tg, Sta T H0 S0 Γ ρ s σ H tg → ∀ r s', F ρ s = some (r, s') → ∀ Q : VK, Cnt T E H0 S0 Γ' ρ σ m H tg s' Q r → WE X e σ H Q) := ⟨DE.run⟩
theorem RepW.later (r : RepW T tg1 (frS tg1 H H1) H1 m v d) (S : Sta T H0 S0 Γ ρ s σ H tg) (S1 : Sta T H0 S0 Γ1 ρ s1 σ H1 tg1) (S2 : Sta T H0 S0 Γ' ρ s' σ H2 tg2) (g : Go T H1 H2 tg1 tg2) : RepW T tg2 (frS tg2 H H2) H2 m v d :=
  r.later0 S1 S.stm g.x S2.stm g.t
theorem RepW.early (r : RepW T tg2 (frS tg2 H1 H2) H2 m v d) (g : Go T H H1 tg tg1) : RepW T tg2 (frS tg2 H H2) H2 m v d := r.early0 g.u
/-- what is wanted of an exception -/
def ErrK (T : Cfg) (E : XK) (H : Hp) (s' : Strm) {α : Type} (r : Except Exn α) : Prop := ∀ x, r = .error x → ∀ c dx H', Thr T H x s' c dx H' → E c (some dx) H'
theorem Cnt.ek {E : XK} {r : Except Exn D} {Q : VK} (h : Cnt T E H0 S0 Γ' ρ σ m H tg s' Q r) : ErrK T E H s' r := fun x e => by subst e; exact h
theorem ErrK.later {E : XK} {α : Type} {r : Except Exn α} (h : ErrK T E H s' r) (g : Go T H H1 tg tg1) : ErrK T E H1 s' r := fun x e c dx H' ⟨h1, h2, h3⟩ => h x e c dx H' ⟨h1, g.x.trans h2, h3⟩
/-- first a, then the rest -/
theorem DE.seq {β : Type} {X : Cx} {E : XK} {a : Expr} {Fa : EF} {k : D → M β} {r : Except Exn β} {Q : VK} (ha : DE T X E Γ a Fa m Γ1) (S : Sta T H0 S0 Γ ρ s σ H tg) (hF : (Fa ρ >>= k) s = some (r, s')) (hE : ErrK T E H s' r)
    (h : ∀ d s1 v H1 tg1, k d s1 = some (r, s') → Go T H H1 tg tg1 → Sta T H0 S0 Γ1 ρ s1 σ H1 tg1 → RepW T tg1 (frS tg1 H H1) H1 m v d → ErrK T E H1 s' r → Q v H1) : WE X a σ H Q := by
  rcases M.bind_some hF with ⟨e, h1, rfl⟩ | ⟨d, s1, h1, h2⟩
  · exact ha _ _ _ _ _ _ _ S _ _ h1 Q (hE e rfl)
  · exact ha _ _ _ _ _ _ _ S _ _ h1 Q fun v H1 tg1 g S1 r1 => h d s1 v H1 tg1 h2 g S1 r1 (hE.later g)
end
end DL
end
section
namespace DL
open PySem PySem.Spec L2
section
variable {T : Cfg} {H0 H H' H1 H2 : Hp} {S0 : Addr → Prop} {Γ Γ' Γ1 Γ2 : List Md} {ρ ρ' : Env} {s s' s1 : Strm} {σ : St} {tg tg' tg1 tg2 : Tags} {v : V} {d : D} {m m' : Md}
theorem Sta.retag (S : Sta T H0 S0 Γ ρ s σ H tg) (h : ∀ a, tg' a = tg a ∨ (tg a = .no ∧ tg' a ≠ .old ∧ H a ≠ none ∧ H0 a = none)) : Sta T H0 S0 Γ ρ s σ H tg' := by
  have k : ∀ a, tg a ≠ .no → tg' a = tg a := fun a n => (h a).elim id fun z => absurd z.1 n
  refine ⟨S.len, fun i d e => ?_, S.stm, fun a n => ?_, fun a n => ?_, ⟨?_, ?_⟩, fun a e => ?_, S.stm0, S.same⟩
  · obtain ⟨h0, v, h1, h2⟩ := S.val i d e
    refine ⟨h0, v, h1, h2.move h0 (fun _ _ e _ => e) (fun a h => ?_) fun b a h => ?_⟩
    · unfold exS at h ⊢; rw [k a (by rw [h]; intro q; cases q)]; exact h
    · unfold shS at h ⊢; rw [k a (by rcases h with h | ⟨_, h⟩ <;> (rw [h]; intro q; cases q))]; exact h
  · rcases h a with e | e
    · exact S.tgd a (by rw [← e]; exact n)
    · exact e.2.2.1
  · rcases h a with e | e
    · rw [e]; exact S.tg0 a n
    · exact absurd e.2.2.2 n
  · rcases h T.st with e | e
    · rw [e]; exact S.tgs.1
    · exact absurd e.2.2.2 S.stm0.1
  · rcases h T.sl with e | e
    · rw [e]; exact S.tgs.2
    · exact absurd e.2.2.2 S.stm0.2
  · rcases h a with q | q
    · rw [q] at e; exact S.old a e
    · exact absurd e q.2.1
theorem Sta.born (S : Sta T H0 S0 Γ ρ s σ H tg) {a : Addr} (h : H a = none) : H0 a = none := by
  cases e : H0 a with
  | none => rfl
  | some o =>
    by_cases z : a = T.st
    · rw [z, S.stm.1] at h; cases h
    · by_cases z' : a = T.sl
      · rw [z', S.stm.2] at h; cases h
      · rw [S.same a o e z z'] at h; cases h
inductive Le : Md → Md → Prop
  | refl (m : Md) : Le m m
  | atom (m : Md) : Le .atom m
  | xc_sh (b : Bool) : Le .xc (.sh b)
  | ow_xc : Le (.ow .e) .xc
  | ow_e (b : Bool) : Le (.ow .e) (.sh b)
  | ow_n (b : Bool) : Le (.ow .n) (.sh b)
  | ow_o : Le (.ow .o) (.sh false)
  | sh : Le (.sh true) (.sh false)
  | any (m : Md) : Le m .any
noncomputable def frz (tg : Tags) (H H' : Hp) : Tags := fun a => by
  classical exact if H a = none ∧ H' a ≠ none ∧ tg a = .no then .new else tg a
theorem frz_yes {a : Addr} (h : frS tg H H' a) : frz tg H H' a = .new := if_pos h
theorem frz_or (a : Addr) : frz tg H H' a = tg a ∨ (tg a = .no ∧ frz tg H H' a = .new ∧ H' a ≠ none ∧ H a = none) := by
  unfold frz
  by_cases h : H a = none ∧ H' a ≠ none ∧ tg a = .no
  · rw [if_pos h]; exact .inr ⟨h.2.2, rfl, h.2.1, h.1⟩
  · rw [if_neg h]; exact .inl rfl
theorem frz_sh {a : Addr} {b : Bool} (h : shS tg b a) : shS (frz tg H H') b a := by
  rcases frz_or (H := H) (H' := H') (tg := tg) a with e | e
  · unfold shS; rw [e]; exact h
  · exact absurd h (shS_not e.1)
theorem Sta.frz (S1 : Sta T H0 S0 Γ1 ρ s1 σ H1 tg1) (born : ∀ a, H a = none → H0 a = none) : Sta T H0 S0 Γ1 ρ s1 σ H1 (frz tg1 H H1) :=
  S1.retag fun a => (frz_or a).imp id fun e => ⟨e.1, (by rw [e.2.1]; exact fun q => by cases q), e.2.2.1, born a e.2.2.2⟩
theorem TgX.frz (S : Sta T H0 S0 Γ ρ s σ H tg) (t : TgX H H1 tg tg1) : TgX H H1 tg (frz tg1 H H1) := by
  refine ⟨fun a n => ?_, fun a n h => ?_⟩
  · rcases frz_or (H := H) (H' := H1) (tg := tg1) a with e | e
    · rw [e]; exact t.1 a n
    · exact absurd e.2.2.2 n
  · rcases frz_or (H := H) (H' := H1) (tg := tg1) a with e | e
    · rw [e] at h ⊢; exact t.2 a n h
    · exact e.2.1
theorem rep_any (S : Sta T H0 S0 Γ ρ s σ H tg) (S1 : Sta T H0 S0 Γ1 ρ s1 σ H1 tg1) (r : RepW T tg1 (frS tg1 H H1) H1 m v d) : Rep T H1 (anyS T H1) v d := by
  have hs : ∀ b a, shS tg1 b a → anyS T H1 a := fun b a h => by
    refine ⟨S1.tgd a ?_, ?_, ?_⟩
    · intro z; exact shS_not z h
    · rintro rfl; exact shS_not S1.tgs.1 h
    · rintro rfl; exact shS_not S1.tgs.2 h
  have hf : ∀ a, frS tg1 H H1 a → anyS T H1 a := fun a h => by
    refine ⟨h.2.1, ?_, ?_⟩
    · rintro rfl; have z := h.1; rw [S.stm.1] at z; cases z
    · rintro rfl; have z := h.1; rw [S.stm.2] at z; cases z
  cases m with
  | atom => exact Rep.mono (S := fun _ => False) r fun _ h => h.elim
  | sh b => exact Rep.mono (S := shS tg1 b) r (hs b)
  | xc => exact Rep.mono (S := frS tg1 H H1) r hf
  | any => exact r
  | ow k =>
    refine RepO.flat r hf fun a h => ?_
    cases k with
    | o => exact hs _ a h
    | n => exact hs _ a h
    | e => exact hf a h
theorem RepO.atom {own kid : Addr → Prop} (r : Rep T H (fun _ => False) v d) : RepO T H own kid v d := by
  cases d with
  | lst ds => cases r with | lst h _ _ => exact h.elim
  | dic t kvs => cases r with | dK h _ _ _ => exact h.elim | dT h _ _ _ => exact h.elim
  | _ => exact Rep.mono (S := fun _ => False) r fun _ h => h.elim
theorem DE.weak {X : Cx} {E : XK} {e : Expr} {F : EF} (h : DE T X E Γ e F m Γ') (l : Le m m') : DE T X E Γ e F m' Γ' := by
  refine ⟨?_⟩
  intro H0 S0 ρ s σ H tg S r s' hF Q hQ
  refine h _ _ _ _ _ _ _ S _ _ hF Q ?_
  cases r with
  | error x => exact hQ
  | ok d =>
    intro v H1 tg1 g S1 rr
    have x := g.x
    have t := g.t
    have gf : Go T H H1 tg (DL.frz tg1 H H1) := ⟨x, t.frz S, g.u⟩
    have born : ∀ a, H a = none → H0 a = none := fun a z => S.born z
    have fz : ∀ own' : Addr → Prop, (∀ a, own' a → frS tg1 H H1 a ∨ shS tg1 false a) → ∀ a, own' a → shS (DL.frz tg1 H H1) false a := fun own' ho a z => by
      rcases ho a z with q | q
      · exact .inl (frz_yes q)
      · exact frz_sh q
    cases l with
    | refl => exact hQ v H1 tg1 g S1 rr
    | any => exact hQ v H1 tg1 g S1 (rep_any S S1 rr)
    | atom =>
      refine hQ v H1 tg1 g S1 ?_
      cases m' with
      | atom => exact rr
      | sh b => exact Rep.mono (S := fun _ => False) rr fun _ h => h.elim
      | xc => exact Rep.mono (S := fun _ => False) rr fun _ h => h.elim
      | any => exact Rep.mono (S := fun _ => False) rr fun _ h => h.elim
      | ow k => exact RepO.atom rr
    | xc_sh b => exact hQ v H1 _ gf (S1.frz born) (Rep.mono (S := frS tg1 H H1) rr fun a h => .inl (frz_yes h))
    | ow_xc => exact hQ v H1 tg1 g S1 (RepO.flat rr (fun _ h => h) fun _ h => h)
    | ow_e b => exact hQ v H1 _ gf (S1.frz born) (RepO.flat rr (fun a h => .inl (frz_yes h)) fun a h => .inl (frz_yes h))
    | ow_n b => exact hQ v H1 _ gf (S1.frz born) (RepO.flat rr (fun a h => .inl (frz_yes h)) fun a h => frz_sh (h.elim .inl fun z => by cases z.1))
    | ow_o => exact hQ v H1 _ gf (S1.frz born) (RepO.flat rr (fun a h => .inl (frz_yes h)) fun a h => frz_sh h)
    | sh => exact hQ v H1 tg1 g S1 (Rep.mono (S := shS tg1 true) rr fun a h => h.elim .inl fun z => by cases z.1)
/-- slot i's tree -/
def fVar (i : Nat) : EF := fun ρ => M.of (ρ[i]?.join)
def fC (d : D) : EF := fun _ => pure d
theorem join_some {i : Nat} (h : ρ[i]?.join = some d) : ρ[i]? = some (some d) := by
  cases e : ρ[i]? with
  | none => rw [e] at h; cases h
  | some o => rw [e] at h; cases o with
    | none => cases h
    | some x => exact congrArg some h
section
variable {X : Cx} {E : XK} {e a b : Expr} {F Fa Fb : EF} {pos : Pos}
/-- a name whose slot holds shared things, or none -/
theorem de_var (i : Nat) (hm : Γ.getD i .atom = m) (hw : m = .atom ∨ ∃ b, m = .sh b := by first | exact .inl rfl | exact .inr ⟨_, rfl⟩) {x : Str} {pos : Pos} (hN : X.N[i]? = some x := by rfl)
    (hv : Vis X.env.scope x := by first | exact Or.inl rfl | exact Or.inr (Or.inl rfl) | exact Or.inr (Or.inr rfl)) (hd : (x == ("__debug__" : Str)) = false := by decide) (hcd : (x == ("__classdict__" : Str)) = false := by decide) : DE T X E Γ (.Name x pos) (fVar i) m Γ := by
  refine ⟨?_⟩
  intro H0 S0 ρ s σ H tg S r s' hF Q hQ
  obtain ⟨d, h1, rfl, rfl⟩ := M.of_some hF
  obtain ⟨h0, v, h2, h3⟩ := S.val i d (join_some h1)
  rw [hm] at h3
  refine WE.of (pe_var hN hv hd hcd) ⟨v, h2, hQ v H tg (Go.refl S) S ?_⟩
  rcases hw with rfl | ⟨b, rfl⟩ <;> exact h3
/-- a name that is looked at -/
theorem de_look (i : Nat) {x : Str} {pos : Pos} (hN : X.N[i]? = some x := by rfl)
    (hv : Vis X.env.scope x := by first | exact Or.inl rfl | exact Or.inr (Or.inl rfl) | exact Or.inr (Or.inr rfl)) (hd : (x == ("__debug__" : Str)) = false := by decide) (hcd : (x == ("__classdict__" : Str)) = false := by decide) : DE T X E Γ (.Name x pos) (fVar i) .any Γ := by
  refine ⟨?_⟩
  intro H0 S0 ρ s σ H tg S r s' hF Q hQ
  obtain ⟨d, h1, rfl, rfl⟩ := M.of_some hF
  obtain ⟨h0, v, h2, h3⟩ := S.val i d (join_some h1)
  refine WE.of (pe_var hN hv hd hcd) ⟨v, h2, hQ v H tg (Go.refl S) S ?_⟩
  have hs : ∀ b a, shS tg b a → anyS T H a := fun b a h => by
    refine ⟨S.tgd a fun z => shS_not z h, ?_, ?_⟩
    · rintro rfl; exact shS_not S.tgs.1 h
    · rintro rfl; exact shS_not S.tgs.2 h
  have hf : ∀ a, exS tg i a → anyS T H a := fun a h => by
    refine ⟨S.tgd a fun z => exS_not z h, ?_, ?_⟩
    · rintro rfl; exact exS_not S.tgs.1 h
    · rintro rfl; exact exS_not S.tgs.2 h
  generalize Γ.getD i .atom = m at h0 h3
  cases m with
  | atom => exact Rep.mono (S := fun _ => False) h3 fun _ h => h.elim
  | sh b => exact Rep.mono (S := shS tg b) h3 (hs b)
  | xc => exact Rep.mono (S := exS tg i) h3 hf
  | any => exact absurd rfl h0
  | ow k =>
    refine RepO.flat h3 hf fun a h => ?_
    cases k with
    | o => exact hs _ a h
    | n => exact hs _ a h
    | e => exact hf a h
theorem DE.const {v : V} (p : PE X e (tC v)) (r : ∀ H, Rep T H (fun _ => False) v d) : DE T X E Γ e (fC d) .atom Γ := by
  refine ⟨?_⟩
  intro H0 S0 ρ s σ H tg S r' s' hF Q hQ
  cases hF
  exact WE.of p (hQ v H tg (Go.refl S) S (r H))
theorem de_int {i j pos} : DE T X E Γ (.Constant (.int i) j pos) (fC (.int i)) .atom Γ := .const pe_int fun _ => .int i
theorem de_bl {i j pos} : DE T X E Γ (.Constant (.bool i) j pos) (fC (.bl i)) .atom Γ := .const pe_bl fun _ => .bl i
theorem de_non {j pos} : DE T X E Γ (.Constant .none j pos) (fC .non) .atom Γ := .const pe_non fun _ => .non
theorem de_str {x j pos} : DE T X E Γ (.Constant (.str x) j pos) (fC (.str x)) .atom Γ := .const pe_str fun _ => .str x
end
end
end DL
end
section
namespace DL
open PySem PySem.Spec L2
section
variable {T : Cfg} {H0 H H' H1 H2 H3 : Hp} {S0 SS : Addr → Prop} {Γ Γ' Γ1 Γ2 : List Md} {ρ ρ' : Env} {s s' s1 s2 : Strm} {σ : St} {tg tg' tg1 tg2 : Tags} {v w : V} {d c : D} {vs : List V} {ds : List D} {m m' : Md}
theorem getD_set_ne {i j : Nat} {x y : Md} (h : j ≠ i) : (Γ.set i x).getD j y = Γ.getD j y := by
  rw [List.getD_eq_getElem?_getD, List.getD_eq_getElem?_getD, List.getElem?_set_ne (Ne.symm h)]
theorem getD_set_self {i : Nat} {x y : Md} (h : i < Γ.length) : (Γ.set i x).getD i y = x := by
  rw [List.getD_eq_getElem?_getD, List.getElem?_set_self h]; rfl
def WO (X : Cx) (g : Value → Value → Sem Value) (x y : V) (H : Hp) (Q : VK) : Prop := ∀ pins s σ v u, Inv X pins σ H s → RelV x v → RelV y u → wpAny (model X.prog X.w) X.A (g v u) (EP X pins σ Q) X.xe s
theorem WO.r {X : Cx} {g : Value → Value → Sem Value} : OpR X g (WO X g) := fun pins s σ H x y v u Q I rx ry h => h pins s σ v u I rx ry
theorem WO.of {X : Cx} {g : Value → Value → Sem Value} {r : R2} {x y : V} {H : Hp} {Q : VK} (p : OpR X g r) (h : r x y H Q) : WO X g x y H Q := fun pins s σ v u I rx ry => p pins s σ H x y v u Q I rx ry h
def WU (X : Cx) (g : Value → Sem Value) (x : V) (H : Hp) (Q : VK) : Prop := ∀ pins s σ v, Inv X pins σ H s → RelV x v → wpAny (model X.prog X.w) X.A (g v) (EP X pins σ Q) X.xe s
theorem WU.r {X : Cx} {g : Value → Sem Value} : UnR X g (WU X g) := fun pins s σ H x v Q I rx h => h pins s σ v I rx
theorem WU.of {X : Cx} {g : Value → Sem Value} {r : V → Hp → VK → Prop} {x : V} {H : Hp} {Q : VK} (p : UnR X g r) (h : r x H Q) : WU X g x H Q := fun pins s σ v I rx => p pins s σ H x v Q I rx h
def WC (X : Cx) (f : Value) (xs : List V) (H : Hp) (Q : VK) : Prop := ∀ pins s σ us, Inv X pins σ H s → Vals xs us → wpAny (model X.prog X.w) X.A (call f us) (EP X pins σ Q) X.xe s
theorem WC.r {X : Cx} {f : Value} : CallR X f (WC X f) := fun pins s σ H xs us Q I r h => h pins s σ us I r
theorem WC.of {X : Cx} {f : Value} {r : List V → Hp → VK → Prop} {xs : List V} {H : Hp} {Q : VK} (p : CallR X f r) (h : r xs H Q) : WC X f xs H Q := fun pins s σ us I rx => p pins s σ H xs us Q I rx h
def WM (X : Cx) (id : String) (x : V) (xs : List V) (H : Hp) (Q : VK) : Prop := ∀ pins s σ v us, Inv X pins σ H s → RelV x v → Vals xs us → wpAny (model X.prog X.w) X.A (call (.builtin id) (v :: us)) (EP X pins σ Q) X.xe s
theorem WM.r {X : Cx} {id : String} : MtR X id (WM X id) := fun pins s σ H x xs v us Q I rx r h => h pins s σ v us I rx r
theorem WM.of {X : Cx} {id : String} {r : V → List V → Hp → VK → Prop} {x : V} {xs : List V} {H : Hp} {Q : VK} (p : MtR X id r) (h : r x xs H Q) : WM X id x xs H Q := fun pins s σ v us I rx rs => p pins s σ H x xs v us Q I rx rs h
/-- what comes of values over SS: nothing with nodes; a new top one with kids of SS; a part of SS -/
inductive Rm | atom | top | part
def RV (T : Cfg) (H H' : Hp) (SS : Addr → Prop) (rm : Rm) (z : V) (c : D) : Prop :=
  match rm with
  | .atom => Rep T H' (fun _ => False) z c
  | .top => RepO T H' (fun a => H a = none ∧ H' a ≠ none) SS z c
  | .part => Rep T H' SS z c
def OpV (T : Cfg) (X : Cx) (g : Value → Value → Sem Value) (f : D → D → Option D) (rm : Rm) : Prop :=
  ∀ H s SS v w d e c, StmAt T H s → (∀ a, SS a → anyS T H a) → Rep T H SS v d → Rep T H SS w e → f d e = some c → ∀ Q : VK, (∀ z H', Ext T H H' → StmAt T H' s → RV T H H' SS rm z c → Q z H') → WO X g v w H Q
def UnV (T : Cfg) (X : Cx) (g : Value → Sem Value) (f : D → Option D) (rm : Rm) : Prop :=
  ∀ H s SS v d c, StmAt T H s → (∀ a, SS a → anyS T H a) → Rep T H SS v d → f d = some c → ∀ Q : VK, (∀ z H', Ext T H H' → StmAt T H' s → RV T H H' SS rm z c → Q z H') → WU X g v H Q
def CallV (T : Cfg) (X : Cx) (g : Value) (f : List D → Option D) (rm : Rm) : Prop :=
  ∀ H s SS vs ds c, StmAt T H s → (∀ a, SS a → anyS T H a) → RepL T H SS vs ds → f ds = some c → ∀ Q : VK, (∀ z H', Ext T H H' → StmAt T H' s → RV T H H' SS rm z c → Q z H') → WC X g vs H Q
def MtV (T : Cfg) (X : Cx) (id : String) (f : D → List D → Option D) (rm : Rm) : Prop :=
  ∀ H s SS v vs d ds c, StmAt T H s → (∀ a, SS a → anyS T H a) → Rep T H SS v d → RepL T H SS vs ds → f d ds = some c → ∀ Q : VK, (∀ z H', Ext T H H' → StmAt T H' s → RV T H H' SS rm z c → Q z H') → WM X id v vs H Q
/-- the nodes of a mode without a top one -/
def setW (T : Cfg) (tg : Tags) (own : Addr → Prop) (H : Hp) : Md → Addr → Prop
  | .any => anyS T H
  | m => wS tg own m
/-- modes without a top one -/
def Md.flat : Md → Bool
  | .ow _ => false
  | _ => true
theorem RepW.flat {own : Addr → Prop} (hm : m.flat = true) : RepW T tg own H m v d ↔ Rep T H (setW T tg own H m) v d := by
  cases m with
  | ow k => cases hm
  | _ => exact Iff.rfl
def kidOf : Md → Kid
  | .sh true => .n
  | .sh false => .o
  | _ => .e
theorem set_any (S : Sta T H0 S0 Γ ρ s σ H tg) (S1 : Sta T H0 S0 Γ1 ρ s1 σ H1 tg1) : ∀ a, setW T tg1 (frS tg1 H H1) H1 m a → anyS T H1 a := by
  intro a h
  have hs : ∀ b, shS tg1 b a → anyS T H1 a := fun b h => by
    refine ⟨S1.tgd a ?_, ?_, ?_⟩
    · intro z; exact shS_not z h
    · rintro rfl; exact shS_not S1.tgs.1 h
    · rintro rfl; exact shS_not S1.tgs.2 h
  have hf : frS tg1 H H1 a → anyS T H1 a := fun h => by
    refine ⟨h.2.1, ?_, ?_⟩
    · rintro rfl; have z := h.1; rw [S.stm.1] at z; cases z
    · rintro rfl; have z := h.1; rw [S.stm.2] at z; cases z
  cases m with
  | any => exact h
  | atom => exact h.elim
  | sh b => exact hs b h
  | xc => exact hf h
  | ow k => exact h.elim
/-- how the result of values held by m is held -/
def rmM (m : Md) : Rm → Md
  | .atom => .atom
  | .top => .ow (kidOf m)
  | .part => m
theorem RV.res {rm : Rm} (S : Sta T H0 S0 Γ ρ s σ H tg) (S2 : Sta T H0 S0 Γ2 ρ s2 σ H2 tg2) (g : Go T H H2 tg tg2) (x3 : Ext T H2 H3) (st3 : StmAt T H3 s2) (hm : m.flat = true) (hr : rm = .top → m ≠ .any)
    (r : RV T H2 H3 (setW T tg2 (frS tg2 H H2) H2 m) rm v c) : RepW T tg2 (frS tg2 H H3) H3 (rmM m rm) v c := by
  have up : ∀ a, H2 a ≠ none → H3 a ≠ none := fun a n => x3.some S2.stm st3 n
  have fr : ∀ a, frS tg2 H H2 a → frS tg2 H H3 a := fun a h => ⟨h.1, up a h.2.1, h.2.2⟩
  cases rm with
  | atom => exact r
  | part =>
    have r' : RepW T tg2 (frS tg2 H H3) H3 m v c := by
      rw [RepW.flat hm]
      refine Rep.mono r fun a h => ?_
      cases m with
      | any => exact ⟨up a h.1, h.2⟩
      | atom => exact h
      | sh b => exact h
      | xc => exact fr a h
      | ow k => cases hm
    exact r'
  | top =>
    have nw : ∀ a, (H2 a = none ∧ H3 a ≠ none) → frS tg2 H H3 a := fun a h => by
      refine ⟨Classical.byContradiction fun n => g.u _ n h.1, h.2, ?_⟩
      exact Classical.byContradiction fun n => S2.tgd a n h.1
    refine RepO.move (own' := frS tg2 H H3) (kid' := kidS tg2 (frS tg2 H H3) (kidOf m)) r (fun _ _ e _ => e) nw fun a h => ?_
    cases m with
    | any => exact absurd rfl (hr rfl)
    | atom => exact h.elim
    | sh b =>
      cases b with
      | true => exact h
      | false => exact h
    | xc => exact fr a h
    | ow k => cases hm
end
end DL
end
section
namespace DL
open PySem PySem.Spec L2
section
variable {T : Cfg} {H0 H H' H1 H2 H3 : Hp} {S0 SS : Addr → Prop} {Γ Γ' Γ1 Γ2 Γ3 : List Md} {ρ ρ' : Env} {s s' s1 s2 : Strm} {σ : St} {tg tg' tg1 tg2 : Tags} {v w : V} {d c : D} {vs : List V} {ds : List D} {m m' : Md} {rm : Rm}
variable {X : Cx} {E : XK} {e a b : Expr} {es : List Expr} {F Fa Fb : EF} {pos p : Pos} {x : Str}
def fOp (f : D → D → Option D) (Fa Fb : EF) : EF := fun ρ => do let x ← Fa ρ; let y ← Fb ρ; M.of (f x y)
theorem two (ha : DE T X E Γ a Fa m Γ1) (hb : DE T X E Γ1 b Fb m Γ2) {f : D → D → Option D} {g : V → V → Hp → VK → Prop}
    (hg : ∀ H s SS v w d e c, StmAt T H s → (∀ a, SS a → anyS T H a) → Rep T H SS v d → Rep T H SS w e → f d e = some c → ∀ Q : VK, (∀ z H', Ext T H H' → StmAt T H' s → RV T H H' SS rm z c → Q z H') → g v w H Q)
    (hm : m.flat = true) (hr : rm = .top → m ≠ .any) (S : Sta T H0 S0 Γ ρ s σ H tg) {r : Except Exn D} (hF : fOp f Fa Fb ρ s = some (r, s')) {Q : VK} (hQ : Cnt T E H0 S0 Γ2 ρ σ (rmM m rm) H tg s' Q r) :
    WE X a σ H fun x H1 => WE X b σ H1 fun y H2 => g x y H2 Q := by
  refine ha.seq S hF hQ.ek fun d s1 v H1 tg1 hk g1 S1 r1 e1 => ?_
  refine hb.seq S1 hk e1 fun e s2 w H2 tg2 hk2 g2 S2 r2 e2 => ?_
  obtain ⟨c, hc, rfl, rfl⟩ := M.of_some hk2
  have r1' := r1.later S S1 S2 g2
  have r2' := r2.early g1
  have gg := g1.trans g2
  exact hg H2 _ _ v w d e c S2.stm (set_any S S2) ((RepW.flat hm).mp r1') ((RepW.flat hm).mp r2') hc Q fun z H3 x3 st3 rv =>
    hQ z H3 tg2 (gg.trans (Go.lay S2 x3 st3)) (S2.ext0 x3 st3) (rv.res S S2 gg x3 st3 hm hr)
theorem de_op {op : Operator} {f : D → D → Option D} (h : OpV T X (binaryOp op) f rm) (ha : DE T X E Γ a Fa m Γ1) (hb : DE T X E Γ1 b Fb m Γ2) (hm : m.flat = true := by rfl) (hr : rm = .top → m ≠ .any := by first | (intro q; cases q; done) | (intro q z; cases z; done)) :
    DE T X E Γ (.BinOp a op b pos) (fOp f Fa Fb) (rmM m rm) Γ2 :=
  .mk fun H0 S0 ρ s σ H tg S r s' hF Q hQ => WE.of (pe_op WO.r WE.pe WE.pe) (two ha hb h hm hr S hF hQ)
theorem de_cmp {op : CmpOp} {f : D → D → Option D} (h : OpV T X (compareOp op) f rm) (ha : DE T X E Γ a Fa m Γ1) (hb : DE T X E Γ1 b Fb m Γ2) (hm : m.flat = true := by rfl) (hr : rm = .top → m ≠ .any := by first | (intro q; cases q; done) | (intro q z; cases z; done)) (hk : behindInMarks op b = false := by first | exact nomark _ | rfl) :
    DE T X E Γ (.Compare a [op] [b] pos) (fOp f Fa Fb) (rmM m rm) Γ2 :=
  .mk fun H0 S0 ρ s σ H tg S r s' hF Q hQ => WE.of (pe_cmpR WO.r WE.pe WE.pe hk) (two ha hb h hm hr S hF hQ)
def fUn (f : D → Option D) (Fa : EF) : EF := fun ρ => do let x ← Fa ρ; M.of (f x)
theorem de_un {op : UnaryOp} {f : D → Option D} (h : UnV T X (unaryOp op) f rm) (ha : DE T X E Γ a Fa m Γ1) (hne : op ≠ .Not := by decide) (hm : m.flat = true := by rfl) (hr : rm = .top → m ≠ .any := by first | (intro q; cases q; done) | (intro q z; cases z; done)) :
    DE T X E Γ (.UnaryOp op a pos) (fUn f Fa) (rmM m rm) Γ1 := by
  refine ⟨?_⟩
  intro H0 S0 ρ s σ H tg S r s' hF Q hQ
  refine WE.of (pe_un WU.r WE.pe) ?_
  refine ha.seq S hF hQ.ek fun d s1 v H1 tg1 hk g1 S1 r1 e1 => ?_
  obtain ⟨c, hc, rfl, rfl⟩ := M.of_some hk
  exact h H1 _ _ v d c S1.stm (set_any S S1) ((RepW.flat hm).mp r1) hc Q fun z H3 x3 st3 rv =>
    hQ z H3 tg1 (g1.trans (Go.lay S1 x3 st3)) (S1.ext0 x3 st3) (rv.res S S1 g1 x3 st3 hm hr)
abbrev AF := Env → M (List D)
def CntL (T : Cfg) (E : XK) (H0 : Hp) (S0 : Addr → Prop) (Γ' : List Md) (ρ : Env) (σ : St) (m : Md) (H : Hp) (tg : Tags) (s' : Strm) (Q : List V → Hp → Prop) : Except Exn (List D) → Prop
  | .ok ds => ∀ vs H' tg', Go T H H' tg tg' → Sta T H0 S0 Γ' ρ s' σ H' tg' → RepL T H' (setW T tg' (frS tg' H H') H' m) vs ds → Q vs H'
  | .error x => ∀ c dx H', Thr T H x s' c dx H' → E c (some dx) H'
structure DA (T : Cfg) (X : Cx) (E : XK) (Γ : List Md) (es : List Expr) (F : AF) (m : Md) (Γ' : List Md) : Prop where
  mk ::
  run : ∀ H0 S0 ρ s σ H tg, Sta T H0 S0 Γ ρ s σ H tg → ∀ r s', F ρ s = some (r, s') → ∀ Q : List V → Hp → Prop, CntL T E H0 S0 Γ' ρ σ m H tg s' Q r → WA X es σ H Q
instance {T : Cfg} {X : Cx} {E : XK} {Γ : List Md} {es : List Expr} {F : AF} {m : Md} {Γ' : List Md} : CoeFun (DA T X E Γ es F m Γ') (fun _ => ∀ H0 S0 ρ s σ H tg, Sta T H0 S0 Γ ρ s σ H tg → ∀ r s', F ρ s = some (r, s') → ∀ Q : List V → Hp → Prop, CntL T E H0 S0 Γ' ρ σ m H tg s' Q r → WA X es σ H Q) := ⟨DA.run⟩
theorem CntL.ek {r : Except Exn (List D)} {Q : List V → Hp → Prop} (h : CntL T E H0 S0 Γ' ρ σ m H tg s' Q r) : ErrK T E H s' r := fun x e => by subst e; exact h
theorem DA.seq {β : Type} {Fs : AF} {k : List D → M β} {r : Except Exn β} {Q : List V → Hp → Prop} (ha : DA T X E Γ es Fs m Γ1) (S : Sta T H0 S0 Γ ρ s σ H tg) (hF : (Fs ρ >>= k) s = some (r, s')) (hE : ErrK T E H s' r)
    (h : ∀ ds s1 vs H1 tg1, k ds s1 = some (r, s') → Go T H H1 tg tg1 → Sta T H0 S0 Γ1 ρ s1 σ H1 tg1 → RepL T H1 (setW T tg1 (frS tg1 H H1) H1 m) vs ds → ErrK T E H1 s' r → Q vs H1) : WA X es σ H Q := by
  rcases M.bind_some hF with ⟨e, h1, rfl⟩ | ⟨d, s1, h1, h2⟩
  · exact ha _ _ _ _ _ _ _ S _ _ h1 Q (hE e rfl)
  · exact ha _ _ _ _ _ _ _ S _ _ h1 Q fun v H1 tg1 g S1 r1 => h d s1 v H1 tg1 h2 g S1 r1 (hE.later g)
def aNil : AF := fun _ => pure []
def aCons (Fa : EF) (Fs : AF) : AF := fun ρ => do let x ← Fa ρ; let xs ← Fs ρ; pure (x :: xs)
theorem da_nil : DA T X E Γ [] aNil m Γ := by
  refine ⟨?_⟩
  intro H0 S0 ρ s σ H tg S r s' hF Q hQ
  cases hF
  exact WA.of pa_nil (hQ [] H tg (Go.refl S) S .nil)
theorem da_cons {Fs : AF} (ha : DE T X E Γ e Fa m Γ1) (hs : DA T X E Γ1 es Fs m Γ2) (hm : m.flat = true := by rfl) (hst : starEach (e :: es) X.env = (false, eval e X.env) :: starEach es X.env := by rfl) : DA T X E Γ (e :: es) (aCons Fa Fs) m Γ2 := by
  refine ⟨?_⟩
  intro H0 S0 ρ s σ H tg S r s' hF Q hQ
  refine WA.of (pa_cons WE.pe WA.pa hst) ?_
  refine ha.seq S hF hQ.ek fun d s1 v H1 tg1 hk g1 S1 r1 e1 => ?_
  refine hs.seq S1 hk e1 fun ds s2 vs H2 tg2 hk2 g2 S2 r2 e2 => ?_
  cases hk2
  have r1' := (RepW.flat hm).mp (r1.later S S1 S2 g2)
  refine hQ (v :: vs) H2 tg2 (g1.trans g2) S2 (.cons r1' (r2.mono fun a h => ?_))
  cases m with
  | any => exact h
  | atom => exact h
  | sh b => exact h
  | xc => exact ⟨Classical.byContradiction fun n => g1.u _ n h.1, h.2⟩
  | ow k => cases hm
def fLst (Fs : AF) : EF := fun ρ => do let xs ← Fs ρ; M.of (if xs.length ≤ sizeLine then some (.lst xs) else none)
def fTup (Fs : AF) : EF := fun ρ => do let xs ← Fs ρ; M.of (if xs.length ≤ sizeLine then some (.tup xs) else none)
theorem if_some {α : Type} {P : Prop} [Decidable P] {x y : α} (h : (if P then some x else none) = some y) : P ∧ x = y := by
  by_cases p : P
  · rw [if_pos p] at h; exact ⟨p, Option.some.inj h⟩
  · rw [if_neg p] at h; cases h
theorem Sta.fresh (S : Sta T H0 S0 Γ ρ s σ H tg) {a : Addr} (h : H a = none) : tg a = .no := Classical.byContradiction fun n => S.tgd a n h
theorem de_lst {Fs : AF} (ha : DA T X E Γ es Fs m Γ1) (hm : m.flat = true := by rfl) (hr : m ≠ .any := by exact fun q => by cases q) : DE T X E Γ (.List es pos) (fLst Fs) (.ow (kidOf m)) Γ1 := by
  refine ⟨?_⟩
  intro H0 S0 ρ s σ H tg S r s' hF Q hQ
  refine WE.of (pe_lst WA.pa) ?_
  refine ha.seq S hF hQ.ek fun ds s1 vs H1 tg1 hk g1 S1 r1 e1 => ?_
  obtain ⟨c, hc, rfl, rfl⟩ := M.of_some hk
  obtain ⟨hl, rfl⟩ := if_some hc
  refine ⟨by rw [r1.len]; exact hl, fun q hq => ?_⟩
  have x3 : Ext T H1 (upd H1 q (.lst vs)) := Ext.new hq
  have ne1 : T.st ≠ q := fun z => by rw [← z, S1.stm.1] at hq; cases hq
  have ne2 : T.sl ≠ q := fun z => by rw [← z, S1.stm.2] at hq; cases hq
  have st3 : StmAt T (upd H1 q (.lst vs)) _ := ⟨by rw [upd_ne ne1]; exact S1.stm.1, by rw [upd_ne ne2]; exact S1.stm.2⟩
  refine hQ (.ref q) _ tg1 (g1.trans (Go.lay S1 x3 st3)) (S1.ext0 x3 st3) ?_
  have rv : RV T H1 (upd H1 q (.lst vs)) (setW T tg1 (frS tg1 H H1) H1 m) .top (.ref q) (.lst ds) := by
    have kp : Keep (setW T tg1 (frS tg1 H H1) H1 m) H1 (upd H1 q (.lst vs)) := Keep.ofExt x3 S1.stm (fun h => (set_any S S1 _ h).2.1 rfl) (fun h => (set_any S S1 _ h).2.2 rfl)
    refine ⟨q, vs, rfl, ⟨hq, by rw [upd_same]; simp⟩, upd_same, (r1.keep kp).mono fun a h => ⟨h, ?_⟩⟩
    rintro rfl
    exact (set_any S S1 _ h).1 hq
  exact rv.res S S1 g1 x3 st3 hm (fun _ => hr)
/-- how a tuple of things held by m is held -/
theorem de_tup {Fs : AF} {x1} (ha : DA T X E Γ es Fs m Γ1) (hm : m.flat = true := by rfl) : DE T X E Γ (.Tuple es x1 pos) (fTup Fs) m Γ1 := by
  refine ⟨?_⟩
  intro H0 S0 ρ s σ H tg S r s' hF Q hQ
  refine WE.of (pe_tup WA.pa) ?_
  refine ha.seq S hF hQ.ek fun ds s1 vs H1 tg1 hk g1 S1 r1 e1 => ?_
  obtain ⟨c, hc, rfl, rfl⟩ := M.of_some hk
  obtain ⟨hl, rfl⟩ := if_some hc
  refine ⟨by rw [r1.len]; exact hl, fun q hq => ?_⟩
  have x3 : Ext T H1 (upd H1 q (.tup vs)) := Ext.new hq
  have ne1 : T.st ≠ q := fun z => by rw [← z, S1.stm.1] at hq; cases hq
  have ne2 : T.sl ≠ q := fun z => by rw [← z, S1.stm.2] at hq; cases hq
  have st3 : StmAt T (upd H1 q (.tup vs)) _ := ⟨by rw [upd_ne ne1]; exact S1.stm.1, by rw [upd_ne ne2]; exact S1.stm.2⟩
  refine hQ (.ref q) _ tg1 (g1.trans (Go.lay S1 x3 st3)) (S1.ext0 x3 st3) ?_
  have rv : RV T H1 (upd H1 q (.tup vs)) (setW T tg1 (frS tg1 H H1) H1 m) .part (.ref q) (.tup ds) := by
    have kp : Keep (setW T tg1 (frS tg1 H H1) H1 m) H1 (upd H1 q (.tup vs)) := Keep.ofExt x3 S1.stm (fun h => (set_any S S1 _ h).2.1 rfl) (fun h => (set_any S S1 _ h).2.2 rfl)
    exact .tup upd_same (r1.keep kp)
  exact rv.res S S1 g1 x3 st3 hm (fun q => by cases q)
def fCall (f : List D → Option D) (Fs : AF) : EF := fun ρ => do let xs ← Fs ρ; M.of (f xs)
theorem de_callB {id : String} {f : List D → Option D} {Fs : AF} (h : CallV T X (.builtin id) f rm) (hm0 : X.mg x = none) (ha : DA T X E Γ (e :: es) Fs m Γ1) (hg : Gl X x := by rfl) (hv : bootBuiltins x = some (.builtin id) := by decide +kernel) (hm : m.flat = true := by rfl)
    (hr : rm = .top → m ≠ .any := by first | (intro q; cases q; done) | (intro q z; cases z; done)) (hn : x ≠ "__name__" := by decide) (hdb : (x == ("__debug__" : Str)) = false := by decide)
    (he : starEach (e :: es) X.env = (false, eval e X.env) :: starEach es X.env := by rfl) (hpl : (backTo pos (starEach es X.env)).any (·.1) = false := by rfl) : DE T X E Γ (.Call (.Name x p) (e :: es) [] pos) (fCall f Fs) (rmM m rm) Γ1 := by
  refine ⟨?_⟩
  intro H0 S0 ρ s σ H tg S r s' hF Q hQ
  refine WE.of (pe_callB WC.r hg hm0 hv WA.pa hn hdb he hpl) ?_
  refine ha.seq S hF hQ.ek fun ds s1 vs H1 tg1 hk g1 S1 r1 e1 => ?_
  obtain ⟨c, hc, rfl, rfl⟩ := M.of_some hk
  exact h H1 _ _ vs ds c S1.stm (set_any S S1) r1 hc Q fun z H3 x3 st3 rv => hQ z H3 tg1 (g1.trans (Go.lay S1 x3 st3)) (S1.ext0 x3 st3) (rv.res S S1 g1 x3 st3 hm hr)
theorem de_callTy {id : String} {f : List D → Option D} {Fs : AF} (h : CallV T X (.type id) f rm) (hm0 : X.mg x = none) (ha : DA T X E Γ (e :: es) Fs m Γ1) (hg : Gl X x := by rfl) (hv : bootBuiltins x = some (.type id) := by decide +kernel) (hm : m.flat = true := by rfl)
    (hr : rm = .top → m ≠ .any := by first | (intro q; cases q; done) | (intro q z; cases z; done)) (hn : x ≠ "__name__" := by decide) (hdb : (x == ("__debug__" : Str)) = false := by decide)
    (he : starEach (e :: es) X.env = (false, eval e X.env) :: starEach es X.env := by rfl) (hpl : (backTo pos (starEach es X.env)).any (·.1) = false := by rfl) : DE T X E Γ (.Call (.Name x p) (e :: es) [] pos) (fCall f Fs) (rmM m rm) Γ1 := by
  refine ⟨?_⟩
  intro H0 S0 ρ s σ H tg S r s' hF Q hQ
  refine WE.of (pe_callTy WC.r hg hm0 hv WA.pa hn hdb he hpl) ?_
  refine ha.seq S hF hQ.ek fun ds s1 vs H1 tg1 hk g1 S1 r1 e1 => ?_
  obtain ⟨c, hc, rfl, rfl⟩ := M.of_some hk
  exact h H1 _ _ vs ds c S1.stm (set_any S S1) r1 hc Q fun z H3 x3 st3 rv => hQ z H3 tg1 (g1.trans (Go.lay S1 x3 st3)) (S1.ext0 x3 st3) (rv.res S S1 g1 x3 st3 hm hr)
end
end DL
end
section
namespace DL
open PySem L2
mutual
/-- no list or dict within -/
def frozen : D → Bool
  | .lst _ => false
  | .dic _ _ => false
  | .wl => false
  | .tup xs => frozenL xs
  | .obj _ fs => frozenF fs
  | _ => true
def frozenL : List D → Bool
  | [] => true
  | d :: ds => frozen d && frozenL ds
def frozenF : List (Str × D) → Bool
  | [] => true
  | (_, d) :: fs => frozen d && frozenF fs
end
theorem frozenL_all (ds : List D) : frozenL ds = ds.all frozen := by
  induction ds with
  | nil => rfl
  | cons d ds ih => simp [frozenL, ih]
theorem frozenF_all (fs : List (Str × D)) : frozenF fs = fs.all fun p => frozen p.2 := by
  induction fs with
  | nil => rfl
  | cons p ds ih => obtain ⟨x, d⟩ := p; simp [frozenF, ih]
def kOf : D → Option Key
  | .int i => some (.inl i)
  | .str x => some (.inr x)
  | _ => none
def ksOf : D → Option (List Key)
  | .tup xs => xs.mapM kOf
  | _ => none
theorem kOf_kD (k : Key) : kOf (kD k) = some k := by cases k <;> rfl
theorem kD_kOf {d : D} {k : Key} (h : kOf d = some k) : d = kD k := by
  cases d <;> simp [kOf] at h <;> subst h <;> rfl
theorem mapM_kOf : ∀ (ks : List Key), (ks.map kD).mapM kOf = some ks
  | [] => rfl
  | k :: ks => by simp [kOf_kD, mapM_kOf ks]
theorem ksOf_ksD (ks : List Key) : ksOf (ksD ks) = some ks := mapM_kOf ks
theorem mapM_kD : ∀ {ds : List D} {ks : List Key}, ds.mapM kOf = some ks → ds = ks.map kD
  | [], ks, h => by simp at h; subst h; rfl
  | d :: ds, ks, h => by
    rw [List.mapM_cons] at h
    cases e : kOf d with
    | none => rw [e] at h; cases h
    | some k =>
      rw [e] at h
      cases e2 : ds.mapM kOf with
      | none => rw [e2] at h; cases h
      | some ks' =>
        rw [e2] at h
        cases h
        rw [kD_kOf e, mapM_kD e2]; rfl
theorem ksD_ksOf {d : D} {ks : List Key} (h : ksOf d = some ks) : d = ksD ks := by
  cases d <;> simp [ksOf] at h
  rw [mapM_kD h]; rfl
/-- the entry of a key -/
def lookD (kvs : List (D × D)) (is : D → Bool) : Option D := (kvs.find? fun p => is p.1).map (·.2)
/-- d[k], none for what is no such key: (there, the value) -/
def getD? : D → D → Option (Option D)
  | .dic false kvs, k => (kOf k).map fun k => lookD kvs fun d => decide (kOf d = some k)
  | .dic true kvs, k => (ksOf k).map fun k => lookD kvs fun d => decide (ksOf d = some k)
  | _, _ => none
def sgnD (c : Nat) : D := .str ⟨#[c]⟩
/-- x[i] -/
def ixD : D → D → Option D
  | .lst xs, .int i => atI xs i
  | .tup xs, .int i => atI xs i
  | .str x, .int i => if x.length ≤ sizeLine then (atI x.cps.toList i).map sgnD else none
  | .dic t kvs, k => (getD? (.dic t kvs) k).join
  | _, _ => none
/-- what has nothing within alone -/
def fz (o : Option D) : Option D := o.bind fun d => if frozen d then some d else none
end DL
end
section
namespace DL
open PySem PySem.Spec L2
section
variable {T : Cfg} {H0 H H' H1 H2 H3 : Hp} {S0 SS : Addr → Prop} {Γ Γ' Γ1 Γ2 Γ3 : List Md} {ρ ρ' : Env} {s s' s1 s2 : Strm} {σ : St} {tg tg' tg1 tg2 : Tags} {v w : V} {d c : D} {vs : List V} {ds : List D} {m m' : Md} {rm : Rm}
variable {X : Cx} {E : XK} {e a b : Expr} {es : List Expr} {F Fa Fb : EF} {pos p : Pos} {x : Str}
theorem Rep.frozen (r : Rep T H SS v d) (h : frozen d = true) : Rep T H (fun _ => False) v d := by
  have hh := Rep.rec (T := T) (H := H) (S := SS) (motive_1 := fun v d _ => DL.frozen d = true → Rep T H (fun _ => False) v d) (motive_2 := fun vs ds _ => frozenL ds = true → RepL T H (fun _ => False) vs ds)
    (fun _ => .non) (fun b _ => .bl b) (fun i _ => .int i) (fun x _ => .str x) (fun _ _ _ _ h => by cases h) (fun e _ ih h => .tup e (ih h)) (fun _ _ _ _ _ h => by cases h) (fun _ _ _ _ _ h => by cases h)
    (fun e m _ ih h => .obj e m (ih (by rw [frozenL_all]; rw [DL.frozen, frozenF_all] at h; rw [List.all_map]; exact h))) (fun _ => .stm) (fun v _ => .opq v) (fun _ _ h => by cases h) (fun _ => .nil)
    (fun _ _ i1 i2 h => by rw [frozenL, Bool.and_eq_true] at h; exact .cons (i1 h.1) (i2 h.2)) r
  exact hh h
theorem fz_some {o : Option D} (h : fz o = some c) : o = some c ∧ frozen c = true := by
  unfold fz at h
  cases o with
  | none => cases h
  | some d =>
    simp at h
    exact ⟨by rw [h.2], by rw [← h.2]; exact h.1⟩
abbrev TF := Env → M Bool
def CntB (T : Cfg) (E : XK) (H0 : Hp) (S0 : Addr → Prop) (Γ' : List Md) (ρ : Env) (σ : St) (H : Hp) (tg : Tags) (s' : Strm) (Q : Bool → Hp → Prop) : Except Exn Bool → Prop
  | .ok b => ∀ H' tg', Go T H H' tg tg' → Sta T H0 S0 Γ' ρ s' σ H' tg' → Q b H'
  | .error x => ∀ c dx H', Thr T H x s' c dx H' → E c (some dx) H'
theorem CntB.ek {r : Except Exn Bool} {Q : Bool → Hp → Prop} (h : CntB T E H0 S0 Γ' ρ σ H tg s' Q r) : ErrK T E H s' r := fun x e => by subst e; exact h
structure DT (T : Cfg) (X : Cx) (E : XK) (Γ : List Md) (e : Expr) (F : TF) (Γ' : List Md) : Prop where
  mk ::
  run : ∀ H0 S0 ρ s σ H tg, Sta T H0 S0 Γ ρ s σ H tg → ∀ r s', F ρ s = some (r, s') → ∀ Q : Bool → Hp → Prop, CntB T E H0 S0 Γ' ρ σ H tg s' Q r → WT X e σ H Q
instance {T : Cfg} {X : Cx} {E : XK} {Γ : List Md} {e : Expr} {F : TF} {Γ' : List Md} : CoeFun (DT T X E Γ e F Γ') (fun _ => ∀ H0 S0 ρ s σ H tg, Sta T H0 S0 Γ ρ s σ H tg → ∀ r s', F ρ s = some (r, s') → ∀ Q : Bool → Hp → Prop, CntB T E H0 S0 Γ' ρ σ H tg s' Q r → WT X e σ H Q) := ⟨DT.run⟩
def WW (X : Cx) (e : Expr) (σ : St) (H : Hp) (Q : Bool → Hp → Prop) : Prop := ∀ whole pins s, Inv X pins σ H s → wpAny (model X.prog X.w) X.A (isTrue e X.env whole) (TP X pins σ Q) X.xe s
theorem WW.pw : PW X e (WW X e) := ⟨fun wh pins s _ _ _ I h => h wh pins s I⟩
theorem WW.of {t : TT} {Q : Bool → Hp → Prop} (p : PW X e t) (h : t σ H Q) : WW X e σ H Q := fun wh pins s I => p.run wh pins s σ H Q I h
/-- .. whatever its 'whole' is (and, or) -/
structure DW (T : Cfg) (X : Cx) (E : XK) (Γ : List Md) (e : Expr) (F : TF) (Γ' : List Md) : Prop where
  mk ::
  run : ∀ H0 S0 ρ s σ H tg, Sta T H0 S0 Γ ρ s σ H tg → ∀ r s', F ρ s = some (r, s') → ∀ Q : Bool → Hp → Prop, CntB T E H0 S0 Γ' ρ σ H tg s' Q r → WW X e σ H Q
instance {T : Cfg} {X : Cx} {E : XK} {Γ : List Md} {e : Expr} {F : TF} {Γ' : List Md} : CoeFun (DW T X E Γ e F Γ') (fun _ => ∀ H0 S0 ρ s σ H tg, Sta T H0 S0 Γ ρ s σ H tg → ∀ r s', F ρ s = some (r, s') → ∀ Q : Bool → Hp → Prop, CntB T E H0 S0 Γ' ρ σ H tg s' Q r → WW X e σ H Q) := ⟨DW.run⟩
theorem DW.dt {F : TF} (h : DW T X E Γ e F Γ') : DT T X E Γ e F Γ' := .mk fun H0 S0 ρ s σ H tg S r s' hF Q hQ pins s1 I => h _ _ _ _ _ _ _ S _ _ hF Q hQ _ pins s1 I
theorem DT.seq {β : Type} {Fa : TF} {k : Bool → M β} {r : Except Exn β} {Q : Bool → Hp → Prop} (ha : DT T X E Γ a Fa Γ1) (S : Sta T H0 S0 Γ ρ s σ H tg) (hF : (Fa ρ >>= k) s = some (r, s')) (hE : ErrK T E H s' r)
    (h : ∀ b s1 H1 tg1, k b s1 = some (r, s') → Go T H H1 tg tg1 → Sta T H0 S0 Γ1 ρ s1 σ H1 tg1 → ErrK T E H1 s' r → Q b H1) : WT X a σ H Q := by
  rcases M.bind_some hF with ⟨e, h1, rfl⟩ | ⟨d, s1, h1, h2⟩
  · exact ha _ _ _ _ _ _ _ S _ _ h1 Q (hE e rfl)
  · exact ha _ _ _ _ _ _ _ S _ _ h1 Q fun H1 tg1 g S1 => h d s1 H1 tg1 h2 g S1 (hE.later g)
theorem CntB.later {r : Except Exn Bool} {Q : Bool → Hp → Prop} (h : CntB T E H0 S0 Γ' ρ σ H tg s' Q r) (g : Go T H H1 tg tg1) : CntB T E H0 S0 Γ' ρ σ H1 tg1 s' Q r := by
  cases r with
  | ok b => exact fun H' tg' g' S' => h H' tg' (g.trans g') S'
  | error x => exact fun c dx H' ⟨h1, h2, h3⟩ => h c dx H' ⟨h1, g.x.trans h2, h3⟩
/-- a tree that is a truth value -/
def blM : D → M Bool
  | .bl b => pure b
  | _ => M.fail
def qVal (Fa : EF) : TF := fun ρ => do let x ← Fa ρ; blM x
theorem blM_some {r : Except Exn Bool} (h : blM d s = some (r, s')) : ∃ b, d = .bl b ∧ r = .ok b ∧ s' = s := by
  cases d <;> first | (cases h; exact ⟨_, rfl, rfl, rfl⟩) | cases h
theorem rep_bl {bb : Bool} (r : RepW T tg SS H m v (.bl bb)) : v = .bl bb := by
  have g : ∀ S', Rep T H S' v (.bl bb) → v = .bl bb := fun S' h => by cases h; rfl
  cases m <;> exact g _ r
theorem dt_val (ha : DE T X E Γ a Fa m Γ1) (he : ∀ whole, isTrue a X.env whole = (do let v ← whole; standAt a.pos; holding [v] (truthy v)) := by intro _; rfl) : DT T X E Γ a (qVal Fa) Γ1 := by
  refine ⟨?_⟩
  intro H0 S0 ρ s σ H tg S r s' hF Q hQ
  refine WT.of (pt_val WE.pe he) ?_
  refine ha.seq S hF hQ.ek fun d s1 v H1 tg1 hk g1 S1 r1 e1 => ?_
  obtain ⟨b, rfl, rfl, rfl⟩ := blM_some hk
  exact ⟨b, rep_bl r1, hQ H1 tg1 g1 S1⟩
theorem dt_cmp {op : CmpOp} {f : D → D → Option D} (h : OpV T X (compareOp op) f .atom) (ha : DE T X E Γ a Fa m Γ1) (hb : DE T X E Γ1 b Fb m Γ2) (hm : m.flat = true := by rfl) (hk : behindInMarks op b = false := by first | exact nomark _ | rfl) :
    DT T X E Γ (.Compare a [op] [b] pos) (qVal (fOp f Fa Fb)) Γ2 := by
  refine ⟨?_⟩
  intro H0 S0 ρ s σ H tg S r s' hF Q hQ
  refine WT.of (pt_cmpR WO.r WE.pe WE.pe hk) ?_
  rcases M.bind_some hF with ⟨x, h1, rfl⟩ | ⟨d, s1, h1, h2⟩
  · exact two (rm := .atom) ha hb h hm (fun q => by cases q) S h1 (hQ.ek x rfl)
  · obtain ⟨bb, rfl, rfl, rfl⟩ := blM_some h2
    exact two (rm := .atom) ha hb h hm (fun q => by cases q) S h1 fun v H1 tg1 g1 S1 r1 => ⟨bb, rep_bl r1, hQ H1 tg1 g1 S1⟩
def qAnd (Fa Fb : TF) : TF := fun ρ => do if ← Fa ρ then Fb ρ else pure false
def qOr (Fa Fb : TF) : TF := fun ρ => do if ← Fa ρ then pure true else Fb ρ
def qNot (Fa : TF) : TF := fun ρ => do let b ← Fa ρ; pure !b
theorem dw_and1 {Fa : TF} (ha : DT T X E Γ a Fa Γ1) : DW T X E Γ (.BoolOp .And [a] pos) Fa Γ1 := .mk fun H0 S0 ρ s σ H tg S r s' hF Q hQ => WW.of (pw_and1 WT.pt) (ha _ _ _ _ _ _ _ S _ _ hF Q hQ)
theorem dw_or1 {Fa : TF} (ha : DT T X E Γ a Fa Γ1) : DW T X E Γ (.BoolOp .Or [a] pos) Fa Γ1 := .mk fun H0 S0 ρ s σ H tg S r s' hF Q hQ => WW.of (pw_or1 WT.pt) (ha _ _ _ _ _ _ _ S _ _ hF Q hQ)
theorem dw_and {Fa Fb : TF} (ha : DT T X E Γ a Fa Γ1) (hb : DW T X E Γ1 (.BoolOp .And (b :: es) pos) Fb Γ1) : DW T X E Γ (.BoolOp .And (a :: b :: es) pos) (qAnd Fa Fb) Γ1 := by
  refine ⟨?_⟩
  intro H0 S0 ρ s σ H tg S r s' hF Q hQ
  refine WW.of (pw_and WT.pt WW.pw) ?_
  refine ha.seq S hF hQ.ek fun c s1 H1 tg1 hk g1 S1 e1 => ?_
  cases c with
  | true => exact iteT (hb _ _ _ _ _ _ _ S1 _ _ hk Q (hQ.later g1))
  | false => cases hk; exact iteF (hQ H1 tg1 g1 S1)
theorem dw_or {Fa Fb : TF} (ha : DT T X E Γ a Fa Γ1) (hb : DW T X E Γ1 (.BoolOp .Or (b :: es) pos) Fb Γ1) : DW T X E Γ (.BoolOp .Or (a :: b :: es) pos) (qOr Fa Fb) Γ1 := by
  refine ⟨?_⟩
  intro H0 S0 ρ s σ H tg S r s' hF Q hQ
  refine WW.of (pw_or WT.pt WW.pw) ?_
  refine ha.seq S hF hQ.ek fun c s1 H1 tg1 hk g1 S1 e1 => ?_
  cases c with
  | true => cases hk; exact iteT (hQ H1 tg1 g1 S1)
  | false => exact iteF (hb _ _ _ _ _ _ _ S1 _ _ hk Q (hQ.later g1))
theorem dt_not {Fa : TF} (ha : DT T X E Γ a Fa Γ1) : DT T X E Γ (.UnaryOp .Not a pos) (qNot Fa) Γ1 := by
  refine ⟨?_⟩
  intro H0 S0 ρ s σ H tg S r s' hF Q hQ
  refine WT.of (pt_not WT.pt) ?_
  refine ha.seq S hF hQ.ek fun c s1 H1 tg1 hk g1 S1 e1 => ?_
  cases hk
  exact hQ H1 tg1 g1 S1
/-- a < b < c, as a test -/
def qChain (f f' : D → D → Option D) (Fa Fb Fc : EF) : TF := fun ρ => do
  let x ← Fa ρ
  let y ← Fb ρ
  let k ← M.of (f x y)
  if ← blM k then do let z ← Fc ρ; let k' ← M.of (f' y z); blM k' else pure false
def fAnd (Fa Fb : EF) : EF := fun ρ => do let x ← Fa ρ; if ← blM x then Fb ρ else pure (.bl false)
def fOr (Fa Fb : EF) : EF := fun ρ => do let x ← Fa ρ; if ← blM x then pure (.bl true) else Fb ρ
def fNot (Fa : EF) : EF := fun ρ => do let x ← Fa ρ; let b ← blM x; pure (.bl !b)
theorem de_one {op} (ha : DE T X E Γ a Fa m Γ1) : DE T X E Γ (.BoolOp op [a] pos) Fa m Γ1 := .mk fun H0 S0 ρ s σ H tg S r s' hF Q hQ => WE.of (pe_one WE.pe) (ha _ _ _ _ _ _ _ S _ _ hF Q hQ)
theorem Cnt.go {r : Except Exn D} {Q : VK} (h : Cnt T E H0 S0 Γ' ρ σ m H tg s' Q r) (g : Go T H H1 tg tg1) : Cnt T E H0 S0 Γ' ρ σ m H1 tg1 s' Q r := by
  cases r with
  | ok d => exact fun v H' tg' g' S' r' => h v H' tg' (g.trans g') S' (r'.early g)
  | error x => exact fun c dx H' ⟨h1, h2, h3⟩ => h c dx H' ⟨h1, g.x.trans h2, h3⟩
theorem bl_step {k : Bool → M D} {r : Except Exn D} (h : (blM d >>= k) s = some (r, s')) : ∃ b, d = .bl b ∧ k b s = some (r, s') := by
  rcases M.bind_some h with ⟨x, h1, rfl⟩ | ⟨bb, s4, h1, h2⟩
  · obtain ⟨_, _, q, _⟩ := blM_some h1; cases q
  · obtain ⟨b, e, q, rfl⟩ := blM_some h1; cases q; exact ⟨_, e, h2⟩
theorem de_and (ha : DE T X E Γ a Fa m' Γ1) (hb : DE T X E Γ1 (.BoolOp .And (b :: es) pos) Fb .atom Γ1) : DE T X E Γ (.BoolOp .And (a :: b :: es) pos) (fAnd Fa Fb) .atom Γ1 := by
  refine ⟨?_⟩
  intro H0 S0 ρ s σ H tg S r s' hF Q hQ
  refine WE.of (pe_and WE.pe WE.pe) ?_
  refine ha.seq S hF hQ.ek fun d s1 v H1 tg1 hk g1 S1 r1 e1 => ?_
  obtain ⟨bb, rfl, h2⟩ := bl_step hk
  refine ⟨bb, rep_bl r1, ?_⟩
  cases bb with
  | true => exact iteT (hb _ _ _ _ _ _ _ S1 _ _ h2 Q (hQ.go g1))
  | false => cases h2; exact iteF (hQ _ H1 tg1 g1 S1 (.bl false))
theorem de_not (ha : DE T X E Γ a Fa m' Γ1) : DE T X E Γ (.UnaryOp .Not a pos) (fNot Fa) .atom Γ1 := by
  refine ⟨?_⟩
  intro H0 S0 ρ s σ H tg S r s' hF Q hQ
  refine WE.of (pe_not WE.pe) ?_
  refine ha.seq S hF hQ.ek fun d s1 v H1 tg1 hk g1 S1 r1 e1 => ?_
  obtain ⟨bb, rfl, h2⟩ := bl_step hk
  cases h2
  exact ⟨bb, rep_bl r1, hQ _ H1 tg1 g1 S1 (.bl _)⟩
def fIf (Ft : TF) (Fa Fb : EF) : EF := fun ρ => do if ← Ft ρ then Fa ρ else Fb ρ
theorem de_if {cc : Expr} {Ft : TF} (ht : DT T X E Γ cc Ft Γ1) (ha : DE T X E Γ1 a Fa m Γ2) (hb : DE T X E Γ1 b Fb m Γ2) : DE T X E Γ (.IfExp cc a b pos) (fIf Ft Fa Fb) m Γ2 := by
  refine ⟨?_⟩
  intro H0 S0 ρ s σ H tg S r s' hF Q hQ
  refine WE.of (pe_ifExp WT.pt WE.pe WE.pe) ?_
  refine ht.seq S hF hQ.ek fun c s1 H1 tg1 hk g1 S1 e1 => ?_
  cases c with
  | true => exact iteT (ha _ _ _ _ _ _ _ S1 _ _ hk Q (hQ.go g1))
  | false => exact iteF (hb _ _ _ _ _ _ _ S1 _ _ hk Q (hQ.go g1))
end
end DL
end
section
namespace DL
open PySem PySem.Spec L2
section
variable {T : Cfg} {H0 H H' H1 H2 H3 : Hp} {S0 SS : Addr → Prop} {Γ Γ' Γ1 Γ2 Γ3 Γb : List Md} {ρ ρ' : Env} {s s' s1 s2 : Strm} {σ σ' : St} {tg tg' tg1 tg2 : Tags} {v w : V} {d c : D} {vs : List V} {ds : List D} {m m' mr : Md} {rm : Rm}
variable {X : Cx} {E : XK} {e a b : Expr} {es : List Expr} {F Fa Fb : EF} {pos p : Pos} {x : Str} {st : Stmt} {sts : List Stmt}
/-- new since the entry -/
def nwS (H0 H' : Hp) : Addr → Prop := fun a => H0 a = none ∧ H' a ≠ none
/-- a def's result, by its mode: atom; ow e, xc (all new); sh false (parts of what was passed, too) -/
def RetR (T : Cfg) (H0 H' : Hp) (S0 : Addr → Prop) (m : Md) (v : V) (d : D) : Prop :=
  match m with
  | .atom => Rep T H' (fun _ => False) v d
  | .ow .e => RepO T H' (nwS H0 H') (nwS H0 H') v d
  | .xc => Rep T H' (nwS H0 H') v d
  | .sh false => Rep T H' (fun a => S0 a ∨ nwS H0 H' a) v d
  | _ => False
/-- how a value held by m may be handed back by mr -/
inductive LeR : Md → Md → Prop
  | atom (m : Md) (h : m = .atom ∨ m = .ow .e ∨ m = .xc ∨ m = .sh false) : LeR .atom m
  | ee : LeR (.ow .e) (.ow .e)
  | ne : LeR (.ow .n) (.ow .e)
  | exc : LeR (.ow .e) .xc
  | nxc : LeR (.ow .n) .xc
  | xcxc : LeR .xc .xc
  | nwxc : LeR (.sh true) .xc
  | sh (m : Md) (h : Le m (.sh false)) : LeR m (.sh false)
theorem LeR.ok {i : Nat} (l : LeR m mr) (S : Sta T H0 S0 Γ ρ s σ H tg) (own : Addr → Prop) (ho : ∀ a, own a → H0 a = none ∧ H a ≠ none) (r : RepW T tg own H m v d) : RetR T H0 H S0 mr v d := by
  have nt : ∀ a, tg a = .new → nwS H0 H a := fun a h => by
    refine ⟨?_, S.tgd a (by rw [h]; exact fun q => by cases q)⟩
    cases e : H0 a with
    | none => rfl
    | some o => rcases S.tg0 a (by rw [e]; simp) with z | z <;> (rw [h] at z; cases z)
  have ns : ∀ a, shS tg true a → nwS H0 H a := fun a h => h.elim (nt a) fun z => by cases z.1
  have os : ∀ a, shS tg false a → S0 a ∨ nwS H0 H a := fun a h => h.elim (fun z => .inr (nt a z)) fun z => .inl (S.old a z.2)
  cases l with
  | atom _ h =>
    rcases h with rfl | rfl | rfl | rfl
    · exact r
    · exact RepO.atom r
    · exact Rep.mono (S := fun _ => False) r fun _ h => h.elim
    · exact Rep.mono (S := fun _ => False) r fun _ h => h.elim
  | ee => exact RepO.move (own' := nwS H0 H) (kid' := nwS H0 H) r (fun _ _ e _ => e) ho ho
  | ne => exact RepO.move (own' := nwS H0 H) (kid' := nwS H0 H) r (fun _ _ e _ => e) ho ns
  | exc => exact RepO.flat r ho ho
  | nxc => exact RepO.flat r ho ns
  | xcxc => exact Rep.mono (S := own) r ho
  | nwxc => exact Rep.mono (S := shS tg true) r ns
  | sh _ h =>
    cases h with
    | refl => exact Rep.mono (S := shS tg false) r os
    | atom => exact Rep.mono (S := fun _ => False) r fun _ h => h.elim
    | xc_sh => exact Rep.mono (S := own) r fun a h => .inr (ho a h)
    | ow_e => exact RepO.flat r (fun a h => .inr (ho a h)) fun a h => .inr (ho a h)
    | ow_n => exact RepO.flat r (fun a h => .inr (ho a h)) fun a h => .inr (ns a h)
    | ow_o => exact RepO.flat r (fun a h => .inr (ho a h)) os
    | sh => exact Rep.mono (S := shS tg true) r fun a h => .inr (ns a h)
inductive Out | nx (ρ : Env) | rt (d : D) | bk (ρ : Env) | ct (ρ : Env)
abbrev SF := Env → M Out
/-- from one statement to the next: shared things stay -/
structure Kp (tg tg' : Tags) (H H' : Hp) : Prop where
  k : Keep (shS tg false) H H'
  t : ∀ b a, shS tg b a → shS tg' b a
  u : ∀ a, H a ≠ none → H' a ≠ none
theorem Kp.refl : Kp tg tg H H := ⟨Keep.refl, fun _ _ h => h, fun _ h => h⟩
theorem shF {b : Bool} {a : Addr} (h : shS tg b a) : shS tg false a := h.imp id fun z => ⟨rfl, z.2⟩
theorem Kp.trans (a : Kp tg tg1 H H1) (b : Kp tg1 tg2 H1 H2) : Kp tg tg2 H H2 :=
  ⟨fun c o e h => b.k c o (a.k c o e h) (h.imp (a.t false c) id), fun i c h => b.t i c (a.t i c h), fun c h => b.u c (a.u c h)⟩
theorem Go.kp (S : Sta T H0 S0 Γ ρ s σ H tg) (g : Go T H H1 tg tg1) : Kp tg tg1 H H1 :=
  ⟨Keep.ofExt g.x S.stm (shS_not S.tgs.1) (shS_not S.tgs.2), fun b a h => g.t.sh S.tgd h, g.u⟩
def CntS (T : Cfg) (E : XK) (H0 : Hp) (S0 : Addr → Prop) (mr : Md) (Γb Γ' : List Md) (H : Hp) (tg : Tags) (s' : Strm) (D : Ends) : Except Exn Out → Prop
  | .ok (.nx ρ') => ∀ σ' H' tg', Kp tg tg' H H' → Sta T H0 S0 Γ' ρ' s' σ' H' tg' → D.nx σ' H'
  | .ok (.rt d) => ∀ v H', Ext T H0 H' → StmAt T H' s' → RetR T H0 H' S0 mr v d → D.rt v H'
  | .ok (.bk ρ') => ∀ σ' H' tg', Kp tg tg' H H' → Sta T H0 S0 Γb ρ' s' σ' H' tg' → D.bk σ' H'
  | .ok (.ct ρ') => ∀ σ' H' tg', Kp tg tg' H H' → Sta T H0 S0 Γb ρ' s' σ' H' tg' → D.ct σ' H'
  | .error x => ∀ c dx H', Thr T H0 x s' c dx H' → E c (some dx) H'
/-- a statement: F of the slots' trees; mr: how the def hands back; Γb: how the slots are held at a break or continue -/
structure DS (T : Cfg) (X : Cx) (E : XK) (mr : Md) (Γb Γ : List Md) (st : Stmt) (F : SF) (Γ' : List Md) : Prop where
  mk ::
  run : ∀ H0 S0 ρ s σ H tg, Sta T H0 S0 Γ ρ s σ H tg → ∀ r s', F ρ s = some (r, s') → ∀ D : Ends, CntS T E H0 S0 mr Γb Γ' H tg s' D r → WS X st D σ H
instance {T : Cfg} {X : Cx} {E : XK} {mr : Md} {Γb Γ : List Md} {st : Stmt} {F : SF} {Γ' : List Md} : CoeFun (DS T X E mr Γb Γ st F Γ') (fun _ => ∀ H0 S0 ρ s σ H tg, Sta T H0 S0 Γ ρ s σ H tg → ∀ r s', F ρ s = some (r, s') → ∀ D : Ends, CntS T E H0 S0 mr Γb Γ' H tg s' D r → WS X st D σ H) := ⟨DS.run⟩
structure DSs (T : Cfg) (X : Cx) (E : XK) (mr : Md) (Γb Γ : List Md) (sts : List Stmt) (F : SF) (Γ' : List Md) : Prop where
  mk ::
  run : ∀ H0 S0 ρ s σ H tg, Sta T H0 S0 Γ ρ s σ H tg → ∀ r s', F ρ s = some (r, s') → ∀ D : Ends, CntS T E H0 S0 mr Γb Γ' H tg s' D r → WSs X sts D σ H
instance {T : Cfg} {X : Cx} {E : XK} {mr : Md} {Γb Γ : List Md} {sts : List Stmt} {F : SF} {Γ' : List Md} : CoeFun (DSs T X E mr Γb Γ sts F Γ') (fun _ => ∀ H0 S0 ρ s σ H tg, Sta T H0 S0 Γ ρ s σ H tg → ∀ r s', F ρ s = some (r, s') → ∀ D : Ends, CntS T E H0 S0 mr Γb Γ' H tg s' D r → WSs X sts D σ H) := ⟨DSs.run⟩
theorem CntS.go {r : Except Exn Out} {D : Ends} (h : CntS T E H0 S0 mr Γb Γ' H tg s' D r) (g : Kp tg tg1 H H1) : CntS T E H0 S0 mr Γb Γ' H1 tg1 s' D r := by
  cases r with
  | error x => exact h
  | ok o => cases o with
    | nx ρ => exact fun σ' H' tg' g' S' => h σ' H' tg' (g.trans g') S'
    | rt d => exact h
    | bk ρ => exact fun σ' H' tg' g' S' => h σ' H' tg' (g.trans g') S'
    | ct ρ => exact fun σ' H' tg' g' S' => h σ' H' tg' (g.trans g') S'
theorem CntS.ek {r : Except Exn Out} {D : Ends} (h : CntS T E H0 S0 mr Γb Γ' H tg s' D r) (S : Sta T H0 S0 Γ ρ s σ H tg) : ErrK T E H s' r := fun x e c dx H' t => by
  subst e; exact h c dx H' ⟨t.1, S.same.trans t.2.1, t.2.2⟩
/-- the same ends but another next -/
theorem CntS.nx {r : Except Exn Out} {D : Ends} {N : St → Hp → Prop} {Γn : List Md} (h : CntS T E H0 S0 mr Γb Γ' H tg s' D r) (hn : ∀ ρ', r = .ok (.nx ρ') → ∀ σ' H' tg', Kp tg tg' H H' → Sta T H0 S0 Γn ρ' s' σ' H' tg' → N σ' H') :
    CntS T E H0 S0 mr Γb Γn H tg s' { D with nx := N } r := by
  cases r with
  | error x => exact h
  | ok o => cases o with
    | nx ρ => exact hn ρ rfl
    | rt d => exact h
    | bk ρ => exact h
    | ct ρ => exact h
def sNop : SF := fun ρ => pure (.nx ρ)
/-- first F, and where it goes on, G -/
def sSeq (F G : SF) : SF := fun ρ => do match ← F ρ with
  | .nx ρ' => G ρ'
  | o => pure o
theorem sSeq_some {F G : SF} {r : Except Exn Out} (h : sSeq F G ρ s = some (r, s')) : (F ρ s = some (r, s') ∧ ∀ ρ', r ≠ .ok (.nx ρ')) ∨ ∃ ρ' s1, F ρ s = some (.ok (.nx ρ'), s1) ∧ G ρ' s1 = some (r, s') := by
  rcases M.bind_some h with ⟨x, h1, rfl⟩ | ⟨o, s1, h1, h2⟩
  · exact .inl ⟨h1, fun _ q => by cases q⟩
  · cases o with
    | nx ρ' => exact .inr ⟨ρ', s1, h1, h2⟩
    | rt d => cases h2; exact .inl ⟨h1, fun _ q => by cases q⟩
    | bk d => cases h2; exact .inl ⟨h1, fun _ q => by cases q⟩
    | ct d => cases h2; exact .inl ⟨h1, fun _ q => by cases q⟩
theorem dss_nil : DSs T X E mr Γb Γ [] sNop Γ := by
  refine ⟨?_⟩
  intro H0 S0 ρ s σ H tg S r s' hF D hD
  cases hF
  exact WSs.of pss_nil (hD σ H tg Kp.refl S)
theorem dss_cons {F G : SF} (h1 : DS T X E mr Γb Γ st F Γ1) (h2 : DSs T X E mr Γb Γ1 sts G Γ2) : DSs T X E mr Γb Γ (st :: sts) (sSeq F G) Γ2 := by
  refine ⟨?_⟩
  intro H0 S0 ρ s σ H tg S r s' hF D hD
  refine WSs.of (pss_cons WS.ps WSs.pss) ?_
  rcases sSeq_some hF with ⟨hf, hn⟩ | ⟨ρ1, s1, hf, hg⟩
  · exact h1 _ _ _ _ _ _ _ S _ _ hf _ (hD.nx fun ρ' q => absurd q (hn ρ'))
  · exact h1 _ _ _ _ _ _ _ S _ _ hf _ fun σ1 H1 tg1 g1 S1 => h2 _ _ _ _ _ _ _ S1 _ _ hg D (hD.go g1)
theorem dss_one {F : SF} (h1 : DS T X E mr Γb Γ st F Γ1) : DSs T X E mr Γb Γ [st] F Γ1 := by
  refine ⟨?_⟩
  intro H0 S0 ρ s σ H tg S r s' hF D hD
  exact WSs.of (pss_one WS.ps) (h1 _ _ _ _ _ _ _ S _ _ hF _ hD)
noncomputable def bnT (i : Nat) (tg : Tags) (H H' : Hp) : Tags := fun a => by
  classical exact if H a = none ∧ H' a ≠ none ∧ tg a = .no then .ex i else tg a
theorem bn_yes {i : Nat} {a : Addr} (h : frS tg H H' a) : bnT i tg H H' a = .ex i := if_pos h
theorem bn_or {i : Nat} (a : Addr) : bnT i tg H H' a = tg a ∨ (tg a = .no ∧ bnT i tg H H' a = .ex i ∧ H' a ≠ none ∧ H a = none) := by
  unfold bnT
  by_cases h : H a = none ∧ H' a ≠ none ∧ tg a = .no
  · rw [if_pos h]; exact .inr ⟨h.2.2, rfl, h.2.1, h.1⟩
  · rw [if_neg h]; exact .inl rfl
theorem bn_sh {i : Nat} {a : Addr} {b : Bool} (h : shS tg b a) : shS (bnT i tg H H') b a := by
  rcases bn_or (i := i) (H := H) (H' := H') (tg := tg) a with e | e
  · unfold shS; rw [e]; exact h
  · exact absurd h (shS_not e.1)
/-- a value set to slot i -/
theorem Sta.bind {i : Nat} (S : Sta T H0 S0 Γ1 ρ s σ H1 tg1) (born : ∀ a, H a = none → H0 a = none) (hi : i < Γ1.length) (hm : m ≠ .any) (r : RepW T tg1 (frS tg1 H H1) H1 m v d) :
    Sta T H0 S0 (Γ1.set i m) (ρ.set i (some d)) s (σ.set i (some v)) H1 (bnT i tg1 H H1) := by
  have S' : Sta T H0 S0 Γ1 ρ s σ H1 (bnT i tg1 H H1) := S.retag fun a => (bn_or a).imp id fun e => ⟨e.1, by rw [e.2.1]; exact fun q => (by cases q), e.2.2.1, born a e.2.2.2⟩
  have rs : RepW T (bnT i tg1 H H1) (exS (bnT i tg1 H H1) i) H1 m v d := r.move hm (fun _ _ e _ => e) (fun a h => bn_yes h) fun b a h => bn_sh h
  refine ⟨by simp [S.len], fun j c e => ?_, S.stm, S'.tgd, S'.tg0, S'.tgs, S'.old, S.stm0, S.same⟩
  by_cases hj : j = i
  · subst hj
    have hl : j < ρ.length := by
      have := (List.getElem?_eq_some_iff.mp e).1
      simpa using this
    rw [List.getElem?_set_self hl] at e
    have e' : d = c := by injection e with e; injection e
    subst e'
    rw [getD_set_self hi]
    exact ⟨hm, v, by rw [List.getElem?_set_self (by rw [S.len]; exact hl)], rs⟩
  · rw [List.getElem?_set_ne (Ne.symm hj)] at e
    obtain ⟨h0, u, h1, h2⟩ := S'.val j c e
    rw [getD_set_ne hj]
    exact ⟨h0, u, by rw [List.getElem?_set_ne (Ne.symm hj)]; exact h1, h2⟩
theorem Kp.bn {i : Nat} : Kp tg1 (bnT i tg1 H H1) H1 H1 := ⟨Keep.refl, fun _ _ h => bn_sh h, fun _ h => h⟩
def sSet (i : Nat) (Fa : EF) : SF := fun ρ => do let d ← Fa ρ; pure (.nx (ρ.set i (some d)))
theorem ds_set (i : Nat) (he : DE T X E Γ e Fa m Γ1) (hN : X.N.Nodup) {y : Str} {p' : Pos} (hm : m ≠ .any := by exact fun q => by cases q) (hi : i < Γ1.length := by decide) (hy : X.N[i]? = some y := by rfl) (hx : Loc X.env.scope y := by first | exact Or.inl rfl | exact Or.inr rfl)
    (hs : swapsWith e (some (.Name y p')) pos.line X.env = pure false := by rfl) (hf : X.fn y = true ∨ X.env.scope.names.lookup y = some .local := by first | exact .inl rfl | exact .inr rfl) : DS T X E mr Γb Γ (.Assign [.Name y p'] e pos) (sSet i Fa) (Γ1.set i m) := by
  refine ⟨?_⟩
  intro H0 S0 ρ s σ H tg S r s' hF D hD
  refine WS.of (ps_set hN hy hx WE.pe hs hf) ?_
  refine he.seq S hF (hD.ek S) fun d s1 v H1 tg1 hk g1 S1 r1 e1 => ?_
  cases hk
  exact hD _ H1 _ ((g1.kp S).trans Kp.bn) (S1.bind (fun a h => S.born h) hi hm r1)
def sRet (Fa : EF) : SF := fun ρ => do let d ← Fa ρ; pure (.rt d)
def sRetN : SF := fun _ => pure (.rt .non)
def sIf (Ft : TF) (Fa Fb : SF) : SF := fun ρ => do if ← Ft ρ then Fa ρ else Fb ρ
theorem ds_if {cc : Expr} {sa sb : List Stmt} {Ft : TF} {Fa Fb : SF} (ht : DT T X E Γ cc Ft Γ1) (ha : DSs T X E mr Γb Γ1 sa Fa Γ2) (hb : DSs T X E mr Γb Γ1 sb Fb Γ2) : DS T X E mr Γb Γ (.If cc sa sb pos) (sIf Ft Fa Fb) Γ2 := by
  refine ⟨?_⟩
  intro H0 S0 ρ s σ H tg S r s' hF D hD
  refine WS.of (ps_if WT.pt WSs.pss WSs.pss) ?_
  refine ht.seq S hF (hD.ek S) fun c s1 H1 tg1 hk g1 S1 e1 => ?_
  cases c with
  | true => exact iteT (ha _ _ _ _ _ _ _ S1 _ _ hk D (hD.go (g1.kp S)))
  | false => exact iteF (hb _ _ _ _ _ _ _ S1 _ _ hk D (hD.go (g1.kp S)))
/-- an expression whose value is dropped -/
def sDo (Fa : EF) : SF := fun ρ => do let _ ← Fa ρ; pure (.nx ρ)
theorem ds_do (he : DE T X E Γ e Fa m Γ1) (hs : swapsWith e none pos.line X.env = pure false := by rfl) : DS T X E mr Γb Γ (.Expr e pos) (sDo Fa) Γ1 := by
  refine ⟨?_⟩
  intro H0 S0 ρ s σ H tg S r s' hF D hD
  refine WS.of (ps_expr WE.pe hs) ?_
  refine he.seq S hF (hD.ek S) fun d s1 v H1 tg1 hk g1 S1 r1 e1 => ?_
  cases hk
  exact hD _ H1 _ (g1.kp S) S1
def sBrk : SF := fun ρ => pure (.bk ρ)
def sCnt : SF := fun ρ => pure (.ct ρ)
/-- a def's promise: the value of F -/
def spD (T : Cfg) (m : Md) (F : List D → M D) : Sp := fun vs H Q E => ∃ S0 ds s r s', (∀ a, S0 a → anyS T H a) ∧ RepL T H S0 vs ds ∧ StmAt T H s ∧ F ds s = some (r, s') ∧
  match r with
  | .ok d => ∀ v H', Ext T H H' → StmAt T H' s' → RetR T H H' S0 m v d → Q v H'
  | .error x => ∀ c dx H', Thr T H x s' c dx H' → E c (some dx) H'
abbrev FnD (T : Cfg) (P : Program) (w : World) (K : PySem.W.Frag) (mg : Str → Option Value) (base : Heap) (k : Nat) (f : Addr) (fd : FuncData) (ps : List Str) (m : Md) (F : List D → M D) : Prop :=
  FnOk P w K mg base (L2.CX P w) k f fd ps (spD T m F)
/-- how a call's result is held, the arguments being held by m -/
def callM (m mr : Md) : Md := match mr with
  | .sh _ => (match m with | .atom => .xc | m => m)
  | r => r
theorem RetR.res (S : Sta T H0 S0 Γ ρ s σ H tg) (S1 : Sta T H0 S0 Γ1 ρ s1 σ H1 tg1) (g1 : Go T H H1 tg tg1) (x : Ext T H1 H2) (st : StmAt T H2 s2) (hm : m.flat = true) (ha : (∃ b, mr = .sh b) → m ≠ .any) (rr : RetR T H1 H2 (setW T tg1 (frS tg1 H H1) H1 m) mr v d) :
    ∃ tg', Go T H H2 tg tg' ∧ Sta T H0 S0 Γ1 ρ s2 σ H2 tg' ∧ RepW T tg' (frS tg' H H2) H2 (callM m mr) v d := by
  have S2 := S1.ext0 (s' := s2) x st
  have g2 := g1.trans (Go.lay S1 x st)
  have nf : ∀ a, nwS H1 H2 a → frS tg1 H H2 a := fun a h => ⟨Classical.byContradiction fun n => g1.u a n h.1, h.2, S1.fresh h.1⟩
  cases mr with
  | atom => exact ⟨tg1, g2, S2, rr⟩
  | xc => exact ⟨tg1, g2, S2, Rep.mono (S := nwS H1 H2) rr nf⟩
  | any => cases rr
  | ow k =>
    cases k with
    | e => exact ⟨tg1, g2, S2, RepO.move (own' := frS tg1 H H2) (kid' := frS tg1 H H2) rr (fun _ _ e _ => e) nf nf⟩
    | o => cases rr
    | n => cases rr
  | sh b =>
    cases b with
    | true => cases rr
    | false =>
      have rr' : Rep T H2 (fun a => setW T tg1 (frS tg1 H H1) H1 m a ∨ nwS H1 H2 a) v d := rr
      have up : ∀ a, H1 a ≠ none → H2 a ≠ none := fun a n => x.some S1.stm st n
      cases m with
      | atom => exact ⟨tg1, g2, S2, rr'.mono fun a h => h.elim False.elim (nf a)⟩
      | xc => exact ⟨tg1, g2, S2, rr'.mono fun a h => h.elim (fun z => ⟨z.1, up a z.2.1, z.2.2⟩) (nf a)⟩
      | any => exact absurd rfl (ha ⟨_, rfl⟩)
      | ow k => cases hm
      | sh b =>
        have born : ∀ a, H a = none → H0 a = none := fun a h => S.born h
        refine ⟨frz tg1 H H2, ⟨g2.x, ?_, g2.u⟩, S2.frz born, rr'.mono fun a h => ?_⟩
        · exact TgX.frz S g2.t
        · rcases h with h | h
          · exact frz_sh h
          · exact .inl (frz_yes (nf a h))
/-- f(e, ..), f a def of the text -/
def fFn (f : List D → M D) (Fs : AF) : EF := fun ρ => do let xs ← Fs ρ; f xs
theorem de_call {k : Nat} {f : Addr} {fd : FuncData} {ps : List Str} {Ff : List D → M D} {Fs : AF} (G : FnD T X.prog X.w X.K X.mg X.base k f fd ps mr Ff) (hr : Room k X.A) (hmg : X.mg x = some (.ref f)) (hk : PySem.W.keepIn X.K (.ref f) = true) (hb : Binds X.K fd ps []) (hx : Passes (L2.CX X.prog X.w) X E)
    (ha : DA T X E Γ (e :: es) Fs m Γ1) (hg : Gl X x := by rfl) (hm : m.flat = true := by rfl) (han : (∃ b, mr = .sh b) → m ≠ .any := by first | (intro z; obtain ⟨_, q⟩ := z; cases q; done) | (intro z q; cases q; done))
    (hdb : (x == ("__debug__" : Str)) = false := by decide) (he : starEach (e :: es) X.env = (false, eval e X.env) :: starEach es X.env := by rfl) (hpl : (backTo pos (starEach es X.env)).any (·.1) = false := by rfl) :
    DE T X E Γ (.Call (.Name x p) (e :: es) [] pos) (fFn Ff Fs) (callM m mr) Γ1 := by
  refine ⟨?_⟩
  intro H0 S0 ρ s σ H tg S r s' hF Q hQ
  refine WE.of (pe_call G hr hg hmg hk hb .nil hx WA.pa hdb he hpl) ?_
  show WA X (e :: es) σ H fun vs H1 => spD T mr Ff (vs ++ []) H1 Q E
  refine ha.seq S hF hQ.ek fun ds s1 vs H1 tg1 hk g1 S1 r1 e1 => ?_
  rw [List.append_nil]
  refine ⟨_, ds, s1, r, s', set_any S S1, r1, S1.stm, hk, ?_⟩
  cases r with
  | error x => exact fun c dx H' t => e1 x rfl c dx H' t
  | ok d =>
    intro v H2 x2 st2 rr
    obtain ⟨tg', g', S', r'⟩ := rr.res S S1 g1 x2 st2 hm han
    exact hQ v H2 tg' g' S' r'
/-- a def's body: n slots, the arguments first -/
def fnF (np n : Nat) (B : SF) : List D → M D := fun ds s =>
  if ds.length = np then match B (ds.map some ++ List.replicate (n - np) none) s with
    | some (.ok (.rt d), s') => some (.ok d, s')
    | some (.ok (.nx _), s') => some (.ok .non, s')
    | some (.error x, s') => some (.error x, s')
    | _ => none
  else none
theorem RepL.at (r : RepL T H SS vs ds) (N : List Str) : ∀ (i : Nat) (d : D), (ds.map some ++ List.replicate (N.length - ds.length) none)[i]? = some (some d) → ∃ v, (L2.start N vs)[i]? = some (some v) ∧ Rep T H SS v d := by
  intro i d e
  have hlen := r.len
  by_cases hi : i < ds.length
  · rw [List.getElem?_append_left (by simpa using hi)] at e
    simp at e
    obtain ⟨v, h1, h2⟩ := r.get i d e
    refine ⟨v, ?_, h2⟩
    unfold L2.start
    rw [List.getElem?_append_left (by rw [List.length_map, hlen]; exact hi)]
    simp [h1]
  · rw [List.getElem?_append_right (by simpa using hi)] at e
    simp [List.getElem?_replicate] at e
def Γ0 (np n : Nat) : List Md := List.replicate np (.sh false) ++ List.replicate (n - np) .atom
theorem Γ0_get {np n i : Nat} : (Γ0 np n).getD i .atom = if i < np then .sh false else .atom := by
  unfold Γ0
  rw [List.getD_eq_getElem?_getD]
  by_cases h : i < np
  · rw [List.getElem?_append_left (by simpa using h), List.getElem?_replicate, if_pos h, if_pos h]; rfl
  · rw [List.getElem?_append_right (by simpa using h), List.getElem?_replicate, if_neg h]
    split <;> rfl
theorem FnD.mk {P : Program} {w : World} {K : PySem.W.Frag} {mg : Str → Option Value} {base : Heap} {x qual : Str} {st : Stmt} {f : Addr} {fd : FuncData} {N ps : List Str} {k : Nat} {B : SF} (Fu : Fun K x qual st f fd) (S : FnScope N ps (defScope st))
    (hz : LeR .atom mr)
    (hb : ∀ (cdv : Value) (A : Around) (outer : List PySem.Env) (s : Shared) (H : Hp) (E : XK), Room k (A.deeper (PyProof.Rows.envOfC qual (defScope st) s.heap.objs.size f cdv)) →
      DSs T (cxOf (L2.CX P w) P w K mg base N qual (defScope st) f cdv A outer s H E) E mr Γb (Γ0 ps.length N.length) (defBody st) B Γ2) : FnD T P w K mg base (k + 1) f fd ps mr (fnF ps.length N.length B) := by
  have hlen : ∀ {ds : List D} {s : Strm} {r : Except Exn D} {s' : Strm}, fnF ps.length N.length B ds s = some (r, s') → ds.length = ps.length := fun {ds s r s'} h => by
    unfold fnF at h
    by_cases e : ds.length = ps.length
    · exact e
    · rw [if_neg e] at h; cases h
  refine Fu.okX S (fun vs H Q E ⟨S0, ds, s, r, s', _, hr, _, hf, _⟩ => by rw [hr.len]; exact hlen hf) (fun cdv A outer sh H vs Q E hr h => ?_)
  obtain ⟨S0, ds, s, r, s', hS, hv, hst, hf, hq⟩ := h
  have hl := hlen hf
  refine ⟨_, WSs.pss, ?_⟩
  have hN : ps.length ≤ N.length := by
    have := congrArg List.length S.pre
    rw [List.length_take] at this
    omega
  unfold fnF at hf
  rw [if_pos hl, ← hl] at hf
  classical
  have St0 : Sta T H S0 (Γ0 ps.length N.length) (ds.map some ++ List.replicate (N.length - ds.length) none) s (L2.start N vs) H (fun a => if S0 a then .old else .no) := by
    refine ⟨by simp [L2.start, hv.len], fun i d e => ?_, hst, fun a n => ?_, fun a _ => ?_, ⟨if_neg fun z => (hS _ z).2.1 rfl, if_neg fun z => (hS _ z).2.2 rfl⟩, fun a e => ?_, ⟨by rw [hst.1]; simp, by rw [hst.2]; simp⟩, Ext.refl⟩
    · obtain ⟨v, h1, h2⟩ := hv.at N i d e
      have hi : i < ps.length := by
        rw [← hl]
        by_cases hi : i < ds.length
        · exact hi
        · rw [List.getElem?_append_right (by simpa using hi)] at e
          simp [List.getElem?_replicate] at e
      rw [Γ0_get, if_pos hi]
      exact ⟨(fun q => by cases q), v, h1, Rep.mono (S' := shS _ false) h2 fun a z => .inr ⟨rfl, if_pos z⟩⟩
    · by_cases z : S0 a
      · exact (hS a z).1
      · exact absurd (if_neg z) n
    · by_cases z : S0 a
      · exact .inr (if_pos z)
      · exact .inl (if_neg z)
    · by_cases z : S0 a
      · exact z
      · rw [if_neg z] at e; cases e
  cases hB : B (ds.map some ++ List.replicate (N.length - ds.length) none) s with
  | none => rw [hB] at hf; cases hf
  | some rs =>
    obtain ⟨r0, s0⟩ := rs
    rw [hB] at hf
    refine hb cdv A outer sh H E hr _ _ _ _ _ _ _ St0 _ _ hB _ ?_
    cases r0 with
    | error x =>
      cases hf
      exact fun c dx H' t => hq c dx H' t
    | ok o =>
      cases o with
      | rt d => cases hf; exact fun v H' x st rr => hq v H' x st rr
      | nx ρ' =>
        cases hf
        exact fun σ' H' tg' g S' => hq .non H' S'.same S'.stm (hz.ok (i := 0) S' (fun _ => False) (fun a h => h.elim) .non)
      | bk ρ' => cases hf
      | ct ρ' => cases hf
end
end DL
end
section
set_option autoImplicit false
namespace DL
open PySem L2
mutual
def toPy : D → Option PyData
  | .non => some .none
  | .bl b => some (.bool b)
  | .int i => some (.int i)
  | .str x => some (.str x)
  | .lst xs => (toPyL xs).map .list
  | .tup xs => (toPyL xs).map .tuple
  | _ => none
def toPyL : List D → Option (List PyData)
  | [] => some []
  | d :: ds => match toPy d, toPyL ds with
    | some x, some xs => some (x :: xs)
    | _, _ => none
end
mutual
/-- data: nothing, truths, ints, texts, lists and tuples of these -/
def plain : D → Bool
  | .non => true
  | .bl _ => true
  | .int _ => true
  | .str _ => true
  | .lst xs => plainL xs
  | .tup xs => plainL xs
  | _ => false
def plainL : List D → Bool
  | [] => true
  | d :: ds => plain d && plainL ds
end
mutual
def dep : D → Nat
  | .lst xs => depL xs + 1
  | .tup xs => depL xs + 1
  | _ => 0
def depL : List D → Nat
  | [] => 0
  | d :: ds => max (dep d) (depL ds)
end
mutual
def deq : D → D → Bool
  | .non, d => match d with | .non => true | _ => false
  | .bl a, d => match d with | .bl b => a == b | .int j => (if a then 1 else 0) == j | _ => false
  | .int i, d => match d with | .bl b => i == (if b then 1 else 0) | .int j => i == j | _ => false
  | .str x, d => match d with | .str y => x == y | _ => false
  | .lst xs, d => match d with | .lst ys => deqL xs ys | _ => false
  | .tup xs, d => match d with | .tup ys => deqL xs ys | _ => false
  | _, _ => false
def deqL : List D → List D → Bool
  | [], ys => match ys with | [] => true | _ :: _ => false
  | x :: xs, ys => match ys with | [] => false | y :: ys => deq x y && deqL xs ys
end
theorem toPyL_cons (d : D) (ds : List D) : toPyL (d :: ds) = match toPy d, toPyL ds with
    | some x, some xs => some (x :: xs)
    | _, _ => none := by rw [toPyL]
mutual
theorem toPy_plain : ∀ d, plain d = true → ∃ x, toPy d = some x
  | .non, _ => ⟨_, rfl⟩
  | .bl _, _ => ⟨_, rfl⟩
  | .int _, _ => ⟨_, rfl⟩
  | .str _, _ => ⟨_, rfl⟩
  | .lst xs, h => by
    rw [plain] at h
    obtain ⟨x, e⟩ := toPyL_plain xs h
    exact ⟨.list x, by rw [toPy, e]; rfl⟩
  | .tup xs, h => by
    rw [plain] at h
    obtain ⟨x, e⟩ := toPyL_plain xs h
    exact ⟨.tuple x, by rw [toPy, e]; rfl⟩
  | .dic _ _, h => by simp [plain] at h
  | .obj _ _, h => by simp [plain] at h
  | .stm, h => by simp [plain] at h
  | .opq _, h => by simp [plain] at h
  | .wl, h => by simp [plain] at h
theorem toPyL_plain : ∀ ds, plainL ds = true → ∃ x, toPyL ds = some x
  | [], _ => ⟨[], by rw [toPyL]⟩
  | d :: ds, h => by
    rw [plainL, Bool.and_eq_true] at h
    obtain ⟨x, e⟩ := toPy_plain d h.1
    obtain ⟨xs, e2⟩ := toPyL_plain ds h.2
    exact ⟨x :: xs, by rw [toPyL_cons, e, e2]⟩
end
end DL
namespace DL
open PySem L2
mutual
theorem deq_eqv : ∀ (a b : D) (x y : PyData), toPy a = some x → toPy b = some y → deq a b = PyData.eqv x y
  | .non, b, x, y, ha, hb => by
    cases ha
    cases b <;> simp [toPy] at hb <;> first | (subst hb; simp [deq, PyData.eqv]) | (obtain ⟨_, _, rfl⟩ := hb; simp [deq, PyData.eqv])
  | .bl _, b, x, y, ha, hb => by
    cases ha
    cases b <;> simp [toPy] at hb <;> first | (subst hb; simp [deq, PyData.eqv]) | (obtain ⟨_, _, rfl⟩ := hb; simp [deq, PyData.eqv])
  | .int _, b, x, y, ha, hb => by
    cases ha
    cases b <;> simp [toPy] at hb <;> first | (subst hb; simp [deq, PyData.eqv]) | (obtain ⟨_, _, rfl⟩ := hb; simp [deq, PyData.eqv])
  | .str _, b, x, y, ha, hb => by
    cases ha
    cases b <;> simp [toPy] at hb <;> first | (subst hb; simp [deq, PyData.eqv]) | (obtain ⟨_, _, rfl⟩ := hb; simp [deq, PyData.eqv])
  | .lst xs, b, x, y, ha, hb => by
    simp [toPy] at ha
    obtain ⟨xs', hx, rfl⟩ := ha
    cases b <;> simp [toPy] at hb
    case lst ys => obtain ⟨ys', hy, rfl⟩ := hb; simp only [deq, PyData.eqv]; exact deqL_eqv xs ys xs' ys' hx hy
    case tup ys => obtain ⟨ys', hy, rfl⟩ := hb; simp [deq, PyData.eqv]
    all_goals (subst hb; simp [deq, PyData.eqv])
  | .tup xs, b, x, y, ha, hb => by
    simp [toPy] at ha
    obtain ⟨xs', hx, rfl⟩ := ha
    cases b <;> simp [toPy] at hb
    case tup ys => obtain ⟨ys', hy, rfl⟩ := hb; simp only [deq, PyData.eqv]; exact deqL_eqv xs ys xs' ys' hx hy
    case lst ys => obtain ⟨ys', hy, rfl⟩ := hb; simp [deq, PyData.eqv]
    all_goals (subst hb; simp [deq, PyData.eqv])
  | .dic _ _, _, _, _, ha, _ => by simp [toPy] at ha
  | .obj _ _, _, _, _, ha, _ => by simp [toPy] at ha
  | .stm, _, _, _, ha, _ => by simp [toPy] at ha
  | .opq _, _, _, _, ha, _ => by simp [toPy] at ha
  | .wl, _, _, _, ha, _ => by simp [toPy] at ha
theorem deqL_eqv : ∀ (a b : List D) (x y : List PyData), toPyL a = some x → toPyL b = some y → deqL a b = PyData.eqvAll x y
  | [], [], x, y, ha, hb => by simp [toPyL] at ha hb; subst ha; subst hb; simp [deqL, PyData.eqvAll]
  | [], e :: es, x, y, ha, hb => by
    rw [toPyL_cons] at hb
    cases h1 : toPy e with
    | none => rw [h1] at hb; cases hb
    | some v => cases h2 : toPyL es with
      | none => rw [h1, h2] at hb; cases hb
      | some vs => rw [h1, h2] at hb; cases hb; simp [toPyL] at ha; subst ha; simp [deqL, PyData.eqvAll]
  | d :: ds, b, x, y, ha, hb => by
    rw [toPyL_cons] at ha
    cases g1 : toPy d with
    | none => rw [g1] at ha; cases ha
    | some u => cases g2 : toPyL ds with
      | none => rw [g1, g2] at ha; cases ha
      | some us =>
        rw [g1, g2] at ha; cases ha
        cases b with
        | nil => simp [toPyL] at hb; subst hb; simp [deqL, PyData.eqvAll]
        | cons e es =>
          rw [toPyL_cons] at hb
          cases h1 : toPy e with
          | none => rw [h1] at hb; cases hb
          | some v => cases h2 : toPyL es with
            | none => rw [h1, h2] at hb; cases hb
            | some vs => rw [h1, h2] at hb; cases hb; simp only [deqL, PyData.eqvAll]; rw [deq_eqv d e u v g1 h1, deqL_eqv ds es us vs g2 h2]
end
mutual
theorem toPy_facts : ∀ (d : D) (x : PyData), toPy d = some x → x.plain = true ∧ x.depth = dep d
  | .non, x, h => by cases h; exact ⟨rfl, by simp [PyData.depth, dep]⟩
  | .bl _, x, h => by cases h; exact ⟨rfl, by simp [PyData.depth, dep]⟩
  | .int _, x, h => by cases h; exact ⟨rfl, by simp [PyData.depth, dep]⟩
  | .str _, x, h => by cases h; exact ⟨rfl, by simp [PyData.depth, dep]⟩
  | .lst xs, x, h => by
    simp [toPy] at h
    obtain ⟨xs', hx, rfl⟩ := h
    obtain ⟨h1, h2⟩ := toPyL_facts xs xs' hx
    exact ⟨by simpa [PyData.plain] using h1, by simp only [PyData.depth, dep, h2]⟩
  | .tup xs, x, h => by
    simp [toPy] at h
    obtain ⟨xs', hx, rfl⟩ := h
    obtain ⟨h1, h2⟩ := toPyL_facts xs xs' hx
    exact ⟨by simpa [PyData.plain] using h1, by simp only [PyData.depth, dep, h2]⟩
  | .dic _ _, _, h => by simp [toPy] at h
  | .obj _ _, _, h => by simp [toPy] at h
  | .stm, _, h => by simp [toPy] at h
  | .opq _, _, h => by simp [toPy] at h
  | .wl, _, h => by simp [toPy] at h
theorem toPyL_facts : ∀ (d : List D) (x : List PyData), toPyL d = some x → PyData.plainAll x = true ∧ PyData.depthAll x = depL d
  | [], x, h => by simp [toPyL] at h; subst h; exact ⟨rfl, by simp [PyData.depthAll, depL]⟩
  | d :: ds, x, h => by
    rw [toPyL_cons] at h
    cases g1 : toPy d with
    | none => rw [g1] at h; cases h
    | some u => cases g2 : toPyL ds with
      | none => rw [g1, g2] at h; cases h
      | some us =>
        rw [g1, g2] at h; cases h
        obtain ⟨h1, h2⟩ := toPy_facts d u g1
        obtain ⟨h3, h4⟩ := toPyL_facts ds us g2
        exact ⟨by simp [PyData.plainAll, h1, h3], by simp [PyData.depthAll, depL, h2, h4]⟩
end
end DL
end
section
set_option autoImplicit false
namespace DL
open PySem L2
/-- data of no great depth -/
def okD (d : D) : Bool := plain d && decide (dep d ≤ 50)
def eqD (a b : D) : Option D := if okD a && okD b then some (.bl (deq a b)) else none
def neD (a b : D) : Option D := if okD a && okD b then some (.bl (!deq a b)) else none
def memD (x : D) (xs : List D) : Bool := xs.any fun y => deq y x
def inB (x : D) : D → Option Bool
  | .lst xs => if okD x && okD (.lst xs) then some (memD x xs) else none
  | .tup xs => if okD x && okD (.tup xs) then some (memD x xs) else none
  | .dic t kvs => (getD? (.dic t kvs) x).map (·.isSome)
  | .str z => match x with
    | .str y => match y.cps.toList with
      | [c] => some (decide (c ∈ z.cps.toList))
      | _ => none
    | _ => none
  | _ => none
def inD (x c : D) : Option D := (inB x c).map .bl
def ninD (x c : D) : Option D := (inB x c).map fun b => .bl !b
def isND (a b : D) : Option D := match b with
  | .non => some (.bl (match a with | .non => true | _ => false))
  | _ => none
def isNND (a b : D) : Option D := match b with
  | .non => some (.bl (match a with | .non => false | _ => true))
  | _ => none
def ltD (a b : D) : Option D := match a, b with
  | .int i, .int j => some (.bl (decide (i < j)))
  | .str x, .str y => some (.bl (decide (x.cps.toList < y.cps.toList)))
  | _, _ => none
def leD (a b : D) : Option D := match a, b with
  | .int i, .int j => some (.bl (decide (i ≤ j)))
  | .str x, .str y => some (.bl (!decide (y.cps.toList < x.cps.toList)))
  | _, _ => none
def gtD (a b : D) : Option D := match a, b with
  | .int i, .int j => some (.bl (decide (j < i)))
  | .str x, .str y => some (.bl (decide (y.cps.toList < x.cps.toList)))
  | _, _ => none
def geD (a b : D) : Option D := match a, b with
  | .int i, .int j => some (.bl (decide (j ≤ i)))
  | .str x, .str y => some (.bl (!decide (x.cps.toList < y.cps.toList)))
  | _, _ => none
def addD (a b : D) : Option D := match a, b with
  | .int i, .int j => some (.int (i + j))
  | .str x, .str y => if x.length + y.length ≤ sizeLine then some (.str (x ++ y)) else none
  | _, _ => none
def subD (a b : D) : Option D := match a, b with
  | .int i, .int j => some (.int (i - j))
  | _, _ => none
def mulD (a b : D) : Option D := match a, b with
  | .int i, .int j => if -(2 ^ 64) < i ∧ i < 2 ^ 64 then some (.int (i * j)) else none
  | _, _ => none
def modD (a b : D) : Option D := match a, b with
  | .int i, .int j => if 0 < j then some (.int (i % j)) else none
  | _, _ => none
def negD : D → Option D
  | .int i => some (.int (-i))
  | _ => none
/-- list + list -/
def catD (a b : D) : Option D := match a, b with
  | .lst xs, .lst ys => if xs.length ≤ sizeLine ∧ ys.length ≤ sizeLine ∧ xs.length + ys.length ≤ sizeLine then some (.lst (xs ++ ys)) else none
  | _, _ => none
def lenD : List D → Option D
  | [.lst xs] => some (.int xs.length)
  | [.tup xs] => some (.int xs.length)
  | [.str x] => if x.length ≤ sizeLine then some (.int x.length) else none
  | [.dic _ kvs] => some (.int kvs.length)
  | _ => none
def listD : List D → Option D
  | [.lst xs] => some (.lst xs)
  | [.tup xs] => some (.lst xs)
  | _ => none
def tupleD : List D → Option D
  | [.lst xs] => some (.tup xs)
  | [.tup xs] => some (.tup xs)
  | _ => none
def absD : List D → Option D
  | [.int i] => some (.int (if i < 0 then -i else i))
  | _ => none
def intD : List D → Option D
  | [.int i] => some (.int i)
  | [.bl k] => some (.int (if k then 1 else 0))
  | _ => none
end DL
namespace DL
open PySem L2
/-- xs[lo:hi] -/
def cutG {α : Type} (xs : List α) (lo hi : Option Int) : List α := (xs.drop (HT.sIx xs.length 0 lo)).take (HT.sIx xs.length xs.length hi - HT.sIx xs.length 0 lo)
def slLD (d : D) (lo hi : Option Int) : Option D := match d with
  | .lst xs => some (.lst (cutG xs lo hi))
  | _ => none
def slTD (d : D) (lo hi : Option Int) : Option D := match d with
  | .tup xs => some (.tup (cutG xs lo hi))
  | .str z => if z.length ≤ sizeLine then some (.str (cutS z lo hi)) else none
  | _ => none
def fldD (f : Str) : D → Option D
  | .obj _ fs => (fs.find? fun p => decide (p.1 = f)).map (·.2)
  | _ => none
/-- the built-in classes that isinstance asks -/
inductive TN | int | str | bool | list | tuple | dict
  deriving DecidableEq
/-- a class that is asked: a built-in one, an own one -/
inductive TC | b (n : TN) | o (c : Nat)
def TN.nm : TN → String
  | .int => "int" | .str => "str" | .bool => "bool" | .list => "list" | .tuple => "tuple" | .dict => "dict"
def isB : TN → D → Option Bool
  | _, .opq _ => none
  | _, .stm => none
  | .int, .int _ => some true
  | .int, .bl _ => some true
  | .bool, .bl _ => some true
  | .str, .str _ => some true
  | .list, .lst _ => some true
  | .list, .wl => some true
  | .tuple, .tup _ => some true
  | .dict, .dic _ _ => some true
  | _, _ => some false
def isO (c : Nat) : D → Option Bool
  | .opq _ => none
  | .stm => none
  | .obj c' _ => if c = c' then some true else none
  | _ => some false
def isC : TC → D → Option Bool
  | .b n, d => isB n d
  | .o c, d => isO c d
/-- any of some classes -/
def isiD : List TC → D → Option Bool
  | [], _ => some false
  | t :: ts, d => match isC t d with
    | none => none
    | some true => some true
    | some false => isiD ts d
end DL
end
section
set_option autoImplicit false
namespace DL
open PySem PySem.Spec L2
section
variable {T : Cfg} {H H' : Hp} {SS : Addr → Prop} {s : Strm} {σ : St} {v w : V} {d c : D} {vs : List V} {ds : List D}
variable {X : Cx} {pins : List (Addr × Obj)} {sh : Shared}
theorem RepL.consL {d : D} {ds : List D} (r : RepL T H SS vs (d :: ds)) : ∃ v vs', vs = v :: vs' ∧ Rep T H SS v d ∧ RepL T H SS vs' ds := by
  cases r with | cons a b => exact ⟨_, _, rfl, a, b⟩
theorem RepL.nilL (r : RepL T H SS vs []) : vs = [] := by cases r; rfl
mutual
theorem Rep.dp (K : PySem.W.Frag) : ∀ (d : D) (v : V) (x : PyData), Rep T H SS v d → toPy d = some x → Dp K H v x
  | .non, _, x, r, h => by cases r; cases h; exact .non
  | .bl _, _, x, r, h => by cases r; cases h; exact .bl _
  | .int _, _, x, r, h => by cases r; cases h; exact .int _
  | .str _, _, x, r, h => by cases r; cases h; exact .str _
  | .lst xs, _, x, r, h => by
    simp [toPy] at h
    obtain ⟨xs', hx, rfl⟩ := h
    cases r with | lst _ e rr => exact .lst (SqL.of e) (RepL.dp K xs _ xs' rr hx)
  | .tup xs, _, x, r, h => by
    simp [toPy] at h
    obtain ⟨xs', hx, rfl⟩ := h
    cases r with | tup e rr => exact .tup (SqT.of e) (RepL.dp K xs _ xs' rr hx)
  | .dic _ _, _, _, _, h => by simp [toPy] at h
  | .obj _ _, _, _, _, h => by simp [toPy] at h
  | .stm, _, _, _, h => by simp [toPy] at h
  | .opq _, _, _, _, h => by simp [toPy] at h
  | .wl, _, _, _, h => by simp [toPy] at h
theorem RepL.dp (K : PySem.W.Frag) : ∀ (ds : List D) (vs : List V) (xs : List PyData), RepL T H SS vs ds → toPyL ds = some xs → DpAll K H vs xs
  | [], vs, xs, r, h => by cases r; simp [toPyL] at h; subst h; exact .nil
  | d :: ds, vs, xs, r, h => by
    obtain ⟨v, vs', rfl, r1, r2⟩ := r.consL
    rw [toPyL_cons] at h
    cases g1 : toPy d with
    | none => rw [g1] at h; cases h
    | some u => cases g2 : toPyL ds with
      | none => rw [g1, g2] at h; cases h
      | some us => rw [g1, g2] at h; cases h; exact .cons (Rep.dp K d v u r1 g1) (RepL.dp K ds vs' us r2 g2)
end
theorem Rep.reads (I : Inv X pins σ H sh) (r : Rep T H SS v d) (ok : okD d = true) {u : Value} (ru : RelV v u) :
    ∃ x as, toPy d = some x ∧ Reads sh.heap u x as ∧ x.plain = true ∧ x.depth ≤ 50 := by
  unfold okD at ok
  rw [Bool.and_eq_true, decide_eq_true_eq] at ok
  obtain ⟨x, hx⟩ := toPy_plain d ok.1
  obtain ⟨h1, h2⟩ := toPy_facts d x hx
  obtain ⟨as, h3⟩ := Dp.reads I x v u (Rep.dp X.K d v x r hx) ru
  exact ⟨x, as, hx, h3, h1, by rw [h2]; exact ok.2⟩
theorem two_ok {α : Type} {a b : D} {x c : α} (h : (if okD a && okD b then some x else none) = some c) : okD a = true ∧ okD b = true ∧ x = c := by
  by_cases q : (okD a && okD b) = true
  · rw [if_pos q] at h; rw [Bool.and_eq_true] at q; exact ⟨q.1, q.2, Option.some.inj h⟩
  · rw [if_neg q] at h; cases h
theorem v_eq (hu : X.A.units + 64 < cLine) : OpV T X (compareOp .Eq) eqD .atom := by
  intro H s SS v w d e c st hS r1 r2 hf Q hQ pins sh σ u1 u2 I rx ry
  obtain ⟨h1, h2, rfl⟩ := two_ok hf
  obtain ⟨x, as, hx, rd1, p1, d1⟩ := r1.reads I h1 rx
  obtain ⟨y, bs, hy, rd2, p2, d2⟩ := r2.reads I h2 ry
  refine PySem.SeqAt.eq_plain rd1 rd2 p1 p2 (by omega) ?_
  rw [← deq_eqv d e x y hx hy]
  exact ⟨.bl _, H, I, rfl, hQ _ H Ext.refl st (.bl _)⟩
theorem v_ne (hu : X.A.units + 64 < cLine) : OpV T X (compareOp .NotEq) neD .atom := by
  intro H s SS v w d e c st hS r1 r2 hf Q hQ pins sh σ u1 u2 I rx ry
  obtain ⟨h1, h2, rfl⟩ := two_ok hf
  obtain ⟨x, as, hx, rd1, p1, d1⟩ := r1.reads I h1 rx
  obtain ⟨y, bs, hy, rd2, p2, d2⟩ := r2.reads I h2 ry
  refine PySem.SeqAt.ne_plain rd1 rd2 p1 p2 (by omega) ?_
  rw [← deq_eqv d e x y hx hy]
  exact ⟨.bl _, H, I, rfl, hQ _ H Ext.refl st (.bl _)⟩
theorem any_eqv {x : D} {px : PyData} (hx : toPy x = some px) : ∀ (ys : List D) (pys : List PyData), toPyL ys = some pys → (pys.any fun y => PyData.eqv y px) = memD x ys
  | [], pys, h => by simp [toPyL] at h; subst h; rfl
  | y :: ys, pys, h => by
    rw [toPyL_cons] at h
    cases g1 : toPy y with
    | none => rw [g1] at h; cases h
    | some u => cases g2 : toPyL ys with
      | none => rw [g1, g2] at h; cases h
      | some us => rw [g1, g2] at h; cases h; unfold memD; rw [List.any_cons, List.any_cons, any_eqv hx ys us g2, deq_eqv y x u px g1 hx]; rfl
def RepP (T : Cfg) (H : Hp) (SS : Addr → Prop) : Option D → Option V → Prop
  | some d, some v => Rep T H SS v d
  | none, none => True
  | _, _ => False
theorem RepL.keys : ∀ (key : List Key) (vs : List V), RepL T H SS vs (key.map kD) → vs = key.map kV
  | [], vs, r => by cases r; rfl
  | q :: key, vs, r => by
    obtain ⟨v0, vs0, rfl, r1, r2⟩ := RepL.consL (by simpa using r)
    rw [RepL.keys key vs0 r2]
    cases q with
    | inl i => cases r1; rfl
    | inr x => cases r1; rfl
/-- the keys of a dict, as the heap has them -/
theorem find_k {κ : Type} [DecidableEq κ] {enc : κ → D} {of : D → Option κ} (h0 : ∀ k, of (enc k) = some k) (k : κ) : ∀ (kvs : List (D × D)) (xs : List (κ × V)), kvs.map (·.1) = xs.map (fun p => enc p.1) → RepL T H SS (xs.map (·.2)) (kvs.map (·.2)) →
    RepP T H SS (lookD kvs (fun d => decide (of d = some k))) (valV xs k)
  | [], [], _, _ => trivial
  | [], _ :: _, h, _ => by simp at h
  | _ :: _, [], h, _ => by simp at h
  | p :: kvs, q :: xs, h, r => by
    simp only [List.map_cons, List.cons.injEq] at h
    obtain ⟨v, vs', e, r1, r2⟩ := RepL.consL (by simpa using r)
    simp only [List.map_cons, List.cons.injEq] at e
    have ih := find_k h0 k kvs xs h.2 (by rw [e.2]; exact r2)
    unfold lookD valV at ih ⊢
    rw [List.find?_cons, List.find?_cons, h.1]
    have hq : (fun d => decide (of d = some k)) (enc q.1) = decide (some q.1 = some k) := by show decide (of (enc q.1) = some k) = _; rw [h0]
    rw [hq]
    by_cases z : q.1 = k
    · rw [z, decide_eq_true rfl, decide_eq_true rfl]
      show Rep T H SS q.2 p.2
      rw [e.1]; exact r1
    · have z' : ¬ (some q.1 = some k) := fun w => z (Option.some.inj w)
      rw [decide_eq_false z, decide_eq_false z']
      exact ih
theorem Rep.get {S1 : Addr → Prop} {t : Bool} {kvs : List (D × D)} {k : D} {y : V} {o : Option D} (r : Rep T H SS v (.dic t kvs)) (rk : Rep T H S1 y k) (h : getD? (.dic t kvs) k = some o) :
    ∃ a ov, v = .ref a ∧ DGet H a y ov ∧ RepP T H SS o ov := by
  cases t with
  | false =>
    simp only [getD?] at h
    cases e : kOf k with
    | none => rw [e] at h; cases h
    | some key =>
      rw [e] at h
      have h : lookD kvs (fun d => decide (kOf d = some key)) = o := Option.some.inj h
      cases r with
      | @dK a xs _ hS ha hm rr =>
        have f := find_k kOf_kD key kvs xs hm rr
        rw [h] at f
        have hk := kD_kOf e
        refine ⟨a, valV xs key, rfl, ?_, f⟩
        subst hk
        cases key with
        | inl i => cases rk; exact DGet.k (k := .inl i) ha
        | inr x => cases rk; exact DGet.k (k := .inr x) ha
  | true =>
    simp only [getD?] at h
    cases e : ksOf k with
    | none => rw [e] at h; cases h
    | some key =>
      rw [e] at h
      have h : lookD kvs (fun d => decide (ksOf d = some key)) = o := Option.some.inj h
      cases r with
      | @dT a xs _ hS ha hm rr =>
        have f := find_k ksOf_ksD key kvs xs hm rr
        rw [h] at f
        have hk := ksD_ksOf e
        subst hk
        cases rk with
        | @tup b vs _ hb rb =>
          have hv : vs = key.map kV := RepL.keys key vs rb
          refine ⟨a, valV xs key, rfl, DGet.t ha (by rw [hb, hv]), f⟩
end
end DL
end
section
set_option autoImplicit false
namespace DL
open PySem PySem.Spec L2
section
variable {T : Cfg} {H H' : Hp} {SS : Addr → Prop} {s : Strm} {σ : St} {v w : V} {d c : D} {vs : List V} {ds : List D}
variable {X : Cx} {pins : List (Addr × Obj)} {sh : Shared}
theorem map_bl {o : Option Bool} {f : Bool → D} (h : o.map f = some c) : ∃ b, o = some b ∧ c = f b := by
  cases o with
  | none => cases h
  | some b => exact ⟨b, rfl, (Option.some.inj h).symm⟩
theorem str_of_list {x : Str} {c : Nat} (h : x.cps.toList = [c]) : x = ⟨#[c]⟩ := by
  have e : x.cps = #[c] := by rw [← Array.toList_inj]; exact h
  rw [← e]
theorem RelVb (b : Bool) (I : Inv X pins σ H sh) {Q : VK} (h : Q (.bl b) H) : EP X pins σ Q (.bool b) sh := ⟨.bl b, H, I, rfl, h⟩
theorem RepP.some' {o : Option D} {ov : Option V} (h : RepP T H SS o ov) : ov.isSome = o.isSome := by
  cases o <;> cases ov <;> first | rfl | exact h.elim
theorem inB_run (hu : X.A.units + 64 < cLine) {b : Bool} (r1 : Rep T H SS v d) (r2 : Rep T H SS w c) (hb : inB d c = some b) {Q : VK} :
    (Q (.bl b) H → WO X (compareOp .In) v w H Q) ∧ (Q (.bl !b) H → WO X (compareOp .NotIn) v w H Q) := by
  cases c with
  | lst xs =>
    simp only [inB] at hb
    obtain ⟨h1, h2, rfl⟩ := two_ok hb
    refine ⟨fun q pins sh σ u1 u2 I rx ry => ?_, fun q pins sh σ u1 u2 I rx ry => ?_⟩
    all_goals
      obtain ⟨x, as, hx, rd1, p1, d1⟩ := r1.reads I h1 rx
      obtain ⟨y, bs, hy, rd2, p2, d2⟩ := r2.reads I h2 ry
      simp [toPy] at hy
      obtain ⟨ys, hys, rfl⟩ := hy
      have pa : PyData.plainAll ys = true := by simpa [PyData.plain] using p2
      have pd : PyData.depthAll ys ≤ 50 := by simp only [PyData.depth] at d2; omega
    · exact PySem.SeqAt.in_list_data rd2 rd1 pa p1 (by omega) (by rw [any_eqv hx xs ys hys]; exact RelVb _ I q)
    · exact PySem.SeqAt.notIn_list_data rd2 rd1 pa p1 (by omega) (by rw [any_eqv hx xs ys hys]; exact RelVb _ I q)
  | tup xs =>
    simp only [inB] at hb
    obtain ⟨h1, h2, rfl⟩ := two_ok hb
    refine ⟨fun q pins sh σ u1 u2 I rx ry => ?_, fun q pins sh σ u1 u2 I rx ry => ?_⟩
    all_goals
      obtain ⟨x, as, hx, rd1, p1, d1⟩ := r1.reads I h1 rx
      obtain ⟨y, bs, hy, rd2, p2, d2⟩ := r2.reads I h2 ry
      simp [toPy] at hy
      obtain ⟨ys, hys, rfl⟩ := hy
      have pa : PyData.plainAll ys = true := by simpa [PyData.plain] using p2
      have pd : PyData.depthAll ys ≤ 50 := by simp only [PyData.depth] at d2; omega
    · exact PySem.SeqAt.in_tuple_data rd2 rd1 pa p1 (by omega) (by rw [any_eqv hx xs ys hys]; exact RelVb _ I q)
    · exact PySem.SeqAt.notIn_tuple_data rd2 rd1 pa p1 (by omega) (by rw [any_eqv hx xs ys hys]; exact RelVb _ I q)
  | dic t kvs =>
    simp only [inB] at hb
    cases e : getD? (.dic t kvs) d with
    | none => rw [e] at hb; cases hb
    | some o =>
      rw [e] at hb
      have hb : o.isSome = b := Option.some.inj hb
      obtain ⟨a, ov, rfl, g, rp⟩ := r2.get r1 e
      refine ⟨fun q pins sh σ u1 u2 I rx ry => ?_, fun q pins sh σ u1 u2 I rx ry => ?_⟩
      · cases ry
        exact d_in (by omega) I g rx fun s' I' => ⟨.bl _, H, I', rfl, by rw [rp.some', hb]; exact q⟩
      · cases ry
        exact d_notIn (by omega) I g rx fun s' I' => ⟨.bl _, H, I', rfl, by rw [rp.some', hb]; exact q⟩
  | str z =>
    cases d with
    | str y =>
      simp only [inB] at hb
      split at hb
      · rename_i cc hcc
        have hb : decide (cc ∈ z.cps.toList) = b := Option.some.inj hb
        cases r1; cases r2
        have e := str_of_list hcc
        exact ⟨fun q => WO.of op_in_sign ⟨cc, z, by rw [e], rfl, by rw [hb]; exact q⟩, fun q => WO.of op_notIn_sign ⟨cc, z, by rw [e], rfl, by rw [hb]; exact q⟩⟩
      · cases hb
    | _ => simp [inB] at hb
  | _ => simp [inB] at hb
theorem v_in (hu : X.A.units + 64 < cLine) : OpV T X (compareOp .In) inD .atom := fun H s SS v w d e c st hS r1 r2 hf Q hQ => by
  obtain ⟨b, hb, rfl⟩ := map_bl hf
  exact (inB_run hu r1 r2 hb).1 (hQ _ H Ext.refl st (.bl _))
theorem v_nin (hu : X.A.units + 64 < cLine) : OpV T X (compareOp .NotIn) ninD .atom := fun H s SS v w d e c st hS r1 r2 hf Q hQ => by
  obtain ⟨b, hb, rfl⟩ := map_bl hf
  exact (inB_run hu r1 r2 hb).2 (hQ _ H Ext.refl st (.bl _))
theorem v_isN : OpV T X (compareOp .Is) (fun a b => match a with | .opq _ => none | a => isND a b) .atom := by
  intro H s SS v w d e c st hS r1 r2 hf Q hQ
  cases e with
  | non =>
    cases r2
    have go : ∀ k : Bool, decide (v = .non) = k → c = .bl k → WO X (compareOp .Is) v .non H Q := fun k hk hc => by
      subst hc
      exact WO.of op_isN ⟨rfl, by rw [hk]; exact hQ _ H Ext.refl st (.bl _)⟩
    cases r1 <;> first | (cases hf; done) | exact go true (by simp) (by cases hf; rfl) | exact go false (by simp) (by cases hf; rfl)
  | _ => cases d <;> cases hf
theorem v_isNN : OpV T X (compareOp .IsNot) (fun a b => match a with | .opq _ => none | a => isNND a b) .atom := by
  intro H s SS v w d e c st hS r1 r2 hf Q hQ
  cases e with
  | non =>
    cases r2
    have go : ∀ k : Bool, (!decide (v = .non)) = k → c = .bl k → WO X (compareOp .IsNot) v .non H Q := fun k hk hc => by
      subst hc
      exact WO.of op_notN ⟨rfl, by rw [hk]; exact hQ _ H Ext.refl st (.bl _)⟩
    cases r1 <;> first | (cases hf; done) | exact go true (by simp) (by cases hf; rfl) | exact go false (by simp) (by cases hf; rfl)
  | _ => cases d <;> cases hf
theorem v_lt : OpV T X (compareOp .Lt) ltD .atom := by
  intro H s SS v w d e c st hS r1 r2 hf Q hQ
  cases d <;> cases e <;> first | (cases hf; cases r1; cases r2; first | exact WO.of op_lt ⟨_, _, rfl, rfl, hQ _ H Ext.refl st (.bl _)⟩ | exact WO.of op_lt_str ⟨_, _, rfl, rfl, hQ _ H Ext.refl st (.bl _)⟩) | cases hf
theorem v_gt : OpV T X (compareOp .Gt) gtD .atom := by
  intro H s SS v w d e c st hS r1 r2 hf Q hQ
  cases d <;> cases e <;> first | (cases hf; cases r1; cases r2; first | exact WO.of op_gt ⟨_, _, rfl, rfl, hQ _ H Ext.refl st (.bl _)⟩ | exact WO.of op_gt_str ⟨_, _, rfl, rfl, hQ _ H Ext.refl st (.bl _)⟩) | cases hf
theorem v_ge : OpV T X (compareOp .GtE) geD .atom := by
  intro H s SS v w d e c st hS r1 r2 hf Q hQ
  cases d <;> cases e <;> first | (cases hf; cases r1; cases r2; first | exact WO.of op_ge ⟨_, _, rfl, rfl, hQ _ H Ext.refl st (.bl _)⟩ | exact WO.of op_ge_str ⟨_, _, rfl, rfl, hQ _ H Ext.refl st (.bl _)⟩) | cases hf
theorem v_sub : OpV T X (binaryOp .Sub) subD .atom := by
  intro H s SS v w d e c st hS r1 r2 hf Q hQ
  cases d <;> cases e <;> first | (cases hf; cases r1; cases r2; exact WO.of op_sub ⟨_, _, rfl, rfl, hQ _ H Ext.refl st (.int _)⟩) | cases hf
theorem v_add : OpV T X (binaryOp .Add) addD .atom := by
  intro H s SS v w d e c st hS r1 r2 hf Q hQ
  cases d <;> cases e <;> first | (cases hf; cases r1; cases r2; exact WO.of op_add ⟨_, _, rfl, rfl, hQ _ H Ext.refl st (.int _)⟩) | (simp only [addD] at hf; obtain ⟨h, rfl⟩ := if_some hf; cases r1; cases r2; exact WO.of op_add_str ⟨_, _, rfl, rfl, h, hQ _ H Ext.refl st (.str _)⟩) | cases hf
theorem v_mul : OpV T X (binaryOp .Mult) mulD .atom := by
  intro H s SS v w d e c st hS r1 r2 hf Q hQ
  cases d <;> cases e <;> first | (simp only [mulD] at hf; obtain ⟨h, rfl⟩ := if_some hf; cases r1; cases r2; exact WO.of op_mul ⟨_, _, rfl, rfl, .inl h, hQ _ H Ext.refl st (.int _)⟩) | cases hf
theorem v_neg : UnV T X (unaryOp .USub) negD .atom := by
  intro H s SS v d c st hS r1 hf Q hQ
  cases d <;> first | (cases hf; cases r1; exact WU.of un_neg ⟨_, rfl, hQ _ H Ext.refl st (.int _)⟩) | cases hf
/-- a new list -/
theorem RV.lst {q : Addr} {xs : List V} {es : List D} (st : StmAt T H s) (hS : ∀ a, SS a → anyS T H a) (hq : H q = none) (r : RepL T H SS xs es) :
    Ext T H (upd H q (.lst xs)) ∧ StmAt T (upd H q (.lst xs)) s ∧ RV T H (upd H q (.lst xs)) SS .top (.ref q) (.lst es) := by
  have x3 : Ext T H (upd H q (.lst xs)) := Ext.new hq
  have ne1 : T.st ≠ q := fun z => by rw [← z, st.1] at hq; cases hq
  have ne2 : T.sl ≠ q := fun z => by rw [← z, st.2] at hq; cases hq
  refine ⟨x3, ⟨by rw [upd_ne ne1]; exact st.1, by rw [upd_ne ne2]; exact st.2⟩, ?_⟩
  have kp : Keep SS H (upd H q (.lst xs)) := Keep.ofExt x3 st (fun h => (hS _ h).2.1 rfl) (fun h => (hS _ h).2.2 rfl)
  refine ⟨q, xs, rfl, ⟨hq, by rw [upd_same]; simp⟩, upd_same, (r.keep kp).mono fun a h => ⟨h, ?_⟩⟩
  rintro rfl
  exact (hS _ h).1 hq
theorem RV.tup {q : Addr} {xs : List V} {es : List D} (st : StmAt T H s) (hS : ∀ a, SS a → anyS T H a) (hq : H q = none) (r : RepL T H SS xs es) :
    Ext T H (upd H q (.tup xs)) ∧ StmAt T (upd H q (.tup xs)) s ∧ RV T H (upd H q (.tup xs)) SS .part (.ref q) (.tup es) := by
  have x3 : Ext T H (upd H q (.tup xs)) := Ext.new hq
  have ne1 : T.st ≠ q := fun z => by rw [← z, st.1] at hq; cases hq
  have ne2 : T.sl ≠ q := fun z => by rw [← z, st.2] at hq; cases hq
  refine ⟨x3, ⟨by rw [upd_ne ne1]; exact st.1, by rw [upd_ne ne2]; exact st.2⟩, ?_⟩
  have kp : Keep SS H (upd H q (.tup xs)) := Keep.ofExt x3 st (fun h => (hS _ h).2.1 rfl) (fun h => (hS _ h).2.2 rfl)
  exact Rep.tup upd_same (r.keep kp)
theorem v_cat : OpV T X (binaryOp .Add) catD .top := by
  intro H s SS v w d e c st hS r1 r2 hf Q hQ
  cases d <;> cases e <;> first | (cases hf; done) | skip
  simp only [catD] at hf
  obtain ⟨h, rfl⟩ := if_some hf
  cases r1 with | lst _ e1 q1 => cases r2 with | lst _ e2 q2 =>
    refine WO.of op_cat ⟨_, _, _, _, rfl, rfl, e1, e2, by rw [q1.len, q2.len]; exact h.2.2, fun p hp => ?_⟩
    obtain ⟨x, st', rv⟩ := RV.lst st hS hp (q1.append q2)
    exact hQ _ _ x st' rv
theorem RepL.flat {n : Nat} {xs : List V} {es : List D} (r : RepL T H SS xs es) : RepL T H SS (List.replicate n xs).flatten (List.replicate n es).flatten := by
  induction n with
  | zero => exact .nil
  | succ n ih => simp only [List.replicate_succ, List.flatten_cons]; exact r.append ih
theorem RepL.one1 (r : RepL T H SS vs [d]) : ∃ v, vs = [v] ∧ Rep T H SS v d := by
  obtain ⟨v, vs', rfl, r1, r2⟩ := r.consL
  rw [r2.nilL]; exact ⟨v, rfl, r1⟩
theorem v_len : CallV T X (.builtin "len") lenD .atom := by
  intro H s SS vs ds c st hS r hf Q hQ
  match ds, r, hf with
  | [.lst xs], r, hf =>
    cases hf
    obtain ⟨v, rfl, r1⟩ := r.one1
    cases r1 with | lst _ e q => exact WC.of call_len ⟨_, _, rfl, .inl ⟨_, SqL.of e, rfl⟩, by rw [q.len]; exact hQ _ H Ext.refl st (.int _)⟩
  | [.tup xs], r, hf =>
    cases hf
    obtain ⟨v, rfl, r1⟩ := r.one1
    cases r1 with | tup e q => exact WC.of call_len ⟨_, _, rfl, .inr ⟨_, SqT.of e, rfl⟩, by rw [q.len]; exact hQ _ H Ext.refl st (.int _)⟩
  | [.str x], r, hf =>
    simp only [lenD] at hf
    obtain ⟨h, rfl⟩ := if_some hf
    obtain ⟨v, rfl, r1⟩ := r.one1
    cases r1
    exact WC.of call_len ⟨_, _, rfl, ⟨h, rfl⟩, hQ _ H Ext.refl st (.int _)⟩
  | [.dic _ kvs], r, hf =>
    cases hf
    obtain ⟨v, rfl, r1⟩ := r.one1
    cases r1 with
    | dK _ e m q =>
      have hl := congrArg List.length m
      rw [List.length_map, List.length_map] at hl
      exact WC.of call_lenD ⟨_, _, rfl, e, by rw [← hl]; exact hQ _ H Ext.refl st (.int _)⟩
    | dT _ e m q =>
      have hl := congrArg List.length m
      rw [List.length_map, List.length_map] at hl
      exact WC.of call_len_dT ⟨_, _, rfl, e, by rw [← hl]; exact hQ _ H Ext.refl st (.int _)⟩
theorem v_list : CallV T X (.type "list") listD .top := by
  intro H s SS vs ds c st hS r hf Q hQ
  match ds, r, hf with
  | [.lst xs], r, hf =>
    cases hf
    obtain ⟨v, rfl, r1⟩ := r.one1
    cases r1 with | lst _ e q => exact WC.of call_list_of ⟨_, _, rfl, .inl (SqL.of e), fun p hp => let ⟨x, st', rv⟩ := RV.lst st hS hp q; hQ _ _ x st' rv⟩
  | [.tup xs], r, hf =>
    cases hf
    obtain ⟨v, rfl, r1⟩ := r.one1
    cases r1 with | tup e q => exact WC.of call_list_of ⟨_, _, rfl, .inr (SqT.of e), fun p hp => let ⟨x, st', rv⟩ := RV.lst st hS hp q; hQ _ _ x st' rv⟩
theorem v_tuple : CallV T X (.type "tuple") tupleD .part := by
  intro H s SS vs ds c st hS r hf Q hQ
  match ds, r, hf with
  | [.lst xs], r, hf =>
    cases hf
    obtain ⟨v, rfl, r1⟩ := r.one1
    cases r1 with | lst _ e q => exact WC.of call_tuple_of ⟨_, _, rfl, .inl ⟨SqL.of e, fun p hp => let ⟨x, st', rv⟩ := RV.tup st hS hp q; hQ _ _ x st' rv⟩⟩
  | [.tup xs], r, hf =>
    cases hf
    obtain ⟨v, rfl, r1⟩ := r.one1
    cases r1 with | tup e q => exact WC.of call_tuple_of ⟨_, _, rfl, .inr ⟨SqT.of e, hQ _ H Ext.refl st (Rep.tup e q)⟩⟩
theorem v_int : CallV T X (.type "int") intD .atom := by
  intro H s SS vs ds c st hS r hf Q hQ
  match ds, r, hf with
  | [.int i], r, hf =>
    cases hf
    obtain ⟨v, rfl, r1⟩ := r.one1
    cases r1
    exact WC.of call_int1 (.inl ⟨_, rfl, hQ _ H Ext.refl st (.int _)⟩)
  | [.bl b], r, hf =>
    cases hf
    obtain ⟨v, rfl, r1⟩ := r.one1
    cases r1
    exact WC.of call_int1 (.inr ⟨_, rfl, hQ _ H Ext.refl st (.int _)⟩)
end
end DL
end
section
set_option autoImplicit false
namespace DL
open PySem PySem.Spec L2
section
variable {T : Cfg} {H0 H H' H1 H2 H3 : Hp} {S0 SS : Addr → Prop} {Γ Γ' Γ1 Γ2 Γ3 : List Md} {ρ ρ' : Env} {s s' s1 s2 : Strm} {σ : St} {tg tg' tg1 tg2 : Tags} {v w : V} {d c : D} {vs : List V} {ds : List D} {m m' : Md} {rm : Rm}
variable {X : Cx} {E : XK} {e a b : Expr} {es : List Expr} {F Fa Fb : EF} {pos p : Pos} {x : Str}
theorem atI_rep (r : RepL T H SS vs ds) {i : Int} {d : D} (h : atI ds i = some d) : ∃ z, atI vs i = some z ∧ Rep T H SS z d := by
  unfold atI at h ⊢
  rw [r.len]
  cases e : ixN ds.length i with
  | none => rw [e] at h; cases h
  | some j =>
    rw [e] at h
    obtain ⟨z, h1, h2⟩ := r.get j d h
    exact ⟨z, h1, h2⟩
theorem ix_run (r1 : Rep T H SS v d) {i0 : Int} (hd : ∀ t kvs, d ≠ .dic t kvs) (h : ixD d (.int i0) = some c) : ∃ z, Rep T H SS z c ∧ ∀ (K : PySem.W.Frag) (Q : VK), Q z H → rIx K v (.int i0) H Q := by
  cases d with
  | lst xs =>
    simp only [ixD] at h
    cases r1 with | lst hS e rr =>
      obtain ⟨z, h1, h2⟩ := atI_rep rr h
      exact ⟨z, h2, fun K Q q => .inl ⟨_, _, _, _, rfl, rfl, SqL.of e, h1, q⟩⟩
  | tup xs =>
    simp only [ixD] at h
    cases r1 with | tup e rr =>
      obtain ⟨z, h1, h2⟩ := atI_rep rr h
      exact ⟨z, h2, fun K Q q => .inr (.inl ⟨_, _, _, _, rfl, rfl, SqT.of e, h1, q⟩)⟩
  | str x =>
    simp only [ixD] at h
    by_cases hl : x.length ≤ sizeLine
    · rw [if_pos hl] at h
      cases e : atI x.cps.toList i0 with
      | none => rw [e] at h; cases h
      | some cc =>
        rw [e] at h
        cases h
        cases r1
        exact ⟨_, .str _, fun K Q q => .inr (.inr ⟨_, _, cc, rfl, rfl, hl, e, q⟩)⟩
    · rw [if_neg hl] at h; cases h
  | dic t kvs => exact absurd rfl (hd t kvs)
  | _ => simp [ixD] at h
theorem ixD_int {e : D} (hd : ∀ t kvs, d ≠ .dic t kvs) (h : ixD d e = some c) : ∃ i, e = .int i := by
  cases d <;> first | exact absurd rfl (hd _ _) | (cases e <;> first | exact ⟨_, rfl⟩ | (simp [ixD] at h))
theorem rep_i {i : Int} (r : RepW T tg SS H m v (.int i)) : v = .int i := by
  have g : ∀ S', Rep T H S' v (.int i) → v = .int i := fun S' h => by cases h; rfl
  cases m <;> exact g _ r
theorem DE.seqE {β : Type} {X : Cx} {E : XK} {a : Expr} {Fa : EF} {k : D → M β} {r : Except Exn β} {Q : VK} (ha : DE T X E Γ a Fa m Γ1) (S : Sta T H0 S0 Γ ρ s σ H tg) (hF : (Fa ρ >>= k) s = some (r, s')) (hE : ErrK T E H s' r)
    (h : ∀ d s1 v H1 tg1, Fa ρ s = some (.ok d, s1) → k d s1 = some (r, s') → Go T H H1 tg tg1 → Sta T H0 S0 Γ1 ρ s1 σ H1 tg1 → RepW T tg1 (frS tg1 H H1) H1 m v d → ErrK T E H1 s' r → Q v H1) : WE X a σ H Q := by
  rcases M.bind_some hF with ⟨e, h1, rfl⟩ | ⟨d, s1, h1, h2⟩
  · exact ha _ _ _ _ _ _ _ S _ _ h1 Q (hE e rfl)
  · exact ha _ _ _ _ _ _ _ S _ _ h1 Q fun v H1 tg1 g S1 r1 => h d s1 v H1 tg1 h1 h2 g S1 r1 (hE.later g)
/-- x[i], x of any kind: the parts of x are held as x is -/
theorem de_ixG {g : D → D → Option D} {mr : Md} (hu : X.A.units + 64 < cLine) (ha : DE T X E Γ a Fa m Γ1) (hb : DE T X E Γ1 b Fb .any Γ2) (hm : m.flat = true) (hs : PlainIx b)
    (hg : ∀ d e c, g d e = some c → ixD d e = some c) (hr : ∀ d e c, g d e = some c → ∀ H H' tg z, Rep T H' (setW T tg (frS tg H H') H' m) z c → RepW T tg (frS tg H H') H' mr z c) :
    DE T X E Γ (.Subscript a b pos) (fOp g Fa Fb) mr Γ2 := by
  refine ⟨?_⟩
  intro H0 S0 ρ s σ H tg S r s' hF Q hQ
  -- which kind of thing it is
  by_cases hk : ∃ t kvs s1, Fa ρ s = some (.ok (.dic t kvs), s1)
  · obtain ⟨t, kvs, s0, hk⟩ := hk
    refine WE.of (pe_dget (by omega) WE.pe WE.pe hs) ?_
    refine ha.seqE S hF hQ.ek fun d s1 v H1 tg1 hfa hk1 g1 S1 r1 e1 => ?_
    rw [hk] at hfa
    cases hfa
    refine hb.seq S1 hk1 e1 fun e s2 w H2 tg2 hk2 g2 S2 r2 e2 => ?_
    obtain ⟨c, hc, rfl, rfl⟩ := M.of_some hk2
    have r1' := (RepW.flat hm).mp (r1.later S S1 S2 g2)
    have hix := hg _ _ _ hc
    have hgd : getD? (.dic t kvs) e = some (some c) := by
      simp only [ixD] at hix
      cases h : getD? (.dic t kvs) e with
      | none => rw [h] at hix; cases hix
      | some o => rw [h] at hix; rw [show o = some c from hix]
    obtain ⟨ad, ov, rfl, gg, rp⟩ := r1'.get (S1 := anyS T H2) r2 hgd
    cases ov with
    | none => exact rp.elim
    | some z => exact ⟨ad, z, rfl, gg, hQ z H2 tg2 (g1.trans g2) S2 (hr _ _ _ hc _ _ _ _ rp)⟩
  · refine WE.of (pe_ix ix_seq WE.pe WE.pe hs) ?_
    refine ha.seqE S hF hQ.ek fun d s1 v H1 tg1 hfa hk1 g1 S1 r1 e1 => ?_
    refine hb.seq S1 hk1 e1 fun e s2 w H2 tg2 hk2 g2 S2 r2 e2 => ?_
    obtain ⟨c, hc, rfl, rfl⟩ := M.of_some hk2
    have r1' := (RepW.flat hm).mp (r1.later S S1 S2 g2)
    have hix := hg _ _ _ hc
    have hd : ∀ t kvs, d ≠ .dic t kvs := fun t kvs q => hk ⟨t, kvs, s1, by rw [← q]; exact hfa⟩
    obtain ⟨i, rfl⟩ := ixD_int hd hix
    have hw := rep_i r2
    subst hw
    obtain ⟨z, h1, h2⟩ := ix_run r1' hd hix
    exact h2 _ _ (hQ z H2 tg2 (g1.trans g2) S2 (hr _ _ _ hc _ _ _ _ h1))
/-- x[i], held as x is -/
theorem de_ix (hu : X.A.units + 64 < cLine) (ha : DE T X E Γ a Fa m Γ1) (hb : DE T X E Γ1 b Fb .any Γ2) (hm : m.flat = true := by rfl) (hs : PlainIx b := by exact fun _ _ => rfl) : DE T X E Γ (.Subscript a b pos) (fOp ixD Fa Fb) m Γ2 :=
  de_ixG hu ha hb hm hs (fun _ _ _ h => h) fun _ _ _ _ _ _ _ _ r => (RepW.flat hm).mpr r
def ixA (d e : D) : Option D := fz (ixD d e)
/-- x[i], without lists or dicts -/
theorem de_ixA (hu : X.A.units + 64 < cLine) (ha : DE T X E Γ a Fa .any Γ1) (hb : DE T X E Γ1 b Fb .any Γ2) (hs : PlainIx b := by exact fun _ _ => rfl) : DE T X E Γ (.Subscript a b pos) (fOp ixA Fa Fb) .atom Γ2 :=
  de_ixG hu ha hb rfl hs (fun _ _ _ h => (fz_some h).1) fun _ _ _ h _ _ _ _ r => r.frozen (fz_some h).2
/-- a bound of a slice -/
structure DP (T : Cfg) (X : Cx) (E : XK) (Γ : List Md) (e : Option Expr) (F : Env → M (Option Int)) : Prop where
  mk ::
  run : ∀ H0 S0 ρ s σ H tg, Sta T H0 S0 Γ ρ s σ H tg → ∀ r s', F ρ s = some (r, s') → ∀ Q : Option Int → Hp → Prop,
    (match r with
    | .ok o => ∀ H' tg', Go T H H' tg tg' → Sta T H0 S0 Γ ρ s' σ H' tg' → Q o H'
    | .error x => ∀ c dx H', Thr T H x s' c dx H' → E c (some dx) H') →
    ∀ pins sh, Inv X pins σ H sh → wpAny (model X.prog X.w) X.A (evalPart e X.env) (fun u s' => ∃ o H', Inv X pins σ H' s' ∧ IsPart u o ∧ Q o H') X.xe sh
instance {T : Cfg} {X : Cx} {E : XK} {Γ : List Md} {e : Option Expr} {F : Env → M (Option Int)} : CoeFun (DP T X E Γ e F) (fun _ => ∀ H0 S0 ρ s σ H tg, Sta T H0 S0 Γ ρ s σ H tg → ∀ r s', F ρ s = some (r, s') → ∀ Q : Option Int → Hp → Prop,
    (match r with
    | .ok o => ∀ H' tg', Go T H H' tg tg' → Sta T H0 S0 Γ ρ s' σ H' tg' → Q o H'
    | .error x => ∀ c dx H', Thr T H x s' c dx H' → E c (some dx) H') →
    ∀ pins sh, Inv X pins σ H sh → wpAny (model X.prog X.w) X.A (evalPart e X.env) (fun u s' => ∃ o H', Inv X pins σ H' s' ∧ IsPart u o ∧ Q o H') X.xe sh) := ⟨DP.run⟩
def pNo : Env → M (Option Int) := fun _ => pure none
def intM : D → M Int
  | .int i => pure i
  | _ => M.fail
def pSome (Fa : EF) : Env → M (Option Int) := fun ρ => do let d ← Fa ρ; let i ← intM d; pure (some i)
theorem dp_no : DP T X E Γ none pNo := by
  refine ⟨?_⟩
  intro H0 S0 ρ s σ H tg S r s' hF Q hQ pins sh I
  cases hF
  exact po_none.run pins sh σ H Q I (hQ H tg (Go.refl S) S)
theorem intM_some {r : Except Exn Int} (h : intM d s = some (r, s')) : ∃ i, d = .int i ∧ r = .ok i ∧ s' = s := by
  cases d <;> first | (cases h; exact ⟨_, rfl, rfl, rfl⟩) | cases h
theorem dp_some (ha : DE T X E Γ a Fa m Γ) : DP T X E Γ (some a) (pSome Fa) := by
  refine ⟨?_⟩
  intro H0 S0 ρ s σ H tg S r s' hF Q hQ pins sh I
  refine (po_some WE.pe).run pins sh σ H Q I ?_
  refine ha.seq S hF (fun x e => by subst e; exact hQ) fun d s1 v H1 tg1 hk g1 S1 r1 e1 => ?_
  rcases M.bind_some hk with ⟨x, h1, rfl⟩ | ⟨i, s2, h1, h2⟩
  · obtain ⟨_, _, q, _⟩ := intM_some h1; cases q
  · obtain ⟨i', rfl, q, rfl⟩ := intM_some h1
    cases q; cases h2
    exact ⟨_, rep_i r1, hQ H1 tg1 g1 S1⟩
theorem DP.po {e : Option Expr} {F : Env → M (Option Int)} (h : DP T X E Γ e F) : PO X e (fun σ H Q => ∃ H0 S0 ρ s tg r s', Sta T H0 S0 Γ ρ s σ H tg ∧ F ρ s = some (r, s') ∧ (match r with
    | .ok o => ∀ H' tg', Go T H H' tg tg' → Sta T H0 S0 Γ ρ s' σ H' tg' → Q o H'
    | .error x => ∀ c dx H', Thr T H x s' c dx H' → E c (some dx) H')) :=
  ⟨fun pins sh σ H Q I ⟨H0, S0, ρ, s, tg, r, s', S, hF, hQ⟩ => h H0 S0 ρ s σ H tg S r s' hF Q hQ pins sh I⟩
def fSl (g : D → Option Int → Option Int → Option D) (Fa : EF) (Fl Fh : Env → M (Option Int)) : EF := fun ρ => do
  let x ← Fa ρ
  let l ← Fl ρ
  let h ← Fh ρ
  M.of (g x l h)
def WSl (X : Cx) (x : V) (lo hi : Option Int) (H : Hp) (Q : VK) : Prop := ∀ pins s σ v vl vu sl, Inv X pins σ H s → RelV x v → s.heap.IsSliceOf sl vl vu .none → IsPart vl lo → IsPart vu hi →
    ∃ T id, typeLookup (.type T) "__getitem__" = pure (some (.builtin id)) ∧ s.TypeIs v T ∧ wpAny (model X.prog X.w) X.A (getItem v (.ref sl)) (EP X pins σ Q) X.xe s
theorem WSl.r {X : Cx} : SlR X (WSl X) := fun pins s σ H x v vl vu lo hi sl Q I rx hs pl pu h => h pins s σ v vl vu sl I rx hs pl pu
theorem WSl.of {X : Cx} {r : V → Option Int → Option Int → Hp → VK → Prop} {x : V} {lo hi : Option Int} {H : Hp} {Q : VK} (p : SlR X r) (h : r x lo hi H Q) : WSl X x lo hi H Q := fun pins s σ v vl vu sl I rx hs pl pu => p pins s σ H x v vl vu lo hi sl Q I rx hs pl pu h
def SlV (T : Cfg) (X : Cx) (g : D → Option Int → Option Int → Option D) (rm : Rm) : Prop :=
  ∀ H s SS v d lo hi c, StmAt T H s → (∀ a, SS a → anyS T H a) → Rep T H SS v d → g d lo hi = some c → ∀ Q : VK, (∀ z H', Ext T H H' → StmAt T H' s → RV T H H' SS rm z c → Q z H') → WSl X v lo hi H Q
theorem RepL.cut {lo hi : Option Int} (r : RepL T H SS vs ds) : RepL T H SS (cutG vs lo hi) (cutG ds lo hi) := by
  have dr : ∀ (n : Nat) {vs : List V} {ds : List D}, RepL T H SS vs ds → RepL T H SS (vs.drop n) (ds.drop n) := by
    intro n
    induction n with
    | zero => exact fun r => r
    | succ n ih => intro vs ds r; cases r with | nil => exact .nil | cons a b => exact ih b
  have tk : ∀ (n : Nat) {vs : List V} {ds : List D}, RepL T H SS vs ds → RepL T H SS (vs.take n) (ds.take n) := by
    intro n
    induction n with
    | zero => exact fun _ => .nil
    | succ n ih => intro vs ds r; cases r with | nil => exact .nil | cons a b => exact .cons a (ih b)
  unfold cutG
  rw [r.len]
  exact tk _ (dr _ r)
theorem v_slL : SlV T X slLD .top := by
  intro H s SS v d lo hi c st hS r1 hf Q hQ
  cases d <;> cases hf
  cases r1 with | lst _ e q => exact WSl.of sl_list ⟨_, _, rfl, SqL.of e, fun p hp => let ⟨x, st', rv⟩ := RV.lst st hS hp (q.cut (lo := lo) (hi := hi)); hQ _ _ x st' rv⟩
theorem cut_whole {α : Type} {xs : List α} {lo hi : Option Int} (h : HT.sIx xs.length 0 lo = 0 ∧ HT.sIx xs.length xs.length hi = xs.length) : cutG xs lo hi = xs := by
  unfold cutG
  rw [h.1, h.2]; simp
theorem v_slT : SlV T X slTD .part := by
  intro H s SS v d lo hi c st hS r1 hf Q hQ
  cases d with
  | tup xs =>
    cases hf
    cases r1 with | tup e q =>
      refine WSl.of sl_tupA ⟨_, _, rfl, SqT.of e, fun h => ?_, fun h p hp => ?_⟩
      · rw [q.len] at h
        refine hQ _ H Ext.refl st ?_
        show Rep T H SS _ (.tup _)
        rw [cut_whole h]
        exact .tup e q
      · obtain ⟨x, st', rv⟩ := RV.tup st hS hp (q.cut (lo := lo) (hi := hi))
        exact hQ _ _ x st' rv
  | str z =>
    simp only [slTD] at hf
    obtain ⟨h, rfl⟩ := if_some hf
    cases r1
    exact WSl.of sl_str ⟨z, rfl, h, hQ _ H Ext.refl st (Rep.str _)⟩
  | _ => cases hf
/-- x[a:b] -/
theorem de_sl {g : D → Option Int → Option Int → Option D} {lo hi : Option Expr} {Fl Fh : Env → M (Option Int)} {p2 : Pos} (h : SlV T X g rm) (ha : DE T X E Γ a Fa m Γ1) (hl : DP T X E Γ1 lo Fl) (hh : DP T X E Γ1 hi Fh) (hm : m.flat = true := by rfl)
    (hr : rm = .top → m ≠ .any := by first | (intro q; cases q; done) | (intro q z; cases z; done)) : DE T X E Γ (.Subscript a (.Slice lo hi none p2) pos) (fSl g Fa Fl Fh) (rmM m rm) Γ1 := by
  refine ⟨?_⟩
  intro H0 S0 ρ s σ H tg S r s' hF Q hQ
  refine WE.of (pe_slice WSl.r WE.pe hl.po hh.po) ?_
  refine ha.seq S hF hQ.ek fun d s1 v H1 tg1 hk1 g1 S1 r1 e1 => ?_
  rcases M.bind_some hk1 with ⟨x, h1, rfl⟩ | ⟨l, s2, h1, h2⟩
  · exact ⟨_, _, _, _, _, _, _, S1, h1, e1 x rfl⟩
  refine ⟨_, _, _, _, _, _, _, S1, h1, fun H2 tg2 g2 S2 => ?_⟩
  rcases M.bind_some h2 with ⟨x, h3, rfl⟩ | ⟨u, s3, h3, h4⟩
  · exact ⟨_, _, _, _, _, _, _, S2, h3, (e1.later g2) x rfl⟩
  refine ⟨_, _, _, _, _, _, _, S2, h3, fun H3 tg3 g3 S3 => ?_⟩
  obtain ⟨c, hc, rfl, rfl⟩ := M.of_some h4
  have r1' := (RepW.flat hm).mp (r1.later S S1 S3 (g2.trans g3))
  have gg := g1.trans (g2.trans g3)
  exact h H3 _ _ v d l u c S3.stm (set_any S S3) r1' hc Q fun z H4 x4 st4 rv => hQ z H4 tg3 (gg.trans (Go.lay S3 x4 st4)) (S3.ext0 x4 st4) (rv.res S S3 gg x4 st4 hm hr)
theorem de_fld {f : Str} (hc : ∀ c, Cls X.K (T.cls c)) (hn : ∀ c, NoAttr X.K (T.cls c) f) (ha : DE T X E Γ a Fa m Γ1) (hm : m.flat = true := by rfl) (hb : attributeBase a f X.env (eval a X.env) = eval a X.env := by rfl) : DE T X E Γ (.Attribute a f pos) (fUn (fldD f) Fa) m Γ1 := by
  refine ⟨?_⟩
  intro H0 S0 ρ s σ H tg S r s' hF Q hQ
  refine WE.of (pe_fld WE.pe hb) ?_
  refine ha.seq S hF hQ.ek fun d s1 v H1 tg1 hk g1 S1 r1 e1 => ?_
  obtain ⟨c, hc', rfl, rfl⟩ := M.of_some hk
  have r1' := (RepW.flat hm).mp r1
  cases d <;> simp only [fldD] at hc' <;> first | (cases hc'; done) | skip
  rename_i cn fs
  cases r1' with
  | @obj ad dx _ xs _ he hk2 rr =>
    have key : ∀ (fs : List (Str × D)) (xs : List (Str × V)), fs.map (·.1) = xs.map (·.1) → RepL T H1 (setW T tg1 (frS tg1 H H1) H1 m) (xs.map (·.2)) (fs.map (·.2)) → (fs.find? fun p => decide (p.1 = f)).map (·.2) = some c → ∃ z, xs.lookup f = some z ∧ Rep T H1 (setW T tg1 (frS tg1 H H1) H1 m) z c := by
      intro fs
      induction fs with
      | nil => intro xs _ _ h; cases h
      | cons p fs ih =>
        intro xs hx rr h
        cases xs with
        | nil => simp at hx
        | cons q xs =>
          simp only [List.map_cons, List.cons.injEq] at hx
          obtain ⟨v0, vs0, e0, q1, q2⟩ := RepL.consL (by simpa using rr)
          simp only [List.map_cons, List.cons.injEq] at e0
          by_cases hp : p.1 = f
          · simp only [List.find?_cons, hp, decide_true, Option.map_some, Option.some.injEq] at h
            refine ⟨q.2, ?_, ?_⟩
            · obtain ⟨qa, qb⟩ := q
              rw [hx.1] at hp
              rw [List.lookup_cons, show (f == qa) = true by rw [beq_iff_eq]; exact hp.symm]
            · rw [e0.1, ← h]; exact q1
          · simp only [List.find?_cons, hp, decide_false] at h
            obtain ⟨z, h1, h2⟩ := ih xs hx.2 (by rw [e0.2]; exact q2) h
            refine ⟨z, ?_, h2⟩
            obtain ⟨qa, qb⟩ := q
            rw [hx.1] at hp
            rw [List.lookup_cons, show (f == qa) = false by rw [beq_eq_false_iff_ne]; exact fun w => hp w.symm]
            exact h1
    obtain ⟨z, h1, h2⟩ := key fs xs hk2 rr hc'
    exact ⟨ad, _, dx, xs, z, rfl, he, hc cn, hn cn, h1, hQ z H1 tg1 g1 S1 ((RepW.flat hm).mpr h2)⟩
end
end DL
end
section
set_option autoImplicit false
namespace DL
open PySem PySem.Spec L2
/-- what the written part says of the own classes (T.cls), for isinstance and fields -/
structure KO (T : Cfg) (K : PySem.W.Frag) : Prop where
  cls : ∀ c, Cls K (T.cls c)
  ha : ∀ c, PySem.W.findIn K (.ref (T.cls c)) "__class__" = some (some (.builtin "object.__class__"))
  hn : PySem.W.specialIn K (.builtin "object.__class__") "__get__" = some (some (.builtin "getset_descriptor.__get__"))
  htk : PySem.W.takesIn K (.builtin "object.__class__") = some true
  hm : ∀ c, PySem.W.mroIn K (T.cls c) (.type "object") = some true
  isTy : ∀ c (n : TN), PySem.W.kitOne K (.ref (T.cls c)) (.type n.nm) = some false
  isOwn : ∀ c (m : String), m ∈ ["NoneType", "bool", "int", "str", "list", "tuple", "dict"] → PySem.W.kitOne K (.type m) (.ref (T.cls c)) = some false
  own : ∀ c, PySem.W.kitOne K (.ref (T.cls c)) (.ref (T.cls c)) = some true
section
variable {T : Cfg} {H0 H H' H1 H2 H3 : Hp} {S0 SS : Addr → Prop} {Γ Γ' Γ1 Γ2 Γ3 : List Md} {ρ ρ' : Env} {s s' s1 s2 : Strm} {σ : St} {tg tg' tg1 tg2 : Tags} {v w : V} {d c : D} {vs : List V} {ds : List D} {m m' : Md} {rm : Rm}
variable {X : Cx} {E : XK} {e a b : Expr} {es : List Expr} {F Fa Fb : EF} {pos p : Pos} {x : Str}
def TC.val (T : Cfg) : TC → Value
  | .b n => .type n.nm
  | .o c => .ref (T.cls c)
def TC.cv (T : Cfg) : TC → V
  | .b n => .ty n.nm
  | .o c => .ref (T.cls c)
theorem TC.clsV (tc : TC) : ClsV (tc.cv T) (tc.val T) := by
  cases tc with
  | b n => exact .ty _
  | o c => exact .own _
theorem ty_run {K : PySem.W.Frag} (O : KO T K) (r : Rep T H SS v d) (h1 : d ≠ .stm) (h2 : ∀ v, d ≠ .opq v) : ∃ t, TyX K H v t ∧ ∀ (tc : TC) (b : Bool), isC tc d = some b → PySem.W.kitOne K t (tc.val T) = some b := by
  have own : ∀ (m : String), m ∈ ["NoneType", "bool", "int", "str", "list", "tuple", "dict"] → (∀ cc fs, d ≠ .obj cc fs) → ∀ cc b, isC (.o cc) d = some b → PySem.W.kitOne K (.type m) ((TC.o cc).val T) = some b := fun m hl ho cc b h => by
    have hb : b = false := by cases d <;> simp [isC, isO] at h <;> first | exact h.symm | exact absurd rfl (ho _ _) | exact h
    rw [hb]; exact O.isOwn cc m hl
  cases r with
  | non => exact ⟨_, .base .non, fun tc b h => by cases tc with | b n => cases n <;> cases h <;> exact kit_ty (by decide +kernel) | o cc => exact own "NoneType" (by simp) (fun _ _ q => by cases q) cc b h⟩
  | bl x => exact ⟨_, .base (.bl _), fun tc b h => by cases tc with | b n => cases n <;> cases h <;> exact kit_ty (by decide +kernel) | o cc => exact own "bool" (by simp) (fun _ _ q => by cases q) cc b h⟩
  | int i => exact ⟨_, .base (.int _), fun tc b h => by cases tc with | b n => cases n <;> cases h <;> exact kit_ty (by decide +kernel) | o cc => exact own "int" (by simp) (fun _ _ q => by cases q) cc b h⟩
  | str x => exact ⟨_, .base (.str _), fun tc b h => by cases tc with | b n => cases n <;> cases h <;> exact kit_ty (by decide +kernel) | o cc => exact own "str" (by simp) (fun _ _ q => by cases q) cc b h⟩
  | lst _ e _ => exact ⟨_, .base (.lst e), fun tc b h => by cases tc with | b n => cases n <;> cases h <;> exact kit_ty (by decide +kernel) | o cc => exact own "list" (by simp) (fun _ _ q => by cases q) cc b h⟩
  | tup e _ => exact ⟨_, .base (.tup e), fun tc b h => by cases tc with | b n => cases n <;> cases h <;> exact kit_ty (by decide +kernel) | o cc => exact own "tuple" (by simp) (fun _ _ q => by cases q) cc b h⟩
  | dK _ e _ _ => exact ⟨_, .base (.dK e), fun tc b h => by cases tc with | b n => cases n <;> cases h <;> exact kit_ty (by decide +kernel) | o cc => exact own "dict" (by simp) (fun _ _ q => by cases q) cc b h⟩
  | dT _ e _ _ => exact ⟨_, .base (.dT e), fun tc b h => by cases tc with | b n => cases n <;> cases h <;> exact kit_ty (by decide +kernel) | o cc => exact own "dict" (by simp) (fun _ _ q => by cases q) cc b h⟩
  | @obj _ _ cn _ _ e _ _ =>
    refine ⟨_, .base (.ins e (O.cls _) (O.ha _) O.hn O.htk (O.hm _)), fun tc b h => ?_⟩
    cases tc with
    | b n =>
      have hb : b = false := by cases n <;> cases h <;> rfl
      rw [hb]; exact O.isTy _ n
    | o cc =>
      simp only [isC, isO] at h
      obtain ⟨e1, e2⟩ := if_some h
      subst e1; subst e2
      exact O.own _
  | wl _ e => exact ⟨_, .base (.lst e), fun tc b h => by cases tc with | b n => cases n <;> cases h <;> exact kit_ty (by decide +kernel) | o cc => exact own "list" (by simp) (fun _ _ q => by cases q) cc b h⟩
  | stm => exact absurd rfl h1
  | opq v => exact absurd rfl (h2 v)
theorem isC_no {tc : TC} {b : Bool} (h : isC tc d = some b) : d ≠ .stm ∧ ∀ v, d ≠ .opq v := by
  constructor
  · rintro rfl; cases tc with
    | b n => cases n <;> cases h
    | o c => cases h
  · rintro v rfl; cases tc with
    | b n => cases n <;> cases h
    | o c => cases h
def fIsi (ts : List TC) (Fa : EF) : EF := fun ρ => do let d ← Fa ρ; M.of ((isiD ts d).map .bl)
/-- a class by its name -/
structure CNm (T : Cfg) (X : Cx) (e : Expr) (tc : TC) : Prop where
  pe : PE X e (tC (tc.cv T))
theorem isiD_one {tc : TC} {b : Bool} (h : isiD [tc] d = some b) : isC tc d = some b := by
  unfold isiD at h
  cases e : isC tc d with
  | none => rw [e] at h; cases h
  | some k => rw [e] at h; cases k <;> exact h
theorem de_isi {tc : TC} {c : Expr} (O : KO T X.K) (hm0 : X.mg "isinstance" = none) (hc : CNm T X c tc) (ha : DE T X E Γ a Fa m Γ1) (hg : Gl X "isinstance" := by rfl)
    (he : starEach (a :: [c]) X.env = (false, eval a X.env) :: starEach [c] X.env := by rfl) (he2 : starEach (c :: []) X.env = (false, eval c X.env) :: starEach [] X.env := by rfl) (hpl : (backTo pos (starEach [c] X.env)).any (·.1) = false := by rfl) :
    DE T X E Γ (.Call (.Name "isinstance" p) [a, c] [] pos) (fIsi [tc] Fa) .atom Γ1 := by
  refine ⟨?_⟩
  intro H0 S0 ρ s σ H tg S r s' hF Q hQ
  refine WE.of (pe_callB call_isi hg hm0 (by decide +kernel) (pa_cons WE.pe (pa_cons hc.pe pa_nil he2) he) (by decide) (by decide) he hpl) ?_
  show WE X a σ H fun x H1 => rIsi X.K [x, tc.cv T] H1 Q
  refine ha.seq S hF hQ.ek fun d s1 v H1 tg1 hk g1 S1 r1 e1 => ?_
  obtain ⟨cd, hcd, rfl, rfl⟩ := M.of_some hk
  obtain ⟨b, hb, rfl⟩ := map_bl hcd
  have h1 := isiD_one hb
  obtain ⟨t, ht, hk2⟩ := ty_run O (rep_any S S1 r1) (isC_no h1).1 (isC_no h1).2
  exact ⟨v, _, t, _, b, rfl, tc.clsV, ht, hk2 _ _ h1, hQ _ H1 tg1 g1 S1 (.bl _)⟩
theorem tyx_upd {K : PySem.W.Frag} {q : Addr} {o : HO} {t : Value} (hq : H q = none) (h : TyX K H v t) : TyX K (upd H q o) v t := by
  have k : ∀ {a u}, H a = Option.some u → upd H q o a = Option.some u := fun e => by rw [upd_ne (ne_of_none e hq)]; exact e
  cases h with
  | base h => cases h with
    | non => exact .base .non
    | bl x => exact .base (.bl x)
    | int i => exact .base (.int i)
    | str x => exact .base (.str x)
    | flt x => exact .base (.flt x)
    | lst e => exact .base (.lst (k e))
    | frz e => exact .base (.frz (k e))
    | tup e => exact .base (.tup (k e))
    | dK e => exact .base (.dK (k e))
    | dT e => exact .base (.dT (k e))
    | ins e a b c d f => exact .base (.ins (k e) a b c d f)
  | byt b => exact .byt b
  | set e => exact .set (k e)
  | kList e c => exact .kList e c
  | kTuple e c => exact .kTuple e c
  | kDict e c => exact .kDict e c
  | fTuple e => exact .fTuple (k e)
  | fDict e => exact .fDict (k e)
theorem isiD_first {tc : TC} {ts : List TC} {b : Bool} (h : isiD (tc :: ts) d = some b) : ∃ k, isC tc d = some k := by
  rw [isiD] at h
  cases e : isC tc d with
  | none => rw [e] at h; cases h
  | some k => exact ⟨k, rfl⟩
theorem kit_any {K : PySem.W.Frag} {t : Value} (hk : ∀ (tc : TC) (b : Bool), isC tc d = some b → PySem.W.kitOne K t (tc.val T) = some b) : ∀ {ts : List TC} {b : Bool}, isiD ts d = some b → PySem.W.kitAny K t (ts.map (·.val T)) = some b
  | [], b, h => by cases h; exact kitAny_nil
  | tc :: ts, b, h => by
    rw [isiD] at h
    cases e : isC tc d with
    | none => rw [e] at h; cases h
    | some k =>
      rw [e] at h
      cases k with
      | true => cases h; exact kitAny_cons (hk _ _ e) (fun q => by cases q) fun _ => rfl
      | false => exact kitAny_cons (hk _ _ e) (fun _ => kit_any hk h) fun q => by cases q
/-- isinstance(e, (S, T)) -/
theorem de_isi2 {t1 t2 : TC} {c1 c2 : Expr} {k0 : Nat} {tpos : Pos} (O : KO T X.K) (hm0 : X.mg "isinstance" = none) (hc1 : CNm T X c1 t1) (hc2 : CNm T X c2 t2) (ha : DE T X E Γ a Fa m Γ1) (hg : Gl X "isinstance" := by rfl)
    (he : starEach (a :: [.Tuple [c1, c2] k0 tpos]) X.env = (false, eval a X.env) :: starEach [.Tuple [c1, c2] k0 tpos] X.env := by rfl) (he2 : starEach (.Tuple [c1, c2] k0 tpos :: []) X.env = (false, eval (.Tuple [c1, c2] k0 tpos) X.env) :: starEach [] X.env := by rfl)
    (he3 : starEach (c1 :: [c2]) X.env = (false, eval c1 X.env) :: starEach [c2] X.env := by rfl) (he4 : starEach (c2 :: []) X.env = (false, eval c2 X.env) :: starEach [] X.env := by rfl) (hpl : (backTo pos (starEach [.Tuple [c1, c2] k0 tpos] X.env)).any (·.1) = false := by rfl) :
    DE T X E Γ (.Call (.Name "isinstance" p) [a, .Tuple [c1, c2] k0 tpos] [] pos) (fIsi [t1, t2] Fa) .atom Γ1 := by
  refine ⟨?_⟩
  intro H0 S0 ρ s σ H tg S r s' hF Q hQ
  refine WE.of (pe_callB call_isiT hg hm0 (by decide +kernel) (pa_cons WE.pe (pa_cons (pe_tup (pa_cons hc1.pe (pa_cons hc2.pe pa_nil he4) he3)) pa_nil he2) he) (by decide) (by decide) he hpl) ?_
  show WE X a σ H fun x H1 => ([t1.cv T, t2.cv T] : List V).length ≤ sizeLine ∧ ∀ q, H1 q = none → rIsiT X.K [x, .ref q] (upd H1 q (.tup [t1.cv T, t2.cv T])) Q
  refine ha.seq S hF hQ.ek fun d s1 v H1 tg1 hk g1 S1 r1 e1 => ?_
  obtain ⟨cd, hcd, rfl, rfl⟩ := M.of_some hk
  obtain ⟨b, hb, rfl⟩ := map_bl hcd
  refine ⟨by show 2 ≤ sizeLine; decide, fun q hq => ?_⟩
  obtain ⟨k1, h1⟩ := isiD_first hb
  obtain ⟨t, ht, hk2⟩ := ty_run O (rep_any S S1 r1) (isC_no h1).1 (isC_no h1).2
  obtain ⟨x3, st3, _⟩ := RV.tup (SS := fun _ => False) S1.stm (fun _ h => h.elim) hq (.nil : RepL T H1 (fun _ => False) [] [])
  have x3 : Ext T H1 (upd H1 q (.tup [t1.cv T, t2.cv T])) := Ext.new hq
  have ne1 : T.st ≠ q := fun z => by rw [← z, S1.stm.1] at hq; cases hq
  have ne2 : T.sl ≠ q := fun z => by rw [← z, S1.stm.2] at hq; cases hq
  have st3 : StmAt T (upd H1 q (.tup [t1.cv T, t2.cv T])) _ := ⟨by rw [upd_ne ne1]; exact S1.stm.1, by rw [upd_ne ne2]; exact S1.stm.2⟩
  exact ⟨v, q, _, t, _, b, rfl, upd_same, .cons t1.clsV (.cons t2.clsV .nil), tyx_upd hq ht, kit_any hk2 hb, hQ _ _ tg1 (g1.trans (Go.lay S1 x3 st3)) (S1.ext0 x3 st3) (.bl _)⟩
theorem cn_b (n : TN) {pos : Pos} {nm : Str} (hm : X.mg nm = none) (hg : Gl X nm := by rfl) (hv : bootBuiltins nm = some (.type n.nm) := by decide +kernel) (hn : nm ≠ "__name__" := by decide) (hd : (nm == ("__debug__" : Str)) = false := by decide) : CNm T X (.Name nm pos) (.b n) := ⟨pe_bltn hg hm hv rfl hn hd⟩
theorem cn_o (c : Nat) {pos : Pos} {nm : Str} (hm : X.mg nm = some (.ref (T.cls c))) (hg : Gl X nm := by rfl) (hd : (nm == ("__debug__" : Str)) = false := by decide) : CNm T X (.Name nm pos) (.o c) := ⟨pe_glob hg hm rfl hd⟩
end
end DL
end
section
set_option autoImplicit false
namespace DL
open PySem PySem.Spec L2
section
variable {T : Cfg} {H0 H H' H1 H2 H3 : Hp} {S0 SS : Addr → Prop} {Γ Γ' Γ1 Γ2 Γ3 Γb : List Md} {ρ ρ' : Env} {s s' s1 s2 : Strm} {σ : St} {tg tg' tg1 tg2 : Tags} {v w : V} {d c : D} {vs : List V} {ds : List D} {m m' mr me : Md} {rm : Rm}
variable {X : Cx} {E : XK} {e a b : Expr} {es : List Expr} {F Fa Fb : EF} {pos p : Pos} {x : Str} {tge iter : Expr}
theorem lay_any {q : Addr} {o : HO} (st : StmAt T H s) (hq : H q = none) : Ext T H (upd H q o) ∧ StmAt T (upd H q o) s := by
  have ne1 : T.st ≠ q := fun z => by rw [← z, st.1] at hq; cases hq
  have ne2 : T.sl ≠ q := fun z => by rw [← z, st.2] at hq; cases hq
  exact ⟨Ext.new hq, by rw [upd_ne ne1]; exact st.1, by rw [upd_ne ne2]; exact st.2⟩
def WI (X : Cx) (tge iter : Expr) (σ : St) (H : Hp) (R : It → Hp → Prop) : Prop := ∀ pins s, Inv X pins σ H s →
  wpAny (model X.prog X.w) X.A (eval iter X.env) (fun v s1 => wpAny (model X.prog X.w) X.A (pyIter v) (PIE X pins σ tge R) X.xe s1) X.xe s
theorem WI.pi {X : Cx} {tge iter : Expr} : PI X tge iter (WI X tge iter) := ⟨fun pins s _ _ _ I h => h pins s I⟩
theorem WI.of {X : Cx} {tge iter : Expr} {wi : TI} {σ : St} {H : Hp} {R : It → Hp → Prop} (p : PI X tge iter wi) (h : wi σ H R) : WI X tge iter σ H R := fun pins s I => p.run pins s σ H R I h
/-- an iterator that gives the trees of items, one by one, while what lies in SS is kept -/
def IsWalk (T : Cfg) (SS : Addr → Prop) (H : Hp) (J : It) (items : List D) : Prop :=
  ∃ (G : Hp → Prop) (Y : Nat → Hp → V → Hp → Prop), Walk J items.length G Y ∧ G H ∧ (∀ H1 H2, Keep SS H1 H2 → G H1 → G H2) ∧
    ∀ i H1 x H2, i < items.length → G H1 → Y i H1 x H2 → (H2 = H1 ∨ ∃ q xs, H1 q = none ∧ H2 = upd H1 q (.tup xs)) ∧ ∃ d, items[i]? = some d ∧ Rep T H2 SS x d
abbrev IF := Env → M (List D)
def CntI (T : Cfg) (E : XK) (H0 : Hp) (S0 : Addr → Prop) (Γ' : List Md) (ρ : Env) (σ : St) (m : Md) (H : Hp) (tg : Tags) (s' : Strm) (R : It → Hp → Prop) : Except Exn (List D) → Prop
  | .ok items => ∀ J H' tg', Go T H H' tg tg' → Sta T H0 S0 Γ' ρ s' σ H' tg' → IsWalk T (setW T tg' (frS tg' H H') H' m) H' J items → R J H'
  | .error x => ∀ c dx H', Thr T H x s' c dx H' → E c (some dx) H'
structure DI (T : Cfg) (X : Cx) (E : XK) (Γ : List Md) (tge iter : Expr) (F : IF) (m : Md) : Prop where
  mk ::
  run : ∀ H0 S0 ρ s σ H tg, Sta T H0 S0 Γ ρ s σ H tg → ∀ r s', F ρ s = some (r, s') → ∀ R : It → Hp → Prop, CntI T E H0 S0 Γ ρ σ m H tg s' R r → WI X tge iter σ H R
instance {T : Cfg} {X : Cx} {E : XK} {Γ : List Md} {tge iter : Expr} {F : IF} {m : Md} : CoeFun (DI T X E Γ tge iter F m) (fun _ => ∀ H0 S0 ρ s σ H tg, Sta T H0 S0 Γ ρ s σ H tg → ∀ r s', F ρ s = some (r, s') → ∀ R : It → Hp → Prop, CntI T E H0 S0 Γ ρ σ m H tg s' R r → WI X tge iter σ H R) := ⟨DI.run⟩
theorem CntI.ek {r : Except Exn (List D)} {R : It → Hp → Prop} (h : CntI T E H0 S0 Γ' ρ σ m H tg s' R r) : ErrK T E H s' r := fun x e => by subst e; exact h
def itemsD : D → Option (List D)
  | .lst xs => some xs
  | .tup xs => some xs
  | .str z => some (z.cps.toList.map sgnD)
  | _ => none
def iSeq (Fa : EF) : IF := fun ρ => do let d ← Fa ρ; M.of (itemsD d)
theorem walk_rep (r : Rep T H SS v (.lst ds)) : ∃ a vs, v = .ref a ∧ H a = some (.lst vs) ∧ ∀ K : PySem.W.Frag, IsWalk T SS H (Itl K a) ds := by
  cases r with
  | @lst a xs _ hS e rr =>
    refine ⟨a, xs, rfl, e, fun K => ⟨fun H' => H' a = some (.lst xs) ∧ RepL T H' SS xs ds, YAt xs, ?_, ⟨e, rr⟩, fun H1 H2 k g => ⟨k a _ g.1 (.inl hS), g.2.keep k⟩, ?_⟩⟩
    · rw [← rr.len]
      exact walk_list.mono (fun H h => SqL.of h.1) fun _ _ _ _ _ _ y => y
    · rintro i H1 x H2 hi g ⟨rfl, hx⟩
      exact ⟨.inl rfl, g.2.getV i x hx⟩
theorem walk_repT (r : Rep T H SS v (.tup ds)) : ∃ a vs, v = .ref a ∧ H a = some (.tup vs) ∧ ∀ K : PySem.W.Frag, IsWalk T SS H (Itt K a) ds := by
  cases r with
  | @tup a xs _ e rr =>
    refine ⟨a, xs, rfl, e, fun K => ⟨fun H' => H' a = some (.tup xs) ∧ RepL T H' SS xs ds, YAt xs, ?_, ⟨e, rr⟩, fun H1 H2 k g => ⟨k a _ g.1 (.inr trivial), g.2.keep k⟩, ?_⟩⟩
    · rw [← rr.len]
      exact walk_tup.mono (fun H h => SqT.of h.1) fun _ _ _ _ _ _ y => y
    · rintro i H1 x H2 hi g ⟨rfl, hx⟩
      exact ⟨.inl rfl, g.2.getV i x hx⟩
theorem walk_repS (z : Str) : IsWalk T SS H (Its z) (z.cps.toList.map sgnD) := by
  refine ⟨fun _ => True, fun i H v H' => H' = H ∧ ∃ c, z.cps[i]? = some c ∧ v = .str ⟨#[c]⟩, ?_, trivial, fun _ _ _ _ => trivial, ?_⟩
  · rw [List.length_map, Array.length_toList]; exact walk_str
  · rintro i H1 x H2 hi _ ⟨rfl, c, hc, rfl⟩
    refine ⟨.inl rfl, sgnD c, ?_, .str _⟩
    rw [List.getElem?_map, Array.getElem?_toList, hc]; rfl
theorem di_seq (ha : DE T X E Γ a Fa m Γ) (hm : m.flat = true := by rfl) : DI T X E Γ tge a (iSeq Fa) m := by
  refine ⟨?_⟩
  intro H0 S0 ρ s σ H tg S r s' hF R hR
  have fin : ∀ {d : D} {items : List D} {v : V} {H1 : Hp} {tg1 : Tags} {J : It}, r = .ok items → Go T H H1 tg tg1 → Sta T H0 S0 Γ ρ s' σ H1 tg1 → IsWalk T (setW T tg1 (frS tg1 H H1) H1 m) H1 J items → R J H1 := fun {d items v H1 tg1 J} hr g1 S1 hw => by
    subst hr; exact hR J H1 tg1 g1 S1 hw
  by_cases hk : ∃ ds s1, Fa ρ s = some (.ok (.tup ds), s1)
  · obtain ⟨ds0, s0, hk⟩ := hk
    refine WI.of (pi_tup WE.pe) ?_
    refine ha.seqE S hF hR.ek fun d s1 v H1 tg1 hfa hk1 g1 S1 r1 e1 => ?_
    rw [hk] at hfa; cases hfa
    obtain ⟨c, hc, rfl, rfl⟩ := M.of_some hk1
    cases hc
    obtain ⟨a, vs, rfl, e, w⟩ := walk_repT ((RepW.flat hm).mp r1)
    exact ⟨a, rfl, ⟨vs, SqT.of e⟩, hR _ H1 tg1 g1 S1 (w _)⟩
  by_cases hk2 : ∃ z s1, Fa ρ s = some (.ok (.str z), s1)
  · obtain ⟨z0, s0, hk2⟩ := hk2
    refine WI.of (pi_str WE.pe) ?_
    refine ha.seqE S hF hR.ek fun d s1 v H1 tg1 hfa hk1 g1 S1 r1 e1 => ?_
    rw [hk2] at hfa; cases hfa
    obtain ⟨c, hc, rfl, rfl⟩ := M.of_some hk1
    cases hc
    have hv : v = .str z0 := by have q := (RepW.flat hm).mp r1; cases q; rfl
    exact ⟨z0, hv, hR _ H1 tg1 g1 S1 (walk_repS z0)⟩
  · refine WI.of (pi_list WE.pe) ?_
    refine ha.seqE S hF hR.ek fun d s1 v H1 tg1 hfa hk1 g1 S1 r1 e1 => ?_
    obtain ⟨c, hc, rfl, rfl⟩ := M.of_some hk1
    cases d with
    | lst ds =>
      cases hc
      obtain ⟨a, vs, rfl, e, w⟩ := walk_rep ((RepW.flat hm).mp r1)
      exact ⟨a, rfl, ⟨vs, SqL.of e⟩, hR _ H1 tg1 g1 S1 (w _)⟩
    | tup ds => exact absurd ⟨_, _, hfa⟩ hk
    | str z => exact absurd ⟨_, _, hfa⟩ hk2
    | _ => cases hc
/-- range(n) -/
def iRange1 (Fa : EF) : IF := fun ρ => do let d ← Fa ρ; let n ← intM d; M.of (if -(2 ^ 62) ≤ n ∧ n < 2 ^ 62 then some ((List.range n.toNat).map fun (i : Nat) => .int (i : Int)) else none)
theorem walk_repR {lo : Int} {n : Nat} {f : Nat → D} (hf : ∀ i, f i = .int (lo + i)) : IsWalk T SS H (Itr lo n) ((List.range n).map f) := by
  refine ⟨fun _ => True, YFn fun i => .int (lo + i), ?_, trivial, fun _ _ _ _ => trivial, ?_⟩
  · rw [List.length_map, List.length_range]; exact walk_range
  · rintro i H1 x H2 hi _ ⟨rfl, rfl⟩
    rw [List.length_map, List.length_range] at hi
    exact ⟨.inl rfl, .int (lo + i), by rw [List.getElem?_map, List.getElem?_range hi, Option.map_some, hf], .int _⟩
theorem int_step {β : Type} {k : Int → M β} {r : Except Exn β} (h : (intM d >>= k) s = some (r, s')) : ∃ i, d = .int i ∧ k i s = some (r, s') := by
  rcases M.bind_some h with ⟨x, h1, rfl⟩ | ⟨bb, s4, h1, h2⟩
  · obtain ⟨_, _, q, _⟩ := intM_some h1; cases q
  · obtain ⟨b, e, q, rfl⟩ := intM_some h1; cases q; exact ⟨_, e, h2⟩
theorem di_range1 (hm0 : X.mg "range" = none) (ha : DE T X E Γ a Fa m Γ) (hg : Gl X "range" := by rfl) (hs : starEach [a] X.env = [(false, eval a X.env)] := by rfl) : DI T X E Γ tge (.Call (.Name "range" p) [a] [] pos) (iRange1 Fa) .atom := by
  refine ⟨?_⟩
  intro H0 S0 ρ s σ H tg S r s' hF R hR
  refine WI.of (pi_range1 hg hm0 (pa_cons WE.pe pa_nil hs) hs) ?_
  refine ha.seq S hF hR.ek fun d s1 v H1 tg1 hk1 g1 S1 r1 e1 => ?_
  obtain ⟨i, rfl, hk2⟩ := int_step hk1
  obtain ⟨c, hc, rfl, rfl⟩ := M.of_some hk2
  obtain ⟨hb, rfl⟩ := if_some hc
  have hv := rep_i r1
  subst hv
  exact ⟨i, rfl, hb.1, hb.2, hR _ H1 tg1 g1 S1 (walk_repR fun i => by rw [Int.zero_add])⟩
def iRange2 (Fa Fb : EF) : IF := fun ρ => do
  let d ← Fa ρ
  let e ← Fb ρ
  let i ← intM d
  let j ← intM e
  M.of (if -(2 ^ 62) ≤ i ∧ i < 2 ^ 62 ∧ -(2 ^ 62) ≤ j ∧ j < 2 ^ 62 then some ((List.range (j - i).toNat).map fun (k : Nat) => .int (i + (k : Int))) else none)
theorem di_range2 (hm0 : X.mg "range" = none) (ha : DE T X E Γ a Fa m Γ) (hb : DE T X E Γ b Fb m' Γ) (hg : Gl X "range" := by rfl) (hs : starEach [a, b] X.env = [(false, eval a X.env), (false, eval b X.env)] := by rfl) (hs2 : starEach [b] X.env = [(false, eval b X.env)] := by rfl) :
    DI T X E Γ tge (.Call (.Name "range" p) [a, b] [] pos) (iRange2 Fa Fb) .atom := by
  refine ⟨?_⟩
  intro H0 S0 ρ s σ H tg S r s' hF R hR
  refine WI.of (pi_range2 hg hm0 (pa_cons WE.pe (pa_cons WE.pe pa_nil hs2) (by rw [hs, hs2])) hs hs2) ?_
  refine ha.seq S hF hR.ek fun d s1 v H1 tg1 hk1 g1 S1 r1 e1 => ?_
  refine hb.seq S1 hk1 e1 fun e s2 w H2 tg2 hk2 g2 S2 r2 e2 => ?_
  obtain ⟨i, rfl, hk3⟩ := int_step hk2
  obtain ⟨j, rfl, hk4⟩ := int_step hk3
  obtain ⟨c, hc, rfl, rfl⟩ := M.of_some hk4
  obtain ⟨hb, rfl⟩ := if_some hc
  have hv := rep_i r1
  subst hv
  have hw := rep_i r2
  subst hw
  exact ⟨i, j, rfl, hb, hR _ H2 tg2 (g1.trans g2) S2 (walk_repR fun _ => rfl)⟩
abbrev GF := D → Env → Option Env
def WG (X : Cx) (tge : Expr) (v : V) (σ : St) (H : Hp) (Q : St → Hp → Prop) : Prop := ∀ pins s u, Inv X pins σ H s → RelV v u → wpAny (model X.prog X.w) X.A (assign tge X.env u) (fun _ s' => ∃ σ' H', Inv X pins σ' H' s' ∧ Q σ' H') X.xe s
theorem WG.pg : PG X tge (WG X tge) := ⟨fun pins s σ H v u Q I r h => h pins s u I r⟩
theorem WG.of {g : TG} {Q : St → Hp → Prop} (p : PG X tge g) (h : g v σ H Q) : WG X tge v σ H Q := fun pins s u I r => p.run pins s σ H v u Q I r h
def WGs (X : Cx) (tges : List Expr) (vs : List V) (σ : St) (H : Hp) (Q : St → Hp → Prop) : Prop := ∀ pins s us, Inv X pins σ H s → Vals vs us → wpAny (model X.prog X.w) X.A (assignInOrder ((assignEach tges X.env).map (·.2)) us) (fun _ s' => ∃ σ' H', Inv X pins σ' H' s' ∧ Q σ' H') X.xe s
theorem WGs.pg : PGs X es (WGs X es) := ⟨fun pins s σ H v u Q I r h => h pins s u I r⟩
theorem WGs.of {g : TGs} {Q : St → Hp → Prop} (p : PGs X es g) (h : g vs σ H Q) : WGs X es vs σ H Q := fun pins s u I r => p.run pins s σ H vs u Q I r h
/-- the slots but js are the same -/
def SameBut (js : List Nat) (σ σ' : St) : Prop := σ'.length = σ.length ∧ ∀ j, j ∉ js → σ'[j]? = σ[j]?
/-- a target: what comes is held by me -/
structure DG (T : Cfg) (X : Cx) (me : Md) (js : List Nat) (Γ : List Md) (tge : Expr) (B : GF) (Γ' : List Md) : Prop where
  mk ::
  run : ∀ H0 S0 ρ s σ H tg v d ρ', Sta T H0 S0 Γ ρ s σ H tg → Rep T H (wS tg (fun _ => False) me) v d → B d ρ = some ρ' → ∀ Q : St → Hp → Prop, (∀ σ', Sta T H0 S0 Γ' ρ' s σ' H tg → SameBut js σ σ' → Q σ' H) → WG X tge v σ H Q
instance {T : Cfg} {X : Cx} {me : Md} {js : List Nat} {Γ : List Md} {tge : Expr} {B : GF} {Γ' : List Md} : CoeFun (DG T X me js Γ tge B Γ') (fun _ => ∀ H0 S0 ρ s σ H tg v d ρ', Sta T H0 S0 Γ ρ s σ H tg → Rep T H (wS tg (fun _ => False) me) v d → B d ρ = some ρ' → ∀ Q : St → Hp → Prop, (∀ σ', Sta T H0 S0 Γ' ρ' s σ' H tg → SameBut js σ σ' → Q σ' H) → WG X tge v σ H Q) := ⟨DG.run⟩
def gNm (i : Nat) : GF := fun d ρ => some (ρ.set i (some d))
theorem Sta.set {i : Nat} (S : Sta T H0 S0 Γ1 ρ s σ H tg) (hi : i < Γ1.length) (hm : me = .atom ∨ ∃ b, me = .sh b) (r : Rep T H (wS tg (fun _ => False) me) v d) :
    Sta T H0 S0 (Γ1.set i me) (ρ.set i (some d)) s (σ.set i (some v)) H tg := by
  have rs : RepW T tg (exS tg i) H me v d := by rcases hm with rfl | ⟨b, rfl⟩ <;> exact r
  have hn : me ≠ .any := by rcases hm with rfl | ⟨b, rfl⟩ <;> exact fun q => by cases q
  refine ⟨by simp [S.len], fun j c e => ?_, S.stm, S.tgd, S.tg0, S.tgs, S.old, S.stm0, S.same⟩
  by_cases hj : j = i
  · subst hj
    have hl : j < ρ.length := by
      have := (List.getElem?_eq_some_iff.mp e).1
      simpa using this
    rw [List.getElem?_set_self hl] at e
    have e' : d = c := by injection e with e; injection e
    subst e'
    rw [getD_set_self hi]
    exact ⟨hn, v, by rw [List.getElem?_set_self (by rw [S.len]; exact hl)], rs⟩
  · rw [List.getElem?_set_ne (Ne.symm hj)] at e
    obtain ⟨h0, u, h1, h2⟩ := S.val j c e
    rw [getD_set_ne hj]
    exact ⟨h0, u, by rw [List.getElem?_set_ne (Ne.symm hj)]; exact h1, h2⟩
theorem dg_nm (i : Nat) (hN : X.N.Nodup) {y : Str} {p' : Pos} (hm : me = .atom ∨ ∃ b, me = .sh b := by first | exact .inl rfl | exact .inr ⟨_, rfl⟩) (hi : i < Γ.length := by decide) (hy : X.N[i]? = some y := by rfl) (hx : Loc X.env.scope y := by first | exact Or.inl rfl | exact Or.inr rfl)
    (hf : X.fn y = true ∨ X.env.scope.names.lookup y = some .local := by first | exact .inl rfl | exact .inr rfl) : DG T X me [i] Γ (.Name y p') (gNm i) (Γ.set i me) :=
  .mk fun H0 S0 ρ s σ H tg v d ρ' S r hB Q hQ => WG.of (pg_name hN hy hx hf) (by cases hB; exact hQ _ (S.set hi hm r) ⟨by simp, fun j hj => List.getElem?_set_ne (by simpa using Ne.symm (fun z => hj (by simp [z])))⟩)
abbrev GFs := List D → Env → Option Env
structure DGs (T : Cfg) (X : Cx) (me : Md) (js : List Nat) (Γ : List Md) (tges : List Expr) (B : GFs) (Γ' : List Md) : Prop where
  mk ::
  run : ∀ H0 S0 ρ s σ H tg vs ds ρ', Sta T H0 S0 Γ ρ s σ H tg → RepL T H (wS tg (fun _ => False) me) vs ds → B ds ρ = some ρ' → ∀ Q : St → Hp → Prop, (∀ σ', Sta T H0 S0 Γ' ρ' s σ' H tg → SameBut js σ σ' → Q σ' H) → WGs X tges vs σ H Q
instance {T : Cfg} {X : Cx} {me : Md} {js : List Nat} {Γ : List Md} {tges : List Expr} {B : GFs} {Γ' : List Md} : CoeFun (DGs T X me js Γ tges B Γ') (fun _ => ∀ H0 S0 ρ s σ H tg vs ds ρ', Sta T H0 S0 Γ ρ s σ H tg → RepL T H (wS tg (fun _ => False) me) vs ds → B ds ρ = some ρ' → ∀ Q : St → Hp → Prop, (∀ σ', Sta T H0 S0 Γ' ρ' s σ' H tg → SameBut js σ σ' → Q σ' H) → WGs X tges vs σ H Q) := ⟨DGs.run⟩
def gsNil : GFs := fun ds ρ => match ds with | [] => some ρ | _ => none
def gsCons (B : GF) (Bs : GFs) : GFs := fun ds ρ => match ds with | d :: ds => (B d ρ).bind (Bs ds) | [] => none
theorem dgs_nil : DGs T X me [] Γ [] gsNil Γ := .mk fun H0 S0 ρ s σ H tg vs ds ρ' S r hB Q hQ => by
  cases ds with
  | nil => cases hB; exact WGs.of pgs_nil ⟨r.nilL, hQ _ S ⟨rfl, fun _ _ => rfl⟩⟩
  | cons d ds => cases hB
theorem dgs_cons {js ks : List Nat} {B : GF} {Bs : GFs} (h1 : DG T X me js Γ e B Γ1) (h2 : DGs T X me ks Γ1 es Bs Γ2) (hs : (assignEach (e :: es) X.env).map (·.2) = assign e X.env :: (assignEach es X.env).map (·.2) := by rfl) : DGs T X me (js ++ ks) Γ (e :: es) (gsCons B Bs) Γ2 := by
  refine ⟨?_⟩
  intro H0 S0 ρ s σ H tg vs ds ρ' S r hB Q hQ
  refine WGs.of (pgs_cons WG.pg WGs.pg hs) ?_
  cases ds with
  | nil => cases hB
  | cons d ds =>
    obtain ⟨v, vs', rfl, r1, r2⟩ := r.consL
    cases hb : B d ρ with
    | none => simp only [gsCons, hb] at hB; cases hB
    | some ρ1 =>
      simp only [gsCons, hb] at hB
      exact ⟨v, vs', rfl, h1 _ _ _ _ _ _ _ _ _ _ S r1 hb _ fun σ' S' a1 => h2 _ _ _ _ _ _ _ _ _ _ S' r2 hB Q fun σ2 S2 a2 => hQ σ2 S2 ⟨a2.1.trans a1.1, fun j hj => (a2.2 j fun z => hj (List.mem_append_right _ z)).trans (a1.2 j fun z => hj (List.mem_append_left _ z))⟩⟩
def gTp (n : Nat) (Bs : GFs) : GF := fun d ρ => match d with | .tup ds => if ds.length = n then Bs ds ρ else none | _ => none
def leS : Md → Md → Bool
  | .atom, m => m != .any
  | .sh true, .sh _ => true
  | .sh false, .sh false => true
  | .xc, .sh _ => true
  | .xc, .xc => true
  | .ow .e, .sh _ => true
  | .ow .n, .sh _ => true
  | .ow .o, .sh false => true
  | .ow .e, .xc => true
  | .ow .e, .ow .e => true
  | .ow .n, .ow .n => true
  | .ow .o, .ow .o => true
  | _, _ => false
def leG : List Md → List Md → Bool
  | [], [] => true
  | m :: ms, n :: ns => leS m n && leG ms ns
  | _, _ => false
theorem leG_get : ∀ {Γ Γ2 : List Md}, leG Γ Γ2 = true → ∀ i, leS (Γ.getD i .atom) (Γ2.getD i .atom) = true
  | [], [], _, i => by simp [leS]
  | m :: ms, n :: ns, h, 0 => by rw [leG, Bool.and_eq_true] at h; exact h.1
  | m :: ms, n :: ns, h, i + 1 => by rw [leG, Bool.and_eq_true] at h; exact leG_get h.2 i
  | [], _ :: _, h, _ => by cases h
  | _ :: _, [], h, _ => by cases h
def wkT (Γ2 : List Md) (tg : Tags) : Tags := fun a => match tg a with
  | .ex i => (match Γ2.getD i .atom with | .sh _ => .new | _ => .ex i)
  | t => t
theorem wkT_ne {Γ2 : List Md} {a : Addr} (h : ∀ i, tg a ≠ .ex i) : wkT Γ2 tg a = tg a := by
  unfold wkT
  cases e : tg a <;> first | rfl | exact absurd e (h _)
theorem wkT_ex {Γ2 : List Md} {a : Addr} {i : Nat} (h : tg a = .ex i) : wkT Γ2 tg a = (match Γ2.getD i .atom with | .sh _ => .new | _ => .ex i) := by
  unfold wkT; rw [h]
theorem wk_sh {Γ2 : List Md} {a : Addr} {b : Bool} (h : shS tg b a) : shS (wkT Γ2 tg) b a := by
  have e : wkT Γ2 tg a = tg a := wkT_ne fun i q => by rcases h with h | ⟨_, h⟩ <;> (rw [q] at h; cases h)
  unfold shS; rw [e]; exact h
theorem wk_or {Γ2 : List Md} (a : Addr) : wkT Γ2 tg a = tg a ∨ ((∃ i, tg a = .ex i) ∧ wkT Γ2 tg a = .new) := by
  by_cases h : ∃ i, tg a = .ex i
  · obtain ⟨i, h⟩ := h
    rw [wkT_ex h]
    split
    · exact .inr ⟨⟨i, h⟩, rfl⟩
    · exact .inl h.symm
  · exact .inl (wkT_ne fun i q => h ⟨i, q⟩)
theorem Sta.wk (S : Sta T H0 S0 Γ ρ s σ H tg) (h : leG Γ Γ2 = true) : Sta T H0 S0 Γ2 ρ s σ H (wkT Γ2 tg) := by
  have no : ∀ a, wkT Γ2 tg a = .no ↔ tg a = .no := fun a => by
    rcases wk_or (Γ2 := Γ2) (tg := tg) a with e | ⟨⟨i, e⟩, e'⟩
    · rw [e]
    · rw [e', e]; exact ⟨fun q => (by cases q), fun q => (by cases q)⟩
  refine ⟨S.len, fun j d e => ?_, S.stm, fun a n => S.tgd a fun z => n ((no a).mpr z), fun a n => ?_, ⟨(no _).mpr S.tgs.1, (no _).mpr S.tgs.2⟩, fun a e => ?_, S.stm0, S.same⟩
  · obtain ⟨h0, v, h1, h2⟩ := S.val j d e
    have hl := leG_get h j
    generalize Γ.getD j .atom = m1 at h0 h2 hl
    cases hm2 : Γ2.getD j .atom with
    | sh b =>
      rw [hm2] at hl
      have ex : ∀ a, exS tg j a → shS (wkT Γ2 tg) b a := fun a z => .inl (by rw [wkT_ex z, hm2])
      refine ⟨(fun q => by cases q), v, h1, ?_⟩
      cases m1 with
      | atom => exact Rep.mono (S := fun _ => False) h2 fun _ h => h.elim
      | sh b' =>
        refine Rep.mono (S := shS tg b') h2 fun a z => wk_sh ?_
        cases b' with
        | true => exact z.elim .inl fun q => by cases q.1
        | false => cases b with
          | true => cases hl
          | false => exact z
      | xc => exact Rep.mono (S := exS tg j) h2 ex
      | any => cases hl
      | ow k =>
        refine RepO.flat h2 ex fun a z => ?_
        cases k with
        | e => exact ex a z
        | n => exact wk_sh (z.elim .inl fun q => by cases q.1)
        | o => cases b with
          | true => cases hl
          | false => exact wk_sh z
    | any => rw [hm2] at hl; cases m1 <;> simp [leS] at hl
    | atom =>
      rw [hm2] at hl
      refine ⟨(fun q => by cases q), v, h1, ?_⟩
      cases m1 with
      | atom => exact h2
      | sh b => cases b <;> cases hl
      | xc => cases hl
      | any => cases hl
      | ow k => cases k <;> cases hl
    | xc =>
      rw [hm2] at hl
      have ex : ∀ a, exS tg j a → exS (wkT Γ2 tg) j a := fun a z => by show wkT Γ2 tg a = _; rw [wkT_ex z, hm2]
      refine ⟨(fun q => by cases q), v, h1, ?_⟩
      cases m1 with
      | atom => exact Rep.mono (S := fun _ => False) h2 fun _ h => h.elim
      | sh b => cases b <;> cases hl
      | xc => exact Rep.mono (S := exS tg j) h2 ex
      | any => cases hl
      | ow k => cases k with
        | e => exact RepO.flat h2 ex ex
        | n => cases hl
        | o => cases hl
    | ow k =>
      rw [hm2] at hl
      have ex : ∀ a, exS tg j a → exS (wkT Γ2 tg) j a := fun a z => by show wkT Γ2 tg a = _; rw [wkT_ex z, hm2]
      refine ⟨(fun q => by cases q), v, h1, ?_⟩
      cases m1 with
      | atom => exact RepO.atom h2
      | sh b => cases b <;> cases hl
      | xc => cases hl
      | any => cases hl
      | ow k' =>
        have : k' = k := by cases k <;> cases k' <;> first | rfl | cases hl
        subst this
        exact h2.move (m := .ow k') (by exact fun q => by cases q) (fun _ _ e _ => e) ex fun b a z => wk_sh z
  · rcases wk_or (Γ2 := Γ2) (tg := tg) a with e | ⟨⟨i, e⟩, e'⟩
    · rw [e]; exact S.tg0 a n
    · rcases S.tg0 a n with q | q <;> (rw [e] at q; cases q)
  · rcases wk_or (Γ2 := Γ2) (tg := tg) a with q | ⟨⟨i, q⟩, e'⟩
    · rw [q] at e; exact S.old a e
    · rw [e'] at e; cases e
theorem Kp.wk : Kp tg (wkT Γ2 tg) H H := ⟨Keep.refl, fun _ _ h => wk_sh h, fun _ h => h⟩
theorem ds_pre {st : Stmt} {F : SF} (h : DS T X E mr Γb Γ1 st F Γ2) (hw : leG Γ Γ1 = true := by rfl) : DS T X E mr Γb Γ st F Γ2 := .mk fun H0 S0 ρ s σ H tg S r s' hF D hD =>
  h _ _ _ _ _ _ _ (S.wk hw) _ _ hF D (hD.go Kp.wk)
theorem CntS.post {r : Except Exn Out} {D : Ends} (h : CntS T E H0 S0 mr Γb Γ2 H tg s' D r) (hw : leG Γ1 Γ2 = true) : CntS T E H0 S0 mr Γb Γ1 H tg s' D r := by
  cases r with
  | error x => exact h
  | ok o => cases o with
    | nx ρ => exact fun σ' H' tg' g' S' => h σ' H' _ (g'.trans Kp.wk) (S'.wk hw)
    | rt d => exact h
    | bk ρ => exact h
    | ct ρ => exact h
theorem dss_post {sts : List Stmt} {F : SF} (h : DSs T X E mr Γb Γ sts F Γ1) (hw : leG Γ1 Γ2 = true := by rfl) : DSs T X E mr Γb Γ sts F Γ2 := .mk fun H0 S0 ρ s σ H tg S r s' hF D hD =>
  h _ _ _ _ _ _ _ S _ _ hF D (hD.post hw)
def forD (B : D → Env → M Out) : List D → Env → M Out
  | [], ρ => pure (.nx ρ)
  | d :: ds, ρ => do match ← B d ρ with
    | .nx ρ' => forD B ds ρ'
    | .ct ρ' => forD B ds ρ'
    | .bk ρ' => pure (.nx ρ')
    | .rt v => pure (.rt v)
def fzM (q : Bool) (items : List D) : M Unit := if q && !items.all frozen then M.fail else pure ()
def bindM (g : GF) (F : SF) (d : D) (ρ : Env) : M Out := match g d ρ with
  | some ρ1 => F ρ1
  | none => M.fail
def sFor (q : Bool) (Fi : IF) (g : GF) (F : SF) : SF := fun ρ => do
  let items ← Fi ρ
  fzM q items
  forD (bindM g F) items ρ
/-- how the items are held: as the whole, or without nodes at all -/
def ElM (q : Bool) (m me : Md) : Prop := (q = false ∧ me = m ∧ (m = .atom ∨ ∃ b, m = .sh b)) ∨ (q = true ∧ me = .atom)
theorem fz_step {β : Type} {q : Bool} {items : List D} {k : Unit → M β} {r : Except Exn β} (h : (fzM q items >>= k) s = some (r, s')) : (q = true → items.all frozen = true) ∧ k () s = some (r, s') := by
  unfold fzM at h
  by_cases z : (q && !items.all frozen) = true
  · rw [if_pos z] at h; cases h
  · rw [if_neg z] at h
    refine ⟨fun hq => ?_, h⟩
    subst hq
    simpa using z
theorem ElM.rep {q : Bool} {own : Addr → Prop} (h : ElM q m me) {items : List D} (hf : q = true → items.all frozen = true) {i : Nat} (hd : items[i]? = some d) (hp : ∀ a, setW T tg own H m a → setW T tg own H m a) {H' : Hp} (r : Rep T H' (setW T tg own H m) v d) : Rep T H' (wS tg (fun _ => False) me) v d := by
  rcases h with ⟨_, rfl, rfl | ⟨b, rfl⟩⟩ | ⟨h1, rfl⟩
  · exact r
  · exact r
  · have := List.all_eq_true.mp (hf h1) d (List.mem_of_getElem? hd)
    exact r.frozen this
theorem forD_cons {B : D → Env → M Out} {r : Except Exn Out} (h : forD B (d :: ds) ρ s = some (r, s')) :
    (∃ x, B d ρ s = some (.error x, s') ∧ r = .error x) ∨ (∃ ρ' s1, (B d ρ s = some (.ok (.nx ρ'), s1) ∨ B d ρ s = some (.ok (.ct ρ'), s1)) ∧ forD B ds ρ' s1 = some (r, s')) ∨
    (∃ ρ', B d ρ s = some (.ok (.bk ρ'), s') ∧ r = .ok (.nx ρ')) ∨ ∃ v, B d ρ s = some (.ok (.rt v), s') ∧ r = .ok (.rt v) := by
  rcases M.bind_some h with ⟨x, h1, rfl⟩ | ⟨o, s1, h1, h2⟩
  · exact .inl ⟨x, h1, rfl⟩
  · cases o with
    | nx ρ' => exact .inr (.inl ⟨ρ', s1, .inl h1, h2⟩)
    | ct ρ' => exact .inr (.inl ⟨ρ', s1, .inr h1, h2⟩)
    | bk ρ' => cases h2; exact .inr (.inr (.inl ⟨ρ', h1, rfl⟩))
    | rt v => cases h2; exact .inr (.inr (.inr ⟨v, h1, rfl⟩))
theorem shOf (hm : m = .atom ∨ ∃ b, m = .sh b) {own : Addr → Prop} {a : Addr} (h : setW T tg own H m a) : shS tg false a := by
  rcases hm with rfl | ⟨b, rfl⟩
  · exact h.elim
  · exact shF h
theorem ds_for {js : List Nat} {q : Bool} {Fi : IF} {g : GF} {F : SF} {body : List Stmt} {ΓL : List Md} (hi : DI T X E Γ tge iter Fi m) (hm : m = .atom ∨ ∃ b, m = .sh b) (hel : ElM q m me) (hg : DG T X me js ΓL tge g Γ1) (hb : DSs T X E mr ΓL Γ1 body F ΓL) (hw : leG Γ ΓL = true) (hw1 : leG Γ1 Γ1 = true)
    (hc : X.calm = true) (hp : PassesOwn (model X.prog X.w) X.A X.env X.xe) (hs : ∀ x, foldedSetIterable iter X.env x = pure x := by intro _; rfl) : DS T X E mr Γb Γ (.For tge iter body [] pos) (sFor q Fi g F) ΓL := by
  refine ⟨?_⟩
  intro H0 S0 ρ s σ H tg S r s' hF D hD
  refine WS.of (ps_for hp hc WI.pi WG.pg WSs.pss (hs := hs)) ?_
  rcases M.bind_some hF with ⟨x, h1, rfl⟩ | ⟨items, s1, h1, h2⟩
  · exact hi _ _ _ _ _ _ _ S _ _ h1 _ ((hD.ek S) x rfl)
  obtain ⟨hfz, h2⟩ := fz_step h2
  refine hi _ _ _ _ _ _ _ S _ _ h1 _ fun J H1 tg1 g1 S1 hJ => ?_
  obtain ⟨G, Y, w, hG, kp, hy⟩ := hJ
  have S1' := S1.wk hw
  have k1 : Kp tg (wkT ΓL tg1) H H1 := (g1.kp S).trans Kp.wk
  refine for_it w (fun i σ' H' => ∃ ρi si tgi, forD (bindM g F) (items.drop i) ρi si = some (r, s') ∧ Sta T H0 S0 ΓL ρi si σ' H' tgi ∧ Kp (wkT ΓL tg1) tgi H1 H') ⟨ρ, s1, _, by simpa using h2, S1', Kp.refl⟩ ?_ ?_ ?_
  · rintro i σ' H' hi' ⟨ρi, si, tgi, hf, Si, ki⟩
    exact kp H1 H' (fun a o e z => ki.k a o e (z.imp (fun z => wk_sh (shOf hm z)) id)) hG
  · rintro i x σ' H' H'' hlt ⟨ρi, si, tgi, hf, Si, ki⟩ hyi
    have hGi : G H' := kp H1 H' (fun a o e z => ki.k a o e (z.imp (fun z => wk_sh (shOf hm z)) id)) hG
    obtain ⟨hnew, d, hd, rd⟩ := hy i H' x H'' hlt hGi hyi
    have hdrop : items.drop i = d :: items.drop (i + 1) := by
      obtain ⟨h3, h4⟩ := List.getElem?_eq_some_iff.mp hd
      rw [List.drop_eq_getElem_cons h3, h4]
    rw [hdrop] at hf
    have rd' := hel.rep hfz hd (fun _ h => h) rd
    -- the heap with the pair
    have hx : Ext T H' H'' ∧ StmAt T H'' si := by
      rcases hnew with rfl | ⟨q0, xs, hq0, rfl⟩
      · exact ⟨Ext.refl, Si.stm⟩
      · exact lay_any Si.stm hq0
    have Si' := Si.ext0 hx.1 hx.2
    have gi := Go.lay Si hx.1 hx.2
    have ki' : Kp (wkT ΓL tg1) tgi H1 H'' := ki.trans (gi.kp Si)
    have rde : Rep T H'' (wS tgi (fun _ => False) me) x d := by
      rcases hel with ⟨_, rfl, rfl | ⟨b, rfl⟩⟩ | ⟨_, rfl⟩
      · exact rd'
      · exact Rep.mono (S := shS tg1 b) rd' fun a z => ki.t b a (wk_sh z)
      · exact rd'
    cases hgd : g d ρi with
    | none =>
      exfalso
      have hbm : bindM g F d ρi si = none := by unfold bindM; rw [hgd]; rfl
      rcases forD_cons hf with ⟨x, h5, _⟩ | ⟨ρ', s2, h5 | h5, _⟩ | ⟨ρ', h5, _⟩ | ⟨v, h5, _⟩ <;> (rw [hbm] at h5; cases h5)
    | some ρ1 =>
      have hbm : bindM g F d ρi si = F ρ1 si := by unfold bindM; rw [hgd]
      refine hg _ _ _ _ _ _ _ _ _ _ Si' rde hgd _ fun σ2 S2 _ => ?_
      rcases forD_cons hf with ⟨x, h5, rfl⟩ | ⟨ρ', s2, h5, h6⟩ | ⟨ρ', h5, rfl⟩ | ⟨v, h5, rfl⟩
      · rw [hbm] at h5
        exact hb _ _ _ _ _ _ _ S2 _ _ h5 _ hD
      · rcases h5 with h5 | h5
        · rw [hbm] at h5
          exact hb _ _ _ _ _ _ _ S2 _ _ h5 _ fun σ3 H3 tg3 k3 S3 => ⟨ρ', s2, tg3, h6, S3, ki'.trans k3⟩
        · rw [hbm] at h5
          exact hb _ _ _ _ _ _ _ S2 _ _ h5 _ fun σ3 H3 tg3 k3 S3 => ⟨ρ', s2, tg3, h6, S3, ki'.trans k3⟩
      · rw [hbm] at h5
        exact hb _ _ _ _ _ _ _ S2 _ _ h5 _ fun σ3 H3 tg3 k3 S3 => hD σ3 H3 tg3 (k1.trans (ki'.trans k3)) S3
      · rw [hbm] at h5
        exact hb _ _ _ _ _ _ _ S2 _ _ h5 _ hD
  · rintro σ' H' ⟨ρi, si, tgi, hf, Si, ki⟩
    rw [List.drop_length] at hf
    cases hf
    exact hD σ' H' tgi (k1.trans ki) Si
end
end DL
end
section
set_option autoImplicit false
namespace DL
open PySem PySem.Spec L2
section
variable {T : Cfg} {H0 H H' H1 H2 H3 : Hp} {S0 SS : Addr → Prop} {Γ Γ' Γ1 Γ2 Γ3 Γb Γw Γi : List Md} {ρ ρ' : Env} {s s' s1 s2 : Strm} {σ : St} {tg tg' tg1 tg2 : Tags} {v w : V} {d c : D} {vs : List V} {ds : List D} {m m' mr me ms : Md} {rm : Rm}
variable {X : Cx} {E : XK} {e a b : Expr} {es : List Expr} {F Fa Fb : EF} {pos p : Pos} {x : Str} {tge iter elt : Expr} {scope : Scope} {own : List (Str × Nat)}
/-- the block of a comprehension, any of them -/
abbrev bkC (X : Cx) (scope : Scope) (s : Shared) (H : Hp) (C : Addr) (cl : List (Str × Addr)) (fp : List Addr) : Cx := X.blk s H scope (PySem.compEnvC scope cl C X.env) fp
/-- a comprehension's tests -/
def WQ (X : Cx) (ifs : List Expr) (σ : St) (H : Hp) (Q : Bool → Hp → Prop) : Prop := ∀ pins s, Inv X pins σ H s →
  wpAny (model X.prog X.w) X.A (forIn ifs true fun c r => if r = true then do let ok ← isTrue c X.env (eval c X.env); pure (ForInStep.yield ok) else pure (ForInStep.yield r)) (TP X pins σ Q) X.xe s
structure DQ (T : Cfg) (X : Cx) (E : XK) (Γ : List Md) (ifs : List Expr) (F : TF) : Prop where
  mk ::
  run : ∀ H0 S0 ρ s σ H tg, Sta T H0 S0 Γ ρ s σ H tg → ∀ r s', F ρ s = some (r, s') → ∀ Q : Bool → Hp → Prop, CntB T E H0 S0 Γ ρ σ H tg s' Q r → WQ X ifs σ H Q
instance {T : Cfg} {X : Cx} {E : XK} {Γ : List Md} {ifs : List Expr} {F : TF} : CoeFun (DQ T X E Γ ifs F) (fun _ => ∀ H0 S0 ρ s σ H tg, Sta T H0 S0 Γ ρ s σ H tg → ∀ r s', F ρ s = some (r, s') → ∀ Q : Bool → Hp → Prop, CntB T E H0 S0 Γ ρ σ H tg s' Q r → WQ X ifs σ H Q) := ⟨DQ.run⟩
def qYes : TF := fun _ => pure true
theorem dq_nil : DQ T X E Γ [] qYes := .mk fun H0 S0 ρ s σ H tg S r s' hF Q hQ pins sh I => by
  cases hF
  exact pts_nil.run pins sh σ H Q I (hQ H tg (Go.refl S) S)
theorem dq_one {Fa : TF} (ha : DT T X E Γ a Fa Γ) : DQ T X E Γ [a] Fa := .mk fun H0 S0 ρ s σ H tg S r s' hF Q hQ pins sh I =>
  (pts_one WT.pt).run pins sh σ H Q I (ha _ _ _ _ _ _ _ S _ _ hF Q hQ)
def wipeR (ρ : Env) : List Nat → Env
  | [] => ρ
  | i :: is => (wipeR ρ is).set i none
theorem Sta.unset {i : Nat} (S : Sta T H0 S0 Γ ρ s σ H tg) : Sta T H0 S0 Γ (ρ.set i none) s (σ.set i none) H tg := by
  refine ⟨by simp [S.len], fun j c e => ?_, S.stm, S.tgd, S.tg0, S.tgs, S.old, S.stm0, S.same⟩
  by_cases hj : j = i
  · subst hj
    by_cases hl : j < ρ.length
    · rw [List.getElem?_set_self hl] at e; cases e
    · rw [List.getElem?_eq_none (by simpa using hl)] at e; cases e
  · rw [List.getElem?_set_ne (Ne.symm hj)] at e
    obtain ⟨h0, u, h1, h2⟩ := S.val j c e
    exact ⟨h0, u, by rw [List.getElem?_set_ne (Ne.symm hj)]; exact h1, h2⟩
theorem Sta.wipe (S : Sta T H0 S0 Γ ρ s σ H tg) : ∀ is : List Nat, Sta T H0 S0 Γ (wipeR ρ is) s (L2.wipe σ is) H tg
  | [] => S
  | i :: is => (S.wipe is).unset
/-- a slot without a tree may be held anyhow -/
def wipeG (Γ : List Md) : List Nat → List Md
  | [] => Γ
  | i :: is => (wipeG Γ is).set i .atom
theorem Sta.wipeG (S : Sta T H0 S0 Γ ρ s σ H tg) : ∀ is : List Nat, (∀ i ∈ is, ∀ d, ρ[i]? ≠ some (some d)) → Sta T H0 S0 (DL.wipeG Γ is) ρ s σ H tg
  | [], _ => S
  | i :: is, h => by
    have S' := S.wipeG is fun j hj => h j (List.mem_cons_of_mem _ hj)
    refine ⟨S'.len, fun j c e => ?_, S'.stm, S'.tgd, S'.tg0, S'.tgs, S'.old, S'.stm0, S'.same⟩
    have hj : j ≠ i := fun z => h i List.mem_cons_self c (z ▸ e)
    rw [DL.wipeG, getD_set_ne hj]
    exact S'.val j c e
theorem wipeR_none (ρ : Env) : ∀ (is : List Nat) (i : Nat), i ∈ is → ∀ d, (wipeR ρ is)[i]? ≠ some (some d)
  | [], i, h, d => by cases h
  | j :: js, i, h, d => by
    rw [wipeR]
    by_cases e : i = j
    · subst e
      by_cases hl : i < (wipeR ρ js).length
      · rw [List.getElem?_set_self hl]; simp
      · rw [List.getElem?_eq_none (by simpa using hl)]; simp
    · rw [List.getElem?_set_ne (Ne.symm e)]
      exact wipeR_none ρ js i ((List.mem_cons.mp h).resolve_left e) d
theorem wipe_get (σ : St) : ∀ (is : List Nat) (j : Nat), (L2.wipe σ is)[j]? = if j ∈ is then (if j < σ.length then some none else none) else σ[j]?
  | [], j => by simp [L2.wipe]
  | i :: is, j => by
    rw [L2.wipe]
    by_cases e : i = j
    · subst e
      by_cases hl : i < σ.length
      · rw [List.getElem?_set_self (by rw [L2.wipe_length]; exact hl)]; simp [hl]
      · rw [List.getElem?_eq_none (by simpa [L2.wipe_length] using hl)]; simp [hl]
    · rw [List.getElem?_set_ne e, wipe_get σ is j]
      simp only [List.mem_cons, Ne.symm e, false_or]
theorem wipe_agree {js is : List Nat} {σ σ' : St} (h : ∀ j ∈ js, j ∈ is) (a : SameBut js σ σ') : L2.wipe σ' is = L2.wipe σ is := by
  apply List.ext_getElem?
  intro j
  rw [wipe_get, wipe_get, a.1]
  by_cases hj : j ∈ is
  · rw [if_pos hj, if_pos hj]
  · rw [if_neg hj, if_neg hj]; exact a.2 j fun z => hj (h j z)
theorem wipe_wipe (σ : St) (is : List Nat) : L2.wipe (L2.wipe σ is) is = L2.wipe σ is := by
  apply List.ext_getElem?
  intro j
  rw [wipe_get, wipe_get, L2.wipe_length]
  by_cases hj : j ∈ is
  · rw [if_pos hj, if_pos hj]
  · rw [if_neg hj, if_neg hj]
/-- an object of nobody's is written -/
theorem Sta.poke {D : Addr} {o : HO} (S : Sta T H0 S0 Γ ρ s σ H tg) (hD : H D ≠ none) (hn : tg D = .no) (h0 : H0 D = none) (hmu : ∀ o', H D = some o' → ¬ Imm o') : Sta T H0 S0 Γ ρ s σ (upd H D o) tg := by
  have ne1 : T.st ≠ D := fun z => by have := S.stm0.1; rw [z] at this; exact this h0
  have ne2 : T.sl ≠ D := fun z => by have := S.stm0.2; rw [z] at this; exact this h0
  have up : ∀ a, H a ≠ none → upd H D o a ≠ none := fun a n => by
    by_cases z : a = D
    · rw [z, upd_same]; simp
    · rw [upd_ne z]; exact n
  refine ⟨S.len, fun i d e => ?_, ⟨by rw [upd_ne ne1]; exact S.stm.1, by rw [upd_ne ne2]; exact S.stm.2⟩, fun a n => up a (S.tgd a n), S.tg0, S.tgs, S.old, S.stm0, fun a u e h1 h2 => ?_⟩
  · obtain ⟨h0', v, h1, h2⟩ := S.val i d e
    refine ⟨h0', v, h1, h2.move h0' (fun b u q z => ?_) (fun _ h => h) fun _ _ h => h⟩
    rw [upd_ne]
    · exact q
    · rintro rfl
      rcases z with (z | z) | z
      · exact exS_not hn z
      · exact shS_not hn z
      · exact hmu _ q z
  · rw [upd_ne (fun z => by rw [z, h0] at e; cases e)]; exact S.same a u e h1 h2
theorem Go.poke {D : Addr} {o : HO} (g : Go T H H1 tg tg1) (h : H D = none) : Go T H (upd H1 D o) tg tg1 :=
  ⟨fun a u e h1 h2 => by rw [upd_ne (fun z => by rw [z, h] at e; cases e)]; exact g.x a u e h1 h2, g.t, fun a n => by rw [upd_ne (fun z => by rw [z] at n; exact n h)]; exact g.u a n⟩
/-- the kids so far, later -/
theorem RepL.kids {D : Addr} {o : HO} {k : Kid} (r : RepL T H1 (fun b => kidS tg1 (frS tg1 H H1) k b ∧ b ≠ D) vs ds) (S1 : Sta T H0 S0 Γ ρ s σ H1 tg1) (g : Go T H1 H2 tg1 tg2) (hst : H T.st ≠ none) (hsl : H T.sl ≠ none) (hDi : ∀ o', H2 D = some o' → ¬ Imm o') :
    RepL T (upd H2 D o) (fun b => kidS tg2 (frS tg2 H (upd H2 D o)) k b ∧ b ≠ D) vs ds := by
  have ns : ∀ a, kidS tg1 (frS tg1 H H1) k a → a ≠ T.st ∧ a ≠ T.sl := fun a z => by
    cases k with
    | o => exact ⟨fun q => by rw [q] at z; exact shS_not S1.tgs.1 z, fun q => by rw [q] at z; exact shS_not S1.tgs.2 z⟩
    | n => exact ⟨fun q => by rw [q] at z; exact shS_not S1.tgs.1 z, fun q => by rw [q] at z; exact shS_not S1.tgs.2 z⟩
    | e => exact ⟨fun q => by rw [q] at z; exact hst z.1, fun q => by rw [q] at z; exact hsl z.1⟩
  have k1 : Keep (fun b => kidS tg1 (frS tg1 H H1) k b ∧ b ≠ D) H1 H2 := Keep.ofExt g.x S1.stm (fun z => (ns _ z.1).1 rfl) (fun z => (ns _ z.1).2 rfl)
  have k2 : Keep (fun b => kidS tg1 (frS tg1 H H1) k b ∧ b ≠ D) H2 (upd H2 D o) := fun a u e z => by
    rw [upd_ne]
    · exact e
    · rintro rfl
      rcases z with z | z
      · exact z.2 rfl
      · exact hDi _ e z
  refine ((r.keep k1).keep k2).mono fun a z => ⟨?_, z.2⟩
  cases k with
  | o => exact g.t.sh S1.tgd z.1
  | n => exact g.t.sh S1.tgd z.1
  | e => exact ⟨z.1.1, by rw [upd_ne z.2]; exact g.u a z.1.2.1, by rw [g.t.1 a z.1.2.1]; exact z.1.2.2⟩
def lcD (B : D → M (Option D)) : List D → M (List D)
  | [] => pure []
  | d :: ds => do
    let o ← B d
    let ys ← lcD B ds
    match o with
    | some y => pure (y :: ys)
    | none => pure ys
def lcB (g : GF) (Fq : TF) (Fe : EF) (ρ : Env) (d : D) : M (Option D) := match g d ρ with
  | some ρ1 => do if ← Fq ρ1 then do let y ← Fe ρ1; pure (some y) else pure none
  | none => M.fail
def fLc (q : Bool) (Fi : IF) (is : List Nat) (g : GF) (Fq : TF) (Fe : EF) : EF := fun ρ => do
  let items ← Fi ρ
  fzM q items
  let ys ← lcD (lcB g Fq Fe (wipeR ρ is)) items
  M.of (if items.length ≤ sizeLine then some (.lst ys) else none)
theorem lcD_cons {B : D → M (Option D)} {r : Except Exn (List D)} (h : lcD B (d :: ds) s = some (r, s')) :
    (∃ x, r = .error x) ∨ ∃ o s1 ys, B d s = some (.ok o, s1) ∧ lcD B ds s1 = some (.ok ys, s') ∧ r = .ok (match o with | some y => y :: ys | none => ys) := by
  rcases M.bind_some h with ⟨x, h1, rfl⟩ | ⟨o, s1, h1, h2⟩
  · exact .inl ⟨x, rfl⟩
  rcases M.bind_some h2 with ⟨x, h3, rfl⟩ | ⟨ys, s2, h3, h4⟩
  · exact .inl ⟨x, rfl⟩
  cases o <;> (cases h4; exact .inr ⟨_, s1, ys, h1, h3, rfl⟩)
/-- in a comprehension nothing is raised -/
def noErr {α : Type} (x : M α) : M α := fun s => match x s with
  | some (.error _, _) => none
  | r => r
theorem noErr_some {α : Type} {x : M α} {r : Except Exn α} (h : noErr x s = some (r, s')) : ∃ a, r = .ok a ∧ x s = some (.ok a, s') := by
  unfold noErr at h
  split at h
  · cases h
  · rename_i q
    cases r with
    | error e => exact absurd h (q _ _)
    | ok a => exact ⟨a, rfl, h⟩
def fLcN (q : Bool) (Fi : IF) (is : List Nat) (g : GF) (Fq : TF) (Fe : EF) : EF := fun ρ => do
  let items ← Fi ρ
  fzM q items
  let ys ← noErr (lcD (lcB g Fq Fe (wipeR ρ is)) items)
  M.of (if items.length ≤ sizeLine then some (.lst ys) else none)
def gU (X : Cx) (scope : Scope) (tge : Expr) : TG := fun v σ H Q => ∀ s H' C cl fp, WG (bkC X scope s H' C cl fp) tge v σ H Q
def qU (X : Cx) (scope : Scope) (ifs : List Expr) : TT := fun σ H Q => ∀ s H' C cl fp, WQ (bkC X scope s H' C cl fp) ifs σ H Q
def eU (X : Cx) (scope : Scope) (elt : Expr) : TE := fun σ H Q => ∀ s H' C cl fp, WE (bkC X scope s H' C cl fp) elt σ H Q
theorem gU.pg (s : Shared) (H : Hp) (C : Addr) (cl : List (Str × Addr)) (fp : List Addr) : PG (bkC X scope s H C cl fp) tge (gU X scope tge) := ⟨fun pins sh σ H' v u Q I r h => h s H C cl fp pins sh u I r⟩
theorem qU.pts {ifs : List Expr} (s : Shared) (H : Hp) (C : Addr) (cl : List (Str × Addr)) (fp : List Addr) : PTs (bkC X scope s H C cl fp) ifs (qU X scope ifs) := ⟨fun pins sh σ H' Q I h => h s H C cl fp pins sh I⟩
theorem eU.pe (s : Shared) (H : Hp) (C : Addr) (cl : List (Str × Addr)) (fp : List Addr) : PE (bkC X scope s H C cl fp) elt (eU X scope elt) := ⟨fun pins sh σ H' Q I h => h s H C cl fp pins sh I⟩
/-- what the comprehension's list holds so far: ys at D, all new but D -/
theorem lc_read {js : List Nat} (hjs : ∀ j ∈ js, j ∈ own.map (·.2)) {q : Bool} {Fi : IF} {g : GF} {Fq : TF} {Fe : EF} {ifs : List Expr} (hi : DI T X E Γ tge iter Fi ms) (hfm : ms.flat = true) (hel : ElM q ms me)
    (hg : ∀ s H C cl fp, DG T (bkC X scope s H C cl fp) me js (wipeG Γ (own.map (·.2))) tge g Γi) (ht : ∀ s H C cl fp, DQ T (bkC X scope s H C cl fp) E0 Γi ifs Fq) (he : ∀ s H C cl fp, DE T (bkC X scope s H C cl fp) E0 Γi elt Fe m Γi)
    (hm : m.flat = true) (hr : m ≠ .any) (S : Sta T H0 S0 Γ ρ s σ H tg) {r : Except Exn D} (hF : fLcN q Fi (own.map (·.2)) g Fq Fe ρ s = some (r, s')) (hE : ErrK T E H s' r) {Q : VK}
    (hQ : ∀ d v H' tg', r = .ok d → Go T H H' tg tg' → Sta T H0 S0 Γ ρ s' σ H' tg' → RepW T tg' (frS tg' H H') H' (.ow (kidOf m)) v d → Q v H') :
    tLc (WI X tge iter) (gU X scope tge) (qU X scope ifs) (eU X scope elt) (own.map (·.2)) σ H Q := by
  rcases M.bind_some hF with ⟨x, h1, rfl⟩ | ⟨items, s1, h1, h2⟩
  · exact hi _ _ _ _ _ _ _ S _ _ h1 _ (hE x rfl)
  obtain ⟨hfz, h2⟩ := fz_step h2
  rcases M.bind_some h2 with ⟨x, h3, rfl⟩ | ⟨ys, s2, h3, h4⟩
  · obtain ⟨_, q, _⟩ := noErr_some h3; cases q
  obtain ⟨ys', q', h3⟩ := noErr_some h3
  cases q'
  obtain ⟨c, hc, rfl, rfl⟩ := M.of_some h4
  obtain ⟨hlen, rfl⟩ := if_some hc
  refine hi _ _ _ _ _ _ _ S _ _ h1 _ fun J H1 tg1 g1 S1 hJ => ?_
  obtain ⟨G, Y, w, hG, kp, hy⟩ := hJ
  intro D hD
  have hD0 : H0 D = none := S1.born hD
  have hDt : tg1 D = .no := S1.fresh hD
  obtain ⟨x1, st1⟩ := lay_any (o := .lst []) S1.stm hD
  have neS : D ≠ T.st ∧ D ≠ T.sl := ⟨(fun z => by rw [z, S1.stm.1] at hD; cases hD), (fun z => by rw [z, S1.stm.2] at hD; cases hD)⟩
  have hDH : H D = none := Classical.byContradiction fun n => g1.u D n hD
  -- the state at turn i
  refine lc_it (g := gU X scope tge) (tt := qU X scope ifs) (te := eU X scope elt) (vs := own.map (·.2)) (σ := σ) (H1 := H1) (D := D) (Qd := fun H => Q (.ref D) H) w (fun i H' => ∃ si tgi acc zs rest, lcD (lcB g Fq Fe (wipeR ρ (own.map (·.2)))) (items.drop i) si = some (.ok rest, s') ∧ ys = zs ++ rest ∧ Sta T H0 S0 Γ ρ si σ H' tgi ∧ tgi D = .no ∧
      H' D = some (.lst acc) ∧ acc.length ≤ i ∧ RepL T H' (fun b => kidS tgi (frS tgi H H') (kidOf m) b ∧ b ≠ D) acc zs ∧ Go T H H' tg tgi ∧ (∀ a o, H1 a = some o → a ≠ T.st → a ≠ T.sl → H' a = some o) ∧ (∀ b a, shS tg1 b a → shS tgi b a))
    ⟨s1, tg1, [], [], ys, by simpa using h3, rfl, S1.ext0 x1 st1, hDt, upd_same, Nat.zero_le _, .nil, g1.trans (Go.lay S1 x1 st1), x1, fun _ _ h => h⟩ ?_ ?_ ?_
  · rintro i H' hi' ⟨si, tgi, acc, zs, rest, h5, h6, Si, ht, hd, hl, hr, gi, xi, hsh⟩
    exact kp H1 H' (Keep.ofExt xi S1.stm (fun z => (set_any S S1 _ z).2.1 rfl) (fun z => (set_any S S1 _ z).2.2 rfl)) hG
  · rintro i x H' H'' hlt ⟨si, tgi, acc, zs, rest, h5, h6, Si, ht', hd, hl, hrp, gi, xi, hsh⟩ hyi
    have hGi : G H' := kp H1 H' (Keep.ofExt xi S1.stm (fun z => (set_any S S1 _ z).2.1 rfl) (fun z => (set_any S S1 _ z).2.2 rfl)) hG
    obtain ⟨hnew, dd, hdd, rd⟩ := hy i H' x H'' hlt hGi hyi
    have hdrop : items.drop i = dd :: items.drop (i + 1) := by
      obtain ⟨h7, h8⟩ := List.getElem?_eq_some_iff.mp hdd
      rw [List.drop_eq_getElem_cons h7, h8]
    rw [hdrop] at h5
    have rd' := hel.rep hfz hdd (fun _ h => h) rd
    have hx : Ext T H' H'' ∧ StmAt T H'' si ∧ H'' D = some (.lst acc) := by
      rcases hnew with rfl | ⟨q0, xs, hq0, rfl⟩
      · exact ⟨Ext.refl, Si.stm, hd⟩
      · obtain ⟨a1, a2⟩ := lay_any (o := .tup xs) Si.stm hq0
        exact ⟨a1, a2, a1 D _ hd neS.1 neS.2⟩
    have Si' := Si.ext0 hx.1 hx.2.1
    have gi' := gi.trans (Go.lay Si hx.1 hx.2.1)
    have rde : Rep T H'' (wS tgi (fun _ => False) me) x dd := by
      rcases hel with ⟨_, rfl, rfl | ⟨b, rfl⟩⟩ | ⟨_, rfl⟩
      · exact rd'
      · exact Rep.mono (S := shS tg1 b) rd' fun a z => hsh b a z
      · exact rd'
    rcases lcD_cons h5 with ⟨x, q⟩ | ⟨o, s2, ys2, h7, h8, h9⟩
    · cases q
    cases h9
    -- the slots wiped
    have Sw := (Si'.wipe (own.map (·.2))).wipeG (own.map (·.2)) fun j hj d => wipeR_none ρ _ j hj d
    cases hgd : g dd (wipeR ρ (own.map (·.2))) with
    | none =>
      unfold lcB at h7; rw [hgd] at h7; cases h7
    | some ρ1 =>
      unfold lcB at h7
      rw [hgd] at h7
      intro bs bH bC bcl bfp
      refine hg bs bH bC bcl bfp _ _ _ _ _ _ _ _ _ _ Sw rde hgd _ fun σ2 S2 ag => ?_
      refine ⟨?_, ?_⟩
      · exact (wipe_agree hjs ag).trans (wipe_wipe _ _)
      intro bs bH bC bcl bfp
      rcases M.bind_some h7 with ⟨x, h10, q⟩ | ⟨kb, s3, h10, h11⟩
      · cases q
      refine ht bs bH bC bcl bfp _ _ _ _ _ _ _ S2 _ _ h10 _ fun H3 tg3 g3 S3 => ?_
      have S3b := Si'.go g3 S3
      have hd3 : H3 D = some (.lst acc) := g3.x D _ hx.2.2 neS.1 neS.2
      have ht3 : tg3 D = .no := by rw [g3.t.1 D (by rw [hx.2.2]; simp)]; exact ht'
      have g03 := (Go.lay Si hx.1 hx.2.1).trans g3
      have hst : H T.st ≠ none := by rw [S.stm.1]; simp
      have hsl : H T.sl ≠ none := by rw [S.stm.2]; simp
      have xi' : ∀ a o, H1 a = some o → a ≠ T.st → a ≠ T.sl → H'' a = some o := fun a o e h1 h2 => hx.1 a o (xi a o e h1 h2) h1 h2
      cases kb with
      | false =>
        cases h11
        refine iteF ⟨_, tg3, acc, zs, ys2, h8, h6, S3b, ht3, hd3, Nat.le_succ_of_le hl, ?_, gi'.trans g3, fun a o e h1 h2 => g3.x a o (xi' a o e h1 h2) h1 h2, fun b a z => g03.t.sh Si.tgd (hsh b a z)⟩
        have := RepL.kids (o := .lst acc) hrp Si g03 hst hsl (fun o' e z => by rw [hd3] at e; cases e; exact z)
        have e : upd H3 D (.lst acc) = H3 := by funext a; unfold upd; by_cases z : a = D; rw [if_pos z, z, hd3]; rw [if_neg z]
        rw [e] at this; exact this
      | true =>
        refine iteT ?_
        rcases M.bind_some h11 with ⟨x, h12, q⟩ | ⟨yd, s4, h12, h13⟩
        · cases q
        cases h13
        intro bs bH bC bcl bfp
        refine he bs bH bC bcl bfp _ _ _ _ _ _ _ S3 _ _ h12 _ fun yv H4 tg4 g4 S4 r4 => ?_
        have S4b := S3b.go g4 S4
        have hd4 : H4 D = some (.lst acc) := g4.x D _ hd3 neS.1 neS.2
        have ht4 : tg4 D = .no := by rw [g4.t.1 D (by rw [hd3]; simp)]; exact ht3
        have g04 := g03.trans g4
        have hDi : ∀ o', H4 D = some o' → ¬ Imm o' := fun o' e z => by rw [hd4] at e; cases e; exact z
        refine ⟨acc, hd4, Nat.lt_of_le_of_lt hl (Nat.lt_of_lt_of_le hlt hlen), _, tg4, acc ++ [yv], zs ++ [yd], ys2, h8, by rw [h6, List.append_assoc]; rfl, S4b.poke (by rw [hd4]; simp) ht4 hD0 hDi, ht4, upd_same, by simp; omega,
          RepL.append (RepL.kids hrp Si g04 hst hsl hDi) (.one ?_), (gi'.trans (g3.trans g4)).poke hDH, fun a o e h1 h2 => ?_, fun b a z => g04.t.sh Si.tgd (hsh b a z)⟩
        · have r5 := (RepW.flat hm).mp r4
          have nD : ∀ a, setW T tg4 (frS tg4 H3 H4) H4 m a → a ≠ D := fun a z q => by
            subst q
            cases m with
            | any => exact hr rfl
            | atom => exact z
            | sh b => exact shS_not ht4 z
            | xc => rw [z.1] at hd3; cases hd3
            | ow k => cases hm
          have ns : ∀ a, setW T tg4 (frS tg4 H3 H4) H4 m a → a ≠ T.st ∧ a ≠ T.sl := fun a z => ⟨fun q => (set_any S3 S4 a z).2.1 q, fun q => (set_any S3 S4 a z).2.2 q⟩
          refine (r5.keep (H' := upd H4 D (.lst (acc ++ [yv]))) fun a u e z => ?_).mono fun a z => ⟨?_, nD a z⟩
          · rw [upd_ne]
            · exact e
            · rintro rfl
              rcases z with z | z
              · exact nD _ z rfl
              · exact hDi _ e z
          · cases m with
            | any => exact absurd rfl hr
            | atom => exact z.elim
            | sh b => cases b <;> exact z
            | xc => exact ⟨Classical.byContradiction fun n => (gi'.trans g3).u a n z.1, by rw [upd_ne (nD a z)]; exact z.2.1, z.2.2⟩
            | ow k => cases hm
        · rw [upd_ne (fun z => by rw [z, hD] at e; cases e)]
          exact g4.x a o (g3.x a o (xi' a o e h1 h2) h1 h2) h1 h2
  · rintro H' ⟨si, tgi, acc, zs, rest, h5, h6, Si, ht', hd, hl, hrp, gi, xi, hsh⟩
    rw [List.drop_length] at h5
    cases h5
    rw [List.append_nil] at h6
    subst h6
    exact hQ _ _ H' tgi rfl gi Si ⟨D, acc, rfl, ⟨hDH, by rw [hd]; simp, ht'⟩, hd, hrp⟩
end
end DL
end
section
set_option autoImplicit false
namespace DL
open PySem PySem.Spec L2
section
variable {T : Cfg} {H0 H H' H1 H2 H3 : Hp} {S0 SS : Addr → Prop} {Γ Γ' Γ1 Γ2 Γ3 Γb Γw Γi : List Md} {ρ ρ' : Env} {s s' s1 s2 : Strm} {σ : St} {tg tg' tg1 tg2 : Tags} {v w : V} {d c : D} {vs : List V} {ds : List D} {m m' mr me ms : Md} {rm : Rm}
variable {X : Cx} {E : XK} {e a b : Expr} {es : List Expr} {F Fa Fb : EF} {pos p : Pos} {x : Str} {tge iter elt : Expr} {scope : Scope} {own : List (Str × Nat)}
/-- a comprehension as a value -/
theorem de_lc {js : List Nat} {q : Bool} {Fi : IF} {g : GF} {Fq : TF} {Fe : EF} {ifs : List Expr} (hc : X.calm = true) (hN : X.N.Nodup) (ok : BlkOk X.N X.env.scope scope own) (hjs : ∀ j ∈ js, j ∈ own.map (·.2)) (hi : DI T X E Γ tge iter Fi ms) (hfm : ms.flat = true) (hel : ElM q ms me)
    (hg : ∀ s H C cl fp, DG T (bkC X scope s H C cl fp) me js (wipeG Γ (own.map (·.2))) tge g Γi) (ht : ∀ s H C cl fp, DQ T (bkC X scope s H C cl fp) E0 Γi ifs Fq) (he : ∀ s H C cl fp, DE T (bkC X scope s H C cl fp) E0 Γi elt Fe m Γi)
    (hm : m.flat = true) (hr : m ≠ .any) (hs : ∀ x, foldedSetIterable iter X.env x = pure x := by intro _; rfl) :
    DE T X E Γ (.ListComp elt [⟨tge, iter, ifs, 0⟩] scope pos) (fLcN q Fi (own.map (·.2)) g Fq Fe) (.ow (kidOf m)) Γ := by
  refine ⟨?_⟩
  intro H0 S0 ρ s σ H tg S r s' hF Q hQ
  refine WE.of (pe_lc hc hN WI.pi ok (fun s H C cl fp => gU.pg s H C cl fp) (fun s H C cl fp => qU.pts s H C cl fp) (fun s H C cl fp => eU.pe s H C cl fp) hs) ?_
  refine lc_read hjs hi hfm hel hg ht he hm hr S hF hQ.ek fun d v H' tg' hr g' S' r' => ?_
  subst hr
  exact hQ v H' tg' g' S' r'
/-- x = [..] on one line, x a local -/
theorem ds_setLc (i : Nat) {y : Str} {p' spos : Pos} {js : List Nat} {q : Bool} {Fi : IF} {g : GF} {Fq : TF} {Fe : EF} {ifs : List Expr} (hc : X.calm = true) (hN : X.N.Nodup) (hsw : swapsWith (.ListComp elt [⟨tge, iter, ifs, 0⟩] scope pos) (some (.Name y p')) spos.line X.env = pure true)
    (ok : BlkOk X.N X.env.scope scope own) (hjs : ∀ j ∈ js, j ∈ own.map (·.2)) (hi : DI T X E Γ tge iter Fi ms) (hfm : ms.flat = true) (hel : ElM q ms me)
    (hg : ∀ s H C cl fp, DG T (bkC X scope s H C cl fp) me js (wipeG Γ (own.map (·.2))) tge g Γi) (ht : ∀ s H C cl fp, DQ T (bkC X scope s H C cl fp) E0 Γi ifs Fq) (he : ∀ s H C cl fp, DE T (bkC X scope s H C cl fp) E0 Γi elt Fe m Γi)
    (hm : m.flat = true) (hr : m ≠ .any) (hi2 : i < Γ.length := by decide) (hy : X.N[i]? = some y := by rfl) (hx : X.env.scope.names.lookup y = some .local := by rfl) (hs : ∀ x, foldedSetIterable iter X.env x = pure x := by intro _; rfl) :
    DS T X E mr Γb Γ (.Assign [.Name y p'] (.ListComp elt [⟨tge, iter, ifs, 0⟩] scope pos) spos) (sSet i (fLcN q Fi (own.map (·.2)) g Fq Fe)) (Γ.set i (.ow (kidOf m))) := by
  refine ⟨?_⟩
  intro H0 S0 ρ s σ H tg S r s' hF D hD
  refine WS.of (ps_setLc hc hN hy hx hsw WI.pi ok (fun s H C cl fp => gU.pg s H C cl fp) (fun s H C cl fp => qU.pts s H C cl fp) (fun s H C cl fp => eU.pe s H C cl fp) hs) ?_
  show tLc _ _ _ _ _ σ H (fun x H1 => gName i x σ H1 D.nx)
  rcases M.bind_some hF with ⟨x, h1, rfl⟩ | ⟨d, s1, h1, h2⟩
  · exact lc_read hjs hi hfm hel hg ht he hm hr S h1 (fun y e => (hD.ek S) x rfl |> fun z => by cases e; exact z) fun d v H' tg' hr => by cases hr
  · refine lc_read hjs hi hfm hel hg ht he hm hr S h1 (fun y e => by cases e) fun d v H' tg' hr g' S' r' => ?_
    cases hr; cases h2
    exact hD _ H' _ ((g'.kp S).trans Kp.bn) (S'.bind (fun a h => S.born h) hi2 (by exact fun q => by cases q) r')
end
end DL
end
section
set_option autoImplicit false
namespace DL
open PySem PySem.Spec L2
section
variable {T : Cfg} {H0 H H' H1 H2 H3 : Hp} {S0 SS : Addr → Prop} {Γ Γ' Γ1 Γ2 Γ3 Γb Γw Γi : List Md} {ρ ρ' : Env} {s s' s1 s2 : Strm} {σ : St} {tg tg' tg1 tg2 : Tags} {v w : V} {d c : D} {vs : List V} {ds : List D} {m m' mr me ms : Md} {rm : Rm} {k : Kid} {i : Nat}
variable {X : Cx} {E : XK} {e a b : Expr} {es : List Expr} {F Fa Fb : EF} {pos p : Pos} {x : Str} {tge iter elt : Expr} {scope : Scope} {own : List (Str × Nat)}
theorem Sta.slotO (S : Sta T H0 S0 Γ ρ s σ H tg) (hm : Γ.getD i .atom = .ow k) (h : ρ[i]? = some (some d)) : ∃ v, σ[i]? = some (some v) ∧ RepO T H (exS tg i) (kidS tg (exS tg i) k) v d := by
  obtain ⟨_, v, h1, h2⟩ := S.val i d h
  rw [hm] at h2
  exact ⟨v, h1, h2⟩
theorem Sta.store {A : Addr} {o : HO} (S : Sta T H0 S0 Γ ρ s σ H tg) (hm : Γ.getD i .atom = .ow k) (hA : tg A = .ex i) (hmu : ∀ o', H A = some o' → ¬ Imm o') (hv : σ[i]? = some (some v)) (r : RepO T (upd H A o) (exS tg i) (kidS tg (exS tg i) k) v d) :
    Sta T H0 S0 Γ (ρ.set i (some d)) s σ (upd H A o) tg := by
  have h0 : H0 A = none := by
    cases e : H0 A with
    | none => rfl
    | some o => rcases S.tg0 A (by rw [e]; simp) with z | z <;> (rw [hA] at z; cases z)
  have ne1 : T.st ≠ A := fun z => by have := S.tgs.1; rw [z, hA] at this; cases this
  have ne2 : T.sl ≠ A := fun z => by have := S.tgs.2; rw [z, hA] at this; cases this
  have up : ∀ a, H a ≠ none → upd H A o a ≠ none := fun a n => by
    by_cases z : a = A
    · rw [z, upd_same]; simp
    · rw [upd_ne z]; exact n
  refine ⟨by rw [List.length_set]; exact S.len, fun j d' e => ?_, ⟨by rw [upd_ne ne1]; exact S.stm.1, by rw [upd_ne ne2]; exact S.stm.2⟩, fun a n => up a (S.tgd a n), S.tg0, S.tgs, S.old, S.stm0, fun a u e h1 h2 => ?_⟩
  · by_cases hj : j = i
    · subst hj
      have hl : j < ρ.length := by
        have := (List.getElem?_eq_some_iff.mp hv).1
        rw [S.len] at this; exact this
      rw [List.getElem?_set_self hl] at e
      have e' : d = d' := by injection e with e; injection e
      subst e'
      rw [hm]
      exact ⟨(fun q => by cases q), v, hv, r⟩
    · rw [List.getElem?_set_ne (Ne.symm hj)] at e
      obtain ⟨h0', u, h1, h2⟩ := S.val j d' e
      refine ⟨h0', u, h1, h2.move h0' (fun b u q z => ?_) (fun _ h => h) fun _ _ h => h⟩
      rw [upd_ne]
      · exact q
      · rintro rfl
        rcases z with (z | z) | z
        · rw [exS, hA] at z; exact hj (by injection z with z; exact z.symm)
        · rcases z with z | ⟨_, z⟩ <;> (rw [hA] at z; cases z)
        · exact hmu _ q z
  · rw [upd_ne (fun z => by rw [z, h0] at e; cases e)]; exact S.same a u e h1 h2
theorem Kp.store {A : Addr} {o : HO} (hA : tg A = .ex i) (hmu : ∀ o', H A = some o' → ¬ Imm o') : Kp tg tg H (upd H A o) := by
  refine ⟨fun b u q z => ?_, fun _ _ h => h, fun a n => ?_⟩
  · rw [upd_ne]
    · exact q
    · rintro rfl
      rcases z with z | z
      · rcases z with z | ⟨_, z⟩ <;> (rw [hA] at z; cases z)
      · exact hmu _ q z
  · by_cases z : a = A
    · rw [z, upd_same]; simp
    · rw [upd_ne z]; exact n
/-- how a thing must be held to be stored within -/
def kidM : Kid → Md
  | .o => .sh false
  | .n => .sh true
  | .e => .xc
theorem kidM_flat (k : Kid) : (kidM k).flat = true := by cases k <;> rfl
/-- a new thing becomes the slot's -/
theorem Sta.take (S : Sta T H0 S0 Γ ρ s σ H tg) (S1 : Sta T H0 S0 Γ1 ρ s1 σ H1 tg1) (g : Go T H H1 tg tg1) (i : Nat) :
    Sta T H0 S0 Γ1 ρ s1 σ H1 (bnT i tg1 H H1) ∧ Kp tg (bnT i tg1 H H1) H H1 ∧ ∀ k a, setW T tg1 (frS tg1 H H1) H1 (kidM k) a → kidS (bnT i tg1 H H1) (exS (bnT i tg1 H H1) i) k a := by
  refine ⟨S1.retag fun a => (bn_or a).imp id fun e => ⟨e.1, by rw [e.2.1]; exact fun q => (by cases q), e.2.2.1, S.born e.2.2.2⟩, (g.kp S).trans Kp.bn, fun k a h => ?_⟩
  cases k with
  | o => exact bn_sh h
  | n => exact bn_sh h
  | e => exact bn_yes h
theorem kid_ne {A : Addr} (hA : tg A = .ex i) (hH : H A ≠ none) {a : Addr} (h : setW T tg (frS tg H1 H) H (kidM k) a) : a ≠ A := by
  rintro rfl
  cases k with
  | o => rcases h with z | ⟨_, z⟩ <;> (rw [hA] at z; cases z)
  | n => rcases h with z | ⟨_, z⟩ <;> (rw [hA] at z; cases z)
  | e => rw [h.2.2] at hA; cases hA
theorem kid_ex {A : Addr} {o : HO} (hmu : ∀ o', H A = some o' → ¬ Imm o') {S : Addr → Prop} : Keep (fun b => S b ∧ b ≠ A) H (upd H A o) := fun b u q z => by
  rw [upd_ne]
  · exact q
  · rintro rfl
    rcases z with z | z
    · exact z.2 rfl
    · exact hmu _ q z
/-- the list that slot i owns, before and behind an expression -/
theorem own_list (S : Sta T H0 S0 Γ ρ s σ H tg) (S1 : Sta T H0 S0 Γ1 ρ s1 σ H1 tg1) (g : Go T H H1 tg tg1) (hm : Γ.getD i .atom = .ow k) (hm1 : Γ1.getD i .atom = .ow k) (h : ρ[i]? = some (some (.lst ds))) :
    ∃ A vs, σ[i]? = some (some (.ref A)) ∧ H A = some (.lst vs) ∧ tg1 A = .ex i ∧ H1 A = some (.lst vs) ∧ RepL T H1 (fun b => kidS tg1 (exS tg1 i) k b ∧ b ≠ A) vs ds := by
  obtain ⟨v, h1, A, vs, rfl, h2, h3, h4⟩ := S.slotO hm h
  obtain ⟨v', h1', A', vs', rfl, h2', h3', h4'⟩ := S1.slotO hm1 h
  rw [h1] at h1'
  cases h1'
  have : H1 A = some (.lst vs) := g.x A _ h3 (fun z => by rw [z] at h2; exact exS_not S.tgs.1 h2) (fun z => by rw [z] at h2; exact exS_not S.tgs.2 h2)
  rw [this] at h3'
  cases h3'
  exact ⟨A, vs, h1, h3, h2', this, h4'⟩
theorem bn_ex {A : Addr} (h : tg A = .ex i) : bnT i tg H H1 A = .ex i := by
  rcases bn_or (i := i) (H := H) (H' := H1) (tg := tg) A with e | e
  · rw [e]; exact h
  · exact e.2.1
theorem bn_kid {a : Addr} (h : kidS tg (exS tg i) k a) : kidS (bnT i tg H H1) (exS (bnT i tg H H1) i) k a := by
  cases k with
  | o => exact bn_sh h
  | n => exact bn_sh h
  | e => exact bn_ex h
def lstM : Option (Option D) → M (List D)
  | some (some (.lst ds)) => pure ds
  | _ => M.fail
theorem lstM_some {o : Option (Option D)} {r : Except Exn (List D)} (h : lstM o s = some (r, s')) : ∃ ds, o = some (some (.lst ds)) ∧ r = .ok ds ∧ s' = s := by
  unfold lstM at h
  split at h
  · cases h; exact ⟨_, rfl, rfl, rfl⟩
  · cases h
theorem lst_step {β : Type} {o : Option (Option D)} {kk : List D → M β} {r : Except Exn β} (h : (lstM o >>= kk) s = some (r, s')) : ∃ ds, o = some (some (.lst ds)) ∧ kk ds s = some (r, s') := by
  rcases M.bind_some h with ⟨x, h1, rfl⟩ | ⟨bb, s4, h1, h2⟩
  · obtain ⟨_, _, q, _⟩ := lstM_some h1; cases q
  · obtain ⟨b, e, q, rfl⟩ := lstM_some h1; cases q; exact ⟨_, e, h2⟩
/-- the state behind a store to slot i's list -/
theorem own_put {A : Addr} {vs' : List V} {ds' : List D} (S1 : Sta T H0 S0 Γ1 ρ s1 σ H1 tg1) (hm1 : Γ1.getD i .atom = .ow k) (hv : σ[i]? = some (some (.ref A))) (hA : tg1 A = .ex i) (hH : H1 A = some (.lst vs)) (r : RepL T H1 (fun b => kidS tg1 (exS tg1 i) k b ∧ b ≠ A) vs' ds') :
    Sta T H0 S0 Γ1 (ρ.set i (some (.lst ds'))) s1 σ (upd H1 A (.lst vs')) tg1 ∧ Kp tg1 tg1 H1 (upd H1 A (.lst vs')) := by
  have hmu : ∀ o', H1 A = some o' → ¬ Imm o' := fun o' e z => by rw [hH] at e; cases e; exact z
  exact ⟨S1.store hm1 hA hmu hv ⟨A, vs', rfl, hA, upd_same, r.keep (kid_ex hmu)⟩, Kp.store hA hmu⟩
def sApp (i : Nat) (Fe : EF) : SF := fun ρ => do
  let ds ← lstM (ρ[i]?)
  let d ← Fe ρ
  M.of (if ds.length < sizeLine then some (.nx (ρ.set i (some (.lst (ds ++ [d]))))) else none)
/-- x.append(e), x ours -/
theorem ds_app (i : Nat) (k : Kid) {y : Str} {py apos cpos : Pos} {Fe : EF} (hm : Γ.getD i .atom = .ow k) (hm1 : Γ1.getD i .atom = .ow k) (he : DE T X E Γ e Fe (kidM k) Γ1) (hN : X.N[i]? = some y := by rfl)
    (hv : Vis X.env.scope y := by first | exact Or.inl rfl | exact Or.inr (Or.inl rfl) | exact Or.inr (Or.inr rfl)) (hd : (y == ("__debug__" : Str)) = false := by decide) (hcd : (y == ("__classdict__" : Str)) = false := by decide)
    (hbase : attributeBase (.Name y py) "append" X.env (eval (.Name y py) X.env) = eval (.Name y py) X.env := by rfl)
    (hfew : ((backTo cpos (starEach (e :: []) X.env)).all (fun x => !x.1) && (backToKw cpos (keywordEach [] X.env)).all (fun x => x.1.isSome)
      && decide ((e :: []).length + ([] : List Keyword).length + (if ([] : List Keyword).isEmpty then 0 else 1) < 30)) = true := by rfl)
    (hline : (apos.endLine == cpos.line) = true := by rfl) (hst : starEach (e :: []) X.env = (false, eval e X.env) :: starEach [] X.env := by rfl) (hplain : (backTo cpos (starEach [] X.env)).any (·.1) = false := by rfl)
    (hs : swapsWith (.Call (.Attribute (.Name y py) "append" apos) [e] [] cpos) none pos.line X.env = pure false := by rfl) :
    DS T X E mr Γb Γ (.Expr (.Call (.Attribute (.Name y py) "append" apos) [e] [] cpos) pos) (sApp i Fe) Γ1 := by
  refine ⟨?_⟩
  intro H0 S0 ρ s σ H tg S r s' hF D hD
  refine WS.of (ps_expr (pe_bm PySem.F.plainAttrs_list PySem.F.slot_list_append PySem.F.type_list_append mt_append (pe_var hN hv hd hcd) (pa_cons WE.pe pa_nil hst) hbase hfew hline hst hplain) hs) ?_
  obtain ⟨ds, hds, h2⟩ := lst_step hF
  obtain ⟨v0, hv0, A0, vs0, rfl, hA0, hH0, _⟩ := S.slotO hm hds
  refine ⟨.ref A0, hv0, .inl ⟨rfl, vs0, SqL.of hH0⟩, ?_⟩
  show WE X e σ H _
  refine he.seq S h2 (hD.ek S) fun d s1 v H1 tg1 hk g1 S1 r1 e1 => ?_
  obtain ⟨c, hc, rfl, rfl⟩ := M.of_some hk
  obtain ⟨hlen, rfl⟩ := if_some hc
  obtain ⟨A, vs, hv1, hH, hA, hHA, rr⟩ := own_list S S1 g1 hm hm1 hds
  rw [hv0] at hv1; cases hv1
  obtain ⟨S2, k2, cv⟩ := S.take S1 g1 i
  have r1' := (RepW.flat (kidM_flat k)).mp r1
  have hAn : H1 A0 ≠ none := by rw [hHA]; simp
  have rr2 : RepL T H1 (fun b => kidS (bnT i tg1 H H1) (exS (bnT i tg1 H H1) i) k b ∧ b ≠ A0) (vs ++ [v]) (ds ++ [d]) :=
    (rr.mono fun a z => ⟨bn_kid z.1, z.2⟩).append (.one (r1'.mono fun a z => ⟨cv k a z, kid_ne hA hAn z⟩))
  obtain ⟨S3, k3⟩ := own_put S2 hm1 hv0 (bn_ex hA) hHA rr2
  refine ⟨A0, vs, v, rfl, rfl, hHA, by rw [rr.len]; exact hlen, hD _ _ _ (k2.trans k3) S3⟩
def sExt (i : Nat) (Fe : EF) : SF := fun ρ => do
  let ds ← lstM (ρ[i]?)
  let d ← Fe ρ
  M.of (match d with | .lst es => if ds.length + es.length ≤ sizeLine then some (.nx (ρ.set i (some (.lst (ds ++ es))))) else none | _ => none)
/-- x.extend(e), x ours, e a list -/
theorem ds_extend (i : Nat) (k : Kid) {y : Str} {py apos cpos : Pos} {Fe : EF} (hm : Γ.getD i .atom = .ow k) (hm1 : Γ1.getD i .atom = .ow k) (he : DE T X E Γ e Fe (kidM k) Γ1) (hN : X.N[i]? = some y := by rfl)
    (hv : Vis X.env.scope y := by first | exact Or.inl rfl | exact Or.inr (Or.inl rfl) | exact Or.inr (Or.inr rfl)) (hd : (y == ("__debug__" : Str)) = false := by decide) (hcd : (y == ("__classdict__" : Str)) = false := by decide)
    (hbase : attributeBase (.Name y py) "extend" X.env (eval (.Name y py) X.env) = eval (.Name y py) X.env := by rfl)
    (hfew : ((backTo cpos (starEach (e :: []) X.env)).all (fun x => !x.1) && (backToKw cpos (keywordEach [] X.env)).all (fun x => x.1.isSome)
      && decide ((e :: []).length + ([] : List Keyword).length + (if ([] : List Keyword).isEmpty then 0 else 1) < 30)) = true := by rfl)
    (hline : (apos.endLine == cpos.line) = true := by rfl) (hst : starEach (e :: []) X.env = (false, eval e X.env) :: starEach [] X.env := by rfl) (hplain : (backTo cpos (starEach [] X.env)).any (·.1) = false := by rfl)
    (hs : swapsWith (.Call (.Attribute (.Name y py) "extend" apos) [e] [] cpos) none pos.line X.env = pure false := by rfl) :
    DS T X E mr Γb Γ (.Expr (.Call (.Attribute (.Name y py) "extend" apos) [e] [] cpos) pos) (sExt i Fe) Γ1 := by
  refine ⟨?_⟩
  intro H0 S0 ρ s σ H tg S r s' hF D hD
  refine WS.of (ps_expr (pe_bm PySem.F.plainAttrs_list PySem.F.slot_list_extend PySem.F.type_list_extend mt_extend (pe_var hN hv hd hcd) (pa_cons WE.pe pa_nil hst) hbase hfew hline hst hplain) hs) ?_
  obtain ⟨ds, hds, h2⟩ := lst_step hF
  obtain ⟨v0, hv0, A0, vs0, rfl, hA0, hH0, _⟩ := S.slotO hm hds
  refine ⟨.ref A0, hv0, .inl ⟨rfl, vs0, SqL.of hH0⟩, ?_⟩
  show WE X e σ H _
  refine he.seq S h2 (hD.ek S) fun d s1 v H1 tg1 hk g1 S1 r1 e1 => ?_
  obtain ⟨c, hc, rfl, rfl⟩ := M.of_some hk
  cases d with
  | lst es' =>
    obtain ⟨hlen, rfl⟩ := if_some hc
    obtain ⟨A, vs, hv1, hH, hA, hHA, rr⟩ := own_list S S1 g1 hm hm1 hds
    rw [hv0] at hv1; cases hv1
    obtain ⟨S2, k2, cv⟩ := S.take S1 g1 i
    have r1' := (RepW.flat (kidM_flat k)).mp r1
    have hAn : H1 A0 ≠ none := by rw [hHA]; simp
    cases r1' with
    | @lst b ws _ hb hHb rb =>
      have rr2 : RepL T H1 (fun b => kidS (bnT i tg1 H H1) (exS (bnT i tg1 H H1) i) k b ∧ b ≠ A0) (vs ++ ws) (ds ++ es') :=
        (rr.mono fun a z => ⟨bn_kid z.1, z.2⟩).append (rb.mono fun a z => ⟨cv k a z, kid_ne hA hAn z⟩)
      obtain ⟨S3, k3⟩ := own_put S2 hm1 hv0 (bn_ex hA) hHA rr2
      exact ⟨A0, b, vs, ws, rfl, rfl, hHA, hHb, by rw [rr.len, rb.len]; exact hlen, hD _ _ _ (k2.trans k3) S3⟩
  | _ => cases hc
def whN (B : Env → M Out) (Ft : TF) : Nat → Env → M Out
  | 0, _ => M.fail
  | n + 1, ρ => do if ← Ft ρ then (do match ← B ρ with
      | .nx ρ' => whN B Ft n ρ'
      | .ct ρ' => whN B Ft n ρ'
      | .bk ρ' => pure (.nx ρ')
      | .rt v => pure (.rt v)) else pure (.nx ρ)
theorem whN_more {B : Env → M Out} {Ft : TF} : ∀ {n : Nat} {ρ : Env} {s : Strm} {r : Except Exn Out × Strm}, whN B Ft n ρ s = some r → ∀ n', n ≤ n' → whN B Ft n' ρ s = some r
  | 0, ρ, s, r, h, _, _ => by cases h
  | n + 1, ρ, s, r, h, n', hn => by
    obtain ⟨n', rfl⟩ : ∃ k, n' = k + 1 := ⟨n' - 1, by omega⟩
    obtain ⟨r, s'⟩ := r
    unfold whN at h ⊢
    rcases M.bind_some h with ⟨x, h1, rfl⟩ | ⟨c, s1, h1, h2⟩
    · rw [M.bind_eq, h1]
    rw [M.bind_eq, h1]
    cases c with
    | false => exact h2
    | true =>
      rcases M.bind_some h2 with ⟨x, h3, rfl⟩ | ⟨o, s2, h3, h4⟩
      · show (B ρ >>= _) s1 = _; rw [M.bind_eq, h3]
      · show (B ρ >>= _) s1 = _
        rw [M.bind_eq, h3]
        cases o with
        | nx ρ' => exact whN_more h4 n' (by omega)
        | ct ρ' => exact whN_more h4 n' (by omega)
        | bk ρ' => exact h4
        | rt v => exact h4
open Classical in
/-- while, by as many turns as it takes -/
noncomputable def sWhile (Ft : TF) (F : SF) : SF := fun ρ s => if h : ∃ n, (whN F Ft n ρ s).isSome then whN F Ft h.choose ρ s else none
theorem sWhile_some {Ft : TF} {F : SF} {r : Except Exn Out} (h : sWhile Ft F ρ s = some (r, s')) : ∃ n, whN F Ft n ρ s = some (r, s') := by
  unfold sWhile at h
  split at h
  · exact ⟨_, h⟩
  · cases h
theorem sWhile_of {Ft : TF} {F : SF} {r : Except Exn Out × Strm} {n : Nat} (h : whN F Ft n ρ s = some r) : sWhile Ft F ρ s = some r := by
  have hx : ∃ n, (whN F Ft n ρ s).isSome := ⟨n, by rw [h]; rfl⟩
  unfold sWhile
  rw [dif_pos hx]
  obtain ⟨q, hq⟩ := Option.isSome_iff_exists.mp hx.choose_spec
  have a1 := whN_more hq (max hx.choose n) (by omega)
  have a2 := whN_more h (max hx.choose n) (by omega)
  rw [a1] at a2
  rw [hq, a2]
theorem ds_while {cc : Expr} {body : List Stmt} {Ft : TF} {F : SF} {ΓL : List Md} (ht : DT T X E ΓL cc Ft Γ1) (hb : DSs T X E mr ΓL Γ1 body F ΓL) (hw : leG Γ ΓL = true) (hw1 : leG Γ1 ΓL = true) (hp : PassesOwn (model X.prog X.w) X.A X.env X.xe) :
    DS T X E mr Γb Γ (.While cc body [] pos) (sWhile Ft F) ΓL := by
  refine ⟨?_⟩
  intro H0 S0 ρ s σ H tg S r s' hF D hD
  refine WS.of (ps_while hp WT.pt WSs.pss) ?_
  obtain ⟨n, hn⟩ := sWhile_some hF
  refine ⟨fun m σ' H' => ∃ ρi si tgi, whN F Ft m ρi si = some (r, s') ∧ Sta T H0 S0 ΓL ρi si σ' H' tgi ∧ Kp tg tgi H H', ⟨n, ρ, s, _, hn, S.wk hw, Kp.wk⟩, ?_⟩
  rintro m σ' H' ⟨ρi, si, tgi, hf, Si, ki⟩
  cases m with
  | zero => cases hf
  | succ m =>
    have hE : ErrK T E H' s' r := fun x e c dx H2 t => by
      subst e
      exact hD c dx H2 ⟨t.1, Si.same.trans t.2.1, t.2.2⟩
    refine ht.seq Si hf hE fun c s1 H1 tg1 hk g1 S1 e1 => ?_
    cases c with
    | false =>
      cases hk
      exact iteF (hD _ _ _ ((ki.trans (g1.kp Si)).trans Kp.wk) (S1.wk hw1))
    | true =>
      refine iteT ⟨fun σ2 H2 => ∃ ρi si tgi, whN F Ft m ρi si = some (r, s') ∧ Sta T H0 S0 ΓL ρi si σ2 H2 tgi ∧ Kp tg tgi H H2, fun σ2 H2 z => ⟨m, Nat.lt_succ_self m, z⟩, ?_⟩
      have k1 := ki.trans (g1.kp Si)
      rcases M.bind_some hk with ⟨x, h3, rfl⟩ | ⟨o, s2, h3, h4⟩
      · exact hb _ _ _ _ _ _ _ S1 _ _ h3 _ hD
      · refine hb _ _ _ _ _ _ _ S1 _ _ h3 _ ?_
        cases o with
        | nx ρ' => exact fun σ3 H3 tg3 k3 S3 => ⟨ρ', s2, tg3, h4, S3, k1.trans k3⟩
        | ct ρ' => exact fun σ3 H3 tg3 k3 S3 => ⟨ρ', s2, tg3, h4, S3, k1.trans k3⟩
        | bk ρ' => cases h4; exact fun σ3 H3 tg3 k3 S3 => hD _ _ _ (k1.trans k3) S3
        | rt v => cases h4; exact hD
end
end DL
end
section
set_option autoImplicit false
namespace DL
open PySem PySem.Spec L2
section
variable {T : Cfg} {H0 H H' H1 H2 H3 : Hp} {S0 SS : Addr → Prop} {Γ Γ' Γ1 Γ2 Γ3 Γb Γw Γi : List Md} {ρ ρ' : Env} {s s' s1 s2 : Strm} {σ : St} {tg tg' tg1 tg2 : Tags} {v w : V} {d c : D} {vs : List V} {ds : List D} {m m' mr me ms m1 m2 : Md} {rm : Rm} {k : Kid} {i j : Nat}
variable {X : Cx} {E : XK} {e a b : Expr} {es : List Expr} {F Fa Fb : EF} {pos p : Pos} {x : Str} {tge iter elt : Expr} {scope : Scope} {own own' : Addr → Prop}
def sFail : SF := fun _ => M.fail
theorem ds_fail {st : Stmt} : DS T X E mr Γb Γ st sFail Γ2 := .mk fun H0 S0 ρ s σ H tg S r s' hF => by cases hF
noncomputable def tkT (i : Nat) (tg : Tags) (own : Addr → Prop) : Tags := fun a => by
  classical exact if own a ∧ tg a = .no then .ex i else tg a
theorem tk_yes {a : Addr} (h : own a) (h2 : tg a = .no) : tkT i tg own a = .ex i := if_pos ⟨h, h2⟩
theorem tk_or (a : Addr) : tkT i tg own a = tg a ∨ (tg a = .no ∧ tkT i tg own a = .ex i ∧ own a) := by
  unfold tkT
  by_cases h : own a ∧ tg a = .no
  · rw [if_pos h]; exact .inr ⟨h.2, rfl, h.1⟩
  · rw [if_neg h]; exact .inl rfl
theorem tk_sh {a : Addr} {b : Bool} (h : shS tg b a) : shS (tkT i tg own) b a := by
  rcases tk_or (i := i) (own := own) (tg := tg) a with e | e
  · unfold shS; rw [e]; exact h
  · exact absurd h (shS_not e.1)
theorem Sta.bindS {i : Nat} (S : Sta T H0 S0 Γ1 ρ s σ H1 tg1) (ho : ∀ a, own a → tg1 a = .no ∧ H0 a = none ∧ H1 a ≠ none) (hi : i < Γ1.length) (hm : m ≠ .any) (r : RepW T tg1 own H1 m v d) :
    Sta T H0 S0 (Γ1.set i m) (ρ.set i (some d)) s (σ.set i (some v)) H1 (tkT i tg1 own) ∧ Kp tg1 (tkT i tg1 own) H1 H1 := by
  have S' : Sta T H0 S0 Γ1 ρ s σ H1 (tkT i tg1 own) := S.retag fun a => (tk_or a).imp id fun e => ⟨e.1, by rw [e.2.1]; exact fun q => (by cases q), (ho a e.2.2).2.2, (ho a e.2.2).2.1⟩
  have rs : RepW T (tkT i tg1 own) (exS (tkT i tg1 own) i) H1 m v d := r.move hm (fun _ _ e _ => e) (fun a h => tk_yes h (ho a h).1) fun b a h => tk_sh h
  refine ⟨⟨by simp [S.len], fun j c e => ?_, S.stm, S'.tgd, S'.tg0, S'.tgs, S'.old, S.stm0, S.same⟩, ⟨Keep.refl, fun _ _ h => tk_sh h, fun _ h => h⟩⟩
  by_cases hj : j = i
  · subst hj
    have hl : j < ρ.length := by
      have := (List.getElem?_eq_some_iff.mp e).1
      simpa using this
    rw [List.getElem?_set_self hl] at e
    have e' : d = c := by injection e with e; injection e
    subst e'
    rw [getD_set_self hi]
    exact ⟨hm, v, by rw [List.getElem?_set_self (by rw [S.len]; exact hl)], rs⟩
  · rw [List.getElem?_set_ne (Ne.symm hj)] at e
    obtain ⟨h0, u, h1, h2⟩ := S'.val j c e
    rw [getD_set_ne hj]
    exact ⟨h0, u, by rw [List.getElem?_set_ne (Ne.symm hj)]; exact h1, h2⟩
/-- a, b = x, y -/
def sPar (i j : Nat) (Fa Fb : EF) : SF := fun ρ => do let d ← Fa ρ; let e ← Fb ρ; pure (.nx ((ρ.set i (some d)).set j (some e)))
theorem ds_par (i j : Nat) {y z : Str} {py pz pt : Pos} {kt : Nat} {k2 : Nat} {pt2 : Pos} (ha : DE T X E Γ a Fa m1 Γ1) (hb : DE T X E Γ1 b Fb m2 Γ2) (hc : X.calm = true) (hN : X.N.Nodup) (hm1 : m1 ≠ .any := by exact fun q => by cases q) (hm2 : m2 ≠ .any := by exact fun q => by cases q)
    (hi : i < Γ2.length := by decide) (hj : j < (Γ2.set i m1).length := by decide) (hij : i ≠ j := by decide) (hy : X.N[i]? = some y := by rfl) (hz : X.N[j]? = some z := by rfl) (hly : X.env.scope.names.lookup y = some .local := by rfl) (hlz : X.env.scope.names.lookup z = some .local := by rfl)
    (hw : swappedStores [.Tuple [.Name y py, .Name z pz] kt pt] (.Tuple [a, b] k2 pt2) X.env = pure (some [y, z]) := by rfl)
    (hs : swapsWithSole [.Tuple [.Name y py, .Name z pz] kt pt] (.Tuple [a, b] k2 pt2) pos.line X.env = pure false := by rfl) (hst : starEach (a :: [b]) X.env = (false, eval a X.env) :: starEach [b] X.env := by rfl) (hst2 : starEach (b :: []) X.env = (false, eval b X.env) :: starEach [] X.env := by rfl) :
    DS T X E mr Γb Γ (.Assign [.Tuple [.Name y py, .Name z pz] kt pt] (.Tuple [a, b] k2 pt2) pos) (sPar i j Fa Fb) ((Γ2.set i m1).set j m2) := by
  refine ⟨?_⟩
  intro H0 S0 ρ s σ H tg S r s' hF D hD
  refine WS.of (ps_par hc hN hy hz hij hly hlz (pa_cons WE.pe (pa_cons WE.pe pa_nil hst2) hst) hw hs) ?_
  show WE X a σ H _
  refine ha.seq S hF (hD.ek S) fun d s1 v H1 tg1 hk g1 S1 r1 e1 => ?_
  show WE X b σ H1 _
  refine hb.seq S1 hk e1 fun e s2 w H2 tg2 hk2 g2 S2 r2 e2 => ?_
  cases hk2
  refine ⟨v, w, rfl, ?_⟩
  have o1 : ∀ a, frS tg1 H H1 a → tg2 a = .no ∧ H0 a = none ∧ H2 a ≠ none := fun a h => ⟨by rw [g2.t.1 a h.2.1]; exact h.2.2, S.born h.1, g2.u a h.2.1⟩
  have r1' : RepW T tg2 (frS tg1 H H1) H2 m1 v d := by
    refine r1.move hm1 ?_ (fun _ h => h) fun b a h => g2.t.sh S1.tgd h
    refine Keep.ofExt g2.x S1.stm ?_ ?_
    · rintro (h | h)
      · have q := S.stm.1; rw [h.1] at q; cases q
      · exact shS_not S1.tgs.1 h
    · rintro (h | h)
      · have q := S.stm.2; rw [h.1] at q; cases q
      · exact shS_not S1.tgs.2 h
  obtain ⟨S3, k3⟩ := S2.bindS o1 hi hm1 r1'
  have o2 : ∀ a, frS tg2 H1 H2 a → tkT i tg2 (frS tg1 H H1) a = .no ∧ H0 a = none ∧ H2 a ≠ none := fun a h => by
    refine ⟨?_, S1.born h.1, h.2.1⟩
    rcases tk_or (i := i) (own := frS tg1 H H1) (tg := tg2) a with q | q
    · rw [q]; exact h.2.2
    · exact absurd h.1 q.2.2.2.1
  have r2' : RepW T (tkT i tg2 (frS tg1 H H1)) (frS tg2 H1 H2) H2 m2 w e := r2.move hm2 (fun _ _ e _ => e) (fun _ h => h) fun _ _ h => tk_sh h
  obtain ⟨S4, k4⟩ := S3.bindS o2 hj hm2 r2'
  exact hD _ H2 _ ((((g1.trans g2).kp S).trans k3).trans k4) S4
/-- (a, b) = a list or tuple -/
def gSq (n : Nat) (Bs : GFs) : GF := fun d ρ => match d with
  | .tup ds => if ds.length = n then Bs ds ρ else none
  | .lst ds => if ds.length = n then Bs ds ρ else none
  | _ => none
theorem dg_seq {js : List Nat} {Bs : GFs} {kk n : Nat} (hc : X.calm = true) (h : DGs T X me js Γ es Bs Γ1) (hn : (assignEach es X.env).length = n := by rfl) (hst : (assignEach es X.env).findIdx? (·.1) = none := by rfl) : DG T X me js Γ (.Tuple es kk pos) (gSq n Bs) Γ1 := by
  refine ⟨?_⟩
  intro H0 S0 ρ s σ H tg v d ρ' S r hB Q hQ
  cases d with
  | tup ds =>
    refine WG.of (pg_tup hc WGs.pg hn hst) ?_
    simp only [gSq] at hB
    by_cases hl : ds.length = n
    · rw [if_pos hl] at hB
      cases r with | tup e rr => exact ⟨_, _, rfl, SqT.of e, by rw [rr.len]; exact hl, h _ _ _ _ _ _ _ _ _ _ S rr hB Q hQ⟩
    · rw [if_neg hl] at hB; cases hB
  | lst ds =>
    refine WG.of (pg_unl hc WGs.pg hn hst) ?_
    simp only [gSq] at hB
    by_cases hl : ds.length = n
    · rw [if_pos hl] at hB
      cases r with | lst _ e rr => exact ⟨_, _, rfl, SqL.of e, by rw [rr.len]; exact hl, h _ _ _ _ _ _ _ _ _ _ S rr hB Q hQ⟩
    · rw [if_neg hl] at hB; cases hB
  | _ => cases hB
def sAsg (Fe : EF) (g : GF) : SF := fun ρ => do
  let d ← Fe ρ
  M.of ((g d ρ).map .nx)
theorem ds_asg {js : List Nat} {g : GF} (he : DE T X E Γ e F me Γ1) (hg : DG T X me js Γ1 tge g Γ2) (hm : me = .atom ∨ ∃ b, me = .sh b := by first | exact .inl rfl | exact .inr ⟨_, rfl⟩) (hs : swapsWithSole [tge] e pos.line X.env = pure false := by rfl) (hw : swappedStores [tge] e X.env = pure none := by rfl)
    (h1 : (assignEach [tge] X.env).map (·.2) = [assign tge X.env] := by rfl) : DS T X E mr Γb Γ (.Assign [tge] e pos) (sAsg F g) Γ2 := by
  refine ⟨?_⟩
  intro H0 S0 ρ s σ H tg S r s' hF D hD
  refine WS.of (ps_asg WE.pe WG.pg hs hw h1) ?_
  refine he.seq S hF (hD.ek S) fun d s1 v H1 tg1 hk g1 S1 r1 e1 => ?_
  obtain ⟨c, hc, rfl, rfl⟩ := M.of_some hk
  cases hgd : g d ρ with
  | none => rw [hgd] at hc; cases hc
  | some ρ1 =>
    rw [hgd] at hc
    cases hc
    have r1' : Rep T H1 (wS tg1 (fun _ => False) me) v d := by rcases hm with rfl | ⟨b, rfl⟩ <;> exact r1
    exact hg _ _ _ _ _ _ _ _ _ _ S1 r1' hgd _ fun σ' S' _ => hD σ' H1 tg1 (g1.kp S) S'
def sAppPop (i j : Nat) (Fe : EF) : SF := fun ρ => do
  let ds ← lstM (ρ[i]?)
  let es ← lstM (ρ[j]?)
  let d ← Fe ρ
  let n ← intM d
  M.of (if 0 ≤ n ∧ n < es.length ∧ n < 2 ^ 62 ∧ ds.length < sizeLine then (es[n.toNat]?).map fun y => .nx ((ρ.set j (some (.lst (es.eraseIdx n.toNat)))).set i (some (.lst (ds ++ [y])))) else none)
theorem RepL.erase {vs : List V} {ds : List D} (r : RepL T H SS vs ds) : ∀ n, RepL T H SS (vs.eraseIdx n) (ds.eraseIdx n) := by
  induction ds generalizing vs with
  | nil => cases r; intro n; exact .nil
  | cons d ds ih =>
    cases r with
    | cons a b =>
      intro n
      cases n with
      | zero => exact b
      | succ n => exact .cons a (ih b n)
theorem ds_appPop (i j : Nat) {y z : Str} {py pz apos cpos apos2 cpos2 : Pos} {Fe : EF} (hm : Γ.getD i .atom = .ow .o) (hm2 : Γ.getD j .atom = .ow .o) (he : DE T X E Γ e Fe .atom Γ) (hij : i ≠ j := by decide) (hN : X.N[i]? = some y := by rfl) (hN2 : X.N[j]? = some z := by rfl)
    (hv : Vis X.env.scope y := by first | exact Or.inl rfl | exact Or.inr (Or.inl rfl) | exact Or.inr (Or.inr rfl)) (hd : (y == ("__debug__" : Str)) = false := by decide) (hcd : (y == ("__classdict__" : Str)) = false := by decide)
    (hv2 : Vis X.env.scope z := by first | exact Or.inl rfl | exact Or.inr (Or.inl rfl) | exact Or.inr (Or.inr rfl)) (hd2 : (z == ("__debug__" : Str)) = false := by decide) (hcd2 : (z == ("__classdict__" : Str)) = false := by decide)
    (hbase : attributeBase (.Name y py) "append" X.env (eval (.Name y py) X.env) = eval (.Name y py) X.env := by rfl)
    (hfew : ((backTo cpos (starEach (.Call (.Attribute (.Name z pz) "pop" apos2) [e] [] cpos2 :: []) X.env)).all (fun x => !x.1) && (backToKw cpos (keywordEach [] X.env)).all (fun x => x.1.isSome)
      && decide ((Expr.Call (.Attribute (.Name z pz) "pop" apos2) [e] [] cpos2 :: []).length + ([] : List Keyword).length + (if ([] : List Keyword).isEmpty then 0 else 1) < 30)) = true := by rfl)
    (hline : (apos.endLine == cpos.line) = true := by rfl) (hst : starEach (.Call (.Attribute (.Name z pz) "pop" apos2) [e] [] cpos2 :: []) X.env = (false, eval (.Call (.Attribute (.Name z pz) "pop" apos2) [e] [] cpos2) X.env) :: starEach [] X.env := by rfl) (hplain : (backTo cpos (starEach [] X.env)).any (·.1) = false := by rfl)
    (hbase2 : attributeBase (.Name z pz) "pop" X.env (eval (.Name z pz) X.env) = eval (.Name z pz) X.env := by rfl)
    (hfew2 : ((backTo cpos2 (starEach (e :: []) X.env)).all (fun x => !x.1) && (backToKw cpos2 (keywordEach [] X.env)).all (fun x => x.1.isSome)
      && decide ((e :: []).length + ([] : List Keyword).length + (if ([] : List Keyword).isEmpty then 0 else 1) < 30)) = true := by rfl)
    (hline2 : (apos2.endLine == cpos2.line) = true := by rfl) (hst2 : starEach (e :: []) X.env = (false, eval e X.env) :: starEach [] X.env := by rfl) (hplain2 : (backTo cpos2 (starEach [] X.env)).any (·.1) = false := by rfl)
    (hs : swapsWith (.Call (.Attribute (.Name y py) "append" apos) [.Call (.Attribute (.Name z pz) "pop" apos2) [e] [] cpos2] [] cpos) none pos.line X.env = pure false := by rfl) :
    DS T X E mr Γb Γ (.Expr (.Call (.Attribute (.Name y py) "append" apos) [.Call (.Attribute (.Name z pz) "pop" apos2) [e] [] cpos2] [] cpos) pos) (sAppPop i j Fe) Γ := by
  refine ⟨?_⟩
  intro H0 S0 ρ s σ H tg S r s' hF D hD
  refine WS.of (ps_expr (pe_bm PySem.F.plainAttrs_list PySem.F.slot_list_append PySem.F.type_list_append mt_append (pe_var hN hv hd hcd)
    (pa_cons (pe_bm PySem.F.plainAttrs_list PySem.F.slot_list_pop PySem.F.type_list_pop mt_popAt (pe_var hN2 hv2 hd2 hcd2) (pa_cons WE.pe pa_nil hst2) hbase2 hfew2 hline2 hst2 hplain2) pa_nil hst) hbase hfew hline hst hplain) hs) ?_
  obtain ⟨ds, hds, h2⟩ := lst_step hF
  obtain ⟨v0, hv0, A0, vs0, rfl, hA0, hH0, _⟩ := S.slotO hm hds
  refine ⟨.ref A0, hv0, .inl ⟨rfl, vs0, SqL.of hH0⟩, ?_⟩
  obtain ⟨es, hes, h3⟩ := lst_step h2
  obtain ⟨w0, hw0, B0, ws0, rfl, hB0, hHB0, _⟩ := S.slotO hm2 hes
  refine ⟨.ref B0, hw0, .inl ⟨rfl, ws0, SqL.of hHB0⟩, ?_⟩
  show WE X e σ H _
  refine he.seq S h3 (hD.ek S) fun d s1 v H1 tg1 hk g1 S1 r1 e1 => ?_
  obtain ⟨n, rfl, hk2⟩ := int_step hk
  have hvn := rep_i r1
  subst hvn
  obtain ⟨c, hc, rfl, rfl⟩ := M.of_some hk2
  by_cases hcd : 0 ≤ n ∧ n < es.length ∧ n < 2 ^ 62 ∧ ds.length < sizeLine
  · rw [if_pos hcd] at hc
    cases hy : es[n.toNat]? with
    | none => rw [hy] at hc; cases hc
    | some yd =>
      rw [hy] at hc
      cases hc
      obtain ⟨A, vs, hv1, hH, hA, hHA, rr⟩ := own_list S S1 g1 hm hm hds
      rw [hv0] at hv1; cases hv1
      obtain ⟨B, ws, hw1, hH', hB, hHB, qq⟩ := own_list S S1 g1 hm2 hm2 hes
      rw [hw0] at hw1; cases hw1
      obtain ⟨yv, hyv, ry⟩ := qq.get _ _ hy
      have hAB : A0 ≠ B0 := fun z => by
        rw [z, hB] at hA
        injection hA with hA
        exact hij hA.symm
      obtain ⟨S2, k2⟩ := own_put S1 hm2 hw0 hB hHB (qq.erase n.toNat)
      have hHA2 : upd H1 B0 (.lst (ws.eraseIdx n.toNat)) A0 = some (.lst vs) := by rw [upd_ne hAB]; exact hHA
      have hmuB : ∀ o', H1 B0 = some o' → ¬ Imm o' := fun o' e z => by rw [hHB] at e; cases e; exact z
      have sub : ∀ a, (kidS tg1 (exS tg1 j) .o a ∧ a ≠ B0) → (kidS tg1 (exS tg1 i) .o a ∧ a ≠ A0) := fun a z => ⟨z.1, fun q => by
        subst q
        rcases z.1 with u | ⟨_, u⟩ <;> (rw [hA] at u; cases u)⟩
      have sub2 : ∀ a, (kidS tg1 (exS tg1 i) .o a ∧ a ≠ A0) → (kidS tg1 (exS tg1 i) .o a ∧ a ≠ A0) ∧ a ≠ B0 := fun a z => ⟨z, fun q => by
        subst q
        rcases z.1 with u | ⟨_, u⟩ <;> (rw [hB] at u; cases u)⟩
      have rr2 : RepL T (upd H1 B0 (.lst (ws.eraseIdx n.toNat))) (fun b => kidS tg1 (exS tg1 i) .o b ∧ b ≠ A0) (vs ++ [yv]) (ds ++ [yd]) :=
        (((rr.append (.one (ry.mono sub))).mono sub2).keep (kid_ex hmuB)).mono fun a z => z.1
      obtain ⟨S3, k3⟩ := own_put S2 hm hv0 hA hHA2 rr2
      have hlt : n.toNat < ws.length := (List.getElem?_eq_some_iff.mp hyv).1
      refine ⟨B0, ws, n, n.toNat, yv, rfl, rfl, hHB, by omega, by omega, ?_, hyv, ?_⟩
      · unfold seqIndex?
        have : ((n.toNat : Nat) : Int) = n := Int.toNat_of_nonneg hcd.1
        have hl2 := qq.len
        split <;> simp_all <;> omega
      · exact ⟨A0, vs, yv, rfl, rfl, hHA2, by rw [rr.len]; exact hcd.2.2.2, hD _ _ _ (((g1.kp S).trans k2).trans k3) S3⟩
  · rw [if_neg hcd] at hc; cases hc
end
end DL
end
section
set_option autoImplicit false
namespace DL
open PySem PySem.Spec L2
section raw
open PyProof.Rows PySem.Calls PySem.W
variable {prog : Program} {w : World} {A : Around} {E : Value → Shared → Prop} {s : Shared}
theorem collect_tup {l : Addr} {vs : List Value} {Q : List Value → Shared → Prop} (hl : s.heap.IsTuple l vs.toArray)
    (h : Q vs { s with heap := (s.heap.push (seqObj "list" #[] 0)).update s.heap.objs.size (Obj.mapSeq (· ++ vs.toArray)) }) (hsz : vs.length ≤ sizeLine) :
    wpAny (model prog w) A (collect (.ref l)) Q E s := by
  obtain ⟨o, ho, hc, n, hd⟩ := id hl
  unfold collect
  refine wpAny_bind (wpAny_runValue (codeAny_builtin entry_proto_collect' ?_))
  show wpAny _ _ (do again (.builtin "list.__iadd__" ⟨[← newList [], .ref l], []⟩)) _ _ s
  refine wpAny_bind (wpAny_newList (wpAny_pure ⟨Code.quiet_builtin _ (by decide +kernel), codeAny_builtin entry_list_iadd' ?_⟩))
  show wpAny _ _ (Builtin.List.listExtendWith (.ref s.heap.objs.size) (.ref l) (.ref s.heap.objs.size)) _ _ { s with heap := s.heap.push (seqObj "list" #[] 0) }
  unfold Builtin.List.listExtendWith
  have ho' : (s.heap.push (seqObj "list" #[] 0)).get? l = some o := Heap.get?_push_of_some _ ho
  refine wpAny_bind (wpAny_typeOf (T := "tuple") ⟨o, ho', hc⟩ ?_)
  have ht : (Value.type "tuple" == Value.type "tuple") = true := by rfl
  rw [if_pos (by rw [ht]; simp)]
  refine wpAny_bind (listItems_at ho' hd ?_)
  refine wpAny_bind (listItems_at (xs := #[]) (n := 0) (Heap.get?_push_size _ rfl) rfl ?_)
  rw [if_neg (by simp)]
  refine wpAny_bind (listUpdate_at (xs := #[]) (n := 0) (Heap.get?_push_size _ rfl) rfl ?_ (Nat.zero_le _) (by show (#[] ++ vs.toArray).size ≤ sizeLine + 1; simp only [Array.size_append, List.size_toArray, List.length_nil]; omega))
  refine wpAny_pure ?_
  show wpAny (model prog w) A (do
      let o ← load s.heap.objs.size
      match o.data with
      | .seq xs _ => pure xs.toList
      | _ => unsupported "internal:collect") Q E { s with heap := (s.heap.push (seqObj "list" #[] 0)).update s.heap.objs.size (Obj.mapSeq (· ++ vs.toArray)) }
  refine wpAny_bind (wpAny_load (get?_update_seq (Heap.get?_push_size _ rfl) _) ?_)
  show wpAny _ _ (pure ((#[] : Array Value) ++ vs.toArray).toList) Q E _
  rw [show ((#[] : Array Value) ++ vs.toArray).toList = vs by simp]
  exact wpAny_pure h
theorem sorted_of_tup {l : Addr} {vs : List Value} {kw : List (Str × Value)} {Q : Value → Shared → Prop} (hl : s.heap.IsTuple l vs.toArray) (hL : vs.length ≤ sizeLine) (ha1 : argsOk "sorted" ⟨[.ref l], kw⟩) (ha2 : ∀ x, argsOk "list.sort" ⟨[.ref x], kw⟩)
    (body : ∀ E' : Value → Shared → Prop, wpAny (model prog w) A.in1.in1 (Builtin.«list.sort» ⟨[.ref (s.heap.objs.size + 1)], kw⟩) (fun f s' => f = .done (.ret .none) ∧ Q (.ref (s.heap.objs.size + 1)) s') E' { s with heap := copyHeap s.heap vs }) :
    wpAny (model prog w) A (call (.builtin "sorted") [.ref l] kw) Q E s := by
  refine call_function_entry_kw kind_sorted plain_sorted entry_sorted ha1 ?_
  unfold Builtin.«sorted»
  refine wpAny_bind (m := checkCount "sorted" 1 1 _) (wpAny_pure ?_)
  refine wpAny_bind (collect_tup hl ?_ hL)
  refine wpAny_bind (wpAny_newList ?_ hL)
  have hsz : ((s.heap.push (seqObj "list" #[] 0)).update s.heap.objs.size (Obj.mapSeq (· ++ vs.toArray))).objs.size = s.heap.objs.size + 1 := by
    rw [Heap.size_update, size_push']
  show wpAny _ _ _ _ _ { s with heap := copyHeap s.heap vs }
  rw [hsz]
  refine wpAny_bind (wpAny_holding (wpAny_call_entry_kw slot_list_sort ⟨_, copyHeap_at s.heap vs, rfl⟩ entry_list_sort ?body (ha2 _)))
  case body =>
    show wpAny (model prog w) A.in1.in1 (Builtin.«list.sort» ⟨[.ref (s.heap.objs.size + 1)], kw⟩) _ _ _
    refine wpAny_mono (body _) (fun f s' hf => ?_) fun _ _ e => e
    obtain ⟨rfl, hq⟩ := hf
    exact ⟨_, rfl, wpAny_pure ⟨_, rfl, hq⟩⟩
/-- sorted(a tuple) -/
theorem sorted_tup_data {β : Type} {vs : List Value} {bs : List β} {enc : β → PyData} {R : Value → β → Prop} {l : Addr} {Q : Value → Shared → Prop} (hl : s.heap.IsTuple l vs.toArray) (e : EachIs R vs bs) (er : EachIs (fun v b => ∃ as, Reads s.heap v (enc b) as) vs bs) (hal : AllAlike (bs.map enc)) (hk : Sortable (bs.map enc)) (hL : bs.length ≤ sizeLine)
    (hu : ∀ b, b ∈ bs → A.units + 2 + (enc b).depth < cLine) (h : ∀ out, out.length = bs.length → EachIs R out (bs.mergeSort (dataLe false enc)) → Q (.ref (s.heap.objs.size + 1)) { s with heap := sortedAll s.heap vs (List.toArray out) }) :
    wpAny (model prog w) A (call (.builtin "sorted") [.ref l]) Q E s := by
  have er' : EachIs (fun v b => ∃ as, Reads (sortingHeap (copyHeap s.heap vs) (s.heap.objs.size + 1) vs) v (enc b) as) vs bs := er.mono fun _ _ ⟨as, r⟩ => ⟨as, PyProof.Rows.Reads.keeps (fun _ _ => sorting_copy_old) r⟩
  have S := SortsAt.data (prog := prog) (w := w) (A := A.in1.in1) (s := { s with heap := sortingHeap (copyHeap s.heap vs) (s.heap.objs.size + 1) vs }) (each_map (R := fun v d => ∃ as, Reads (sortingHeap (copyHeap s.heap vs) (s.heap.objs.size + 1) vs) v d as) enc er') hal hk (bound_map (A := A.in1.in1) hu)
  exact sorted_of_tup hl (by rw [e.length]; exact hL) (args_sorted1 _) (fun _ => args_list_sort _) fun _ => list_sort_vals (s := { s with heap := copyHeap s.heap vs }) (copyHeap_at s.heap vs) S (by rw [e.length]; exact hL)
    ⟨rfl, h _ (by rw [sortVals_length false rfl]; exact e.length) (sortVals_data false e er' hal)⟩
end raw
/-- a tree as data -/
def pyOf (d : D) : PyData := (toPy d).getD .none
def isTupB : PyData → Bool
  | .tuple (_ :: _) => true
  | _ => false
def notTupB : PyData → Bool
  | .none => false
  | .tuple _ => false
  | _ => true
/-- what can be sorted -/
def sortOk (ds : List D) : Bool := ds.all okD && (ds.all fun a => ds.all fun b => PySem.W.alike (pyOf a) (pyOf b)) && ((ds.all fun a => isTupB (pyOf a)) || (ds.all fun a => notTupB (pyOf a))) && decide (ds.length ≤ sizeLine)
def dle : D → D → Bool := PySem.W.dataLe false pyOf
def srt (ds : List D) : List D := ds.mergeSort dle
def sortedD : List D → Option D
  | [.lst xs] => if sortOk xs then some (.lst (srt xs)) else none
  | [.tup xs] => if sortOk xs then some (.lst (srt xs)) else none
  | _ => none
section
variable {T : Cfg} {H H' : Hp} {SS : Addr → Prop} {s : Strm} {σ : St} {v w : V} {d c : D} {vs : List V} {ds : List D}
variable {X : Cx} {pins : List (Addr × Obj)} {sh : Shared}
theorem sortOk_facts {ds : List D} (h : sortOk ds = true) : (∀ d ∈ ds, okD d = true) ∧ PySem.W.AllAlike (ds.map pyOf) ∧ PySem.W.Sortable (ds.map pyOf) ∧ ds.length ≤ sizeLine := by
  unfold sortOk at h
  simp only [Bool.and_eq_true, List.all_eq_true, Bool.or_eq_true, decide_eq_true_eq] at h
  obtain ⟨⟨⟨h1, h2⟩, h3⟩, h4⟩ := h
  refine ⟨h1, fun d hd d' hd' => ?_, ?_, h4⟩
  · obtain ⟨a, ha, rfl⟩ := List.mem_map.mp hd
    obtain ⟨b, hb, rfl⟩ := List.mem_map.mp hd'
    exact h2 a ha b hb
  · rcases h3 with h3 | h3
    · refine .inl fun d hd => ?_
      obtain ⟨a, ha, rfl⟩ := List.mem_map.mp hd
      have := h3 a ha
      revert this
      generalize pyOf a = p
      intro q
      cases p <;> simp [isTupB] at q
      rename_i xs
      cases xs with
      | nil => simp [isTupB] at q
      | cons x r => exact ⟨x, r, rfl⟩
    · refine .inr fun d hd => ?_
      obtain ⟨a, ha, rfl⟩ := List.mem_map.mp hd
      have := h3 a ha
      revert this
      generalize pyOf a = p
      intro q
      cases p <;> simp [notTupB] at q <;> exact ⟨(fun z => by cases z), fun _ z => by cases z⟩
/-- the values of trees -/
def RelD (T : Cfg) (H : Hp) (SS : Addr → Prop) (u : Value) (d : D) : Prop := ∃ v, RelV v u ∧ Rep T H SS v d
theorem each_rel : ∀ {vs : List V} {ds : List D} {us : List Value}, RepL T H SS vs ds → Vals vs us → PySem.W.EachIs (RelD T H SS) us ds
  | _, [], _, r, q => by cases r; cases q; exact .nil
  | _, d :: ds, _, r, q => by
    obtain ⟨v, vs', rfl, r1, r2⟩ := r.consL
    cases q with | cons a b => exact .cons ⟨v, a, r1⟩ (each_rel r2 b)
theorem each_back : ∀ {ds : List D} {us : List Value}, PySem.W.EachIs (RelD T H SS) us ds → ∃ vs, RepL T H SS vs ds ∧ Vals vs us
  | [], _, q => by cases q; exact ⟨[], .nil, .nil⟩
  | d :: ds, _, q => by
    cases q with
    | cons a b =>
      obtain ⟨v, h1, h2⟩ := a
      obtain ⟨vs, h3, h4⟩ := each_back b
      exact ⟨v :: vs, .cons h2 h3, .cons h1 h4⟩
theorem pyOf_ok {d : D} (h : okD d = true) : toPy d = some (pyOf d) ∧ (pyOf d).depth ≤ 50 := by
  unfold okD at h
  rw [Bool.and_eq_true, decide_eq_true_eq] at h
  obtain ⟨x, hx⟩ := toPy_plain d h.1
  have e : pyOf d = x := by unfold pyOf; rw [hx]; rfl
  rw [e]
  exact ⟨hx, by rw [(toPy_facts d x hx).2]; exact h.2⟩
theorem each_reads (I : Inv X pins σ H sh) {us : List Value} (h : PySem.W.EachIs (RelD T H SS) us ds) (ok : ∀ d ∈ ds, okD d = true) : PySem.W.EachIs (fun v b => ∃ as, Reads sh.heap v (pyOf b) as) us ds := by
  induction h with
  | nil => exact .nil
  | cons a b ih =>
    obtain ⟨v, h1, h2⟩ := a
    obtain ⟨x, as, hx, rd, _, _⟩ := h2.reads I (ok _ List.mem_cons_self) h1
    refine .cons ⟨as, ?_⟩ (ih fun d hd => ok d (List.mem_cons_of_mem _ hd))
    have := (pyOf_ok (ok _ List.mem_cons_self)).1
    rw [hx] at this
    rw [← Option.some.inj this]; exact rd
theorem RV.top {vs' : List V} {ds' : List D} {q : Addr} (st : StmAt T H s) (hS : ∀ a, SS a → anyS T H a) (hq : H q = none) (r : RepL T H SS vs' ds') : Ext T H (upd H q (.lst vs')) ∧ StmAt T (upd H q (.lst vs')) s ∧ RV T H (upd H q (.lst vs')) SS .top (.ref q) (.lst ds') := by
  obtain ⟨x, st'⟩ := lay_any (o := .lst vs') st hq
  refine ⟨x, st', q, vs', rfl, ⟨hq, by rw [upd_same]; simp⟩, upd_same, (r.keep (Keep.ofExt x st (fun h => (hS _ h).2.1 rfl) fun h => (hS _ h).2.2 rfl)).mono fun a h => ⟨h, ?_⟩⟩
  rintro rfl
  exact (hS _ h).1 hq
theorem v_sorted (hu : X.A.units + 64 < cLine) : CallV T X (.builtin "sorted") sortedD .top := by
  intro H s SS vs ds c st hS r hf Q hQ pins sh σ us I rv
  have fin : ∀ {xs : List D} {its : List Value}, sortOk xs = true → PySem.W.EachIs (RelD T H SS) its xs → ∀ out : List Value, out.length = xs.length → PySem.W.EachIs (RelD T H SS) out (srt xs) → (∀ z H', Ext T H H' → StmAt T H' s → RV T H H' SS .top z (.lst (srt xs)) → Q z H') →
      EP X pins σ Q (.ref (sh.heap.objs.size + 1)) { sh with heap := PyProof.Rows.sortedAll sh.heap its (List.toArray out) } := fun {xs its} ok he out hl ho hQ => by
    obtain ⟨ws, h1, h2⟩ := each_back ho
    obtain ⟨ep, he'⟩ := PyProof.Rows.sortedAll_at sh.heap its out.toArray
    have hq : H (sh.heap.objs.size + 1) = none := I.hok.fresh (Nat.le_succ _)
    obtain ⟨x, st', rv'⟩ := RV.top st hS hq h1
    have hlen : ws.length ≤ sizeLine := by
      rw [h1.len]; unfold srt; rw [List.length_mergeSort]; exact (sortOk_facts ok).2.2.2
    exact ⟨.ref _, upd H (sh.heap.objs.size + 1) (.lst ws), I.laid (t' := sh.toks) (fun _ _ => PyProof.Rows.sortedAll_old) (Nat.le_succ _) ⟨hlen, out, ep, h2, he'⟩, rfl, hQ _ _ x st' rv'⟩
  match ds, hf with
  | [.lst xs], hf =>
    simp only [sortedD] at hf
    obtain ⟨ok, rfl⟩ := if_some hf
    obtain ⟨v, vs', rfl, r1, r2⟩ := r.consL
    have := r2.nilL; subst this
    cases r1 with
    | @lst a ws _ hA e rr =>
      rw [Vals.ref1 rv]
      obtain ⟨its, rI, hl, _⟩ := I.list (SqL.of e)
      obtain ⟨o1, o2, o3, o4⟩ := sortOk_facts ok
      have he := each_rel rr rI
      refine PySem.W.sorted_data (enc := pyOf) hl.isList he (each_reads I he o1) o2 o3 o4 (fun b hb => ?_) fun out hl ho => fin ok he out hl ho hQ
      have := (pyOf_ok (o1 b hb)).2
      omega
  | [.tup xs], hf =>
    simp only [sortedD] at hf
    obtain ⟨ok, rfl⟩ := if_some hf
    obtain ⟨v, vs', rfl, r1, r2⟩ := r.consL
    have := r2.nilL; subst this
    cases r1 with
    | @tup a ws _ e rr =>
      rw [Vals.ref1 rv]
      obtain ⟨its, rI, hl, _⟩ := I.tuple (SqT.of e)
      obtain ⟨o1, o2, o3, o4⟩ := sortOk_facts ok
      have he := each_rel rr rI
      refine sorted_tup_data (enc := pyOf) hl he (each_reads I he o1) o2 o3 o4 (fun b hb => ?_) fun out hl ho => fin ok he out hl ho hQ
      have := (pyOf_ok (o1 b hb)).2
      omega
end
end DL
end
section
set_option autoImplicit false
namespace DL
open PySem PySem.Spec L2
def plt (a b : D) : Bool := PySem.W.dataLt (pyOf a) (pyOf b)
def minL (x : D) (xs : List D) : D := xs.foldl (fun a y => if plt y a then y else a) x
def maxL (x : D) (xs : List D) : D := xs.foldl (fun a y => if plt a y then y else a) x
def cmpOk (ds : List D) : Bool := ds.all okD && (ds.all fun a => ds.all fun b => PySem.W.alike (pyOf a) (pyOf b)) && (ds.all fun a => match a with | .non => false | _ => true)
def atom2 (a b : D) : Bool := match a, b with
  | .int _, .int _ => true
  | .str _, .str _ => true
  | _, _ => false
def minD : List D → Option D
  | [.lst (x :: xs)] => if cmpOk (x :: xs) then some (minL x xs) else none
  | [.tup (x :: xs)] => if cmpOk (x :: xs) then some (minL x xs) else none
  | [a, b] => if atom2 a b then some (if plt b a then b else a) else none
  | _ => none
def maxD : List D → Option D
  | [.lst (x :: xs)] => if cmpOk (x :: xs) then some (maxL x xs) else none
  | [.tup (x :: xs)] => if cmpOk (x :: xs) then some (maxL x xs) else none
  | [a, b] => if atom2 a b then some (if plt a b then b else a) else none
  | _ => none
mutual
theorem toPy_inj : ∀ (a b : D) (x : PyData), toPy a = some x → toPy b = some x → a = b
  | .non, b, x, ha, hb => by cases ha; cases b <;> simp [toPy] at hb; rfl
  | .bl _, b, x, ha, hb => by cases ha; cases b <;> simp [toPy] at hb; rw [hb]
  | .int _, b, x, ha, hb => by cases ha; cases b <;> simp [toPy] at hb; rw [hb]
  | .str _, b, x, ha, hb => by cases ha; cases b <;> simp [toPy] at hb; rw [hb]
  | .lst xs, b, x, ha, hb => by
    simp [toPy] at ha
    obtain ⟨xs', hx, rfl⟩ := ha
    cases b <;> simp [toPy] at hb
    rename_i ys
    rw [toPyL_inj xs ys xs' hx hb]
  | .tup xs, b, x, ha, hb => by
    simp [toPy] at ha
    obtain ⟨xs', hx, rfl⟩ := ha
    cases b <;> simp [toPy] at hb
    rename_i ys
    rw [toPyL_inj xs ys xs' hx hb]
  | .dic _ _, _, _, ha, _ => by simp [toPy] at ha
  | .obj _ _, _, _, ha, _ => by simp [toPy] at ha
  | .stm, _, _, ha, _ => by simp [toPy] at ha
  | .opq _, _, _, ha, _ => by simp [toPy] at ha
  | .wl, _, _, ha, _ => by simp [toPy] at ha
theorem toPyL_inj : ∀ (a b : List D) (x : List PyData), toPyL a = some x → toPyL b = some x → a = b
  | [], b, x, ha, hb => by
    simp [toPyL] at ha; subst ha
    cases b with
    | nil => rfl
    | cons e es => rw [toPyL_cons] at hb; cases h1 : toPy e <;> cases h2 : toPyL es <;> rw [h1, h2] at hb <;> cases hb
  | d :: ds, b, x, ha, hb => by
    rw [toPyL_cons] at ha
    cases g1 : toPy d with
    | none => rw [g1] at ha; cases ha
    | some u => cases g2 : toPyL ds with
      | none => rw [g1, g2] at ha; cases ha
      | some us =>
        rw [g1, g2] at ha; cases ha
        cases b with
        | nil => simp [toPyL] at hb
        | cons e es =>
          rw [toPyL_cons] at hb
          cases h1 : toPy e with
          | none => rw [h1] at hb; cases hb
          | some v => cases h2 : toPyL es with
            | none => rw [h1, h2] at hb; cases hb
            | some vs =>
              rw [h1, h2] at hb
              injection hb with hb
              injection hb with hb1 hb2
              subst hb1; subst hb2
              rw [toPy_inj d e _ g1 h1, toPyL_inj ds es _ g2 h2]
end
theorem pyOf_inj {a b : D} (ha : okD a = true) (hb : okD b = true) (h : pyOf a = pyOf b) : a = b :=
  toPy_inj a b _ (pyOf_ok ha).1 (h ▸ (pyOf_ok hb).1)
theorem minL_mem : ∀ (xs : List D) (x : D), minL x xs ∈ x :: xs
  | [], x => by simp [minL]
  | y :: ys, x => by
    have : minL x (y :: ys) = minL (if plt y x then y else x) ys := rfl
    rw [this]
    have := minL_mem ys (if plt y x then y else x)
    by_cases h : plt y x = true
    · rw [if_pos h] at this ⊢
      exact List.mem_cons_of_mem _ this
    · rw [if_neg h] at this ⊢
      rcases List.mem_cons.mp this with q | q
      · rw [q]; exact List.mem_cons_self
      · exact List.mem_cons_of_mem _ (List.mem_cons_of_mem _ q)
theorem maxL_mem : ∀ (xs : List D) (x : D), maxL x xs ∈ x :: xs
  | [], x => by simp [maxL]
  | y :: ys, x => by
    have : maxL x (y :: ys) = maxL (if plt x y then y else x) ys := rfl
    rw [this]
    have := maxL_mem ys (if plt x y then y else x)
    by_cases h : plt x y = true
    · rw [if_pos h] at this ⊢
      exact List.mem_cons_of_mem _ this
    · rw [if_neg h] at this ⊢
      rcases List.mem_cons.mp this with q | q
      · rw [q]; exact List.mem_cons_self
      · exact List.mem_cons_of_mem _ (List.mem_cons_of_mem _ q)
theorem minL_py : ∀ (xs : List D) (x : D), pyOf (minL x xs) = PySem.W.minD (pyOf x) (xs.map pyOf)
  | [], x => rfl
  | y :: ys, x => by
    have e : minL x (y :: ys) = minL (if plt y x then y else x) ys := rfl
    rw [e, minL_py ys]
    show _ = (List.map pyOf ys).foldl _ (if PySem.W.dataLt (pyOf y) (pyOf x) then pyOf y else pyOf x)
    unfold PySem.W.minD plt
    split <;> rfl
theorem maxL_py : ∀ (xs : List D) (x : D), pyOf (maxL x xs) = PySem.W.maxD (pyOf x) (xs.map pyOf)
  | [], x => rfl
  | y :: ys, x => by
    have e : maxL x (y :: ys) = maxL (if plt x y then y else x) ys := rfl
    rw [e, maxL_py ys]
    show _ = (List.map pyOf ys).foldl _ (if PySem.W.dataLt (pyOf x) (pyOf y) then pyOf y else pyOf x)
    unfold PySem.W.maxD plt
    split <;> rfl
section raw
open PyProof PyProof.Rows PySem.Calls PySem.W
variable {prog : Program} {w : World} {A : Around} {E : Value → Shared → Prop} {s : Shared}
theorem two_go {a b : Value} {Q : Value → Shared → Prop} {bt : Nat → Nat → Bool} (op : CmpOp) (hh : A.handled = none)
    (hc : CmpOf prog w A.in1 op (fun i v => (#[a, b] : Array Value)[i]? = some v) bt) (h : ∀ h' tk, (∀ c o, s.heap.get? c = some o → h'.get? c = some o) → Q (if bt 1 0 then b else a) { s with heap := h', toks := tk }) :
    wpAny (model prog w) A.in1 (pyIter (.ref s.heap.objs.size)) (fun it s₂ => ∃ I fp wr n P St bt, it = .ref I ∧ Walks prog w A.in1 I fp wr n P St ∧ St 0 s₂.heap ∧ (∀ b ∈ fp, b < s₂.heap.objs.size) ∧ 0 < n ∧ CmpOf prog w A.in1 op P bt ∧
      ∀ v h' tk, P (argBest bt (n - 1)) v → (∀ b o, b ∉ wr → s₂.heap.get? b = some o → h'.get? b = some o) → Q v { s₂ with heap := h', toks := tk }) E
      { s with heap := s.heap.push { cls := .type "tuple", data := .seq #[a, b] } } := by
  have hT : (s.heap.push { cls := .type "tuple", data := .seq #[a, b] }).IsTuple s.heap.objs.size #[a, b] := ⟨_, Heap.get?_push_size _ rfl, rfl, 0, rfl⟩
  refine wpAny_pyIter_tuple hT ?_
  have hsz : (s.heap.push { cls := .type "tuple", data := .seq #[a, b] }).objs.size = s.heap.objs.size + 1 := Heap.size_push ..
  refine ⟨_, [_, s.heap.objs.size], [_], _, _, _, _, rfl, Walks.tuple (A := A.in1) hh _ s.heap.objs.size (by rw [hsz]; exact Nat.ne_of_lt (Nat.lt_succ_self _)) #[a, b],
    ⟨⟨_, Heap.get?_push_size _ rfl, rfl, rfl⟩, hT.push _⟩, fun c hc => ?_, by simp, hc, fun v h' tk hP hk => ?_⟩
  · show c < ((s.heap.push _).push _).objs.size
    rw [Heap.size_push, hsz]
    rcases List.mem_cons.mp hc with rfl | hc
    · rw [hsz]; exact Nat.lt_succ_self _
    · rcases List.mem_cons.mp hc with rfl | hc
      · exact Nat.lt_succ_of_lt (Nat.lt_succ_self _)
      · cases hc
  · have hold : ∀ c o, s.heap.get? c = some o → h'.get? c = some o := fun c o e => by
      refine hk c o (fun hm => ?_) (Heap.get?_push_of_some _ (Heap.get?_push_of_some _ e))
      rcases List.mem_cons.mp hm with e1 | hm
      · have := Heap.lt_size e; rw [e1, hsz] at this; exact Nat.lt_irrefl _ (Nat.lt_of_succ_lt this)
      · cases hm
    have := h h' tk hold
    have hv : v = if bt 1 0 then b else a := by
      have hP' : (#[a, b] : Array Value)[argBest bt 1]? = some v := hP
      have e : argBest bt 1 = if bt 1 0 = true then 1 else 0 := rfl
      rw [e] at hP'
      by_cases z : bt 1 0 = true
      · simp only [z, if_true] at hP' ⊢
        simpa using hP'.symm
      · simp only [z, if_false] at hP' ⊢
        simpa using hP'.symm
    rw [hv]; exact this
end raw
section
variable {T : Cfg} {H H' : Hp} {SS : Addr → Prop} {s : Strm} {σ : St} {v w : V} {d c : D} {vs : List V} {ds : List D}
variable {X : Cx} {pins : List (Addr × Obj)} {sh : Shared}
theorem cmpOk_facts {ds : List D} (h : cmpOk ds = true) : (∀ d ∈ ds, okD d = true) ∧ PySem.W.AlikeAll (ds.map pyOf) := by
  unfold cmpOk at h
  simp only [Bool.and_eq_true, List.all_eq_true] at h
  obtain ⟨⟨h1, h2⟩, h3⟩ := h
  refine ⟨h1, fun d hd d' hd' => ?_, fun x hx => ?_⟩
  · obtain ⟨a, ha, rfl⟩ := List.mem_map.mp hd
    obtain ⟨b, hb, rfl⟩ := List.mem_map.mp hd'
    exact h2 a ha b hb
  · obtain ⟨a, ha, rfl⟩ := List.mem_map.mp hx
    intro z
    have e := (pyOf_ok (h1 a ha)).1
    rw [z] at e
    have := toPy_inj a .non _ e rfl
    subst this
    exact absurd (h3 _ ha) (by simp)
theorem each_readsAll {us : List Value} {h : Heap} (q : PySem.W.EachIs (fun v b => ∃ as, Reads h v (pyOf b) as) us ds) : ∃ as, ReadsAll h us (ds.map pyOf) as := PySem.W.each_readsAll pyOf q
theorem depL_le {ds : List D} (h : ∀ d ∈ ds, okD d = true) : PyData.depthAll (ds.map pyOf) ≤ 50 := by
  induction ds with
  | nil => simp [PyData.depthAll]
  | cons d ds ih =>
    simp only [List.map_cons, PyData.depthAll]
    have h1 := (pyOf_ok (h d List.mem_cons_self)).2
    have h2 := ih fun d hd => h d (List.mem_cons_of_mem _ hd)
    omega
theorem atom2_facts {a b : D} (h : atom2 a b = true) {v w : V} {u1 u2 : Value} (r1 : Rep T H SS v a) (r2 : Rep T H SS w b) (q1 : RelV v u1) (q2 : RelV w u2) :
    (∀ h, Reads h u1 (pyOf a) []) ∧ (∀ h, Reads h u2 (pyOf b) []) ∧ PySem.W.alike (pyOf a) (pyOf b) = true ∧ PySem.W.alike (pyOf a) (pyOf a) = true ∧ PySem.W.alike (pyOf b) (pyOf b) = true ∧ PySem.W.alike (pyOf b) (pyOf a) = true ∧ pyOf a ≠ .none ∧ pyOf b ≠ .none ∧ (pyOf a).depth = 0 ∧ (pyOf b).depth = 0 := by
  cases a <;> cases b <;> simp only [atom2] at h <;> first | (cases h; done) | skip
  · cases r1; cases r2
    obtain ⟨t, rfl⟩ := q1
    obtain ⟨t', rfl⟩ := q2
    exact ⟨fun _ => .int _ _, fun _ => .int _ _, by rfl, by rfl, by rfl, by rfl, (fun z => by cases z), (fun z => by cases z), by rfl, by rfl⟩
  · cases r1; cases r2
    obtain ⟨t, rfl⟩ := q1
    obtain ⟨t', rfl⟩ := q2
    exact ⟨fun _ => .str _ _, fun _ => .str _ _, by rfl, by rfl, by rfl, by rfl, (fun z => by cases z), (fun z => by cases z), by rfl, by rfl⟩
theorem two_lt {a b : D} {u1 u2 : Value} {A : Around} (hu : A.units < cLine) (f : (∀ h, Reads h u1 (pyOf a) []) ∧ (∀ h, Reads h u2 (pyOf b) []) ∧ PySem.W.alike (pyOf a) (pyOf b) = true ∧ PySem.W.alike (pyOf a) (pyOf a) = true ∧ PySem.W.alike (pyOf b) (pyOf b) = true ∧ PySem.W.alike (pyOf b) (pyOf a) = true ∧ pyOf a ≠ .none ∧ pyOf b ≠ .none ∧ (pyOf a).depth = 0 ∧ (pyOf b).depth = 0) :
    PySem.CmpOf X.prog X.w A .Lt (fun i v => (#[u1, u2] : Array Value)[i]? = some v) (fun i j => PySem.W.dataLt (([pyOf a, pyOf b] : List PyData).getD i .none) (([pyOf a, pyOf b] : List PyData).getD j .none)) ∧
    PySem.CmpOf X.prog X.w A .Gt (fun i v => (#[u1, u2] : Array Value)[i]? = some v) (fun i j => PySem.W.dataLt (([pyOf a, pyOf b] : List PyData).getD j .none) (([pyOf a, pyOf b] : List PyData).getD i .none)) := by
  obtain ⟨f1, f2, f3, f4, f5, f6, f7, f8, f9, f10⟩ := f
  have at_ : ∀ (i : Nat) (v : Value), (#[u1, u2] : Array Value)[i]? = some v → (i = 0 ∧ v = u1) ∨ (i = 1 ∧ v = u2) := fun i v h => by
    match i, h with
    | 0, h => exact .inl ⟨rfl, by simpa using h.symm⟩
    | 1, h => exact .inr ⟨rfl, by simpa using h.symm⟩
    | (n + 2), h => simp at h
  refine ⟨fun i j vi vj s Q E hi hj hq => ?_, fun i j vi vj s Q E hi hj hq => ?_⟩
  · rcases at_ i vi hi with ⟨rfl, rfl⟩ | ⟨rfl, rfl⟩ <;> rcases at_ j vj hj with ⟨rfl, rfl⟩ | ⟨rfl, rfl⟩
    · exact PySem.W.rcLt_alike _ _ A s _ _ _ _ (f1 _) (f1 _) f4 f7 (by simp only [f9]; simpa using hu) _ _ E Q hq
    · exact PySem.W.rcLt_alike _ _ A s _ _ _ _ (f1 _) (f2 _) f3 f7 (by simp only [f9]; simpa using hu) _ _ E Q hq
    · exact PySem.W.rcLt_alike _ _ A s _ _ _ _ (f2 _) (f1 _) f6 f8 (by simp only [f10]; simpa using hu) _ _ E Q hq
    · exact PySem.W.rcLt_alike _ _ A s _ _ _ _ (f2 _) (f2 _) f5 f8 (by simp only [f10]; simpa using hu) _ _ E Q hq
  · rcases at_ i vi hi with ⟨rfl, rfl⟩ | ⟨rfl, rfl⟩ <;> rcases at_ j vj hj with ⟨rfl, rfl⟩ | ⟨rfl, rfl⟩
    · exact PySem.W.rcGt_alike _ _ A s _ _ _ _ (f1 _) (f1 _) f4 f7 (by simp only [f9]; simpa using hu) _ _ E Q hq
    · exact PySem.W.rcGt_alike _ _ A s _ _ _ _ (f1 _) (f2 _) f3 f7 (by simp only [f9]; simpa using hu) _ _ E Q hq
    · exact PySem.W.rcGt_alike _ _ A s _ _ _ _ (f2 _) (f1 _) f6 f8 (by simp only [f10]; simpa using hu) _ _ E Q hq
    · exact PySem.W.rcGt_alike _ _ A s _ _ _ _ (f2 _) (f2 _) f5 f8 (by simp only [f10]; simpa using hu) _ _ E Q hq
theorem v_min (hc : X.calm = true) (hu : X.A.units + 64 < cLine) : CallV T X (.builtin "min") minD .part := by
  intro H s SS vs ds c st hS r hf Q hQ pins sh σ us I rv
  have one : ∀ {x : D} {xs : List D} {its : List Value} {ws : List V}, cmpOk (x :: xs) = true → RepL T H SS ws (x :: xs) → Vals ws its → ∀ (i : Nat) (v : Value) (h' : Heap) (tk : Nat) (bs : List Addr), its[i]? = some v → Reads h' v (PySem.W.minD (pyOf x) (xs.map pyOf)) bs →
      (∀ b o, sh.heap.get? b = some o → h'.get? b = some o) → (∀ z H', Ext T H H' → StmAt T H' s → RV T H H' SS .part z (minL x xs) → Q z H') → EP X pins σ Q v { sh with heap := h', toks := tk } := fun {x xs its ws} ok rr rI i v h' tk bs hi rd hk hQ => by
    obtain ⟨o1, o2⟩ := cmpOk_facts ok
    have hl : ws.length = its.length := Paired.length rI
    have hi' : i < its.length := (List.getElem?_eq_some_iff.mp hi).1
    obtain ⟨wv, hw, rw'⟩ : ∃ wv, ws[i]? = some wv ∧ RelV wv v := by
      have hwi : i < ws.length := by omega
      obtain ⟨u, hu1, hu2⟩ := rI.get (List.getElem?_eq_getElem hwi)
      rw [hi] at hu1
      exact ⟨_, List.getElem?_eq_getElem hwi, by rw [Option.some.inj hu1]; exact hu2⟩
    obtain ⟨dd, hd1, hd2⟩ := rr.getV i wv hw
    have hmem := List.mem_of_getElem? hd1
    have I' : Inv X pins σ H { sh with heap := h', toks := tk } := I.kept hk
    obtain ⟨px, as', hx, rdx, _, _⟩ := hd2.reads I' (o1 _ hmem) rw'
    have ex : pyOf dd = px := by have := (pyOf_ok (o1 _ hmem)).1; rw [hx] at this; exact (Option.some.inj this).symm
    have hmm : minL x xs ∈ x :: xs := minL_mem xs x
    have e : pyOf dd = pyOf (minL x xs) := by
      rw [minL_py, ex]
      refine PySem.W.alike_unique _ _ v _ _ ?_ rdx rd
      rw [← ex, ← minL_py]
      exact o2.1 _ (List.mem_map.mpr ⟨_, hmem, rfl⟩) _ (List.mem_map.mpr ⟨_, hmm, rfl⟩)
    have := pyOf_inj (o1 _ hmem) (o1 _ hmm) e
    subst this
    exact ⟨wv, H, I', rw', hQ _ H Ext.refl st hd2⟩
  unfold minD at hf
  split at hf
  · rename_i x xs
    obtain ⟨ok, rfl⟩ := if_some hf
    obtain ⟨v, vs', rfl, r1, r2⟩ := r.consL
    have := r2.nilL; subst this
    cases r1 with
    | @lst a ws _ hA e rr =>
      rw [Vals.ref1 rv]
      obtain ⟨its, rI, hl, _⟩ := I.list (SqL.of e)
      obtain ⟨o1, o2⟩ := cmpOk_facts ok
      obtain ⟨as, hra⟩ := each_readsAll (each_reads I (each_rel rr rI) o1)
      have hd := depL_le o1
      refine PySem.W.min_list_data (I.ok.hd hc) hl.isList (by simpa using hra) o2 (by simp only [List.map_cons] at hd; omega) fun i v h' tk bs hi rd hk => one ok rr rI i v h' tk bs (by simpa using hi) rd hk hQ
  · rename_i x xs
    obtain ⟨ok, rfl⟩ := if_some hf
    obtain ⟨v, vs', rfl, r1, r2⟩ := r.consL
    have := r2.nilL; subst this
    cases r1 with
    | @tup a ws _ e rr =>
      rw [Vals.ref1 rv]
      obtain ⟨its, rI, hl, _⟩ := I.tuple (SqT.of e)
      obtain ⟨o1, o2⟩ := cmpOk_facts ok
      obtain ⟨as, hra⟩ := each_readsAll (each_reads I (each_rel rr rI) o1)
      have hd := depL_le o1
      refine PySem.W.min_tuple_data (I.ok.hd hc) hl (by simpa using hra) o2 (by simp only [List.map_cons] at hd; omega) fun i v h' tk bs hi rd hk => one ok rr rI i v h' tk bs (by simpa using hi) rd hk hQ
  · rename_i a b
    obtain ⟨ok, rfl⟩ := if_some hf
    obtain ⟨v, vs', rfl, r1, r2⟩ := r.consL
    obtain ⟨w, vs', rfl, r3, r4⟩ := r2.consL
    have := r4.nilL; subst this
    obtain ⟨u1, u2, rfl, q1, q2⟩ := vals2 rv
    refine PySem.call_min_two (two_go .Lt (I.ok.hd hc) (two_lt (by show X.A.units + 1 < cLine; omega) (atom2_facts ok r1 r3 q1 q2)).1 fun h' tk hk => ?_)
    have I' : Inv X pins σ H { sh with heap := h', toks := tk } := I.kept hk
    show EP X pins σ Q (if PySem.W.dataLt (pyOf b) (pyOf a) = true then u2 else u1) _
    unfold plt at hQ
    by_cases z : PySem.W.dataLt (pyOf b) (pyOf a) = true
    · rw [if_pos z]; rw [if_pos z] at hQ
      exact ⟨w, H, I', q2, hQ _ H Ext.refl st r3⟩
    · rw [if_neg z]; rw [if_neg z] at hQ
      exact ⟨v, H, I', q1, hQ _ H Ext.refl st r1⟩
  · cases hf
theorem v_max (hc : X.calm = true) (hu : X.A.units + 64 < cLine) : CallV T X (.builtin "max") maxD .part := by
  intro H s SS vs ds c st hS r hf Q hQ pins sh σ us I rv
  have one : ∀ {x : D} {xs : List D} {its : List Value} {ws : List V}, cmpOk (x :: xs) = true → RepL T H SS ws (x :: xs) → Vals ws its → ∀ (i : Nat) (v : Value) (h' : Heap) (tk : Nat) (bs : List Addr), its[i]? = some v → Reads h' v (PySem.W.maxD (pyOf x) (xs.map pyOf)) bs →
      (∀ b o, sh.heap.get? b = some o → h'.get? b = some o) → (∀ z H', Ext T H H' → StmAt T H' s → RV T H H' SS .part z (maxL x xs) → Q z H') → EP X pins σ Q v { sh with heap := h', toks := tk } := fun {x xs its ws} ok rr rI i v h' tk bs hi rd hk hQ => by
    obtain ⟨o1, o2⟩ := cmpOk_facts ok
    have hl : ws.length = its.length := Paired.length rI
    have hi' : i < its.length := (List.getElem?_eq_some_iff.mp hi).1
    obtain ⟨wv, hw, rw'⟩ : ∃ wv, ws[i]? = some wv ∧ RelV wv v := by
      have hwi : i < ws.length := by omega
      obtain ⟨u, hu1, hu2⟩ := rI.get (List.getElem?_eq_getElem hwi)
      rw [hi] at hu1
      exact ⟨_, List.getElem?_eq_getElem hwi, by rw [Option.some.inj hu1]; exact hu2⟩
    obtain ⟨dd, hd1, hd2⟩ := rr.getV i wv hw
    have hmem := List.mem_of_getElem? hd1
    have I' : Inv X pins σ H { sh with heap := h', toks := tk } := I.kept hk
    obtain ⟨px, as', hx, rdx, _, _⟩ := hd2.reads I' (o1 _ hmem) rw'
    have ex : pyOf dd = px := by have := (pyOf_ok (o1 _ hmem)).1; rw [hx] at this; exact (Option.some.inj this).symm
    have hmm : maxL x xs ∈ x :: xs := maxL_mem xs x
    have e : pyOf dd = pyOf (maxL x xs) := by
      rw [maxL_py, ex]
      refine PySem.W.alike_unique _ _ v _ _ ?_ rdx rd
      rw [← ex, ← maxL_py]
      exact o2.1 _ (List.mem_map.mpr ⟨_, hmem, rfl⟩) _ (List.mem_map.mpr ⟨_, hmm, rfl⟩)
    have := pyOf_inj (o1 _ hmem) (o1 _ hmm) e
    subst this
    exact ⟨wv, H, I', rw', hQ _ H Ext.refl st hd2⟩
  unfold maxD at hf
  split at hf
  · rename_i x xs
    obtain ⟨ok, rfl⟩ := if_some hf
    obtain ⟨v, vs', rfl, r1, r2⟩ := r.consL
    have := r2.nilL; subst this
    cases r1 with
    | @lst a ws _ hA e rr =>
      rw [Vals.ref1 rv]
      obtain ⟨its, rI, hl, _⟩ := I.list (SqL.of e)
      obtain ⟨o1, o2⟩ := cmpOk_facts ok
      obtain ⟨as, hra⟩ := each_readsAll (each_reads I (each_rel rr rI) o1)
      have hd := depL_le o1
      refine PySem.W.max_list_data (I.ok.hd hc) hl.isList (by simpa using hra) o2 (by simp only [List.map_cons] at hd; omega) fun i v h' tk bs hi rd hk => one ok rr rI i v h' tk bs (by simpa using hi) rd hk hQ
  · rename_i x xs
    obtain ⟨ok, rfl⟩ := if_some hf
    obtain ⟨v, vs', rfl, r1, r2⟩ := r.consL
    have := r2.nilL; subst this
    cases r1 with
    | @tup a ws _ e rr =>
      rw [Vals.ref1 rv]
      obtain ⟨its, rI, hl, _⟩ := I.tuple (SqT.of e)
      obtain ⟨o1, o2⟩ := cmpOk_facts ok
      obtain ⟨as, hra⟩ := each_readsAll (each_reads I (each_rel rr rI) o1)
      have hd := depL_le o1
      refine PySem.W.max_tuple_data (I.ok.hd hc) hl (by simpa using hra) o2 (by simp only [List.map_cons] at hd; omega) fun i v h' tk bs hi rd hk => one ok rr rI i v h' tk bs (by simpa using hi) rd hk hQ
  · rename_i a b
    obtain ⟨ok, rfl⟩ := if_some hf
    obtain ⟨v, vs', rfl, r1, r2⟩ := r.consL
    obtain ⟨w, vs', rfl, r3, r4⟩ := r2.consL
    have := r4.nilL; subst this
    obtain ⟨u1, u2, rfl, q1, q2⟩ := vals2 rv
    refine PySem.call_max_two (two_go .Gt (I.ok.hd hc) (two_lt (by show X.A.units + 1 < cLine; omega) (atom2_facts ok r1 r3 q1 q2)).2 fun h' tk hk => ?_)
    have I' : Inv X pins σ H { sh with heap := h', toks := tk } := I.kept hk
    show EP X pins σ Q (if PySem.W.dataLt (pyOf a) (pyOf b) = true then u2 else u1) _
    unfold plt at hQ
    by_cases z : PySem.W.dataLt (pyOf a) (pyOf b) = true
    · rw [if_pos z]; rw [if_pos z] at hQ
      exact ⟨w, H, I', q2, hQ _ H Ext.refl st r3⟩
    · rw [if_neg z]; rw [if_neg z] at hQ
      exact ⟨v, H, I', q1, hQ _ H Ext.refl st r1⟩
  · cases hf
def blsD : List D → Option (List Bool)
  | [] => some []
  | .bl b :: ds => (blsD ds).map (b :: ·)
  | _ => none
def allD : List D → Option D
  | [.lst xs] => (blsD xs).map fun bs => .bl (bs.all id)
  | _ => none
def anyD : List D → Option D
  | [.lst xs] => (blsD xs).map fun bs => .bl (bs.any id)
  | _ => none
theorem bls_rep : ∀ {ds : List D} {vs : List V} {bs : List Bool}, RepL T H SS vs ds → blsD ds = some bs → vs = bs.map V.bl
  | [], _, bs, r, h => by cases h; rw [r.nilL]; rfl
  | d :: ds, _, bs, r, h => by
    obtain ⟨v, vs', rfl, r1, r2⟩ := r.consL
    cases d <;> simp only [blsD] at h <;> first | (cases h; done) | skip
    cases e : blsD ds with
    | none => rw [e] at h; cases h
    | some cs =>
      rw [e] at h; cases h
      cases r1
      rw [bls_rep r2 e]; rfl
theorem v_all (hc : X.calm = true) : CallV T X (.builtin "all") allD .atom := by
  intro H s SS vs ds c st hS r hf Q hQ
  unfold allD at hf
  split at hf
  · rename_i xs
    cases e : blsD xs with
    | none => rw [e] at hf; cases hf
    | some bs =>
      rw [e] at hf; cases hf
      obtain ⟨v, vs', rfl, r1, r2⟩ := r.consL
      have := r2.nilL; subst this
      cases r1 with
      | @lst a ws _ hA e1 rr =>
        have := bls_rep rr e; subst this
        exact WC.of (cr_all hc) ⟨a, bs, rfl, SqL.of e1, hQ _ H Ext.refl st (.bl _)⟩
  · cases hf
theorem v_any (hc : X.calm = true) : CallV T X (.builtin "any") anyD .atom := by
  intro H s SS vs ds c st hS r hf Q hQ
  unfold anyD at hf
  split at hf
  · rename_i xs
    cases e : blsD xs with
    | none => rw [e] at hf; cases hf
    | some bs =>
      rw [e] at hf; cases hf
      obtain ⟨v, vs', rfl, r1, r2⟩ := r.consL
      have := r2.nilL; subst this
      cases r1 with
      | @lst a ws _ hA e1 rr =>
        have := bls_rep rr e; subst this
        exact WC.of (cr_any hc) ⟨a, bs, rfl, SqL.of e1, hQ _ H Ext.refl st (.bl _)⟩
  · cases hf
def strsD : List D → Option (List Str)
  | [] => some []
  | .str b :: ds => (strsD ds).map (b :: ·)
  | _ => none
theorem strs_rep : ∀ {ds : List D} {vs : List V} {bs : List Str}, RepL T H SS vs ds → strsD ds = some bs → vs = bs.map V.str
  | [], _, bs, r, h => by cases h; rw [r.nilL]; rfl
  | d :: ds, _, bs, r, h => by
    obtain ⟨v, vs', rfl, r1, r2⟩ := r.consL
    cases d <;> simp only [strsD] at h <;> first | (cases h; done) | skip
    cases e : strsD ds with
    | none => rw [e] at h; cases h
    | some cs =>
      rw [e] at h; cases h
      cases r1
      rw [strs_rep r2 e]; rfl
def joinD (d : D) (ds : List D) : Option D := match d, ds with
  | .str a, [.lst xs] => match strsD xs with
    | some ys => if (ys.map (·.length)).sum + ys.length * a.length ≤ 16777216 then some (.str (Txt.join a ys)) else none
    | none => none
  | _, _ => none
theorem v_join : MtV T X "str.join" joinD .atom := by
  intro H s SS v vs d ds c st hS rd r hf Q hQ
  unfold joinD at hf
  split at hf
  · rename_i a xs
    split at hf
    · rename_i ys e
      obtain ⟨hl, rfl⟩ := if_some hf
      obtain ⟨v, vs', rfl, r1, r2⟩ := r.consL
      have := r2.nilL; subst this
      cases rd
      cases r1 with
      | @lst p ws _ hA e1 rr =>
        have := strs_rep rr e; subst this
        exact WM.of mt_join ⟨a, p, ys, rfl, rfl, .inl (SqL.of e1), hl, hQ _ H Ext.refl st (.str _)⟩
    · cases hf
  · cases hf
end
end DL
end
section
set_option autoImplicit false
namespace DL
open PySem PySem.Spec L2
section
variable {T : Cfg} {H0 H H' H1 H2 H3 : Hp} {S0 SS : Addr → Prop} {Γ Γ' Γ1 Γ2 Γ3 Γb Γw Γi : List Md} {ρ ρ' : Env} {s s' s1 s2 : Strm} {σ : St} {tg tg' tg1 tg2 : Tags} {v w : V} {d c : D} {vs : List V} {ds : List D} {m m' mr me ms m1 m2 : Md} {rm : Rm} {k : Kid} {i j : Nat}
variable {X : Cx} {E : XK} {e a b o : Expr} {es : List Expr} {F Fa Fb Fo Fe : EF} {pos p : Pos} {x : Str} {tge iter elt : Expr} {scope : Scope} {own own' : Addr → Prop}
def fFz (Fe : EF) : EF := fun ρ => do let d ← Fe ρ; M.of (if frozen d then some d else none)
theorem de_fz (he : DE T X E Γ e Fe m Γ1) : DE T X E Γ e (fFz Fe) .atom Γ1 := by
  refine ⟨?_⟩
  intro H0 S0 ρ s σ H tg S r s' hF Q hQ
  refine he.seq S hF hQ.ek fun d s1 v H1 tg1 hk g1 S1 r1 e1 => ?_
  obtain ⟨c, hc, rfl, rfl⟩ := M.of_some hk
  obtain ⟨hf, rfl⟩ := if_some hc
  exact hQ v H1 tg1 g1 S1 ((rep_any S S1 r1).frozen hf)
def strM : D → M Unit
  | .str _ => pure ()
  | _ => M.fail
theorem str_step {β : Type} {k : Unit → M β} {r : Except Exn β} (h : (strM d >>= k) s = some (r, s')) : (∃ z, d = .str z) ∧ k () s = some (r, s') := by
  cases d <;> first | exact ⟨⟨_, rfl⟩, h⟩ | cases h
theorem rep_str {z : Str} (r : RepW T tg own H m v (.str z)) : v = .str z := by
  have g : ∀ S', Rep T H S' v (.str z) → v = .str z := fun S' h => by cases h; rfl
  cases m <;> exact g _ r
def fM1 (f : D → List D → Option D) (Fo Fe : EF) : EF := fun ρ => do let d ← Fo ρ; strM d; let x ← Fe ρ; M.of (f d [x])
theorem de_m1 {id : String} {name : Str} {f : D → List D → Option D} {apos : Pos} (slot : Slot "str" name id) (ty : typeOf (.builtin id) = pure (.type "method_descriptor")) (h : MtV T X id f .atom) (ho : DE T X E Γ o Fo .atom Γ1) (he : DE T X E Γ1 e Fe m Γ2) (hm : m.flat = true := by rfl)
    (hs : starEach [e] X.env = [(false, eval e X.env)] := by rfl) (hbase : attributeBase o name X.env (eval o X.env) = eval o X.env := by rfl) (hline : (apos.endLine == pos.line) = true := by rfl) :
    DE T X E Γ (.Call (.Attribute o name apos) [e] [] pos) (fM1 f Fo Fe) .atom Γ2 := by
  refine ⟨?_⟩
  intro H0 S0 ρ s σ H tg S r s' hF Q hQ
  refine WE.of (pe_m1 slot ty WM.r WE.pe WE.pe hs hbase hline) ?_
  refine ho.seq S hF hQ.ek fun d s1 v H1 tg1 hk g1 S1 r1 e1 => ?_
  obtain ⟨⟨z, rfl⟩, hk⟩ := str_step hk
  have hv := rep_str r1
  subst hv
  refine ⟨⟨z, rfl⟩, ?_⟩
  refine he.seq S1 hk e1 fun d2 s2 v2 H2 tg2 hk2 g2 S2 r2 e2 => ?_
  obtain ⟨c, hc, rfl, rfl⟩ := M.of_some hk2
  have r2' := (RepW.flat hm).mp r2
  exact h H2 _ _ (.str z) [v2] (.str z) [d2] c S2.stm (set_any S1 S2) (.str z) (.one r2') hc Q fun z' H3 x3 st3 rv =>
    hQ z' H3 tg2 ((g1.trans g2).trans (Go.lay S2 x3 st3)) (S2.ext0 x3 st3) rv
def CntR (T : Cfg) (E : XK) (H0 : Hp) (S0 : Addr → Prop) (mr : Md) (s' : Strm) (Q : VK) : Except Exn D → Prop
  | .ok d => ∀ v H', Ext T H0 H' → StmAt T H' s' → RetR T H0 H' S0 mr v d → Q v H'
  | .error x => ∀ c dx H', Thr T H0 x s' c dx H' → E c (some dx) H'
structure DR (T : Cfg) (X : Cx) (E : XK) (mr : Md) (Γ : List Md) (e : Expr) (F : EF) : Prop where
  mk ::
  run : ∀ H0 S0 ρ s σ H tg, Sta T H0 S0 Γ ρ s σ H tg → ∀ r s', F ρ s = some (r, s') → ∀ Q : VK, CntR T E H0 S0 mr s' Q r → WE X e σ H Q
instance {T : Cfg} {X : Cx} {E : XK} {mr : Md} {Γ : List Md} {e : Expr} {F : EF} : CoeFun (DR T X E mr Γ e F) (fun _ => ∀ H0 S0 ρ s σ H tg, Sta T H0 S0 Γ ρ s σ H tg → ∀ r s', F ρ s = some (r, s') → ∀ Q : VK, CntR T E H0 S0 mr s' Q r → WE X e σ H Q) := ⟨DR.run⟩
theorem CntR.ek {r : Except Exn D} {Q : VK} (h : CntR T E H0 S0 mr s' Q r) (S : Sta T H0 S0 Γ ρ s σ H tg) : ErrK T E H s' r := fun x e c dx H' t => by
  subst e; exact h c dx H' ⟨t.1, S.same.trans t.2.1, t.2.2⟩
theorem dr_de (he : DE T X E Γ e Fe m Γ1) (l : LeR m mr) : DR T X E mr Γ e Fe := by
  refine ⟨?_⟩
  intro H0 S0 ρ s σ H tg S r s' hF Q hQ
  refine he _ _ _ _ _ _ _ S _ _ hF Q ?_
  cases r with
  | error x => exact (hQ.ek S) x rfl
  | ok d => exact fun v H1 tg1 g1 S1 r1 => hQ v H1 S1.same S1.stm (l.ok (i := 0) S1 _ (fun a h => ⟨S.born h.1, h.2.1⟩) r1)
theorem ex_new (S : Sta T H0 S0 Γ ρ s σ H tg) {i : Nat} {a : Addr} (h : exS tg i a) : H0 a = none ∧ H a ≠ none := by
  refine ⟨?_, S.tgd a (by rw [exS] at h; rw [h]; exact fun q => by cases q)⟩
  cases e : H0 a with
  | none => rfl
  | some o => rcases S.tg0 a (by rw [e]; simp) with z | z <;> (rw [exS, z] at h; cases h)
theorem dr_var (i : Nat) (hm : Γ.getD i .atom = m) (l : LeR m mr) {y : Str} {p' : Pos} (hN : X.N[i]? = some y := by rfl)
    (hv : Vis X.env.scope y := by first | exact Or.inl rfl | exact Or.inr (Or.inl rfl) | exact Or.inr (Or.inr rfl)) (hd : (y == ("__debug__" : Str)) = false := by decide) (hcd : (y == ("__classdict__" : Str)) = false := by decide) :
    DR T X E mr Γ (.Name y p') (fVar i) := by
  refine ⟨?_⟩
  intro H0 S0 ρ s σ H tg S r s' hF Q hQ
  obtain ⟨d', hd', rfl, rfl⟩ := M.of_some hF
  obtain ⟨h0, v, h3, h4⟩ := S.val i d' (join_some hd')
  rw [hm] at h4
  exact WE.of (pe_var hN hv hd hcd) ⟨v, h3, hQ v H S.same S.stm (l.ok (i := 0) S (exS tg i) (fun a h => ex_new S h) h4)⟩
theorem dr_if {cc : Expr} {Ft : TF} (ht : DT T X E Γ cc Ft Γ1) (ha : DR T X E mr Γ1 a Fa) (hb : DR T X E mr Γ1 b Fb) : DR T X E mr Γ (.IfExp cc a b pos) (fIf Ft Fa Fb) := by
  refine ⟨?_⟩
  intro H0 S0 ρ s σ H tg S r s' hF Q hQ
  refine WE.of (pe_ifExp WT.pt WE.pe WE.pe) ?_
  refine ht.seq S hF (hQ.ek S) fun c s1 H1 tg1 hk g1 S1 e1 => ?_
  cases c with
  | true => exact iteT (ha _ _ _ _ _ _ _ S1 _ _ hk Q hQ)
  | false => exact iteF (hb _ _ _ _ _ _ _ S1 _ _ hk Q hQ)
/-- tuple(x), x ours: handed back -/
theorem dr_tup (i : Nat) (hm : Γ.getD i .atom = .ow .e) (hm0 : X.mg "tuple" = none) {y : Str} {p' : Pos} (hN : X.N[i]? = some y := by rfl) (hg : Gl X "tuple" := by rfl)
    (hv : Vis X.env.scope y := by first | exact Or.inl rfl | exact Or.inr (Or.inl rfl) | exact Or.inr (Or.inr rfl)) (hd : (y == ("__debug__" : Str)) = false := by decide) (hcd : (y == ("__classdict__" : Str)) = false := by decide)
    (he : starEach (.Name y p' :: []) X.env = (false, eval (.Name y p') X.env) :: starEach [] X.env := by rfl) (hpl : (backTo pos (starEach [] X.env)).any (·.1) = false := by rfl) :
    DR T X E .xc Γ (.Call (.Name "tuple" p) [.Name y p'] [] pos) (fCall tupleD (aCons (fVar i) aNil)) := by
  refine ⟨?_⟩
  intro H0 S0 ρ s σ H tg S r s' hF Q hQ
  refine WE.of (pe_callTy call_tuple_of hg hm0 (by decide +kernel) (pa_cons (pe_var hN hv hd hcd) pa_nil he) (by decide) (by decide) he hpl) ?_
  rcases M.bind_some hF with ⟨x, h1, rfl⟩ | ⟨ds, s1, h1, h2⟩
  · rcases M.bind_some h1 with ⟨x, h3, _⟩ | ⟨d, s2, h3, h4⟩
    · obtain ⟨_, _, q, _⟩ := M.of_some h3; cases q
    · cases h4
  rcases M.bind_some h1 with ⟨x, h3, q⟩ | ⟨d, s2, h3, h4⟩
  · cases q
  obtain ⟨d', hd', q, rfl⟩ := M.of_some h3
  cases q; cases h4
  obtain ⟨c, hc, rfl, rfl⟩ := M.of_some h2
  obtain ⟨v, h5, h6⟩ := S.slotO hm (join_some hd')
  refine ⟨v, h5, ?_⟩
  cases d with
  | lst xs =>
    cases hc
    obtain ⟨A, vs, rfl, hA, hH, rr⟩ := h6
    refine ⟨A, vs, rfl, .inl ⟨SqL.of hH, fun l hl => ?_⟩⟩
    obtain ⟨x3, st3⟩ := lay_any (o := .tup vs) S.stm hl
    refine hQ (.ref l) _ (S.same.trans x3) st3 ?_
    have r0 : Rep T (upd H l (.tup vs)) (nwS H0 (upd H l (.tup vs))) (.ref l) (.tup xs) := by
      have kp : Keep (fun b => kidS tg (exS tg i) .e b ∧ b ≠ A) H (upd H l (.tup vs)) := Keep.ofExt x3 S.stm (fun z => exS_not S.tgs.1 z.1) (fun z => exS_not S.tgs.2 z.1)
      refine .tup upd_same ((rr.keep kp).mono fun a z => ?_)
      obtain ⟨z1, z2⟩ := ex_new S z.1
      exact ⟨z1, x3.some S.stm st3 z2⟩
    exact r0
  | tup xs =>
    cases hc
    cases h6 with
    | tup e rr => exact ⟨_, _, rfl, .inr ⟨SqT.of e, hQ _ H S.same S.stm (Rep.mono (S := exS tg i) (.tup e rr) fun a z => ex_new S z)⟩⟩
  | _ => cases hc
theorem ds_retR (he : DR T X E mr Γ e Fe) : DS T X E mr Γb Γ (.Return (some e) pos) (sRet Fe) Γ2 := by
  refine ⟨?_⟩
  intro H0 S0 ρ s σ H tg S r s' hF D hD
  refine WS.of (ps_ret WE.pe) ?_
  rcases M.bind_some hF with ⟨x, h1, rfl⟩ | ⟨d, s1, h1, h2⟩
  · exact he _ _ _ _ _ _ _ S _ _ h1 _ hD
  · cases h2
    exact he _ _ _ _ _ _ _ S _ _ h1 _ hD
theorem sp_of {r : Except Exn D} {Q : VK} {Ff : List D → M D} (S : Sta T H0 S0 Γ ρ s σ H tg) (S1 : Sta T H0 S0 Γ1 ρ s1 σ H1 tg1) (g1 : Go T H H1 tg tg1) (hm : m.flat = true) (han : (∃ b, mr = .sh b) → m ≠ .any) (r1 : RepL T H1 (setW T tg1 (frS tg1 H H1) H1 m) vs ds)
    (hk : Ff ds s1 = some (r, s')) (hQ : Cnt T E H0 S0 Γ1 ρ σ (callM m mr) H tg s' Q r) : spD T mr Ff vs H1 Q E := by
  refine ⟨_, ds, s1, r, s', set_any S S1, r1, S1.stm, hk, ?_⟩
  cases r with
  | error x => exact fun c dx H' t => hQ c dx H' ⟨t.1, g1.x.trans t.2.1, t.2.2⟩
  | ok d =>
    intro v H2 x2 st2 rr
    obtain ⟨tg', g', S', r'⟩ := rr.res S S1 g1 x2 st2 hm han
    exact hQ v H2 tg' g' S' r'
/-- the keywords' values -/
structure DK (T : Cfg) (X : Cx) (E : XK) (Γ : List Md) (es : List Keyword) (F : AF) (m : Md) (Γ' : List Md) : Prop where
  mk ::
  run : ∀ H0 S0 ρ s σ H tg, Sta T H0 S0 Γ ρ s σ H tg → ∀ r s', F ρ s = some (r, s') → ∀ Q : List V → Hp → Prop, CntL T E H0 S0 Γ' ρ σ m H tg s' Q r → ∀ pos pins s1, Inv X pins σ H s1 →
    wpAny (model X.prog X.w) X.A (evalAll ((backToKw pos (keywordEach es X.env)).map (·.2))) (AP X pins σ Q) X.xe s1
instance {T : Cfg} {X : Cx} {E : XK} {Γ : List Md} {es : List Keyword} {F : AF} {m : Md} {Γ' : List Md} : CoeFun (DK T X E Γ es F m Γ') (fun _ => ∀ H0 S0 ρ s σ H tg, Sta T H0 S0 Γ ρ s σ H tg → ∀ r s', F ρ s = some (r, s') → ∀ Q : List V → Hp → Prop, CntL T E H0 S0 Γ' ρ σ m H tg s' Q r → ∀ pos pins s1, Inv X pins σ H s1 →
    wpAny (model X.prog X.w) X.A (evalAll ((backToKw pos (keywordEach es X.env)).map (·.2))) (AP X pins σ Q) X.xe s1) := ⟨DK.run⟩
def WK (X : Cx) (es : List Keyword) (σ : St) (H : Hp) (Q : List V → Hp → Prop) : Prop := ∀ pos pins s1, Inv X pins σ H s1 → wpAny (model X.prog X.w) X.A (evalAll ((backToKw pos (keywordEach es X.env)).map (·.2))) (AP X pins σ Q) X.xe s1
theorem WK.pk {es : List Keyword} : PK X es (WK X es) := ⟨fun pos pins s σ H Q I h => h pos pins s I⟩
theorem dk_nil : DK T X E Γ [] aNil m Γ := by
  refine ⟨?_⟩
  intro H0 S0 ρ s σ H tg S r s' hF Q hQ pos pins s1 I
  cases hF
  exact (pk_nil (X := X)).run pos pins s1 σ H Q I (hQ [] H tg (Go.refl S) S .nil)
theorem dk_cons {Fs : AF} {kws : List Keyword} {nm : Option Str} {kpos : Pos} (ha : DE T X E Γ e Fa m Γ1) (hs : DK T X E Γ1 kws Fs m Γ2) (hm : m.flat = true := by rfl) : DK T X E Γ (⟨nm, e, kpos⟩ :: kws) (aCons Fa Fs) m Γ2 := by
  refine ⟨?_⟩
  intro H0 S0 ρ s σ H tg S r s' hF Q hQ pos pins sh I
  refine (pk_cons WE.pe (WK.pk (es := kws))).run pos pins sh σ H Q I ?_
  show WE X e σ H _
  refine ha.seq S hF hQ.ek fun d s1 v H1 tg1 hk g1 S1 r1 e1 => ?_
  show WK X kws σ H1 _
  intro pos pins sh I
  rcases M.bind_some hk with ⟨x, h1, rfl⟩ | ⟨ds, s2, h1, h2⟩
  · exact hs _ _ _ _ _ _ _ S1 _ _ h1 _ (e1 x rfl) pos pins sh I
  cases h2
  refine hs _ _ _ _ _ _ _ S1 _ _ h1 _ (fun vs H2 tg2 g2 S2 r2 => ?_) pos pins sh I
  have r1' := (RepW.flat hm).mp (r1.later S S1 S2 g2)
  refine hQ (v :: vs) H2 tg2 (g1.trans g2) S2 (.cons r1' (r2.mono fun a h => ?_))
  cases m with
  | any => exact h
  | atom => exact h
  | sh b => exact h
  | xc => exact ⟨Classical.byContradiction fun n => g1.u _ n h.1, h.2⟩
  | ow k => cases hm
section raw
variable {k n : Nat} {f : Addr} {fd : FuncData} {ps ks : List Str} {sp : Sp} {kws : List Keyword} {tk : TA} {g : List Value → List Value → List Value} {gV : List V → List V → List V} {CX : CXT}
/-- f(k = v, ..) -/
theorem pe_callK0 (F : FnOk X.prog X.w X.K X.mg X.base CX k f fd ps sp) (hr : Room k X.A) (hg : Gl X x) (hm : X.mg x = some (.ref f)) (hk : PySem.W.keepIn X.K (.ref f) = true) (hb : KBinds X.K fd ps ks g gV) (hx : Passes CX X E)
    (hkw : PK X kws tk) (hall : (backToKw pos (keywordEach kws X.env)).all (·.1.isSome) = true := by rfl) (hks : (backToKw pos (keywordEach kws X.env)).filterMap (·.1) = ks := by rfl)
    (hdb : (x == ("__debug__" : Str)) = false := by decide) (hpl : ((backTo pos (starEach [] X.env)).any (·.1) || (backToKw pos (keywordEach kws X.env)).any (·.1.isNone)) = false := by rfl) :
    PE X (.Call (.Name x p) [] kws pos) (fun σ H Q => tk σ H fun zs H2 => sp (gV [] zs) H2 Q E) := by
  refine ⟨fun pins s σ H Q I h => ?_⟩
  refine wpAny_Call_Name_kw (ld_glob I hg hm ?_ hdb)
  refine PySem.W.callWith_KW0 (h₀ := X.base) I.ok.mod.kin hk hall ?_ hpl
  refine thn (hkw.run pos pins s σ H _ I h) fun ws s2 ⟨zs, H2, I2, rz, q2⟩ => ⟨I2.kIn, ?_⟩
  rw [hks]
  exact run_fnk F hr hb hx I2 .nil rz q2
end raw
def fFnK (f : List D → M D) (gD : List D → List D) (Fs : AF) : EF := fun ρ => do let xs ← Fs ρ; f (gD xs)
def metM (c : Nat) (mn : Str) : D → M Unit
  | .obj c' fs => if c' = c ∧ (fs.all fun p => decide (p.1 ≠ mn)) = true then pure () else M.fail
  | _ => M.fail
theorem met_step {β : Type} {c : Nat} {mn : Str} {k : Unit → M β} {r : Except Exn β} (h : (metM c mn d >>= k) s = some (r, s')) : (∃ fs, d = .obj c fs ∧ ∀ p ∈ fs, p.1 ≠ mn) ∧ k () s = some (r, s') := by
  cases d <;> try (cases h; done)
  rename_i c' fs
  by_cases z : c' = c ∧ (fs.all fun p => decide (p.1 ≠ mn)) = true
  · have e : metM c mn (.obj c' fs) = pure () := if_pos z
    rw [e] at h
    obtain ⟨rfl, z2⟩ := z
    exact ⟨⟨fs, rfl, fun p hp => of_decide_eq_true (List.all_eq_true.mp z2 p hp)⟩, h⟩
  · have e : metM c mn (.obj c' fs) = M.fail := if_neg z
    rw [e] at h; cases h
theorem lookup_none {fs : List (Str × V)} {f : Str} (h : ∀ x ∈ fs.map (·.1), x ≠ f) : fs.lookup f = none := by
  induction fs with
  | nil => rfl
  | cons p fs ih =>
    obtain ⟨a, b⟩ := p
    rw [List.lookup_cons]
    have : (f == a) = false := by rw [beq_eq_false_iff_ne]; exact fun z => h a (by simp) z.symm
    rw [this]
    exact ih fun x hx => h x (by simp only [List.map_cons]; exact List.mem_cons_of_mem _ hx)
theorem rep_obj {S : Addr → Prop} {c : Nat} {ds : List (Str × D)} (r : Rep T H S v (.obj c ds)) : ∃ a dx fs, v = .ref a ∧ H a = some (.ins (T.cls c) dx fs) ∧ ds.map (·.1) = fs.map (·.1) ∧ RepL T H S (fs.map (·.2)) (ds.map (·.2)) := by
  cases r with | obj e k rr => exact ⟨_, _, _, rfl, e, k, rr⟩
def fMeth (c : Nat) (mn : Str) (Ff : List D → M D) (Fo : EF) (Fs : AF) : EF := fun ρ => do let d ← Fo ρ; metM c mn d; let xs ← Fs ρ; Ff (d :: xs)
theorem de_meth {c : Nat} {mn : Str} {apos : Pos} {k : Nat} {f : Addr} {fd : FuncData} {ps : List Str} {Ff : List D → M D} {Fs : AF} {pl : Sem Bool} (G : FnD T X.prog X.w X.K X.mg X.base k f fd ps mr Ff) (hr : Room k X.A) (hC : Cls X.K (T.cls c)) (hM : Meth X.K (T.cls c) mn f) (hb : Binds X.K fd ps []) (hx : Passes (L2.CX X.prog X.w) X E)
    (ho : DE T X E Γ o Fo m Γ1) (ha : DA T X E Γ1 (e :: es) Fs m Γ2) (hm : m.flat = true := by rfl) (han : (∃ b, mr = .sh b) → m ≠ .any := by first | (intro z; obtain ⟨_, q⟩ := z; cases q; done) | (intro z q; cases q; done))
    (hst : starEach (e :: es) X.env = (false, eval e X.env) :: starEach es X.env := by rfl) (hpl : (backTo pos (starEach es X.env)).any (·.1) = false := by rfl)
    (ht : eval (.Call (.Attribute o mn apos) (e :: es) [] pos) X.env = (do
      let ov ← eval o X.env
      standAt apos.atName
      let (f, first) ← holding [ov] (getMethod ov mn pl)
      callWith pos f first (backTo pos (starEach (e :: es) X.env)) (backToKw pos (keywordEach [] X.env))) := by rfl) :
    DE T X E Γ (.Call (.Attribute o mn apos) (e :: es) [] pos) (fMeth c mn Ff Fo Fs) (callM m mr) Γ2 := by
  refine ⟨?_⟩
  intro H0 S0 ρ s σ H tg S r s' hF Q hQ
  refine WE.of (pe_meth WE.pe hC hM G hr hb .nil hx WA.pa hst hpl ht) ?_
  show WE X o σ H _
  refine ho.seq S hF hQ.ek fun d s1 v H1 tg1 hk g1 S1 r1 e1 => ?_
  obtain ⟨⟨fs, rfl, hfs⟩, hk⟩ := met_step hk
  obtain ⟨a, dx, xs, rfl, he, hkeys, _⟩ := rep_obj ((RepW.flat hm).mp r1)
  refine ⟨a, dx, xs, rfl, he, lookup_none (by rw [← hkeys]; intro x hx; obtain ⟨p, hp, rfl⟩ := List.mem_map.mp hx; exact hfs p hp), ?_⟩
  show WA X (e :: es) σ H1 _
  refine ha.seq S1 hk e1 fun ds s2 vs H2 tg2 hk2 g2 S2 r2 e2 => ?_
  have r1' := (RepW.flat hm).mp (r1.later S S1 S2 g2)
  rw [List.append_nil]
  refine sp_of S S2 (g1.trans g2) hm han (.cons r1' (r2.mono fun a h => ?_)) hk2 hQ
  cases m with
  | any => exact h
  | atom => exact h
  | sh b => exact h
  | xc => exact ⟨Classical.byContradiction fun n => g1.u _ n h.1, h.2⟩
  | ow k => cases hm
def fMeth0 (c : Nat) (mn : Str) (Ff : List D → M D) (Fo : EF) : EF := fun ρ => do let d ← Fo ρ; metM c mn d; Ff [d]
/-- what __init__'s promise gives: the made thing by Fc -/
def MadeBy (T : Cfg) (C : Addr) (mr : Md) (Fc : List D → M D) (sp : Sp) : Prop := ∀ vs H Q E, spD T mr Fc vs H Q E → ∀ x dx, H x = none → H dx = none → dx ≠ x → sp (.ref x :: vs) (upd (upd H dx (.own x)) x (.ins C dx [])) (fun v H2 => v = .non ∧ Q (.ref x) H2) E
theorem de_make {C fI : Addr} {k : Nat} {fd : FuncData} {ps : List Str} {sp : Sp} {Fc : List D → M D} {Fs : AF} (Mc : Mk X.K C fI) (G : FnOk X.prog X.w X.K X.mg X.base (L2.CX X.prog X.w) k fI fd ps sp) (B : MadeBy T C mr Fc sp) (hr : Room (k + 1) X.A) (hmg : X.mg x = some (.ref C)) (hb : Binds X.K fd ps []) (hx : Passes (L2.CX X.prog X.w) X E)
    (ha : DA T X E Γ (e :: es) Fs m Γ1) (hg : Gl X x := by rfl) (hm : m.flat = true := by rfl) (han : (∃ b, mr = .sh b) → m ≠ .any := by first | (intro z; obtain ⟨_, q⟩ := z; cases q; done) | (intro z q; cases q; done))
    (hdb : (x == ("__debug__" : Str)) = false := by decide) (he : starEach (e :: es) X.env = (false, eval e X.env) :: starEach es X.env := by rfl) (hpl : (backTo pos (starEach es X.env)).any (·.1) = false := by rfl) :
    DE T X E Γ (.Call (.Name x p) (e :: es) [] pos) (fFn Fc Fs) (callM m mr) Γ1 := by
  refine ⟨?_⟩
  intro H0 S0 ρ s σ H tg S r s' hF Q hQ
  refine WE.of (pe_make Mc G hr hg hmg hb .nil hx WA.pa hdb he hpl) ?_
  show WA X (e :: es) σ H _
  refine ha.seq S hF hQ.ek fun ds s1 vs H1 tg1 hk g1 S1 r1 e1 => ?_
  intro y dx h1 h2 h3
  rw [List.append_nil]
  exact B vs H1 Q E (sp_of S S1 g1 hm han r1 hk hQ) y dx h1 h2 h3
end
end DL
end
section
set_option autoImplicit false
namespace PySem
open Sem (wp)
open AutoSeq1 (wpAny_loadPart')
set_option maxHeartbeats 1000000 in
theorem meets_enumerate_newT (l : Addr) (items : Array Value) (o : Obj) (hT : ∀ h : Heap, h.get? l = some o → h.IsTuple l items) :
    Meets (Builtin.«enumerate.__new__» ⟨[.type "enumerate", .ref l], []⟩) (fun _ R s => s.heap.get? l = some o ∧
      R (.ok (.ret (.ref (s.heap.push { cls := .type "tuple_iterator", data := .fields #[.ref l, .int 0 0] }).objs.size)))
        { s with heap := (s.heap.push { cls := .type "tuple_iterator", data := .fields #[.ref l, .int 0 0] }).push { cls := .type "enumerate", data := .fields #[.none, .bool false, .ref s.heap.objs.size, rawInt 0, .none, .none] } }) :=
  .of_wp fun prog w A R s h => by
    obtain ⟨hp, g, d, tk, os⟩ := s; obtain ⟨hl, h⟩ := h
    have hsub := sub_enumerate
    have hL : Heap.IsTuple (Shared.heap ⟨hp, g, d, tk, os⟩) l items := hT _ hl
    have q1 : ∀ {A' : Around} {E : Value → Shared → Prop} {Q : Value → Shared → Prop}, Q (.ref hp.objs.size) ⟨hp.push { cls := .type "tuple_iterator", data := .fields #[.ref l, .int 0 0] }, g, d, tk, os⟩ → wpAny (model prog w) A' (pyIter (.ref l)) Q E ⟨hp, g, d, tk, os⟩ :=
      fun q => wpAny_pyIter_tuple hL q
    wp_walk using q1
    refine wpAny_stack_any fun st => wpAny_pure ?_
    split
    · rename_i c _ _ _ _ _
      cases (c == Value.type "enumerate")
      · wp_walk using q1
        exact ⟨_, rfl, h⟩
      · wp_walk using q1
        exact ⟨_, rfl, h⟩
    · wp_walk using q1
      exact ⟨_, rfl, h⟩
section
variable {prog : Program} {w : World} {A : Around} {E : Value → Shared → Prop} {s : Shared}
theorem call_enumerate_tup {l : Addr} {items : Array Value} {Q : Value → Shared → Prop} (hL : s.heap.IsTuple l items)
    (h : ∀ h', IsEnum h' (s.heap.objs.size + 1) s.heap.objs.size 0 .none → h'.IsTupleIter s.heap.objs.size l 0 → h'.objs.size = s.heap.objs.size + 2 →
      (∀ b o, s.heap.get? b = some o → h'.get? b = some o) → Q (.ref (s.heap.objs.size + 1)) { s with heap := h' }) :
    wpAny (model prog w) A (call (.type "enumerate") [.ref l]) Q E s := by
  obtain ⟨o, hl, hc, n, hd⟩ := hL
  refine callType_new F.called_enumerate (by decide) (F.typeCall_enumerate_1 _) (F.newCall_enumerate_1 _) (fun obj => F.args_object_init_2 obj _) F.entry_enumerate_new
    (meets_enumerate_newT l items o fun h e => ⟨o, e, hc, n, hd⟩) ⟨hl, ?_⟩
  have hz : (s.heap.push { cls := .type "tuple_iterator", data := .fields #[.ref l, .int 0 0] }).objs.size = s.heap.objs.size + 1 := Heap.size_push ..
  show _ ∧ _
  rw [hz]
  have he : IsEnum ((s.heap.push { cls := .type "tuple_iterator", data := .fields #[.ref l, .int 0 0] }).push
      { cls := .type "enumerate", data := .fields #[.none, .bool false, .ref s.heap.objs.size, rawInt 0, .none, .none] }) (s.heap.objs.size + 1) s.heap.objs.size 0 .none := by
    have := Heap.get?_push_size (s.heap.push { cls := .type "tuple_iterator", data := .fields #[.ref l, .int 0 0] })
      (o := { cls := .type "enumerate", data := .fields #[.none, .bool false, .ref s.heap.objs.size, rawInt 0, .none, .none] }) rfl
    rw [hz] at this; exact this
  refine ⟨⟨_, he, rfl⟩, h _ he ⟨_, Heap.get?_push_of_some _ (Heap.get?_push_size _ rfl), rfl, rfl⟩ (by rw [Heap.size_push, hz]) fun b o x => Heap.get?_push_of_some _ (Heap.get?_push_of_some _ x)⟩
end
end PySem
namespace L2
open PySem PySem.Spec PyProof.Rows
/-- the tuple at a, each item in a new pair -/
def IteT (K : PySem.W.Frag) (a : Addr) : It :=
  ⟨fun i H => ∃ (xs : List V) (x : V), SqT K H a xs ∧ xs[i]? = some x, fun i H v H' => ∃ T x, v = .ref T ∧ H T = none ∧ H' = upd H T (.tup [.int (i : Nat), x]) ∧ ∀ xs, SqT K H a xs → xs[i]? = some x, fun i H => ∃ xs : List V, SqT K H a xs ∧ xs.length = i⟩
theorem turn_enumT {P : Program} {w : World} {K : PySem.W.Frag} {elts : List Expr} {kk : Nat} {tpos : Pos} (a e it : Addr) (hai : a ≠ it) :
    Turn P w K (.Tuple elts kk tpos) (IteT K a) [e, it] e (fun i h => (∃ old, IsEnum h e it ((i : Nat) : Int) old) ∧ h.IsTupleIter it a i ∧ e ≠ it) where
  mem := by simp
  obj := fun i h st b hb => by
    obtain ⟨⟨old, he⟩, ⟨o, ho, hc, hd⟩, _⟩ := st
    have e' : b = e ∨ b = it := by simpa using hb
    rcases e' with z | z
    · rw [z]; exact ⟨_, he, fun v q => nomatch q⟩
    · rw [z]; exact ⟨o, ho, fun v q => by rw [hd] at q; cases q⟩
  keep := fun i h h' st k => let ⟨⟨old, he⟩, hi, hne⟩ := st; ⟨⟨old, k e (by simp) _ he⟩, hi.at fun o q => k it (by simp) o q, hne⟩
  item := by
    intro X hP hw hK hc i pins s σ H E I hf st hg
    subst hP hw hK
    obtain ⟨⟨old, he⟩, hit, hne⟩ := st
    obtain ⟨xs, x, hq, hx⟩ := hg
    obtain ⟨its, rv, p, hz⟩ := I.tuple hq
    obtain ⟨u, hu, ru⟩ := rv.get hx
    have hel : e < s.heap.objs.size := Heap.lt_size he
    have hil : it < s.heap.objs.size := by obtain ⟨_, q, _⟩ := hit; exact Heap.lt_size q
    have hilt : i < its.toArray.size := by have := (List.getElem?_eq_some_iff.mp hu).1; simpa using this
    have hei : e ∉ ([it, a] : List Addr) := by
      simp only [List.mem_cons, List.not_mem_nil, or_false, not_or]
      refine ⟨hne, fun z => ?_⟩
      obtain ⟨o, q, c, _⟩ := p
      rw [z.symm, he] at q
      have := Option.some.inj q
      subst this
      exact absurd c (by simp)
    refine wpAny_pyNext_enum_itemD (Draws.tuple (A := X.A.in1) (I.ok.hd hc) it a hai its.toArray) he ⟨hit, p⟩ hilt hne hei fun x' h' tk hx' ho st' hT hsz hk => ?_
    have exx : x' = u := by simp at hx'; rw [hu] at hx'; exact (Option.some.inj hx').symm
    subst exx
    refine ⟨_, rfl, wpAny_letOwnedTupleGo_enum (s := { s with heap := h', toks := tk + 1 }) ho fun h'' he' sb => ?_⟩
    have hT2 : h''.get? s.heap.objs.size = some { cls := .type "tuple", data := .seq #[.int i tk, x'] } := (sb.2 _ (Nat.ne_of_gt hel)).trans hT
    have new : ObjOk X.prog X.w (upd H s.heap.objs.size (.tup [.int (i : Nat), x])) h'' s.heap.objs.size (.tup [.int (i : Nat), x]) :=
      ⟨by show 2 ≤ sizeLine; decide, [.int i tk, x'], .cons ⟨_, rfl⟩ (.cons ru .nil), ⟨_, hT2, rfl, _, rfl⟩⟩
    have I1 : Inv X pins σ (upd H s.heap.objs.size (.tup [.int (i : Nat), x])) { s with heap := h'', toks := tk + 1 } :=
      I.turnedNew (ch := [e, it]) (fun b ob hb q => (sb.2 b (fun z => hb (by simp [z]))).trans (hk b ob (fun z => hb (by simp [z])) (fun z => hb (by simp [z])) q)) hf (Nat.le_refl _) new
    refine ⟨.ref s.heap.objs.size, _, I1, rfl, ⟨_, x, rfl, I.hok.fresh (Nat.le_refl _), rfl, fun ys hy => ?_⟩, ⟨⟨x', ?_⟩, st'.1.at fun o q => (sb.2 it (Ne.symm hne)).trans q, hne⟩, fun b hb => ?_⟩
    · have : xs = ys := I.tuple_inj hq hy
      rw [← this]; exact hx
    · have e1 : ((i + 1 : Nat) : Int) = (i : Int) + 1 := by omega
      rw [e1]; exact he'
    · have hb' : b < s.heap.objs.size := by
        have e' : b = e ∨ b = it := by simpa using hb
        rcases e' with z | z
        · rw [z]; exact hel
        · rw [z]; exact hil
      rw [upd_ne (Nat.ne_of_lt hb')]
      exact (hf b hb).1
  done := by
    intro X hP hw hK hc i pins s σ H E I hf st hg
    subst hP hw hK
    obtain ⟨⟨old, he⟩, hit, hne⟩ := st
    obtain ⟨xs, hq, hx⟩ := hg
    obtain ⟨its, rv, p, hz⟩ := I.tuple hq
    obtain ⟨f0, f1, f2, f3, f4, f5⟩ := hf it (by simp)
    have hl := rv.length
    have hsz : its.toArray.size = i := by rw [List.size_toArray]; omega
    refine wpAny_pyNext_enum_endD (Draws.tuple (A := X.A.in1) (I.ok.hd hc) it a hai its.toArray) he ⟨hsz ▸ hit, p⟩ fun h' eb => ⟨rfl, I.turned (t' := s.toks) (fun b o hb q => eb b o hb q) f0 f1 f3 f4 f5⟩
  self := fun A i s Q E st h => let ⟨⟨_, he⟩, _⟩ := st; wpAny_pyIter_enum he h
def iEnumT (K : PySem.W.Frag) (ta : TA) : TI := fun σ H R => ta σ H fun vs H1 => ∃ a xs, vs = [.ref a] ∧ ((SqL K H1 a xs ∧ R (Ite K a) H1) ∨ (SqT K H1 a xs ∧ R (IteT K a) H1))
theorem pi_enumT {X : Cx} {e : Expr} {ta : TA} {p pos tpos : Pos} {elts : List Expr} {kk : Nat} (hg : Gl X "enumerate") (hm : X.mg "enumerate" = none) (ha : PA X [e] ta) (hs : starEach [e] X.env = [(false, eval e X.env)] := by rfl) :
    PI X (.Tuple elts kk tpos) (.Call (.Name "enumerate" p) [e] [] pos) (iEnumT X.K ta) := by
  refine ⟨fun pins s σ H R I h => ?_⟩
  refine Call_ (ld_blt I hg hm boot_enumerate (PyProof.Rows.callWith_type1 (thn (ha.run pos pins s σ H _ I h) fun us s1 ⟨vs, H1, I1, r1, q1⟩ => ?_) hs rfl))
  obtain ⟨a, xs, ex, q1⟩ := q1
  subst ex
  cases r1 with
  | cons r rr =>
    cases rr
    cases r
    have fresh2 : ∀ b, b ∈ [s1.heap.objs.size + 1, s1.heap.objs.size] → FpOk X pins H1 b := fun b hb => by
      have e' : b = s1.heap.objs.size + 1 ∨ b = s1.heap.objs.size := by simpa using hb
      have hle : s1.heap.objs.size ≤ b := by
        rcases e' with z | z
        · rw [z]; exact Nat.le_add_right _ _
        · rw [z]; exact Nat.le_refl _
      exact I1.fpOk hle (I1.hok.fresh hle)
    rcases q1 with ⟨hq, q⟩ | ⟨hq, q⟩
    · obtain ⟨its, rv, p', hz⟩ := I1.list hq
      refine call_enumerate_list p'.isList fun h' he hit hsz hk => wpAny_pyIter_enum he ?_
      have I2 : Inv X pins σ H1 { s1 with heap := h' } := I1.kept (t' := s1.toks) hk
      exact ⟨s1.heap.objs.size + 1, [s1.heap.objs.size + 1, s1.heap.objs.size], _, _, H1, rfl, I2, turn_enum a (s1.heap.objs.size + 1) s1.heap.objs.size, ⟨⟨.none, he⟩, hit, Nat.succ_ne_self _⟩, fresh2, q⟩
    · obtain ⟨its, rv, p', hz⟩ := I1.tuple hq
      have hlt : a < s1.heap.objs.size := by obtain ⟨o, e, _⟩ := p'; exact Heap.lt_size e
      refine call_enumerate_tup (show s1.heap.IsTuple a its.toArray from p') fun h' he hit hsz hk => wpAny_pyIter_enum he ?_
      have I2 : Inv X pins σ H1 { s1 with heap := h' } := I1.kept (t' := s1.toks) hk
      exact ⟨s1.heap.objs.size + 1, [s1.heap.objs.size + 1, s1.heap.objs.size], _, _, H1, rfl, I2, turn_enumT a (s1.heap.objs.size + 1) s1.heap.objs.size (Nat.ne_of_lt hlt), ⟨⟨.none, he⟩, hit, Nat.succ_ne_self _⟩, fresh2, q⟩
theorem walk_enumT {K : PySem.W.Frag} {a : Addr} {xs : List V} : Walk (IteT K a) xs.length (fun H => SqT K H a xs) (YPair (fun i => some (.int (i : Nat))) (fun i => xs[i]?)) := by
  refine ⟨fun i _ hi q => ⟨xs, xs[i], q, by simp [hi]⟩, fun _ q => ⟨xs, q, rfl⟩, fun i H v H' _ q y => ?_⟩
  obtain ⟨T, x, h1, h2, h3, h4⟩ := y
  exact ⟨T, .int (i : Nat), x, h1, h2, h3, rfl, h4 xs q⟩
theorem walk_zipT {K : PySem.W.Frag} {a b : Addr} {xs ys : List V} {n : Nat} (hn : n = min xs.length ys.length) : Walk (RZ.ItzT K a b) n (fun H => SqT K H a xs ∧ SqT K H b ys) (YPair (fun i => xs[i]?) (fun i => ys[i]?)) := by
  subst hn
  refine ⟨fun i _ hi q => ?_, fun _ q => ⟨xs, ys, q.1, q.2, by omega⟩, fun i H v H' _ q y => ?_⟩
  · have h1 : i < xs.length := by omega
    have h2 : i < ys.length := by omega
    exact ⟨xs, ys, xs[i], ys[i], q.1, q.2, by simp [h1], by simp [h2]⟩
  · obtain ⟨T, x, z, h1, h2, h3, h4, h5⟩ := y
    exact ⟨T, x, z, h1, h2, h3, h4 xs q.1, h5 ys q.2⟩
end L2
namespace DL
open PySem PySem.Spec L2
section
variable {T : Cfg} {H0 H H' H1 H2 H3 : Hp} {S0 SS : Addr → Prop} {Γ Γ' Γ1 Γ2 : List Md} {ρ ρ' : Env} {s s' s1 s2 : Strm} {σ : St} {tg tg' tg1 tg2 : Tags} {v w : V} {d c : D} {vs ws : List V} {ds es' : List D} {m m' : Md}
variable {X : Cx} {E : XK} {e a b : Expr} {es : List Expr} {F Fa Fb : EF} {pos p : Pos} {x : Str} {tge iter : Expr}
/-- pairs of what two walks give -/
theorem walk_pairs {J : It} {n : Nat} {G : Hp → Prop} {fx fy : Nat → Option V} {items : List D} (w : Walk J n G (YPair fx fy)) (hG : G H) (hk : ∀ H1 H2, Keep SS H1 H2 → (G H1 ∧ RepL T H1 SS vs ds ∧ RepL T H1 SS ws es') → G H2) (r1 : RepL T H SS vs ds) (r2 : RepL T H SS ws es') (hn : items.length = n)
    (h : ∀ i x y, i < n → fx i = some x → fy i = some y → ∀ H', RepL T H' SS vs ds → RepL T H' SS ws es' → ∃ d e, items[i]? = some (.tup [d, e]) ∧ Rep T H' SS x d ∧ Rep T H' SS y e) (hmu : ∀ a, SS a → SS a) : IsWalk T SS H J items := by
  subst hn
  refine ⟨fun H' => G H' ∧ RepL T H' SS vs ds ∧ RepL T H' SS ws es', YPair fx fy, w.mono (fun _ g => g.1) (fun _ _ _ _ _ _ y => y), ⟨hG, r1, r2⟩, fun H1 H2 k g => ⟨hk H1 H2 k g, g.2.1.keep k, g.2.2.keep k⟩, ?_⟩
  rintro i H1 v H2 hi ⟨g, q1, q2⟩ ⟨q, x, y, rfl, hq, rfl, hx, hy⟩
  obtain ⟨d, e, h1, h2, h3⟩ := h i x y hi hx hy H1 q1 q2
  have kp : Keep SS H1 (upd H1 q (.tup [x, y])) := fun b u z _ => by rw [upd_ne (ne_of_none z hq)]; exact z
  exact ⟨.inr ⟨q, _, hq, rfl⟩, _, h1, .tup upd_same (.cons (h2.keep kp) (.one (h3.keep kp)))⟩
def zipD : D → D → Option (List D)
  | .lst xs, .lst ys => some ((xs.zip ys).map fun p => .tup [p.1, p.2])
  | .tup xs, .tup ys => some ((xs.zip ys).map fun p => .tup [p.1, p.2])
  | _, _ => none
def iZip (Fa Fb : EF) : IF := fun ρ => do let d ← Fa ρ; let e ← Fb ρ; M.of (zipD d e)
theorem di_zip {elts : List Expr} {kk : Nat} {tpos : Pos} (hm0 : X.mg "zip" = none) (ha : DE T X E Γ a Fa m Γ) (hb : DE T X E Γ b Fb m Γ) (hm : m.flat = true := by rfl) (hg : Gl X "zip" := by rfl) (hs : starEach [a, b] X.env = (false, eval a X.env) :: starEach [b] X.env := by rfl) (hs2 : starEach (b :: []) X.env = (false, eval b X.env) :: starEach [] X.env := by rfl)
    (hpl : (backTo pos (starEach [b] X.env)).any (·.1) = false := by rfl) : DI T X E Γ (.Tuple elts kk tpos) (.Call (.Name "zip" p) [a, b] [] pos) (iZip Fa Fb) m := by
  refine ⟨?_⟩
  intro H0 S0 ρ s σ H tg S r s' hF R hR
  refine WI.of (RZ.pi_zipA hg hm0 (pa_cons WE.pe (pa_cons WE.pe pa_nil hs2) hs) hs hpl) ?_
  show WE X a σ H _
  refine ha.seq S hF hR.ek fun d s1 v H1 tg1 hk1 g1 S1 r1 e1 => ?_
  show WE X b σ H1 _
  refine hb.seq S1 hk1 e1 fun e s2 w H2 tg2 hk2 g2 S2 r2 e2 => ?_
  obtain ⟨c, hc, rfl, rfl⟩ := M.of_some hk2
  have r1' := (RepW.flat hm).mp (r1.later S S1 S2 g2)
  have r2' := (RepW.flat hm).mp (r2.early g1)
  have fin : ∀ {vs ws : List V} {ds es' : List D}, RepL T H2 (setW T tg2 (frS tg2 H H2) H2 m) vs ds → RepL T H2 (setW T tg2 (frS tg2 H H2) H2 m) ws es' → ((ds.zip es').map fun p => D.tup [p.1, p.2]).length = min vs.length ws.length ∧
      ∀ i x y, i < min vs.length ws.length → vs[i]? = some x → ws[i]? = some y → ∀ H', RepL T H' (setW T tg2 (frS tg2 H H2) H2 m) vs ds → RepL T H' (setW T tg2 (frS tg2 H H2) H2 m) ws es' → ∃ d e, ((ds.zip es').map fun p => D.tup [p.1, p.2])[i]? = some (.tup [d, e]) ∧ Rep T H' (setW T tg2 (frS tg2 H H2) H2 m) x d ∧ Rep T H' (setW T tg2 (frS tg2 H H2) H2 m) y e := fun {vs ws ds es'} q1 q2 => by
    refine ⟨by rw [List.length_map, List.length_zip, q1.len, q2.len], fun i x y hi hx hy H' q1 q2 => ?_⟩
    obtain ⟨d, h1, h2⟩ := q1.getV i x hx
    obtain ⟨e, h3, h4⟩ := q2.getV i y hy
    exact ⟨d, e, by rw [List.getElem?_map, (List.getElem?_zip_eq_some (z := (d, e))).mpr ⟨h1, h3⟩]; rfl, h2, h4⟩
  cases d <;> cases e <;> simp only [zipD] at hc <;> first | (cases hc; done) | skip
  · cases hc
    cases r1' with
    | @lst A xs _ hA eA rA =>
      cases r2' with
      | @lst B ys _ hB eB rB =>
        obtain ⟨f1, f2⟩ := fin rA rB
        exact ⟨A, B, xs, ys, rfl, .inl ⟨SqL.of eA, SqL.of eB, hR _ H2 tg2 (g1.trans g2) S2 (walk_pairs ((walk_zip rfl).mono (G' := fun H => H A = some (.lst xs) ∧ H B = some (.lst ys)) (fun _ g => ⟨SqL.of g.1, SqL.of g.2⟩) fun _ _ _ _ _ _ y => y) ⟨eA, eB⟩ (fun H1 H2 k g => ⟨k _ _ g.1.1 (.inl hA), k _ _ g.1.2 (.inl hB)⟩) rA rB f1 f2 fun _ h => h)⟩⟩
  · cases hc
    cases r1' with
    | @tup A xs _ eA rA =>
      cases r2' with
      | @tup B ys _ eB rB =>
        obtain ⟨f1, f2⟩ := fin rA rB
        exact ⟨A, B, xs, ys, rfl, .inr ⟨SqT.of eA, SqT.of eB, hR _ H2 tg2 (g1.trans g2) S2 (walk_pairs ((walk_zipT rfl).mono (G' := fun H => H A = some (.tup xs) ∧ H B = some (.tup ys)) (fun _ g => ⟨SqT.of g.1, SqT.of g.2⟩) fun _ _ _ _ _ _ y => y) ⟨eA, eB⟩ (fun H1 H2 k g => ⟨k _ _ g.1.1 (.inr trivial), k _ _ g.1.2 (.inr trivial)⟩) rA rB f1 f2 fun _ h => h)⟩⟩
def enumL : List D → Nat → List D
  | [], _ => []
  | d :: ds, i => .tup [.int i, d] :: enumL ds (i + 1)
def enumD : D → Option (List D)
  | .lst xs => some (enumL xs 0)
  | .tup xs => some (enumL xs 0)
  | _ => none
theorem enumL_len : ∀ (xs : List D) (i : Nat), (enumL xs i).length = xs.length
  | [], _ => rfl
  | d :: ds, i => by rw [enumL, List.length_cons, List.length_cons, enumL_len]
theorem enumL_get : ∀ (xs : List D) (j i : Nat) (d : D), xs[i]? = some d → (enumL xs j)[i]? = some (.tup [.int ((j + i : Nat) : Int), d])
  | d :: ds, j, 0, e, h => by simp at h; subst h; simp [enumL]
  | d :: ds, j, i + 1, e, h => by
    rw [enumL, List.getElem?_cons_succ, enumL_get ds (j + 1) i e (by simpa using h)]
    have : j + 1 + i = j + (i + 1) := by omega
    rw [this]
def iEnumD (Fa : EF) : IF := fun ρ => do let d ← Fa ρ; M.of (enumD d)
theorem walk_one {J : It} {n : Nat} {G : Hp → Prop} {fx fy : Nat → Option V} {items : List D} (w : Walk J n G (YPair fx fy)) (hG : G H) (hk : ∀ H1 H2, Keep SS H1 H2 → G H1 → G H2) (r1 : RepL T H SS vs ds) (hn : items.length = n)
    (h : ∀ i x y, i < n → fx i = some x → fy i = some y → ∀ H', RepL T H' SS vs ds → ∃ d e, items[i]? = some (.tup [d, e]) ∧ Rep T H' SS x d ∧ Rep T H' SS y e) : IsWalk T SS H J items := by
  subst hn
  refine ⟨fun H' => G H' ∧ RepL T H' SS vs ds, YPair fx fy, w.mono (fun _ g => g.1) (fun _ _ _ _ _ _ y => y), ⟨hG, r1⟩, fun H1 H2 k g => ⟨hk H1 H2 k g.1, g.2.keep k⟩, ?_⟩
  rintro i H1 v H2 hi ⟨g, q1⟩ ⟨q, x, y, rfl, hq, rfl, hx, hy⟩
  obtain ⟨d, e, h1, h2, h3⟩ := h i x y hi hx hy H1 q1
  have kp : Keep SS H1 (upd H1 q (.tup [x, y])) := fun b u z _ => by rw [upd_ne (ne_of_none z hq)]; exact z
  exact ⟨.inr ⟨q, _, hq, rfl⟩, _, h1, .tup upd_same (.cons (h2.keep kp) (.one (h3.keep kp)))⟩
theorem di_enum {elts : List Expr} {kk : Nat} {tpos : Pos} (hm0 : X.mg "enumerate" = none) (ha : DE T X E Γ a Fa m Γ) (hm : m.flat = true := by rfl) (hg : Gl X "enumerate" := by rfl) (hs : starEach [a] X.env = [(false, eval a X.env)] := by rfl) :
    DI T X E Γ (.Tuple elts kk tpos) (.Call (.Name "enumerate" p) [a] [] pos) (iEnumD Fa) m := by
  refine ⟨?_⟩
  intro H0 S0 ρ s σ H tg S r s' hF R hR
  refine WI.of (pi_enumT hg hm0 (pa_cons WE.pe pa_nil hs) hs) ?_
  show WE X a σ H _
  refine ha.seq S hF hR.ek fun d s1 v H1 tg1 hk1 g1 S1 r1 e1 => ?_
  obtain ⟨c, hc, rfl, rfl⟩ := M.of_some hk1
  have r1' := (RepW.flat hm).mp r1
  have fin : ∀ {vs : List V} {ds : List D}, RepL T H1 (setW T tg1 (frS tg1 H H1) H1 m) vs ds → (enumL ds 0).length = vs.length ∧
      ∀ i x y, i < vs.length → some (V.int (i : Nat)) = some x → vs[i]? = some y → ∀ H', RepL T H' (setW T tg1 (frS tg1 H H1) H1 m) vs ds → ∃ d e, (enumL ds 0)[i]? = some (.tup [d, e]) ∧ Rep T H' (setW T tg1 (frS tg1 H H1) H1 m) x d ∧ Rep T H' (setW T tg1 (frS tg1 H H1) H1 m) y e := fun {vs ds} q1 => by
    refine ⟨by rw [enumL_len, q1.len], fun i x y hi hx hy H' q1 => ?_⟩
    obtain ⟨d, h1, h2⟩ := q1.getV i y hy
    cases hx
    exact ⟨.int i, d, by rw [enumL_get ds 0 i d h1, Nat.zero_add], .int _, h2⟩
  cases d <;> simp only [enumD] at hc <;> first | (cases hc; done) | skip
  · cases hc
    cases r1' with
    | @lst A xs _ hA eA rA =>
      obtain ⟨f1, f2⟩ := fin rA
      exact ⟨A, xs, rfl, .inl ⟨SqL.of eA, hR _ H1 tg1 g1 S1 (walk_one (walk_enum.mono (G' := fun H => H A = some (.lst xs)) (fun _ g => SqL.of g) fun _ _ _ _ _ _ y => y) eA (fun H1 H2 k g => k _ _ g (.inl hA)) rA f1 f2)⟩⟩
  · cases hc
    cases r1' with
    | @tup A xs _ eA rA =>
      obtain ⟨f1, f2⟩ := fin rA
      exact ⟨A, xs, rfl, .inr ⟨SqT.of eA, hR _ H1 tg1 g1 S1 (walk_one (walk_enumT.mono (G' := fun H => H A = some (.tup xs)) (fun _ g => SqT.of g) fun _ _ _ _ _ _ y => y) eA (fun H1 H2 k g => k _ _ g (.inr trivial)) rA f1 f2)⟩⟩
end
end DL
end
section
set_option autoImplicit false
namespace DL
open PySem PySem.Spec L2 PyProof.Rows
def Quiet (A : Around) : Prop := A.guards = some []
structure FnG (P : Program) (w : World) (K : PySem.W.Frag) (mg : Str → Option Value) (base : Heap) (CX : CXT) (k : Nat) (f : Addr) (fd : FuncData) (ps : List Str) (sp : Sp) : Prop where
  len : ∀ vs H Q E, sp vs H Q E → vs.length = ps.length
  run : ∀ (A : Around) (outer : List PySem.Env) (s : Shared) (H : Hp) (args : Args) (us : List Value) (vs : List V) (Q : VK) (E : XK), Room k A → Quiet A → Env0 P w K mg base A outer s H → BindsTo s fd args (ps.zip us) → Vals vs us → sp vs H Q E →
    codeAny (model P w) A (.call (.ref f) args) (CR CX outer P w H s Q E) s
section
variable {X : Cx} {CX : CXT} {k : Nat} {f C : Addr} {fd : FuncData} {ps : List Str} {sp : Sp} {E : XK} {x m : Str} {p pos apos : Pos} {e o : Expr} {es : List Expr} {ta : TE} {t : TA}
theorem FnG.of {P : Program} {w : World} {K : PySem.W.Frag} {mg : Str → Option Value} {base : Heap} (F : FnOk P w K mg base CX k f fd ps sp) : FnG P w K mg base CX k f fd ps sp :=
  ⟨F.len, fun A outer s H args us vs Q E hr _ he hb hv hs => F.run A outer s H args us vs Q E hr he hb hv hs⟩
/-- THE RULE for such a def -/
theorem fn_ofG {P : Program} {w : World} {K : PySem.W.Frag} {mg : Str → Option Value} {base : Heap} {x qual : Str} {st : Stmt} {N : List Str} (Fu : Fun K x qual st f fd) (S : FnScope N ps (defScope st)) (len : ∀ vs H Q E, sp vs H Q E → vs.length = ps.length)
    (hbody : ∀ (cdv : Value) (A : Around) (outer : List PySem.Env) (s : Shared) (H : Hp) (vs : List V) (Q : VK) (E : XK), Room k (A.deeper (envOfC qual (defScope st) s.heap.objs.size f cdv)) → Quiet A → sp vs H Q E →
      ∃ t, PSs (cxOf CX P w K mg base N qual (defScope st) f cdv A outer s H E) (defBody st) t ∧ t { nx := fun _ H' => Q .non H', rt := Q } (start N vs) H) : FnG P w K mg base CX (k + 1) f fd ps sp := by
  obtain ⟨oc, od, kV, doc, pm, an, cdv, ct, osl, rfl, lk, hcd⟩ := Fu.ex
  refine ⟨len, fun A outer s H args us vs Q E hr hq e0 hb r hsp => ?_⟩
  have KX : K.In s.heap := e0.mod.kin.keeps fun b o e => (e0.bs b o e).1
  refine codeAny_call_function hr.depth (KX _ _ lk) rfl S.co S.gen rfl (PySem.W.codeRec_of KX hcd) (hb _ _ _ _ ?_)
  refine wpAny_newFunctionEnv_cells S.kind (fun y hy => ?_) fun env he s1 z => ?_
  · rcases S.par y.1 (List.of_mem_zip (show (y.1, y.2) ∈ _ from hy)).1 with q | q
    · exact .inl q
    · exact .inr ⟨q, PySem.W.cellsFrom_some _ _ _ (.inl q)⟩
  subst he
  refine ⟨(e0.mod.nolimit.keeps fun b o e => (e0.bs b o e).1).keeps z.toInCall.keep, codeAny_func ?_⟩
  obtain ⟨t, ht, h⟩ := hbody cdv A outer s H vs Q E (hr.deeper _) hq hsp
  refine wpAny_mono (ht.run [] s1 (start N vs) H _ (inv_start S hr.hd e0 (len _ _ _ _ hsp) r z) h) (fun fl s' hs => ?_) fun e s' hs => hs
  cases fl with
  | ret u =>
    obtain ⟨v, σ', H', J, rv, q⟩ := hs
    exact ⟨v, H', J.os, J.bare, J.base, J.hok, rv, q⟩
  | next =>
    obtain ⟨σ', H', J, q⟩ := hs
    exact ⟨V.non, H', J.os, J.bare, J.base, J.hok, rfl, q⟩
  | brk => obtain ⟨_, _, _, q⟩ := hs; exact False.elim q
  | cont => obtain ⟨_, _, _, q⟩ := hs; exact False.elim q
end
/-- the head, for such a law: the heap holds the script alone -/
theorem head_run {P : Program} {w : World} {K : PySem.W.Frag} {mg mb : Str → Option Value} {CX : CXT} {k : Nat} {fa a : Addr} {fd : FuncData} {x : Str} {sp : Sp} {s₁ : Shared} {vs : List Value} (H : Hp)
    (KX : K.In s₁.heap) (hns : s₁.heap.Ns mainGlobals mg) (hb : s₁.heap.Ns builtinsNs mb) (hbb : ∀ x : Str, x ≠ "__name__" → mb x = bootBuiltins x) (hlim : s₁.heap.NoLimit) (hg : s₁.gens = #[])
    (ha : s₁.heap.get? a = some { cls := .type "list", data := .seq vs.toArray }) (hr : Room k callerA) (hok : HOk P w H s₁.heap) (hH : ∀ b, H b ≠ none → b = a ∧ K.lookup a = none ∧ ∃ o xs, H b = some (.frz o (.lst xs)))
    (F : ∀ base : Heap, K.In base → base.Ns mainGlobals mg → FnG P w K mg base CX k fa fd [x] sp) (hbind : ∀ (s : Shared) (u : Value), BindsTo s fd ⟨[u], []⟩ [(x, u)])
    (hsp : sp [.ref a] H (fun v _ => v = .bl true) fun _ _ _ => False) (hCX : ∀ H e s', CX [] H s₁ (fun _ _ _ => False) e s' → False) :
    codeAny (model P w) callerA (.call (.ref fa) ⟨[.ref a], []⟩) (fun r s' => r = .ok (.ret (.bool true)) ∧ OldK s₁.heap s'.heap ∧ s'.os = s₁.os ∧ AllBare s'.gens) s₁ := by
  have off : ∀ {b : Addr} {o : Obj}, s₁.heap.get? b = some o → (b = a → H b = none) → (hidT s₁.heap H).get? b = some o := fun {b o} e n => hidT_get e (by
    cases q : H b with
    | none => rfl
    | some u => have z := (hH b (by rw [q]; simp)).1; exact absurd (n z) (by rw [q]; simp))
  have dicts : ∀ {b : Addr} {o : Obj} {es : Array DictEntry} {ep : Nat}, s₁.heap.get? b = some o → o.data = .dict es ep → b = a → H b = none := fun {b o es ep} e d z => by
    subst z
    rw [ha] at e; cases e; cases d
  have nsK : ∀ {b : Addr} {m : Str → Option Value}, s₁.heap.Ns b m → (hidT s₁.heap H).Ns b m := fun {b m} ⟨o, es, ep, e, d, r⟩ => ⟨o, es, ep, off e (dicts e d), d, r⟩
  have hKb : K.In (hidT s₁.heap H) := fun b o e => off (KX b o e) fun z => by
    cases q : H b with
    | none => rfl
    | some u => subst z; rw [(hH b (by rw [q]; simp)).2.1] at e; cases e
  obtain ⟨mc, h1, h2⟩ := hlim
  have e0 : Env0 P w K mg (hidT s₁.heap H) callerA [] s₁ H := ⟨rfl, ⟨hKb, nsK hns, ⟨mb, nsK hb, hbb⟩, ⟨mc, nsK h1, h2⟩⟩, fun b o e => of_hidT e, Nat.le_of_eq (hidT_size _ _), trivial, fun b hb => absurd (show b ∈ ([] : List Addr) from hb) (by simp), hok, .of_eq hg⟩
  refine codeAny_mono ((F _ hKb (nsK hns)).run callerA [] s₁ H ⟨[.ref a], []⟩ [.ref a] [.ref a] _ _ hr rfl e0 (hbind s₁ (.ref a)) (.cons rfl .nil) hsp) fun r s' h => ?_
  match r, h with
  | .error e, h => exact (hCX H e s' h).elim
  | .ok (.ret u), ⟨v, H', os, bare, un, hok', r', q⟩ =>
    have q' : v = .bl true := q
    subst q'
    obtain rfl : u = Value.bool true := r'
    refine ⟨rfl, OldK.of_keep fun b o e => ?_, os, bare⟩
    cases q : H b with
    | none => exact un.keep b o e q (by intro z; exact absurd (show b ∈ ([] : List Addr) from z) (by simp)) (by simp)
    | some u =>
      obtain ⟨_, _, ob, xs, z⟩ := hH b (by rw [q]; simp)
      obtain ⟨e1, _⟩ := hok b _ z
      obtain ⟨e2, _⟩ := hok' b _ (un.frzs b ob _ z)
      rw [e] at e1; cases e1
      exact e2
theorem head_G {P : Program} {w : World} {K : PySem.W.Frag} {mg mb : Str → Option Value} {CX : CXT} {k : Nat} {fa a : Addr} {fd : FuncData} {x : Str} {sp : Sp} {s₁ : Shared} {vs : List Value} {ns : List Int}
    (KX : K.In s₁.heap) (hns : s₁.heap.Ns mainGlobals mg) (hb : s₁.heap.Ns builtinsNs mb) (hbb : ∀ x : Str, x ≠ "__name__" → mb x = bootBuiltins x) (hlim : s₁.heap.NoLimit) (hg : s₁.gens = #[])
    (ha : s₁.heap.get? a = some { cls := .type "list", data := .seq vs.toArray }) (hi : IntsAre vs ns) (hl : ns.length ≤ sizeLine) (hr : Room k callerA)
    (F : ∀ base : Heap, K.In base → base.Ns mainGlobals mg → FnG P w K mg base CX k fa fd [x] sp) (hbind : ∀ (s : Shared) (u : Value), BindsTo s fd ⟨[u], []⟩ [(x, u)])
    (hsp : ∀ H : Hp, Only H → SqL K H a (ns.map V.int) → sp [.ref a] H (fun v _ => v = .bl true) fun _ _ _ => False) (hCX : ∀ H e s', CX [] H s₁ (fun _ _ _ => False) e s' → False) :
    codeAny (model P w) callerA (.call (.ref fa) ⟨[.ref a], []⟩) (fun r s' => r = .ok (.ret (.bool true)) ∧ OldK s₁.heap s'.heap ∧ s'.os = s₁.os ∧ AllBare s'.gens) s₁ := by
  have rv := vals_ints hi
  have lenV := hi.length
  cases hk : K.lookup a with
  | some o =>
    have e := KX a o hk
    rw [ha] at e
    cases e
    exact head_run (fun _ => none) KX hns hb hbb hlim hg ha hr (fun b u z => by cases z) (fun b z => absurd rfl z) F hbind
      (hsp _ (fun _ => .inl rfl) (.inr ⟨_, vs.toArray, _, hk, rfl, rfl, rfl, by rw [List.size_toArray, lenV]; exact hl, by simpa using rv⟩)) hCX
  | none =>
    have at_ : ∀ b u, (if b = a then some (HO.frz { cls := .type "list", data := .seq vs.toArray } (.lst (ns.map V.int))) else none) = some u → b = a ∧ u = .frz { cls := .type "list", data := .seq vs.toArray } (.lst (ns.map V.int)) := fun b u z => by
      by_cases hb : b = a
      · rw [if_pos hb] at z; exact ⟨hb, (Option.some.inj z).symm⟩
      · rw [if_neg hb] at z; cases z
    refine head_run (fun b => if b = a then some (.frz { cls := .type "list", data := .seq vs.toArray } (.lst (ns.map V.int))) else none) KX hns hb hbb hlim hg ha hr (fun b u z => ?_) (fun b z => ?_) F hbind
      (hsp _ (fun b => ?_) (.inl (.inr ⟨_, if_pos rfl⟩))) hCX
    · obtain ⟨rfl, rfl⟩ := at_ b u z
      exact ⟨ha, by rw [List.length_map]; exact hl, vs, _, rv, ha⟩
    · cases q : (if b = a then some (HO.frz { cls := .type "list", data := .seq vs.toArray } (.lst (ns.map V.int))) else none) with
      | none => exact absurd q z
      | some u => obtain ⟨h1, rfl⟩ := at_ b u q; exact ⟨h1, hk, _, _, rfl⟩
    · by_cases hb : b = a
      · exact .inr ⟨_, _, if_pos hb⟩
      · exact .inl (if_neg hb)
end DL
end
section
set_option autoImplicit false
namespace DL
open PySem PySem.Spec L2
section
end
end DL
end
section
set_option autoImplicit false
namespace DL
open PySem PySem.Spec L2
/-- the cells are eaten up to a great one: (left, digits, mix) -/
def eat : List Int → Int → List Int × Int × Int
  | [], sd => ([], 0, sd)
  | c :: cs, sd => if 10 ^ 18 ≤ (if c < 0 then -c else c) then (cs, (if c < 0 then -c else c), (sd * 6151 + (if c < 0 then -c else c) + 7) % 2147483629) else eat cs ((sd * 6151 + (if c < 0 then -c else c) + 7) % 2147483629)
def hashI (sd cnt : Int) : Int := (((sd + 8191 * cnt + 50021) ^ 5 % 2147483587) * 40009 + 20011 * cnt + 31) ^ 3 % 1000000009
/-- the next drawn number below many -/
def drawS (many : Int) (s : Strm) : Int × Strm :=
  let e := if s.cur = 0 then eat s.cells s.seed else (s.cells, s.cur, s.seed)
  if 0 < e.2.1 then (e.2.1 % many, ⟨e.1, e.2.1 / many, s.cnt + 1, e.2.2⟩)
  else (hashI e.2.2 (s.cnt + 1) % many, ⟨e.1, e.2.1, s.cnt + 1, e.2.2⟩)
/-- streams as they come -/
def StrmOk (s : Strm) : Prop := 0 ≤ s.cur ∧ 0 ≤ s.seed ∧ s.seed < 2147483629 ∧ 0 ≤ s.cnt ∧ s.cnt < 2 ^ 200 ∧ s.cells.length ≤ 63
instance (s : Strm) : Decidable (StrmOk s) := by unfold StrmOk; infer_instance
def drawF : List D → M D
  | [.stm, .int many] => fun s => if StrmOk s ∧ 0 < many ∧ many < 1073741824 then some (.ok (.int (drawS many s).1), (drawS many s).2) else none
  | _ => M.fail
def CPowW (i j : Int) : Prop := 0 ≤ j ∧ j ≤ 1000 ∧ i.natAbs < 2 ^ 256
theorem op_powW {X : Cx} : OpR X (binaryOp .Pow) (rI CPowW fun i j => .int (i ^ j.toNat)) := opI fun i j _ _ _ _ _ hc q => by
  obtain ⟨h1, h2, h3⟩ := hc
  refine PyProof.Rows.pow_int h1 ?_ q
  have hb : Builtin.Int.intBits i ≤ 256 := PyProof.Rows.intBits_le h3
  have h4 : (Builtin.Int.intBits i : Int) * j ≤ 256 * j := Int.mul_le_mul_of_nonneg_right (by omega) h1
  omega
def rNeP (K : PySem.W.Frag) : R2 := fun x y H Q => ∃ d e, Dp K H x d ∧ Dp K H y e ∧ d.plain = true ∧ e.plain = true ∧ d.depth ≤ 50 ∧ e.depth ≤ 50 ∧ Q (.bl (!PyData.eqv d e)) H
theorem op_neP {X : Cx} (hu : X.A.units + 64 < cLine) : OpR X (compareOp .NotEq) (rNeP X.K) := by
  intro pins s σ H x y v u Q I rx ry h
  obtain ⟨d, e, hd, he, p1, p2, d1, d2, q⟩ := h
  obtain ⟨as, r1⟩ := Dp.reads I d x v hd rx
  obtain ⟨bs, r2⟩ := Dp.reads I e y u he ry
  exact PySem.SeqAt.ne_plain r1 r2 p1 p2 (by omega) ⟨.bl _, H, I, rfl, q⟩
theorem dp_ints {K : PySem.W.Frag} {H : Hp} : ∀ xs : List Int, DpAll K H (xs.map V.int) (xs.map PyData.int)
  | [] => .nil
  | x :: xs => .cons (.int x) (dp_ints xs)
theorem plain_ints : ∀ xs : List Int, PyData.plainAll (xs.map PyData.int) = true
  | [] => rfl
  | x :: xs => by simp [PyData.plainAll, plain_ints xs]; simp [PyData.plain]
theorem depth_ints : ∀ xs : List Int, PyData.depthAll (xs.map PyData.int) = 0
  | [] => by simp [PyData.depthAll]
  | x :: xs => by simp [PyData.depthAll, depth_ints xs]; simp [PyData.depth]
theorem PT.imp {X : Cx} {e : Expr} {t t' : TT} (h : PT X e t) (k : ∀ σ H Q, t' σ H Q → t σ H Q) : PT X e t' := ⟨fun pins s σ H Q I q => h.run pins s σ H Q I (k σ H Q q)⟩
theorem PE.imp {X : Cx} {e : Expr} {t t' : TE} (h : PE X e t) (k : ∀ σ H Q, t' σ H Q → t σ H Q) : PE X e t' := ⟨fun pins s σ H Q I q => h.run pins s σ H Q I (k σ H Q q)⟩
theorem PS.imp {X : Cx} {e : Stmt} {t t' : TS} (h : PS X e t) (k : ∀ D σ H, t' D σ H → t D σ H) : PS X e t' := ⟨fun pins s σ H D I q => h.run pins s σ H D I (k D σ H q)⟩
section
variable {T : Cfg} {X : Cx}
/-- stream[1] == 0 and stream[0] != [] -/
def tLeft (T : Cfg) : TT := fun σ H Q => ∃ s, σ[0]? = some (some (.ref T.st)) ∧ StmAt T H s ∧ s.cells.length ≤ 63 ∧ ∀ H', DL.Ext T H H' → StmAt T H' s → Q (decide (s.cur = 0 ∧ s.cells ≠ [])) H'
theorem left_ne {H : Hp} {s : Strm} (st : StmAt T H s) {K : PySem.W.Frag} {p : Addr} (hp : H p = none) : Dp K (upd H p (.lst [])) (.ref T.sl) (.list (s.cells.map PyData.int)) ∧ Dp K (upd H p (.lst [])) (.ref p) (.list []) := by
  have n : T.sl ≠ p := fun z => by have := st.2; rw [z, hp] at this; cases this
  exact ⟨.lst (SqL.of (by rw [upd_ne n]; exact st.2)) (dp_ints _), .lst (SqL.of upd_same) .nil⟩
theorem left_val (cells : List Int) : (!PyData.eqv (.list (cells.map PyData.int)) (.list [])) = decide (cells ≠ []) := by
  cases cells with
  | nil => simp [PyData.eqv, PyData.eqvAll]
  | cons c cs => simp [PyData.eqv, PyData.eqvAll]
theorem upd_st {H : Hp} {s : Strm} (h : StmAt T H s) (s' : Strm) (e : s'.cells = s.cells) : StmAt T (upd H T.st (.lst [.ref T.sl, .int s'.cur, .int s'.cnt, .int s'.seed])) s' :=
  ⟨upd_same, by rw [upd_ne h.ne.symm, e]; exact h.2⟩
theorem upd_sl {H : Hp} {s : Strm} (h : StmAt T H s) (cs : List Int) : StmAt T (upd H T.sl (.lst (cs.map V.int))) { s with cells := cs } :=
  ⟨by rw [upd_ne h.ne]; exact h.1, upd_same⟩
theorem ext_st {H H' : Hp} {o : HO} (x : DL.Ext T H H') : DL.Ext T H (upd H' T.st o) := fun a u e h1 h2 => by rw [upd_ne h1]; exact x a u e h1 h2
theorem ext_sl {H H' : Hp} {o : HO} (x : DL.Ext T H H') : DL.Ext T H (upd H' T.sl o) := fun a u e h1 h2 => by rw [upd_ne h2]; exact x a u e h1 h2
end
theorem seq0 (n : Nat) : seqIndex? 0 (n + 1) = some 0 := by
  unfold seqIndex?
  simp
end DL
end
section
set_option autoImplicit false
namespace DL
open PySem PySem.Spec L2
section
variable {T : Cfg} {H0 H H' H1 H2 H3 : Hp} {S0 SS : Addr → Prop} {Γ Γ' Γ1 Γ2 Γ3 Γb Γw Γi : List Md} {ρ ρ' : Env} {s s' s1 s2 : Strm} {σ : St} {tg tg' tg1 tg2 : Tags} {v w : V} {d c : D} {vs : List V} {ds : List D} {m m' mr me ms m1 m2 : Md} {rm : Rm} {k : Kid} {i j : Nat}
variable {X : Cx} {E : XK} {e a b o : Expr} {es : List Expr} {F Fa Fb Fo Fe : EF} {pos p : Pos} {x : Str} {tge iter elt : Expr} {scope : Scope} {own own' : Addr → Prop}
theorem un64 {k : Nat} {A : Around} (hr : Room k A) : A.units + 64 < cLine := by have := hr.un; omega
def argsOk (as : List Bool) (ds : List D) : Bool := decide (ds.length = as.length) && (as.zip ds).all fun p => !p.1 || frozen p.2
def fnA (as : List Bool) (n : Nat) (B : SF) : List D → M D := fun ds s =>
  if argsOk as ds = true then match B (ds.map some ++ List.replicate (n - as.length) none) s with
    | some (.ok (.rt d), s') => some (.ok d, s')
    | some (.ok (.nx _), s') => some (.ok .non, s')
    | some (.error x, s') => some (.error x, s')
    | _ => none
  else none
def ΓA (as : List Bool) (n : Nat) : List Md := (as.map fun b => if b then .atom else .sh false) ++ List.replicate (n - as.length) .atom
theorem ΓA_get {as : List Bool} {n i : Nat} {ds : List D} {d : D} (ha : argsOk as ds = true) (hd : ds[i]? = some d) : (ΓA as n).getD i .atom = .sh false ∨ ((ΓA as n).getD i .atom = .atom ∧ frozen d = true) := by
  unfold argsOk at ha
  rw [Bool.and_eq_true, decide_eq_true_eq, List.all_eq_true] at ha
  obtain ⟨hl, hz⟩ := ha
  have hi : i < as.length := by rw [← hl]; exact (List.getElem?_eq_some_iff.mp hd).1
  unfold ΓA
  rw [List.getD_eq_getElem?_getD, List.getElem?_append_left (by simpa using hi), List.getElem?_map, List.getElem?_eq_getElem hi]
  have hm : (as[i], d) ∈ as.zip ds := List.mem_of_getElem? (i := i) ((List.getElem?_zip_eq_some (z := (as[i], d))).mpr ⟨List.getElem?_eq_getElem hi, hd⟩)
  have := hz _ hm
  cases e : as[i] with
  | true => rw [e] at this; simp at this; exact .inr ⟨rfl, this⟩
  | false => exact .inl rfl
theorem FnD.mkA {as : List Bool} {P : Program} {w : World} {K : PySem.W.Frag} {mg : Str → Option Value} {base : Heap} {x qual : Str} {st : Stmt} {f : Addr} {fd : FuncData} {N ps : List Str} {k : Nat} {B : SF} (Fu : L2.Fun K x qual st f fd) (S : FnScope N ps (defScope st))
    (hz : LeR .atom mr)
    (hb : ∀ (cdv : Value) (A : Around) (outer : List PySem.Env) (s : Shared) (H : Hp) (E : XK), Room k (A.deeper (PyProof.Rows.envOfC qual (defScope st) s.heap.objs.size f cdv)) →
      DSs T (cxOf (L2.CX P w) P w K mg base N qual (defScope st) f cdv A outer s H E) E mr Γb (ΓA as N.length) (defBody st) B Γ2) (hps : as.length = ps.length := by rfl) : FnD T P w K mg base (k + 1) f fd ps mr (fnA as N.length B) := by
  have hlen : ∀ {ds : List D} {s : Strm} {r : Except Exn D} {s' : Strm}, fnA as N.length B ds s = some (r, s') → argsOk as ds = true := fun {ds s r s'} h => by
    unfold fnA at h
    by_cases e : argsOk as ds = true
    · exact e
    · rw [if_neg e] at h; cases h
  have hlen2 : ∀ {ds : List D}, argsOk as ds = true → ds.length = ps.length := fun {ds} h => by
    unfold argsOk at h
    rw [Bool.and_eq_true, decide_eq_true_eq] at h
    rw [h.1, hps]
  refine Fu.okX S (fun vs H Q E ⟨S0, ds, s, r, s', _, hr, _, hf, _⟩ => by rw [hr.len]; exact hlen2 (hlen hf)) (fun cdv A outer sh H vs Q E hr h => ?_)
  obtain ⟨S0, ds, s, r, s', hS, hv, hst, hf, hq⟩ := h
  have ha := hlen hf
  have hl := hlen2 ha
  refine ⟨_, WSs.pss, ?_⟩
  have hN : ps.length ≤ N.length := by
    have := congrArg List.length S.pre
    rw [List.length_take] at this
    omega
  unfold fnA at hf
  rw [if_pos ha, hps, ← hl] at hf
  classical
  have St0 : Sta T H S0 (ΓA as N.length) (ds.map some ++ List.replicate (N.length - ds.length) none) s (L2.start N vs) H (fun a => if S0 a then .old else .no) := by
    refine ⟨by simp [L2.start, hv.len], fun i d e => ?_, hst, fun a n => ?_, fun a _ => ?_, ⟨if_neg fun z => (hS _ z).2.1 rfl, if_neg fun z => (hS _ z).2.2 rfl⟩, fun a e => ?_, ⟨by rw [hst.1]; simp, by rw [hst.2]; simp⟩, Ext.refl⟩
    · obtain ⟨v, h1, h2⟩ := hv.at N i d e
      have hi : ds[i]? = some d := by
        by_cases hi : i < ds.length
        · rw [List.getElem?_append_left (by simpa using hi)] at e
          simpa using e
        · rw [List.getElem?_append_right (by simpa using hi)] at e
          simp [List.getElem?_replicate] at e
      rcases ΓA_get (n := N.length) ha hi with q | ⟨q, hfz⟩
      · rw [q]
        exact ⟨(fun q => by cases q), v, h1, Rep.mono (S' := shS _ false) h2 fun a z => .inr ⟨rfl, if_pos z⟩⟩
      · rw [q]
        exact ⟨(fun q => by cases q), v, h1, h2.frozen hfz⟩
    · by_cases z : S0 a
      · exact (hS a z).1
      · exact absurd (if_neg z) n
    · by_cases z : S0 a
      · exact .inr (if_pos z)
      · exact .inl (if_neg z)
    · by_cases z : S0 a
      · exact z
      · rw [if_neg z] at e; cases e
  cases hB : B (ds.map some ++ List.replicate (N.length - ds.length) none) s with
  | none => rw [hB] at hf; cases hf
  | some rs =>
    obtain ⟨r0, s0⟩ := rs
    rw [hB] at hf
    refine hb cdv A outer sh H E hr _ _ _ _ _ _ _ St0 _ _ hB _ ?_
    cases r0 with
    | error x =>
      cases hf
      exact fun c dx H' t => hq c dx H' t
    | ok o =>
      cases o with
      | rt d => cases hf; exact fun v H' x st rr => hq v H' x st rr
      | nx ρ' =>
        cases hf
        exact fun σ' H' tg' g S' => hq .non H' S'.same S'.stm (hz.ok (i := 0) S' (fun _ => False) (fun a h => h.elim) .non)
      | bk ρ' => cases hf
      | ct ρ' => cases hf
structure Cal (T : Cfg) (P : Program) (w : World) (K : PySem.W.Frag) (mg : Str → Option Value) (base : Heap) (k : Nat) (x : Str) (ps : List Str) (mr : Md) (F : List D → M D) : Prop where
  ex : ∃ f fd, FnD T P w K mg base k f fd ps mr F ∧ mg x = some (.ref f) ∧ PySem.W.keepIn K (.ref f) = true ∧ Binds K fd ps []
theorem de_callP {k : Nat} {ps : List Str} {Ff : List D → M D} {Fs : AF} (G : Cal T X.prog X.w X.K X.mg X.base k x ps mr Ff) (hr : Room k X.A) (hx : Passes (L2.CX X.prog X.w) X E)
    (ha : DA T X E Γ (e :: es) Fs m Γ1) (hg : Gl X x := by rfl) (hm : m.flat = true := by rfl) (han : (∃ b, mr = .sh b) → m ≠ .any := by first | (intro z; obtain ⟨_, q⟩ := z; cases q; done) | (intro z q; cases q; done))
    (hdb : (x == ("__debug__" : Str)) = false := by decide) (he : starEach (e :: es) X.env = (false, eval e X.env) :: starEach es X.env := by rfl) (hpl : (backTo pos (starEach es X.env)).any (·.1) = false := by rfl) :
    DE T X E Γ (.Call (.Name x p) (e :: es) [] pos) (fFn Ff Fs) (callM m mr) Γ1 := by
  obtain ⟨f, fd, h1, h2, h3, h4⟩ := G.ex
  exact de_call h1 hr h2 h3 h4 hx ha hg hm han hdb he hpl
/-- a method, in one -/
structure CalM (T : Cfg) (P : Program) (w : World) (K : PySem.W.Frag) (mg : Str → Option Value) (base : Heap) (k : Nat) (c : Nat) (mn : Str) (ps : List Str) (mr : Md) (F : List D → M D) : Prop where
  ex : ∃ f fd, FnD T P w K mg base k f fd ps mr F ∧ Meth K (T.cls c) mn f ∧ Cls K (T.cls c) ∧ Binds K fd ps []
theorem de_methP {c : Nat} {mn : Str} {apos : Pos} {k : Nat} {ps : List Str} {Ff : List D → M D} {Fs : AF} {pl : Sem Bool} (G : CalM T X.prog X.w X.K X.mg X.base k c mn ps mr Ff) (hr : Room k X.A) (hx : Passes (L2.CX X.prog X.w) X E)
    (ho : DE T X E Γ o Fo m Γ1) (ha : DA T X E Γ1 (e :: es) Fs m Γ2) (hm : m.flat = true := by rfl) (han : (∃ b, mr = .sh b) → m ≠ .any := by first | (intro z; obtain ⟨_, q⟩ := z; cases q; done) | (intro z q; cases q; done))
    (hst : starEach (e :: es) X.env = (false, eval e X.env) :: starEach es X.env := by rfl) (hpl : (backTo pos (starEach es X.env)).any (·.1) = false := by rfl)
    (ht : eval (.Call (.Attribute o mn apos) (e :: es) [] pos) X.env = (do
      let ov ← eval o X.env
      standAt apos.atName
      let (f, first) ← holding [ov] (getMethod ov mn pl)
      callWith pos f first (backTo pos (starEach (e :: es) X.env)) (backToKw pos (keywordEach [] X.env))) := by rfl) :
    DE T X E Γ (.Call (.Attribute o mn apos) (e :: es) [] pos) (fMeth c mn Ff Fo Fs) (callM m mr) Γ2 := by
  obtain ⟨f, fd, h1, h2, h3, h4⟩ := G.ex
  exact de_meth h1 hr h3 h2 h4 hx ho ha hm han hst hpl ht
theorem de_gstr {z : Str} {y : Str} {pos : Pos} (h : ∃ t, X.mg y = some (.str z t)) (hg : Gl X y := by rfl) (hd : (y == ("__debug__" : Str)) = false := by decide) : DE T X E Γ (.Name y pos) (fC (.str z)) .atom Γ := by
  obtain ⟨t, h⟩ := h
  exact .const (pe_glob hg h (v := .str z) ⟨t, rfl⟩ hd) fun _ => .str z
def isNq (a b : D) : Option D := match a with | .opq _ => none | a => isND a b
def isNNq (a b : D) : Option D := match a with | .opq _ => none | a => isNND a b
theorem de_dicK : DE T X E Γ (.Dict [] [] pos) (fC (.dic false [])) (.ow .e) Γ := by
  refine ⟨?_⟩
  intro H0 S0 ρ s σ H tg S r s' hF Q hQ
  cases hF
  refine WE.of pe_dnewK fun q hq => ?_
  obtain ⟨x3, st3⟩ := lay_any (o := .dK []) S.stm hq
  refine hQ (.ref q) _ tg (Go.lay S x3 st3) (S.ext0 x3 st3) ?_
  exact ⟨q, [], rfl, ⟨hq, by rw [upd_same]; simp, S.fresh hq⟩, upd_same, rfl, .nil⟩
end
end DL
end
section
set_option autoImplicit false
namespace DL
open PySem PySem.Spec L2
def putL (kvs : List (D × D)) (is : D → Bool) (k v : D) : List (D × D) :=
  if (kvs.any fun p => is p.1) = true then kvs.map (fun p => if is p.1 = true then (p.1, v) else p) else kvs ++ [(k, v)]
def putD : D → D → D → Option D
  | .dic false kvs, k, v => (kOf k).bind fun key => if kvs.length < sizeLine then some (.dic false (putL kvs (fun d => decide (kOf d = some key)) k v)) else none
  | .dic true kvs, k, v => (ksOf k).bind fun key => if kvs.length < sizeLine then some (.dic true (putL kvs (fun d => decide (ksOf d = some key)) k v)) else none
  | _, _, _ => none
section
variable {T : Cfg} {H0 H H' H1 H2 H3 : Hp} {S0 SS : Addr → Prop} {Γ Γ' Γ1 Γ2 Γ3 Γb Γw Γi : List Md} {ρ ρ' : Env} {s s' s1 s2 : Strm} {σ : St} {tg tg' tg1 tg2 : Tags} {v w : V} {d c : D} {vs : List V} {ds : List D} {m m' mr me ms m1 m2 : Md} {rm : Rm} {k : Kid} {i j : Nat}
variable {X : Cx} {E : XK} {e a b o : Expr} {es : List Expr} {F Fa Fb Fo Fe : EF} {pos p : Pos} {x : Str} {tge iter elt : Expr} {scope : Scope} {own own' : Addr → Prop}
theorem put_rep {κ : Type} [DecidableEq κ] {enc : κ → D} {of : D → Option κ} (h0 : ∀ k, of (enc k) = some k) (key : κ) {v : V} {d : D} (rv : Rep T H SS v d) (kvs : List (D × D)) (xs : List (κ × V)) (hk : kvs.map (·.1) = xs.map (fun p => enc p.1)) (r : RepL T H SS (xs.map (·.2)) (kvs.map (·.2))) :
    (putL kvs (fun e => decide (of e = some key)) (enc key) d).map (·.1) = (putK xs key v).map (fun p => enc p.1) ∧ RepL T H SS ((putK xs key v).map (·.2)) ((putL kvs (fun e => decide (of e = some key)) (enc key) d).map (·.2)) := by
  have ha : ∀ (kvs : List (D × D)) (xs : List (κ × V)), kvs.map (·.1) = xs.map (fun p => enc p.1) → (kvs.any fun p => decide (of p.1 = some key)) = (xs.any fun kv => decide (kv.1 = key)) := by
    intro kvs
    induction kvs with
    | nil => intro xs h; cases xs with | nil => rfl | cons _ _ => cases h
    | cons p kvs ih =>
      intro xs h
      cases xs with
      | nil => cases h
      | cons q xs =>
        simp only [List.map_cons, List.cons.injEq] at h
        rw [List.any_cons, List.any_cons, ih xs h.2, h.1, h0]
        simp
  unfold putL putK
  rw [ha kvs xs hk]
  by_cases hx : (xs.any fun kv => decide (kv.1 = key)) = true
  · rw [if_pos hx, if_pos hx]
    clear ha hx
    induction kvs generalizing xs with
    | nil => cases xs with | nil => exact ⟨rfl, .nil⟩ | cons _ _ => cases hk
    | cons p kvs ih =>
      cases xs with
      | nil => cases hk
      | cons q xs =>
        simp only [List.map_cons, List.cons.injEq] at hk r
        cases r with
        | cons r1 r2 =>
          obtain ⟨i1, i2⟩ := ih xs hk.2 r2
          have hb : (decide (of p.1 = some key) = true) = (q.1 = key) := by rw [hk.1, h0]; simp
          simp only [List.map_cons]
          by_cases z : q.1 = key
          · rw [if_pos z, if_pos (hb ▸ z)]
            exact ⟨by rw [i1, hk.1], .cons rv i2⟩
          · rw [if_neg z, if_neg (hb ▸ z)]
            exact ⟨by rw [i1, hk.1], .cons r1 i2⟩
  · rw [if_neg hx, if_neg hx]
    rw [List.map_append, List.map_append, List.map_append, List.map_append, hk]
    exact ⟨rfl, r.append (.one rv)⟩
def dicM : Option (Option D) → M D
  | some (some (.dic t kvs)) => pure (.dic t kvs)
  | _ => M.fail
theorem dic_step {β : Type} {o : Option (Option D)} {kk : D → M β} {r : Except Exn β} (h : (dicM o >>= kk) s = some (r, s')) : ∃ t kvs, o = some (some (.dic t kvs)) ∧ kk (.dic t kvs) s = some (r, s') := by
  unfold dicM at h
  split at h
  · exact ⟨_, _, rfl, h⟩
  · cases h
def sPut (i : Nat) (Fv Fk : EF) : SF := fun ρ => do
  let v ← Fv ρ
  let dd ← dicM (ρ[i]?)
  let k ← Fk ρ
  M.of ((putD dd k v).map fun d' => .nx (ρ.set i (some d')))
/-- x[k] = v, x ours -/
theorem ds_put (hu : X.A.units + 64 < cLine) (i : Nat) (kd : Kid) {y : Str} {py pos' : Pos} {Fv Fk : EF} {ve ke : Expr} (hm : Γ.getD i .atom = .ow kd) (hm1 : Γ2.getD i .atom = .ow kd) (hv : DE T X E Γ ve Fv (kidM kd) Γ1) (hk : DE T X E Γ1 ke Fk .any Γ2) (hN : X.N[i]? = some y := by rfl)
    (hvi : Vis X.env.scope y := by first | exact Or.inl rfl | exact Or.inr (Or.inl rfl) | exact Or.inr (Or.inr rfl)) (hd : (y == ("__debug__" : Str)) = false := by decide) (hcd : (y == ("__classdict__" : Str)) = false := by decide)
    (hs : swapsWith ve (some (.Subscript (.Name y py) ke pos')) pos.line X.env = pure false := by rfl) :
    DS T X E mr Γb Γ (.Assign [.Subscript (.Name y py) ke pos'] ve pos) (sPut i Fv Fk) Γ2 := by
  refine ⟨?_⟩
  intro H0 S0 ρ s σ H tg S r s' hF D hD
  refine WS.of (ps_dput (by omega) (pe_var hN hvi hd hcd) WE.pe WE.pe hs) ?_
  show WE X ve σ H _
  refine hv.seq S hF (hD.ek S) fun d s1 v H1 tg1 hkk g1 S1 r1 e1 => ?_
  obtain ⟨t, kvs, hds, h2⟩ := dic_step hkk
  obtain ⟨hany, v0, hv0, r0⟩ := S1.val i _ hds
  have hslot : ∃ A, v0 = .ref A := by
    generalize Γ1.getD i .atom = mm at r0
    have g : ∀ S', Rep T H1 S' v0 (.dic t kvs) → ∃ A, v0 = .ref A := fun S' h => by cases h <;> exact ⟨_, rfl⟩
    cases mm with
    | ow q => cases t <;> (obtain ⟨A, _, e, _⟩ := r0; exact ⟨A, e⟩)
    | atom => exact g _ r0
    | sh b => exact g _ r0
    | xc => exact g _ r0
    | any => exact g _ r0
  obtain ⟨A0, rfl⟩ := hslot
  refine ⟨.ref A0, hv0, ?_⟩
  show WE X ke σ H1 _
  refine hk.seq S1 h2 e1 fun kd' s2 kv H2 tg2 hk3 g2 S2 r2 e2 => ?_
  obtain ⟨c, hc, rfl, rfl⟩ := M.of_some hk3
  cases hp : putD (.dic t kvs) kd' d with
  | none => rw [hp] at hc; cases hc
  | some d' =>
    rw [hp] at hc
    cases hc
    have g := g1.trans g2
    have r1' := r1.later S S1 S2 g2
    obtain ⟨S3, k3, cv⟩ := S.take S2 g i
    obtain ⟨v1, hv1, rO⟩ := S3.slotO hm1 hds
    rw [hv0] at hv1; cases hv1
    have rv := (RepW.flat (kidM_flat kd)).mp r1'
    have fin : ∀ {o : HO} {o' : HO} {d' : DL.D}, bnT i tg2 H H2 A0 = .ex i → H2 A0 = some o → ¬ Imm o → RepO T (upd H2 A0 o') (exS (bnT i tg2 H H2) i) (kidS (bnT i tg2 H H2) (exS (bnT i tg2 H H2) i) kd) (.ref A0) d' →
        Sta T H0 S0 Γ2 (ρ.set i (some d')) s' σ (upd H2 A0 o') (bnT i tg2 H H2) ∧ Kp tg (bnT i tg2 H H2) H (upd H2 A0 o') := fun {o o' d'} hA hH hi rr => by
      have hmu : ∀ o1, H2 A0 = some o1 → ¬ Imm o1 := fun o1 e z => by rw [hH] at e; cases e; exact hi z
      exact ⟨S3.store hm1 hA hmu hv0 rr, k3.trans (Kp.store hA hmu)⟩
    have hA2 : tg2 A0 = .ex i ∧ H2 A0 ≠ none := by
      obtain ⟨v9, hv9, r9⟩ := S.slotO hm hds
      rw [hv0] at hv9; cases hv9
      have : tg A0 = .ex i ∧ H A0 ≠ none := by
        cases t with
        | false => obtain ⟨A, xs, e, hA, hH, _⟩ := r9; cases e; exact ⟨hA, by rw [hH]; simp⟩
        | true => obtain ⟨A, xs, e, hA, hH, _⟩ := r9; cases e; exact ⟨hA, by rw [hH]; simp⟩
      exact ⟨(g.t.1 A0 this.2).trans this.1, g.u A0 this.2⟩
    have rvk : Rep T H2 (fun b => kidS (bnT i tg2 H H2) (exS (bnT i tg2 H H2) i) kd b ∧ b ≠ A0) v d := rv.mono fun a z => ⟨cv kd a z, kid_ne hA2.1 hA2.2 z⟩
    cases t with
    | false =>
      simp only [putD] at hp
      cases hkey : kOf kd' with
      | none => rw [hkey] at hp; cases hp
      | some key =>
        rw [hkey] at hp
        obtain ⟨hlen, rfl⟩ := if_some hp
        obtain ⟨A, xs, e, hA, hH, hkeys, rr⟩ := rO
        cases e
        have hkk := kD_kOf hkey
        subst hkk
        obtain ⟨p1, p2⟩ := put_rep kOf_kD key rvk kvs xs hkeys rr
        have ekv : kv = kV key := by cases key <;> (cases r2; rfl)
        have hmu : ∀ o1, H2 A0 = some o1 → ¬ Imm o1 := fun o1 e z => by rw [hH] at e; cases e; exact z
        obtain ⟨S4, k4⟩ := fin (o' := .dK (putK xs key v)) (d' := .dic false (putL kvs (fun e => decide (kOf e = some key)) (kD key) d)) hA hH (fun z => z) ⟨A0, _, rfl, hA, upd_same, p1, p2.keep (kid_ex hmu)⟩
        have hl : xs.length < sizeLine := by have := congrArg List.length hkeys; simp at this; omega
        exact ⟨A0, _, rfl, by rw [ekv]; exact .k hH hl, hD _ _ _ k4 S4⟩
    | true =>
      simp only [putD] at hp
      cases hkey : ksOf kd' with
      | none => rw [hkey] at hp; cases hp
      | some key =>
        rw [hkey] at hp
        obtain ⟨hlen, rfl⟩ := if_some hp
        obtain ⟨A, xs, e, hA, hH, hkeys, rr⟩ := rO
        cases e
        have hkk := ksD_ksOf hkey
        subst hkk
        obtain ⟨p1, p2⟩ := put_rep ksOf_ksD key rvk kvs xs hkeys rr
        have hmu : ∀ o1, H2 A0 = some o1 → ¬ Imm o1 := fun o1 e z => by rw [hH] at e; cases e; exact z
        obtain ⟨S4, k4⟩ := fin (o' := .dT (putK xs key v)) (d' := .dic true (putL kvs (fun e => decide (ksOf e = some key)) (ksD key) d)) hA hH (fun z => z) ⟨A0, _, rfl, hA, upd_same, p1, p2.keep (kid_ex hmu)⟩
        have hl : xs.length < sizeLine := by have := congrArg List.length hkeys; simp at this; omega
        have r2' : Rep T H2 (anyS T H2) kv (ksD key) := r2
        cases r2' with
        | @tup b vs _ hb rb =>
          have hv : vs = key.map kV := RepL.keys key vs rb
          exact ⟨A0, _, rfl, .t hH (by rw [hb, hv]) hl, hD _ _ _ k4 S4⟩
end
end DL
end
section
set_option autoImplicit false
namespace DL
open PySem PySem.Spec L2
section
variable {T : Cfg} {H0 H H' H1 H2 H3 : Hp} {S0 SS : Addr → Prop} {Γ Γ' Γ1 Γ2 Γ3 Γb Γw Γi : List Md} {ρ ρ' : Env} {s s' s1 s2 : Strm} {σ : St} {tg tg' tg1 tg2 : Tags} {v w : V} {d c : D} {vs : List V} {ds : List D} {m m' mr me ms m1 m2 : Md} {rm : Rm} {k : Kid} {i j : Nat}
variable {X : Cx} {E : XK} {e a b o cc : Expr} {es : List Expr} {F Fa Fb Fc Fo Fe : EF} {pos p : Pos} {x : Str} {tge iter elt : Expr} {scope : Scope} {own own' : Addr → Prop}
/-- a < b < c, as a value -/
def fChain (f f' : D → D → Option D) (Fa Fb Fc : EF) : EF := fun ρ => do
  let x ← Fa ρ
  let y ← Fb ρ
  let k ← M.of (f x y)
  if ← blM k then do let z ← Fc ρ; M.of (f' y z) else pure (.bl false)
theorem de_chain {op op' : CmpOp} {f f' : D → D → Option D} (h : OpV T X (compareOp op) f .atom) (h' : OpV T X (compareOp op') f' .atom) (ha : DE T X E Γ a Fa m Γ) (hb : DE T X E Γ b Fb m Γ) (hc : DE T X E Γ cc Fc m Γ) (hm : m.flat = true := by rfl) (hlm : lastMarks [op, op'] [b, cc] = false := by with_unfolding_all rfl) :
    DE T X E Γ (.Compare a [op, op'] [b, cc] pos) (fChain f f' Fa Fb Fc) .atom Γ := by
  refine ⟨?_⟩
  intro H0 S0 ρ s σ H tg S r s' hF Q hQ
  refine WE.of (pe_chain WO.r WO.r WE.pe WE.pe WE.pe hlm) ?_
  refine ha.seq S hF hQ.ek fun d s1 v H1 tg1 hk g1 S1 r1 e1 => ?_
  refine hb.seq S1 hk e1 fun e s2 w H2 tg2 hk2 g2 S2 r2 e2 => ?_
  rcases M.bind_some hk2 with ⟨x, h1, rfl⟩ | ⟨k, s3, h1, h2⟩
  · obtain ⟨_, _, q, _⟩ := M.of_some h1; cases q
  obtain ⟨k', hk', q, rfl⟩ := M.of_some h1
  cases q
  have g12 := g1.trans g2
  have r1' := r1.later S S1 S2 g2
  have r2' := r2.early g1
  refine h H2 _ _ v w d e k S2.stm (set_any S S2) ((RepW.flat hm).mp r1') ((RepW.flat hm).mp r2') hk' _ fun z H3 x3 st3 rv => ?_
  obtain ⟨bb, rfl, h3⟩ := bl_step h2
  have hz : z = .bl bb := by have q : Rep T H3 (fun _ => False) z (.bl bb) := rv; cases q; rfl
  have g3 := Go.lay S2 x3 st3
  have S3 := S2.ext0 x3 st3
  refine ⟨bb, hz, ?_⟩
  cases bb with
  | false => cases h3; exact iteF (hQ _ H3 tg2 (g12.trans g3) S3 (.bl false))
  | true =>
    refine iteT ?_
    refine hc.seq S3 h3 (e2.later g3) fun u s5 vu H4 tg4 hk4 g4 S4 r4 e4 => ?_
    obtain ⟨k4', hk4', rfl, rfl⟩ := M.of_some hk4
    have g123 := g12.trans g3
    have r2'' := (r2.later S1 S2 S4 (g3.trans g4)).early g1
    have r4' := r4.early g123
    exact h' H4 _ _ w vu e u k4' S4.stm (set_any S S4) ((RepW.flat hm).mp r2'') ((RepW.flat hm).mp r4') hk4' _ fun z' H5 x5 st5 rv' =>
      hQ z' H5 tg4 (g123.trans (g4.trans (Go.lay S4 x5 st5))) (S4.ext0 x5 st5) rv'
/-- a list or dict, ours, of things without lists and dicts -/
def fzkD : D → Bool
  | .lst ds => ds.all frozen
  | .dic _ kvs => kvs.all fun p => frozen p.2
  | d => frozen d
def fFzK (Fe : EF) : EF := fun ρ => do let d ← Fe ρ; M.of (if fzkD d then some d else none)
theorem RepL.frozen {vs : List V} {ds : List D} (r : RepL T H SS vs ds) (h : ds.all DL.frozen = true) : RepL T H (fun _ => False) vs ds := by
  induction ds generalizing vs with
  | nil => cases r; exact .nil
  | cons d ds ih =>
    rw [List.all_cons, Bool.and_eq_true] at h
    cases r with | cons a b => exact .cons (a.frozen h.1) (ih b h.2)
theorem RepO.fzk {kid kid' : Addr → Prop} (r : RepO T H own kid v d) (h : fzkD d = true) : RepO T H own kid' v d := by
  cases d with
  | lst ds =>
    obtain ⟨a, vs, rfl, h1, h2, h3⟩ := r
    exact ⟨a, vs, rfl, h1, h2, (h3.frozen h).mono fun _ z => z.elim⟩
  | dic t kvs =>
    have hh : (kvs.map (·.2)).all DL.frozen = true := by rw [List.all_map]; exact h
    cases t with
    | false =>
      obtain ⟨a, xs, rfl, h1, h2, h3, h4⟩ := r
      exact ⟨a, xs, rfl, h1, h2, h3, (h4.frozen hh).mono fun _ z => z.elim⟩
    | true =>
      obtain ⟨a, xs, rfl, h1, h2, h3, h4⟩ := r
      exact ⟨a, xs, rfl, h1, h2, h3, (h4.frozen hh).mono fun _ z => z.elim⟩
  | _ => exact RepO.atom (Rep.frozen (show Rep T H kid v _ from r) h)
theorem de_fzk (he : DE T X E Γ e Fe (.ow k) Γ1) : DE T X E Γ e (fFzK Fe) (.ow .e) Γ1 := by
  refine ⟨?_⟩
  intro H0 S0 ρ s σ H tg S r s' hF Q hQ
  refine he.seq S hF hQ.ek fun d s1 v H1 tg1 hk g1 S1 r1 e1 => ?_
  obtain ⟨c, hc, rfl, rfl⟩ := M.of_some hk
  obtain ⟨hf, rfl⟩ := if_some hc
  exact hQ v H1 tg1 g1 S1 (RepO.fzk r1 hf)
end
end DL
end
section
set_option autoImplicit false
namespace DL
open PySem PySem.Spec L2
section
variable {T : Cfg} {H0 H H' H1 H2 H3 : Hp} {S0 SS S1 S2 : Addr → Prop} {Γ Γ' Γ1 Γ2 Γ3 Γ4 Γ5 Γb : List Md} {ρ ρ' : Env} {s s' s1 s2 : Strm} {σ : St} {tg tg' tg1 tg2 : Tags} {v w : V} {d c : D} {vs : List V} {ds : List D} {m m' mr : Md}
/-- a state anew, all that is passed shared -/
theorem Sta.start0 (hS : ∀ a, SS a → anyS T H a) (hl : σ.length = ρ.length) (st : StmAt T H s) (hv : ∀ i d, ρ[i]? = some (some d) → (Γ.getD i .atom = .sh false ∨ (Γ.getD i .atom = .atom ∧ frozen d = true)) ∧ ∃ v, σ[i]? = some (some v) ∧ Rep T H SS v d) :
    ∃ tg, Sta T H SS Γ ρ s σ H tg := by
  classical
  refine ⟨fun a => if SS a then .old else .no, ⟨hl, fun i d e => ?_, st, fun a n => ?_, fun a _ => ?_, ⟨if_neg fun z => (hS _ z).2.1 rfl, if_neg fun z => (hS _ z).2.2 rfl⟩, fun a e => ?_, ⟨by rw [st.1]; simp, by rw [st.2]; simp⟩, Ext.refl⟩⟩
  · obtain ⟨q, v, h1, h2⟩ := hv i d e
    rcases q with q | ⟨q, hfz⟩
    · rw [q]
      exact ⟨(fun q => by cases q), v, h1, Rep.mono (S' := shS _ false) h2 fun a z => .inr ⟨rfl, if_pos z⟩⟩
    · rw [q]
      exact ⟨(fun q => by cases q), v, h1, h2.frozen hfz⟩
  · by_cases z : SS a
    · exact (hS a z).1
    · exact absurd (if_neg z) n
  · by_cases z : SS a
    · exact .inr (if_pos z)
    · exact .inl (if_neg z)
  · by_cases z : SS a
    · exact z
    · rw [if_neg z] at e; cases e
mutual
/-- data is kept where lists of S and tuples are -/
theorem Rep.plainK (k : ∀ b o, H b = some o → (SS b ∨ ∃ xs, o = .tup xs) → H' b = some o) : ∀ (d : D) (v : V), plain d = true → Rep T H SS v d → Rep T H' SS v d
  | .non, v, _, r => by cases r; exact .non
  | .bl b, v, _, r => by cases r; exact .bl b
  | .int i, v, _, r => by cases r; exact .int i
  | .str x, v, _, r => by cases r; exact .str x
  | .lst xs, v, h, r => by cases r with | lst hS e rr => exact .lst hS (k _ _ e (.inl hS)) (RepL.plainK k xs _ (by simpa [plain] using h) rr)
  | .tup xs, v, h, r => by cases r with | tup e rr => exact .tup (k _ _ e (.inr ⟨_, rfl⟩)) (RepL.plainK k xs _ (by simpa [plain] using h) rr)
  | .dic _ _, _, h, _ => by simp [plain] at h
  | .obj _ _, _, h, _ => by simp [plain] at h
  | .stm, _, h, _ => by simp [plain] at h
  | .opq _, _, h, _ => by simp [plain] at h
  | .wl, _, h, _ => by simp [plain] at h
theorem RepL.plainK (k : ∀ b o, H b = some o → (SS b ∨ ∃ xs, o = .tup xs) → H' b = some o) : ∀ (ds : List D) (vs : List V), plainL ds = true → RepL T H SS vs ds → RepL T H' SS vs ds
  | [], vs, _, r => by cases r; exact .nil
  | d :: ds, vs, h, r => by
    obtain ⟨v, vs', rfl, r1, r2⟩ := r.consL
    rw [plainL, Bool.and_eq_true] at h
    exact .cons (Rep.plainK k d v h.1 r1) (RepL.plainK k ds vs' h.2 r2)
end
/-- for x in xs: if test: raise .. -/
def forT (g : GF) (Ft : TF) : List D → Env → M Env
  | [], ρ => pure ρ
  | d :: ds, ρ => match g d ρ with
    | some ρ1 => do if ← Ft ρ1 then M.fail else forT g Ft ds ρ1
    | none => M.fail
/-- __init__: i0 = e0; if t1: raise; self.f1 = e1; if t2: raise; for ..: if t3: raise; self.f2 = e2 -/
def initE (n np : Nat) (o : Option D) (ds : List D) : Env := o :: (ds.map some ++ List.replicate (n - np) none)
def initF (n : Nat) (i0 : Nat) (Fe0 : EF) (Ft1 : TF) (Fe1 : EF) (f1 : Str) (c : Nat) (Ft2 : TF) (Fi : IF) (g : GF) (Ft3 : TF) (Fe2 : EF) (f2 : Str) (np : Nat) : List D → M D := fun ds =>
  if ds.length + 1 = np then do
    let d0 ← Fe0 (initE n np none ds)
    if ← Ft1 ((initE n np none ds).set i0 (some d0)) then M.fail else do
    let d1 ← Fe1 ((initE n np none ds).set i0 (some d0))
    if plain d1 = true then do
      if ← Ft2 (initE n np (some (.obj c [(f1, d1)])) ds) then M.fail else do
      let items ← noErr (Fi (initE n np (some (.obj c [(f1, d1)])) ds))
      let ρ3 ← noErr (forT g Ft3 items (initE n np (some (.obj c [(f1, d1)])) ds))
      let d2 ← Fe2 ρ3
      if plain d2 = true then pure (.obj c [(f1, d1), (f2, d2)]) else M.fail
    else M.fail
  else M.fail
def spInit (T : Cfg) (c : Nat) (F : List D → M D) : Sp := fun vs H Q E => ∃ x dx Hc args Q', vs = .ref x :: args ∧ H = upd (upd Hc dx (.own x)) x (.ins (T.cls c) dx []) ∧ Hc x = none ∧ Hc dx = none ∧ dx ≠ x ∧ (∀ H2, Q' (.ref x) H2 → Q .non H2) ∧ spD T .xc F args Hc Q' E
theorem made_init {c : Nat} {F : List D → M D} : MadeBy T (T.cls c) .xc F (spInit T c F) := fun vs H Q E h x dx h1 h2 h3 => ⟨x, dx, H, vs, Q, rfl, rfl, h1, h2, h3, fun _ q => ⟨rfl, q⟩, h⟩
section
variable {X : Cx} {E : XK} {tge iter cc : Expr} {pos pos2 : Pos} {me : Md}
theorem ifM {α : Type} {p : Prop} [Decidable p] {x y : M α} {r : Except Exn α} (h : (if p then x else y) s = some (r, s')) : (p ∧ x s = some (r, s')) ∨ (¬ p ∧ y s = some (r, s')) := by
  by_cases q : p
  · rw [if_pos q] at h; exact .inl ⟨q, h⟩
  · rw [if_neg q] at h; exact .inr ⟨q, h⟩
theorem forT_cons {g : GF} {Ft : TF} {r : Except Exn Env} (h : forT g Ft (d :: ds) ρ s = some (r, s')) : ∃ ρ1, g d ρ = some ρ1 ∧ (do if ← Ft ρ1 then M.fail else forT g Ft ds ρ1) s = some (r, s') := by
  unfold forT at h
  cases e : g d ρ with
  | none => rw [e] at h; cases h
  | some ρ1 => rw [e] at h; exact ⟨ρ1, rfl, h⟩
/-- the loop of tests: the slots but js stay -/
theorem for_tests {js : List Nat} {Fi : IF} {g : GF} {Ft : TF} {rb : List Stmt} (hi : DI T X E Γ tge iter Fi m) (hm : m = .atom ∨ ∃ b, m = .sh b) (hg : DG T X m js Γ1 tge g Γ1) (ht : DT T X E Γ1 cc Ft Γ1) (hw : leG Γ Γ1 = true)
    (hc : X.calm = true) (hp : PassesOwn (model X.prog X.w) X.A X.env X.xe) {D : Ends} (S : Sta T H0 S0 Γ ρ s σ H tg) {items : List DL.D} {ρ' : Env} (hF : Fi ρ s = some (.ok items, s1)) (hF2 : forT g Ft items ρ s1 = some (.ok ρ', s'))
    (hD : ∀ σ' H' tg', Kp tg tg' H H' → DL.Ext T H H' → Sta T H0 S0 Γ1 ρ' s' σ' H' tg' → SameBut js σ σ' → D.nx σ' H') (hs : ∀ x, foldedSetIterable iter X.env x = pure x := by intro _; rfl) : WS X (.For tge iter [.If cc rb [] pos2] [] pos) D σ H := by
  refine WS.of (ps_for hp hc WI.pi WG.pg (pss_one (ps_if WT.pt (WSs.pss (X := X)) pss_nil)) (hs := hs)) ?_
  refine hi _ _ _ _ _ _ _ S _ _ hF _ fun J H1 tg1 g1 S1 hJ => ?_
  obtain ⟨G, Y, w, hG, kp, hy⟩ := hJ
  have S1' := S1.wk hw
  have k1 : Kp tg (wkT Γ1 tg1) H H1 := (g1.kp S).trans Kp.wk
  refine for_it w (fun i σ' H' => ∃ ρi si tgi, forT g Ft (items.drop i) ρi si = some (.ok ρ', s') ∧ Sta T H0 S0 Γ1 ρi si σ' H' tgi ∧ Kp (wkT Γ1 tg1) tgi H1 H' ∧ DL.Ext T H1 H' ∧ SameBut js σ σ') ⟨ρ, s1, _, by simpa using hF2, S1', Kp.refl, DL.Ext.refl, rfl, fun _ _ => rfl⟩ ?_ ?_ ?_
  · rintro i σ' H' hi' ⟨ρi, si, tgi, hf, Si, ki, xi, sb⟩
    exact kp H1 H' (fun a o e z => ki.k a o e (z.imp (fun z => wk_sh (shOf hm z)) id)) hG
  · rintro i x σ' H' H'' hlt ⟨ρi, si, tgi, hf, Si, ki, xi, sb⟩ hyi
    have hGi : G H' := kp H1 H' (fun a o e z => ki.k a o e (z.imp (fun z => wk_sh (shOf hm z)) id)) hG
    obtain ⟨hnew, d, hd, rd⟩ := hy i H' x H'' hlt hGi hyi
    have hdrop : items.drop i = d :: items.drop (i + 1) := by
      obtain ⟨h3, h4⟩ := List.getElem?_eq_some_iff.mp hd
      rw [List.drop_eq_getElem_cons h3, h4]
    rw [hdrop] at hf
    have hx : DL.Ext T H' H'' ∧ StmAt T H'' si := by
      rcases hnew with rfl | ⟨q0, xs, hq0, rfl⟩
      · exact ⟨DL.Ext.refl, Si.stm⟩
      · exact lay_any Si.stm hq0
    have Si' := Si.ext0 hx.1 hx.2
    have gi := Go.lay Si hx.1 hx.2
    have ki' : Kp (wkT Γ1 tg1) tgi H1 H'' := ki.trans (gi.kp Si)
    have rde : Rep T H'' (wS tgi (fun _ => False) m) x d := by
      rcases hm with rfl | ⟨b, rfl⟩
      · exact rd
      · exact Rep.mono (S := shS tg1 b) rd fun a z => ki.t b a (wk_sh z)
    obtain ⟨ρ1, hgd, hf2⟩ := forT_cons hf
    refine hg _ _ _ _ _ _ _ _ _ _ Si' rde hgd _ fun σ2 S2 sb2 => ?_
    rcases M.bind_some hf2 with ⟨x, _, q⟩ | ⟨b, s3, h3, h4⟩
    · cases q
    refine ht _ _ _ _ _ _ _ S2 _ _ h3 _ fun H3 tg3 g3 S3 => ?_
    cases b with
    | true => cases h4
    | false => exact iteF ⟨ρ1, s3, tg3, h4, S3, ki'.trans (g3.kp S2), (xi.trans hx.1).trans g3.x, sb2.1.trans sb.1, fun j hj => (sb2.2 j hj).trans (sb.2 j hj)⟩
  · rintro σ' H' ⟨ρi, si, tgi, hf, Si, ki, xi, sb⟩
    rw [List.drop_length] at hf
    cases hf
    exact hD σ' H' tgi (k1.trans ki) (g1.x.trans xi) Si sb
end
section
variable {P : Program} {w : World} {K : PySem.W.Frag} {mg : Str → Option Value} {base : Heap} {k : Nat} {f : Addr} {fd : FuncData} {N ps : List Str} {qual : Str} {st : Stmt} {Γa Γc : List Md} {js : List Nat}
  {Fe0 Fe1 Fe2 : EF} {Ft1 Ft2 Ft3 : TF} {Fi : IF} {g : GF} {c n np i0 : Nat} {f1 f2 y : Str} {p1 p2 p3 p4 p5 q1 q2 q3 q4 q5 q6 q7 : Pos} {e0 e1 e2 cc1 cc2 cc3 tge iter : Expr} {rb1 rb2 rb3 : List Stmt}
theorem init_ok (Fu : L2.Fun K "__init__" qual st f fd) (Sc : FnScope N ps (defScope st)) (hnp : ps.length = np) (hn : N.length = n)
    (hbody : defBody st = [.Assign [.Name y p1] e0 q1, .If cc1 rb1 [] q2, .Assign [.Attribute (.Name "self" p2) f1 p3] e1 q3, .If cc2 rb2 [] q4, .For tge iter [.If cc3 rb3 [] q5] [] q6, .Assign [.Attribute (.Name "self" p4) f2 p5] e2 q7])
    (hC : Cls K (T.cls c)) (a1 : NoAttr K (T.cls c) f1) (a2 : NoAttr K (T.cls c) f2) (hf : f1 ≠ f2) (h0 : i0 ≠ 0) (h0n : i0 < Γa.length) (hjs : 0 ∉ js) (hi0 : np ≤ i0) (hN0 : N[0]? = some ("self" : Str)) (hNi : N[i0]? = some y)
    (hΓa : ∀ i < np, 0 < i → Γa.getD i .atom = .sh false) (hΓc : ∀ i < np, Γc.getD i .atom = .sh false) (hleG : leG Γc Γ1 = true)
    (hd : ∀ (cdv : Value) (A : Around) (outer : List PySem.Env) (sh : Shared) (H : Hp) (E : XK), Room k (A.deeper (PyProof.Rows.envOfC qual (defScope st) sh.heap.objs.size f cdv)) →
      ∀ X, X = cxOf (L2.CX P w) P w K mg base N qual (defScope st) f cdv A outer sh H E →
        DE T X E Γa e0 Fe0 .atom Γa ∧ DT T X E (Γa.set i0 .atom) cc1 Ft1 (Γa.set i0 .atom) ∧ DE T X E (Γa.set i0 .atom) e1 Fe1 (.ow .e) (Γa.set i0 .atom) ∧ DT T X E Γc cc2 Ft2 Γc ∧ DI T X E Γc tge iter Fi (.sh false) ∧ DG T X (.sh false) js Γ1 tge g Γ1 ∧ DT T X E Γ1 cc3 Ft3 Γ1 ∧ DE T X E Γ1 e2 Fe2 (.ow .e) Γ1 ∧
        swapsWith e0 (some (.Name y p1)) q1.line X.env = pure false ∧ swapsWith e1 (some (.Attribute (.Name "self" p2) f1 p3)) q3.line X.env = pure false ∧ swapsWith e2 (some (.Attribute (.Name "self" p4) f2 p5)) q7.line X.env = pure false ∧
        Loc X.env.scope y ∧ (X.fn y = true ∨ X.env.scope.names.lookup y = some .local) ∧ Vis X.env.scope "self" ∧ (∀ x, foldedSetIterable iter X.env x = pure x)) :
    FnOk P w K mg base (L2.CX P w) (k + 1) f fd ps (spInit T c (initF n i0 Fe0 Ft1 Fe1 f1 c Ft2 Fi g Ft3 Fe2 f2 np)) := by
  have hlen : ∀ {vs : List V} {H : Hp} {Q : VK} {E : XK}, spInit T c (initF n i0 Fe0 Ft1 Fe1 f1 c Ft2 Fi g Ft3 Fe2 f2 np) vs H Q E → vs.length = ps.length := by
    rintro vs H Q E ⟨x, dx, Hc, args, Q', rfl, rfl, _, _, _, _, S0, ds, s, r, s', _, hr, _, hF, _⟩
    rw [List.length_cons, hr.len, hnp]
    rcases ifM hF with ⟨q, _⟩ | ⟨_, q⟩
    · exact q
    · cases q
  refine Fu.okX Sc (fun vs H Q E h => hlen h) (fun cdv A outer sh HH vs Q E hr h => ?_)
  have hl := hlen h
  obtain ⟨x, dx, Hc, args, Q', rfl, rfl, hx, hdx, hxd, hQ', S0, ds, s, r, s', hS, hv, hst, hF, hq⟩ := h
  obtain ⟨d1', d2', d3', d4', d5', d6', d7', d8', w1, w2, w3, l1, l2, l3, l4⟩ := hd cdv A outer sh _ E hr _ rfl
  generalize hX : cxOf (L2.CX P w) P w K mg base N qual (defScope st) f cdv A outer sh (upd (upd Hc dx (.own x)) x (.ins (T.cls c) dx [])) E = X at *
  have eN : X.N = N := by rw [← hX]; rfl
  have eK : X.K = K := by rw [← hX]; rfl
  have ec : X.calm = true := by rw [← hX]; rfl
  have ep : PassesOwn (model X.prog X.w) X.A X.env X.xe := by rw [← hX]; exact passes_of rfl
  refine ⟨_, WSs.pss, ?_⟩
  rw [hbody]
  -- the run
  rcases ifM hF with ⟨hlenD, hF⟩ | ⟨_, q⟩
  rotate_left
  · cases q
  -- the heap with the new instance
  generalize hH1 : upd (upd Hc dx (.own x)) x (.ins (T.cls c) dx []) = H1 at *
  have xs1 : H1 x = some (.ins (T.cls c) dx []) := by rw [← hH1, upd_same]
  have up1 : ∀ a o, Hc a = some o → H1 a = some o := fun a o e => by
    rw [← hH1, upd_ne (ne_of_none e hx), upd_ne (ne_of_none e hdx)]; exact e
  have st1 : StmAt T H1 s := ⟨up1 _ _ hst.1, up1 _ _ hst.2⟩
  have xc1 : DL.Ext T Hc H1 := fun a o e _ _ => up1 a o e
  have nx : ∀ a, Hc a ≠ none → a ≠ x := fun a n z => n (z ▸ hx)
  have hS1 : ∀ a, S0 a → anyS T H1 a := fun a z => ⟨xc1.some hst st1 (hS a z).1, (hS a z).2⟩
  have args1 : RepL T H1 S0 args ds := hv.keep fun a o e _ => up1 a o e
  have hN : np ≤ N.length := by have := congrArg List.length Sc.pre; rw [List.length_take] at this; omega
  -- the slots of the arguments
  have slots : ∀ {H' : Hp} {SS : Addr → Prop}, RepL T H' SS args ds → ∀ (o : Option DL.D) (i : Nat) (d : DL.D), (initE n np o ds)[i]? = some (some d) → i = 0 ∧ o = some d ∨ (0 < i ∧ i < np ∧ ∃ v, (L2.start N (.ref x :: args))[i]? = some (some v) ∧ Rep T H' SS v d) := fun {H' SS} ra o i d e => by
    cases i with
    | zero => exact .inl ⟨rfl, by simpa [initE] using e⟩
    | succ i =>
      refine .inr ⟨Nat.succ_pos _, ?_⟩
      have e2 : (((D.opq (.ref x)) :: ds).map some ++ List.replicate (N.length - ((D.opq (.ref x)) :: ds).length) none)[i + 1]? = some (some d) := by
        rw [show N.length - ((D.opq (.ref x)) :: ds).length = n - np by rw [hn, List.length_cons, hlenD]]
        simpa [initE] using e
      obtain ⟨v, h1, h2⟩ := (RepL.cons (.opq (.ref x)) ra : RepL T H' SS (.ref x :: args) (.opq (.ref x) :: ds)).at N (i + 1) d e2
      refine ⟨?_, v, h1, h2⟩
      by_cases z : i + 1 < np
      · exact z
      · exfalso
        rw [List.getElem?_append_right (by simp [hlenD]; omega)] at e2
        simp [List.getElem?_replicate] at e2
  have slen : (L2.start N (.ref x :: args)).length = N.length := by
    unfold L2.start; rw [List.length_append, List.length_map, List.length_replicate, List.length_cons, hv.len, hlenD]; omega
  have elen : ∀ o, (initE n np o ds).length = N.length := fun o => by
    unfold initE; rw [List.length_cons, List.length_append, List.length_map, List.length_replicate]; omega
  have self0 : (L2.start N (.ref x :: args))[0]? = some (some (.ref x)) := by simp [L2.start]
  -- i0 = e0
  obtain ⟨tg1, Sa⟩ : ∃ tg, Sta T H1 S0 Γa (initE n np none ds) s (L2.start N (.ref x :: args)) H1 tg := Sta.start0 hS1 (by rw [slen, elen]) st1 fun i d e => by
    rcases slots args1 none i d e with ⟨_, q⟩ | ⟨q1, q2, q3⟩
    · cases q
    · exact ⟨.inl (hΓa i q2 q1), q3⟩
  refine WSs.of (pss_cons (ps_set (eN ▸ Sc.nd) (eN ▸ hNi) l1 WE.pe w1 l2) (WSs.pss)) ?_
  show WE X e0 _ _ _
  have errK : ∀ {α : Type} {H' : Hp} {r' : Except Exn α} {s'' : Strm}, DL.Ext T Hc H' → (∀ x, r' = .error x → r = .error x ∧ s'' = s') → ErrK T E H' s'' r' := fun {α H' r' s''} xe hh x' e c' dx' H2 t => by
    obtain ⟨e1, e2⟩ := hh x' e
    subst e1; subst e2
    exact hq c' dx' H2 ⟨t.1, xe.trans t.2.1, t.2.2⟩
  refine d1'.seq Sa hF (errK xc1 fun x e => ⟨e, rfl⟩) fun d0 s1 v0 H2 tg2 hk g2 S2 r0 e2 => ?_
  obtain S2b := S2.bind (i := i0) (fun a h => h) h0n (by exact fun q => by cases q) r0
  -- the first test
  refine WSs.of (pss_cons (ps_if WT.pt WSs.pss pss_nil) WSs.pss) ?_
  refine d2'.seq S2b hk (errK (xc1.trans g2.x) fun x e => ⟨e, rfl⟩) fun b s2 H3 tg3 hk2 g3 S3 e3 => ?_
  cases b with
  | true => cases hk2
  | false =>
  refine iteF ?_
  -- self.f1 = e1
  refine WSs.of (pss_cons (ps_fld (pe_var (eN ▸ hN0) l3) WE.pe w2) WSs.pss) ?_
  have x13 : DL.Ext T H1 H3 := g2.x.trans g3.x
  refine d3'.seq S3 hk2 (errK (xc1.trans x13) fun x e => ⟨e, rfl⟩) fun d1 s3 v1 H4 tg4 hk3 g4 S4 r1 e4 => ?_
  have x14 : DL.Ext T H1 H4 := x13.trans g4.x
  have nst : x ≠ T.st ∧ x ≠ T.sl := ⟨(fun z => by rw [z, hst.1] at hx; cases hx), (fun z => by rw [z, hst.2] at hx; cases hx)⟩
  have xs4 : H4 x = some (.ins (T.cls c) dx []) := x14 _ _ xs1 nst.1 nst.2
  refine ⟨.ref x, by rw [List.getElem?_set_ne h0]; exact self0, x, T.cls c, dx, [], rfl, xs4, eK ▸ hC, eK ▸ a1, (by show 0 < 1000; decide), ?_⟩
  rcases ifM hk3 with ⟨pl1, hk3⟩ | ⟨_, q⟩
  rotate_left
  · cases q
  show WSs X _ _ _ _
  have hput : putF f1 v1 [] = [(f1, v1)] := rfl
  rw [hput]
  -- anew
  have u14 : ∀ a, H1 a ≠ none → H4 a ≠ none := fun a n => x14.some st1 S4.stm n
  have k45 : ∀ a o, a ≠ x → H4 a = some o → upd H4 x (.ins (T.cls c) dx [(f1, v1)]) a = some o := fun a o n e => by rw [upd_ne n]; exact e
  generalize hH5 : upd H4 x (.ins (T.cls c) dx [(f1, v1)]) = H5 at *
  have xs5 : H5 x = some (.ins (T.cls c) dx [(f1, v1)]) := by rw [← hH5, upd_same]
  have st5 : StmAt T H5 s3 := ⟨k45 _ _ (Ne.symm nst.1) S4.stm.1, k45 _ _ (Ne.symm nst.2) S4.stm.2⟩
  have xc5 : DL.Ext T Hc H5 := fun a o e h1 h2 => k45 a o (nx a (by rw [e]; simp)) (x14 a o (up1 a o e) h1 h2)
  have new1 : Rep T H4 (nwS H1 H4) v1 d1 := RepO.flat r1 (fun a z => ⟨S3.born z.1, z.2.1⟩) fun a z => ⟨S3.born z.1, z.2.1⟩
  have nwx : ∀ {H' : Hp} a, nwS H1 H' a → a ≠ x := fun {H'} a z q => by have z1 := z.1; rw [q, xs1] at z1; cases z1
  have new5 : Rep T H5 (nwS H1 H4) v1 d1 := Rep.plainK (fun b o e z => k45 b o (by
    rcases z with z | ⟨xs, rfl⟩
    · exact nwx b z
    · rintro rfl; rw [xs4] at e; cases e) e) d1 v1 pl1 new1
  have hS5 : ∀ a, (S0 a ∨ nwS H1 H4 a) → anyS T H5 a := fun a z => by
    rcases z with z | z
    · exact ⟨xc5.some hst st5 (hS a z).1, (hS a z).2⟩
    · refine ⟨?_, ?_, ?_⟩
      · cases e : H4 a with
        | none => exact absurd e z.2
        | some o => rw [k45 a o (nwx a z) e]; simp
      · rintro rfl; have z1 := z.1; rw [st1.1] at z1; cases z1
      · rintro rfl; have z1 := z.1; rw [st1.2] at z1; cases z1
  have args5 : RepL T H5 (fun a => S0 a ∨ nwS H1 H4 a) args ds := (hv.keep (Keep.ofExt xc5 hst (fun z => (hS _ z).2.1 rfl) fun z => (hS _ z).2.2 rfl)).mono fun a z => .inl z
  have selfR : Rep T H5 (fun a => S0 a ∨ nwS H1 H4 a) (.ref x) (.obj c [(f1, d1)]) := .obj xs5 rfl (.one (new5.mono fun a z => .inr z))
  obtain ⟨tg5, S5⟩ : ∃ tg, Sta T H5 (fun a => S0 a ∨ nwS H1 H4 a) Γc (initE n np (some (.obj c [(f1, d1)])) ds) s3 ((L2.start N (.ref x :: args)).set i0 (some v0)) H5 tg := Sta.start0 hS5 (by rw [List.length_set, slen, elen]) st5 fun i d e => by
    rcases slots args5 _ i d e with ⟨rfl, q⟩ | ⟨q1, q2, v, q3, q4⟩
    · cases q
      have : 0 < np := by omega
      exact ⟨.inl (hΓc 0 this), .ref x, by rw [List.getElem?_set_ne h0]; exact self0, selfR⟩
    · exact ⟨.inl (hΓc i q2), v, by rw [List.getElem?_set_ne (by omega)]; exact q3, q4⟩
  -- the second test
  refine WSs.of (pss_cons (ps_if WT.pt WSs.pss pss_nil) WSs.pss) ?_
  refine d4'.seq S5 hk3 (errK xc5 fun x e => ⟨e, rfl⟩) fun b s4 H6 tg6 hk4 g6 S6 e6 => ?_
  cases b with
  | true => cases hk4
  | false =>
  refine iteF ?_
  -- the loop
  have x56 := g6.x
  rcases M.bind_some hk4 with ⟨xx, h1, rfl⟩ | ⟨items, s5, h1, hk5⟩
  · obtain ⟨_, z, _⟩ := noErr_some h1; cases z
  obtain ⟨_, z, h1⟩ := noErr_some h1
  cases z
  rcases M.bind_some hk5 with ⟨xx, h2, rfl⟩ | ⟨ρ3, s6, h2, hk6⟩
  · obtain ⟨_, z, _⟩ := noErr_some h2; cases z
  obtain ⟨_, z, h2⟩ := noErr_some h2
  cases z
  refine WSs.of (pss_cons WS.ps WSs.pss) ?_
  refine for_tests d5' (.inr ⟨_, rfl⟩) d6' d7' hleG ec ep S6 h1 h2 (fun σ' H7 tg7 k7 x67 S7 sb => ?_) l4
  -- self.f2 = e2
  refine WSs.of (pss_one (ps_fld (pe_var (eN ▸ hN0) l3) WE.pe w3)) ?_
  have x57 : DL.Ext T H5 H7 := x56.trans x67
  refine d8'.seq S7 hk6 (errK (xc5.trans x57) fun x e => ⟨e, rfl⟩) fun d2 s7 v2 H8 tg8 hk7 g8 S8 r2 e8 => ?_
  have x58 : DL.Ext T H5 H8 := x57.trans g8.x
  have xs8 : H8 x = some (.ins (T.cls c) dx [(f1, v1)]) := x58 _ _ xs5 nst.1 nst.2
  refine ⟨.ref x, by rw [sb.2 0 hjs, List.getElem?_set_ne h0]; exact self0, x, T.cls c, dx, [(f1, v1)], rfl, xs8, eK ▸ hC, eK ▸ a2, (by show 1 < 1000; decide), ?_⟩
  rcases ifM hk7 with ⟨pl2, hk7⟩ | ⟨_, q⟩
  rotate_left
  · cases q
  cases hk7
  have hput2 : putF f2 v2 [(f1, v1)] = [(f1, v1), (f2, v2)] := by show (if f1 = f2 then _ else (f1, v1) :: putF f2 v2 []) = _; rw [if_neg hf]; rfl
  show Q .non _
  rw [hput2]
  have k89 : ∀ a o, a ≠ x → H8 a = some o → upd H8 x (.ins (T.cls c) dx [(f1, v1), (f2, v2)]) a = some o := fun a o n e => by rw [upd_ne n]; exact e
  generalize hH9 : upd H8 x (.ins (T.cls c) dx [(f1, v1), (f2, v2)]) = H9 at *
  have xs9 : H9 x = some (.ins (T.cls c) dx [(f1, v1), (f2, v2)]) := by rw [← hH9, upd_same]
  have st9 : StmAt T H9 s' := ⟨k89 _ _ (Ne.symm nst.1) S8.stm.1, k89 _ _ (Ne.symm nst.2) S8.stm.2⟩
  have xc9 : DL.Ext T Hc H9 := fun a o e h1 h2 => k89 a o (nx a (by rw [e]; simp)) (x58 a o (xc5 a o e h1 h2) h1 h2)
  have nn : ∀ a, H8 a ≠ none → H9 a ≠ none := fun a n => by
    by_cases z : a = x
    · rw [z, xs9]; simp
    · cases e : H8 a with
      | none => exact absurd e n
      | some o => rw [k89 a o z e]; simp
  have u48 : ∀ a, a ≠ x → H4 a ≠ none → H8 a ≠ none := fun a nz n => by
    cases e : H4 a with
    | none => exact absurd e n
    | some o => exact x58.some st5 S8.stm (by rw [k45 a o nz e]; simp)
  have r19 : Rep T H9 (nwS Hc H9) v1 d1 := (Rep.plainK (H' := H9) (fun b o e z => by
    have nb : b ≠ x := by
      rcases z with z | ⟨xs, rfl⟩
      · exact nwx b z
      · rintro rfl; rw [xs5] at e; cases e
    refine k89 b o nb (x58 b o e ?_ ?_)
    · rintro rfl
      rcases z with z | ⟨xs, rfl⟩
      · have z1 := z.1; rw [st1.1] at z1; cases z1
      · rw [st5.1] at e; cases e
    · rintro rfl
      rcases z with z | ⟨xs, rfl⟩
      · have z1 := z.1; rw [st1.2] at z1; cases z1
      · rw [st5.2] at e; cases e) d1 v1 pl1 new5).mono fun a z => by
      refine ⟨?_, nn a (u48 a (nwx a z) z.2)⟩
      cases q : Hc a with
      | none => rfl
      | some o => have z1 := z.1; rw [up1 a o q] at z1; cases z1
  have new2 : Rep T H8 (nwS H5 H8) v2 d2 := RepO.flat r2 (fun a z => ⟨S7.born z.1, z.2.1⟩) fun a z => ⟨S7.born z.1, z.2.1⟩
  have nwx2 : ∀ a, nwS H5 H8 a → a ≠ x := fun a z q => by have z1 := z.1; rw [q, xs5] at z1; cases z1
  have r29 : Rep T H9 (nwS Hc H9) v2 d2 := (Rep.plainK (H' := H9) (fun b o e z => k89 b o (by
      rcases z with z | ⟨xs, rfl⟩
      · exact nwx2 b z
      · rintro rfl; rw [xs8] at e; cases e) e) d2 v2 pl2 new2).mono fun a z => by
      refine ⟨?_, nn a z.2⟩
      have z1 := z.1
      cases q : Hc a with
      | none => rfl
      | some o =>
        exfalso
        by_cases h1 : a = T.st
        · rw [h1, st5.1] at z1; cases z1
        · by_cases h2 : a = T.sl
          · rw [h2, st5.2] at z1; cases z1
          · rw [xc5 a o q h1 h2] at z1; cases z1
  refine hQ' H9 (hq (.ref x) H9 xc9 st9 ?_)
  have rfin : Rep T H9 (nwS Hc H9) (.ref x) (.obj c [(f1, d1), (f2, d2)]) := .obj xs9 rfl (.cons r19 (.one r29))
  exact rfin
end
end
end DL
end
section
set_option autoImplicit false
namespace DL
open PySem PySem.Spec L2
open Classical in
/-- the truth of a pure answer -/
noncomputable def pureF (F : List D → M D) (ds : List D) : Option Bool := if h : ∃ b : Bool, ∀ s, F ds s = some (.ok (.bl b), s) then some (Classical.choose h) else none
def typed (c : Nat) : D → Bool
  | .stm => false
  | .opq _ => false
  | .obj c' _ => c' == c
  | _ => true
noncomputable def eqO (c : Nat) (F : List D → M D) (d e : D) : Option D := match d with
  | .obj c' fs => if c' = c ∧ typed c e = true then (pureF F [.obj c' fs, e]).map .bl else none
  | _ => none
section
section
end
end
end DL
end
section
set_option autoImplicit false
namespace DL
open PySem PySem.Spec L2
inductive All2 {α β : Type} (R : α → β → Prop) : List α → List β → Prop
  | nil : All2 R [] []
  | cons {a b xs ys} (h : R a b) (t : All2 R xs ys) : All2 R (a :: xs) (b :: ys)
def byName {α : Type} (ps ks : List Str) (zs : List α) : List α := ps.filterMap fun p => (ks.zip zs).lookup p
theorem lookup_rel {α β : Type} {R : α → β → Prop} (p : Str) : ∀ (ks : List Str) {zs : List α} {ws : List β}, All2 R zs ws → ((ks.zip zs).lookup p = none ∧ (ks.zip ws).lookup p = none) ∨ ∃ a b, (ks.zip zs).lookup p = some a ∧ (ks.zip ws).lookup p = some b ∧ R a b
  | [], _, _, _ => .inl ⟨rfl, rfl⟩
  | _ :: _, [], [], _ => .inl ⟨rfl, rfl⟩
  | k :: ks, a :: zs, b :: ws, .cons h t => by
    simp only [List.zip_cons_cons, List.lookup_cons]
    cases e : p == k with
    | true => exact .inr ⟨a, b, rfl, rfl, h⟩
    | false => exact lookup_rel p ks t
theorem byName_rel {α β : Type} {R : α → β → Prop} {ks : List Str} {zs : List α} {ws : List β} (h : All2 R zs ws) : ∀ ps : List Str, All2 R (byName ps ks zs) (byName ps ks ws)
  | [] => .nil
  | p :: ps => by
    have ih := byName_rel (ks := ks) h ps
    unfold byName at ih ⊢
    rcases lookup_rel p ks h with ⟨h1, h2⟩ | ⟨a, b, h1, h2, h3⟩
    · simp only [List.filterMap_cons, h1, h2]; exact ih
    · simp only [List.filterMap_cons, h1, h2]; exact .cons h3 ih
theorem vals_all {vs : List V} {us : List Value} : Vals vs us ↔ All2 RelV vs us := by
  constructor
  · intro h
    induction h with
    | nil => exact .nil
    | cons a _ ih => exact .cons a ih
  · intro h
    induction h with
    | nil => exact .nil
    | cons a _ ih => exact .cons a ih
theorem repL_all {T : Cfg} {H : Hp} {S : Addr → Prop} : ∀ {vs : List V} {ds : List D}, RepL T H S vs ds ↔ All2 (fun v d => Rep T H S v d) vs ds
  | [], ds => ⟨fun h => by cases h; exact .nil, fun h => by cases h; exact .nil⟩
  | v :: vs, ds => ⟨fun h => by cases h with | cons a b => exact .cons a (repL_all.mp b), fun h => by cases h with | cons a b => exact .cons a (repL_all.mpr b)⟩
theorem Vals.append {vs us zs ws} (h : Vals vs us) (k : Vals zs ws) : Vals (vs ++ zs) (us ++ ws) := by
  induction h with
  | nil => exact k
  | cons a _ ih => exact .cons a ih
theorem kbn_of {K : PySem.W.Frag} {fd : FuncData} {ps ks : List Str} (hto : ∀ (u : Value) (ws : List Value), ws.length = ks.length → bindArgs fd ⟨[u], ks.zip ws⟩ = pure ((("self" : Str) :: ps).zip (u :: byName ps ks ws))) :
    KBn K fd (("self" : Str) :: ps) 1 ks (fun us ws => us ++ byName ps ks ws) (fun vs zs => vs ++ byName ps ks zs) := by
  refine ⟨fun s us ws _ h1 h2 => ?_, fun h1 h2 => Vals.append h1 (vals_all.mpr (byName_rel (vals_all.mp h2) ps))⟩
  match us, h1 with
  | [u], _ => exact .of_eq (hto u ws h2)
/-- a class that is called, in one -/
structure CalC (T : Cfg) (P : Program) (w : World) (K : PySem.W.Frag) (mg : Str → Option Value) (base : Heap) (k : Nat) (c : Nat) (x : Str) (ps : List Str) (F : List D → M D) : Prop where
  ex : ∃ fI fd sp, Mk K (T.cls c) fI ∧ FnOk P w K mg base (L2.CX P w) k fI fd (("self" : Str) :: ps) sp ∧ MadeBy T (T.cls c) .xc F sp ∧ mg x = some (.ref (T.cls c)) ∧ Binds K fd (("self" : Str) :: ps) [] ∧
    ∀ ks, ks.length = ps.length → ks.Nodup → (∀ y ∈ ks, y ∈ ps) → ∃ g gV, KBn K fd (("self" : Str) :: ps) 1 ks g gV ∧ ∀ y zs, gV [y] zs = y :: byName ps ks zs
section
variable {T : Cfg} {Γ Γ1 : List Md} {m : Md} {X : Cx} {E : XK} {e : Expr} {es : List Expr} {pos p : Pos} {x : Str}
theorem de_makeP {c k : Nat} {ps : List Str} {Fc : List D → M D} {Fs : AF} (G : CalC T X.prog X.w X.K X.mg X.base k c x ps Fc) (hr : Room (k + 1) X.A) (hx : Passes (L2.CX X.prog X.w) X E)
    (ha : DA T X E Γ (e :: es) Fs m Γ1) (hg : Gl X x := by rfl) (hm : m.flat = true := by rfl)
    (hdb : (x == ("__debug__" : Str)) = false := by decide) (he : starEach (e :: es) X.env = (false, eval e X.env) :: starEach es X.env := by rfl) (hpl : (backTo pos (starEach es X.env)).any (·.1) = false := by rfl) :
    DE T X E Γ (.Call (.Name x p) (e :: es) [] pos) (fFn Fc Fs) .xc Γ1 := by
  obtain ⟨fI, fd, sp, h1, h2, h3, h4, h5, _⟩ := G.ex
  exact de_make h1 h2 h3 hr h4 h5 hx ha hg hm (by rintro ⟨_, q⟩; cases q) hdb he hpl
theorem alen_nil {n : Nat} (hn : 0 = n := by rfl) : ∀ ρ s ds s', aNil ρ s = some (.ok ds, s') → ds.length = n := fun _ _ _ _ h => by cases h; exact hn
theorem alen_cons {n : Nat} {Fa : EF} {Fs : AF} (h : ∀ ρ s ds s', Fs ρ s = some (.ok ds, s') → ds.length = n) : ∀ ρ s ds s', aCons Fa Fs ρ s = some (.ok ds, s') → ds.length = n + 1 := fun ρ s ds s' q => by
  rcases M.bind_some q with ⟨x, _, z⟩ | ⟨d, s1, _, h2⟩
  · cases z
  rcases M.bind_some h2 with ⟨x, _, z⟩ | ⟨ds', s2, h3, h4⟩
  · cases z
  cases h4
  rw [List.length_cons, h _ _ _ _ h3]
end
end DL
end
section
set_option autoImplicit false
namespace DL
open PySem PySem.Spec L2
/-- dict([(k, v), ..]) -/
def mergeP : List (D × D) → List D → Option (List (D × D))
  | acc, [] => some acc
  | acc, .tup [k, v] :: r => (kOf k).bind fun key => mergeP (putL acc (fun d => decide (kOf d = some key)) k v) r
  | _, _ :: _ => none
def dictD : List D → Option D
  | [.lst xs] => (mergeP [] xs).map (.dic false)
  | _ => none
section
variable {T : Cfg} {H0 H H' H1 H2 H3 : Hp} {S0 SS : Addr → Prop} {Γ Γ' Γ1 Γ2 Γ3 : List Md} {ρ ρ' : Env} {s s' s1 s2 : Strm} {σ : St} {tg tg' tg1 tg2 : Tags} {v w : V} {d c : D} {vs : List V} {ds : List D} {m m' : Md} {rm : Rm}
variable {X : Cx} {E : XK} {e a b : Expr} {es : List Expr} {F Fa Fb : EF} {pos p : Pos} {x : Str}
theorem merge_rep : ∀ (es : List D) (vs : List V) (acc : List (D × D)) (xs : List (Key × V)) (r : List (D × D)), RepL T H SS vs es → acc.map (·.1) = xs.map (fun p => kD p.1) → RepL T H SS (xs.map (·.2)) (acc.map (·.2)) → mergeP acc es = some r →
    ∃ (ps : List Addr) (kvs : List (Key × V)), vs = ps.map V.ref ∧ Paired (fun p kv => H p = some (.tup [kV kv.1, kv.2])) ps kvs ∧ r.map (·.1) = (mergeK xs kvs).map (fun p => kD p.1) ∧ RepL T H SS ((mergeK xs kvs).map (·.2)) (r.map (·.2))
  | [], vs, acc, xs, r, h1, h2, h3, h4 => by
    cases h1
    cases h4
    exact ⟨[], [], rfl, .nil, h2, h3⟩
  | e :: es, vs, acc, xs, r, h1, h2, h3, h4 => by
    obtain ⟨v, vs', rfl, r1, r2⟩ := h1.consL
    unfold mergeP at h4
    split at h4
    · next he => cases he
    · next acc' k u es' he =>
      cases he
      obtain ⟨key, hk, h5⟩ := Option.bind_eq_some_iff.mp h4
      cases r1 with
      | tup hH rr =>
        obtain ⟨v1, w1, rfl, q1, q2⟩ := rr.consL
        obtain ⟨v2, w2, rfl, q3, q4⟩ := q2.consL
        have := q4.nilL; subst this
        have ek := kD_kOf hk
        subst ek
        have ev : v1 = kV key := by cases key <;> (cases q1; rfl)
        subst ev
        obtain ⟨p1, p2⟩ := put_rep (T := T) (H := H) (SS := SS) (of := kOf) (enc := kD) kOf_kD key q3 _ xs h2 h3
        obtain ⟨ps, kvs, e1, e2, e3, e4⟩ := merge_rep es vs' _ _ r r2 p1 p2 h5
        subst e1
        exact ⟨_ :: ps, (key, v2) :: kvs, rfl, .cons hH e2, e3, e4⟩
    · cases h4
theorem paired_imp {α β : Type} {R S : α → β → Prop} (h : ∀ a b, R a b → S a b) {xs : List α} {ys : List β} (p : Paired R xs ys) : Paired S xs ys := by
  induction p with
  | nil => exact .nil
  | cons a _ ih => exact .cons (h _ _ a) ih
theorem v_dict (hcalm : X.calm = true) : CallV T X (.type "dict") dictD .top := by
  intro H s SS vs ds c st hS r hf Q hQ
  match ds, r, hf with
  | [.lst xs], r, hf =>
    obtain ⟨kvs, hm, rfl⟩ := Option.map_eq_some_iff.mp hf
    obtain ⟨v, rfl, r1⟩ := r.one1
    cases r1 with | lst _ e q =>
    obtain ⟨ps, kv, e1, e2, e3, e4⟩ := merge_rep xs _ [] [] kvs q rfl .nil hm
    subst e1
    refine WC.of (call_dictP hcalm) ⟨_, ps, kv, rfl, SqL.of e, paired_imp (fun _ _ h => SqT.of h) e2, fun p hp => ?_⟩
    have x3 : Ext T H (upd H p (.dK (mergeK [] kv))) := Ext.new hp
    have ne1 : T.st ≠ p := fun z => by rw [← z, st.1] at hp; cases hp
    have ne2 : T.sl ≠ p := fun z => by rw [← z, st.2] at hp; cases hp
    refine hQ _ _ x3 ⟨by rw [upd_ne ne1]; exact st.1, by rw [upd_ne ne2]; exact st.2⟩ ?_
    have kp : Keep SS H (upd H p (.dK (mergeK [] kv))) := Keep.ofExt x3 st (fun h => (hS _ h).2.1 rfl) (fun h => (hS _ h).2.2 rfl)
    refine ⟨p, _, rfl, ⟨hp, by rw [upd_same]; simp⟩, upd_same, e3, (e4.keep kp).mono fun a h => ⟨h, ?_⟩⟩
    rintro rfl
    exact (hS _ h).1 hp
theorem de_isi3 {t1 t2 t3 : TC} {c1 c2 c3 : Expr} {k0 : Nat} {tpos : Pos} (O : KO T X.K) (hm0 : X.mg "isinstance" = none) (hc1 : CNm T X c1 t1) (hc2 : CNm T X c2 t2) (hc3 : CNm T X c3 t3) (ha : DE T X E Γ a Fa m Γ1) (hg : Gl X "isinstance" := by rfl)
    (he : starEach (a :: [.Tuple [c1, c2, c3] k0 tpos]) X.env = (false, eval a X.env) :: starEach [.Tuple [c1, c2, c3] k0 tpos] X.env := by rfl) (he2 : starEach (.Tuple [c1, c2, c3] k0 tpos :: []) X.env = (false, eval (.Tuple [c1, c2, c3] k0 tpos) X.env) :: starEach [] X.env := by rfl)
    (he3 : starEach (c1 :: [c2, c3]) X.env = (false, eval c1 X.env) :: starEach [c2, c3] X.env := by rfl) (he4 : starEach (c2 :: [c3]) X.env = (false, eval c2 X.env) :: starEach [c3] X.env := by rfl) (he5 : starEach (c3 :: []) X.env = (false, eval c3 X.env) :: starEach [] X.env := by rfl) (hpl : (backTo pos (starEach [.Tuple [c1, c2, c3] k0 tpos] X.env)).any (·.1) = false := by rfl) :
    DE T X E Γ (.Call (.Name "isinstance" p) [a, .Tuple [c1, c2, c3] k0 tpos] [] pos) (fIsi [t1, t2, t3] Fa) .atom Γ1 := by
  refine ⟨?_⟩
  intro H0 S0 ρ s σ H tg S r s' hF Q hQ
  refine WE.of (pe_callB call_isiT hg hm0 (by decide +kernel) (pa_cons WE.pe (pa_cons (pe_tup (pa_cons hc1.pe (pa_cons hc2.pe (pa_cons hc3.pe pa_nil he5) he4) he3)) pa_nil he2) he) (by decide) (by decide) he hpl) ?_
  show WE X a σ H fun x H1 => ([t1.cv T, t2.cv T, t3.cv T] : List V).length ≤ sizeLine ∧ ∀ q, H1 q = none → rIsiT X.K [x, .ref q] (upd H1 q (.tup [t1.cv T, t2.cv T, t3.cv T])) Q
  refine ha.seq S hF hQ.ek fun d s1 v H1 tg1 hk g1 S1 r1 e1 => ?_
  obtain ⟨cd, hcd, rfl, rfl⟩ := M.of_some hk
  obtain ⟨b, hb, rfl⟩ := map_bl hcd
  refine ⟨by show 3 ≤ sizeLine; decide, fun q hq => ?_⟩
  obtain ⟨k1, h1⟩ := isiD_first hb
  obtain ⟨t, ht, hk2⟩ := ty_run O (rep_any S S1 r1) (isC_no h1).1 (isC_no h1).2
  obtain ⟨x3, st3, _⟩ := RV.tup (SS := fun _ => False) S1.stm (fun _ h => h.elim) hq (.nil : RepL T H1 (fun _ => False) [] [])
  have x3 : Ext T H1 (upd H1 q (.tup [t1.cv T, t2.cv T, t3.cv T])) := Ext.new hq
  have ne1 : T.st ≠ q := fun z => by rw [← z, S1.stm.1] at hq; cases hq
  have ne2 : T.sl ≠ q := fun z => by rw [← z, S1.stm.2] at hq; cases hq
  have st3 : StmAt T (upd H1 q (.tup [t1.cv T, t2.cv T, t3.cv T])) _ := ⟨by rw [upd_ne ne1]; exact S1.stm.1, by rw [upd_ne ne2]; exact S1.stm.2⟩
  exact ⟨v, q, _, t, _, b, rfl, upd_same, .cons t1.clsV (.cons t2.clsV (.cons t3.clsV .nil)), tyx_upd hq ht, kit_any hk2 hb, hQ _ _ tg1 (g1.trans (Go.lay S1 x3 st3)) (S1.ext0 x3 st3) (.bl _)⟩
end
end DL
end
section
set_option autoImplicit false
namespace DL
open PySem PySem.Spec L2
inductive AtV : V → Prop where
  | non : AtV .non
  | bl (b : Bool) : AtV (.bl b)
  | int (i : Int) : AtV (.int i)
  | str (x : Str) : AtV (.str x)
def IsO (T : Cfg) (H : Hp) (v : V) : Prop := ∃ a k dx fs, v = .ref a ∧ H a = some (.ins (T.cls k) dx fs)
/-- all within v: lists of S (no longer than B), tuples, instances, atoms; at most n deep; at most c visits -/
def Dq (T : Cfg) (H : Hp) (S : Addr → Prop) (B : Nat) : Nat → Nat → V → Prop
  | 0, _, v => AtV v ∨ IsO T H v
  | n + 1, c, v => AtV v ∨ IsO T H v ∨ ∃ a xs cs, v = .ref a ∧ ((H a = some (.lst xs) ∧ S a ∧ xs.length ≤ B) ∨ H a = some (.tup xs)) ∧ All2 (fun x k => Dq T H S B n k x) xs cs ∧ cs.sum + 1 ≤ c
inductive Wi (H : Hp) : V → Addr → Prop where
  | here {a : Addr} {xs : List V} : H a = some (.lst xs) → Wi H (.ref a) a
  | deep {b : Addr} {xs : List V} {x : V} {a : Addr} : (H b = some (.lst xs) ∨ H b = some (.tup xs)) → x ∈ xs → Wi H x a → Wi H (.ref b) a
def Gr (xs ys : List V) (c : Nat) : Prop := ∃ zs, ys = xs ++ zs ∧ (∀ z ∈ zs, AtV z) ∧ zs.length ≤ c
def Post (H H' : Hp) (S : Addr → Prop) (v : V) (c : Nat) : Prop := ∀ a o, H a = some o → H' a = some o ∨ (S a ∧ Wi H v a ∧ ∃ xs ys, o = .lst xs ∧ H' a = some (.lst ys) ∧ Gr xs ys c)
theorem All2.mono {α β : Type} {R S : α → β → Prop} (h : ∀ a b, R a b → S a b) {xs : List α} {ys : List β} (p : All2 R xs ys) : All2 S xs ys := by
  induction p with
  | nil => exact .nil
  | cons a _ ih => exact .cons (h _ _ a) ih
theorem All2.append {α β : Type} {R : α → β → Prop} {xs : List α} {ys : List β} {xs2 : List α} {ys2 : List β} (p : All2 R xs ys) (q : All2 R xs2 ys2) : All2 R (xs ++ xs2) (ys ++ ys2) := by
  induction p with
  | nil => exact q
  | cons a _ ih => exact .cons a ih
theorem All2.mem {α β : Type} {R : α → β → Prop} {xs : List α} {ys : List β} (p : All2 R xs ys) {x : α} (h : x ∈ xs) : ∃ y, y ∈ ys ∧ R x y := by
  induction p with
  | nil => cases h
  | cons a _ ih =>
    rcases List.mem_cons.mp h with rfl | h
    · exact ⟨_, List.mem_cons_self, a⟩
    · obtain ⟨y, h1, h2⟩ := ih h
      exact ⟨y, List.mem_cons_of_mem _ h1, h2⟩
theorem All2.get {α β : Type} {R : α → β → Prop} {xs : List α} {ys : List β} (p : All2 R xs ys) : ∀ {i : Nat} {x : α}, xs[i]? = some x → ∃ y, ys[i]? = some y ∧ R x y := by
  induction p with
  | nil => intro i x h; simp at h
  | cons a _ ih =>
    intro i x h
    cases i with
    | zero => simp at h; subst h; exact ⟨_, by simp, a⟩
    | succ i => simp at h; obtain ⟨y, h1, h2⟩ := ih h; exact ⟨y, by simpa using h1, h2⟩
theorem le_sum_mem : ∀ {cs : List Nat} {k : Nat}, k ∈ cs → k ≤ cs.sum
  | c :: cs, k, h => by
    rw [List.sum_cons]
    rcases List.mem_cons.mp h with rfl | h
    · omega
    · have := le_sum_mem h; omega
section
variable {T : Cfg} {H H' H1 H2 : Hp} {S : Addr → Prop} {B B' n n' k c c' c1 c2 m : Nat} {v u x : V} {a b : Addr} {xs ys : List V}
theorem Dq.mono (h : Dq T H S B n c v) (h1 : n ≤ n') (h2 : c ≤ c') (h3 : B ≤ B') : Dq T H S B' n' c' v := by
  induction n generalizing n' c c' v with
  | zero =>
    cases n' with
    | zero => exact h
    | succ n' => exact h.imp id .inl
  | succ n ih =>
    cases n' with
    | zero => omega
    | succ n' =>
      rcases h with h | h | ⟨a, xs, cs, rfl, hh, ha, hs⟩
      · exact .inl h
      · exact .inr (.inl h)
      · exact .inr (.inr ⟨a, xs, cs, rfl, hh.imp (fun z => ⟨z.1, z.2.1, Nat.le_trans z.2.2 h3⟩) id, ha.mono fun x k z => ih z (by omega) (Nat.le_refl _), by omega⟩)
theorem Gr.refl : Gr xs xs c := ⟨[], by simp, (fun _ h => by cases h), Nat.zero_le _⟩
theorem Gr.trans {zs : List V} (h1 : Gr xs ys c1) (h2 : Gr ys zs c2) : Gr xs zs (c1 + c2) := by
  obtain ⟨w1, rfl, a1, l1⟩ := h1
  obtain ⟨w2, rfl, a2, l2⟩ := h2
  refine ⟨w1 ++ w2, by rw [List.append_assoc], fun z h => ?_, by rw [List.length_append]; omega⟩
  rcases List.mem_append.mp h with h | h
  · exact a1 z h
  · exact a2 z h
theorem Gr.mono (h : Gr xs ys c) (hc : c ≤ c') : Gr xs ys c' := by obtain ⟨z, h1, h2, h3⟩ := h; exact ⟨z, h1, h2, by omega⟩
theorem all2_zero : ∀ (zs : List V), (∀ z ∈ zs, AtV z) → ∃ cs : List Nat, All2 (fun x k => Dq T H S B n k x) zs cs ∧ cs.sum = 0 ∧ cs.length = zs.length
  | [], _ => ⟨[], .nil, rfl, rfl⟩
  | z :: zs, h => by
    obtain ⟨cs, h1, h2, h3⟩ := all2_zero zs fun y hy => h y (List.mem_cons_of_mem _ hy)
    refine ⟨0 :: cs, .cons ?_ h1, by simpa using h2, by simp [h3]⟩
    cases n with
    | zero => exact .inl (h z List.mem_cons_self)
    | succ n => exact .inl (h z List.mem_cons_self)
theorem IsO.post (h : IsO T H u) (p : Post H H' S v c) : IsO T H' u := by
  obtain ⟨a, k, dx, fs, rfl, e⟩ := h
  rcases p a _ e with q | ⟨_, _, xs, ys, q, _⟩
  · exact ⟨a, k, dx, fs, rfl, q⟩
  · cases q
theorem Dq.post (h : Dq T H S B n k u) (p : Post H H' S v c) : Dq T H' S (B + c) n k u := by
  induction n generalizing k u with
  | zero => exact h.imp id fun z => z.post p
  | succ n ih =>
    rcases h with h | h | ⟨a, xs, cs, rfl, hh, ha, hs⟩
    · exact .inl h
    · exact .inr (.inl (h.post p))
    · rcases hh with ⟨e, s, l⟩ | e
      · rcases p a _ e with q | ⟨_, _, xs', ys, q, q2, zs, rfl, hz, hl⟩
        · exact .inr (.inr ⟨a, xs, cs, rfl, .inl ⟨q, s, by omega⟩, ha.mono fun x k z => ih z, hs⟩)
        · cases q
          obtain ⟨cs', g1, g2, _⟩ := all2_zero (T := T) (H := H') (S := S) (B := B + c) (n := n) zs hz
          exact .inr (.inr ⟨a, _, cs ++ cs', rfl, .inl ⟨q2, s, by rw [List.length_append]; omega⟩, (ha.mono fun x k z => ih z).append g1, by rw [List.sum_append]; omega⟩)
      · rcases p a _ e with q | ⟨_, _, xs', ys, q, _⟩
        · exact .inr (.inr ⟨a, xs, cs, rfl, .inr q, ha.mono fun x k z => ih z, hs⟩)
        · cases q
theorem Dq.back (h : Dq T H S B n k u) (p : Post H H' S v c) (w : Wi H' u a) : Wi H u a := by
  induction n generalizing k u with
  | zero =>
    rcases h with h | h
    · cases w <;> cases h
    · obtain ⟨b, k, dx, fs, rfl, e⟩ := h.post p
      cases w with
      | here q => rw [e] at q; cases q
      | deep q _ _ => rcases q with q | q <;> (rw [e] at q; cases q)
  | succ n ih =>
    rcases h with h | h | ⟨b, xs, cs, rfl, hh, ha, hs⟩
    · cases w <;> cases h
    · obtain ⟨b, k, dx, fs, rfl, e⟩ := h.post p
      cases w with
      | here q => rw [e] at q; cases q
      | deep q _ _ => rcases q with q | q <;> (rw [e] at q; cases q)
    · have hx : ∀ {ys : List V}, (H' b = some (.lst ys) ∨ H' b = some (.tup ys)) → ∀ y ∈ ys, y ∈ xs ∨ AtV y := fun {ys} hy y hm => by
        rcases hh with ⟨e, _, _⟩ | e
        · rcases p b _ e with q | ⟨_, _, xs', ys', q, q2, zs, rfl, hz, hl⟩
          · rcases hy with z | z <;> (rw [q] at z; cases z)
            exact .inl hm
          · cases q
            rcases hy with z | z <;> (rw [q2] at z; cases z)
            exact (List.mem_append.mp hm).imp id (hz y)
        · rcases p b _ e with q | ⟨_, _, xs', ys', q, _⟩
          · rcases hy with z | z <;> (rw [q] at z; cases z)
            exact .inl hm
          · cases q
      cases w with
      | here q =>
        rcases hh with ⟨e, _, _⟩ | e
        · exact .here e
        · rcases p _ _ e with z | ⟨_, _, xs', ys', z, _⟩
          · rw [q] at z; cases z
          · cases z
      | deep q hm w =>
        rcases hx q _ hm with z | z
        · obtain ⟨k', _, hk⟩ := ha.mem z
          exact .deep (hh.imp (fun z => z.1) id) z (ih hk w)
        · cases w <;> cases z
theorem Wi.dq (w : Wi H u a) (h : Dq T H S B m k u) : Dq T H S B m k (.ref a) := by
  induction w generalizing m k with
  | here => exact h
  | @deep b xs x a q hm w ih =>
    cases m with
    | zero =>
      rcases h with h | ⟨b', k', dx, fs, e, h⟩
      · cases h
      · cases e
        rcases q with q | q <;> (rw [q] at h; cases h)
    | succ j =>
      rcases h with h | ⟨b', k', dx, fs, e, h⟩ | ⟨b', xs', cs, e, hh, ha, hs⟩
      · cases h
      · cases e
        rcases q with q | q <;> (rw [q] at h; cases h)
      · cases e
        have ex : xs' = xs := by
          rcases q with q | q <;> rcases hh with ⟨z, _⟩ | z <;> (rw [q] at z; cases z) <;> rfl
        subst ex
        obtain ⟨k', h1, h2⟩ := ha.mem hm
        have := le_sum_mem h1
        exact (ih h2).mono (by omega) (by omega) (Nat.le_refl _)
theorem Dq.notIn (e : H a = some (.lst xs)) (hx : x ∈ xs) (h : Dq T H S B m k x) (w : Wi H x a) : False := by
  induction m generalizing k with
  | zero =>
    rcases w.dq h with z | ⟨b, k', dx, fs, z, q⟩
    · cases z
    · cases z; rw [e] at q; cases q
  | succ m ih =>
    rcases w.dq h with z | ⟨b, k', dx, fs, z, q⟩ | ⟨b, xs', cs, z, hh, ha, hs⟩
    · cases z
    · cases z; rw [e] at q; cases q
    · cases z
      rcases hh with ⟨q, _⟩ | q <;> (rw [e] at q; cases q)
      obtain ⟨k', _, h2⟩ := ha.mem hx
      exact ih h2
theorem Post.refl : Post H H S v c := fun a o e => .inl e
theorem Post.lay (h : ∀ a o, H a = some o → H' a = some o) : Post H H' S v c := fun a o e => .inl (h a o e)
theorem Post.mono (h : Post H H' S v c) (hc : c ≤ c') : Post H H' S v c' := fun a o e => (h a o e).imp id fun ⟨h1, h2, xs, ys, h3, h4, h5⟩ => ⟨h1, h2, xs, ys, h3, h4, h5.mono hc⟩
theorem Post.trans (h1 : Post H H1 S v c1) (h2 : Post H1 H2 S u c2) (hw : ∀ a, Wi H1 u a → Wi H v a) : Post H H2 S v (c1 + c2) := fun a o e => by
  rcases h1 a o e with q | ⟨s1, w1, xs, ys, rfl, q, g⟩
  · rcases h2 a o q with z | ⟨s2, w2, xs, ys, rfl, z, g⟩
    · exact .inl z
    · exact .inr ⟨s2, hw _ w2, xs, ys, rfl, z, g.mono (by omega)⟩
  · rcases h2 a _ q with z | ⟨s2, w2, xs', ys', z1, z, g2⟩
    · exact .inr ⟨s1, w1, xs, ys, rfl, z, g.mono (by omega)⟩
    · cases z1
      exact .inr ⟨s1, w1, xs, ys', rfl, z, g.trans g2⟩
theorem Post.app (h : Post H H1 S (.ref a) c) (s : S a) (e : H a = some (.lst xs)) (e1 : H1 a = some (.lst xs)) {z : V} (hz : AtV z) : Post H (upd H1 a (.lst (xs ++ [z]))) S (.ref a) (c + 1) := fun b o q => by
  by_cases hb : b = a
  · subst hb
    rw [e] at q; cases q
    exact .inr ⟨s, .here e, xs, _, rfl, upd_same, [z], rfl, (fun y hy => by cases hy with | head => exact hz | tail _ h => cases h), by simp⟩
  · rw [upd_ne hb]
    exact (h.mono (Nat.le_succ c)) b o q
end
end DL
end
section
set_option autoImplicit false
namespace DL
open PySem PySem.Spec L2
section
variable {T : Cfg} {X : Cx} {a c c1 c2 : Expr} {p pos tpos : Pos} {k0 : Nat} {tc t1 t2 : TC}
theorem pt_is1 (hm0 : X.mg "isinstance" = none) (hc : CNm T X c tc) (hg : Gl X "isinstance" := by rfl)
    (he : starEach (a :: [c]) X.env = (false, eval a X.env) :: starEach [c] X.env := by rfl) (he2 : starEach (c :: []) X.env = (false, eval c X.env) :: starEach [] X.env := by rfl) (hpl : (backTo pos (starEach [c] X.env)).any (·.1) = false := by rfl)
    (ht : ∀ whole, isTrue (.Call (.Name "isinstance" p) [a, c] [] pos) X.env whole = (do let v ← whole; standAt (Expr.pos (.Call (.Name "isinstance" p) [a, c] [] pos)); holding [v] (truthy v)) := by intro _; rfl) :
    PT X (.Call (.Name "isinstance" p) [a, c] [] pos) (fun σ H Q => WE X a σ H fun v H1 => ∃ ty b, TyX X.K H1 v ty ∧ PySem.W.kitOne X.K ty (tc.val T) = some b ∧ Q b H1) := by
  refine PT.imp (pt_val (pe_callB call_isi hg hm0 (by decide +kernel) (pa_cons WE.pe (pa_cons hc.pe pa_nil he2) he) (by decide) (by decide) he hpl) ht) fun σ H Q h => ?_
  show WE X a σ H _
  refine h.mono fun v H1 ⟨ty, b, h1, h2, h3⟩ => ?_
  exact ⟨v, _, ty, _, b, rfl, tc.clsV, h1, h2, b, rfl, h3⟩
theorem pt_is2 (hm0 : X.mg "isinstance" = none) (hc1 : CNm T X c1 t1) (hc2 : CNm T X c2 t2) (hg : Gl X "isinstance" := by rfl)
    (he : starEach (a :: [.Tuple [c1, c2] k0 tpos]) X.env = (false, eval a X.env) :: starEach [.Tuple [c1, c2] k0 tpos] X.env := by rfl) (he2 : starEach (.Tuple [c1, c2] k0 tpos :: []) X.env = (false, eval (.Tuple [c1, c2] k0 tpos) X.env) :: starEach [] X.env := by rfl)
    (he3 : starEach (c1 :: [c2]) X.env = (false, eval c1 X.env) :: starEach [c2] X.env := by rfl) (he4 : starEach (c2 :: []) X.env = (false, eval c2 X.env) :: starEach [] X.env := by rfl) (hpl : (backTo pos (starEach [.Tuple [c1, c2] k0 tpos] X.env)).any (·.1) = false := by rfl)
    (ht : ∀ whole, isTrue (.Call (.Name "isinstance" p) [a, .Tuple [c1, c2] k0 tpos] [] pos) X.env whole = (do let v ← whole; standAt (Expr.pos (.Call (.Name "isinstance" p) [a, .Tuple [c1, c2] k0 tpos] [] pos)); holding [v] (truthy v)) := by intro _; rfl) :
    PT X (.Call (.Name "isinstance" p) [a, .Tuple [c1, c2] k0 tpos] [] pos) (fun σ H Q => WE X a σ H fun v H1 => ∃ ty b1 b2, TyX X.K H1 v ty ∧ PySem.W.kitOne X.K ty (t1.val T) = some b1 ∧ PySem.W.kitOne X.K ty (t2.val T) = some b2 ∧
      ∀ q, H1 q = none → Q (b1 || b2) (upd H1 q (.tup [t1.cv T, t2.cv T]))) := by
  refine PT.imp (pt_val (pe_callB call_isiT hg hm0 (by decide +kernel) (pa_cons WE.pe (pa_cons (pe_tup (pa_cons hc1.pe (pa_cons hc2.pe pa_nil he4) he3)) pa_nil he2) he) (by decide) (by decide) he hpl) ht) fun σ H Q h => ?_
  show WE X a σ H fun x H1 => ([t1.cv T, t2.cv T] : List V).length ≤ sizeLine ∧ ∀ q, H1 q = none → rIsiT X.K [x, .ref q] (upd H1 q (.tup [t1.cv T, t2.cv T])) (fun v H2 => ∃ b, v = .bl b ∧ Q b H2)
  refine h.mono fun v H1 ⟨ty, b1, b2, h1, h2, h3, h4⟩ => ⟨by show 2 ≤ sizeLine; decide, fun q hq => ?_⟩
  refine ⟨v, q, _, ty, _, b1 || b2, rfl, upd_same, .cons t1.clsV (.cons t2.clsV .nil), tyx_upd hq h1, ?_, b1 || b2, rfl, h4 q hq⟩
  show (match PySem.W.kitOne X.K ty (t1.val T) with | some true => some true | some false => PySem.W.kitAny X.K ty [t2.val T] | none => none) = _
  rw [h2]
  cases b1 with
  | true => rfl
  | false =>
    show (match PySem.W.kitOne X.K ty (t2.val T) with | some true => some true | some false => PySem.W.kitAny X.K ty [] | none => none) = _
    rw [h3]
    cases b2 <;> rfl
end
section
variable {T : Cfg} {K : PySem.W.Frag} {H : Hp} {S : Addr → Prop} {B n c : Nat} {v : V}
theorem Dq.leaf (O : KO T K) (h : AtV v ∨ IsO T H v) : ∃ ty, TyX K H v ty ∧ PySem.W.kitOne K ty (.type "list") = some false ∧ PySem.W.kitOne K ty (.type "tuple") = some false ∧ PySem.W.kitOne K ty (.type "dict") = some false := by
  rcases h with h | ⟨a, k, dx, fs, rfl, e⟩
  · cases h with
    | non => exact ⟨_, .base .non, kit_ty (by decide +kernel), kit_ty (by decide +kernel), kit_ty (by decide +kernel)⟩
    | bl b => exact ⟨_, .base (.bl _), kit_ty (by decide +kernel), kit_ty (by decide +kernel), kit_ty (by decide +kernel)⟩
    | int i => exact ⟨_, .base (.int _), kit_ty (by decide +kernel), kit_ty (by decide +kernel), kit_ty (by decide +kernel)⟩
    | str x => exact ⟨_, .base (.str _), kit_ty (by decide +kernel), kit_ty (by decide +kernel), kit_ty (by decide +kernel)⟩
  · exact ⟨_, .base (.ins e (O.cls _) (O.ha _) O.hn O.htk (O.hm _)), O.isTy _ .list, O.isTy _ .tuple, O.isTy _ .dict⟩
theorem Dq.lstK {a : Addr} {xs : List V} (e : H a = some (.lst xs)) : TyX K H (.ref a) (.type "list") ∧ PySem.W.kitOne K (.type "list") (.type "list") = some true ∧ PySem.W.kitOne K (.type "list") (.type "tuple") = some false ∧ PySem.W.kitOne K (.type "list") (.type "dict") = some false :=
  ⟨.base (.lst e), kit_ty (by decide +kernel), kit_ty (by decide +kernel), kit_ty (by decide +kernel)⟩
theorem Dq.tupK {a : Addr} {xs : List V} (e : H a = some (.tup xs)) : TyX K H (.ref a) (.type "tuple") ∧ PySem.W.kitOne K (.type "tuple") (.type "list") = some false ∧ PySem.W.kitOne K (.type "tuple") (.type "tuple") = some true ∧ PySem.W.kitOne K (.type "tuple") (.type "dict") = some false :=
  ⟨.base (.tup e), kit_ty (by decide +kernel), kit_ty (by decide +kernel), kit_ty (by decide +kernel)⟩
theorem sum_take : ∀ {cs : List Nat} {i k : Nat}, cs[i]? = some k → (cs.take i).sum + k = (cs.take (i + 1)).sum
  | c :: cs, 0, k, h => by simp at h; subst h; simp
  | c :: cs, i + 1, k, h => by
    have := sum_take (cs := cs) (i := i) (k := k) (by simpa using h)
    simp only [List.take_succ_cons, List.sum_cons]
    omega
theorem sum_take_le : ∀ {cs : List Nat} {i : Nat}, (cs.take i).sum ≤ cs.sum
  | [], i => by simp
  | c :: cs, 0 => by simp
  | c :: cs, i + 1 => by
    have := sum_take_le (cs := cs) (i := i)
    simp only [List.take_succ_cons, List.sum_cons]
    omega
/-- a turn of the loop over the parts -/
theorem spoil_turn {a : Addr} {xs : List V} {cs : List Nat} {H1 : Hp} {i m : Nat} {x : V} (hall : All2 (fun x k => Dq T H S B m k x) xs cs) (hr : H a = some (.lst xs) ∨ H a = some (.tup xs)) (P : Post H H1 S (.ref a) (cs.take i).sum) (ea : H1 a = H a) (hx : xs[i]? = some x) :
    ∃ k, Dq T H1 S (B + (cs.take i).sum) m k x ∧ (cs.take i).sum + k ≤ cs.sum ∧ ∀ H2, Post H1 H2 S x k → Post H H2 S (.ref a) (cs.take (i + 1)).sum ∧ H2 a = H a := by
  obtain ⟨k, hk, hd⟩ := hall.get hx
  have hs := sum_take hk
  have hmem : x ∈ xs := List.mem_of_getElem? hx
  have hd1 := hd.post P
  refine ⟨k, hd1, by have := sum_take_le (cs := cs) (i := i + 1); omega, fun H2 P2 => ⟨?_, ?_⟩⟩
  · rw [← hs]
    exact P.trans P2 fun b w => .deep hr hmem (hd.back P w)
  · rcases hr with e | e
    · rcases P2 a _ (ea.trans e) with q | ⟨_, w, _⟩
      · rw [q, e]
      · exact (hd1.notIn (ea.trans e) hmem w).elim
    · rcases P2 a _ (ea.trans e) with q | ⟨_, _, xs', ys, q, _⟩
      · rw [q, e]
      · cases q
/-- what is promised at depth n - 1 -/
def spS (T : Cfg) : Nat → Sp
  | 0 => fun _ _ _ _ => False
  | n + 1 => fun vs H Q _ => ∃ v S B c, vs = [v] ∧ Dq T H S B n c v ∧ B + c < sizeLine ∧ ∀ H', Post H H' S v c → Q .non H'
end
end DL
end
section
set_option autoImplicit false
namespace DL
open PySem PySem.Spec L2
mutual
def dpt : D → Nat
  | .lst ds => dptL ds + 1
  | .tup ds => dptL ds + 1
  | _ => 0
def dptL : List D → Nat
  | [] => 0
  | d :: ds => max (dpt d) (dptL ds)
end
mutual
def cnt : D → Nat
  | .lst ds => cntL ds + 1
  | .tup ds => cntL ds + 1
  | _ => 0
def cntL : List D → Nat
  | [] => 0
  | d :: ds => cnt d + cntL ds
end
mutual
def mxl : D → Nat
  | .lst ds => max ds.length (mxlL ds)
  | .tup ds => mxlL ds
  | _ => 0
def mxlL : List D → Nat
  | [] => 0
  | d :: ds => max (mxl d) (mxlL ds)
end
mutual
def spO : D → Bool
  | .lst ds => spOL ds
  | .tup ds => spOL ds
  | .non => true
  | .bl _ => true
  | .int _ => true
  | .str _ => true
  | .obj _ _ => true
  | _ => false
def spOL : List D → Bool
  | [] => true
  | d :: ds => spO d && spOL ds
end
section
variable {T : Cfg} {H0 H H' H1 H2 H3 : Hp} {S0 S SS : Addr → Prop} {Γ Γ' Γ1 Γ2 Γ3 Γb : List Md} {ρ ρ' : Env} {s s' s1 s2 : Strm} {σ : St} {tg tg' tg1 tg2 : Tags} {v w : V} {d c : D} {vs : List V} {ds : List D} {m m' mr : Md} {B B' : Nat}
mutual
theorem Rep.dq : ∀ (d : D) (v : V), Rep T H S v d → spO d = true → mxl d ≤ B → Dq T H S B (dpt d) (cnt d) v
  | .non, v, r, _, _ => by cases r; exact .inl .non
  | .bl b, v, r, _, _ => by cases r; exact .inl (.bl b)
  | .int i, v, r, _, _ => by cases r; exact .inl (.int i)
  | .str x, v, r, _, _ => by cases r; exact .inl (.str x)
  | .obj k fs, v, r, _, _ => by obtain ⟨a, dx, xs, rfl, e, _⟩ := rep_obj r; exact .inr ⟨a, k, dx, xs, rfl, e⟩
  | .lst ds, v, r, h, hb => by
    cases r with
    | lst hS e rr =>
      rw [spO] at h
      rw [mxl] at hb
      obtain ⟨cs, h1, h2⟩ := RepL.dq ds _ rr h (by omega)
      rw [dpt, cnt]
      exact .inr (.inr ⟨_, _, cs, rfl, .inl ⟨e, hS, by rw [rr.len]; omega⟩, h1, by omega⟩)
  | .tup ds, v, r, h, hb => by
    cases r with
    | tup e rr =>
      rw [spO] at h
      rw [mxl] at hb
      obtain ⟨cs, h1, h2⟩ := RepL.dq ds _ rr h hb
      rw [dpt, cnt]
      exact .inr (.inr ⟨_, _, cs, rfl, .inr e, h1, by omega⟩)
  | .dic _ _, _, _, h, _ => by cases h
  | .stm, _, _, h, _ => by cases h
  | .opq _, _, _, h, _ => by cases h
  | .wl, _, _, h, _ => by cases h
theorem RepL.dq : ∀ (ds : List D) (vs : List V), RepL T H S vs ds → spOL ds = true → mxlL ds ≤ B → ∃ cs, All2 (fun x k => Dq T H S B (dptL ds) k x) vs cs ∧ cs.sum = cntL ds
  | [], vs, r, _, _ => by cases r; exact ⟨[], .nil, rfl⟩
  | d :: ds, vs, r, h, hb => by
    obtain ⟨v, vs', rfl, r1, r2⟩ := r.consL
    rw [spOL, Bool.and_eq_true] at h
    rw [mxlL] at hb
    obtain ⟨cs, h1, h2⟩ := RepL.dq ds vs' r2 h.2 (by omega)
    refine ⟨cnt d :: cs, .cons ((Rep.dq d v r1 h.1 (by omega)).mono (by rw [dptL]; omega) (Nat.le_refl _) (Nat.le_refl _)) (h1.mono fun x k z => z.mono (by rw [dptL]; omega) (Nat.le_refl _) (Nat.le_refl _)), ?_⟩
    rw [cntL, List.sum_cons, h2]
end
/-- the def that spoils, in one -/
structure CalS (T : Cfg) (P : Program) (w : World) (K : PySem.W.Frag) (mg : Str → Option Value) (base : Heap) (k : Nat) : Prop where
  ex : ∃ f fd, FnOk P w K mg base (L2.CX P w) k f fd ["thing"] (spS T k) ∧ mg "_law_spoilt" = some (.ref f) ∧ PySem.W.keepIn K (.ref f) = true ∧ Binds K fd ["thing"] []
def lstAt (ρ : Env) (i : Nat) : Option D := match ρ[i]? with
  | some (some (.lst ds)) => some (.lst ds)
  | _ => none
/-- [x, ..] is spoiled, k the level -/
def sSpoilL (k : Nat) (is : List Nat) : SF := fun ρ => match is.mapM (lstAt ρ) with
  | some ds => if spOL ds = true ∧ dptL ds + 2 ≤ k ∧ (mxl (.lst ds)) + cnt (.lst ds) < sizeLine then pure (.nx (is.foldl (fun ρ i => ρ.set i (some .wl)) ρ)) else M.fail
  | none => M.fail
variable {X : Cx} {E : XK}
end
end DL
end
section
set_option autoImplicit false
namespace DL
open PySem PySem.Spec L2
section
variable {T : Cfg} {H0 H H' H1 H2 H3 : Hp} {S0 SS : Addr → Prop} {Γ Γ' Γ1 Γ2 Γ3 Γb : List Md} {ρ ρ' : Env} {s s' s1 s2 : Strm} {σ : St} {tg tg' tg1 tg2 : Tags} {v w : V} {d c : D} {vs : List V} {ds : List D} {m m' mr m1 m2 : Md}
variable {X : Cx} {E : XK} {e a b : Expr} {es : List Expr} {F Fa Fb : EF} {pos p : Pos} {x : Str}
/-- a, b = x, y where one of the names is a cell -/
theorem ds_parC (i j : Nat) {y z : Str} {py pz pt : Pos} {kt : Nat} {k2 : Nat} {pt2 : Pos} (ha : DE T X E Γ a Fa m1 Γ1) (hb : DE T X E Γ1 b Fb m2 Γ2) (hc : X.calm = true) (hN : X.N.Nodup) (hm1 : m1 ≠ .any := by exact fun q => by cases q) (hm2 : m2 ≠ .any := by exact fun q => by cases q)
    (hi : i < Γ2.length := by decide) (hj : j < (Γ2.set i m1).length := by decide) (hij : i ≠ j := by decide) (hy : X.N[i]? = some y := by rfl) (hz : X.N[j]? = some z := by rfl) (hly : Loc X.env.scope y := by first | exact Or.inl rfl | exact Or.inr rfl) (hlz : Loc X.env.scope z := by first | exact Or.inl rfl | exact Or.inr rfl)
    (hfy : X.fn y = true ∨ X.env.scope.names.lookup y = some .local := by first | exact .inl rfl | exact .inr rfl) (hfz : X.fn z = true ∨ X.env.scope.names.lookup z = some .local := by first | exact .inl rfl | exact .inr rfl)
    (hs : swapsWithSole [.Tuple [.Name y py, .Name z pz] kt pt] (.Tuple [a, b] k2 pt2) pos.line X.env = pure false := by rfl) (hw : swappedStores [.Tuple [.Name y py, .Name z pz] kt pt] (.Tuple [a, b] k2 pt2) X.env = pure none := by rfl)
    (h1 : (assignEach [.Tuple [.Name y py, .Name z pz] kt pt] X.env).map (·.2) = [assign (.Tuple [.Name y py, .Name z pz] kt pt) X.env] := by rfl)
    (hn : (assignEach [.Name y py, .Name z pz] X.env).length = 2 := by rfl) (hst0 : (assignEach [.Name y py, .Name z pz] X.env).findIdx? (·.1) = none := by rfl)
    (hst : starEach (a :: [b]) X.env = (false, eval a X.env) :: starEach [b] X.env := by rfl) (hst2 : starEach (b :: []) X.env = (false, eval b X.env) :: starEach [] X.env := by rfl) :
    DS T X E mr Γb Γ (.Assign [.Tuple [.Name y py, .Name z pz] kt pt] (.Tuple [a, b] k2 pt2) pos) (sPar i j Fa Fb) ((Γ2.set i m1).set j m2) := by
  refine ⟨?_⟩
  intro H0 S0 ρ s σ H tg S r s' hF D hD
  refine WS.of (ps_asg (pe_tup (pa_cons WE.pe (pa_cons WE.pe pa_nil hst2) hst)) (pg_tup hc (pgs_cons (pg_name hN hy hly hfy) (pgs_cons (pg_name hN hz hlz hfz) pgs_nil)) hn hst0) hs hw h1) ?_
  show WE X a σ H _
  refine ha.seq S hF (hD.ek S) fun d s1 v H1 tg1 hk g1 S1 r1 e1 => ?_
  show WE X b σ H1 _
  refine hb.seq S1 hk e1 fun e s2 w H2 tg2 hk2 g2 S2 r2 e2 => ?_
  cases hk2
  refine ⟨by show 2 ≤ sizeLine; decide, fun q hq => ⟨q, _, rfl, SqT.of upd_same, rfl, ?_⟩⟩
  have x3 : Ext T H2 (upd H2 q (.tup [v, w])) := Ext.new hq
  have ne1 : T.st ≠ q := fun z => by rw [← z, S2.stm.1] at hq; cases hq
  have ne2 : T.sl ≠ q := fun z => by rw [← z, S2.stm.2] at hq; cases hq
  have st3 : StmAt T (upd H2 q (.tup [v, w])) _ := ⟨by rw [upd_ne ne1]; exact S2.stm.1, by rw [upd_ne ne2]; exact S2.stm.2⟩
  have S2' := S2.ext0 x3 st3
  have kq : ∀ a o, H2 a = some o → upd H2 q (.tup [v, w]) a = some o := fun a o e => by rw [upd_ne (ne_of_none e hq)]; exact e
  have nq : ∀ a, H2 a ≠ none → upd H2 q (.tup [v, w]) a ≠ none := fun a n => by
    cases e : H2 a with
    | none => exact absurd e n
    | some o => rw [kq a o e]; simp
  have g3 := Go.lay S2 x3 st3
  have r2q : RepW T tg2 (frS tg2 H1 H2) (upd H2 q (.tup [v, w])) m2 w e := r2.move hm2 (fun b o e _ => kq b o e) (fun _ h => h) fun _ _ h => h
  generalize upd H2 q (.tup [v, w]) = H3 at *
  have o1 : ∀ a, frS tg1 H H1 a → tg2 a = .no ∧ H0 a = none ∧ H3 a ≠ none := fun a h => ⟨by rw [g2.t.1 a h.2.1]; exact h.2.2, S.born h.1, nq a (g2.u a h.2.1)⟩
  have r1' : RepW T tg2 (frS tg1 H H1) H3 m1 v d := by
    refine r1.move hm1 ?_ (fun _ h => h) fun b a h => g2.t.sh S1.tgd h
    refine Keep.ofExt (g2.x.trans x3) S1.stm ?_ ?_
    · rintro (h | h)
      · have q := S.stm.1; rw [h.1] at q; cases q
      · exact shS_not S1.tgs.1 h
    · rintro (h | h)
      · have q := S.stm.2; rw [h.1] at q; cases q
      · exact shS_not S1.tgs.2 h
  refine ⟨v, [w], rfl, ?_⟩
  show gCons (gName j) gNil [w] (σ.set i (some v)) H3 _
  refine ⟨w, [], rfl, rfl, ?_⟩
  obtain ⟨S3, k3⟩ := S2'.bindS o1 hi hm1 r1'
  have o2 : ∀ a, frS tg2 H1 H2 a → tkT i tg2 (frS tg1 H H1) a = .no ∧ H0 a = none ∧ H3 a ≠ none := fun a h => by
    refine ⟨?_, S1.born h.1, nq a h.2.1⟩
    rcases tk_or (i := i) (own := frS tg1 H H1) (tg := tg2) a with q | q
    · rw [q]; exact h.2.2
    · exact absurd h.1 q.2.2.2.1
  have r2' : RepW T (tkT i tg2 (frS tg1 H H1)) (frS tg2 H1 H2) H3 m2 w e := r2q.move hm2 (fun _ _ e _ => e) (fun _ h => h) fun _ _ h => tk_sh h
  obtain ⟨S4, k4⟩ := S3.bindS o2 hj hm2 r2'
  exact hD _ H3 _ ((((g1.trans g2).trans g3).kp S).trans k3 |>.trans k4) S4
end
/-- the promise of nothing -/
theorem FnD.fail {T : Cfg} {P : Program} {w : World} {K : PySem.W.Frag} {mg : Str → Option Value} {base : Heap} {k : Nat} {f : Addr} {fd : FuncData} {ps : List Str} {mr : Md} : FnD T P w K mg base k f fd ps mr (fun _ => M.fail) :=
  ⟨(fun _ _ _ _ h => by obtain ⟨_, _, _, _, _, _, _, _, h, _⟩ := h; cases h), (fun _ _ _ _ _ _ _ _ _ _ _ _ _ h => by obtain ⟨_, _, _, _, _, _, _, _, h, _⟩ := h; cases h)⟩
theorem Cal.fail {T : Cfg} {P : Program} {w : World} {K : PySem.W.Frag} {mg : Str → Option Value} {base : Heap} {k : Nat} {x : Str} {f : Addr} {fd : FuncData} {ps : List Str} {mr : Md} (h1 : mg x = some (.ref f)) (h2 : PySem.W.keepIn K (.ref f) = true) (h3 : Binds K fd ps []) :
    Cal T P w K mg base k x ps mr (fun _ => M.fail) := ⟨f, fd, FnD.fail, h1, h2, h3⟩
end DL
end
section
set_option autoImplicit false
namespace DL
open PySem PySem.Spec L2
theorem quiet_deeper {A : Around} {env : PySem.Env} (h : Quiet A) : Quiet (A.deeper env) := h
section
end
end DL
end
section
set_option autoImplicit false
namespace DL
open PySem PySem.Spec L2
def atT (T0 : Cfg) (p q : Addr) : Cfg := { T0 with st := p, sl := q }
def spStream (K : PySem.W.Frag) : Sp := fun vs H Q _ => ∃ (a : Addr) (ns : List Int), vs = [.ref a] ∧ SqL K H a (ns.map V.int) ∧
  ∀ p q, H q = none → H p = none → p ≠ q → Q (.ref p) (upd (upd H q (.lst (ns.map V.int))) p (.lst [.ref q, .int 0, .int 0, .int 19]))
/-- the law's promise -/
def spLaw (K : PySem.W.Frag) : Sp := fun vs H Q _ => ∃ (a : Addr) (ns : List Int), vs = [.ref a] ∧ Only H ∧ SqL K H a (ns.map V.int) ∧ ns.length ≤ 63 ∧ (∀ z ∈ ns, Builtin.Int.intBits z ≤ 1048576) ∧ ∀ H', Q (.bl true) H'
theorem law_G {P : Program} {w : World} {K : PySem.W.Frag} {mg : Str → Option Value} {base : Heap} {st st0 : Stmt} {rest : List Stmt} {f : Addr} {fd : FuncData} {N : List Str} {k : Nat} {B : SF} {Γb Γ2 : List Md} (T0 : Cfg)
    (Fu : L2.Fun K "law" "law" st f fd) (S : FnScope N ["script"] (defScope st)) (hst : defBody st = st0 :: rest) (hN : 2 ≤ N.length)
    (h0 : ∀ (cdv : Value) (A : Around) (outer : List PySem.Env) (s : Shared) (H : Hp) (E : XK), Room k (A.deeper (PyProof.Rows.envOfC "law" (defScope st) s.heap.objs.size f cdv)) → Quiet (cxOf (L2.CX P w) P w K mg base N "law" (defScope st) f cdv A outer s H E).A →
      ∀ (a : Addr) (ns : List Int) (D : Ends), SqL K H a (ns.map V.int) → (∀ p q, H q = none → H p = none → p ≠ q → D.nx ((L2.start N [.ref a]).set 1 (some (.ref p))) (upd (upd H q (.lst (ns.map V.int))) p (.lst [.ref q, .int 0, .int 0, .int 19]))) →
      WS (cxOf (L2.CX P w) P w K mg base N "law" (defScope st) f cdv A outer s H E) st0 D (L2.start N [.ref a]) H)
    (hb : ∀ (p q : Addr) (cdv : Value) (A : Around) (outer : List PySem.Env) (s : Shared) (H : Hp) (E : XK), Room k (A.deeper (PyProof.Rows.envOfC "law" (defScope st) s.heap.objs.size f cdv)) → Quiet (cxOf (L2.CX P w) P w K mg base N "law" (defScope st) f cdv A outer s H E).A →
      DSs (atT T0 p q) (cxOf (L2.CX P w) P w K mg base N "law" (defScope st) f cdv A outer s H E) E .atom Γb (List.replicate N.length .atom) rest B Γ2)
    (hs : ∀ ns : List Int, ns.length ≤ 63 → (∀ z ∈ ns, Builtin.Int.intBits z ≤ 1048576) → ∃ t, B (none :: some .stm :: List.replicate (N.length - 2) none) ⟨ns, 0, 0, 19⟩ = some (.ok (.rt (.bl true)), t)) :
    FnG P w K mg base (L2.CX P w) (k + 1) f fd ["script"] (spLaw K) := by
  refine fn_ofG Fu S (fun vs H Q E ⟨a, ns, e, _⟩ => by subst e; rfl) (fun cdv A outer sh H vs Q E hr hq0 h => ?_)
  obtain ⟨a, ns, rfl, hO, hS, hl, hbits, hQ⟩ := h
  refine ⟨_, WSs.pss, ?_⟩
  rw [hst]
  have hq1 := quiet_deeper (env := PyProof.Rows.envOfC "law" (defScope st) sh.heap.objs.size f cdv) hq0
  refine WSs.of (pss_cons WS.ps WSs.pss) (h0 cdv A outer sh H E hr hq1 a ns _ hS fun p q hq hp hpq => ?_)
  obtain ⟨t, ht⟩ := hs ns hl hbits
  have e1 : (upd (upd H q (.lst (ns.map V.int))) p (.lst [.ref q, .int 0, .int 0, .int 19])) p = some (.lst [.ref q, .int 0, .int 0, .int 19]) := upd_same
  have e2 : (upd (upd H q (.lst (ns.map V.int))) p (.lst [.ref q, .int 0, .int 0, .int 19])) q = some (.lst (ns.map V.int)) := by rw [upd_ne hpq.symm, upd_same]
  generalize upd (upd H q (.lst (ns.map V.int))) p (.lst [.ref q, .int 0, .int 0, .int 19]) = H2 at e1 e2
  have hlen : ((L2.start N [V.ref a]).set 1 (some (.ref p))).length = (none :: some D.stm :: List.replicate (N.length - 2) none : Env).length := by
    have : (L2.start N [V.ref a]).length = N.length := by simp [L2.start]; omega
    rw [List.length_set, this]
    simp; omega
  have S0 : Sta (atT T0 p q) H2 (fun _ => False) (List.replicate N.length .atom) (none :: some .stm :: List.replicate (N.length - 2) none) ⟨ns, 0, 0, 19⟩ ((L2.start N [.ref a]).set 1 (some (.ref p))) H2 (fun _ => .no) := by
    refine ⟨hlen, fun i d e => ?_, ⟨e1, e2⟩, fun a n => absurd rfl n, fun a _ => .inl rfl, ⟨rfl, rfl⟩, fun a e => (by cases e), ⟨by show H2 p ≠ none; rw [e1]; simp, by show H2 q ≠ none; rw [e2]; simp⟩, Ext.refl⟩
    match i, e with
    | 0, e => simp at e
    | 1, e =>
      simp at e
      subst e
      have hΓ : (List.replicate N.length Md.atom).getD 1 .atom = .atom := by rw [List.getD_eq_getElem?_getD, List.getElem?_replicate]; split <;> rfl
      rw [hΓ]
      refine ⟨(fun z => by cases z), .ref p, ?_, ?_⟩
      · rw [List.getElem?_set_self]
        have : (L2.start N [V.ref a]).length = N.length := by simp [L2.start]; omega
        omega
      · show Rep (atT T0 p q) H2 (fun _ => False) (.ref p) .stm
        exact Rep.stm (T := atT T0 p q)
    | i + 2, e => simp [List.getElem?_replicate] at e
  refine hb p q cdv A outer sh H E hr hq1 _ _ _ _ _ _ _ S0 _ _ ht _ ?_
  intro v H' x st' rr
  have rr' : Rep (atT T0 p q) H' (fun _ => False) v (.bl true) := rr
  cases rr'
  exact hQ H'
end DL
end
section
set_option autoImplicit false
namespace DL
open PySem PySem.Spec L2 PyProof.Rows
abbrev FB : Type := PySem.W.Frag → Bool
def obsX (fb : List FB) (fn : List He.DefD) (K : PySem.W.Frag) : He.AlD := ((fb.all fun f => f K) && fn.all fun d => d.ok K, fn.map fun d => He.fnW K d.at_)
def SaysX (fb : List FB) (fn : List He.DefD) (K : PySem.W.Frag) : Prop := obsX fb fn K = He.valD fn
def obsXG (n : Nat) (fb : List FB) (fn : List He.DefD) (g : Addr → Option Obj) : He.AlD := obsX fb fn (He.frG g (He.asD g n))
def hookX (n : Nat) (fb : List FB) (fn : List He.DefD) : PySem.W.Hook where
  α := He.AlD
  obs := fun s => obsXG n fb fn s.heap.get?
  val := fun _ => He.valD fn
  says := fun _ h => ∃ K : PySem.W.Frag, K.In h ∧ SaysX fb fn K
  of := fun _ _ e => ⟨_, He.frG_in, e⟩
  keeps := fun _ _ _ ⟨K, hK, c⟩ k => ⟨K, PySem.W.Frag.In.keeps hK k, c⟩
theorem obsXG_eq {n : Nat} {fb : List FB} {fn : List He.DefD} {g : Addr → Option Obj} {s : Shared} (h : ∀ a, g a = s.heap.get? a) : obsXG n fb fn g = (hookX n fb fn).obs s := by
  have e : g = s.heap.get? := funext h
  rw [e] <;> rfl
section
variable {fb : List FB} {fn : List He.DefD} {K : PySem.W.Frag}
theorem SaysX.fact (c : SaysX fb fn K) (i : Nat) {f : FB} (h : fb[i]? = some f := by rfl) : f K = true := by
  have c1 := (He.ba (show ((fb.all fun f => f K) && fn.all fun d => d.ok K) = true from congrArg (fun z : He.AlD => z.1) c)).1
  exact List.all_eq_true.mp c1 f (List.mem_of_getElem? h)
theorem SaysX.def_ (c : SaysX fb fn K) (i : Nat) {d : He.DefD} (h : fn[i]? = some d := by rfl) : ∃ fd, FunD K d.name d.qual d.params d.body d.scope (d.dvs K) (d.kws K) (He.fAd K d.at_) fd := by
  have c2 := (He.ba (show ((fb.all fun f => f K) && fn.all fun d => d.ok K) = true from congrArg (fun z : He.AlD => z.1) c)).2
  have e : fn.map (fun d => He.fnW K d.at_) = fn.map He.DefD.val := congrArg (fun z : He.AlD => z.2) c
  have e2 : (fn.map fun d => He.fnW K d.at_)[i]? = (fn.map He.DefD.val)[i]? := by rw [e]
  rw [List.getElem?_map, List.getElem?_map, h] at e2
  exact He.DefD.funD (Option.some.inj e2) (List.all_eq_true.mp c2 d (List.mem_of_getElem? h))
theorem fun_of_D {x q : Str} {st : Stmt} {f : Addr} {fd : FuncData} (F : FunD K x q (defArgs st) (defBody st) (defScope st) [] [] f fd) : L2.Fun K x q st f fd := by
  obtain ⟨oc, od, dV, kV, doc, pm, an, cdv, ct, osl, e, lk, hcd, hD, hK⟩ := F.ex
  rcases hD with ⟨_, rfl⟩ | ⟨z, _⟩
  · exact ⟨⟨oc, od, kV, doc, pm, an, cdv, ct, osl, e, lk, hcd⟩, F.kp⟩
  · exact absurd rfl z
end
def eqB {α : Type} [DecidableEq α] (a b : α) : Bool := decide (a = b)
theorem eqB_ok {α : Type} [DecidableEq α] {a b : α} (h : eqB a b = true) : a = b := of_decide_eq_true h
def tnsL : List String := ["NoneType", "bool", "int", "str", "list", "tuple", "dict"]
/-- what KO asks of a class -/
def koB (x : Str) : FB := fun K =>
  (He.Fa.cls x).ok K && (He.eqO (PySem.W.findIn K (.ref (He.ga K x)) "__class__") (some (some (.builtin "object.__class__"))) &&
  (eqB (PySem.W.mroIn K (He.ga K x) (.type "object")) (some true) &&
  ((tnsL.all fun n => eqB (PySem.W.kitOne K (.ref (He.ga K x)) (.type n)) (some false)) &&
  ((tnsL.all fun n => eqB (PySem.W.kitOne K (.type n) (.ref (He.ga K x))) (some false)) && eqB (PySem.W.kitOne K (.ref (He.ga K x)) (.ref (He.ga K x))) (some true)))))
def koB0 : FB := fun K => He.eqO (PySem.W.specialIn K (.builtin "object.__class__") "__get__") (some (some (.builtin "getset_descriptor.__get__"))) && eqB (PySem.W.takesIn K (.builtin "object.__class__")) (some true)
theorem ko_of {T : Cfg} {K : PySem.W.Frag} (h0 : koB0 K = true) (h : ∀ c, ∃ x, T.cls c = He.ga K x ∧ koB x K = true) : KO T K := by
  obtain ⟨a1, a2⟩ := He.ba h0
  have parts : ∀ c, Cls K (T.cls c) ∧ PySem.W.findIn K (.ref (T.cls c)) "__class__" = some (some (.builtin "object.__class__")) ∧ PySem.W.mroIn K (T.cls c) (.type "object") = some true ∧ (∀ n ∈ tnsL, PySem.W.kitOne K (.ref (T.cls c)) (.type n) = some false) ∧ (∀ n ∈ tnsL, PySem.W.kitOne K (.type n) (.ref (T.cls c)) = some false) ∧ PySem.W.kitOne K (.ref (T.cls c)) (.ref (T.cls c)) = some true := fun c => by
    obtain ⟨x, e, hx⟩ := h c
    rw [e]
    obtain ⟨b1, hx⟩ := He.ba hx
    obtain ⟨b2, hx⟩ := He.ba hx
    obtain ⟨b3, hx⟩ := He.ba hx
    obtain ⟨b4, hx⟩ := He.ba hx
    obtain ⟨b5, b6⟩ := He.ba hx
    exact ⟨He.cls_ok b1, He.eqO_ok b2, eqB_ok b3, fun n hn => eqB_ok (List.all_eq_true.mp b4 n hn), fun n hn => eqB_ok (List.all_eq_true.mp b5 n hn), eqB_ok b6⟩
  refine ⟨fun c => (parts c).1, fun c => (parts c).2.1, He.eqO_ok a1, eqB_ok a2, fun c => (parts c).2.2.1, fun c n => ?_, fun c m hm => (parts c).2.2.2.2.1 m hm, fun c => (parts c).2.2.2.2.2⟩
  exact (parts c).2.2.2.1 n.nm (by cases n <;> decide)
def faB (f : He.Fa) : FB := fun K => f.ok K
/-- a law: F gives the written part, the function object, the promise over every base -/
theorem walk_GE {l : PySem.W.OpenLaw} {n k : Nat} {q : Program} {loose : List Str} {XP : (Str → Option Value) → Heap → Prop} {YP : World → Heap → Prop} {d : DefRec} {x : Str}
    (hn : l.most = some n) (hn2 : n ≤ sizeLine) (hdf : d.params.defaults = []) (hr : Room k callerA)
    (F : ∀ (w : World) (mg : Str → Option Value) (fa : Addr) (h : Heap), YP w h → h.Ns mainGlobals mg → mg d.name = some (.ref fa) →
      ∃ (K : PySem.W.Frag) (fd : FuncData) (sp : Sp), K.In h ∧ (∀ (s : Shared) (u : Value), BindsTo s fd ⟨[u], []⟩ [(x, u)]) ∧
        (∀ (H : Hp) (a : Addr) (ns : List Int), ns.length ≤ n → (∀ z ∈ ns, Builtin.Int.intBits z ≤ 1048576) → Only H → SqL K H a (ns.map V.int) → sp [.ref a] H (fun v _ => v = .bl true) fun _ _ _ => False) ∧
        ∀ base : Heap, K.In base → base.Ns mainGlobals mg → FnG l.prog w K mg base (L2.CX l.prog w) k fa fd [x] sp) :
    PySem.W.WalkO q loose XP YP l.row.toRowW d [] (fun f vs => PySem.call f vs) := by
  refine Att.attach_callB hn hdf fun w s₀ s₁ mg mb fa o pm cd doc a vs ns G Y ho hd hcd hmg hobj hints hlen hbits hg => ?_
  obtain ⟨K, fd, sp, KX, hb, hsp, hF⟩ := F w mg fa _ Y G.T.g hmg
  refine head_G KX G.T.g G.T.b G.T.builtins G.T.nolimit hg hobj hints (Nat.le_trans hlen hn2) hr hF hb (fun H hO hS => hsp H a ns hlen hbits hO hS) fun H e s' h => ?_
  obtain ⟨_, _, _, _, _, _, _, _, _, _, _, _, hE⟩ := h
  exact hE
theorem ks_two {a b : Str} {ks : List Str} (h : ks.length = [a, b].length) (hn : ks.Nodup) (hm : ∀ y ∈ ks, y ∈ [a, b]) : ks = [a, b] ∨ ks = [b, a] := by
  match ks, h with
  | [x, y], _ =>
    have hx : x = a ∨ x = b := by simpa using hm x List.mem_cons_self
    have hy : y = a ∨ y = b := by simpa using hm y (List.mem_cons_of_mem _ List.mem_cons_self)
    have hxy : x ≠ y := fun e => (List.nodup_cons.mp hn).1 (by rw [e]; exact List.mem_cons_self)
    rcases hx with rfl | rfl <;> rcases hy with rfl | rfl
    · exact absurd rfl hxy
    · exact .inl rfl
    · exact .inr rfl
    · exact absurd rfl hxy
end DL
end
section
set_option autoImplicit false
namespace DL
open PySem PySem.Spec L2
section
variable {T : Cfg} {H0 H H' H1 H2 H3 : Hp} {S0 SS : Addr → Prop} {Γ Γ' Γ1 Γ2 Γb : List Md} {ρ ρ' : Env} {s s' s1 s2 : Strm} {σ : St} {tg tg' tg1 tg2 : Tags} {v w : V} {d c : D} {vs : List V} {ds : List D} {m m' mr : Md}
variable {X : Cx} {E : XK} {e a b : Expr} {es : List Expr} {F Fa Fb : EF} {pos p : Pos} {x : Str}
theorem M.of_bind {α β : Type} {o : Option α} {k : α → M β} {r : Except Exn β} (h : (M.of o >>= k) s = some (r, s')) : ∃ y, o = some y ∧ k y s = some (r, s') := by
  rcases M.bind_some h with ⟨z, h1, _⟩ | ⟨y, s1, h1, h2⟩
  · obtain ⟨_, _, q, _⟩ := M.of_some h1; cases q
  · obtain ⟨y', h3, q, rfl⟩ := M.of_some h1; cases q; exact ⟨y, h3, h2⟩
def starD : D → Option (List D)
  | .lst ds => some ds
  | .tup ds => some ds
  | _ => none
def aStar (Fa : EF) (Fs : AF) : AF := fun ρ => do let x ← Fa ρ; let xs ← M.of (starD x); let ys ← Fs ρ; pure (xs ++ ys)
theorem rep_star {S : Addr → Prop} (r : Rep T H S v d) (h : starD d = some ds) : ∃ a vs, v = .ref a ∧ (H a = some (.tup vs) ∨ (S a ∧ H a = some (.lst vs))) ∧ RepL T H S vs ds := by
  cases d <;> try (cases h; done)
  · cases h
    cases r with | lst hS e rr => exact ⟨_, _, rfl, .inr ⟨hS, e⟩, rr⟩
  · cases h
    cases r with | tup e rr => exact ⟨_, _, rfl, .inl e, rr⟩
theorem da_star {Fs : AF} (ha : DE T X E Γ e Fa m Γ1) (hs : DA T X E Γ1 es Fs m Γ2) (hm : m.flat = true := by rfl) (hst : starEach (.Starred e p :: es) X.env = (true, eval e X.env) :: starEach es X.env := by rfl) : DA T X E Γ (.Starred e p :: es) (aStar Fa Fs) m Γ2 := by
  refine ⟨?_⟩
  intro H0 S0 ρ s σ H tg S r s' hF Q hQ
  refine WA.of (StX.pa_star WE.pe WA.pa hst) ?_
  show WE X e σ H _
  refine ha.seq S hF hQ.ek fun d s1 v H1 tg1 hk g1 S1 r1 e1 => ?_
  obtain ⟨ds1, hd, hk⟩ := M.of_bind hk
  obtain ⟨A, vs, rfl, hA, rr⟩ := rep_star ((RepW.flat hm).mp r1) hd
  refine ⟨A, vs, rfl, hA.imp (fun h => SqT.of h) fun h => SqL.of h.2, ?_⟩
  show WA X es σ H1 _
  refine hs.seq S1 hk e1 fun ds2 s2 ws H2 tg2 hk2 g2 S2 r2 e2 => ?_
  cases hk2
  obtain ⟨A', vs', eA, hA', rr'⟩ := rep_star ((RepW.flat hm).mp (r1.later S S1 S2 g2)) hd
  cases eA
  have ns : ∀ {o : HO}, H1 A = some o → A ≠ T.st → A ≠ T.sl → H2 A = some o := fun e => g2.x A _ e
  have ev : vs' = vs := by
    rcases hA with h | ⟨h0, h⟩
    · have n1 : A ≠ T.st := fun z => by rw [z, S1.stm.1] at h; cases h
      have n2 : A ≠ T.sl := fun z => by rw [z, S1.stm.2] at h; cases h
      have h2 := ns h n1 n2
      rcases hA' with z | ⟨_, z⟩ <;> (rw [h2] at z; cases z)
      rfl
    · have hn := set_any S S1 A h0
      have h2 := ns h hn.2.1 hn.2.2
      rcases hA' with z | ⟨_, z⟩ <;> (rw [h2] at z; cases z)
      rfl
  subst ev
  refine hQ (vs' ++ ws) H2 tg2 (g1.trans g2) S2 (rr'.append (r2.mono fun a h => ?_))
  cases m with
  | any => exact h
  | atom => exact h
  | sh b => exact h
  | xc => exact ⟨Classical.byContradiction fun n => g1.u _ n h.1, h.2⟩
  | ow k => cases hm
/-- a, b, c = x, y, z -/
def sPar3 (i j l : Nat) (Fa Fb Fc : EF) : SF := fun ρ => do let d ← Fa ρ; let e ← Fb ρ; let f ← Fc ρ; pure (.nx (((ρ.set i (some d)).set j (some e)).set l (some f)))
def gK {α : Type} (ps ks : List Str) (us ws : List α) : List α := if us.length = 0 ∧ ws.length = ks.length then byName ps ks ws else []
structure CalK (T : Cfg) (P : Program) (w : World) (K : PySem.W.Frag) (mg : Str → Option Value) (base : Heap) (k : Nat) (x : Str) (ps ks : List Str) (mr : Md) (F : List D → M D) : Prop where
  ex : ∃ f fd, FnD T P w K mg base k f fd ps mr F ∧ mg x = some (.ref f) ∧ PySem.W.keepIn K (.ref f) = true ∧ 0 < ps.length ∧
    ∀ ws : List Value, ws.length = ks.length → bindArgs fd ⟨[], ks.zip ws⟩ = pure (ps.zip (byName ps ks ws))
theorem kbinds_of {K : PySem.W.Frag} {fd : FuncData} {ps ks : List Str} (h0 : 0 < ps.length) (hto : ∀ ws : List Value, ws.length = ks.length → bindArgs fd ⟨[], ks.zip ws⟩ = pure (ps.zip (byName ps ks ws))) : KBinds K fd ps ks (gK ps ks) (gK ps ks) := by
  refine ⟨fun s us ws _ h1 => ?_, fun {vs us zs ws} h1 h2 => ?_⟩
  · unfold gK at h1 ⊢
    by_cases q : us.length = 0 ∧ ws.length = ks.length
    · rw [if_pos q]
      obtain rfl : us = [] := List.length_eq_zero_iff.mp q.1
      exact .of_eq (hto ws q.2)
    · rw [if_neg q] at h1
      simp at h1; omega
  · unfold gK
    rw [h1.length, h2.length]
    by_cases q : us.length = 0 ∧ ws.length = ks.length
    · rw [if_pos q, if_pos q]
      exact vals_all.mpr (byName_rel (vals_all.mp h2) ps)
    · rw [if_neg q, if_neg q]; exact .nil
theorem de_callKP {k : Nat} {ps ks : List Str} {Ff : List D → M D} {Fs : AF} {kws : List Keyword} (G : CalK T X.prog X.w X.K X.mg X.base k x ps ks mr Ff) (hr : Room k X.A) (hx : Passes (L2.CX X.prog X.w) X E)
    (ha : DK T X E Γ kws Fs m Γ1) (hn : ∀ ρ s ds s', Fs ρ s = some (.ok ds, s') → ds.length = ks.length) (hg : Gl X x := by rfl) (hm : m.flat = true := by rfl) (han : (∃ b, mr = .sh b) → m ≠ .any := by first | (intro z; obtain ⟨_, q⟩ := z; cases q; done) | (intro z q; cases q; done))
    (hall : (backToKw pos (keywordEach kws X.env)).all (·.1.isSome) = true := by rfl) (hks : (backToKw pos (keywordEach kws X.env)).filterMap (·.1) = ks := by rfl)
    (hdb : (x == ("__debug__" : Str)) = false := by decide) (hpl : ((backTo pos (starEach [] X.env)).any (·.1) || (backToKw pos (keywordEach kws X.env)).any (·.1.isNone)) = false := by rfl) :
    DE T X E Γ (.Call (.Name x p) [] kws pos) (fFnK Ff (byName ps ks) Fs) (callM m mr) Γ1 := by
  obtain ⟨f, fd, h1, h2, h3, h4, h5⟩ := G.ex
  refine ⟨?_⟩
  intro H0 S0 ρ s σ H tg S r s' hF Q hQ
  refine WE.of (pe_callK0 h1 hr hg h2 h3 (kbinds_of h4 h5) hx WK.pk hall hks hdb hpl) ?_
  show WK X kws σ H _
  intro pos pins sh I
  rcases M.bind_some hF with ⟨x, q1, rfl⟩ | ⟨ds, s1, q1, q2⟩
  · exact ha _ _ _ _ _ _ _ S _ _ q1 _ (hQ.ek x rfl) pos pins sh I
  refine ha _ _ _ _ _ _ _ S _ _ q1 _ (fun vs H1 tg1 g1 S1 r1 => ?_) pos pins sh I
  have hlen : vs.length = ks.length := by rw [r1.len]; exact hn _ _ _ _ q1
  have eg : gK ps ks [] vs = byName ps ks vs := if_pos ⟨rfl, hlen⟩
  show spD T mr Ff (gK ps ks [] vs) H1 Q E
  rw [eg]
  exact sp_of S S1 g1 hm han (repL_all.mpr (byName_rel (repL_all.mp r1) ps)) q2 hQ
def maskE : List Bool → Env → Env
  | true :: bs, x :: ρ => x :: maskE bs ρ
  | false :: bs, _ :: ρ => none :: maskE bs ρ
  | [], ρ => ρ.map fun _ => none
  | _, [] => []
def dropE : List Bool → Env → Env
  | true :: bs, _ :: ρ => none :: dropE bs ρ
  | false :: bs, x :: ρ => x :: dropE bs ρ
  | [], ρ => ρ
  | _, [] => []
theorem maskE_len : ∀ (bs : List Bool) (ρ : Env), (maskE bs ρ).length = ρ.length
  | true :: bs, x :: ρ => by rw [maskE, List.length_cons, List.length_cons, maskE_len bs ρ]
  | false :: bs, x :: ρ => by rw [maskE, List.length_cons, List.length_cons, maskE_len bs ρ]
  | [], ρ => by rw [maskE, List.length_map]
  | true :: bs, [] => rfl
  | false :: bs, [] => rfl
theorem dropE_len : ∀ (bs : List Bool) (ρ : Env), (dropE bs ρ).length = ρ.length
  | true :: bs, x :: ρ => by rw [dropE, List.length_cons, List.length_cons, dropE_len bs ρ]
  | false :: bs, x :: ρ => by rw [dropE, List.length_cons, List.length_cons, dropE_len bs ρ]
  | [], ρ => by rw [dropE]
  | true :: bs, [] => rfl
  | false :: bs, [] => rfl
theorem maskE_get : ∀ (bs : List Bool) (ρ : Env) (i : Nat) (d : D), (maskE bs ρ)[i]? = some (some d) → bs[i]? = some true ∧ ρ[i]? = some (some d)
  | true :: bs, x :: ρ, 0, d, h => by simp [maskE] at h; simp [h]
  | false :: bs, x :: ρ, 0, d, h => by simp [maskE] at h
  | true :: bs, x :: ρ, i + 1, d, h => by simp only [maskE, List.getElem?_cons_succ] at h ⊢; exact maskE_get bs ρ i d h
  | false :: bs, x :: ρ, i + 1, d, h => by simp only [maskE, List.getElem?_cons_succ] at h ⊢; exact maskE_get bs ρ i d h
  | [], ρ, i, d, h => by
    rw [maskE, List.getElem?_map] at h
    cases e : ρ[i]? <;> rw [e] at h <;> simp at h
  | true :: bs, [], i, d, h => by simp [maskE] at h
  | false :: bs, [], i, d, h => by simp [maskE] at h
theorem dropE_get : ∀ (bs : List Bool) (ρ : Env) (i : Nat) (d : D), (dropE bs ρ)[i]? = some (some d) → bs[i]? ≠ some true ∧ ρ[i]? = some (some d)
  | true :: bs, x :: ρ, 0, d, h => by simp [dropE] at h
  | false :: bs, x :: ρ, 0, d, h => by simp [dropE] at h; simp [h]
  | true :: bs, x :: ρ, i + 1, d, h => by simp only [dropE, List.getElem?_cons_succ] at h ⊢; exact dropE_get bs ρ i d h
  | false :: bs, x :: ρ, i + 1, d, h => by simp only [dropE, List.getElem?_cons_succ] at h ⊢; exact dropE_get bs ρ i d h
  | [], ρ, i, d, h => by rw [dropE] at h; simp [h]
  | true :: bs, [], i, d, h => by simp [dropE] at h
  | false :: bs, [], i, d, h => by simp [dropE] at h
def maskM (bs : List Bool) : List Md := bs.map fun b => if b then .sh false else .atom
/-- nodes of the slots of bs -/
def bsS (tg : Tags) (bs : List Bool) : Addr → Prop := fun a => ∃ i, bs[i]? = some true ∧ tg a = .ex i
/-- the slots that are spoiled are owned as a whole -/
def ownB (bs : List Bool) (Γ : List Md) : Bool := (bs.zip Γ).all fun p => !p.1 || decide (p.2 = .xc) || decide (p.2 = .ow .e)
theorem ownB_get {bs : List Bool} (h : ownB bs Γ = true) (hl : bs.length = Γ.length) {i : Nat} (hi : bs[i]? = some true) : Γ.getD i .atom = .xc ∨ Γ.getD i .atom = .ow .e := by
  have li : i < bs.length := (List.getElem?_eq_some_iff.mp hi).1
  have lg : i < Γ.length := by omega
  have hm : (true, Γ[i]) ∈ bs.zip Γ := by
    refine List.mem_of_getElem? (i := i) ?_
    rw [List.getElem?_zip_eq_some]
    exact ⟨hi, List.getElem?_eq_getElem lg⟩
  have := List.all_eq_true.mp h _ hm
  rw [List.getD_eq_getElem?_getD, List.getElem?_eq_getElem lg, Option.getD_some]
  simpa using this
open Classical in
theorem Sta.only (S : Sta T H0 S0 Γ ρ s σ H tg) {bs : List Bool} (ho : ownB bs Γ = true) (hl : bs.length = Γ.length) :
    Sta T H (bsS tg bs) (maskM bs) (maskE bs ρ) s σ H (fun a => if bsS tg bs a then .old else .no) := by
  have ns : ∀ a, bsS tg bs a → tg a ≠ .no := fun a ⟨i, _, h⟩ z => by rw [h] at z; cases z
  refine ⟨by rw [S.len, maskE_len], fun i d e => ?_, S.stm, fun a n => ?_, fun a n => ?_, ⟨?_, ?_⟩, fun a n => ?_, ⟨by rw [S.stm.1]; simp, by rw [S.stm.2]; simp⟩, Ext.refl⟩
  · obtain ⟨h1, h2⟩ := maskE_get bs ρ i d e
    have hg : (maskM bs).getD i .atom = .sh false := by
      rw [maskM, List.getD_eq_getElem?_getD, List.getElem?_map, h1]; rfl
    rw [hg]
    refine ⟨(fun q => by cases q), ?_⟩
    obtain ⟨_, v, h3, h4⟩ := S.val i d h2
    refine ⟨v, h3, ?_⟩
    have mv : ∀ a, exS tg i a → shS (fun a => if bsS tg bs a then Tag.old else .no) false a := fun a h => by
      refine .inr ⟨rfl, ?_⟩
      show (if bsS tg bs a then Tag.old else .no) = .old
      rw [if_pos ⟨i, h1, h⟩]
    rcases ownB_get ho hl h1 with z | z <;> rw [z] at h4
    · exact Rep.mono (S := exS tg i) h4 mv
    · exact RepO.flat (own := exS tg i) (kid := exS tg i) h4 mv mv
  · by_cases q : bsS tg bs a
    · exact S.tgd a (ns a q)
    · exact absurd (if_neg q) n
  · by_cases q : bsS tg bs a
    · exact .inr (if_pos q)
    · exact .inl (if_neg q)
  · exact if_neg fun q => ns _ q S.tgs.1
  · exact if_neg fun q => ns _ q S.tgs.2
  · exact Classical.byContradiction fun q => by
      have : (if bsS tg bs a then Tag.old else Tag.no) = .old := n
      rw [if_neg q] at this; cases this
/-- what some slots own has been stored into, and what is nobody's -/
theorem Sta.mutX {bs : List Bool} (S : Sta T H0 S0 Γ ρ s σ H tg) (hp : ∀ a o, H a = some o → H' a = some o ∨ ((bsS tg bs a ∨ (tg a = .no ∧ H0 a = none ∧ a ≠ T.st ∧ a ≠ T.sl)) ∧ ¬ Imm o ∧ H' a ≠ none)) : Sta T H0 S0 Γ (dropE bs ρ) s σ H' tg ∧ Kp tg tg H H' := by
  have up : ∀ a, H a ≠ none → H' a ≠ none := fun a n => by
    cases e : H a with
    | none => exact absurd e n
    | some o =>
      rcases hp a o e with q | ⟨_, _, q⟩
      · rw [q]; simp
      · exact q
  have kp : ∀ {j : Nat}, bs[j]? ≠ some true → ∀ b o, H b = some o → ((exS tg j b ∨ shS tg false b) ∨ Imm o) → H' b = some o := fun {j} hj b o e z => by
    rcases hp b o e with q | ⟨q1 | ⟨q1, _⟩, q2, _⟩
    · exact q
    · obtain ⟨i, hi, q1⟩ := q1
      rcases z with (z | z) | z
      · rw [exS, q1] at z; injection z with z; subst z; exact absurd hi hj
      · rcases z with z | ⟨_, z⟩ <;> (rw [q1] at z; cases z)
      · exact absurd z q2
    · rcases z with (z | z) | z
      · rw [exS, q1] at z; cases z
      · rcases z with z | ⟨_, z⟩ <;> (rw [q1] at z; cases z)
      · exact absurd z q2
  have stk : ∀ a o, a = T.st ∨ a = T.sl → H a = some o → H' a = some o := fun a o h e => by
    rcases hp a o e with q | ⟨⟨i, _, q⟩ | ⟨_, _, q1, q2⟩, _⟩
    · exact q
    · rcases h with rfl | rfl
      · rw [S.tgs.1] at q; cases q
      · rw [S.tgs.2] at q; cases q
    · exact (h.elim q1 q2).elim
  refine ⟨⟨by rw [S.len, dropE_len], fun j d e => ?_, ⟨stk _ _ (.inl rfl) S.stm.1, stk _ _ (.inr rfl) S.stm.2⟩, fun a n => up a (S.tgd a n), S.tg0, S.tgs, S.old, S.stm0, fun a u e h1 h2 => ?_⟩, ⟨fun b o e z => ?_, fun _ _ h => h, up⟩⟩
  · obtain ⟨hj, h⟩ := dropE_get bs ρ j d e
    obtain ⟨h0, u, h1, h2⟩ := S.val j d h
    exact ⟨h0, u, h1, h2.move h0 (kp hj) (fun _ h => h) fun _ _ h => h⟩
  · rcases hp a u (S.same a u e h1 h2) with q | ⟨⟨i, _, q⟩ | ⟨_, q, _⟩, _⟩
    · exact q
    · rcases S.tg0 a (by rw [e]; simp) with z | z <;> (rw [q] at z; cases z)
    · rw [e] at q; cases q
  · rcases hp b o e with q | ⟨⟨i, _, q⟩ | ⟨q, _⟩, q2, _⟩
    · exact q
    · rcases z with z | z
      · rcases z with z | ⟨_, z⟩ <;> (rw [q] at z; cases z)
      · exact absurd z q2
    · rcases z with z | z
      · rcases z with z | ⟨_, z⟩ <;> (rw [q] at z; cases z)
      · exact absurd z q2
/-- what e reads in the slots bs alone is spoiled, k the level -/
def sSpoilX (k : Nat) (bs : List Bool) (F : EF) : SF := fun ρ => do
  let d ← F (maskE bs ρ)
  if spO d = true ∧ dpt d + 1 ≤ k ∧ mxl d + cnt d < sizeLine then pure (.nx (dropE bs ρ)) else M.fail
open Classical in
theorem ds_spoilX {n : Nat} {cpos : Pos} {bs : List Bool} (G : CalS T X.prog X.w X.K X.mg X.base (n + 1)) (hr : Room (n + 1) X.A) (hx : Passes (L2.CX X.prog X.w) X E) (he : DE T X E (maskM bs) e F m Γ1) (hb : ownB bs Γ = true := by decide) (hl : bs.length = Γ.length := by rfl) (hm : m ≠ .any := by (intro q; cases q; done)) (hg : Gl X "_law_spoilt" := by rfl)
    (he0 : starEach (e :: []) X.env = (false, eval e X.env) :: starEach [] X.env := by rfl) (hpl : (backTo cpos (starEach [] X.env)).any (·.1) = false := by rfl)
    (hs : swapsWith (.Call (.Name "_law_spoilt" p) [e] [] cpos) none pos.line X.env = pure false := by rfl) :
    DS T X E mr Γb Γ (.Expr (.Call (.Name "_law_spoilt" p) [e] [] cpos) pos) (sSpoilX (n + 1) bs F) Γ := by
  refine ⟨?_⟩
  intro H0 S0 ρ s σ H tg S r s' hF D hD
  obtain ⟨f, fd, h1, h2, h3, h4⟩ := G.ex
  refine WS.of (ps_expr (pe_call h1 hr hg h2 h3 h4 .nil hx (pa_cons WE.pe pa_nil he0) (by decide) he0 hpl) hs) ?_
  show WE X e σ H _
  have So := S.only hb hl
  refine he.seq So hF (hD.ek S) fun d s1 v H1 tg1 hk g1 S1 r1 e1 => ?_
  show spS T (n + 1) [v] H1 (fun _ H2 => D.nx σ H2) E
  rcases ifM hk with ⟨⟨ho, hdp, hsz⟩, hk⟩ | ⟨_, hk⟩
  rotate_left
  · cases hk
  cases hk
  have rf : Rep T H1 (fun a => bsS tg bs a ∨ (H a = none ∧ H1 a ≠ none)) v d := by
    have t1 : ∀ b a, shS tg1 b a → bsS tg bs a ∨ (H a = none ∧ H1 a ≠ none) := fun b a h => by
      by_cases q : H a = none
      · refine .inr ⟨q, S1.tgd a ?_⟩
        intro z; exact shS_not z h
      · have e := g1.t.1 a q
        refine .inl (Classical.byContradiction fun z => ?_)
        have e2 : (if bsS tg bs a then Tag.old else Tag.no) = .no := if_neg z
        exact shS_not (e.trans e2) h
    have t2 : ∀ a, frS tg1 H H1 a → bsS tg bs a ∨ (H a = none ∧ H1 a ≠ none) := fun a h => .inr ⟨h.1, h.2.1⟩
    cases m with
    | any => exact absurd rfl hm
    | atom => exact Rep.mono (S := fun _ => False) r1 fun _ h => h.elim
    | sh b => exact Rep.mono (S := shS tg1 b) r1 (t1 b)
    | xc => exact Rep.mono (S := frS tg1 H H1) r1 t2
    | ow k =>
      refine RepO.flat (own := frS tg1 H H1) (kid := kidS tg1 (frS tg1 H H1) k) r1 t2 fun a h => ?_
      cases k with
      | o => exact t1 false a h
      | n => exact t1 true a h
      | e => exact t2 a h
  have S2 := S.ext0 g1.x S1.stm
  refine ⟨v, _, _, _, rfl, (Rep.dq (B := mxl d) _ _ rf ho (Nat.le_refl _)).mono (by omega) (Nat.le_refl _) (Nat.le_refl _), hsz, fun H' P => ?_⟩
  have hp : ∀ a o, H1 a = some o → H' a = some o ∨ ((bsS tg bs a ∨ (tg a = .no ∧ H0 a = none ∧ a ≠ T.st ∧ a ≠ T.sl)) ∧ ¬ Imm o ∧ H' a ≠ none) := fun a o ea => by
    rcases P a o ea with z | ⟨z, _, xs, ys, rfl, z2, _⟩
    · exact .inl z
    · refine .inr ⟨z.imp id fun q => ⟨?_, ?_, ?_, ?_⟩, (fun z => z), by rw [z2]; simp⟩
      · exact Classical.byContradiction fun w => S.tgd a w q.1
      · exact Classical.byContradiction fun w => by
          cases e0 : H0 a with
          | none => exact w e0
          | some o0 =>
            by_cases x1 : a = T.st
            · rw [x1, S.stm.1] at q; cases q.1
            · by_cases x2 : a = T.sl
              · rw [x2, S.stm.2] at q; cases q.1
              · rw [S.same a o0 e0 x1 x2] at q; cases q.1
      · rintro rfl; rw [S.stm.1] at q; cases q.1
      · rintro rfl; rw [S.stm.2] at q; cases q.1
  obtain ⟨S', k'⟩ := S2.mutX hp
  exact hD _ H' tg ((Go.lay S g1.x S1.stm).kp S |>.trans k') S'
end
end DL
end
section
set_option autoImplicit false
namespace DL
open PySem PySem.Spec L2
section
variable {T : Cfg} {H0 H H' H1 H2 H3 : Hp} {S0 SS : Addr → Prop} {Γ Γ' Γ1 Γ2 Γ3 Γb Γw Γi : List Md} {ρ ρ' : Env} {s s' s1 s2 : Strm} {σ : St} {tg tg' tg1 tg2 : Tags} {v w : V} {d c : D} {vs : List V} {ds : List D} {m m' mr me ms : Md} {rm : Rm}
variable {X : Cx} {E : XK} {e a b : Expr} {es : List Expr} {F Fa Fb : EF} {pos p : Pos} {x : Str} {tge iter elt : Expr} {scope : Scope} {own : List (Str × Nat)}
theorem if_some' {α : Type} {P : Prop} [Decidable P] {x : Option α} {y : α} (h : (if P then x else none) = some y) : P ∧ x = some y := by
  by_cases p : P
  · rw [if_pos p] at h; exact ⟨p, h⟩
  · rw [if_neg p] at h; cases h
theorem mergeP_app : ∀ (xs ys : List D) (acc : List (D × D)), mergeP acc (xs ++ ys) = (mergeP acc xs).bind fun a => mergeP a ys
  | [], ys, acc => rfl
  | .tup [k, v] :: xs, ys, acc => by
    show (kOf k).bind _ = ((kOf k).bind _).bind _
    cases kOf k with
    | none => rfl
    | some key => exact mergeP_app xs ys _
  | .tup [] :: _, _, _ => rfl
  | .tup [_] :: _, _, _ => rfl
  | .tup (_ :: _ :: _ :: _) :: _, _, _ => rfl
  | .non :: _, _, _ => rfl
  | .bl _ :: _, _, _ => rfl
  | .int _ :: _, _, _ => rfl
  | .str _ :: _, _, _ => rfl
  | .lst _ :: _, _, _ => rfl
  | .dic _ _ :: _, _, _ => rfl
  | .obj _ _ :: _, _, _ => rfl
  | .stm :: _, _, _ => rfl
  | .opq _ :: _, _, _ => rfl
  | .wl :: _, _, _ => rfl
/-- any loop of a comprehension over what is walked -/
theorem walk_it {J : It} {n : Nat} {G : Hp → Prop} {Y : Nat → Hp → V → Hp → Prop} (w : Walk J n G Y) {B : (Hp → Prop) → V → Hp → Prop} {H1 : Hp} {Qd : Hp → Prop} (Pv : Nat → Hp → Prop) (h0 : Pv 0 H1) (hG : ∀ i H, i ≤ n → Pv i H → G H)
    (hs : ∀ i x H H', i < n → Pv i H → Y i H x H' → B (Pv (i + 1)) x H') (hd : ∀ H, Pv n H → Qd H) :
    ∃ W : Nat → Nat → Hp → Prop, (∃ m, W 0 m H1) ∧ ∀ i m H, W i m H → (J.stop i H ∧ Qd H) ∨ (J.go i H ∧ ∃ Nx : Hp → Prop, (∀ H', Nx H' → ∃ m', m' < m ∧ W (i + 1) m' H') ∧ ∀ x H', J.yld i H x H' → B Nx x H') := by
  refine ⟨fun i m H => m = n - i ∧ i ≤ n ∧ Pv i H, ⟨n, by simp, Nat.zero_le _, h0⟩, ?_⟩
  rintro i m H ⟨rfl, hi, p⟩
  have q := hG i H hi p
  by_cases hlt : i < n
  · exact .inr ⟨w.goes i H hlt q, Pv (i + 1), fun H' p' => ⟨n - (i + 1), by omega, rfl, hlt, p'⟩, fun x H' y => hs i x H H' hlt p (w.yields i H x H' hlt q y)⟩
  · have e : i = n := by omega
    subst e
    exact .inl ⟨w.stops H q, hd H p⟩
def fPair (Fk Fv : EF) : EF := fun ρ => do let k ← Fk ρ; let v ← Fv ρ; pure (.tup [k, v])
def fDcN (q : Bool) (Fi : IF) (is : List Nat) (g : GF) (Fq : TF) (Fk Fv : EF) : EF := fun ρ => do
  let items ← Fi ρ
  fzM q items
  let ps ← noErr (lcD (lcB g Fq (fPair Fk Fv) (wipeR ρ is)) items)
  M.of (if items.length ≤ sizeLine then (mergeP [] ps).map (.dic false) else none)
end
end DL
end
section
set_option autoImplicit false
set_option pp.maxSteps 200
namespace DL
open PySem PySem.Spec PyProof.Rows L2
theorem dTurn_out (kx vx t0 i0 t1 i1 : Expr) (ifs0 ifs1 : List Expr) (scp : Scope) (pos : Pos) (it acc : Value) (env : PySem.Env) :
    compTurn (.DictComp kx vx [⟨t0, i0, ifs0, 0⟩, ⟨t1, i1, ifs1, 0⟩] scp pos) 0 it acc env = (do
      standAt i0.pos
      match ← pyNext it with
      | none => pure (.done .next)
      | some v =>
        letOwnedTupleGo t0 it v
        assign t0 env v
        let mut ok := true
        for c in ifs0 do
          if ok then ok ← isTrue c env (eval c env)
        if ok then
          let x ← eval i1 env
          standAt i1.pos
          let x ← foldedSetIterable i1 env x
          let _ ← runOwn (.compStart (.DictComp kx vx [⟨t0, i0, ifs0, 0⟩, ⟨t1, i1, ifs1, 0⟩] scp pos) 1 (← holding [x] (pyIter x)) acc env) env
        again (.compLoop (.DictComp kx vx [⟨t0, i0, ifs0, 0⟩, ⟨t1, i1, ifs1, 0⟩] scp pos) 0 it acc env)) := by rfl
theorem dTurn_in (kx vx t0 i0 t1 i1 : Expr) (ifs0 ifs1 : List Expr) (scp : Scope) (pos : Pos) (it : Value) (D : Addr) (env : PySem.Env) :
    compTurn (.DictComp kx vx [⟨t0, i0, ifs0, 0⟩, ⟨t1, i1, ifs1, 0⟩] scp pos) 1 it (.ref D) env = (do
      standAt i1.pos
      match ← pyNext it with
      | none => pure (.done .next)
      | some v =>
        letOwnedTupleGo t1 it v
        assign t1 env v
        let mut ok := true
        for c in ifs1 do
          if ok then ok ← isTrue c env (eval c env)
        if ok then
          (do
            let kv ← eval kx env
            let vv ← holding [kv] (eval vx env)
            standAt { kx.pos with endLine := vx.pos.endLine, endCol := vx.pos.endCol }
            holding [kv, vv] (dictSet D kv vv))
        again (.compLoop (.DictComp kx vx [⟨t0, i0, ifs0, 0⟩, ⟨t1, i1, ifs1, 0⟩] scp pos) 1 it (.ref D) env)) := by rfl
section
variable {prog : Program} {w : World} {A : Around} {R : Result → Shared → Prop} {s : Shared} {kx vx t0 i0 t1 i1 : Expr} {ifs0 ifs1 : List Expr} {scp : Scope} {pos : Pos} {it acc : Value} {env : PySem.Env}
theorem dLoop_out (hs : ∀ x, foldedSetIterable i1 env x = pure x) (I : Nat → Shared → Prop)
    (turn : ∀ n s, I n s → wpAny (model prog w) A (pyNext it) (fun r u₁ => match r with
      | none => R (.ok .next) u₁
      | some v => wpAny (model prog w) A (letOwnedTupleGo t0 it v) (fun _ u₁' => wpAny (model prog w) A (assign t0 env v) (fun _ u₂ =>
          wpAny (model prog w) A (forIn ifs0 true fun c r => if r = true then do let ok ← isTrue c env (eval c env); pure (ForInStep.yield ok) else pure (ForInStep.yield r)) (fun ok u₃ =>
            if ok = true then wpAny (model prog w) A (eval i1 env) (fun x u₄ => wpAny (model prog w) A (pyIter x) (fun it1 u₅ =>
              codeAny (model prog w) A (.compStart (.DictComp kx vx [⟨t0, i0, ifs0, 0⟩, ⟨t1, i1, ifs1, 0⟩] scp pos) 1 it1 acc env) (fun r s' => match r with
                | .ok _ => ∃ m, m < n ∧ I m s'
                | .error _ => False) u₅) (notedBy (model prog w) A env fun e s' => R (.error e) s') u₄) (notedBy (model prog w) A env fun e s' => R (.error e) s') u₃
            else ∃ m, m < n ∧ I m u₃) (notedBy (model prog w) A env fun e s' => R (.error e) s') u₂) (notedBy (model prog w) A env fun e s' => R (.error e) s') u₁') (notedBy (model prog w) A env fun e s' => R (.error e) s') u₁) (notedBy (model prog w) A env fun e s' => R (.error e) s') s)
    (n : Nat) (h : I n s) :
    codeAny (model prog w) A (.compLoop (.DictComp kx vx [⟨t0, i0, ifs0, 0⟩, ⟨t1, i1, ifs1, 0⟩] scp pos) 0 it acc env) R s := by
  refine codeAny_loop rfl I (fun n s hI => ?_) n h
  show wpAny _ A ((compTurn (.DictComp kx vx [⟨t0, i0, ifs0, 0⟩, ⟨t1, i1, ifs1, 0⟩] scp pos) 0 it acc env).onRaise (fun x => do noteFrame x env; theTreesLotGoes x)) _ _ s
  refine wpAny_noted ?_
  rw [dTurn_out]
  refine wpAny_bind (wpAny_standAt (wpAny_bind (wpAny_mono (turn n s hI) (fun r u₁ k₁ => ?_) fun _ _ h' => h')))
  cases r with
  | none => exact wpAny_pure k₁
  | some v =>
    refine wpAny_bind (wpAny_mono k₁ (fun _ u₁' k₁' => ?_) fun _ _ h' => h')
    refine wpAny_bind (wpAny_mono k₁' (fun _ u₂ k₂ => wpAny_bind (wpAny_mono k₂ (fun ok u₃ k₃ => ?_) fun _ _ h' => h')) fun _ _ h' => h')
    cases ok with
    | false => exact wpAny_pure ⟨rfl, k₃⟩
    | true =>
      refine wpAny_bind (wpAny_mono k₃ (fun x u₄ k₄ => ?_) fun _ _ h' => h')
      refine wpAny_bind (wpAny_standAt (wpAny_bind (wpAny_of_eq (hs x) (wpAny_bind (wpAny_holding (wpAny_mono k₄ (fun it1 u₅ k₅ => ?_) fun _ _ h' => h'))))))
      refine wpAny_bind (wpAny_runOwn ?_)
      rw [Around.mark_none]
      refine codeAny_mono k₅ fun r s' hr => ?_
      cases r with
      | ok f =>
        first
          | exact wpAny_pure ⟨rfl, hr⟩
          | exact wpAny_bind (wpAny_pure (wpAny_pure ⟨rfl, hr⟩))
      | error e => exact hr.elim
theorem dLoop_in {D : Addr} (I : Nat → Shared → Prop)
    (turn : ∀ n s, I n s → wpAny (model prog w) A (pyNext it) (fun r u₁ => match r with
      | none => R (.ok .next) u₁
      | some v => wpAny (model prog w) A (letOwnedTupleGo t1 it v) (fun _ u₁' => wpAny (model prog w) A (assign t1 env v) (fun _ u₂ =>
          wpAny (model prog w) A (forIn ifs1 true fun c r => if r = true then do let ok ← isTrue c env (eval c env); pure (ForInStep.yield ok) else pure (ForInStep.yield r)) (fun ok u₃ =>
            if ok = true then wpAny (model prog w) A (eval kx env) (fun kv u₄ => wpAny (model prog w) A (eval vx env) (fun vv u₅ =>
              wpAny (model prog w) A (dictSet D kv vv) (fun _ u₆ => ∃ m, m < n ∧ I m u₆) (notedBy (model prog w) A env fun e s' => R (.error e) s') u₅) (notedBy (model prog w) A env fun e s' => R (.error e) s') u₄) (notedBy (model prog w) A env fun e s' => R (.error e) s') u₃
            else ∃ m, m < n ∧ I m u₃) (notedBy (model prog w) A env fun e s' => R (.error e) s') u₂) (notedBy (model prog w) A env fun e s' => R (.error e) s') u₁') (notedBy (model prog w) A env fun e s' => R (.error e) s') u₁) (notedBy (model prog w) A env fun e s' => R (.error e) s') s)
    (n : Nat) (h : I n s) :
    codeAny (model prog w) A (.compLoop (.DictComp kx vx [⟨t0, i0, ifs0, 0⟩, ⟨t1, i1, ifs1, 0⟩] scp pos) 1 it (.ref D) env) R s := by
  refine codeAny_loop rfl I (fun n s hI => ?_) n h
  show wpAny _ A ((compTurn (.DictComp kx vx [⟨t0, i0, ifs0, 0⟩, ⟨t1, i1, ifs1, 0⟩] scp pos) 1 it (.ref D) env).onRaise (fun x => do noteFrame x env; theTreesLotGoes x)) _ _ s
  refine wpAny_noted ?_
  rw [dTurn_in]
  refine wpAny_bind (wpAny_standAt (wpAny_bind (wpAny_mono (turn n s hI) (fun r u₁ k₁ => ?_) fun _ _ h' => h')))
  cases r with
  | none => exact wpAny_pure k₁
  | some v =>
    refine wpAny_bind (wpAny_mono k₁ (fun _ u₁' k₁' => ?_) fun _ _ h' => h')
    refine wpAny_bind (wpAny_mono k₁' (fun _ u₂ k₂ => wpAny_bind (wpAny_mono k₂ (fun ok u₃ k₃ => ?_) fun _ _ h' => h')) fun _ _ h' => h')
    cases ok with
    | false => exact wpAny_pure ⟨rfl, k₃⟩
    | true =>
      exact wpAny_bind (wpAny_bind (wpAny_mono k₃ (fun kv u₄ k₄ => wpAny_bind (wpAny_holding (wpAny_mono k₄ (fun vv u₅ k₅ => wpAny_bind (wpAny_standAt (wpAny_holding (wpAny_mono k₅ (fun _ u₆ k₆ => wpAny_pure ⟨rfl, k₆⟩) fun _ _ h' => h')))) fun _ _ h' => h'))) fun _ _ h' => h'))
theorem dStart1 (h0 : codeAny (model prog w) A (.compLoop (.DictComp kx vx [⟨t0, i0, ifs0, 0⟩, ⟨t1, i1, ifs1, 0⟩] scp pos) 1 it acc env) R s)
    (h : wpAny (model prog w) A (pyIter it) (fun it' s' => codeAny (model prog w) A (.compLoop (.DictComp kx vx [⟨t0, i0, ifs0, 0⟩, ⟨t1, i1, ifs1, 0⟩] scp pos) 1 it' acc env) R s')
      (notedBy (model prog w) A env fun x s' => R (.error x) s') s) :
    codeAny (model prog w) A (.compStart (.DictComp kx vx [⟨t0, i0, ifs0, 0⟩, ⟨t1, i1, ifs1, 0⟩] scp pos) 1 it acc env) R s := by
  refine codeAny_of_tree ?_
  show wpAny _ _ ((compStart (.DictComp kx vx [⟨t0, i0, ifs0, 0⟩, ⟨t1, i1, ifs1, 0⟩] scp pos) 1 it acc env).onRaise (fun x => do noteFrame x env; standAt theWindowsPlace)) _ _ s
  refine wpAny_notedAt ?_
  unfold compStart
  show wpAny _ _ (ask >>= _) _ _ s
  refine wpAny_bind (wpAny_askSetting (wpAny_ite ?_))
  split
  · first
      | exact wpAny_bind (wpAny_pure (wpAny_pure (And.intro rfl h0)))
      | exact wpAny_pure (And.intro rfl h0)
  · first
      | exact wpAny_bind (wpAny_rule (wpAny_bind (wpAny_standAt (wpAny_bind (wpAny_mono h (fun it' s' h' => wpAny_pure (And.intro rfl h')) fun _ _ x => x)))))
      | (refine wpAny_bind (wpAny_rule ?_); show wpAny _ _ (standAt i1.pos >>= _) _ _ s; exact wpAny_bind (wpAny_standAt (wpAny_bind (wpAny_mono h (fun it' s' h' => wpAny_pure (And.intro rfl h')) fun _ _ x => x))))
end
section
variable {X : Cx}
/-- {k: v for tg in iter if .. for tg1 in iter1 if ..} -/
def tDc2 (wi : TI) (g : TG) (tt : TT) (wi1 : TI) (g1 : TG) (tt1 : TT) (tk tv : TE) (vs vs1 : List Nat) : TE := fun σ H Q => wi σ H fun J Ha => ∀ D, Ha D = none → ∃ W : Nat → Nat → Hp → Prop, (∃ m, W 0 m (upd Ha D (.dK []))) ∧ ∀ i m Hb, W i m Hb →
  (J.stop i Hb ∧ Q (.ref D) Hb) ∨ (J.go i Hb ∧ ∃ Nx : Hp → Prop, (∀ H', Nx H' → ∃ m', m' < m ∧ W (i + 1) m' H') ∧ ∀ x H', J.yld i Hb x H' → g x (wipe σ vs) H' fun σa Hc => wipe σa vs = wipe σ vs ∧ tt σa Hc fun b Hd =>
    if b = true then wi1 σa Hd fun J1 He => ∃ W1 : Nat → Nat → Hp → Prop, (∃ m, W1 0 m He) ∧ ∀ j k Hf, W1 j k Hf →
      (J1.stop j Hf ∧ Nx Hf) ∨ (J1.go j Hf ∧ ∃ Nx1 : Hp → Prop, (∀ H', Nx1 H' → ∃ k', k' < k ∧ W1 (j + 1) k' H') ∧ ∀ x H', J1.yld j Hf x H' → g1 x (wipe σa vs1) H' fun σb Hg => wipe σb vs1 = wipe σa vs1 ∧ tt1 σb Hg fun b Hh =>
        if b = true then tk σb Hh fun y Hi => tv σb Hi fun z Hj => ∃ kvs key, y = kV key ∧ Hj D = some (.dK kvs) ∧ kvs.length < sizeLine ∧ Nx1 (upd Hj D (.dK (putK kvs key z))) else Nx1 Hh)
    else Nx Hd)
theorem dc2_core {pins : List (Addr × Obj)} {s : Shared} {σ : St} {H : Hp} {Q : VK} {kx vx tg iter tg1 iter1 : Expr} {tst ifs1 : List Expr} {scp : Scope} {ow : List (Str × Nat)} {vs1 : List Nat} {pos pos' : Pos} {wi wi1 : TI} {g g1 : TG} {tt tt1 : TT} {tk te : TE} {use : Option (Value → Sem Unit)} {Qf : Value → Shared → Prop}
    (hc : X.calm = true) (hN : X.N.Nodup) (I : Inv X pins σ H s) (hi : PI X tg iter wi) (ok : BlkOk X.N X.env.scope scp ow) (hv : ∀ i ∈ vs1, i ∈ ow.map (·.2))
    (hg : ∀ (s : Shared) (H : Hp) (C : Addr) (cl : List (Str × Addr)) (fp : List Addr), PG (X.blk s H scp (compEnvC scp cl C X.env) fp) tg g) (ht : ∀ (s : Shared) (H : Hp) (C : Addr) (cl : List (Str × Addr)) (fp : List Addr), PTs (X.blk s H scp (compEnvC scp cl C X.env) fp) tst tt)
    (hk : ∀ (s : Shared) (H : Hp) (C : Addr) (cl : List (Str × Addr)) (fp : List Addr), PE (X.blk s H scp (compEnvC scp cl C X.env) fp) kx tk)
    (he : ∀ (s : Shared) (H : Hp) (C : Addr) (cl : List (Str × Addr)) (fp : List Addr), PE (X.blk s H scp (compEnvC scp cl C X.env) fp) vx te) (hs : ∀ x, foldedSetIterable iter X.env x = pure x)
    (hi1 : ∀ (s : Shared) (H : Hp) (C : Addr) (cl : List (Str × Addr)) (fp : List Addr), PI (X.blk s H scp (compEnvC scp cl C X.env) fp) tg1 iter1 wi1)
    (hg1 : ∀ (s : Shared) (H : Hp) (C : Addr) (cl : List (Str × Addr)) (fp : List Addr), PG (X.blk s H scp (compEnvC scp cl C X.env) fp) tg1 g1)
    (ht1 : ∀ (s : Shared) (H : Hp) (C : Addr) (cl : List (Str × Addr)) (fp : List Addr), PTs (X.blk s H scp (compEnvC scp cl C X.env) fp) ifs1 tt1)
    (hs1 : ∀ env x, foldedSetIterable iter1 env x = pure x)
    (h : tDc2 wi g tt wi1 g1 tt1 tk te (ow.map (·.2)) vs1 σ H Q)
    (hRR : ∀ D C s' m H', Inv X pins σ H' s' → Q (.ref D) H' → s'.heap.Ns C m → FpOk X pins H' C → compPost (model X.prog X.w) X.A X.xe use Qf (.ref D) C (.ok .next) s') :
    wpAny (model X.prog X.w) X.A (comprehension (.DictComp kx vx [⟨tg, iter, tst, 0⟩, ⟨tg1, iter1, ifs1, 0⟩] scp pos) scp X.env pos' (newDict) false (eval iter X.env) use) Qf X.xe s := by
  have hfree : ∀ y ∈ scp.names, y.2 = .free → ∃ c, X.env.cells.lookup y.1 = some c := fun y hy e => by
    rcases ok.free y hy e with k | k
    · exact I.ok.has _ (.inl k)
    · exact I.ok.has _ (.inr k)
  refine wpAny_comprehension_free (use := use) rfl hs (closure_ok hfree) ok.kind (fun y hy e => by rw [ok.uniq y hy, e])
    (thn (hi.run pins s σ H _ I h) fun xv t1 hx => thn hx fun itv t2 h2 => ?_)
  obtain ⟨it, fp, tn, J, G2, e, Iv2, T, st2, f2, q⟩ := h2
  subst e
  refine wpAny_newObj_type (newEnv_comp ?_)
  generalize hD : t2.heap.objs.size = D
  have hDn : G2 D = none := Iv2.hok.fresh (Nat.le_of_eq hD)
  obtain ⟨W, ⟨m0, w0⟩, turn⟩ := q D hDn
  -- the new list
  generalize hs3 : ({ t2 with heap := t2.heap.push { cls := .type "dict", data := .dict #[] } } : Shared) = t3
  have Iv3 : Inv X pins σ (upd G2 D (.dK [])) t3 := by
    rw [← hs3]
    refine Iv2.laid (t' := t2.toks) (fun b o e => Heap.get?_push_of_some _ e) (Nat.le_of_eq hD) ?_
    rw [← hD]
    exact dk_empty t2.heap Iv2.big
  have h3 : t3.heap = t2.heap.push { cls := .type "dict", data := .dict #[] } := by rw [← hs3]
  have sz : ∀ b ∈ fp, b < t2.heap.objs.size := fun b hb => by
    obtain ⟨o, e, _⟩ := T.obj _ _ st2 b hb
    exact Heap.lt_size e
  have f3 : ∀ b ∈ fp, FpOk X pins (upd G2 D (.dK [])) b ∧ b < t3.heap.objs.size := fun b hb => by
    have hlt := sz b hb
    refine ⟨⟨?_, (f2 b hb).2⟩, by rw [h3, Heap.size_push]; exact Nat.lt_succ_of_lt hlt⟩
    rw [upd_ne (by rw [← hD]; exact Nat.ne_of_lt hlt)]
    exact (f2 b hb).1
  have st3 : tn 0 t3.heap := T.keep _ _ _ st2 fun b _ o e => by rw [h3]; exact Heap.get?_push_of_some _ e
  have Iv4 := block_start Iv3 ok hN f3
  have pg := hg t3 (upd G2 D (.dK [])) t3.heap.objs.size (cellsFrom (t3.heap.objs.size + 1) scp.names (cloFrom X.env.cells scp.names [])) fp
  have pt := ht t3 (upd G2 D (.dK [])) t3.heap.objs.size (cellsFrom (t3.heap.objs.size + 1) scp.names (cloFrom X.env.cells scp.names [])) fp
  have pk := hk t3 (upd G2 D (.dK [])) t3.heap.objs.size (cellsFrom (t3.heap.objs.size + 1) scp.names (cloFrom X.env.cells scp.names [])) fp
  have pe := he t3 (upd G2 D (.dK [])) t3.heap.objs.size (cellsFrom (t3.heap.objs.size + 1) scp.names (cloFrom X.env.cells scp.names [])) fp
  have pi1 := hi1 t3 (upd G2 D (.dK [])) t3.heap.objs.size (cellsFrom (t3.heap.objs.size + 1) scp.names (cloFrom X.env.cells scp.names [])) fp
  have pg1 := hg1 t3 (upd G2 D (.dK [])) t3.heap.objs.size (cellsFrom (t3.heap.objs.size + 1) scp.names (cloFrom X.env.cells scp.names [])) fp
  have pt1 := ht1 t3 (upd G2 D (.dK [])) t3.heap.objs.size (cellsFrom (t3.heap.objs.size + 1) scp.names (cloFrom X.env.cells scp.names [])) fp
  show codeAny _ _ (.compStart (.DictComp kx vx [⟨tg, iter, tst, 0⟩, ⟨tg1, iter1, ifs1, 0⟩] scp pos) 0 (.ref it) (.ref D) (compEnvC scp (cellsFrom (t3.heap.objs.size + 1) scp.names (cloFrom X.env.cells scp.names [])) t3.heap.objs.size X.env)) (compPost (model X.prog X.w) X.A X.xe use Qf (.ref D) t3.heap.objs.size) { t3 with heap := pushCells (t3.heap.push { cls := .type "dict", data := .dict #[] }) scp.names }
  have nfp : ∀ b ∈ fp, (upd G2 D (.dK [])) b = none := fun b hb => (f3 b hb).1.1
  generalize hce : compEnvC scp (cellsFrom (t3.heap.objs.size + 1) scp.names (cloFrom X.env.cells scp.names [])) t3.heap.objs.size X.env = ce at Iv4 pg pt pk pe pi1 pg1 pt1 ⊢
  have cL : ce.locals = t3.heap.objs.size := by subst hce; rfl
  generalize hH3 : upd G2 D (.dK []) = G3 at Iv3 Iv4 pg pt pk pe pi1 pg1 pt1 w0 nfp f3
  generalize hs4 : ({ t3 with heap := pushCells (t3.heap.push { cls := .type "dict", data := .dict #[] }) scp.names } : Shared) = t4 at Iv4 ⊢
  have st4 : tn 0 t4.heap := T.keep _ _ _ st3 fun b _ o e => by rw [← hs4]; exact pushCells_keeps _ _ _ _ (Heap.get?_push_of_some _ e)
  have stat : ∀ {σ' : St} {H' : Hp} {s' : Shared}, Inv (X.blk t3 G3 scp ce fp) [] σ' H' s' → (∀ b ∈ fp, H' b = none) → ∀ b ∈ fp, FpOk (X.blk t3 G3 scp ce fp) [] H' b := fun {σ' H' s'} I' hn b hb =>
    ⟨hn b hb, (I'.ok.exf b hb).1, I'.ok.exfs b hb, .inl hb, fun x c e => (I'.ok.exf b hb).2 x c e, fun p hp => absurd (show p ∈ ([] : List (Addr × Obj)) ++ [] from hp) (by simp)⟩
  have loop : codeAny (model X.prog X.w) X.A (.compLoop (.DictComp kx vx [⟨tg, iter, tst, 0⟩, ⟨tg1, iter1, ifs1, 0⟩] scp pos) 0 (.ref it) (.ref D) ce) (compPost (model X.prog X.w) X.A X.xe use Qf (.ref D) t3.heap.objs.size) t4 := by
    refine dLoop_out (hs1 ce) (fun n s' => ∃ i H', Inv (X.blk t3 G3 scp ce fp) [] (wipe σ (ow.map (·.2))) H' s' ∧ tn i s'.heap ∧ (∀ b ∈ fp, H' b = none) ∧ W i n H') ?_ m0 ⟨0, G3, Iv4, st4, nfp, w0⟩
    rintro n t5 ⟨i, G5, Iv5, st5, n5, w5⟩
    rcases turn i n G5 w5 with ⟨stop, qq⟩ | ⟨go, Nx, hNx, step⟩
    · have td := T.done (X.blk t3 G3 scp ce fp) rfl rfl rfl hc i [] t5 _ G5 (fun _ _ => False) Iv5 (stat Iv5 n5) st5 stop
      refine thnF td fun r t6 ⟨hr, Iv6⟩ => ?_
      subst hr
      -- back in the def's context
      have Iv7 : Inv X pins σ G5 t6 := Iv3.call' (ch := fp) Iv6.os Iv6.base Iv6.hok Iv6.bare fun b hb => ⟨(f3 b hb).1.2.2.2.1, (f3 b hb).1.2.1, (f3 b hb).1.2.2.2.2.1, (f3 b hb).1.2.2.2.2.2⟩
      have nC : G5 t3.heap.objs.size = none := by
        have z : G5 ce.locals = none := Iv6.free
        rw [cL] at z
        exact z
      obtain ⟨m, hn, _⟩ := Iv6.loc
      have hn : t6.heap.Ns ce.locals m := hn
      rw [cL] at hn
      exact hRR D t3.heap.objs.size t6 m G5 Iv7 qq hn (Iv3.fpOk (Nat.le_refl _) nC)
    · have ti := T.item (X.blk t3 G3 scp ce fp) rfl rfl rfl hc i [] t5 _ G5 (fun _ _ => False) Iv5 (stat Iv5 n5) st5 go
      refine thnF ti fun r t6 ⟨u, hr, h6⟩ => ?_
      subst hr
      refine thnF h6 fun _ t7 ⟨x, G7, Iv7, r7, y7, st7, n7⟩ => ?_
      have Iv7' := Iv7.pinned (stat Iv7 n7) (T.obj _ _ st7)
      refine thnF (pg.run _ t7 _ G7 x u _ Iv7' r7 (step x G7 y7)) fun _ t8 ⟨τ8, G8, Iv8, hw8, q8⟩ => ?_
      refine thnF (pt.run _ t8 τ8 G8 _ Iv8 q8) fun b t9 ⟨G9, Iv9, q9⟩ => ?_
      -- the turn's end, from any slots that know what the block knew at its start
      have fnl : ∀ {τ9 : St} {s' : Shared} {H' : Hp}, Inv (X.blk t3 G3 scp ce fp) ([] ++ pinsAt fp t7.heap) τ9 H' s' → (wipe σ (ow.map (·.2))).length = τ9.length → (∀ (j : Nat) v, (wipe σ (ow.map (·.2)))[j]? = some (some v) → τ9[j]? = some (some v)) → Nx H' →
          ∃ m, m < n ∧ ∃ i H', Inv (X.blk t3 G3 scp ce fp) [] (wipe σ (ow.map (·.2))) H' s' ∧ tn i s'.heap ∧ (∀ b ∈ fp, H' b = none) ∧ W i m H' := fun {τ9 s' H'} I' hl hk nx => by
        obtain ⟨m', hm, w'⟩ := hNx H' nx
        have pin' : ∀ b ∈ fp, ∀ o, t7.heap.get? b = some o → s'.heap.get? b = some o ∧ H' b = none := fun b hb o e =>
          let z := I'.pin (b, o) (List.mem_append_right _ (List.mem_append_right _ (mem_pinsAt hb e)))
          ⟨z.1, z.2.1⟩
        refine ⟨m', hm, i + 1, H', (I'.unpinned (pins := [])).weak hl hk, T.keep _ _ _ st7 fun b hb o e => (pin' b hb o e).1, fun b hb => ?_, w'⟩
        obtain ⟨o, e, _⟩ := T.obj _ _ st7 b hb
        exact (pin' b hb o e).2
      have hl8 : (wipe σ (ow.map (·.2))).length = τ8.length := by rw [← hw8, wipe_length]
      have hk8 : ∀ (j : Nat) v, (wipe σ (ow.map (·.2)))[j]? = some (some v) → τ8[j]? = some (some v) := fun j v e => by
        rw [← hw8] at e
        exact (wipe_some e).1
      have hk9 : ∀ (j : Nat) v, (wipe σ (ow.map (·.2)))[j]? = some (some v) → (wipe τ8 vs1)[j]? = some (some v) := fun j v e => by
        rw [← hw8] at e
        obtain ⟨e1, e2⟩ := wipe_some e
        rw [wipe_out fun z => e2 (hv j z)]
        exact e1
      cases b with
      | false =>
        simp only [Bool.false_eq_true, if_false] at q9 ⊢
        exact fnl Iv9 hl8 hk8 q9
      | true =>
        simp only [if_true] at q9 ⊢
        refine thnF (pi1.run _ t9 τ8 G9 _ Iv9 q9) fun xv t10 hx => thnF hx fun itv t11 h11 => ?_
        obtain ⟨it1, fp1, tn1, J1, G11, e1, Iv11, T1, st11, f11, W1, ⟨m1, w1⟩, turn1⟩ := h11
        subst e1
        -- the inner loop
        have stat1 : ∀ {H' : Hp}, (∀ b ∈ fp1, H' b = none) → ∀ b ∈ fp1, FpOk (X.blk t3 G3 scp ce fp) ([] ++ pinsAt fp t7.heap) H' b := fun hn b hb => ⟨hn b hb, (f11 b hb).2⟩
        have loop1 : codeAny (model X.prog X.w) X.A (.compLoop (.DictComp kx vx [⟨tg, iter, tst, 0⟩, ⟨tg1, iter1, ifs1, 0⟩] scp pos) 1 (.ref it1) (.ref D) ce)
            (fun r s' => match r with
              | .ok _ => ∃ m, m < n ∧ ∃ i H', Inv (X.blk t3 G3 scp ce fp) [] (wipe σ (ow.map (·.2))) H' s' ∧ tn i s'.heap ∧ (∀ b ∈ fp, H' b = none) ∧ W i m H'
              | .error _ => False) t11 := by
          refine dLoop_in (fun k s' => ∃ j H', Inv (X.blk t3 G3 scp ce fp) ([] ++ pinsAt fp t7.heap) (wipe τ8 vs1) H' s' ∧ tn1 j s'.heap ∧ (∀ b ∈ fp1, H' b = none) ∧ W1 j k H') ?_ m1 ⟨0, G11, Iv11.weak (wipe_length _ _) (fun j v e => (wipe_some e).1), st11, fun b hb => (f11 b hb).1, w1⟩
          rintro k t12 ⟨j, G12, Iv12, st12, n12, w12⟩
          rcases turn1 j k G12 w12 with ⟨stop1, nx1⟩ | ⟨go1, Nx1, hNx1, step1⟩
          · refine thnF (T1.done (X.blk t3 G3 scp ce fp) rfl rfl rfl hc j _ t12 (wipe τ8 vs1) G12 (fun _ _ => False) Iv12 (stat1 n12) st12 stop1) fun r t13 ⟨hr, Iv13⟩ => ?_
            subst hr
            exact fnl Iv13 (hl8.trans (wipe_length τ8 vs1).symm) hk9 nx1
          · refine thnF (T1.item (X.blk t3 G3 scp ce fp) rfl rfl rfl hc j _ t12 (wipe τ8 vs1) G12 (fun _ _ => False) Iv12 (stat1 n12) st12 go1) fun r t13 ⟨u1, hr, h13⟩ => ?_
            subst hr
            refine thnF h13 fun _ t14 ⟨x1, G14, Iv14, r14, y14, st14, n14⟩ => ?_
            have Iv14' := Iv14.pinned (stat1 n14) (T1.obj _ _ st14)
            refine thnF (pg1.run _ t14 (wipe τ8 vs1) G14 x1 u1 _ Iv14' r14 (step1 x1 G14 y14)) fun _ t15 ⟨τ15, G15, Iv15, hw15, q15⟩ => ?_
            refine thnF (pt1.run _ t15 τ15 G15 _ Iv15 q15) fun b1 t16 ⟨G16, Iv16, q16⟩ => ?_
            have fin1 : ∀ {s' : Shared} {H' : Hp}, Inv (X.blk t3 G3 scp ce fp) (([] ++ pinsAt fp t7.heap) ++ pinsAt fp1 t14.heap) τ15 H' s' → Nx1 H' → ∃ m, m < k ∧ ∃ j H', Inv (X.blk t3 G3 scp ce fp) ([] ++ pinsAt fp t7.heap) (wipe τ8 vs1) H' s' ∧ tn1 j s'.heap ∧ (∀ b ∈ fp1, H' b = none) ∧ W1 j m H' := fun {s' H'} I' nx => by
              obtain ⟨m', hm, w'⟩ := hNx1 H' nx
              have pin' : ∀ b ∈ fp1, ∀ o, t14.heap.get? b = some o → s'.heap.get? b = some o ∧ H' b = none := fun b hb o e =>
                let z := I'.pin (b, o) (List.mem_append_right _ (List.mem_append_right _ (mem_pinsAt hb e)))
                ⟨z.1, z.2.1⟩
              refine ⟨m', hm, j + 1, H', I'.unpinned.weak (by rw [← hw15, wipe_length]) (fun j v e => by rw [← hw15] at e; exact (wipe_some e).1), T1.keep _ _ _ st14 fun b hb o e => (pin' b hb o e).1, fun b hb => ?_, w'⟩
              obtain ⟨o, e, _⟩ := T1.obj _ _ st14 b hb
              exact (pin' b hb o e).2
            cases b1 with
            | false =>
              simp only [Bool.false_eq_true, if_false] at q16 ⊢
              exact fin1 Iv16 q16
            | true =>
              simp only [if_true] at q16 ⊢
              refine thnF (pk.run _ t16 τ15 G16 _ Iv16 q16) fun z0 t19 ⟨yk, G19, Iv19, r19, q19⟩ => ?_
              refine thnF (pe.run _ t19 τ15 G19 _ Iv19 q19) fun z t17 ⟨yv, G17, Iv17, r17, kvs, key, ek, hD17, hz17, nx⟩ => ?_
              subst ek
              exact d_dictSet (X := X.blk t3 G3 scp ce fp) Iv17 hD17 hz17 r19 r17 fun t18 Iv18 => fin1 Iv18 nx
        exact dStart1 loop1 (T1.self X.A 0 _ _ _ st11 loop1)
  exact codeAny_compStart_dict loop (T.self X.A 0 _ _ _ st4 loop)
theorem pe_dc2 {kx vx tg iter tg1 iter1 : Expr} {tst ifs1 : List Expr} {scp : Scope} {ow : List (Str × Nat)} {vs1 : List Nat} {pos : Pos} {wi wi1 : TI} {g g1 : TG} {tt tt1 : TT} {tk te : TE} (hc : X.calm = true) (hN : X.N.Nodup) (hi : PI X tg iter wi) (ok : BlkOk X.N X.env.scope scp ow) (hv : ∀ i ∈ vs1, i ∈ ow.map (·.2))
    (hg : ∀ (s : Shared) (H : Hp) (C : Addr) (cl : List (Str × Addr)) (fp : List Addr), PG (X.blk s H scp (compEnvC scp cl C X.env) fp) tg g) (ht : ∀ (s : Shared) (H : Hp) (C : Addr) (cl : List (Str × Addr)) (fp : List Addr), PTs (X.blk s H scp (compEnvC scp cl C X.env) fp) tst tt)
    (hi1 : ∀ (s : Shared) (H : Hp) (C : Addr) (cl : List (Str × Addr)) (fp : List Addr), PI (X.blk s H scp (compEnvC scp cl C X.env) fp) tg1 iter1 wi1)
    (hg1 : ∀ (s : Shared) (H : Hp) (C : Addr) (cl : List (Str × Addr)) (fp : List Addr), PG (X.blk s H scp (compEnvC scp cl C X.env) fp) tg1 g1) (ht1 : ∀ (s : Shared) (H : Hp) (C : Addr) (cl : List (Str × Addr)) (fp : List Addr), PTs (X.blk s H scp (compEnvC scp cl C X.env) fp) ifs1 tt1)
    (hk : ∀ (s : Shared) (H : Hp) (C : Addr) (cl : List (Str × Addr)) (fp : List Addr), PE (X.blk s H scp (compEnvC scp cl C X.env) fp) kx tk)
    (he : ∀ (s : Shared) (H : Hp) (C : Addr) (cl : List (Str × Addr)) (fp : List Addr), PE (X.blk s H scp (compEnvC scp cl C X.env) fp) vx te) (hs : ∀ x, foldedSetIterable iter X.env x = pure x := by intro _; rfl) (hs1 : ∀ env x, foldedSetIterable iter1 env x = pure x := by intro _ _; rfl) :
    PE X (.DictComp kx vx [⟨tg, iter, tst, 0⟩, ⟨tg1, iter1, ifs1, 0⟩] scp pos) (tDc2 wi g tt wi1 g1 tt1 tk te (ow.map (·.2)) vs1) := by
  refine ⟨fun pins s σ H Q I h => ?_⟩
  rw [arm_eval_DictComp]
  refine dc2_core hc hN I hi ok hv hg ht hk he hs hi1 hg1 ht1 hs1 h fun D C s' m H' I' q hn f => ⟨m, hn, fun h'' sb => ?_⟩
  obtain ⟨f0, f1, f2, f3, f4, f5⟩ := f
  exact ⟨.ref D, H', I'.turned (t' := s'.toks) (fun b o hb e => (sb.2 b hb).trans e) f0 f1 f3 f4 f5, rfl, q⟩
end
end DL
end
section
set_option autoImplicit false
namespace DL
open PySem PySem.Spec L2
section
variable {T : Cfg} {H0 H H' H1 H2 H3 A B C : Hp} {S0 SS : Addr → Prop} {Γ Γ' Γ1 Γ2 Γ3 Γb Γw Γi Γj : List Md} {ρ ρ' : Env} {s s' s1 s2 sa sb sc : Strm} {σ : St} {tg tg' tg1 tg2 ta tb tc : Tags} {v w : V} {d c : D} {vs : List V} {ds zs : List D} {m m' mr me ms me1 ms1 : Md} {k : Kid} {Da : Addr}
variable {X : Cx} {E : XK} {e a b : Expr} {pos p : Pos} {x : Str} {tge iter elt tge1 iter1 : Expr} {scope : Scope} {own : List (Str × Nat)}
/-- from one heap to a later one: all that was laid stays but what Da is -/
structure Mv (T : Cfg) (H0 : Hp) (S0 : Addr → Prop) (Da : Addr) (sa : Strm) (A : Hp) (ta : Tags) (sb : Strm) (B : Hp) (tb : Tags) : Prop where
  sta : ∀ (Γ : List Md) (ρ : Env) (σ : St), Sta T H0 S0 Γ ρ sa σ A ta → Sta T H0 S0 Γ ρ sb σ B tb
  keep : ∀ a o, A a = some o → a ≠ T.st → a ≠ T.sl → a ≠ Da → B a = some o
  sh : ∀ b a, shS ta b a → shS tb b a
  up : ∀ a, A a ≠ none → B a ≠ none
  tag : ∀ a, A a ≠ none → tb a = ta a
  go : ∀ (H : Hp) (tg : Tags), H Da = none → Go T H A tg ta → Go T H B tg tb
theorem Mv.refl : Mv T H0 S0 Da sa A ta sa A ta := ⟨fun _ _ _ h => h, fun _ _ e _ _ _ => e, fun _ _ h => h, fun _ h => h, fun _ _ => rfl, fun _ _ _ g => g⟩
theorem Mv.trans (x : Mv T H0 S0 Da sa A ta sb B tb) (y : Mv T H0 S0 Da sb B tb sc C tc) : Mv T H0 S0 Da sa A ta sc C tc :=
  ⟨fun Γ ρ σ h => y.sta Γ ρ σ (x.sta Γ ρ σ h), fun a o e h1 h2 h3 => y.keep a o (x.keep a o e h1 h2 h3) h1 h2 h3, fun b a h => y.sh b a (x.sh b a h), fun a h => y.up a (x.up a h), fun a h => (y.tag a (x.up a h)).trans (x.tag a h), fun H tg h g => y.go H tg h (x.go H tg h g)⟩
theorem Mv.ofGo {ρ1 : Env} {σ1 : St} (SA : Sta T H0 S0 Γ ρ sa σ A ta) (SB : Sta T H0 S0 Γ1 ρ1 sb σ1 B tb) (g : Go T A B ta tb) : Mv T H0 S0 Da sa A ta sb B tb :=
  ⟨fun _ _ _ h => h.go g SB, fun a o e h1 h2 _ => g.x a o e h1 h2, fun b a h => g.t.sh SA.tgd h, g.u, g.t.1, fun _ _ _ q => q.trans g⟩
theorem Mv.poke {o : HO} (hD : A Da ≠ none) (ht : ta Da = .no) (h0 : H0 Da = none) (hmu : ∀ o', A Da = some o' → ¬ Imm o') : Mv T H0 S0 Da sa A ta sa (upd A Da o) ta := by
  have up : ∀ a, A a ≠ none → upd A Da o a ≠ none := fun a n => by
    by_cases z : a = Da
    · rw [z, upd_same]; simp
    · rw [upd_ne z]; exact n
  exact ⟨fun _ _ _ h => h.poke hD ht h0 hmu, fun a u e _ _ h3 => by rw [upd_ne h3]; exact e, fun _ _ h => h, up, fun _ _ => rfl, fun _ _ h g => g.poke h⟩
/-- what the sink holds so far -/
abbrev AccT := Hp → Tags → List D → Prop
def AccL (T : Cfg) (H : Hp) (k : Kid) (Da : Addr) : AccT := fun B tb zs => ∃ acc, B Da = some (.lst acc) ∧ acc.length ≤ zs.length ∧ RepL T B (fun b => kidS tb (frS tb H B) k b ∧ b ≠ Da) acc zs
def AccK (T : Cfg) (H : Hp) (k : Kid) (Da : Addr) : AccT := fun B tb zs => ∃ xs kvs, mergeP [] zs = some kvs ∧ B Da = some (.dK xs) ∧ xs.length ≤ zs.length ∧ kvs.map (·.1) = xs.map (fun p => kD p.1) ∧ RepL T B (fun b => kidS tb (frS tb H B) k b ∧ b ≠ Da) (xs.map (·.2)) (kvs.map (·.2))
/-- it stays behind what does not touch it -/
def AccOk (T : Cfg) (H0 : Hp) (S0 : Addr → Prop) (Acc : AccT) : Prop := ∀ (Γ : List Md) (ρ : Env) (s : Strm) (σ : St) (A : Hp) (ta : Tags) (B : Hp) (tb : Tags) (zs : List D), Sta T H0 S0 Γ ρ s σ A ta → Go T A B ta tb → Acc A ta zs → Acc B tb zs
theorem upd_id {o : HO} (h : B Da = some o) : upd B Da o = B := by
  funext a; unfold upd
  by_cases z : a = Da
  · rw [if_pos z, z, h]
  · rw [if_neg z]
theorem AccL.ok (hst : H T.st ≠ none) (hsl : H T.sl ≠ none) (n1 : Da ≠ T.st) (n2 : Da ≠ T.sl) : AccOk T H0 S0 (AccL T H k Da) := fun Γ ρ s σ A ta B tb zs S g ⟨acc, h1, h2, h3⟩ => by
  have hd := g.x Da _ h1 n1 n2
  have := RepL.kids (o := .lst acc) h3 S g hst hsl (fun o' e z => by rw [hd] at e; cases e; exact z)
  rw [upd_id hd] at this
  exact ⟨acc, hd, h2, this⟩
theorem AccK.ok (hst : H T.st ≠ none) (hsl : H T.sl ≠ none) (n1 : Da ≠ T.st) (n2 : Da ≠ T.sl) : AccOk T H0 S0 (AccK T H k Da) := fun Γ ρ s σ A ta B tb zs S g ⟨xs, kvs, h0, h1, h2, h3, h4⟩ => by
  have hd := g.x Da _ h1 n1 n2
  have := RepL.kids (o := .dK xs) h4 S g hst hsl (fun o' e z => by rw [hd] at e; cases e; exact z)
  rw [upd_id hd] at this
  exact ⟨xs, kvs, h0, hd, h2, h3, this⟩
/-- an element is put in -/
def TailOk (T : Cfg) (H0 : Hp) (S0 : Addr → Prop) (H : Hp) (tg : Tags) (Da : Addr) (Acc : AccT) (Γj : List Md) (Fe : EF) (tail : St → Hp → (Hp → Prop) → Prop) : Prop :=
  ∀ (ρ : Env) (s : Strm) (σ : St) (A : Hp) (ta : Tags) (yd : D) (s' : Strm) (zs : List D) (Nx : Hp → Prop), Sta T H0 S0 Γj ρ s σ A ta → Fe ρ s = some (.ok yd, s') → Acc A ta zs → ta Da = .no → H0 Da = none → H Da = none → Go T H A tg ta → zs.length < sizeLine →
    (∀ B tb, Mv T H0 S0 Da s A ta s' B tb → tb Da = .no → Acc B tb (zs ++ [yd]) → Nx B) → tail σ A Nx
theorem tail_lst {Fe : EF} (he : ∀ s H C cl fp, DE T (bkC X scope s H C cl fp) E0 Γj elt Fe m Γj) (hm : m.flat = true) (hr : m ≠ .any) (hst : H T.st ≠ none) (hsl : H T.sl ≠ none) (n1 : Da ≠ T.st) (n2 : Da ≠ T.sl) :
    TailOk T H0 S0 H tg Da (AccL T H (kidOf m) Da) Γj Fe (fun σ A Nx => eU X scope elt σ A fun y B => ∃ acc, B Da = some (.lst acc) ∧ acc.length < sizeLine ∧ Nx (upd B Da (.lst (acc ++ [y])))) := by
  intro ρ s σ A ta yd s' zs Nx S hF ha ht h0 hH g hl next
  intro bs bH bC bcl bfp
  refine he bs bH bC bcl bfp _ _ _ _ _ _ _ S _ _ hF _ fun yv B tb g2 S2 r2 => ?_
  obtain ⟨acc, hd, hlen, hrp⟩ := ha
  have hdB : B Da = some (.lst acc) := g2.x Da _ hd n1 n2
  have htB : tb Da = .no := by rw [g2.t.1 Da (by rw [hd]; simp)]; exact ht
  have hDi : ∀ o', B Da = some o' → ¬ Imm o' := fun o' e z => by rw [hdB] at e; cases e; exact z
  have r5 := (RepW.flat hm).mp r2
  have nD : ∀ a, setW T tb (frS tb A B) B m a → a ≠ Da := fun a z q => by
    subst q
    cases m with
    | any => exact hr rfl
    | atom => exact z
    | sh b => exact shS_not htB z
    | xc => rw [z.1] at hd; cases hd
    | ow k => cases hm
  refine ⟨acc, hdB, Nat.lt_of_le_of_lt hlen hl, next _ tb ((Mv.ofGo S S2 g2).trans (Mv.poke (by rw [hdB]; simp) htB h0 hDi)) htB ⟨acc ++ [yv], upd_same, by simp; omega, RepL.append (RepL.kids hrp S g2 hst hsl hDi) (.one ?_)⟩⟩
  refine (r5.keep (H' := upd B Da (.lst (acc ++ [yv]))) fun a u e z => ?_).mono fun a z => ⟨?_, nD a z⟩
  · rw [upd_ne]
    · exact e
    · rintro rfl
      rcases z with z | z
      · exact nD _ z rfl
      · exact hDi _ e z
  · cases m with
    | any => exact absurd rfl hr
    | atom => exact z.elim
    | sh b => cases b <;> exact z
    | xc => exact ⟨Classical.byContradiction fun n => g.u a n z.1, by rw [upd_ne (nD a z)]; exact z.2.1, z.2.2⟩
    | ow k => cases hm
/-- a pair whose first may be a key -/
def fPairK (Fk Fv : EF) : EF := fun ρ => do let k ← Fk ρ; let v ← Fv ρ; M.of ((kOf k).map fun _ => .tup [k, v])
theorem tail_dic {Fk Fv : EF} {kx vx : Expr} {mk : Md} (hkk : ∀ s H C cl fp, DE T (bkC X scope s H C cl fp) E0 Γj kx Fk mk Γj) (he : ∀ s H C cl fp, DE T (bkC X scope s H C cl fp) E0 Γj vx Fv m Γj) (hmk : mk.flat = true) (hm : m.flat = true) (hr : m ≠ .any) (hst : H T.st ≠ none) (hsl : H T.sl ≠ none) (n1 : Da ≠ T.st) (n2 : Da ≠ T.sl) :
    TailOk T H0 S0 H tg Da (AccK T H (kidOf m) Da) Γj (fPairK Fk Fv) (fun σ A Nx => eU X scope kx σ A fun y B => eU X scope vx σ B fun z C => ∃ kvs key, y = kV key ∧ C Da = some (.dK kvs) ∧ kvs.length < sizeLine ∧ Nx (upd C Da (.dK (putK kvs key z)))) := by
  intro ρ s σ A ta yd s' zs Nx S hF ha ht h0 hH g hl next
  rcases M.bind_some hF with ⟨x, _, q⟩ | ⟨kd, sk, hk1, hF⟩
  · cases q
  rcases M.bind_some hF with ⟨x, _, q⟩ | ⟨vd, sv, hv1, hF⟩
  · cases q
  obtain ⟨yy, hyy, q, rfl⟩ := M.of_some hF
  cases q
  obtain ⟨key, hkey, rfl⟩ := Option.map_eq_some_iff.mp hyy
  have hkd := kD_kOf hkey
  subst hkd
  intro bs bH bC bcl bfp
  refine hkk bs bH bC bcl bfp _ _ _ _ _ _ _ S _ _ hk1 _ fun kv B1 t1 g1 S1 r1 => ?_
  have ekv : kv = kV key := by
    have r := (RepW.flat hmk).mp r1
    cases key <;> (cases r; rfl)
  intro bs bH bC bcl bfp
  refine he bs bH bC bcl bfp _ _ _ _ _ _ _ S1 _ _ hv1 _ fun yv B tb g2 S2 r2 => ?_
  obtain ⟨xs, kvs, hmg, hd, hlen, hkm, hrp⟩ := ha
  have g12 := g1.trans g2
  have hd1 : B1 Da = some (.dK xs) := g1.x Da _ hd n1 n2
  have hdB : B Da = some (.dK xs) := g2.x Da _ hd1 n1 n2
  have htB : tb Da = .no := by rw [g12.t.1 Da (by rw [hd]; simp)]; exact ht
  have hDi : ∀ o', B Da = some o' → ¬ Imm o' := fun o' e z => by rw [hdB] at e; cases e; exact z
  have r5 := (RepW.flat hm).mp r2
  have nD : ∀ a, setW T tb (frS tb B1 B) B m a → a ≠ Da := fun a z q => by
    subst q
    cases m with
    | any => exact hr rfl
    | atom => exact z
    | sh b => exact shS_not htB z
    | xc => rw [z.1] at hd1; cases hd1
    | ow k => cases hm
  have val : Rep T (upd B Da (.dK (putK xs key yv))) (fun b => kidS tb (frS tb H (upd B Da (.dK (putK xs key yv)))) (kidOf m) b ∧ b ≠ Da) yv vd := by
    refine (r5.keep (H' := upd B Da (.dK (putK xs key yv))) fun a u e z => ?_).mono fun a z => ⟨?_, nD a z⟩
    · rw [upd_ne]
      · exact e
      · rintro rfl
        rcases z with z | z
        · exact nD _ z rfl
        · exact hDi _ e z
    · cases m with
      | any => exact absurd rfl hr
      | atom => exact z.elim
      | sh b => cases b <;> exact z
      | xc => exact ⟨Classical.byContradiction fun n => (g.trans g1).u a n z.1, by rw [upd_ne (nD a z)]; exact z.2.1, z.2.2⟩
      | ow k => cases hm
  obtain ⟨p1, p2⟩ := put_rep kOf_kD key val kvs xs hkm (RepL.kids hrp S g12 hst hsl hDi)
  have hlp : (putK xs key yv).length ≤ xs.length + 1 := length_putK xs key yv
  refine ⟨xs, key, ekv, hdB, Nat.lt_of_le_of_lt hlen hl, next _ tb ((Mv.ofGo S S2 g12).trans (Mv.poke (by rw [hdB]; simp) htB h0 hDi)) htB ⟨putK xs key yv, putL kvs (fun e => decide (kOf e = some key)) (kD key) vd, ?_, upd_same, by simp; omega, p1, p2⟩⟩
  rw [mergeP_app, hmg]
  show (kOf (kD key)).bind _ = _
  rw [kOf_kD]; rfl
end
end DL
end
section
set_option autoImplicit false
namespace DL
open PySem PySem.Spec L2
section
variable {T : Cfg} {H0 H H' H1 H2 H3 A B C : Hp} {S0 SS : Addr → Prop} {Γ Γ' Γ1 Γ2 Γ3 Γb Γw Γi Γj : List Md} {ρ ρ' : Env} {s s' s1 s2 sa sb sc : Strm} {σ : St} {tg tg' tg1 tg2 ta tb tc : Tags} {v w : V} {d c : D} {vs : List V} {ds zs : List D} {m m' mr me ms me1 ms1 mk : Md} {k : Kid} {Da : Addr}
variable {X : Cx} {E : XK} {e a b : Expr} {pos p : Pos} {x : Str} {tge iter elt tge1 iter1 kx vx : Expr} {scope : Scope} {own : List (Str × Nat)} {ifs ifs1 : List Expr}
def lcB2 (g : GF) (Fq : TF) (Fi1 : IF) (q1 : Bool) (is1 : List Nat) (g1 : GF) (Fq1 : TF) (Fe : EF) (ρ : Env) (d : D) : M (List D) := match g d ρ with
  | some ρ1 => do if ← Fq ρ1 then do let items ← Fi1 ρ1; fzM q1 items; lcD (lcB g1 Fq1 Fe (wipeR ρ1 is1)) items else pure []
  | none => M.fail
def lcJ (B : D → M (List D)) : List D → M (List D)
  | [] => pure []
  | d :: ds => do let xs ← B d; let ys ← lcJ B ds; pure (xs ++ ys)
theorem lcJ_cons {B : D → M (List D)} {rest : List D} (h : lcJ B (d :: ds) s = some (.ok rest, s')) : ∃ xs s2 ys, B d s = some (.ok xs, s2) ∧ lcJ B ds s2 = some (.ok ys, s') ∧ rest = xs ++ ys := by
  rcases M.bind_some h with ⟨x, _, q⟩ | ⟨xs, s2, h1, h⟩
  · cases q
  rcases M.bind_some h with ⟨x, _, q⟩ | ⟨ys, s3, h2, h⟩
  · cases q
  cases h
  exact ⟨xs, s2, ys, h1, h2, rfl⟩
/-- what is put in, one by one -/
def fPs2 (q : Bool) (Fi : IF) (is : List Nat) (g : GF) (Fq : TF) (Fi1 : IF) (q1 : Bool) (is1 : List Nat) (g1 : GF) (Fq1 : TF) (Fe : EF) (ρ : Env) : M (List D) := do
  let items ← Fi ρ
  fzM q items
  noErr (lcJ (lcB2 g Fq Fi1 q1 is1 g1 Fq1 Fe (wipeR ρ is)) items)
def fLc2 (q : Bool) (Fi : IF) (is : List Nat) (g : GF) (Fq : TF) (Fi1 : IF) (q1 : Bool) (is1 : List Nat) (g1 : GF) (Fq1 : TF) (Fe : EF) : EF := fun ρ => do
  let ys ← fPs2 q Fi is g Fq Fi1 q1 is1 g1 Fq1 Fe ρ
  M.of (if ys.length < sizeLine then some (.lst ys) else none)
def fDc2 (q : Bool) (Fi : IF) (is : List Nat) (g : GF) (Fq : TF) (Fi1 : IF) (q1 : Bool) (is1 : List Nat) (g1 : GF) (Fq1 : TF) (Fk Fv : EF) : EF := fun ρ => do
  let ys ← fPs2 q Fi is g Fq Fi1 q1 is1 g1 Fq1 (fPairK Fk Fv) ρ
  M.of (if ys.length < sizeLine then (mergeP [] ys).map (.dic false) else none)
def iU (X : Cx) (scope : Scope) (tge iter : Expr) : TI := fun σ H R => ∀ s H' C cl fp, WI (bkC X scope s H' C cl fp) tge iter σ H R
theorem iU.pi (s : Shared) (H : Hp) (C : Addr) (cl : List (Str × Addr)) (fp : List Addr) : PI (bkC X scope s H C cl fp) tge iter (iU X scope tge iter) := ⟨fun pins sh σ H' Q I h => WI.pi.run pins sh σ H' Q I (h s H C cl fp)⟩
theorem comp2_read {vs vs1 js js1 : List Nat} (hjs : ∀ j ∈ js, j ∈ vs) (hjs1 : ∀ j ∈ js1, j ∈ vs1) {q q1 : Bool} {Fi Fi1 : IF} {g g1 : GF} {Fq Fq1 : TF} {Fe : EF} (hi : DI T X E Γ tge iter Fi ms) (hfm : ms.flat = true) (hel : ElM q ms me)
    (hg : ∀ s H C cl fp, DG T (bkC X scope s H C cl fp) me js (wipeG Γ vs) tge g Γi) (ht : ∀ s H C cl fp, DQ T (bkC X scope s H C cl fp) E0 Γi ifs Fq)
    (hi1 : ∀ s H C cl fp, DI T (bkC X scope s H C cl fp) E0 Γi tge1 iter1 Fi1 ms1) (hfm1 : ms1.flat = true) (hna : ms1 ≠ .any) (hel1 : ElM q1 ms1 me1)
    (hg1 : ∀ s H C cl fp, DG T (bkC X scope s H C cl fp) me1 js1 (wipeG Γi vs1) tge1 g1 Γj) (ht1 : ∀ s H C cl fp, DQ T (bkC X scope s H C cl fp) E0 Γj ifs1 Fq1)
    (S : Sta T H0 S0 Γ ρ s σ H tg) {o0 : HO} {Acc : Addr → AccT} {tail : Addr → St → Hp → (Hp → Prop) → Prop} (hnil : ∀ Da B tb, B Da = some o0 → Acc Da B tb []) (hmut : ∀ Da B tb zs, Acc Da B tb zs → ∃ o, B Da = some o ∧ ¬ Imm o)
    (hok : ∀ Da, Da ≠ T.st → Da ≠ T.sl → AccOk T H0 S0 (Acc Da)) (htl : ∀ Da, Da ≠ T.st → Da ≠ T.sl → TailOk T H0 S0 H tg Da (Acc Da) Γj Fe (tail Da))
    {r : Except Exn (List D)} (hF : fPs2 q Fi vs g Fq Fi1 q1 vs1 g1 Fq1 Fe ρ s = some (r, s')) (hE : ErrK T E H s' r) (hl : ∀ ys, r = .ok ys → ys.length < sizeLine) {Q : VK}
    (hQ : ∀ ys Da B tb, r = .ok ys → H Da = none → Go T H B tg tb → Sta T H0 S0 Γ ρ s' σ B tb → tb Da = .no → Acc Da B tb ys → Q (.ref Da) B) :
    WI X tge iter σ H fun J Ha => ∀ D, Ha D = none → ∃ W : Nat → Nat → Hp → Prop, (∃ m, W 0 m (upd Ha D o0)) ∧ ∀ i m Hb, W i m Hb →
      (J.stop i Hb ∧ Q (.ref D) Hb) ∨ (J.go i Hb ∧ ∃ Nx : Hp → Prop, (∀ H', Nx H' → ∃ m', m' < m ∧ W (i + 1) m' H') ∧ ∀ x H', J.yld i Hb x H' → gU X scope tge x (L2.wipe σ vs) H' fun σa Hc => L2.wipe σa vs = L2.wipe σ vs ∧ qU X scope ifs σa Hc fun b Hd =>
        if b = true then iU X scope tge1 iter1 σa Hd fun J1 He => ∃ W1 : Nat → Nat → Hp → Prop, (∃ m, W1 0 m He) ∧ ∀ j k Hf, W1 j k Hf →
          (J1.stop j Hf ∧ Nx Hf) ∨ (J1.go j Hf ∧ ∃ Nx1 : Hp → Prop, (∀ H', Nx1 H' → ∃ k', k' < k ∧ W1 (j + 1) k' H') ∧ ∀ x H', J1.yld j Hf x H' → gU X scope tge1 x (L2.wipe σa vs1) H' fun σb Hg => L2.wipe σb vs1 = L2.wipe σa vs1 ∧ qU X scope ifs1 σb Hg fun b Hh =>
            if b = true then tail D σb Hh Nx1 else Nx1 Hh)
        else Nx Hd) := by
  rcases M.bind_some hF with ⟨x, h1, rfl⟩ | ⟨items, s1, h1, h2⟩
  · exact hi _ _ _ _ _ _ _ S _ _ h1 _ (hE x rfl)
  obtain ⟨hfz, h2⟩ := fz_step h2
  obtain ⟨ys, q', h3⟩ := noErr_some h2
  subst q'
  have hlen := hl ys rfl
  refine hi _ _ _ _ _ _ _ S _ _ h1 _ fun J H1 tg1 g1' S1 hJ => ?_
  obtain ⟨G, Y, w, hG, kp, hy⟩ := hJ
  intro Da hD
  have hD0 : H0 Da = none := S1.born hD
  have hDt : tg1 Da = .no := S1.fresh hD
  obtain ⟨x1, st1⟩ := lay_any (o := o0) S1.stm hD
  have n1 : Da ≠ T.st := fun z => by rw [z, S1.stm.1] at hD; cases hD
  have n2 : Da ≠ T.sl := fun z => by rw [z, S1.stm.2] at hD; cases hD
  have hDH : H Da = none := Classical.byContradiction fun n => g1'.u Da n hD
  have S1' := S1.ext0 x1 st1
  have gst := g1'.trans (Go.lay S1 x1 st1)
  have hok := hok Da n1 n2
  have htl := htl Da n1 n2
  refine walk_it (H1 := upd H1 Da o0) (Qd := fun H => Q (.ref Da) H) w (fun i H' => ∃ si tgi zs rest, lcJ (lcB2 g Fq Fi1 q1 vs1 g1 Fq1 Fe (wipeR ρ vs)) (items.drop i) si = some (.ok rest, s') ∧ ys = zs ++ rest ∧ Mv T H0 S0 Da s1 (upd H1 Da o0) tg1 si H' tgi ∧ tgi Da = .no ∧ Acc Da H' tgi zs)
    ⟨s1, tg1, [], ys, by simpa using h3, rfl, Mv.refl, hDt, hnil _ _ _ upd_same⟩ ?_ ?_ ?_
  · rintro i Hi _ ⟨si, tgi, zs, rest, h5, h6, mv, hti, ha⟩
    refine kp H1 Hi (fun a o e z => ?_) hG
    have na : a ≠ Da := fun q => by rw [q, hD] at e; cases e
    have ns : a ≠ T.st ∧ a ≠ T.sl := by
      rcases z with z | z
      · exact (set_any S S1 a z).2
      · exact ⟨fun q => by rw [q, S1.stm.1] at e; cases e; exact z, fun q => by rw [q, S1.stm.2] at e; cases e; exact z⟩
    exact mv.keep a o (by rw [upd_ne na]; exact e) ns.1 ns.2 na
  · rintro i x Hi Hx hlt ⟨si, tgi, zs, rest, h5, h6, mv, hti, ha⟩ hyi
    have Si := mv.sta _ _ _ S1'
    have hGi : G Hi := by
      refine kp H1 Hi (fun a o e z => ?_) hG
      have na : a ≠ Da := fun q => by rw [q, hD] at e; cases e
      have ns : a ≠ T.st ∧ a ≠ T.sl := by
        rcases z with z | z
        · exact (set_any S S1 a z).2
        · exact ⟨fun q => by rw [q, S1.stm.1] at e; cases e; exact z, fun q => by rw [q, S1.stm.2] at e; cases e; exact z⟩
      exact mv.keep a o (by rw [upd_ne na]; exact e) ns.1 ns.2 na
    obtain ⟨hnew, dd, hdd, rd⟩ := hy i Hi x Hx hlt hGi hyi
    have hdrop : items.drop i = dd :: items.drop (i + 1) := by
      obtain ⟨h7, h8⟩ := List.getElem?_eq_some_iff.mp hdd
      rw [List.drop_eq_getElem_cons h7, h8]
    rw [hdrop] at h5
    obtain ⟨xs, s2, ys2, h7, h8, h9⟩ := lcJ_cons h5
    have rd' := hel.rep hfz hdd (fun _ h => h) rd
    have hx : Ext T Hi Hx ∧ StmAt T Hx si := by
      rcases hnew with rfl | ⟨q0, xq, hq0, rfl⟩
      · exact ⟨Ext.refl, Si.stm⟩
      · exact lay_any (o := .tup xq) Si.stm hq0
    have Sx := Si.ext0 hx.1 hx.2
    have ga := Go.lay Si hx.1 hx.2
    have mva : Mv T H0 S0 Da si Hi tgi si Hx tgi := Mv.ofGo Si Sx ga
    have ha2 := hok _ _ _ _ _ _ _ _ _ Si ga ha
    have rde : Rep T Hx (wS tgi (fun _ => False) me) x dd := by
      rcases hel with ⟨_, rfl, rfl | ⟨b, rfl⟩⟩ | ⟨_, rfl⟩
      · exact rd'
      · exact Rep.mono (S := shS tg1 b) rd' fun a z => mv.sh b a z
      · exact rd'
    have Sw := (Sx.wipe vs).wipeG vs fun j hj d => wipeR_none ρ _ j hj d
    unfold lcB2 at h7
    cases hgd : g dd (wipeR ρ vs) with
    | none => rw [hgd] at h7; cases h7
    | some ρ1 =>
    rw [hgd] at h7
    intro bs bH bC bcl bfp
    refine hg bs bH bC bcl bfp _ _ _ _ _ _ _ _ _ _ Sw rde hgd _ fun σ2 S2 ag => ⟨(wipe_agree hjs ag).trans (wipe_wipe _ _), ?_⟩
    intro bs bH bC bcl bfp
    rcases M.bind_some h7 with ⟨x, h10, q⟩ | ⟨kb, s3, h10, h11⟩
    · cases q
    refine ht bs bH bC bcl bfp _ _ _ _ _ _ _ S2 _ _ h10 _ fun H3 tg3 g3 S3 => ?_
    have mvb : Mv T H0 S0 Da si Hx tgi s3 H3 tg3 := Mv.ofGo Sx S3 g3
    have ha3 := hok _ _ _ _ _ _ _ _ _ Sx g3 ha2
    have mv3 := mv.trans (mva.trans mvb)
    have tnn : ∀ {B : Hp} {tb : Tags} {zs : List DL.D}, Acc Da B tb zs → B Da ≠ none := fun z => by
      obtain ⟨o, e, _⟩ := hmut _ _ _ _ z
      rw [e]; simp
    have ht3 : tg3 Da = .no := (mvb.tag Da (tnn ha2)).trans hti
    cases kb with
    | false =>
      cases h11
      exact iteF ⟨_, tg3, zs, ys2, h8, by rw [h6, h9]; rfl, mv3, ht3, ha3⟩
    | true =>
    refine iteT ?_
    intro bs bH bC bcl bfp
    rcases M.bind_some h11 with ⟨x, h12, q⟩ | ⟨items1, s4, h12, h13⟩
    · cases q
    obtain ⟨hfz1, h13⟩ := fz_step h13
    refine hi1 bs bH bC bcl bfp _ _ _ _ _ _ _ S3 _ _ h12 _ fun J1 H4 tg4 g4 S4 hJ1 => ?_
    obtain ⟨G1, Y1, w1, hG1, kp1, hy1⟩ := hJ1
    have mvc : Mv T H0 S0 Da s3 H3 tg3 s4 H4 tg4 := Mv.ofGo S3 S4 g4
    have ha4 := hok _ _ _ _ _ _ _ _ _ S3 g4 ha3
    have mv4 := mv3.trans mvc
    have ht4 : tg4 Da = .no := (mvc.tag Da (tnn ha3)).trans ht3
    have nset : ∀ a, setW T tg4 (frS tg4 H3 H4) H4 ms1 a → a ≠ Da := fun a z q => by
      subst q
      cases ms1 with
      | any => exact hna rfl
      | atom => exact z
      | sh b => exact shS_not ht4 z
      | xc => exact tnn ha3 z.1
      | ow k => cases hfm1
    have keepG : ∀ {Hf : Hp} {sj : Strm} {tj : Tags}, Mv T H0 S0 Da s4 H4 tg4 sj Hf tj → G1 Hf := fun {Hf sj tj} mvj => by
      refine kp1 H4 Hf (fun a o e z => ?_) hG1
      have na : a ≠ Da := by
        rcases z with z | z
        · exact nset a z
        · rintro rfl
          obtain ⟨o', e', hi'⟩ := hmut _ _ _ _ ha4
          rw [e'] at e; cases e; exact hi' z
      have ns : a ≠ T.st ∧ a ≠ T.sl := by
        rcases z with z | z
        · exact (set_any S3 S4 a z).2
        · exact ⟨fun q => by rw [q, S4.stm.1] at e; cases e; exact z, fun q => by rw [q, S4.stm.2] at e; cases e; exact z⟩
      exact mvj.keep a o e ns.1 ns.2 na
    refine walk_it (H1 := H4) w1 (fun j Hf => ∃ sj tj zs1 rest1, lcD (lcB g1 Fq1 Fe (wipeR ρ1 vs1)) (items1.drop j) sj = some (.ok rest1, s2) ∧ xs = zs1 ++ rest1 ∧ Mv T H0 S0 Da s4 H4 tg4 sj Hf tj ∧ tj Da = .no ∧ Acc Da Hf tj (zs ++ zs1))
      ⟨s4, tg4, [], xs, by simpa using h13, rfl, Mv.refl, ht4, by simpa using ha4⟩ ?_ ?_ ?_
    · rintro j Hf _ ⟨sj, tj, zs1, rest1, _, _, mvj, _, _⟩
      exact keepG mvj
    · rintro j x Hf Hy hltj ⟨sj, tj, zs1, rest1, h15, h16, mvj, htj, haj⟩ hyj
      have Sj := mvj.sta _ _ _ S4
      obtain ⟨hnew1, dd1, hdd1, rd1⟩ := hy1 j Hf x Hy hltj (keepG mvj) hyj
      have hdrop1 : items1.drop j = dd1 :: items1.drop (j + 1) := by
        obtain ⟨h7, h8⟩ := List.getElem?_eq_some_iff.mp hdd1
        rw [List.drop_eq_getElem_cons h7, h8]
      rw [hdrop1] at h15
      rcases lcD_cons h15 with ⟨x, q⟩ | ⟨o, s5, ys5, h17, h18, h19⟩
      · cases q
      cases h19
      have rd1' := hel1.rep hfz1 hdd1 (fun _ h => h) rd1
      have hx1 : Ext T Hf Hy ∧ StmAt T Hy sj := by
        rcases hnew1 with rfl | ⟨q0, xq, hq0, rfl⟩
        · exact ⟨Ext.refl, Sj.stm⟩
        · exact lay_any (o := .tup xq) Sj.stm hq0
      have Sy := Sj.ext0 hx1.1 hx1.2
      have gb := Go.lay Sj hx1.1 hx1.2
      have mvd : Mv T H0 S0 Da sj Hf tj sj Hy tj := Mv.ofGo Sj Sy gb
      have ha5 := hok _ _ _ _ _ _ _ _ _ Sj gb haj
      have rde1 : Rep T Hy (wS tj (fun _ => False) me1) x dd1 := by
        rcases hel1 with ⟨_, rfl, rfl | ⟨b, rfl⟩⟩ | ⟨_, rfl⟩
        · exact rd1'
        · exact Rep.mono (S := shS tg4 b) rd1' fun a z => mvj.sh b a z
        · exact rd1'
      have Sw1 := (Sy.wipe vs1).wipeG vs1 fun j hj d => wipeR_none ρ1 _ j hj d
      unfold lcB at h17
      cases hgd1 : g1 dd1 (wipeR ρ1 vs1) with
      | none => rw [hgd1] at h17; cases h17
      | some ρ3 =>
      rw [hgd1] at h17
      intro bs bH bC bcl bfp
      refine hg1 bs bH bC bcl bfp _ _ _ _ _ _ _ _ _ _ Sw1 rde1 hgd1 _ fun σ3 S5 ag1 => ⟨(wipe_agree hjs1 ag1).trans (wipe_wipe _ _), ?_⟩
      intro bs bH bC bcl bfp
      rcases M.bind_some h17 with ⟨x, h20, q⟩ | ⟨kb1, s6, h20, h21⟩
      · cases q
      refine ht1 bs bH bC bcl bfp _ _ _ _ _ _ _ S5 _ _ h20 _ fun H6 tg6 g6 S6 => ?_
      have mve : Mv T H0 S0 Da sj Hy tj s6 H6 tg6 := Mv.ofGo Sy S6 g6
      have ha6 := hok _ _ _ _ _ _ _ _ _ Sy g6 ha5
      have mvj6 := mvj.trans (mvd.trans mve)
      have ht6 : tg6 Da = .no := (mve.tag Da (tnn ha5)).trans htj
      cases kb1 with
      | false =>
        cases h21
        exact iteF ⟨_, tg6, zs1, ys5, h18, h16, mvj6, ht6, ha6⟩
      | true =>
        refine iteT ?_
        rcases M.bind_some h21 with ⟨x, h22, q⟩ | ⟨yd, s7, h22, h23⟩
        · cases q
        cases h23
        refine htl _ _ _ _ _ _ _ _ _ S6 h22 ha6 ht6 hD0 hDH ((mv4.trans mvj6).go H tg hDH gst) ?_ fun B tb mvz htz haz => ?_
        · have e1 := congrArg List.length h6
          have e2 := congrArg List.length h9
          have e3 := congrArg List.length h16
          simp only [List.length_append, List.length_cons] at e1 e2 e3 ⊢
          omega
        · exact ⟨_, tb, zs1 ++ [yd], ys5, h18, by rw [h16, List.append_assoc]; rfl, mvj6.trans mvz, htz, by rw [← List.append_assoc]; exact haz⟩
    · rintro Hf ⟨sj, tj, zs1, rest1, h15, h16, mvj, htj, haj⟩
      rw [List.drop_length] at h15
      cases h15
      rw [List.append_nil] at h16
      subst h16
      exact ⟨_, tj, zs ++ xs, ys2, h8, by rw [h6, h9, List.append_assoc], mv4.trans mvj, htj, haj⟩
  · rintro Hi ⟨si, tgi, zs, rest, h5, h6, mv, hti, ha⟩
    rw [List.drop_length] at h5
    cases h5
    rw [List.append_nil] at h6
    subst h6
    exact hQ _ Da Hi tgi rfl hDH (mv.go H tg hDH gst) (mv.sta _ _ _ S1') hti ha
end
end DL
end
section
set_option autoImplicit false
namespace DL
open PySem PySem.Spec L2
section
variable {T : Cfg} {H0 H H' H1 H2 H3 : Hp} {S0 SS : Addr → Prop} {Γ Γ' Γ1 Γ2 Γ3 Γb Γw Γi Γj : List Md} {ρ ρ' : Env} {s s' s1 s2 : Strm} {σ : St} {tg tg' tg1 tg2 : Tags} {v w : V} {d c : D} {vs : List V} {ds : List D} {m m' mr me ms me1 ms1 mk : Md} {rm : Rm}
variable {X : Cx} {E : XK} {e a b : Expr} {pos p : Pos} {x : Str} {tge iter elt tge1 iter1 kx vx : Expr} {scope : Scope} {own : List (Str × Nat)} {ifs ifs1 : List Expr} {q q1 : Bool} {Fi Fi1 : IF} {g g1 : GF} {Fq Fq1 : TF} {Fe Fk Fv : EF} {js js1 vs1 : List Nat}
theorem lc2_read (hjs : ∀ j ∈ js, j ∈ own.map (·.2)) (hi : DI T X E Γ tge iter Fi ms) (hfm : ms.flat = true) (hel : ElM q ms me)
    (hg : ∀ s H C cl fp, DG T (bkC X scope s H C cl fp) me js (wipeG Γ (own.map (·.2))) tge g Γi) (ht : ∀ s H C cl fp, DQ T (bkC X scope s H C cl fp) E0 Γi ifs Fq) (hjs1 : ∀ j ∈ js1, j ∈ vs1) (hi1 : ∀ s H C cl fp, DI T (bkC X scope s H C cl fp) E0 Γi tge1 iter1 Fi1 ms1) (hfm1 : ms1.flat = true) (hna : ms1 ≠ .any) (hel1 : ElM q1 ms1 me1)
    (hg1 : ∀ s H C cl fp, DG T (bkC X scope s H C cl fp) me1 js1 (wipeG Γi vs1) tge1 g1 Γj) (ht1 : ∀ s H C cl fp, DQ T (bkC X scope s H C cl fp) E0 Γj ifs1 Fq1)
    (he : ∀ s H C cl fp, DE T (bkC X scope s H C cl fp) E0 Γj elt Fe m Γj) (hm : m.flat = true) (hr : m ≠ .any) (S : Sta T H0 S0 Γ ρ s σ H tg) {r : Except Exn D} (hF : fLc2 q Fi (own.map (·.2)) g Fq Fi1 q1 vs1 g1 Fq1 Fe ρ s = some (r, s')) (hE : ErrK T E H s' r) {Q : VK}
    (hQ : ∀ d v H' tg', r = .ok d → Go T H H' tg tg' → Sta T H0 S0 Γ ρ s' σ H' tg' → RepW T tg' (frS tg' H H') H' (.ow (kidOf m)) v d → Q v H') :
    tLc2 (WI X tge iter) (gU X scope tge) (qU X scope ifs) (iU X scope tge1 iter1) (gU X scope tge1) (qU X scope ifs1) (eU X scope elt) (own.map (·.2)) vs1 σ H Q := by
  have hst : H T.st ≠ none := by rw [S.stm.1]; simp
  have hsl : H T.sl ≠ none := by rw [S.stm.2]; simp
  have go : ∀ {rp : Except Exn (List D)} {sp : Strm}, fPs2 q Fi (own.map (·.2)) g Fq Fi1 q1 vs1 g1 Fq1 Fe ρ s = some (rp, sp) → ErrK T E H sp rp → (∀ ys, rp = .ok ys → ys.length < sizeLine) → (∀ ys Da B tb, rp = .ok ys → H Da = none → Go T H B tg tb → Sta T H0 S0 Γ ρ sp σ B tb → tb Da = .no → AccL T H (kidOf m) Da B tb ys → Q (.ref Da) B) → tLc2 (WI X tge iter) (gU X scope tge) (qU X scope ifs) (iU X scope tge1 iter1) (gU X scope tge1) (qU X scope ifs1) (eU X scope elt) (own.map (·.2)) vs1 σ H Q := fun {rp sp} h1 h2 h3 h4 =>
    comp2_read (o0 := .lst []) (Acc := fun Da => AccL T H (kidOf m) Da) (tail := fun Da σ A Nx => eU X scope elt σ A fun y B => ∃ acc, B Da = some (.lst acc) ∧ acc.length < sizeLine ∧ Nx (upd B Da (.lst (acc ++ [y])))) hjs hjs1 hi hfm hel hg ht hi1 hfm1 hna hel1 hg1 ht1 S
      (fun Da B tb e => ⟨[], e, Nat.le_refl _, .nil⟩) (fun Da B tb zs h => by obtain ⟨acc, e, _⟩ := h; exact ⟨_, e, fun z => z⟩) (fun Da n1 n2 => AccL.ok hst hsl n1 n2) (fun Da n1 n2 => tail_lst he hm hr hst hsl n1 n2) h1 h2 h3 h4
  rcases M.bind_some hF with ⟨x, h1, rfl⟩ | ⟨ys, s1, h1, h2⟩
  · exact go h1 (fun y e => by cases e; exact hE x rfl) (fun _ e => by cases e) fun _ _ _ _ e => by cases e
  obtain ⟨c, hcc, rfl, rfl⟩ := M.of_some h2
  obtain ⟨hl, rfl⟩ := if_some hcc
  refine go h1 (fun y e => by cases e) (fun _ e => by cases e; exact hl) fun zs Da B tb e hD gg SS ht ⟨acc, h3, _, h4⟩ => ?_
  cases e
  exact hQ _ _ B tb rfl gg SS ⟨Da, acc, rfl, ⟨hD, by rw [h3]; simp, ht⟩, h3, h4⟩
theorem dc2_read (hjs : ∀ j ∈ js, j ∈ own.map (·.2)) (hi : DI T X E Γ tge iter Fi ms) (hfm : ms.flat = true) (hel : ElM q ms me)
    (hg : ∀ s H C cl fp, DG T (bkC X scope s H C cl fp) me js (wipeG Γ (own.map (·.2))) tge g Γi) (ht : ∀ s H C cl fp, DQ T (bkC X scope s H C cl fp) E0 Γi ifs Fq) (hjs1 : ∀ j ∈ js1, j ∈ vs1) (hi1 : ∀ s H C cl fp, DI T (bkC X scope s H C cl fp) E0 Γi tge1 iter1 Fi1 ms1) (hfm1 : ms1.flat = true) (hna : ms1 ≠ .any) (hel1 : ElM q1 ms1 me1)
    (hg1 : ∀ s H C cl fp, DG T (bkC X scope s H C cl fp) me1 js1 (wipeG Γi vs1) tge1 g1 Γj) (ht1 : ∀ s H C cl fp, DQ T (bkC X scope s H C cl fp) E0 Γj ifs1 Fq1)
    (hkk : ∀ s H C cl fp, DE T (bkC X scope s H C cl fp) E0 Γj kx Fk mk Γj) (he : ∀ s H C cl fp, DE T (bkC X scope s H C cl fp) E0 Γj vx Fv m Γj) (hmk : mk.flat = true) (hm : m.flat = true) (hr : m ≠ .any) (S : Sta T H0 S0 Γ ρ s σ H tg) {r : Except Exn D} (hF : fDc2 q Fi (own.map (·.2)) g Fq Fi1 q1 vs1 g1 Fq1 Fk Fv ρ s = some (r, s')) (hE : ErrK T E H s' r) {Q : VK}
    (hQ : ∀ d v H' tg', r = .ok d → Go T H H' tg tg' → Sta T H0 S0 Γ ρ s' σ H' tg' → RepW T tg' (frS tg' H H') H' (.ow (kidOf m)) v d → Q v H') :
    tDc2 (WI X tge iter) (gU X scope tge) (qU X scope ifs) (iU X scope tge1 iter1) (gU X scope tge1) (qU X scope ifs1) (eU X scope kx) (eU X scope vx) (own.map (·.2)) vs1 σ H Q := by
  have hst : H T.st ≠ none := by rw [S.stm.1]; simp
  have hsl : H T.sl ≠ none := by rw [S.stm.2]; simp
  have go : ∀ {rp : Except Exn (List D)} {sp : Strm}, fPs2 q Fi (own.map (·.2)) g Fq Fi1 q1 vs1 g1 Fq1 (fPairK Fk Fv) ρ s = some (rp, sp) → ErrK T E H sp rp → (∀ ys, rp = .ok ys → ys.length < sizeLine) → (∀ ys Da B tb, rp = .ok ys → H Da = none → Go T H B tg tb → Sta T H0 S0 Γ ρ sp σ B tb → tb Da = .no → AccK T H (kidOf m) Da B tb ys → Q (.ref Da) B) → tDc2 (WI X tge iter) (gU X scope tge) (qU X scope ifs) (iU X scope tge1 iter1) (gU X scope tge1) (qU X scope ifs1) (eU X scope kx) (eU X scope vx) (own.map (·.2)) vs1 σ H Q := fun {rp sp} h1 h2 h3 h4 =>
    comp2_read (o0 := .dK []) (Acc := fun Da => AccK T H (kidOf m) Da) (tail := fun Da σ A Nx => eU X scope kx σ A fun y B => eU X scope vx σ B fun z C => ∃ kvs key, y = kV key ∧ C Da = some (.dK kvs) ∧ kvs.length < sizeLine ∧ Nx (upd C Da (.dK (putK kvs key z)))) hjs hjs1 hi hfm hel hg ht hi1 hfm1 hna hel1 hg1 ht1 S
      (fun Da B tb e => ⟨[], [], rfl, e, Nat.le_refl _, rfl, .nil⟩) (fun Da B tb zs h => by obtain ⟨xs, kvs, _, e, _⟩ := h; exact ⟨_, e, fun z => z⟩) (fun Da n1 n2 => AccK.ok hst hsl n1 n2) (fun Da n1 n2 => tail_dic hkk he hmk hm hr hst hsl n1 n2) h1 h2 h3 h4
  rcases M.bind_some hF with ⟨x, h1, rfl⟩ | ⟨ys, s1, h1, h2⟩
  · exact go h1 (fun y e => by cases e; exact hE x rfl) (fun _ e => by cases e) fun _ _ _ _ e => by cases e
  obtain ⟨c, hcc, rfl, rfl⟩ := M.of_some h2
  obtain ⟨hl, hcc⟩ := if_some' hcc
  obtain ⟨kvf, hmf, rfl⟩ := Option.map_eq_some_iff.mp hcc
  refine go h1 (fun y e => by cases e) (fun _ e => by cases e; exact hl) fun zs Da B tb e hD gg SS ht ⟨xs, kvs, h0, h3, _, h5, h4⟩ => ?_
  cases e
  rw [hmf] at h0
  cases h0
  exact hQ _ _ B tb rfl gg SS ⟨Da, xs, rfl, ⟨hD, by rw [h3]; simp, ht⟩, h3, h5, h4⟩
theorem de_dc2 (hc : X.calm = true) (hN : X.N.Nodup) (ok : BlkOk X.N X.env.scope scope own) (hjs : ∀ j ∈ js, j ∈ own.map (·.2)) (hi : DI T X E Γ tge iter Fi ms) (hfm : ms.flat = true) (hel : ElM q ms me)
    (hg : ∀ s H C cl fp, DG T (bkC X scope s H C cl fp) me js (wipeG Γ (own.map (·.2))) tge g Γi) (ht : ∀ s H C cl fp, DQ T (bkC X scope s H C cl fp) E0 Γi ifs Fq) (hv : ∀ i ∈ vs1, i ∈ own.map (·.2)) (hjs1 : ∀ j ∈ js1, j ∈ vs1) (hi1 : ∀ s H C cl fp, DI T (bkC X scope s H C cl fp) E0 Γi tge1 iter1 Fi1 ms1) (hfm1 : ms1.flat = true) (hna : ms1 ≠ .any) (hel1 : ElM q1 ms1 me1)
    (hg1 : ∀ s H C cl fp, DG T (bkC X scope s H C cl fp) me1 js1 (wipeG Γi vs1) tge1 g1 Γj) (ht1 : ∀ s H C cl fp, DQ T (bkC X scope s H C cl fp) E0 Γj ifs1 Fq1)
    (hkk : ∀ s H C cl fp, DE T (bkC X scope s H C cl fp) E0 Γj kx Fk mk Γj) (he : ∀ s H C cl fp, DE T (bkC X scope s H C cl fp) E0 Γj vx Fv m Γj) (hmk : mk.flat = true)
    (hm : m.flat = true) (hr : m ≠ .any) (hs : ∀ x, foldedSetIterable iter X.env x = pure x := by intro _; rfl) (hs1 : ∀ env x, foldedSetIterable iter1 env x = pure x := by intro _ _; rfl) :
    DE T X E Γ (.DictComp kx vx [⟨tge, iter, ifs, 0⟩, ⟨tge1, iter1, ifs1, 0⟩] scope pos) (fDc2 q Fi (own.map (·.2)) g Fq Fi1 q1 vs1 g1 Fq1 Fk Fv) (.ow (kidOf m)) Γ := by
  refine ⟨?_⟩
  intro H0 S0 ρ s σ H tg S r s' hF Q hQ
  refine WE.of (pe_dc2 hc hN WI.pi ok hv (fun s H C cl fp => gU.pg s H C cl fp) (fun s H C cl fp => qU.pts s H C cl fp) (fun s H C cl fp => iU.pi s H C cl fp) (fun s H C cl fp => gU.pg s H C cl fp) (fun s H C cl fp => qU.pts s H C cl fp) (fun s H C cl fp => eU.pe s H C cl fp) (fun s H C cl fp => eU.pe s H C cl fp) hs hs1) ?_
  refine dc2_read hjs hi hfm hel hg ht hjs1 hi1 hfm1 hna hel1 hg1 ht1 hkk he hmk hm hr S hF hQ.ek fun d v H' tg' hr g' S' r' => ?_
  subst hr
  exact hQ v H' tg' g' S' r'
theorem ds_setLc2 (i : Nat) {y : Str} {p' spos : Pos} (hc : X.calm = true) (hN : X.N.Nodup) (hsw : swapsWith (.ListComp elt [⟨tge, iter, ifs, 0⟩, ⟨tge1, iter1, ifs1, 0⟩] scope pos) (some (.Name y p')) spos.line X.env = pure true)
    (ok : BlkOk X.N X.env.scope scope own) (hjs : ∀ j ∈ js, j ∈ own.map (·.2)) (hi : DI T X E Γ tge iter Fi ms) (hfm : ms.flat = true) (hel : ElM q ms me)
    (hg : ∀ s H C cl fp, DG T (bkC X scope s H C cl fp) me js (wipeG Γ (own.map (·.2))) tge g Γi) (ht : ∀ s H C cl fp, DQ T (bkC X scope s H C cl fp) E0 Γi ifs Fq) (hv : ∀ i ∈ vs1, i ∈ own.map (·.2)) (hjs1 : ∀ j ∈ js1, j ∈ vs1) (hi1 : ∀ s H C cl fp, DI T (bkC X scope s H C cl fp) E0 Γi tge1 iter1 Fi1 ms1) (hfm1 : ms1.flat = true) (hna : ms1 ≠ .any) (hel1 : ElM q1 ms1 me1)
    (hg1 : ∀ s H C cl fp, DG T (bkC X scope s H C cl fp) me1 js1 (wipeG Γi vs1) tge1 g1 Γj) (ht1 : ∀ s H C cl fp, DQ T (bkC X scope s H C cl fp) E0 Γj ifs1 Fq1)
    (he : ∀ s H C cl fp, DE T (bkC X scope s H C cl fp) E0 Γj elt Fe m Γj)
    (hm : m.flat = true) (hr : m ≠ .any) (hi2 : i < Γ.length := by decide) (hy : X.N[i]? = some y := by rfl) (hx : X.env.scope.names.lookup y = some .local := by rfl) (hs : ∀ x, foldedSetIterable iter X.env x = pure x := by intro _; rfl) (hs1 : ∀ env x, foldedSetIterable iter1 env x = pure x := by intro _ _; rfl) :
    DS T X E mr Γb Γ (.Assign [.Name y p'] (.ListComp elt [⟨tge, iter, ifs, 0⟩, ⟨tge1, iter1, ifs1, 0⟩] scope pos) spos) (sSet i (fLc2 q Fi (own.map (·.2)) g Fq Fi1 q1 vs1 g1 Fq1 Fe)) (Γ.set i (.ow (kidOf m))) := by
  refine ⟨?_⟩
  intro H0 S0 ρ s σ H tg S r s' hF D hD
  refine WS.of (ps_setLc2 hc hN hy hx hsw WI.pi ok hv (fun s H C cl fp => gU.pg s H C cl fp) (fun s H C cl fp => qU.pts s H C cl fp) (fun s H C cl fp => iU.pi s H C cl fp) (fun s H C cl fp => gU.pg s H C cl fp) (fun s H C cl fp => qU.pts s H C cl fp) (fun s H C cl fp => eU.pe s H C cl fp) hs hs1) ?_
  show tLc2 _ _ _ _ _ _ _ _ _ σ H (fun x H1 => gName i x σ H1 D.nx)
  rcases M.bind_some hF with ⟨x, h1, rfl⟩ | ⟨d, s1, h1, h2⟩
  · exact lc2_read hjs hi hfm hel hg ht hjs1 hi1 hfm1 hna hel1 hg1 ht1 he hm hr S h1 (fun y e => (hD.ek S) x rfl |> fun z => by cases e; exact z) fun d v H' tg' hr => by cases hr
  · refine lc2_read hjs hi hfm hel hg ht hjs1 hi1 hfm1 hna hel1 hg1 ht1 he hm hr S h1 (fun y e => by cases e) fun d v H' tg' hr g' S' r' => ?_
    cases hr; cases h2
    exact hD _ H' _ ((g'.kp S).trans Kp.bn) (S'.bind (fun a h => S.born h) hi2 (by exact fun q => by cases q) r')
end
end DL
end
section
set_option autoImplicit false
namespace DL
open PySem PySem.Spec L2
theorem d_update {X : Cx} {pins : List (Addr × Obj)} {σ : St} {H : Hp} {s : Shared} {A : Around} {E : Value → Shared → Prop} {Da Oa : Addr} {kvs more : List (Key × V)} {Q : Value → Shared → Prop} (I : Inv X pins σ H s) (hD : H Da = some (.dK kvs)) (hO : H Oa = some (.dK more)) (ne : Da ≠ Oa) (hz : kvs.length + more.length ≤ sizeLine)
    (h : ∀ s', Inv X pins σ (upd H Da (.dK (mergeK kvs more))) s' → Q .none s') : wpAny (model X.prog X.w) A (call (.builtin "dict.update") [.ref Da, .ref Oa]) Q E s := by
  obtain ⟨z, hd, vs, rel, dd⟩ := dk_of I.hok hD
  obtain ⟨z2, hd2, ws, rel2, dd2⟩ := dk_of I.hok hO
  refine call_meetsIn PySem.F.slot_dict_update dd.typeIs PySem.F.entry_dict_update (PySem.F.args_dict_update_2 _ _) (PySem.meets_dict_update (mixKind X.prog X.w) Da Oa ne hd2) ⟨vs, ws, dd, dd2, by rw [← rel.length, ← rel2.length]; exact hz, fun h' dd' _ hs => h _ ?_⟩
  have he : ∃ q, h'.get? Da = some q := let ⟨q, _, _, hq, _⟩ := dd'; ⟨q, hq⟩
  exact d_write (t' := s.toks) I (by rw [hD]; exact True.intro) hs he (dk_new (Nat.le_trans (length_mergeK more kvs) hz) hd (rel2.merge rel) dd')
def rUpdate : V → List V → Hp → VK → Prop := fun x xs H Q => ∃ Da Oa kvs more, x = .ref Da ∧ xs = [.ref Oa] ∧ H Da = some (.dK kvs) ∧ H Oa = some (.dK more) ∧ Da ≠ Oa ∧ kvs.length + more.length ≤ sizeLine ∧ Q .non (upd H Da (.dK (mergeK kvs more)))
theorem mt_update {X : Cx} : MtR X "dict.update" rUpdate := by
  intro pins s σ H x xs v us Q I rx rv h
  obtain ⟨Da, Oa, kvs, more, rfl, rfl, h1, h2, h3, h4, q⟩ := h
  cases rx
  obtain ⟨u, rfl, ru⟩ := rv.one
  cases ru
  exact d_update I h1 h2 h3 h4 fun s' I' => ⟨.non, _, I', rfl, q⟩
section
variable {T : Cfg} {H0 H H' H1 H2 H3 : Hp} {S0 SS : Addr → Prop} {Γ Γ' Γ1 Γ2 Γb : List Md} {ρ ρ' : Env} {s s' s1 s2 : Strm} {σ : St} {tg tg' tg1 tg2 : Tags} {v w : V} {d c : D} {vs : List V} {ds : List D} {m m' mr : Md} {k : Kid}
variable {X : Cx} {E : XK} {e a b : Expr} {pos p : Pos} {x : Str}
theorem merge_dd : ∀ (more : List (D × D)) (xs2 : List (Key × V)) (kvs : List (D × D)) (xs : List (Key × V)) (r : List (D × D)), more.map (·.1) = xs2.map (fun p => kD p.1) → RepL T H SS (xs2.map (·.2)) (more.map (·.2)) → kvs.map (·.1) = xs.map (fun p => kD p.1) → RepL T H SS (xs.map (·.2)) (kvs.map (·.2)) →
    mergeP kvs (more.map fun p => .tup [p.1, p.2]) = some r → r.map (·.1) = (mergeK xs xs2).map (fun p => kD p.1) ∧ RepL T H SS ((mergeK xs xs2).map (·.2)) (r.map (·.2))
  | [], xs2, kvs, xs, r, h1, _, h3, h4, h5 => by
    cases xs2 with
    | nil => cases h5; exact ⟨h3, h4⟩
    | cons _ _ => cases h1
  | q :: more, xs2, kvs, xs, r, h1, h2, h3, h4, h5 => by
    cases xs2 with
    | nil => cases h1
    | cons y ys =>
      simp only [List.map_cons, List.cons.injEq] at h1 h2
      cases h2 with
      | cons r1 r2 =>
        obtain ⟨key, hk, h6⟩ := Option.bind_eq_some_iff.mp (show (kOf q.1).bind _ = some r from h5)
        have ek := kD_kOf hk
        have : y.1 = key := by
          have := h1.1.symm.trans ek
          have e2 := congrArg kOf this
          rw [kOf_kD, kOf_kD] at e2
          exact Option.some.inj e2
        subst this
        rw [h1.1] at h6
        obtain ⟨p1, p2⟩ := put_rep kOf_kD y.1 r1 kvs xs h3 h4
        exact merge_dd more ys _ (putK xs y.1 y.2) r h1.2 r2 p1 p2 h6
def updD : D → D → Option D
  | .dic false kvs, .dic false more => if kvs.length + more.length ≤ sizeLine then (mergeP kvs (more.map fun p => .tup [p.1, p.2])).map (.dic false) else none
  | _, _ => none
theorem updD_some {a e d' : D} (h : updD a e = some d') : ∃ kvs more r, a = .dic false kvs ∧ e = .dic false more ∧ kvs.length + more.length ≤ sizeLine ∧ mergeP kvs (more.map fun p => .tup [p.1, p.2]) = some r ∧ d' = .dic false r := by
  unfold updD at h
  split at h
  · obtain ⟨h1, h2⟩ := if_some' h
    obtain ⟨r, h3, rfl⟩ := Option.map_eq_some_iff.mp h2
    exact ⟨_, _, r, rfl, rfl, h1, h3, rfl⟩
  · cases h
def sUpd (i : Nat) (Fe : EF) : SF := fun ρ => do
  let dd ← dicM (ρ[i]?)
  let e ← Fe ρ
  M.of ((updD dd e).map fun d' => .nx (ρ.set i (some d')))
/-- x.update(e), x ours -/
theorem ds_upd (i : Nat) (k : Kid) {y : Str} {py apos cpos : Pos} {Fe : EF} (hm : Γ.getD i .atom = .ow k) (hm1 : Γ1.getD i .atom = .ow k) (he : DE T X E Γ e Fe (kidM k) Γ1) (hN : X.N[i]? = some y := by rfl)
    (hv : Vis X.env.scope y := by first | exact Or.inl rfl | exact Or.inr (Or.inl rfl) | exact Or.inr (Or.inr rfl)) (hd : (y == ("__debug__" : Str)) = false := by decide) (hcd : (y == ("__classdict__" : Str)) = false := by decide)
    (hbase : attributeBase (.Name y py) "update" X.env (eval (.Name y py) X.env) = eval (.Name y py) X.env := by rfl)
    (hfew : ((backTo cpos (starEach (e :: []) X.env)).all (fun x => !x.1) && (backToKw cpos (keywordEach [] X.env)).all (fun x => x.1.isSome)
      && decide ((e :: []).length + ([] : List Keyword).length + (if ([] : List Keyword).isEmpty then 0 else 1) < 30)) = true := by rfl)
    (hline : (apos.endLine == cpos.line) = true := by rfl) (hst : starEach (e :: []) X.env = (false, eval e X.env) :: starEach [] X.env := by rfl) (hplain : (backTo cpos (starEach [] X.env)).any (·.1) = false := by rfl)
    (hs : swapsWith (.Call (.Attribute (.Name y py) "update" apos) [e] [] cpos) none pos.line X.env = pure false := by rfl) :
    DS T X E mr Γb Γ (.Expr (.Call (.Attribute (.Name y py) "update" apos) [e] [] cpos) pos) (sUpd i Fe) Γ1 := by
  refine ⟨?_⟩
  intro H0 S0 ρ s σ H tg S r s' hF D hD
  refine WS.of (ps_expr (pe_bm PySem.F.plainAttrs_dict PySem.F.slot_dict_update PySem.F.type_dict_update mt_update (pe_var hN hv hd hcd) (pa_cons WE.pe pa_nil hst) hbase hfew hline hst hplain) hs) ?_
  obtain ⟨t, kvs, hds, h2⟩ := dic_step hF
  have hslot : ∃ A0, σ[i]? = some (some (.ref A0)) ∧ tg A0 = .ex i ∧ ((∃ xs, H A0 = some (.dK xs)) ∨ ∃ xs, H A0 = some (.dT xs)) := by
    obtain ⟨v9, hv9, r9⟩ := S.slotO hm hds
    cases t with
    | false => obtain ⟨A, xs, e, hA, hH, _⟩ := r9; subst e; exact ⟨A, hv9, hA, .inl ⟨xs, hH⟩⟩
    | true => obtain ⟨A, xs, e, hA, hH, _⟩ := r9; subst e; exact ⟨A, hv9, hA, .inr ⟨xs, hH⟩⟩
  obtain ⟨A0, hv0, hA0, hH0⟩ := hslot
  refine ⟨.ref A0, hv0, .inr (.inr (.inl ⟨rfl, hH0⟩)), ?_⟩
  show WE X e σ H _
  refine he.seq S h2 (hD.ek S) fun d s1 v H1 tg1 hk g1 S1 r1 e1 => ?_
  obtain ⟨c, hc, rfl, rfl⟩ := M.of_some hk
  obtain ⟨d', hu, rfl⟩ := Option.map_eq_some_iff.mp hc
  have up0 : H A0 ≠ none := by rcases hH0 with ⟨_, h⟩ | ⟨_, h⟩ <;> (rw [h]; simp)
  have hA1 : tg1 A0 = .ex i := (g1.t.1 A0 up0).trans hA0
  have hn1 : H1 A0 ≠ none := g1.u A0 up0
  obtain ⟨S3, k3, cv⟩ := S.take S1 g1 i
  have rv := (RepW.flat (kidM_flat k)).mp r1
  have rvk := rv.mono (S' := fun b => kidS (bnT i tg1 H H1) (exS (bnT i tg1 H H1) i) k b ∧ b ≠ A0) fun a z => ⟨cv k a z, kid_ne hA1 hn1 z⟩
  obtain ⟨v1, hv1, rO⟩ := S3.slotO hm1 hds
  rw [hv0] at hv1; cases hv1
  obtain ⟨kvs', more, rr, e1', e2', hlen, hmp, rfl⟩ := updD_some hu
  cases e1'
  subst e2'
  obtain ⟨A, xs, e, hA, hH, hkeys, rl⟩ := rO
  cases e
  cases rvk with
  | @dK O ys _ hS hO hko ro =>
    obtain ⟨p1, p2⟩ := merge_dd more ys kvs xs rr hko (ro.mono fun a z => z) hkeys rl hmp
    have hmu : ∀ o1, H1 A0 = some o1 → ¬ Imm o1 := fun o1 e z => by rw [hH] at e; cases e; exact z
    have hl1 : xs.length = kvs.length := by have := congrArg List.length hkeys; simpa using this.symm
    have hl2 : ys.length = more.length := by have := congrArg List.length hko; simpa using this.symm
    exact ⟨A0, O, xs, ys, rfl, rfl, hH, hO, fun z => hS.2 z.symm, by omega, hD _ _ _ (k3.trans (Kp.store hA hmu)) (S3.store hm1 hA hmu hv0 ⟨A0, _, rfl, hA, upd_same, p1, p2.keep (kid_ex hmu)⟩)⟩
end
end DL
end
section
set_option autoImplicit false
namespace Lk
open PySem PySem.Spec L2 DL
noncomputable def B_is_list : SF := (sRet (fIsi [.b .list, .b .tuple] (fVar 0)))
noncomputable def pr_is_list : List D → M D := fnA [false] 1 B_is_list
noncomputable def B_is_row : SF := (sRet (fAnd (fFn pr_is_list (aCons (fVar 0) aNil)) (fOp eqD (fCall lenD (aCons (fVar 0) aNil)) (fVar 1))))
noncomputable def pr_is_row : List D → M D := fnA [false, true] 2 B_is_row
noncomputable def B_is_name : SF := (sRet (fAnd (fIsi [.b .str] (fVar 0)) (fAnd (fChain ltD ltD (fC (.int 0)) (fCall lenD (aCons (fVar 0) aNil)) (fC (.int 9))) (fCall allD (aCons (fLcN false (iSeq (fVar 0)) [1] (gNm 1) qYes (fOp inD (fVar 1) (fC (.str "abcdefghijklmnopqrstuvwxyz")))) aNil)))))
noncomputable def pr_is_name : List D → M D := fnA [false] 2 B_is_name
noncomputable def B_first_bad_town : SF := (sSeq (sSet 1 (fC (.dic false []))) (sSeq (sIf (qOr (qNot (qVal (fFn pr_is_list (aCons (fVar 0) aNil)))) (qVal (fOp eqD (fCall lenD (aCons (fVar 0) aNil)) (fC (.int 0))))) (sRet (fC (.int 0))) sNop) (sSeq (sFor false (iEnumD (fVar 0)) (gSq 2 (gsCons (gNm 2) (gsCons (gNm 3) gsNil))) (sSeq (sIf (qOr (qNot (qVal (fFn pr_is_name (aCons (fVar 3) aNil)))) (qVal (fOp inD (fVar 3) (fVar 1)))) (sRet (fFz (fVar 2))) sNop) (sPut 1 (fC (.bl true)) (fVar 3)))) (sRet (fC .non)))))
noncomputable def pr_first_bad_town : List D → M D := fnA [false] 4 B_first_bad_town
noncomputable def B_Land_is_road : SF := (sSeq (sIf (qOr (qNot (qVal (fFn pr_is_row (aCons (fVar 1) (aCons (fC (.int 2)) aNil))))) (qNot (qVal (fCall allD (aCons (fLcN false (iSeq (fVar 1)) [2] (gNm 2) qYes (fAnd (fIsi [.b .str] (fVar 2)) (fOp inD (fVar 2) (fUn (fldD "own_towns") (fVar 0))))) aNil))))) (sRet (fC (.bl false))) sNop) (sRet (fOp neD (fOp ixA (fVar 1) (fC (.int 0))) (fOp ixA (fVar 1) (fC (.int 1))))))
noncomputable def pr_Land_is_road : List D → M D := fnA [false, false] 3 B_Land_is_road
noncomputable def pr_Land_init : List D → M D := initF 6 3 (fFn pr_first_bad_town (aCons (fVar 1) aNil)) (qVal (fOp isNNq (fVar 3) (fC .non))) (fFzK (fCall sortedD (aCons (fVar 1) aNil))) "own_towns" 0 (qNot (qVal (fFn pr_is_list (aCons (fVar 2) aNil)))) (iEnumD (fVar 2)) (gSq 2 (gsCons (gNm 4) (gsCons (gNm 5) gsNil))) (qNot (qVal (fMeth 0 "is_road" pr_Land_is_road (fVar 0) (aCons (fVar 5) aNil)))) (fCall sortedD (aCons (fLcN false (iSeq (fVar 2)) [5] (gNm 5) qYes (fTup (aCons (fFz (fCall minD (aCons (fVar 5) aNil))) (aCons (fFz (fCall maxD (aCons (fVar 5) aNil))) aNil)))) aNil)) "own_roads" 3
noncomputable def B_Land_towns : SF := (sRet (fFzK (fCall listD (aCons (fUn (fldD "own_towns") (fVar 0)) aNil))))
noncomputable def pr_Land_towns : List D → M D := fnA [false] 1 B_Land_towns
noncomputable def B_Land_roads : SF := (sRet (fFzK (fCall listD (aCons (fUn (fldD "own_roads") (fVar 0)) aNil))))
noncomputable def pr_Land_roads : List D → M D := fnA [false] 1 B_Land_roads
noncomputable def B_pick : SF := (sRet (fOp ixD (fVar 1) (fFn drawF (aCons (fVar 0) (aCons (fCall lenD (aCons (fVar 1) aNil)) aNil)))))
noncomputable def pr_pick : List D → M D := fnA [true, false] 2 B_pick
noncomputable def B_mixed : SF := (sSeq (sPar 2 3 (fCall listD (aCons (fVar 1) aNil)) (fLst aNil)) (sSeq (sFor false (iRange1 (fCall lenD (aCons (fVar 2) aNil))) (gNm 4) (sAppPop 3 2 (fFn drawF (aCons (fVar 0) (aCons (fCall lenD (aCons (fVar 2) aNil)) aNil))))) (sRet (fVar 3))))
noncomputable def pr_mixed : List D → M D := fnA [true, false] 5 B_mixed
noncomputable def B_same (rec : List D → M D) : SF := (sSeq (sIf (qVal (fIsi [.b .list, .b .tuple] (fVar 1))) (sSeq (sIf (qOr (qVal (fOp neD (fIsi [.b .list] (fVar 0)) (fIsi [.b .list] (fVar 1)))) (qVal (fOp neD (fIsi [.b .tuple] (fVar 0)) (fIsi [.b .tuple] (fVar 1))))) (sRet (fC (.bl false))) sNop) (sRet (fAnd (fOp eqD (fCall lenD (aCons (fVar 0) aNil)) (fCall lenD (aCons (fVar 1) aNil))) (fCall allD (aCons (fLcN false (iZip (fVar 0) (fVar 1)) [2, 3] (gSq 2 (gsCons (gNm 2) (gsCons (gNm 3) gsNil))) qYes (fFn rec (aCons (fVar 2) (aCons (fVar 3) aNil)))) aNil))))) sNop) (sSeq (sIf (qVal (fIsi [.b .dict] (fVar 1))) sFail sNop) (sSeq (sIf (qOr (qVal (fIsi [.b .bool] (fVar 1))) (qVal (fIsi [.b .bool] (fVar 0)))) (sRet (fAnd (fIsi [.b .bool] (fVar 1)) (fAnd (fIsi [.b .bool] (fVar 0)) (fOp eqD (fVar 0) (fVar 1))))) sNop) (sSeq (sIf (qOr (qVal (fOp isNq (fVar 1) (fC .non))) (qVal (fOp isNq (fVar 0) (fC .non)))) (sRet (fAnd (fOp isNq (fVar 1) (fC .non)) (fOp isNq (fVar 0) (fC .non)))) sNop) (sSeq (sIf (qOr (qVal (fOp neD (fIsi [.b .int] (fVar 1)) (fIsi [.b .int] (fVar 0)))) (qVal (fOp neD (fIsi [.b .str] (fVar 1)) (fIsi [.b .str] (fVar 0))))) (sRet (fC (.bl false))) sNop) (sRet (fAnd (fNot (fIsi [.b .list, .b .tuple, .b .dict] (fVar 0))) (fOp eqD (fVar 0) (fVar 1)))))))))
noncomputable def pr_same : Nat → List D → M D
  | 0 => fun _ => M.fail
  | n + 1 => fnA [false, false] 4 (B_same (pr_same n))
noncomputable def B_loose (rec : List D → M D) : SF := (sSeq (sIf (qVal (fIsi [.b .list, .b .tuple] (fVar 1))) (sSeq (sSet 2 (fLcN false (iSeq (fVar 1)) [3] (gNm 3) qYes (fFn rec (aCons (fVar 0) (aCons (fVar 3) aNil))))) (sRet (fIf (qVal (fOp eqD (fFn drawF (aCons (fVar 0) (aCons (fC (.int 2)) aNil))) (fC (.int 0)))) (fVar 2) (fCall tupleD (aCons (fVar 2) aNil))))) sNop) (sRet (fFz (fVar 1))))
noncomputable def pr_loose : Nat → List D → M D
  | 0 => fun _ => M.fail
  | n + 1 => fnA [true, false] 4 (B_loose (pr_loose n))
noncomputable def B_names : SF := (sSeq (sPar 2 3 (fLst aNil) (fC (.str "abcdefghijklmnopqrstuvwxyz"))) (sSeq (sFor false (iRange1 (fVar 1)) (gNm 4) (sSeq (sSet 5 (fM1 joinD (fC (.str "")) (fLcN false (iRange1 (fOp addD (fC (.int 1)) (fFn drawF (aCons (fVar 0) (aCons (fFn pr_pick (aCons (fVar 0) (aCons (fLst (aCons (fC (.int 1)) (aCons (fC (.int 1)) (aCons (fC (.int 3)) aNil)))) aNil))) aNil))))) [6] (gNm 6) qYes (fFn pr_pick (aCons (fVar 0) (aCons (fVar 3) aNil)))))) (sSeq (sWhile (qVal (fOp inD (fVar 5) (fVar 2))) (sSet 5 (fSl slTD (fOp addD (fVar 5) (fFn pr_pick (aCons (fVar 0) (aCons (fVar 3) aNil)))) (pSome (fUn negD (fC (.int 5)))) pNo))) (sApp 2 (fVar 5))))) (sRet (fVar 2))))
noncomputable def pr_names : List D → M D := fnA [true, true] 7 B_names
noncomputable def B_land : SF := (sSeq (sSet 3 (fCall sortedD (aCons (fFn pr_names (aCons (fVar 0) (aCons (fOp addD (fC (.int 2)) (fFn drawF (aCons (fVar 0) (aCons (fOp subD (fVar 1) (fC (.int 1))) aNil)))) aNil))) aNil))) (sSeq (sPar 4 5 (fFn pr_mixed (aCons (fVar 0) (aCons (fVar 3) aNil))) (fLst aNil)) (sSeq (sFor false (iRange1 (fOp addD (fC (.int 1)) (fCall intD (aCons (fOp gtD (fFn drawF (aCons (fVar 0) (aCons (fC (.int 4)) aNil))) (fC (.int 0))) aNil)))) (gNm 6) (sSeq (sFor false (iRange2 (fC (.int 1)) (fCall lenD (aCons (fVar 4) aNil))) (gNm 7) (sIf (qAnd (qVal (fOp ltD (fCall lenD (aCons (fVar 5) aNil)) (fVar 2))) (qVal (fOp gtD (fFn drawF (aCons (fVar 0) (aCons (fC (.int 9)) aNil))) (fC (.int 0))))) (sApp 5 (fCall tupleD (aCons (fCall sortedD (aCons (fLst (aCons (fOp ixD (fVar 4) (fVar 7)) (aCons (fOp ixD (fVar 4) (fFn drawF (aCons (fVar 0) (aCons (fVar 7) aNil)))) aNil))) aNil)) aNil))) sNop)) (sSet 4 (fFn pr_mixed (aCons (fVar 0) (aCons (fVar 3) aNil)))))) (sSeq (sFor false (iRange1 (fFn drawF (aCons (fVar 0) (aCons (fFn pr_pick (aCons (fVar 0) (aCons (fLst (aCons (fC (.int 1)) (aCons (fC (.int 3)) (aCons (fC (.int 6)) aNil)))) aNil))) aNil)))) (gNm 8) (sSeq (sAsg (fSl slLD (fFn pr_mixed (aCons (fVar 0) (aCons (fVar 3) aNil))) pNo (pSome (fC (.int 2)))) (gSq 2 (gsCons (gNm 9) (gsCons (gNm 10) gsNil)))) (sIf (qVal (fOp ltD (fCall lenD (aCons (fVar 5) aNil)) (fVar 2))) (sApp 5 (fTup (aCons (fFz (fCall minD (aCons (fVar 9) (aCons (fVar 10) aNil)))) (aCons (fFz (fCall maxD (aCons (fVar 9) (aCons (fVar 10) aNil)))) aNil)))) sNop))) (sRet (fTup (aCons (fVar 3) (aCons (fCall sortedD (aCons (fVar 5) aNil)) aNil))))))))
noncomputable def pr_land : List D → M D := fnA [true, true, true] 11 B_land
noncomputable def B_made : SF := (sSeq (sSet 2 (fLcN false (iSeq (fOp ixD (fVar 1) (fC (.int 1)))) [3] (gNm 3) qYes (fFn (pr_loose 5) (aCons (fVar 0) (aCons (fCall tupleD (aCons (fFn pr_mixed (aCons (fVar 0) (aCons (fCall listD (aCons (fVar 3) aNil)) aNil))) aNil)) aNil))))) (sRet (fFn pr_Land_init (aCons (fFn (pr_loose 5) (aCons (fVar 0) (aCons (fFn pr_mixed (aCons (fVar 0) (aCons (fOp ixD (fVar 1) (fC (.int 0))) aNil))) aNil))) (aCons (fFn (pr_loose 5) (aCons (fVar 0) (aCons (fFn pr_mixed (aCons (fVar 0) (aCons (fVar 2) aNil))) aNil))) aNil)))))
noncomputable def pr_made : List D → M D := fnA [true, false] 4 B_made
end Lk
end
section
set_option autoImplicit false
namespace Lk
open PySem PySem.Spec L2 DL
noncomputable def B_check_land : SF := (sIf (qNot (qVal (fIsi [.o 0] (fVar 0)))) sFail sNop)
noncomputable def pr_check_land : List D → M D := fnA [false] 1 B_check_land
end Lk
end
section
set_option autoImplicit false
namespace Lk
open PySem PySem.Spec L2 DL
noncomputable def B_crossing_of : SF := (sSeq (sSet 2 (fDc2 false (iEnumD (fVar 1)) [4, 5, 3] (gSq 2 (gsCons (gNm 4) (gsCons (gNm 5) gsNil))) qYes (iSeq (fVar 5)) false [3] (gNm 3) qYes (fVar 3) (fVar 4))) (sRet (fFzK (fLcN false (iEnumD (fUn (fldD "own_roads") (fVar 0))) [6, 7, 8] (gSq 2 (gsCons (gNm 6) (gsCons (gSq 2 (gsCons (gNm 7) (gsCons (gNm 8) gsNil))) gsNil))) (qVal (fOp neD (fOp ixD (fVar 2) (fVar 7)) (fOp ixD (fVar 2) (fVar 8)))) (fVar 6)))))
noncomputable def pr_crossing_of : List D → M D := fnA [false, false] 9 B_crossing_of
noncomputable def B_grown_by : SF := (sSeq (sSet 2 (fLcN false (iRange1 (fCall lenD (aCons (fVar 0) aNil))) [3] (gNm 3) qYes (fLst (aStar (fSl slLD (fVar 0) pNo (pSome (fVar 3))) (aCons (fLst (aStar (fOp ixD (fVar 0) (fVar 3)) (aCons (fVar 1) aNil))) (aStar (fSl slLD (fVar 0) (pSome (fOp addD (fVar 3) (fC (.int 1)))) pNo) aNil)))))) (sRet (fLst (aStar (fVar 2) (aCons (fLst (aStar (fVar 0) (aCons (fLst (aCons (fVar 1) aNil)) aNil))) aNil)))))
noncomputable def pr_grown_by : List D → M D := fnA [false, false] 4 B_grown_by
noncomputable def B_partings_of : SF := (sSeq (sSet 1 (fLst (aCons (fLst aNil) aNil))) (sSeq (sFor true (iSeq (fUn (fldD "own_towns") (fVar 0))) (gNm 2) (sSet 1 (fLc2 false (iSeq (fVar 1)) [3, 4] (gNm 3) qYes (iSeq (fFn pr_grown_by (aCons (fVar 3) (aCons (fVar 2) aNil)))) false [4] (gNm 4) qYes (fVar 4)))) (sRet (fLcN false (iSeq (fVar 1)) [3] (gNm 3) (qVal (fOp gtD (fCall lenD (aCons (fVar 3) aNil)) (fC (.int 1)))) (fVar 3)))))
noncomputable def pr_partings_of : List D → M D := fnA [false] 5 B_partings_of
noncomputable def B_least_spare : SF := (sSeq (sSet 1 (fC .non)) (sSeq (sFor false (iSeq (fFn pr_partings_of (aCons (fVar 0) aNil))) (gNm 2) (sSeq (sSet 3 (fOp subD (fCall lenD (aCons (fFn pr_crossing_of (aCons (fVar 0) (aCons (fVar 2) aNil))) aNil)) (fOp mulD (fC (.int 2)) (fOp subD (fCall lenD (aCons (fVar 2) aNil)) (fC (.int 1)))))) (sIf (qOr (qVal (fOp isNq (fVar 1) (fC .non))) (qVal (fOp ltD (fVar 3) (fOp ixD (fVar 1) (fC (.int 0)))))) (sSet 1 (fTup (aCons (fVar 3) (aCons (fVar 2) aNil)))) sNop))) (sRet (fVar 1))))
noncomputable def pr_least_spare : List D → M D := fnA [false] 4 B_least_spare
noncomputable def B_nights : SF := (sSeq (sDo (fFn pr_check_land (aCons (fVar 0) aNil))) (sSeq (sSet 1 (fFn pr_least_spare (aCons (fVar 0) aNil))) (sRet (fIf (qAnd (qVal (fOp isNNq (fVar 1) (fC .non))) (qVal (fOp geD (fOp ixA (fVar 1) (fC (.int 0))) (fC (.int 0))))) (fOp ixA (fVar 1) (fC (.int 0))) (fC .non)))))
noncomputable def pr_nights : List D → M D := fnA [false] 2 B_nights
noncomputable def B_worst_nights : SF := (sSeq (sDo (fFn pr_check_land (aCons (fVar 0) aNil))) (sSeq (sSet 1 (fFn pr_least_spare (aCons (fVar 0) aNil))) (sRet (fIf (qAnd (qVal (fOp isNNq (fVar 1) (fC .non))) (qVal (fOp geD (fOp ixD (fVar 1) (fC (.int 0))) (fC (.int 0))))) (fOp ixD (fVar 1) (fC (.int 1))) (fC .non)))))
noncomputable def pr_worst_nights : List D → M D := fnA [false] 2 B_worst_nights
noncomputable def B_crossing : SF := (sSeq (sSet 2 (fC (.dic false []))) (sSeq (sFor false (iEnumD (fVar 1)) (gSq 2 (gsCons (gNm 3) (gsCons (gNm 4) gsNil))) (sUpd 2 (fCall dictD (aCons (fLcN false (iSeq (fVar 4)) [5] (gNm 5) qYes (fTup (aCons (fFz (fVar 5)) (aCons (fFz (fVar 3)) aNil)))) aNil)))) (sRet (fFzK (fLcN false (iEnumD (fOp ixD (fVar 0) (fC (.int 1)))) [6, 7] (gSq 2 (gsCons (gNm 6) (gsCons (gNm 7) gsNil))) (qVal (fOp neD (fOp ixD (fVar 2) (fOp ixD (fVar 7) (fC (.int 0)))) (fOp ixD (fVar 2) (fOp ixD (fVar 7) (fC (.int 1)))))) (fVar 6))))))
noncomputable def pr_crossing : List D → M D := fnA [false, false] 8 B_crossing
noncomputable def B_partings : SF := (sSeq (sSet 1 (fLst (aCons (fLst aNil) aNil))) (sSeq (sFor true (iSeq (fVar 0)) (gNm 2) (sSeq (sSet 3 (fLst aNil)) (sSeq (sFor false (iSeq (fVar 1)) (gNm 4) (sSeq (sExt 3 (fLcN false (iRange1 (fCall lenD (aCons (fVar 4) aNil))) [5] (gNm 5) qYes (fOp catD (fOp catD (fSl slLD (fVar 4) pNo (pSome (fVar 5))) (fLst (aCons (fOp catD (fOp ixD (fVar 4) (fVar 5)) (fLst (aCons (fVar 2) aNil))) aNil))) (fSl slLD (fVar 4) (pSome (fOp addD (fVar 5) (fC (.int 1)))) pNo)))) (sApp 3 (fOp catD (fVar 4) (fLst (aCons (fLst (aCons (fVar 2) aNil)) aNil)))))) (sSet 1 (fVar 3))))) (sRet (fVar 1))))
noncomputable def pr_partings : List D → M D := fnA [false] 6 B_partings
noncomputable def B_is_parting : SF := (sSeq (sIf (qOr (qNot (qVal (fIsi [.b .list, .b .tuple] (fVar 1)))) (qNot (qVal (fCall allD (aCons (fLcN false (iSeq (fVar 1)) [2] (gNm 2) qYes (fAnd (fIsi [.b .list, .b .tuple] (fVar 2)) (fOp gtD (fCall lenD (aCons (fVar 2) aNil)) (fC (.int 0))))) aNil))))) (sRet (fC (.bl false))) sNop) (sSeq (sSet 3 (fLst aNil)) (sSeq (sFor false (iSeq (fVar 1)) (gNm 2) (sSeq (sExt 3 (fCall listD (aCons (fVar 2) aNil))) (sIf (qVal (fOp neD (fCall listD (aCons (fVar 2) aNil)) (fCall sortedD (aCons (fLcN false (iSeq (fVar 2)) [4] (gNm 4) (qVal (fIsi [.b .str] (fVar 4))) (fVar 4)) aNil)))) (sRet (fC (.bl false))) sNop))) (sRet (fAnd (fOp eqD (fCall sortedD (aCons (fVar 3) aNil)) (fOp ixD (fVar 0) (fC (.int 0)))) (fOp eqD (fLcN false (iSeq (fVar 1)) [2] (gNm 2) qYes (fOp ixD (fVar 2) (fC (.int 0)))) (fCall sortedD (aCons (fLcN false (iSeq (fVar 1)) [2] (gNm 2) qYes (fOp ixD (fVar 2) (fC (.int 0)))) aNil))))))))
noncomputable def pr_is_parting : List D → M D := fnA [false, false] 5 B_is_parting
noncomputable def B_is_split : SF := (sSeq (sIf (qNot (qVal (fFn pr_is_parting (aCons (fVar 0) (aCons (fVar 2) aNil))))) (sRet (fC (.bl false))) sNop) (sSeq (sSet 3 (fFn pr_crossing (aCons (fVar 0) (aCons (fVar 2) aNil)))) (sSeq (sIf (qVal (fCall anyD (aCons (fLcN false (iSeq (fVar 3)) [4] (gNm 4) qYes (fOp inD (fVar 4) (fOp ixD (fVar 1) (fC (.int 0))))) aNil))) (sRet (fC (.bl false))) sNop) (sRet (fOp ltD (fCall lenD (aCons (fLcN false (iSeq (fVar 3)) [4] (gNm 4) (qVal (fOp ninD (fVar 4) (fOp ixD (fVar 1) (fC (.int 1))))) (fVar 4)) aNil)) (fOp mulD (fC (.int 2)) (fOp subD (fCall lenD (aCons (fVar 2) aNil)) (fC (.int 1)))))))))
noncomputable def pr_is_split : List D → M D := fnA [false, false, false] 5 B_is_split
noncomputable def B_spare : SF := (sRet (fOp subD (fCall lenD (aCons (fFn pr_crossing (aCons (fVar 0) (aCons (fVar 1) aNil))) aNil)) (fOp mulD (fC (.int 2)) (fOp subD (fCall lenD (aCons (fVar 1) aNil)) (fC (.int 1))))))
noncomputable def pr_spare : List D → M D := fnA [false, false] 2 B_spare
noncomputable def B_any_land : SF := (sSeq (sIf (qVal (fOp eqD (fFn drawF (aCons (fVar 0) (aCons (fC (.int 7)) aNil))) (fC (.int 0)))) (sRet (fTup (aCons (fLst (aCons (fFn pr_pick (aCons (fVar 0) (aCons (fLst (aCons (fC (.str "a")) (aCons (fC (.str "zzz")) aNil))) aNil))) aNil)) (aCons (fLst aNil) aNil)))) sNop) (sRet (fFn pr_land (aCons (fVar 0) (aCons (fVar 1) (aCons (fVar 2) aNil))))))
noncomputable def pr_any_land : List D → M D := fnA [true, true, true] 3 B_any_land
noncomputable def B_thick : SF := (sSeq (sSet 1 (fFn pr_any_land (aCons (fVar 0) (aCons (fFn pr_pick (aCons (fVar 0) (aCons (fLst (aCons (fC (.int 6)) (aCons (fC (.int 6)) (aCons (fC (.int 8)) aNil)))) aNil))) (aCons (fC (.int 14)) aNil))))) (sSeq (sSet 2 (fCall listD (aCons (fOp ixD (fVar 1) (fC (.int 1))) aNil))) (sSeq (sFor false (iRange1 (fIf (qVal (fOp neD (fVar 2) (fLst aNil))) (fFn drawF (aCons (fVar 0) (aCons (fFn pr_pick (aCons (fVar 0) (aCons (fLst (aCons (fC (.int 2)) (aCons (fC (.int 9)) aNil))) aNil))) aNil))) (fC (.int 0)))) (gNm 3) (sApp 2 (fFn pr_pick (aCons (fVar 0) (aCons (fOp ixD (fVar 1) (fC (.int 1))) aNil))))) (sRet (fTup (aCons (fOp ixD (fVar 1) (fC (.int 0))) (aCons (fCall sortedD (aCons (fVar 2) aNil)) aNil)))))))
noncomputable def pr_thick : List D → M D := fnA [true] 4 B_thick
noncomputable def B_lots : SF := (sSeq (sSet 2 (fLst (aCons (fLst aNil) aNil))) (sSeq (sFor false (iRange1 (fVar 1)) (gNm 3) (sSeq (sSet 4 (fLst aNil)) (sSeq (sFor false (iSeq (fVar 2)) (gNm 5) (sExt 4 (fLcN false (iRange2 (fIf (qVal (fOp neD (fVar 5) (fLst aNil))) (fOp addD (fOp ixA (fVar 5) (fUn negD (fC (.int 1)))) (fC (.int 1))) (fC (.int 0))) (fVar 0)) [3] (gNm 3) qYes (fOp catD (fVar 5) (fLst (aCons (fVar 3) aNil)))))) (sSet 2 (fVar 4))))) (sRet (fVar 2))))
noncomputable def pr_lots : List D → M D := fnA [true, true] 6 B_lots
noncomputable def B_bears : SF := (sSeq (sSet 2 (fLcN false (iSeq (fFn pr_partings (aCons (fOp ixD (fVar 0) (fC (.int 0))) aNil))) [3] (gNm 3) (qVal (fOp gtD (fCall lenD (aCons (fVar 3) aNil)) (fC (.int 1)))) (fCall sortedD (aCons (fVar 3) aNil)))) (sSeq (sFor false (iSeq (fFn pr_lots (aCons (fCall lenD (aCons (fOp ixD (fVar 0) (fC (.int 1))) aNil)) (aCons (fVar 1) aNil)))) (gNm 4) (sIf (qVal (fCall anyD (aCons (fLcN false (iSeq (fVar 2)) [3] (gNm 3) qYes (fFn pr_is_split (aCons (fVar 0) (aCons (fTup (aCons (fLst aNil) (aCons (fVar 4) aNil))) (aCons (fVar 3) aNil))))) aNil))) (sRet (fC (.bl false))) sNop)) (sRet (fC (.bl true)))))
noncomputable def pr_bears : List D → M D := fnA [false, true] 5 B_bears
noncomputable def B_copied (rec : List D → M D) : SF := (sSeq (sIf (qVal (fIsi [.b .list, .b .tuple] (fVar 0))) (sSeq (sSet 1 (fLcN false (iSeq (fVar 0)) [2] (gNm 2) qYes (fFn rec (aCons (fVar 2) aNil)))) (sRet (fIf (qVal (fIsi [.b .list] (fVar 0))) (fVar 1) (fCall tupleD (aCons (fVar 1) aNil))))) sNop) (sSeq (sIf (qVal (fIsi [.b .dict] (fVar 0))) (sRet (fFzK (fCall dictD (aCons (fLcN false (iSeq (fVar 0)) [3] (gNm 3) qYes (fTup (aCons (fVar 3) (aCons (fFn rec (aCons (fOp ixD (fVar 0) (fVar 3)) aNil)) aNil)))) aNil)))) sNop) (sRet (fFz (fVar 0)))))
noncomputable def pr_copied : Nat → List D → M D
  | 0 => fun _ => M.fail
  | n + 1 => fnA [false] 4 (B_copied (pr_copied n))
noncomputable def B_right_k13 : SF := (sSeq (sSet 2 (fFn pr_made (aCons (fVar 0) (aCons (fVar 1) aNil)))) (sSeq (sSet 3 (fLcN false (iSeq (fFn pr_partings (aCons (fOp ixD (fVar 1) (fC (.int 0))) aNil))) [4] (gNm 4) (qVal (fOp gtD (fCall lenD (aCons (fVar 4) aNil)) (fC (.int 1)))) (fFn pr_spare (aCons (fVar 1) (aCons (fVar 4) aNil))))) (sSeq (sSet 5 (fIf (qAnd (qVal (fOp neD (fVar 3) (fLst aNil))) (qVal (fOp geD (fCall minD (aCons (fVar 3) aNil)) (fC (.int 0))))) (fFz (fCall minD (aCons (fVar 3) aNil))) (fC .non))) (sSeq (sIf (qNot (qVal (fFn (pr_same 7) (aCons (fLst (aCons (fFn pr_nights (aCons (fVar 2) aNil)) (aCons (fFnK pr_nights (byName ["land"] ["land"]) (aCons (fVar 2) aNil)) aNil))) (aCons (fLst (aCons (fVar 5) (aCons (fVar 5) aNil))) aNil))))) (sRet (fC (.bl false))) sNop) (sSeq (sSet 6 (fFn pr_worst_nights (aCons (fVar 2) aNil))) (sSeq (sIf (qVal (fOp isNq (fVar 5) (fC .non))) (sRet (fOp isNq (fVar 6) (fC .non))) sNop) (sSeq (sIf (qAnd (qVal (fOp ltD (fVar 5) (fC (.int 2)))) (qAnd (qVal (fOp ltD (fCall lenD (aCons (fOp ixD (fVar 1) (fC (.int 1))) aNil)) (fC (.int 13)))) (qAnd (qVal (fOp ltD (fCall lenD (aCons (fOp ixD (fVar 1) (fC (.int 0))) aNil)) (fC (.int 6)))) (qOr (qNot (qVal (fFn pr_bears (aCons (fVar 1) (aCons (fVar 5) aNil))))) (qVal (fFn pr_bears (aCons (fVar 1) (aCons (fOp addD (fVar 5) (fC (.int 1))) aNil)))))))) (sRet (fC (.bl false))) sNop) (sSeq (sIf (qOr (qNot (qVal (fIsi [.b .list] (fVar 6)))) (qOr (qNot (qVal (fFn pr_is_parting (aCons (fVar 1) (aCons (fVar 6) aNil))))) (qOr (qVal (fOp ltD (fCall lenD (aCons (fVar 6) aNil)) (fC (.int 2)))) (qVal (fOp neD (fFn pr_spare (aCons (fVar 1) (aCons (fVar 6) aNil))) (fVar 5)))))) (sRet (fC (.bl false))) sNop) (sSeq (sSet 7 (fFn (pr_copied 4) (aCons (fVar 6) aNil))) (sSeq (sSpoilX 6 [false, false, false, false, false, false, true, false] (fOp catD (fVar 6) (fLst (aCons (fVar 6) aNil)))) (sRet (fFn (pr_same 7) (aCons (fFnK pr_worst_nights (byName ["land"] ["land"]) (aCons (fFn pr_made (aCons (fVar 0) (aCons (fVar 1) aNil))) aNil)) (aCons (fVar 7) aNil))))))))))))))
noncomputable def pr_right_k13 : List D → M D := fnA [true, false] 8 B_right_k13
noncomputable def B_law_k13 : SF := (sRet (fCall allD (aCons (fLcN false (iRange1 (fC (.int 5))) [2] (gNm 2) qYes (fFn pr_right_k13 (aCons (fVar 1) (aCons (fFn pr_thick (aCons (fVar 1) aNil)) aNil)))) aNil)))
end Lk
end
section
set_option autoImplicit false
set_option maxHeartbeats 4000000
namespace Lk
open PySem PySem.Spec L2 DL
def top (i : Nat) : Stmt := PySem.Challenge.pw_heldroads_k13_whole_nights_ahead.main.body.getD i (.Pass ⟨0, 0, 0, 0⟩)
end Lk
end
section
set_option autoImplicit false
set_option maxHeartbeats 4000000
namespace Lk
open PySem PySem.Spec L2 DL
abbrev s_is_list : Stmt := top 2
theorem sc_is_list : FnScope ["thing"] ["thing"] (defScope s_is_list) := ⟨rfl, rfl, rfl, by decide +kernel, rfl, by decide +kernel, by decide +kernel⟩
abbrev s_is_row : Stmt := top 3
theorem sc_is_row : FnScope ["thing", "many"] ["thing", "many"] (defScope s_is_row) := ⟨rfl, rfl, rfl, by decide +kernel, rfl, by decide +kernel, by decide +kernel⟩
abbrev s_is_name : Stmt := top 4
theorem sc_is_name : FnScope ["thing", "sign"] ["thing"] (defScope s_is_name) := ⟨rfl, rfl, rfl, by decide +kernel, rfl, by decide +kernel, by decide +kernel⟩
abbrev s_first_bad_town : Stmt := top 11
theorem sc_first_bad_town : FnScope ["towns", "known", "index", "town"] ["towns"] (defScope s_first_bad_town) := ⟨rfl, rfl, rfl, by decide +kernel, rfl, by decide +kernel, by decide +kernel⟩
abbrev s_Land_is_road : Stmt := inClass (top 12) 1
theorem sc_Land_is_road : FnScope ["self", "thing", "town"] ["self", "thing"] (defScope s_Land_is_road) := ⟨rfl, rfl, rfl, by decide +kernel, rfl, by decide +kernel, by decide +kernel⟩
abbrev s_Land_init : Stmt := inClass (top 12) 0
theorem sc_Land_init : FnScope ["self", "towns", "roads", "wrong", "index", "road"] ["self", "towns", "roads"] (defScope s_Land_init) := ⟨rfl, rfl, rfl, by decide +kernel, rfl, by decide +kernel, by decide +kernel⟩
abbrev s_pick : Stmt := top 24
theorem sc_pick : FnScope ["stream", "things"] ["stream", "things"] (defScope s_pick) := ⟨rfl, rfl, rfl, by decide +kernel, rfl, by decide +kernel, by decide +kernel⟩
abbrev s_mixed : Stmt := top 25
theorem sc_mixed : FnScope ["stream", "things", "left", "found", "k"] ["stream", "things"] (defScope s_mixed) := ⟨rfl, rfl, rfl, by decide +kernel, rfl, by decide +kernel, by decide +kernel⟩
abbrev s_same : Stmt := top 26
theorem sc_same : FnScope ["found", "due", "mine", "theirs"] ["found", "due"] (defScope s_same) := ⟨rfl, rfl, rfl, by decide +kernel, rfl, by decide +kernel, by decide +kernel⟩
abbrev s_loose : Stmt := top 27
theorem sc_loose : FnScope ["stream", "thing", "some", "one"] ["stream", "thing"] (defScope s_loose) := ⟨rfl, rfl, rfl, by decide +kernel, rfl, by decide +kernel, by decide +kernel⟩
abbrev s_names : Stmt := top 30
theorem sc_names : FnScope ["stream", "many", "found", "signs", "k", "name", "one"] ["stream", "many"] (defScope s_names) := ⟨rfl, rfl, rfl, by decide +kernel, rfl, by decide +kernel, by decide +kernel⟩
section
variable {P : Program} {w : World} {K : PySem.W.Frag} {mg : Str → Option Value} {base : Heap} {T : Cfg}
variable (O : KO T K) (b_all : mg "all" = none) (b_bool : mg "bool" = none) (b_dict : mg "dict" = none) (b_enumerate : mg "enumerate" = none) (b_int : mg "int" = none) (b_isinstance : mg "isinstance" = none) (b_len : mg "len" = none) (b_list : mg "list" = none) (b_max : mg "max" = none) (b_min : mg "min" = none) (b_range : mg "range" = none) (b_sorted : mg "sorted" = none) (b_str : mg "str" = none) (b_tuple : mg "tuple" = none) (b_zip : mg "zip" = none) (c_LETTERS : ∃ t, mg "LETTERS" = some (.str "abcdefghijklmnopqrstuvwxyz" t)) (g_Land : mg "Land" = some (.ref (T.cls 0))) (N_own_towns : ∀ c, NoAttr K (T.cls c) "own_towns") (N_own_roads : ∀ c, NoAttr K (T.cls c) "own_roads")
include O b_all b_bool b_dict b_enumerate b_int b_isinstance b_len b_list b_max b_min b_range b_sorted b_str b_tuple b_zip c_LETTERS g_Land N_own_towns N_own_roads
theorem ok_is_list {f : Addr} {fd : FuncData} (Fu : L2.Fun K "is_list" "is_list" s_is_list f fd)  : FnD T P w K mg base 1 f fd ["thing"] .atom pr_is_list := by
  refine FnD.mkA (as := [false]) (Γ2 := [(.sh false)]) (Γb := [(.sh false)]) Fu sc_is_list (.atom _ (.inl rfl)) (fun cdv A outer sh H E hr => ?_)
  have sc := sc_is_list
  exact (dss_one (ds_retR (dr_de (de_isi2 O b_isinstance (cn_b .list b_list) (cn_b .tuple b_tuple) (de_look 0)) (.atom _ (.inl rfl)))))
theorem ok_is_row {f : Addr} {fd : FuncData} (Fu : L2.Fun K "is_row" "is_row" s_is_row f fd) (c_is_list : Cal T P w K mg base 1 "is_list" ["thing"] .atom pr_is_list) : FnD T P w K mg base 2 f fd ["thing", "many"] .atom pr_is_row := by
  refine FnD.mkA (as := [false, true]) (Γ2 := [(.sh false), .atom]) (Γb := [(.sh false), .atom]) Fu sc_is_row (.atom _ (.inl rfl)) (fun cdv A outer sh H E hr => ?_)
  have sc := sc_is_row
  exact (dss_one (ds_retR (dr_de (de_and (de_callP (m := .any) (mr := .atom) c_is_list (hr.mono (by decide)) (passes_call (takes_of rfl rfl rfl rfl) (fun _ _ _ _ h => h)) (da_cons (de_look 0) da_nil)) (de_one (de_cmp (m := .any) (v_eq (un64 hr)) (DE.weak (m' := .any) (de_callB v_len b_len (da_cons (de_look 0) da_nil)) (.any _)) (de_look 1)))) (.atom _ (.inl rfl)))))
theorem ok_is_name {f : Addr} {fd : FuncData} (Fu : L2.Fun K "is_name" "is_name" s_is_name f fd)  : FnD T P w K mg base 1 f fd ["thing"] .atom pr_is_name := by
  refine FnD.mkA (as := [false]) (Γ2 := [(.sh false), .atom]) (Γb := [(.sh false), .atom]) Fu sc_is_name (.atom _ (.inl rfl)) (fun cdv A outer sh H E hr => ?_)
  have sc := sc_is_name
  exact (dss_one (ds_retR (dr_de (de_and (de_isi O b_isinstance (cn_b .str b_str) (de_look 0)) (de_and (de_chain v_lt v_lt de_int (de_callB v_len b_len (da_cons (de_look 0) da_nil)) de_int) (de_one (de_callB (v_all rfl) b_all (da_cons (DE.weak (m' := .any) (de_lc (own := [("sign", 1)]) rfl sc.nd (blkOk_by (by first | rfl | decide +kernel)) (by decide) (di_seq (de_var (m := (.sh false)) 0 rfl)) rfl (.inl ⟨rfl, rfl, .inr ⟨_, rfl⟩⟩) (fun _ _ _ _ _ => (dg_nm 1 sc.nd)) (fun _ _ _ _ _ => dq_nil) (fun _ _ _ _ _ => (de_cmp (m := .any) (v_in (un64 hr)) (de_look 1) (DE.weak (m' := .any) (de_gstr c_LETTERS) (.any _)))) rfl (by exact fun q => by cases q)) (.any _)) da_nil))))) (.atom _ (.inl rfl)))))
theorem ok_first_bad_town {f : Addr} {fd : FuncData} (Fu : L2.Fun K "first_bad_town" "first_bad_town" s_first_bad_town f fd) (c_is_list : Cal T P w K mg base 1 "is_list" ["thing"] .atom pr_is_list) (c_is_name : Cal T P w K mg base 1 "is_name" ["thing"] .atom pr_is_name) : FnD T P w K mg base 2 f fd ["towns"] .atom pr_first_bad_town := by
  refine FnD.mkA (as := [false]) (Γ2 := [(.sh false), .atom, .atom, .atom]) (Γb := [(.sh false), .atom, .atom, .atom]) Fu sc_first_bad_town (.atom _ (.inl rfl)) (fun cdv A outer sh H E hr => ?_)
  have sc := sc_first_bad_town
  exact (dss_cons (ds_set 1 de_dicK sc.nd) (dss_cons (ds_if (DW.dt (dw_or (dt_not (dt_val (de_callP (m := .any) (mr := .atom) c_is_list (hr.mono (by decide)) (passes_call (takes_of rfl rfl rfl rfl) (fun _ _ _ _ h => h)) (da_cons (de_look 0) da_nil)))) (dw_or1 (dt_cmp (m := .atom) (v_eq (un64 hr)) (de_callB v_len b_len (da_cons (de_look 0) da_nil)) de_int)))) (dss_one (ds_retR (dr_de de_int (.atom _ (.inl rfl))))) dss_nil) (dss_cons (ds_for (ΓL := [(.sh false), (.ow .e), (.sh false), (.sh false)]) (di_enum b_enumerate (de_var (m := (.sh false)) 0 rfl)) (.inr ⟨_, rfl⟩) (.inl ⟨rfl, rfl, .inr ⟨_, rfl⟩⟩) (dg_seq rfl (dgs_cons (dg_nm 2 sc.nd) (dgs_cons (dg_nm 3 sc.nd) dgs_nil))) (dss_cons (ds_if (DW.dt (dw_or (dt_not (dt_val (de_callP (m := .any) (mr := .atom) c_is_name (hr.mono (by decide)) (passes_call (takes_of rfl rfl rfl rfl) (fun _ _ _ _ h => h)) (da_cons (de_look 3) da_nil)))) (dw_or1 (dt_cmp (m := .any) (v_in (un64 hr)) (de_look 3) (de_look 1))))) (dss_one (ds_retR (dr_de (de_fz (de_look 2)) (.atom _ (.inl rfl))))) dss_nil) (dss_one (ds_put (un64 hr) 1 .e rfl rfl (DE.weak (m' := .xc) de_bl (.atom _)) (de_look 3)))) rfl rfl rfl (passes_of rfl)) (dss_one (ds_retR (dr_de de_non (.atom _ (.inl rfl))))))))
theorem ok_Land_is_road {f : Addr} {fd : FuncData} (Fu : L2.Fun K "is_road" "Land.is_road" s_Land_is_road f fd) (c_is_row : Cal T P w K mg base 2 "is_row" ["thing", "many"] .atom pr_is_row) : FnD T P w K mg base 3 f fd ["self", "thing"] .atom pr_Land_is_road := by
  refine FnD.mkA (as := [false, false]) (Γ2 := [(.sh false), (.sh false), .atom]) (Γb := [(.sh false), (.sh false), .atom]) Fu sc_Land_is_road (.atom _ (.inl rfl)) (fun cdv A outer sh H E hr => ?_)
  have sc := sc_Land_is_road
  exact (dss_cons (ds_if (DW.dt (dw_or (dt_not (dt_val (de_callP (m := .any) (mr := .atom) c_is_row (hr.mono (by decide)) (passes_call (takes_of rfl rfl rfl rfl) (fun _ _ _ _ h => h)) (da_cons (de_look 1) (da_cons (DE.weak (m' := .any) de_int (.any _)) da_nil))))) (dw_or1 (dt_not (dt_val (de_callB (v_all rfl) b_all (da_cons (DE.weak (m' := .any) (de_lc (own := [("town", 2)]) rfl sc.nd (blkOk_by (by first | rfl | decide +kernel)) (by decide) (di_seq (de_var (m := (.sh false)) 1 rfl)) rfl (.inl ⟨rfl, rfl, .inr ⟨_, rfl⟩⟩) (fun _ _ _ _ _ => (dg_nm 2 sc.nd)) (fun _ _ _ _ _ => dq_nil) (fun _ _ _ _ _ => (de_and (de_isi O b_isinstance (cn_b .str b_str) (de_look 2)) (de_one (de_cmp (m := .any) (v_in (un64 hr)) (de_look 2) (de_fld O.cls N_own_towns (de_look 0)))))) rfl (by exact fun q => by cases q)) (.any _)) da_nil))))))) (dss_one (ds_retR (dr_de de_bl (.atom _ (.inl rfl))))) dss_nil) (dss_one (ds_retR (dr_de (de_cmp (m := .atom) (v_ne (un64 hr)) (de_ixA (un64 hr) (de_look 1) (DE.weak (m' := .any) de_int (.any _))) (de_ixA (un64 hr) (de_look 1) (DE.weak (m' := .any) de_int (.any _)))) (.atom _ (.inl rfl))))))
theorem ok_Land_init {f : Addr} {fd : FuncData} (Fu : L2.Fun K "__init__" "Land.__init__" s_Land_init f fd) (c_first_bad_town : Cal T P w K mg base 2 "first_bad_town" ["towns"] .atom pr_first_bad_town) (c_is_list : Cal T P w K mg base 1 "is_list" ["thing"] .atom pr_is_list) (c_Land_is_road : CalM T P w K mg base 3 0 "is_road" ["self", "thing"] .atom pr_Land_is_road) : FnOk P w K mg base (L2.CX P w) 4 f fd ["self", "towns", "roads"] (spInit T 0 pr_Land_init) := by
  have sc := sc_Land_init
  refine init_ok (Γa := [.atom, (.sh false), (.sh false), .atom, .atom, .atom]) (Γc := [(.sh false), (.sh false), (.sh false), .atom, .atom, .atom]) (Γ1 := [(.sh false), (.sh false), (.sh false), .atom, (.sh false), (.sh false)]) (js := [4, 5]) Fu sc_Land_init rfl rfl rfl (O.cls 0) (N_own_towns 0) (N_own_roads 0) (by decide) (by decide) (by decide) (by decide) (by decide) rfl rfl ?_ ?_ (by decide +kernel) (fun cdv A outer sh H E hr X eX => ?_)
  · decide
  · decide
  subst eX
  exact ⟨(de_callP (m := .any) (mr := .atom) c_first_bad_town (hr.mono (by decide)) (passes_call (takes_of rfl rfl rfl rfl) (fun _ _ _ _ h => h)) (da_cons (de_look 1) da_nil)),
   (dt_cmp (m := .any) v_isNN (de_look 3) (DE.weak (m' := .any) de_non (.any _))),
   (de_fzk (de_callB (v_sorted (un64 hr)) b_sorted (da_cons (de_var (m := (.sh false)) 1 rfl) da_nil))),
   (dt_not (dt_val (de_callP (m := .any) (mr := .atom) c_is_list (hr.mono (by decide)) (passes_call (takes_of rfl rfl rfl rfl) (fun _ _ _ _ h => h)) (da_cons (de_look 2) da_nil)))),
   (di_enum b_enumerate (de_var (m := (.sh false)) 2 rfl)),
   (dg_seq rfl (dgs_cons (dg_nm 4 sc.nd) (dgs_cons (dg_nm 5 sc.nd) dgs_nil))),
   (dt_not (dt_val (de_methP (m := .any) (mr := .atom) c_Land_is_road (hr.mono (by decide)) (passes_call (takes_of rfl rfl rfl rfl) (fun _ _ _ _ h => h)) (de_look 0) (da_cons (de_look 5) da_nil)))),
   (de_callB (v_sorted (un64 hr)) b_sorted (da_cons (DE.weak (m' := .xc) (de_lc (own := [("road", 5)]) rfl sc.nd (blkOk_by (by first | rfl | decide +kernel)) (by decide) (di_seq (de_var (m := (.sh false)) 2 rfl)) rfl (.inl ⟨rfl, rfl, .inr ⟨_, rfl⟩⟩) (fun _ _ _ _ _ => (dg_nm 5 sc.nd)) (fun _ _ _ _ _ => dq_nil) (fun _ _ _ _ _ => (de_tup (da_cons (de_fz (de_callB (v_min rfl (un64 hr)) b_min (da_cons (de_look 5) da_nil))) (da_cons (de_fz (de_callB (v_max rfl (un64 hr)) b_max (da_cons (de_look 5) da_nil))) da_nil)))) rfl (by exact fun q => by cases q)) .ow_xc) da_nil)),
   rfl, rfl, rfl, by first | exact Or.inl rfl | exact Or.inr rfl, by first | exact .inl rfl | exact .inr rfl, by first | exact Or.inl rfl | exact Or.inr rfl | rfl, fun _ => rfl⟩
theorem ok_pick {f : Addr} {fd : FuncData} (Fu : L2.Fun K "_law_pick" "_law_pick" s_pick f fd) (c_draw : Cal T P w K mg base 1 "_law_draw" ["stream", "many"] .atom drawF) : FnD T P w K mg base 2 f fd ["stream", "things"] (.sh false) pr_pick := by
  refine FnD.mkA (as := [true, false]) (Γ2 := [.atom, (.sh false)]) (Γb := [.atom, (.sh false)]) Fu sc_pick (.atom _ (.inr (.inr (.inr rfl)))) (fun cdv A outer sh H E hr => ?_)
  have sc := sc_pick
  exact (dss_one (ds_retR (dr_de (de_ix (un64 hr) (de_var (m := (.sh false)) 1 rfl) (DE.weak (m' := .any) (de_callP (m := .any) (mr := .atom) c_draw (hr.mono (by decide)) (passes_call (takes_of rfl rfl rfl rfl) (fun _ _ _ _ h => h)) (da_cons (de_look 0) (da_cons (DE.weak (m' := .any) (de_callB v_len b_len (da_cons (de_look 1) da_nil)) (.any _)) da_nil))) (.any _))) (.sh _ (.refl _)))))
theorem ok_mixed {f : Addr} {fd : FuncData} (Fu : L2.Fun K "_law_mixed" "_law_mixed" s_mixed f fd) (c_draw : Cal T P w K mg base 1 "_law_draw" ["stream", "many"] .atom drawF) : FnD T P w K mg base 2 f fd ["stream", "things"] (.sh false) pr_mixed := by
  refine FnD.mkA (as := [true, false]) (Γ2 := [.atom, (.sh false), .atom, .atom, .atom]) (Γb := [.atom, (.sh false), .atom, .atom, .atom]) Fu sc_mixed (.atom _ (.inr (.inr (.inr rfl)))) (fun cdv A outer sh H E hr => ?_)
  have sc := sc_mixed
  exact (dss_cons (ds_par 2 3 (de_callTy v_list b_list (da_cons (de_var (m := (.sh false)) 1 rfl) da_nil)) (de_lst (da_nil (m := (.sh false)))) rfl sc.nd) (dss_cons (ds_for (ΓL := [.atom, (.sh false), (.ow .o), (.ow .o), .atom]) (di_range1 b_range (de_callB v_len b_len (da_cons (de_look 2) da_nil))) (.inl rfl) (.inl ⟨rfl, rfl, .inl rfl⟩) (dg_nm 4 sc.nd) (dss_one (ds_appPop 3 2 rfl rfl (de_callP (m := .any) (mr := .atom) c_draw (hr.mono (by decide)) (passes_call (takes_of rfl rfl rfl rfl) (fun _ _ _ _ h => h)) (da_cons (de_look 0) (da_cons (DE.weak (m' := .any) (de_callB v_len b_len (da_cons (de_look 2) da_nil)) (.any _)) da_nil))))) rfl rfl rfl (passes_of rfl)) (dss_one (ds_retR (dr_var (m := (.ow .o)) 3 rfl (.sh _ .ow_o))))))
theorem ok_same {n : Nat} {rec : List D → M D} (hn : 0 ≤ n) {f : Addr} {fd : FuncData} (Fu : L2.Fun K "_law_same" "_law_same" s_same f fd) (c_same : Cal T P w K mg base n "_law_same" ["found", "due"] .atom rec) : FnD T P w K mg base (n + 1) f fd ["found", "due"] .atom (fnA [false, false] 4 (B_same rec)) := by
  refine FnD.mkA (as := [false, false]) (Γ2 := [(.sh false), (.sh false), .atom, .atom]) (Γb := [(.sh false), (.sh false), .atom, .atom]) Fu sc_same (.atom _ (.inl rfl)) (fun cdv A outer sh H E hr => ?_)
  have sc := sc_same
  exact (dss_cons (ds_if (dt_val (de_isi2 O b_isinstance (cn_b .list b_list) (cn_b .tuple b_tuple) (de_look 1))) (dss_cons (ds_if (DW.dt (dw_or (dt_cmp (m := .atom) (v_ne (un64 hr)) (de_isi O b_isinstance (cn_b .list b_list) (de_look 0)) (de_isi O b_isinstance (cn_b .list b_list) (de_look 1))) (dw_or1 (dt_cmp (m := .atom) (v_ne (un64 hr)) (de_isi O b_isinstance (cn_b .tuple b_tuple) (de_look 0)) (de_isi O b_isinstance (cn_b .tuple b_tuple) (de_look 1)))))) (dss_one (ds_retR (dr_de de_bl (.atom _ (.inl rfl))))) dss_nil) (dss_one (ds_retR (dr_de (de_and (de_cmp (m := .atom) (v_eq (un64 hr)) (de_callB v_len b_len (da_cons (de_look 0) da_nil)) (de_callB v_len b_len (da_cons (de_look 1) da_nil))) (de_one (de_callB (v_all rfl) b_all (da_cons (DE.weak (m' := .any) (de_lc (own := [("mine", 2), ("theirs", 3)]) rfl sc.nd (blkOk_by (by first | rfl | decide +kernel)) (by decide) (di_zip b_zip (de_var (m := (.sh false)) 0 rfl) (de_var (m := (.sh false)) 1 rfl)) rfl (.inl ⟨rfl, rfl, .inr ⟨_, rfl⟩⟩) (fun _ _ _ _ _ => (dg_seq rfl (dgs_cons (dg_nm 2 sc.nd) (dgs_cons (dg_nm 3 sc.nd) dgs_nil)))) (fun _ _ _ _ _ => dq_nil) (fun _ _ _ _ _ => (de_callP (m := .any) (mr := .atom) c_same (hr.mono (Nat.le_refl _)) passL (da_cons (de_look 2) (da_cons (de_look 3) da_nil)))) rfl (by exact fun q => by cases q)) (.any _)) da_nil)))) (.atom _ (.inl rfl)))))) dss_nil) (dss_cons (ds_if (dt_val (de_isi O b_isinstance (cn_b .dict b_dict) (de_look 1))) (dss_one ds_fail) dss_nil) (dss_cons (ds_if (DW.dt (dw_or (dt_val (de_isi O b_isinstance (cn_b .bool b_bool) (de_look 1))) (dw_or1 (dt_val (de_isi O b_isinstance (cn_b .bool b_bool) (de_look 0)))))) (dss_one (ds_retR (dr_de (de_and (de_isi O b_isinstance (cn_b .bool b_bool) (de_look 1)) (de_and (de_isi O b_isinstance (cn_b .bool b_bool) (de_look 0)) (de_one (de_cmp (m := .any) (v_eq (un64 hr)) (de_look 0) (de_look 1))))) (.atom _ (.inl rfl))))) dss_nil) (dss_cons (ds_if (DW.dt (dw_or (dt_cmp (m := .any) v_isN (de_look 1) (DE.weak (m' := .any) de_non (.any _))) (dw_or1 (dt_cmp (m := .any) v_isN (de_look 0) (DE.weak (m' := .any) de_non (.any _)))))) (dss_one (ds_retR (dr_de (de_and (de_cmp (m := .any) v_isN (de_look 1) (DE.weak (m' := .any) de_non (.any _))) (de_one (de_cmp (m := .any) v_isN (de_look 0) (DE.weak (m' := .any) de_non (.any _))))) (.atom _ (.inl rfl))))) dss_nil) (dss_cons (ds_if (DW.dt (dw_or (dt_cmp (m := .atom) (v_ne (un64 hr)) (de_isi O b_isinstance (cn_b .int b_int) (de_look 1)) (de_isi O b_isinstance (cn_b .int b_int) (de_look 0))) (dw_or1 (dt_cmp (m := .atom) (v_ne (un64 hr)) (de_isi O b_isinstance (cn_b .str b_str) (de_look 1)) (de_isi O b_isinstance (cn_b .str b_str) (de_look 0)))))) (dss_one (ds_retR (dr_de de_bl (.atom _ (.inl rfl))))) dss_nil) (dss_one (ds_retR (dr_de (de_and (de_not (de_isi3 O b_isinstance (cn_b .list b_list) (cn_b .tuple b_tuple) (cn_b .dict b_dict) (de_look 0))) (de_one (de_cmp (m := .any) (v_eq (un64 hr)) (de_look 0) (de_look 1)))) (.atom _ (.inl rfl))))))))))
theorem ok_loose {n : Nat} {rec : List D → M D} (hn : 1 ≤ n) {f : Addr} {fd : FuncData} (Fu : L2.Fun K "_law_loose" "_law_loose" s_loose f fd) (c_loose : Cal T P w K mg base n "_law_loose" ["stream", "thing"] .xc rec) (c_draw : Cal T P w K mg base 1 "_law_draw" ["stream", "many"] .atom drawF) : FnD T P w K mg base (n + 1) f fd ["stream", "thing"] .xc (fnA [true, false] 4 (B_loose rec)) := by
  refine FnD.mkA (as := [true, false]) (Γ2 := [.atom, (.sh false), .atom, .atom]) (Γb := [.atom, (.sh false), .atom, .atom]) Fu sc_loose (.atom _ (.inr (.inr (.inl rfl)))) (fun cdv A outer sh H E hr => ?_)
  have sc := sc_loose
  exact (dss_cons (ds_if (dt_val (de_isi2 O b_isinstance (cn_b .list b_list) (cn_b .tuple b_tuple) (de_look 1))) (dss_cons (ds_setLc 2 rfl sc.nd (sw_true rfl rfl rfl rfl) (own := [("one", 3)]) (blkOk_by (by first | rfl | decide +kernel)) (by decide) (di_seq (de_var (m := (.sh false)) 1 rfl)) rfl (.inl ⟨rfl, rfl, .inr ⟨_, rfl⟩⟩) (fun _ _ _ _ _ => (dg_nm 3 sc.nd)) (fun _ _ _ _ _ => dq_nil) (fun _ _ _ _ _ => (de_callP (m := .any) (mr := .xc) c_loose (hr.mono (Nat.le_refl _)) passL (da_cons (de_look 0) (da_cons (de_look 3) da_nil)))) rfl (by exact fun q => by cases q)) (dss_one (ds_retR (dr_if (dt_cmp (m := .atom) (v_eq (un64 hr)) (de_callP (m := .any) (mr := .atom) c_draw (hr.mono (by omega)) (passes_call (takes_of rfl rfl rfl rfl) (fun _ _ _ _ h => h)) (da_cons (de_look 0) (da_cons (DE.weak (m' := .any) de_int (.any _)) da_nil))) de_int) (dr_var (m := (.ow .e)) 2 rfl .exc) (dr_tup 2 rfl b_tuple))))) dss_nil) (dss_one (ds_retR (dr_de (de_fz (de_look 1)) (.atom _ (.inr (.inr (.inl rfl))))))))
theorem ok_names {f : Addr} {fd : FuncData} (Fu : L2.Fun K "_law_names" "_law_names" s_names f fd) (c_draw : Cal T P w K mg base 1 "_law_draw" ["stream", "many"] .atom drawF) (c_pick : Cal T P w K mg base 2 "_law_pick" ["stream", "things"] (.sh false) pr_pick) : FnD T P w K mg base 3 f fd ["stream", "many"] (.ow .e) pr_names := by
  refine FnD.mkA (as := [true, true]) (Γ2 := [.atom, .atom, .atom, .atom, .atom, .atom, .atom]) (Γb := [.atom, .atom, .atom, .atom, .atom, .atom, .atom]) Fu sc_names (.atom _ (.inr (.inl rfl))) (fun cdv A outer sh H E hr => ?_)
  have sc := sc_names
  exact (dss_cons (ds_parC 2 3 (de_lst (da_nil (m := .atom))) de_str rfl sc.nd) (dss_cons (ds_for (ΓL := [.atom, .atom, (.ow .e), .atom, .atom, .atom, .atom]) (di_range1 b_range (de_look 1)) (.inl rfl) (.inl ⟨rfl, rfl, .inl rfl⟩) (dg_nm 4 sc.nd) (dss_cons (ds_set 5 (de_m1 PySem.F.slot_str_join PySem.F.type_str_join v_join de_str (DE.weak (m' := .any) (de_lc (own := [("one", 6)]) rfl sc.nd (blkOk_by (by first | rfl | decide +kernel)) (by decide) (di_range1 b_range (de_op (m := .atom) v_add de_int (de_callP (m := .any) (mr := .atom) c_draw (hr.mono (by decide)) (passes_call (takes_of rfl rfl rfl rfl) (fun _ _ _ _ h => h)) (da_cons (de_look 0) (da_cons (DE.weak (m' := .any) (de_callP (m := .xc) (mr := (.sh false)) c_pick (hr.mono (by decide)) (passes_call (takes_of rfl rfl rfl rfl) (fun _ _ _ _ h => h)) (da_cons (DE.weak (m' := .xc) (de_var (m := .atom) 0 rfl) (.atom _)) (da_cons (DE.weak (m' := .xc) (de_lst (da_cons de_int (da_cons de_int (da_cons de_int da_nil)))) .ow_xc) da_nil))) (.any _)) da_nil))))) rfl (.inl ⟨rfl, rfl, .inl rfl⟩) (fun _ _ _ _ _ => (dg_nm 6 sc.nd)) (fun _ _ _ _ _ => dq_nil) (fun _ _ _ _ _ => (de_callP (m := .atom) (mr := (.sh false)) c_pick (hr.mono (by decide)) passL (da_cons (de_var (m := .atom) 0 rfl) (da_cons (de_var (m := .atom) 3 rfl) da_nil)))) rfl (by exact fun q => by cases q)) (.any _))) sc.nd) (dss_cons (ds_while (ΓL := [.atom, .atom, (.ow .e), .atom, .atom, .atom, .atom]) (dt_cmp (m := .any) (v_in (un64 hr)) (de_look 5) (de_look 2)) (dss_one (ds_set 5 (de_sl v_slT (de_op (m := .any) v_add (de_look 5) (DE.weak (m' := .any) (de_callP (m := .atom) (mr := (.sh false)) c_pick (hr.mono (by decide)) (passes_call (takes_of rfl rfl rfl rfl) (fun _ _ _ _ h => h)) (da_cons (de_var (m := .atom) 0 rfl) (da_cons (de_var (m := .atom) 3 rfl) da_nil))) (.any _))) (dp_some (de_un v_neg de_int)) dp_no) sc.nd)) rfl rfl (passes_of rfl)) (dss_one (ds_app 2 .e rfl rfl (DE.weak (m' := .xc) (de_var (m := .atom) 5 rfl) (.atom _)))))) rfl rfl rfl (passes_of rfl)) (dss_one (ds_retR (dr_var (m := (.ow .e)) 2 rfl .ee)))))
end
end Lk
end
section
set_option autoImplicit false
set_option maxHeartbeats 4000000
namespace Lk
open PySem PySem.Spec L2 DL
abbrev s_land : Stmt := top 35
theorem sc_land : FnScope ["stream", "towns", "roads", "names", "mixed", "found", "tree", "at", "k", "one", "other"] ["stream", "towns", "roads"] (defScope s_land) := ⟨rfl, rfl, rfl, by decide +kernel, rfl, by decide +kernel, by decide +kernel⟩
abbrev s_made : Stmt := top 37
theorem sc_made : FnScope ["stream", "land", "roads", "road"] ["stream", "land"] (defScope s_made) := ⟨rfl, rfl, rfl, by decide +kernel, rfl, by decide +kernel, by decide +kernel⟩
abbrev s_check_land : Stmt := top 13
theorem sc_check_land : FnScope ["land"] ["land"] (defScope s_check_land) := ⟨rfl, rfl, rfl, by decide +kernel, rfl, by decide +kernel, by decide +kernel⟩
abbrev s_crossing_of : Stmt := top 14
theorem sc_crossing_of : FnScope ["land", "parting", "place", "town", "index", "some", "road", "one", "other"] ["land", "parting"] (defScope s_crossing_of) := ⟨rfl, rfl, rfl, by decide +kernel, rfl, by decide +kernel, by decide +kernel⟩
section
variable {P : Program} {w : World} {K : PySem.W.Frag} {mg : Str → Option Value} {base : Heap} {T : Cfg}
variable (O : KO T K) (b_enumerate : mg "enumerate" = none) (b_int : mg "int" = none) (b_isinstance : mg "isinstance" = none) (b_len : mg "len" = none) (b_list : mg "list" = none) (b_max : mg "max" = none) (b_min : mg "min" = none) (b_range : mg "range" = none) (b_sorted : mg "sorted" = none) (b_tuple : mg "tuple" = none) (c_LETTERS : ∃ t, mg "LETTERS" = some (.str "abcdefghijklmnopqrstuvwxyz" t)) (g_Land : mg "Land" = some (.ref (T.cls 0))) (N_own_towns : ∀ c, NoAttr K (T.cls c) "own_towns") (N_own_roads : ∀ c, NoAttr K (T.cls c) "own_roads")
include O b_enumerate b_int b_isinstance b_len b_list b_max b_min b_range b_sorted b_tuple c_LETTERS g_Land N_own_towns N_own_roads
theorem ok_land {f : Addr} {fd : FuncData} (Fu : L2.Fun K "_law_land" "_law_land" s_land f fd) (c_names : Cal T P w K mg base 3 "_law_names" ["stream", "many"] (.ow .e) pr_names) (c_draw : Cal T P w K mg base 1 "_law_draw" ["stream", "many"] .atom drawF) (c_mixed : Cal T P w K mg base 2 "_law_mixed" ["stream", "things"] (.sh false) pr_mixed) (c_pick : Cal T P w K mg base 2 "_law_pick" ["stream", "things"] (.sh false) pr_pick) : FnD T P w K mg base 4 f fd ["stream", "towns", "roads"] (.sh false) pr_land := by
  refine FnD.mkA (as := [true, true, true]) (Γ2 := [.atom, .atom, .atom, .atom, .atom, .atom, .atom, .atom, .atom, .atom, .atom]) (Γb := [.atom, .atom, .atom, .atom, .atom, .atom, .atom, .atom, .atom, .atom, .atom]) Fu sc_land (.atom _ (.inr (.inr (.inr rfl)))) (fun cdv A outer sh H E hr => ?_)
  have sc := sc_land
  exact (dss_cons (ds_set 3 (de_callB (v_sorted (un64 hr)) b_sorted (da_cons (DE.weak (m' := .xc) (de_callP (m := .any) (mr := (.ow .e)) c_names (hr.mono (by decide)) (passes_call (takes_of rfl rfl rfl rfl) (fun _ _ _ _ h => h)) (da_cons (de_look 0) (da_cons (DE.weak (m' := .any) (de_op (m := .atom) v_add de_int (de_callP (m := .any) (mr := .atom) c_draw (hr.mono (by decide)) (passes_call (takes_of rfl rfl rfl rfl) (fun _ _ _ _ h => h)) (da_cons (de_look 0) (da_cons (DE.weak (m' := .any) (de_op (m := .any) v_sub (de_look 1) (DE.weak (m' := .any) de_int (.any _))) (.any _)) da_nil)))) (.any _)) da_nil))) .ow_xc) da_nil)) sc.nd) (dss_cons (ds_pre (Γ1 := [.atom, .atom, .atom, (.sh true), .atom, .atom, .atom, .atom, .atom, .atom, .atom]) (ds_par 4 5 (de_callP (m := (.sh true)) (mr := (.sh false)) c_mixed (hr.mono (by decide)) (passes_call (takes_of rfl rfl rfl rfl) (fun _ _ _ _ h => h)) (da_cons (DE.weak (m' := (.sh true)) (de_var (m := .atom) 0 rfl) (.atom _)) (da_cons (de_var (m := (.sh true)) 3 rfl) da_nil))) (de_lst (da_nil (m := (.sh true)))) rfl sc.nd)) (dss_cons (ds_for (ΓL := [.atom, .atom, .atom, (.sh true), (.sh true), (.ow .n), .atom, .atom, .atom, .atom, .atom]) (di_range1 b_range (de_op (m := .atom) v_add de_int (de_callTy v_int b_int (da_cons (DE.weak (m' := .any) (de_cmp (m := .atom) v_gt (de_callP (m := .any) (mr := .atom) c_draw (hr.mono (by decide)) (passes_call (takes_of rfl rfl rfl rfl) (fun _ _ _ _ h => h)) (da_cons (de_look 0) (da_cons (DE.weak (m' := .any) de_int (.any _)) da_nil))) de_int) (.any _)) da_nil)))) (.inl rfl) (.inl ⟨rfl, rfl, .inl rfl⟩) (dg_nm 6 sc.nd) (dss_cons (ds_for (ΓL := [.atom, .atom, .atom, (.sh true), (.sh true), (.ow .n), .atom, .atom, .atom, .atom, .atom]) (di_range2 b_range de_int (de_callB v_len b_len (da_cons (de_look 4) da_nil))) (.inl rfl) (.inl ⟨rfl, rfl, .inl rfl⟩) (dg_nm 7 sc.nd) (dss_one (ds_if (DW.dt (dw_and (dt_cmp (m := .any) v_lt (DE.weak (m' := .any) (de_callB v_len b_len (da_cons (de_look 5) da_nil)) (.any _)) (de_look 2)) (dw_and1 (dt_cmp (m := .atom) v_gt (de_callP (m := .any) (mr := .atom) c_draw (hr.mono (by decide)) (passes_call (takes_of rfl rfl rfl rfl) (fun _ _ _ _ h => h)) (da_cons (de_look 0) (da_cons (DE.weak (m' := .any) de_int (.any _)) da_nil))) de_int)))) (dss_one (ds_app 5 .n rfl rfl (de_callTy v_tuple b_tuple (da_cons (DE.weak (m' := (.sh true)) (de_callB (v_sorted (un64 hr)) b_sorted (da_cons (DE.weak (m' := (.sh true)) (de_lst (da_cons (de_ix (un64 hr) (de_var (m := (.sh true)) 4 rfl) (de_look 7)) (da_cons (de_ix (un64 hr) (de_var (m := (.sh true)) 4 rfl) (DE.weak (m' := .any) (de_callP (m := .any) (mr := .atom) c_draw (hr.mono (by decide)) (passes_call (takes_of rfl rfl rfl rfl) (fun _ _ _ _ h => h)) (da_cons (de_look 0) (da_cons (de_look 7) da_nil))) (.any _))) da_nil))) (.ow_n _)) da_nil)) (.ow_n _)) da_nil)))) dss_nil)) rfl rfl rfl (passes_of rfl)) (dss_one (ds_set 4 (de_callP (m := (.sh true)) (mr := (.sh false)) c_mixed (hr.mono (by decide)) (passes_call (takes_of rfl rfl rfl rfl) (fun _ _ _ _ h => h)) (da_cons (DE.weak (m' := (.sh true)) (de_var (m := .atom) 0 rfl) (.atom _)) (da_cons (de_var (m := (.sh true)) 3 rfl) da_nil))) sc.nd))) rfl rfl rfl (passes_of rfl)) (dss_cons (ds_for (ΓL := [.atom, .atom, .atom, (.sh true), (.sh true), (.ow .n), .atom, .atom, .atom, (.sh true), (.sh true)]) (di_range1 b_range (de_callP (m := .any) (mr := .atom) c_draw (hr.mono (by decide)) (passes_call (takes_of rfl rfl rfl rfl) (fun _ _ _ _ h => h)) (da_cons (de_look 0) (da_cons (DE.weak (m' := .any) (de_callP (m := .xc) (mr := (.sh false)) c_pick (hr.mono (by decide)) (passes_call (takes_of rfl rfl rfl rfl) (fun _ _ _ _ h => h)) (da_cons (DE.weak (m' := .xc) (de_var (m := .atom) 0 rfl) (.atom _)) (da_cons (DE.weak (m' := .xc) (de_lst (da_cons de_int (da_cons de_int (da_cons de_int da_nil)))) .ow_xc) da_nil))) (.any _)) da_nil)))) (.inl rfl) (.inl ⟨rfl, rfl, .inl rfl⟩) (dg_nm 8 sc.nd) (dss_cons (ds_asg (DE.weak (m' := (.sh true)) (de_sl v_slL (de_callP (m := (.sh true)) (mr := (.sh false)) c_mixed (hr.mono (by decide)) (passes_call (takes_of rfl rfl rfl rfl) (fun _ _ _ _ h => h)) (da_cons (DE.weak (m' := (.sh true)) (de_var (m := .atom) 0 rfl) (.atom _)) (da_cons (de_var (m := (.sh true)) 3 rfl) da_nil))) dp_no (dp_some de_int)) (.ow_n _)) (dg_seq rfl (dgs_cons (dg_nm 9 sc.nd) (dgs_cons (dg_nm 10 sc.nd) dgs_nil)))) (dss_one (ds_if (dt_cmp (m := .any) v_lt (DE.weak (m' := .any) (de_callB v_len b_len (da_cons (de_look 5) da_nil)) (.any _)) (de_look 2)) (dss_one (ds_app 5 .n rfl rfl (DE.weak (m' := (.sh true)) (de_tup (da_cons (de_fz (de_callB (v_min rfl (un64 hr)) b_min (da_cons (de_look 9) (da_cons (de_look 10) da_nil)))) (da_cons (de_fz (de_callB (v_max rfl (un64 hr)) b_max (da_cons (de_look 9) (da_cons (de_look 10) da_nil)))) da_nil))) (.atom _)))) dss_nil))) rfl rfl rfl (passes_of rfl)) (dss_one (ds_pre (Γ1 := [.atom, .atom, .atom, (.sh true), (.sh true), (.sh true), .atom, .atom, .atom, (.sh true), (.sh true)]) (ds_retR (dr_de (de_tup (da_cons (de_var (m := (.sh true)) 3 rfl) (da_cons (DE.weak (m' := (.sh true)) (de_callB (v_sorted (un64 hr)) b_sorted (da_cons (de_var (m := (.sh true)) 5 rfl) da_nil)) (.ow_n _)) da_nil))) (.sh _ .sh)))))))))
theorem ok_made {f : Addr} {fd : FuncData} (Fu : L2.Fun K "_law_made" "_law_made" s_made f fd) (c_loose : Cal T P w K mg base 6 "_law_loose" ["stream", "thing"] .xc (pr_loose 5)) (c_mixed : Cal T P w K mg base 2 "_law_mixed" ["stream", "things"] (.sh false) pr_mixed) (c_Land : CalC T P w K mg base 4 0 "Land" ["towns", "roads"] pr_Land_init) : FnD T P w K mg base 7 f fd ["stream", "land"] .xc pr_made := by
  refine FnD.mkA (as := [true, false]) (Γ2 := [.atom, (.sh false), .atom, .atom]) (Γb := [.atom, (.sh false), .atom, .atom]) Fu sc_made (.atom _ (.inr (.inr (.inl rfl)))) (fun cdv A outer sh H E hr => ?_)
  have sc := sc_made
  exact (dss_cons (ds_setLc 2 rfl sc.nd (sw_true rfl rfl rfl rfl) (own := [("road", 3)]) (blkOk_by (by first | rfl | decide +kernel)) (by decide) (di_seq (de_ix (un64 hr) (de_var (m := (.sh false)) 1 rfl) (DE.weak (m' := .any) de_int (.any _)))) rfl (.inl ⟨rfl, rfl, .inr ⟨_, rfl⟩⟩) (fun _ _ _ _ _ => (dg_nm 3 sc.nd)) (fun _ _ _ _ _ => dq_nil) (fun _ _ _ _ _ => (de_callP (m := .any) (mr := .xc) c_loose (hr.mono (by decide)) passL (da_cons (de_look 0) (da_cons (de_callTy v_tuple b_tuple (da_cons (DE.weak (m' := .any) (de_callP (m := (.sh false)) (mr := (.sh false)) c_mixed (hr.mono (by decide)) passL (da_cons (DE.weak (m' := (.sh false)) (de_var (m := .atom) 0 rfl) (.atom _)) (da_cons (DE.weak (m' := (.sh false)) (de_callTy v_list b_list (da_cons (de_var (m := (.sh false)) 3 rfl) da_nil)) .ow_o) da_nil))) (.any _)) da_nil)) da_nil)))) rfl (by exact fun q => by cases q)) (dss_one (ds_pre (Γ1 := [.atom, (.sh false), (.sh true), .atom]) (ds_retR (dr_de (de_makeP (m := .any) c_Land (hr.mono (by decide)) (passes_call (takes_of rfl rfl rfl rfl) (fun _ _ _ _ h => h)) (da_cons (DE.weak (m' := .any) (de_callP (m := .any) (mr := .xc) c_loose (hr.mono (by decide)) (passes_call (takes_of rfl rfl rfl rfl) (fun _ _ _ _ h => h)) (da_cons (de_look 0) (da_cons (DE.weak (m' := .any) (de_callP (m := (.sh false)) (mr := (.sh false)) c_mixed (hr.mono (by decide)) (passes_call (takes_of rfl rfl rfl rfl) (fun _ _ _ _ h => h)) (da_cons (DE.weak (m' := (.sh false)) (de_var (m := .atom) 0 rfl) (.atom _)) (da_cons (de_ix (un64 hr) (de_var (m := (.sh false)) 1 rfl) (DE.weak (m' := .any) de_int (.any _))) da_nil))) (.any _)) da_nil))) (.any _)) (da_cons (DE.weak (m' := .any) (de_callP (m := .any) (mr := .xc) c_loose (hr.mono (by decide)) (passes_call (takes_of rfl rfl rfl rfl) (fun _ _ _ _ h => h)) (da_cons (de_look 0) (da_cons (DE.weak (m' := .any) (de_callP (m := (.sh true)) (mr := (.sh false)) c_mixed (hr.mono (by decide)) (passes_call (takes_of rfl rfl rfl rfl) (fun _ _ _ _ h => h)) (da_cons (DE.weak (m' := (.sh true)) (de_var (m := .atom) 0 rfl) (.atom _)) (da_cons (de_var (m := (.sh true)) 2 rfl) da_nil))) (.any _)) da_nil))) (.any _)) da_nil))) .xcxc)))))
theorem ok_check_land {f : Addr} {fd : FuncData} (Fu : L2.Fun K "check_land" "check_land" s_check_land f fd)  : FnD T P w K mg base 1 f fd ["land"] .atom pr_check_land := by
  refine FnD.mkA (as := [false]) (Γ2 := [(.sh false)]) (Γb := [(.sh false)]) Fu sc_check_land (.atom _ (.inl rfl)) (fun cdv A outer sh H E hr => ?_)
  have sc := sc_check_land
  exact (dss_one (ds_if (dt_not (dt_val (de_isi O b_isinstance (cn_o 0 g_Land) (de_look 0)))) (dss_one ds_fail) dss_nil))
theorem ok_crossing_of {f : Addr} {fd : FuncData} (Fu : L2.Fun K "crossing_of" "crossing_of" s_crossing_of f fd)  : FnD T P w K mg base 1 f fd ["land", "parting"] (.ow .e) pr_crossing_of := by
  refine FnD.mkA (as := [false, false]) (Γ2 := [(.sh false), (.sh false), .atom, .atom, .atom, .atom, .atom, .atom, .atom]) (Γb := [(.sh false), (.sh false), .atom, .atom, .atom, .atom, .atom, .atom, .atom]) Fu sc_crossing_of (.atom _ (.inr (.inl rfl))) (fun cdv A outer sh H E hr => ?_)
  have sc := sc_crossing_of
  exact (dss_cons (ds_set 2 (de_dc2 (own := [("index", 4), ("some", 5), ("town", 3)]) (vs1 := [3]) rfl sc.nd (blkOk_by (by first | rfl | decide +kernel)) (by decide) (di_enum b_enumerate (de_var (m := (.sh false)) 1 rfl)) rfl (.inl ⟨rfl, rfl, .inr ⟨_, rfl⟩⟩) (fun _ _ _ _ _ => (dg_seq rfl (dgs_cons (dg_nm 4 sc.nd) (dgs_cons (dg_nm 5 sc.nd) dgs_nil)))) (fun _ _ _ _ _ => dq_nil) (by decide) (by decide) (fun _ _ _ _ _ => (di_seq (de_var (m := (.sh false)) 5 rfl))) rfl (by exact fun q => by cases q) (.inl ⟨rfl, rfl, .inr ⟨_, rfl⟩⟩) (fun _ _ _ _ _ => (dg_nm 3 sc.nd)) (fun _ _ _ _ _ => dq_nil) (fun _ _ _ _ _ => (de_look 3)) (fun _ _ _ _ _ => (de_var (m := (.sh false)) 4 rfl)) rfl rfl (by exact fun q => by cases q)) sc.nd) (dss_one (ds_retR (dr_de (de_fzk (de_lc (own := [("road", 6), ("one", 7), ("other", 8)]) rfl sc.nd (blkOk_by (by first | rfl | decide +kernel)) (by decide) (di_enum b_enumerate (de_fld O.cls N_own_roads (de_var (m := (.sh false)) 0 rfl))) rfl (.inl ⟨rfl, rfl, .inr ⟨_, rfl⟩⟩) (fun _ _ _ _ _ => (dg_seq rfl (dgs_cons (dg_nm 6 sc.nd) (dgs_cons (dg_seq rfl (dgs_cons (dg_nm 7 sc.nd) (dgs_cons (dg_nm 8 sc.nd) dgs_nil))) dgs_nil)))) (fun _ _ _ _ _ => (dq_one (dt_cmp (m := .any) (v_ne (un64 hr)) (de_ix (un64 hr) (de_look 2) (de_look 7)) (de_ix (un64 hr) (de_look 2) (de_look 8))))) (fun _ _ _ _ _ => (de_var (m := (.sh false)) 6 rfl)) rfl (by exact fun q => by cases q))) .ee))))
end
end Lk
end
section
set_option autoImplicit false
set_option maxHeartbeats 4000000
namespace Lk
open PySem PySem.Spec L2 DL
abbrev s_grown_by : Stmt := top 17
theorem sc_grown_by : FnScope ["lists", "town", "found", "at"] ["lists", "town"] (defScope s_grown_by) := ⟨rfl, rfl, rfl, by decide +kernel, rfl, by decide +kernel, by decide +kernel⟩
abbrev s_partings_of : Stmt := top 16
theorem sc_partings_of : FnScope ["land", "found", "town", "some", "more"] ["land"] (defScope s_partings_of) := ⟨rfl, rfl, rfl, by decide +kernel, rfl, by decide +kernel, by decide +kernel⟩
abbrev s_least_spare : Stmt := top 18
theorem sc_least_spare : FnScope ["land", "found", "parting", "number"] ["land"] (defScope s_least_spare) := ⟨rfl, rfl, rfl, by decide +kernel, rfl, by decide +kernel, by decide +kernel⟩
abbrev s_nights : Stmt := top 19
theorem sc_nights : FnScope ["land", "found"] ["land"] (defScope s_nights) := ⟨rfl, rfl, rfl, by decide +kernel, rfl, by decide +kernel, by decide +kernel⟩
abbrev s_worst_nights : Stmt := top 20
theorem sc_worst_nights : FnScope ["land", "found"] ["land"] (defScope s_worst_nights) := ⟨rfl, rfl, rfl, by decide +kernel, rfl, by decide +kernel, by decide +kernel⟩
section
variable {P : Program} {w : World} {K : PySem.W.Frag} {mg : Str → Option Value} {base : Heap} {T : Cfg}
variable (O : KO T K) (b_len : mg "len" = none) (b_range : mg "range" = none) (c_LETTERS : ∃ t, mg "LETTERS" = some (.str "abcdefghijklmnopqrstuvwxyz" t)) (g_Land : mg "Land" = some (.ref (T.cls 0))) (N_own_towns : ∀ c, NoAttr K (T.cls c) "own_towns") (N_own_roads : ∀ c, NoAttr K (T.cls c) "own_roads")
include O b_len b_range c_LETTERS g_Land N_own_towns N_own_roads
theorem ok_grown_by {f : Addr} {fd : FuncData} (Fu : L2.Fun K "grown_by" "grown_by" s_grown_by f fd)  : FnD T P w K mg base 1 f fd ["lists", "town"] (.sh false) pr_grown_by := by
  refine FnD.mkA (as := [false, false]) (Γ2 := [(.sh false), (.sh false), .atom, .atom]) (Γb := [(.sh false), (.sh false), .atom, .atom]) Fu sc_grown_by (.atom _ (.inr (.inr (.inr rfl)))) (fun cdv A outer sh H E hr => ?_)
  have sc := sc_grown_by
  exact (dss_cons (ds_setLc 2 rfl sc.nd (sw_true rfl rfl rfl rfl) (own := [("at", 3)]) (blkOk_by (by first | rfl | decide +kernel)) (by decide) (di_range1 b_range (de_callB v_len b_len (da_cons (de_look 0) da_nil))) rfl (.inl ⟨rfl, rfl, .inl rfl⟩) (fun _ _ _ _ _ => (dg_nm 3 sc.nd)) (fun _ _ _ _ _ => dq_nil) (fun _ _ _ _ _ => (DE.weak (m' := (.sh false)) (de_lst (da_star (DE.weak (m' := (.sh false)) (de_sl v_slL (de_var (m := (.sh false)) 0 rfl) dp_no (dp_some (de_look 3))) .ow_o) (da_cons (DE.weak (m' := (.sh false)) (de_lst (da_star (de_ix (un64 hr) (de_var (m := (.sh false)) 0 rfl) (de_look 3)) (da_cons (de_var (m := (.sh false)) 1 rfl) da_nil))) .ow_o) (da_star (DE.weak (m' := (.sh false)) (de_sl v_slL (de_var (m := (.sh false)) 0 rfl) (dp_some (de_op (m := .any) v_add (de_look 3) (DE.weak (m' := .any) de_int (.any _)))) dp_no) .ow_o) da_nil)))) .ow_o)) rfl (by exact fun q => by cases q)) (dss_one (ds_pre (Γ1 := [(.sh false), (.sh false), (.sh false), .atom]) (ds_retR (dr_de (de_lst (da_star (de_var (m := (.sh false)) 2 rfl) (da_cons (DE.weak (m' := (.sh false)) (de_lst (da_star (de_var (m := (.sh false)) 0 rfl) (da_cons (DE.weak (m' := (.sh false)) (de_lst (da_cons (de_var (m := (.sh false)) 1 rfl) da_nil)) .ow_o) da_nil))) .ow_o) da_nil))) (.sh _ .ow_o))))))
theorem ok_partings_of {f : Addr} {fd : FuncData} (Fu : L2.Fun K "partings_of" "partings_of" s_partings_of f fd) (c_grown_by : Cal T P w K mg base 1 "grown_by" ["lists", "town"] (.sh false) pr_grown_by) : FnD T P w K mg base 2 f fd ["land"] .xc pr_partings_of := by
  refine FnD.mkA (as := [false]) (Γ2 := [(.sh false), .atom, .atom, .atom, .atom]) (Γb := [(.sh false), .atom, .atom, .atom, .atom]) Fu sc_partings_of (.atom _ (.inr (.inr (.inl rfl)))) (fun cdv A outer sh H E hr => ?_)
  have sc := sc_partings_of
  exact (dss_cons (ds_set 1 (de_lst (da_cons (DE.weak (m' := .xc) (de_lst (da_nil (m := .atom))) .ow_xc) da_nil)) sc.nd) (dss_cons (ds_for (ΓL := [(.sh false), (.sh true), .atom, .atom, .atom]) (di_seq (de_fld O.cls N_own_towns (de_var (m := (.sh false)) 0 rfl))) (.inr ⟨_, rfl⟩) (.inr ⟨rfl, rfl⟩) (dg_nm 2 sc.nd) (dss_post (Γ2 := [(.sh false), (.sh true), .atom, .atom, .atom]) (dss_one (ds_setLc2 1 rfl sc.nd (sw_true rfl rfl rfl rfl) (own := [("some", 3), ("more", 4)]) (vs1 := [4]) (blkOk_by (by first | rfl | decide +kernel)) (by decide) (di_seq (de_var (m := (.sh true)) 1 rfl)) rfl (.inl ⟨rfl, rfl, .inr ⟨_, rfl⟩⟩) (fun _ _ _ _ _ => (dg_nm 3 sc.nd)) (fun _ _ _ _ _ => dq_nil) (by decide) (by decide) (fun _ _ _ _ _ => (di_seq (de_callP (m := (.sh true)) (mr := (.sh false)) c_grown_by (hr.mono (by decide)) passL (da_cons (de_var (m := (.sh true)) 3 rfl) (da_cons (DE.weak (m' := (.sh true)) (de_var (m := .atom) 2 rfl) (.atom _)) da_nil))))) rfl (by exact fun q => by cases q) (.inl ⟨rfl, rfl, .inr ⟨_, rfl⟩⟩) (fun _ _ _ _ _ => (dg_nm 4 sc.nd)) (fun _ _ _ _ _ => dq_nil) (fun _ _ _ _ _ => (de_var (m := (.sh true)) 4 rfl)) rfl (by exact fun q => by cases q)))) rfl rfl rfl (passes_of rfl)) (dss_one (ds_retR (dr_de (de_lc (own := [("some", 3)]) rfl sc.nd (blkOk_by (by first | rfl | decide +kernel)) (by decide) (di_seq (de_var (m := (.sh true)) 1 rfl)) rfl (.inl ⟨rfl, rfl, .inr ⟨_, rfl⟩⟩) (fun _ _ _ _ _ => (dg_nm 3 sc.nd)) (fun _ _ _ _ _ => (dq_one (dt_cmp (m := .atom) v_gt (de_callB v_len b_len (da_cons (de_look 3) da_nil)) de_int))) (fun _ _ _ _ _ => (de_var (m := (.sh true)) 3 rfl)) rfl (by exact fun q => by cases q)) .nxc)))))
theorem ok_least_spare {f : Addr} {fd : FuncData} (Fu : L2.Fun K "least_spare" "least_spare" s_least_spare f fd) (c_partings_of : Cal T P w K mg base 2 "partings_of" ["land"] .xc pr_partings_of) (c_crossing_of : Cal T P w K mg base 1 "crossing_of" ["land", "parting"] (.ow .e) pr_crossing_of) : FnD T P w K mg base 3 f fd ["land"] .xc pr_least_spare := by
  refine FnD.mkA (as := [false]) (Γ2 := [(.sh false), .atom, .atom, .atom]) (Γb := [(.sh false), .atom, .atom, .atom]) Fu sc_least_spare (.atom _ (.inr (.inr (.inl rfl)))) (fun cdv A outer sh H E hr => ?_)
  have sc := sc_least_spare
  exact (dss_cons (ds_set 1 de_non sc.nd) (dss_cons (ds_for (ΓL := [(.sh false), (.sh true), (.sh true), .atom]) (di_seq (DE.weak (m' := (.sh true)) (de_callP (m := .any) (mr := .xc) c_partings_of (hr.mono (by decide)) (passes_call (takes_of rfl rfl rfl rfl) (fun _ _ _ _ h => h)) (da_cons (de_look 0) da_nil)) (.xc_sh _))) (.inr ⟨_, rfl⟩) (.inl ⟨rfl, rfl, .inr ⟨_, rfl⟩⟩) (dg_nm 2 sc.nd) (dss_cons (ds_set 3 (de_op (m := .atom) v_sub (de_callB v_len b_len (da_cons (DE.weak (m' := .any) (de_callP (m := .any) (mr := (.ow .e)) c_crossing_of (hr.mono (by decide)) (passes_call (takes_of rfl rfl rfl rfl) (fun _ _ _ _ h => h)) (da_cons (de_look 0) (da_cons (de_look 2) da_nil))) (.any _)) da_nil)) (de_op (m := .atom) v_mul de_int (de_op (m := .atom) v_sub (de_callB v_len b_len (da_cons (de_look 2) da_nil)) de_int))) sc.nd) (dss_one (ds_if (DW.dt (dw_or (dt_cmp (m := .any) v_isN (de_look 1) (DE.weak (m' := .any) de_non (.any _))) (dw_or1 (dt_cmp (m := .any) v_lt (de_look 3) (de_ix (un64 hr) (de_look 1) (DE.weak (m' := .any) de_int (.any _))))))) (dss_one (ds_set 1 (de_tup (da_cons (DE.weak (m' := (.sh true)) (de_var (m := .atom) 3 rfl) (.atom _)) (da_cons (de_var (m := (.sh true)) 2 rfl) da_nil))) sc.nd)) dss_nil))) rfl rfl rfl (passes_of rfl)) (dss_one (ds_retR (dr_var (m := (.sh true)) 1 rfl .nwxc)))))
theorem ok_nights {f : Addr} {fd : FuncData} (Fu : L2.Fun K "nights" "nights" s_nights f fd) (c_check_land : Cal T P w K mg base 1 "check_land" ["land"] .atom pr_check_land) (c_least_spare : Cal T P w K mg base 3 "least_spare" ["land"] .xc pr_least_spare) : FnD T P w K mg base 4 f fd ["land"] .atom pr_nights := by
  refine FnD.mkA (as := [false]) (Γ2 := [(.sh false), .atom]) (Γb := [(.sh false), .atom]) Fu sc_nights (.atom _ (.inl rfl)) (fun cdv A outer sh H E hr => ?_)
  have sc := sc_nights
  exact (dss_cons (ds_do (de_callP (m := .any) (mr := .atom) c_check_land (hr.mono (by decide)) (passes_call (takes_of rfl rfl rfl rfl) (fun _ _ _ _ h => h)) (da_cons (de_look 0) da_nil))) (dss_cons (ds_set 1 (de_callP (m := .any) (mr := .xc) c_least_spare (hr.mono (by decide)) (passes_call (takes_of rfl rfl rfl rfl) (fun _ _ _ _ h => h)) (da_cons (de_look 0) da_nil)) sc.nd) (dss_one (ds_retR (dr_if (DW.dt (dw_and (dt_cmp (m := .any) v_isNN (de_look 1) (DE.weak (m' := .any) de_non (.any _))) (dw_and1 (dt_cmp (m := .atom) v_ge (de_ixA (un64 hr) (de_look 1) (DE.weak (m' := .any) de_int (.any _))) de_int)))) (dr_de (de_ixA (un64 hr) (de_look 1) (DE.weak (m' := .any) de_int (.any _))) (.atom _ (.inl rfl))) (dr_de de_non (.atom _ (.inl rfl))))))))
theorem ok_worst_nights {f : Addr} {fd : FuncData} (Fu : L2.Fun K "worst_nights" "worst_nights" s_worst_nights f fd) (c_check_land : Cal T P w K mg base 1 "check_land" ["land"] .atom pr_check_land) (c_least_spare : Cal T P w K mg base 3 "least_spare" ["land"] .xc pr_least_spare) : FnD T P w K mg base 4 f fd ["land"] .xc pr_worst_nights := by
  refine FnD.mkA (as := [false]) (Γ2 := [(.sh false), .atom]) (Γb := [(.sh false), .atom]) Fu sc_worst_nights (.atom _ (.inr (.inr (.inl rfl)))) (fun cdv A outer sh H E hr => ?_)
  have sc := sc_worst_nights
  exact (dss_cons (ds_do (de_callP (m := .any) (mr := .atom) c_check_land (hr.mono (by decide)) (passes_call (takes_of rfl rfl rfl rfl) (fun _ _ _ _ h => h)) (da_cons (de_look 0) da_nil))) (dss_cons (ds_set 1 (de_callP (m := .any) (mr := .xc) c_least_spare (hr.mono (by decide)) (passes_call (takes_of rfl rfl rfl rfl) (fun _ _ _ _ h => h)) (da_cons (de_look 0) da_nil)) sc.nd) (dss_one (ds_pre (Γ1 := [(.sh false), (.sh true)]) (ds_retR (dr_if (DW.dt (dw_and (dt_cmp (m := .any) v_isNN (de_look 1) (DE.weak (m' := .any) de_non (.any _))) (dw_and1 (dt_cmp (m := .any) v_ge (de_ix (un64 hr) (de_look 1) (DE.weak (m' := .any) de_int (.any _))) (DE.weak (m' := .any) de_int (.any _)))))) (dr_de (de_ix (un64 hr) (de_var (m := (.sh true)) 1 rfl) (DE.weak (m' := .any) de_int (.any _))) .nwxc) (dr_de de_non (.atom _ (.inr (.inr (.inl rfl)))))))))))
end
end Lk
end
section
set_option autoImplicit false
set_option maxHeartbeats 4000000
namespace Lk
open PySem PySem.Spec L2 DL
abbrev s_Land_towns : Stmt := inClass (top 12) 2
theorem sc_Land_towns : FnScope ["self"] ["self"] (defScope s_Land_towns) := ⟨rfl, rfl, rfl, by decide +kernel, rfl, by decide +kernel, by decide +kernel⟩
abbrev s_Land_roads : Stmt := inClass (top 12) 3
theorem sc_Land_roads : FnScope ["self"] ["self"] (defScope s_Land_roads) := ⟨rfl, rfl, rfl, by decide +kernel, rfl, by decide +kernel, by decide +kernel⟩
abbrev s_crossing : Stmt := top 31
theorem sc_crossing : FnScope ["land", "parting", "place", "at", "some", "town", "k", "road"] ["land", "parting"] (defScope s_crossing) := ⟨rfl, rfl, rfl, by decide +kernel, rfl, by decide +kernel, by decide +kernel⟩
abbrev s_partings : Stmt := top 32
theorem sc_partings : FnScope ["things", "found", "one", "more", "some", "at"] ["things"] (defScope s_partings) := ⟨rfl, rfl, rfl, by decide +kernel, rfl, by decide +kernel, by decide +kernel⟩
abbrev s_is_parting : Stmt := top 33
theorem sc_is_parting : FnScope ["land", "thing", "some", "towns", "town"] ["land", "thing"] (defScope s_is_parting) := ⟨rfl, rfl, rfl, by decide +kernel, rfl, by decide +kernel, by decide +kernel⟩
abbrev s_is_split : Stmt := top 34
theorem sc_is_split : FnScope ["land", "stand", "thing", "across", "k"] ["land", "stand", "thing"] (defScope s_is_split) := ⟨rfl, rfl, rfl, by decide +kernel, rfl, by decide +kernel, by decide +kernel⟩
abbrev s_spare : Stmt := top 38
theorem sc_spare : FnScope ["land", "parting"] ["land", "parting"] (defScope s_spare) := ⟨rfl, rfl, rfl, by decide +kernel, rfl, by decide +kernel, by decide +kernel⟩
section
variable {P : Program} {w : World} {K : PySem.W.Frag} {mg : Str → Option Value} {base : Heap} {T : Cfg}
variable (O : KO T K) (b_all : mg "all" = none) (b_any : mg "any" = none) (b_dict : mg "dict" = none) (b_enumerate : mg "enumerate" = none) (b_isinstance : mg "isinstance" = none) (b_len : mg "len" = none) (b_list : mg "list" = none) (b_range : mg "range" = none) (b_sorted : mg "sorted" = none) (b_str : mg "str" = none) (b_tuple : mg "tuple" = none) (c_LETTERS : ∃ t, mg "LETTERS" = some (.str "abcdefghijklmnopqrstuvwxyz" t)) (g_Land : mg "Land" = some (.ref (T.cls 0))) (N_own_towns : ∀ c, NoAttr K (T.cls c) "own_towns") (N_own_roads : ∀ c, NoAttr K (T.cls c) "own_roads")
include O b_all b_any b_dict b_enumerate b_isinstance b_len b_list b_range b_sorted b_str b_tuple c_LETTERS g_Land N_own_towns N_own_roads
theorem ok_Land_towns {f : Addr} {fd : FuncData} (Fu : L2.Fun K "towns" "Land.towns" s_Land_towns f fd)  : FnD T P w K mg base 1 f fd ["self"] (.ow .e) pr_Land_towns := by
  refine FnD.mkA (as := [false]) (Γ2 := [(.sh false)]) (Γb := [(.sh false)]) Fu sc_Land_towns (.atom _ (.inr (.inl rfl))) (fun cdv A outer sh H E hr => ?_)
  have sc := sc_Land_towns
  exact (dss_one (ds_retR (dr_de (de_fzk (de_callTy v_list b_list (da_cons (de_fld O.cls N_own_towns (de_var (m := (.sh false)) 0 rfl)) da_nil))) .ee)))
theorem ok_Land_roads {f : Addr} {fd : FuncData} (Fu : L2.Fun K "roads" "Land.roads" s_Land_roads f fd)  : FnD T P w K mg base 1 f fd ["self"] (.ow .e) pr_Land_roads := by
  refine FnD.mkA (as := [false]) (Γ2 := [(.sh false)]) (Γb := [(.sh false)]) Fu sc_Land_roads (.atom _ (.inr (.inl rfl))) (fun cdv A outer sh H E hr => ?_)
  have sc := sc_Land_roads
  exact (dss_one (ds_retR (dr_de (de_fzk (de_callTy v_list b_list (da_cons (de_fld O.cls N_own_roads (de_var (m := (.sh false)) 0 rfl)) da_nil))) .ee)))
theorem ok_crossing {f : Addr} {fd : FuncData} (Fu : L2.Fun K "_law_crossing" "_law_crossing" s_crossing f fd)  : FnD T P w K mg base 1 f fd ["land", "parting"] (.ow .e) pr_crossing := by
  refine FnD.mkA (as := [false, false]) (Γ2 := [(.sh false), (.sh false), .atom, .atom, .atom, .atom, .atom, .atom]) (Γb := [(.sh false), (.sh false), .atom, .atom, .atom, .atom, .atom, .atom]) Fu sc_crossing (.atom _ (.inr (.inl rfl))) (fun cdv A outer sh H E hr => ?_)
  have sc := sc_crossing
  exact (dss_cons (ds_set 2 de_dicK sc.nd) (dss_cons (ds_for (ΓL := [(.sh false), (.sh false), (.ow .e), (.sh false), (.sh false), .atom, .atom, .atom]) (di_enum b_enumerate (de_var (m := (.sh false)) 1 rfl)) (.inr ⟨_, rfl⟩) (.inl ⟨rfl, rfl, .inr ⟨_, rfl⟩⟩) (dg_seq rfl (dgs_cons (dg_nm 3 sc.nd) (dgs_cons (dg_nm 4 sc.nd) dgs_nil))) (dss_one (ds_upd 2 .e rfl rfl (DE.weak (m' := .xc) (de_callTy (v_dict rfl) b_dict (da_cons (DE.weak (m' := .xc) (de_lc (own := [("town", 5)]) rfl sc.nd (blkOk_by (by first | rfl | decide +kernel)) (by decide) (di_seq (de_var (m := (.sh false)) 4 rfl)) rfl (.inl ⟨rfl, rfl, .inr ⟨_, rfl⟩⟩) (fun _ _ _ _ _ => (dg_nm 5 sc.nd)) (fun _ _ _ _ _ => dq_nil) (fun _ _ _ _ _ => (de_tup (da_cons (de_fz (de_look 5)) (da_cons (de_fz (de_look 3)) da_nil)))) rfl (by exact fun q => by cases q)) .ow_xc) da_nil)) .ow_xc))) rfl rfl rfl (passes_of rfl)) (dss_one (ds_retR (dr_de (de_fzk (de_lc (own := [("k", 6), ("road", 7)]) rfl sc.nd (blkOk_by (by first | rfl | decide +kernel)) (by decide) (di_enum b_enumerate (de_ix (un64 hr) (de_var (m := (.sh false)) 0 rfl) (DE.weak (m' := .any) de_int (.any _)))) rfl (.inl ⟨rfl, rfl, .inr ⟨_, rfl⟩⟩) (fun _ _ _ _ _ => (dg_seq rfl (dgs_cons (dg_nm 6 sc.nd) (dgs_cons (dg_nm 7 sc.nd) dgs_nil)))) (fun _ _ _ _ _ => (dq_one (dt_cmp (m := .any) (v_ne (un64 hr)) (de_ix (un64 hr) (de_look 2) (de_ix (un64 hr) (de_look 7) (DE.weak (m' := .any) de_int (.any _)))) (de_ix (un64 hr) (de_look 2) (de_ix (un64 hr) (de_look 7) (DE.weak (m' := .any) de_int (.any _))))))) (fun _ _ _ _ _ => (de_var (m := (.sh false)) 6 rfl)) rfl (by exact fun q => by cases q))) .ee)))))
theorem ok_partings {f : Addr} {fd : FuncData} (Fu : L2.Fun K "_law_partings" "_law_partings" s_partings f fd)  : FnD T P w K mg base 1 f fd ["things"] .xc pr_partings := by
  refine FnD.mkA (as := [false]) (Γ2 := [(.sh false), .atom, .atom, .atom, .atom, .atom]) (Γb := [(.sh false), .atom, .atom, .atom, .atom, .atom]) Fu sc_partings (.atom _ (.inr (.inr (.inl rfl)))) (fun cdv A outer sh H E hr => ?_)
  have sc := sc_partings
  exact (dss_cons (ds_set 1 (de_lst (da_cons (DE.weak (m' := .xc) (de_lst (da_nil (m := .atom))) .ow_xc) da_nil)) sc.nd) (dss_cons (ds_for (ΓL := [(.sh false), (.sh true), .atom, (.sh true), (.sh true), .atom]) (di_seq (de_var (m := (.sh false)) 0 rfl)) (.inr ⟨_, rfl⟩) (.inr ⟨rfl, rfl⟩) (dg_nm 2 sc.nd) (dss_cons (ds_set 3 (de_lst (da_nil (m := (.sh true)))) sc.nd) (dss_cons (ds_for (ΓL := [(.sh false), (.sh true), .atom, (.ow .n), (.sh true), .atom]) (di_seq (de_var (m := (.sh true)) 1 rfl)) (.inr ⟨_, rfl⟩) (.inl ⟨rfl, rfl, .inr ⟨_, rfl⟩⟩) (dg_nm 4 sc.nd) (dss_cons (ds_extend 3 .n rfl rfl (DE.weak (m' := (.sh true)) (de_lc (own := [("at", 5)]) rfl sc.nd (blkOk_by (by first | rfl | decide +kernel)) (by decide) (di_range1 b_range (de_callB v_len b_len (da_cons (de_look 4) da_nil))) rfl (.inl ⟨rfl, rfl, .inl rfl⟩) (fun _ _ _ _ _ => (dg_nm 5 sc.nd)) (fun _ _ _ _ _ => dq_nil) (fun _ _ _ _ _ => (DE.weak (m' := (.sh true)) (de_op v_cat (DE.weak (m' := (.sh true)) (de_op v_cat (DE.weak (m' := (.sh true)) (de_sl v_slL (de_var (m := (.sh true)) 4 rfl) dp_no (dp_some (de_look 5))) (.ow_n _)) (DE.weak (m' := (.sh true)) (de_lst (da_cons (DE.weak (m' := (.sh true)) (de_op v_cat (de_ix (un64 hr) (de_var (m := (.sh true)) 4 rfl) (de_look 5)) (DE.weak (m' := (.sh true)) (de_lst (da_cons (de_var (m := .atom) 2 rfl) da_nil)) (.ow_e _))) (.ow_n _)) da_nil)) (.ow_n _))) (.ow_n _)) (DE.weak (m' := (.sh true)) (de_sl v_slL (de_var (m := (.sh true)) 4 rfl) (dp_some (de_op (m := .any) v_add (de_look 5) (DE.weak (m' := .any) de_int (.any _)))) dp_no) (.ow_n _))) (.ow_n _))) rfl (by exact fun q => by cases q)) (.ow_n _))) (dss_one (ds_app 3 .n rfl rfl (DE.weak (m' := (.sh true)) (de_op v_cat (de_var (m := (.sh true)) 4 rfl) (DE.weak (m' := (.sh true)) (de_lst (da_cons (DE.weak (m' := .xc) (de_lst (da_cons (de_var (m := .atom) 2 rfl) da_nil)) .ow_xc) da_nil)) (.ow_e _))) (.ow_n _))))) rfl rfl rfl (passes_of rfl)) (dss_one (ds_pre (Γ1 := [(.sh false), (.sh true), .atom, (.sh true), (.sh true), .atom]) (ds_set 1 (de_var (m := (.sh true)) 3 rfl) sc.nd))))) rfl rfl rfl (passes_of rfl)) (dss_one (ds_retR (dr_var (m := (.sh true)) 1 rfl .nwxc)))))
theorem ok_is_parting {f : Addr} {fd : FuncData} (Fu : L2.Fun K "_law_is_parting" "_law_is_parting" s_is_parting f fd)  : FnD T P w K mg base 1 f fd ["land", "thing"] .atom pr_is_parting := by
  refine FnD.mkA (as := [false, false]) (Γ2 := [(.sh false), (.sh false), .atom, .atom, .atom]) (Γb := [(.sh false), (.sh false), .atom, .atom, .atom]) Fu sc_is_parting (.atom _ (.inl rfl)) (fun cdv A outer sh H E hr => ?_)
  have sc := sc_is_parting
  exact (dss_cons (ds_if (DW.dt (dw_or (dt_not (dt_val (de_isi2 O b_isinstance (cn_b .list b_list) (cn_b .tuple b_tuple) (de_look 1)))) (dw_or1 (dt_not (dt_val (de_callB (v_all rfl) b_all (da_cons (DE.weak (m' := .any) (de_lc (own := [("some", 2)]) rfl sc.nd (blkOk_by (by first | rfl | decide +kernel)) (by decide) (di_seq (de_var (m := (.sh false)) 1 rfl)) rfl (.inl ⟨rfl, rfl, .inr ⟨_, rfl⟩⟩) (fun _ _ _ _ _ => (dg_nm 2 sc.nd)) (fun _ _ _ _ _ => dq_nil) (fun _ _ _ _ _ => (de_and (de_isi2 O b_isinstance (cn_b .list b_list) (cn_b .tuple b_tuple) (de_look 2)) (de_one (de_cmp (m := .atom) v_gt (de_callB v_len b_len (da_cons (de_look 2) da_nil)) de_int)))) rfl (by exact fun q => by cases q)) (.any _)) da_nil))))))) (dss_one (ds_retR (dr_de de_bl (.atom _ (.inl rfl))))) dss_nil) (dss_cons (ds_set 3 (de_lst (da_nil (m := (.sh false)))) sc.nd) (dss_cons (ds_for (ΓL := [(.sh false), (.sh false), (.sh false), (.ow .o), .atom]) (di_seq (de_var (m := (.sh false)) 1 rfl)) (.inr ⟨_, rfl⟩) (.inl ⟨rfl, rfl, .inr ⟨_, rfl⟩⟩) (dg_nm 2 sc.nd) (dss_cons (ds_extend 3 .o rfl rfl (DE.weak (m' := (.sh false)) (de_callTy v_list b_list (da_cons (de_var (m := (.sh false)) 2 rfl) da_nil)) .ow_o)) (dss_one (ds_if (dt_cmp (m := .any) (v_ne (un64 hr)) (DE.weak (m' := .any) (de_callTy v_list b_list (da_cons (de_var (m := (.sh false)) 2 rfl) da_nil)) (.any _)) (DE.weak (m' := .any) (de_callB (v_sorted (un64 hr)) b_sorted (da_cons (DE.weak (m' := (.sh false)) (de_lc (own := [("town", 4)]) rfl sc.nd (blkOk_by (by first | rfl | decide +kernel)) (by decide) (di_seq (de_var (m := (.sh false)) 2 rfl)) rfl (.inl ⟨rfl, rfl, .inr ⟨_, rfl⟩⟩) (fun _ _ _ _ _ => (dg_nm 4 sc.nd)) (fun _ _ _ _ _ => (dq_one (dt_val (de_isi O b_isinstance (cn_b .str b_str) (de_look 4))))) (fun _ _ _ _ _ => (de_var (m := (.sh false)) 4 rfl)) rfl (by exact fun q => by cases q)) .ow_o) da_nil)) (.any _))) (dss_one (ds_retR (dr_de de_bl (.atom _ (.inl rfl))))) dss_nil))) rfl rfl rfl (passes_of rfl)) (dss_one (ds_pre (Γ1 := [(.sh false), (.sh false), (.sh false), (.sh false), .atom]) (ds_retR (dr_de (de_and (de_cmp (m := .any) (v_eq (un64 hr)) (DE.weak (m' := .any) (de_callB (v_sorted (un64 hr)) b_sorted (da_cons (de_var (m := (.sh false)) 3 rfl) da_nil)) (.any _)) (de_ix (un64 hr) (de_look 0) (DE.weak (m' := .any) de_int (.any _)))) (de_one (de_cmp (m := .any) (v_eq (un64 hr)) (DE.weak (m' := .any) (de_lc (own := [("some", 2)]) rfl sc.nd (blkOk_by (by first | rfl | decide +kernel)) (by decide) (di_seq (de_var (m := (.sh false)) 1 rfl)) rfl (.inl ⟨rfl, rfl, .inr ⟨_, rfl⟩⟩) (fun _ _ _ _ _ => (dg_nm 2 sc.nd)) (fun _ _ _ _ _ => dq_nil) (fun _ _ _ _ _ => (de_ix (un64 hr) (de_var (m := (.sh false)) 2 rfl) (DE.weak (m' := .any) de_int (.any _)))) rfl (by exact fun q => by cases q)) (.any _)) (DE.weak (m' := .any) (de_callB (v_sorted (un64 hr)) b_sorted (da_cons (DE.weak (m' := (.sh false)) (de_lc (own := [("some", 2)]) rfl sc.nd (blkOk_by (by first | rfl | decide +kernel)) (by decide) (di_seq (de_var (m := (.sh false)) 1 rfl)) rfl (.inl ⟨rfl, rfl, .inr ⟨_, rfl⟩⟩) (fun _ _ _ _ _ => (dg_nm 2 sc.nd)) (fun _ _ _ _ _ => dq_nil) (fun _ _ _ _ _ => (de_ix (un64 hr) (de_var (m := (.sh false)) 2 rfl) (DE.weak (m' := .any) de_int (.any _)))) rfl (by exact fun q => by cases q)) .ow_o) da_nil)) (.any _))))) (.atom _ (.inl rfl)))))))))
theorem ok_is_split {f : Addr} {fd : FuncData} (Fu : L2.Fun K "_law_is_split" "_law_is_split" s_is_split f fd) (c_is_parting : Cal T P w K mg base 1 "_law_is_parting" ["land", "thing"] .atom pr_is_parting) (c_crossing : Cal T P w K mg base 1 "_law_crossing" ["land", "parting"] (.ow .e) pr_crossing) : FnD T P w K mg base 2 f fd ["land", "stand", "thing"] .atom pr_is_split := by
  refine FnD.mkA (as := [false, false, false]) (Γ2 := [(.sh false), (.sh false), (.sh false), .atom, .atom]) (Γb := [(.sh false), (.sh false), (.sh false), .atom, .atom]) Fu sc_is_split (.atom _ (.inl rfl)) (fun cdv A outer sh H E hr => ?_)
  have sc := sc_is_split
  exact (dss_cons (ds_if (dt_not (dt_val (de_callP (m := .any) (mr := .atom) c_is_parting (hr.mono (by decide)) (passes_call (takes_of rfl rfl rfl rfl) (fun _ _ _ _ h => h)) (da_cons (de_look 0) (da_cons (de_look 2) da_nil))))) (dss_one (ds_retR (dr_de de_bl (.atom _ (.inl rfl))))) dss_nil) (dss_cons (ds_set 3 (de_callP (m := .any) (mr := (.ow .e)) c_crossing (hr.mono (by decide)) (passes_call (takes_of rfl rfl rfl rfl) (fun _ _ _ _ h => h)) (da_cons (de_look 0) (da_cons (de_look 2) da_nil))) sc.nd) (dss_cons (ds_pre (Γ1 := [(.sh false), (.sh false), (.sh false), (.sh true), .atom]) (ds_if (dt_val (de_callB (v_any rfl) b_any (da_cons (DE.weak (m' := .any) (de_lc (own := [("k", 4)]) rfl sc.nd (blkOk_by (by first | rfl | decide +kernel)) (by decide) (di_seq (de_var (m := (.sh true)) 3 rfl)) rfl (.inl ⟨rfl, rfl, .inr ⟨_, rfl⟩⟩) (fun _ _ _ _ _ => (dg_nm 4 sc.nd)) (fun _ _ _ _ _ => dq_nil) (fun _ _ _ _ _ => (de_cmp (m := .any) (v_in (un64 hr)) (de_look 4) (de_ix (un64 hr) (de_look 1) (DE.weak (m' := .any) de_int (.any _))))) rfl (by exact fun q => by cases q)) (.any _)) da_nil))) (dss_one (ds_retR (dr_de de_bl (.atom _ (.inl rfl))))) dss_nil)) (dss_one (ds_retR (dr_de (de_cmp (m := .atom) v_lt (de_callB v_len b_len (da_cons (DE.weak (m' := .any) (de_lc (own := [("k", 4)]) rfl sc.nd (blkOk_by (by first | rfl | decide +kernel)) (by decide) (di_seq (de_var (m := (.sh true)) 3 rfl)) rfl (.inl ⟨rfl, rfl, .inr ⟨_, rfl⟩⟩) (fun _ _ _ _ _ => (dg_nm 4 sc.nd)) (fun _ _ _ _ _ => (dq_one (dt_cmp (m := .any) (v_nin (un64 hr)) (de_look 4) (de_ix (un64 hr) (de_look 1) (DE.weak (m' := .any) de_int (.any _)))))) (fun _ _ _ _ _ => (de_var (m := (.sh true)) 4 rfl)) rfl (by exact fun q => by cases q)) (.any _)) da_nil)) (de_op (m := .atom) v_mul de_int (de_op (m := .atom) v_sub (de_callB v_len b_len (da_cons (de_look 2) da_nil)) de_int))) (.atom _ (.inl rfl))))))))
theorem ok_spare {f : Addr} {fd : FuncData} (Fu : L2.Fun K "_law_spare" "_law_spare" s_spare f fd) (c_crossing : Cal T P w K mg base 1 "_law_crossing" ["land", "parting"] (.ow .e) pr_crossing) : FnD T P w K mg base 2 f fd ["land", "parting"] .atom pr_spare := by
  refine FnD.mkA (as := [false, false]) (Γ2 := [(.sh false), (.sh false)]) (Γb := [(.sh false), (.sh false)]) Fu sc_spare (.atom _ (.inl rfl)) (fun cdv A outer sh H E hr => ?_)
  have sc := sc_spare
  exact (dss_one (ds_retR (dr_de (de_op (m := .atom) v_sub (de_callB v_len b_len (da_cons (DE.weak (m' := .any) (de_callP (m := .any) (mr := (.ow .e)) c_crossing (hr.mono (by decide)) (passes_call (takes_of rfl rfl rfl rfl) (fun _ _ _ _ h => h)) (da_cons (de_look 0) (da_cons (de_look 1) da_nil))) (.any _)) da_nil)) (de_op (m := .atom) v_mul de_int (de_op (m := .atom) v_sub (de_callB v_len b_len (da_cons (de_look 1) da_nil)) de_int))) (.atom _ (.inl rfl)))))
end
end Lk
end
section
set_option autoImplicit false
set_option maxHeartbeats 4000000
namespace Lk
open PySem PySem.Spec L2 DL
abbrev s_any_land : Stmt := top 36
theorem sc_any_land : FnScope ["stream", "towns", "roads"] ["stream", "towns", "roads"] (defScope s_any_land) := ⟨rfl, rfl, rfl, by decide +kernel, rfl, by decide +kernel, by decide +kernel⟩
abbrev s_thick : Stmt := top 39
theorem sc_thick : FnScope ["stream", "land", "roads", "k"] ["stream"] (defScope s_thick) := ⟨rfl, rfl, rfl, by decide +kernel, rfl, by decide +kernel, by decide +kernel⟩
abbrev s_lots : Stmt := top 40
theorem sc_lots : FnScope ["many", "size", "found", "k", "longer", "lot"] ["many", "size"] (defScope s_lots) := ⟨rfl, rfl, rfl, by decide +kernel, rfl, by decide +kernel, by decide +kernel⟩
abbrev s_bears : Stmt := top 41
theorem sc_bears : FnScope ["land", "size", "lists", "some", "lot"] ["land", "size"] (defScope s_bears) := ⟨rfl, rfl, rfl, by decide +kernel, rfl, by decide +kernel, by decide +kernel⟩
abbrev s_copied : Stmt := top 28
theorem sc_copied : FnScope ["thing", "some", "one", "key"] ["thing"] (defScope s_copied) := ⟨rfl, rfl, rfl, by decide +kernel, rfl, by decide +kernel, by decide +kernel⟩
section
variable {P : Program} {w : World} {K : PySem.W.Frag} {mg : Str → Option Value} {base : Heap} {T : Cfg}
variable (O : KO T K) (b_any : mg "any" = none) (b_dict : mg "dict" = none) (b_isinstance : mg "isinstance" = none) (b_len : mg "len" = none) (b_list : mg "list" = none) (b_range : mg "range" = none) (b_sorted : mg "sorted" = none) (b_tuple : mg "tuple" = none) (c_LETTERS : ∃ t, mg "LETTERS" = some (.str "abcdefghijklmnopqrstuvwxyz" t)) (g_Land : mg "Land" = some (.ref (T.cls 0))) (N_own_towns : ∀ c, NoAttr K (T.cls c) "own_towns") (N_own_roads : ∀ c, NoAttr K (T.cls c) "own_roads")
include O b_any b_dict b_isinstance b_len b_list b_range b_sorted b_tuple c_LETTERS g_Land N_own_towns N_own_roads
theorem ok_any_land {f : Addr} {fd : FuncData} (Fu : L2.Fun K "_law_any_land" "_law_any_land" s_any_land f fd) (c_draw : Cal T P w K mg base 1 "_law_draw" ["stream", "many"] .atom drawF) (c_pick : Cal T P w K mg base 2 "_law_pick" ["stream", "things"] (.sh false) pr_pick) (c_land : Cal T P w K mg base 4 "_law_land" ["stream", "towns", "roads"] (.sh false) pr_land) : FnD T P w K mg base 5 f fd ["stream", "towns", "roads"] (.sh false) pr_any_land := by
  refine FnD.mkA (as := [true, true, true]) (Γ2 := [.atom, .atom, .atom]) (Γb := [.atom, .atom, .atom]) Fu sc_any_land (.atom _ (.inr (.inr (.inr rfl)))) (fun cdv A outer sh H E hr => ?_)
  have sc := sc_any_land
  exact (dss_cons (ds_if (dt_cmp (m := .atom) (v_eq (un64 hr)) (de_callP (m := .any) (mr := .atom) c_draw (hr.mono (by decide)) (passes_call (takes_of rfl rfl rfl rfl) (fun _ _ _ _ h => h)) (da_cons (de_look 0) (da_cons (DE.weak (m' := .any) de_int (.any _)) da_nil))) de_int) (dss_one (ds_retR (dr_de (de_tup (da_cons (DE.weak (m' := .xc) (de_lst (da_cons (de_callP (m := .xc) (mr := (.sh false)) c_pick (hr.mono (by decide)) (passes_call (takes_of rfl rfl rfl rfl) (fun _ _ _ _ h => h)) (da_cons (DE.weak (m' := .xc) (de_var (m := .atom) 0 rfl) (.atom _)) (da_cons (DE.weak (m' := .xc) (de_lst (da_cons de_str (da_cons de_str da_nil))) .ow_xc) da_nil))) da_nil)) .ow_xc) (da_cons (DE.weak (m' := .xc) (de_lst (da_nil (m := .atom))) .ow_xc) da_nil))) (.sh _ (.xc_sh _))))) dss_nil) (dss_one (ds_retR (dr_de (de_callP (m := .atom) (mr := (.sh false)) c_land (hr.mono (by decide)) (passes_call (takes_of rfl rfl rfl rfl) (fun _ _ _ _ h => h)) (da_cons (de_var (m := .atom) 0 rfl) (da_cons (de_var (m := .atom) 1 rfl) (da_cons (de_var (m := .atom) 2 rfl) da_nil)))) (.sh _ (.xc_sh _))))))
theorem ok_thick {f : Addr} {fd : FuncData} (Fu : L2.Fun K "_law_thick" "_law_thick" s_thick f fd) (c_any_land : Cal T P w K mg base 5 "_law_any_land" ["stream", "towns", "roads"] (.sh false) pr_any_land) (c_pick : Cal T P w K mg base 2 "_law_pick" ["stream", "things"] (.sh false) pr_pick) (c_draw : Cal T P w K mg base 1 "_law_draw" ["stream", "many"] .atom drawF) : FnD T P w K mg base 6 f fd ["stream"] (.sh false) pr_thick := by
  refine FnD.mkA (as := [true]) (Γ2 := [.atom, .atom, .atom, .atom]) (Γb := [.atom, .atom, .atom, .atom]) Fu sc_thick (.atom _ (.inr (.inr (.inr rfl)))) (fun cdv A outer sh H E hr => ?_)
  have sc := sc_thick
  exact (dss_cons (ds_set 1 (de_callP (m := .xc) (mr := (.sh false)) c_any_land (hr.mono (by decide)) (passes_call (takes_of rfl rfl rfl rfl) (fun _ _ _ _ h => h)) (da_cons (DE.weak (m' := .xc) (de_var (m := .atom) 0 rfl) (.atom _)) (da_cons (de_callP (m := .xc) (mr := (.sh false)) c_pick (hr.mono (by decide)) (passes_call (takes_of rfl rfl rfl rfl) (fun _ _ _ _ h => h)) (da_cons (DE.weak (m' := .xc) (de_var (m := .atom) 0 rfl) (.atom _)) (da_cons (DE.weak (m' := .xc) (de_lst (da_cons de_int (da_cons de_int (da_cons de_int da_nil)))) .ow_xc) da_nil))) (da_cons (DE.weak (m' := .xc) de_int (.atom _)) da_nil)))) sc.nd) (dss_cons (ds_pre (Γ1 := [.atom, (.sh true), .atom, .atom]) (ds_set 2 (de_callTy v_list b_list (da_cons (de_ix (un64 hr) (de_var (m := (.sh true)) 1 rfl) (DE.weak (m' := .any) de_int (.any _))) da_nil)) sc.nd)) (dss_cons (ds_for (ΓL := [.atom, (.sh true), (.ow .n), .atom]) (di_range1 b_range (de_if (dt_cmp (m := .any) (v_ne (un64 hr)) (de_look 2) (DE.weak (m' := .any) (de_lst (da_nil (m := .atom))) (.any _))) (DE.weak (m' := .any) (de_callP (m := .any) (mr := .atom) c_draw (hr.mono (by decide)) (passes_call (takes_of rfl rfl rfl rfl) (fun _ _ _ _ h => h)) (da_cons (de_look 0) (da_cons (DE.weak (m' := .any) (de_callP (m := .xc) (mr := (.sh false)) c_pick (hr.mono (by decide)) (passes_call (takes_of rfl rfl rfl rfl) (fun _ _ _ _ h => h)) (da_cons (DE.weak (m' := .xc) (de_var (m := .atom) 0 rfl) (.atom _)) (da_cons (DE.weak (m' := .xc) (de_lst (da_cons de_int (da_cons de_int da_nil))) .ow_xc) da_nil))) (.any _)) da_nil))) (.any _)) (DE.weak (m' := .any) de_int (.any _)))) (.inl rfl) (.inl ⟨rfl, rfl, .inl rfl⟩) (dg_nm 3 sc.nd) (dss_one (ds_app 2 .n rfl rfl (de_callP (m := (.sh true)) (mr := (.sh false)) c_pick (hr.mono (by decide)) (passes_call (takes_of rfl rfl rfl rfl) (fun _ _ _ _ h => h)) (da_cons (DE.weak (m' := (.sh true)) (de_var (m := .atom) 0 rfl) (.atom _)) (da_cons (de_ix (un64 hr) (de_var (m := (.sh true)) 1 rfl) (DE.weak (m' := .any) de_int (.any _))) da_nil))))) rfl rfl rfl (passes_of rfl)) (dss_one (ds_pre (Γ1 := [.atom, (.sh true), (.sh true), .atom]) (ds_retR (dr_de (de_tup (da_cons (de_ix (un64 hr) (de_var (m := (.sh true)) 1 rfl) (DE.weak (m' := .any) de_int (.any _))) (da_cons (DE.weak (m' := (.sh true)) (de_callB (v_sorted (un64 hr)) b_sorted (da_cons (de_var (m := (.sh true)) 2 rfl) da_nil)) (.ow_n _)) da_nil))) (.sh _ .sh))))))))
theorem ok_lots {f : Addr} {fd : FuncData} (Fu : L2.Fun K "_law_lots" "_law_lots" s_lots f fd)  : FnD T P w K mg base 1 f fd ["many", "size"] .xc pr_lots := by
  refine FnD.mkA (as := [true, true]) (Γ2 := [.atom, .atom, .atom, .atom, .atom, .atom]) (Γb := [.atom, .atom, .atom, .atom, .atom, .atom]) Fu sc_lots (.atom _ (.inr (.inr (.inl rfl)))) (fun cdv A outer sh H E hr => ?_)
  have sc := sc_lots
  exact (dss_cons (ds_set 2 (de_lst (da_cons (DE.weak (m' := .xc) (de_lst (da_nil (m := .atom))) .ow_xc) da_nil)) sc.nd) (dss_cons (ds_for (ΓL := [.atom, .atom, (.sh true), .atom, (.sh true), (.sh true)]) (di_range1 b_range (de_look 1)) (.inl rfl) (.inl ⟨rfl, rfl, .inl rfl⟩) (dg_nm 3 sc.nd) (dss_cons (ds_set 4 (de_lst (da_nil (m := (.sh true)))) sc.nd) (dss_cons (ds_for (ΓL := [.atom, .atom, (.sh true), .atom, (.ow .n), (.sh true)]) (di_seq (de_var (m := (.sh true)) 2 rfl)) (.inr ⟨_, rfl⟩) (.inl ⟨rfl, rfl, .inr ⟨_, rfl⟩⟩) (dg_nm 5 sc.nd) (dss_one (ds_extend 4 .n rfl rfl (DE.weak (m' := (.sh true)) (de_lc (own := [("k", 3)]) rfl sc.nd (blkOk_by (by first | rfl | decide +kernel)) (by decide) (di_range2 b_range (de_if (dt_cmp (m := .any) (v_ne (un64 hr)) (de_look 5) (DE.weak (m' := .any) (de_lst (da_nil (m := .atom))) (.any _))) (DE.weak (m' := .any) (de_op (m := .atom) v_add (de_ixA (un64 hr) (de_look 5) (DE.weak (m' := .any) (de_un v_neg de_int) (.any _))) de_int) (.any _)) (DE.weak (m' := .any) de_int (.any _))) (de_look 0)) rfl (.inl ⟨rfl, rfl, .inl rfl⟩) (fun _ _ _ _ _ => (dg_nm 3 sc.nd)) (fun _ _ _ _ _ => dq_nil) (fun _ _ _ _ _ => (DE.weak (m' := (.sh true)) (de_op v_cat (de_var (m := (.sh true)) 5 rfl) (DE.weak (m' := (.sh true)) (de_lst (da_cons (de_var (m := .atom) 3 rfl) da_nil)) (.ow_e _))) (.ow_n _))) rfl (by exact fun q => by cases q)) (.ow_n _)))) rfl rfl rfl (passes_of rfl)) (dss_one (ds_pre (Γ1 := [.atom, .atom, (.sh true), .atom, (.sh true), (.sh true)]) (ds_set 2 (de_var (m := (.sh true)) 4 rfl) sc.nd))))) rfl rfl rfl (passes_of rfl)) (dss_one (ds_retR (dr_var (m := (.sh true)) 2 rfl .nwxc)))))
theorem ok_bears {f : Addr} {fd : FuncData} (Fu : L2.Fun K "_law_bears" "_law_bears" s_bears f fd) (c_partings : Cal T P w K mg base 1 "_law_partings" ["things"] .xc pr_partings) (c_lots : Cal T P w K mg base 1 "_law_lots" ["many", "size"] .xc pr_lots) (c_is_split : Cal T P w K mg base 2 "_law_is_split" ["land", "stand", "thing"] .atom pr_is_split) : FnD T P w K mg base 3 f fd ["land", "size"] .atom pr_bears := by
  refine FnD.mkA (as := [false, true]) (Γ2 := [(.sh false), .atom, .atom, .atom, .atom]) (Γb := [(.sh false), .atom, .atom, .atom, .atom]) Fu sc_bears (.atom _ (.inl rfl)) (fun cdv A outer sh H E hr => ?_)
  have sc := sc_bears
  exact (dss_cons (ds_setLc 2 rfl sc.nd (sw_true rfl rfl rfl rfl) (own := [("some", 3)]) (blkOk_by (by first | rfl | decide +kernel)) (by decide) (di_seq (DE.weak (m' := (.sh true)) (de_callP (m := .any) (mr := .xc) c_partings (hr.mono (by decide)) (passes_call (takes_of rfl rfl rfl rfl) (fun _ _ _ _ h => h)) (da_cons (de_ix (un64 hr) (de_look 0) (DE.weak (m' := .any) de_int (.any _))) da_nil)) (.xc_sh _))) rfl (.inl ⟨rfl, rfl, .inr ⟨_, rfl⟩⟩) (fun _ _ _ _ _ => (dg_nm 3 sc.nd)) (fun _ _ _ _ _ => (dq_one (dt_cmp (m := .atom) v_gt (de_callB v_len b_len (da_cons (de_look 3) da_nil)) de_int))) (fun _ _ _ _ _ => (DE.weak (m' := (.sh true)) (de_callB (v_sorted (un64 hr)) b_sorted (da_cons (de_var (m := (.sh true)) 3 rfl) da_nil)) (.ow_n _))) rfl (by exact fun q => by cases q)) (dss_cons (ds_for (ΓL := [(.sh false), .atom, (.sh true), .atom, (.sh true)]) (di_seq (DE.weak (m' := (.sh true)) (de_callP (m := .any) (mr := .xc) c_lots (hr.mono (by decide)) (passes_call (takes_of rfl rfl rfl rfl) (fun _ _ _ _ h => h)) (da_cons (DE.weak (m' := .any) (de_callB v_len b_len (da_cons (de_ix (un64 hr) (de_look 0) (DE.weak (m' := .any) de_int (.any _))) da_nil)) (.any _)) (da_cons (de_look 1) da_nil))) (.xc_sh _))) (.inr ⟨_, rfl⟩) (.inl ⟨rfl, rfl, .inr ⟨_, rfl⟩⟩) (dg_nm 4 sc.nd) (dss_one (ds_if (dt_val (de_callB (v_any rfl) b_any (da_cons (DE.weak (m' := .any) (de_lc (own := [("some", 3)]) rfl sc.nd (blkOk_by (by first | rfl | decide +kernel)) (by decide) (di_seq (de_var (m := (.sh true)) 2 rfl)) rfl (.inl ⟨rfl, rfl, .inr ⟨_, rfl⟩⟩) (fun _ _ _ _ _ => (dg_nm 3 sc.nd)) (fun _ _ _ _ _ => dq_nil) (fun _ _ _ _ _ => (de_callP (m := .any) (mr := .atom) c_is_split (hr.mono (by decide)) passL (da_cons (de_look 0) (da_cons (DE.weak (m' := .any) (de_tup (da_cons (DE.weak (m' := (.sh true)) (de_lst (da_nil (m := .atom))) (.ow_e _)) (da_cons (de_var (m := (.sh true)) 4 rfl) da_nil))) (.any _)) (da_cons (de_look 3) da_nil))))) rfl (by exact fun q => by cases q)) (.any _)) da_nil))) (dss_one (ds_retR (dr_de de_bl (.atom _ (.inl rfl))))) dss_nil)) rfl rfl rfl (passes_of rfl)) (dss_one (ds_retR (dr_de de_bl (.atom _ (.inl rfl)))))))
theorem ok_copied {n : Nat} {rec : List D → M D} (hn : 0 ≤ n) {f : Addr} {fd : FuncData} (Fu : L2.Fun K "_law_copied" "_law_copied" s_copied f fd) (c_copied : Cal T P w K mg base n "_law_copied" ["thing"] .xc rec) : FnD T P w K mg base (n + 1) f fd ["thing"] .xc (fnA [false] 4 (B_copied rec)) := by
  refine FnD.mkA (as := [false]) (Γ2 := [(.sh false), .atom, .atom, .atom]) (Γb := [(.sh false), .atom, .atom, .atom]) Fu sc_copied (.atom _ (.inr (.inr (.inl rfl)))) (fun cdv A outer sh H E hr => ?_)
  have sc := sc_copied
  exact (dss_cons (ds_if (dt_val (de_isi2 O b_isinstance (cn_b .list b_list) (cn_b .tuple b_tuple) (de_look 0))) (dss_cons (ds_setLc 1 rfl sc.nd (sw_true rfl rfl rfl rfl) (own := [("one", 2)]) (blkOk_by (by first | rfl | decide +kernel)) (by decide) (di_seq (de_var (m := (.sh false)) 0 rfl)) rfl (.inl ⟨rfl, rfl, .inr ⟨_, rfl⟩⟩) (fun _ _ _ _ _ => (dg_nm 2 sc.nd)) (fun _ _ _ _ _ => dq_nil) (fun _ _ _ _ _ => (de_callP (m := .any) (mr := .xc) c_copied (hr.mono (Nat.le_refl _)) passL (da_cons (de_look 2) da_nil))) rfl (by exact fun q => by cases q)) (dss_one (ds_retR (dr_if (dt_val (de_isi O b_isinstance (cn_b .list b_list) (de_look 0))) (dr_var (m := (.ow .e)) 1 rfl .exc) (dr_tup 1 rfl b_tuple))))) dss_nil) (dss_cons (ds_if (dt_val (de_isi O b_isinstance (cn_b .dict b_dict) (de_look 0))) (dss_one (ds_retR (dr_de (de_fzk (de_callTy (v_dict rfl) b_dict (da_cons (DE.weak (m' := (.sh false)) (de_lc (own := [("key", 3)]) rfl sc.nd (blkOk_by (by first | rfl | decide +kernel)) (by decide) (di_seq (de_var (m := (.sh false)) 0 rfl)) rfl (.inl ⟨rfl, rfl, .inr ⟨_, rfl⟩⟩) (fun _ _ _ _ _ => (dg_nm 3 sc.nd)) (fun _ _ _ _ _ => dq_nil) (fun _ _ _ _ _ => (de_tup (da_cons (de_var (m := (.sh false)) 3 rfl) (da_cons (DE.weak (m' := (.sh false)) (de_callP (m := .any) (mr := .xc) c_copied (hr.mono (Nat.le_refl _)) passL (da_cons (de_ix (un64 hr) (de_look 0) (de_look 3)) da_nil)) (.xc_sh _)) da_nil)))) rfl (by exact fun q => by cases q)) .ow_o) da_nil))) .exc))) dss_nil) (dss_one (ds_retR (dr_de (de_fz (de_look 0)) (.atom _ (.inr (.inr (.inl rfl)))))))))
end
end Lk
end
section
set_option autoImplicit false
set_option maxHeartbeats 4000000
namespace Lk
open PySem PySem.Spec L2 DL
abbrev s_right_k13 : Stmt := top 42
theorem sc_right_k13 : FnScope ["stream", "land", "made", "spares", "some", "due", "told", "kept"] ["stream", "land"] (defScope s_right_k13) := ⟨rfl, rfl, rfl, by decide +kernel, rfl, by decide +kernel, by decide +kernel⟩
section
variable {P : Program} {w : World} {K : PySem.W.Frag} {mg : Str → Option Value} {base : Heap} {T : Cfg}
variable (O : KO T K) (b_isinstance : mg "isinstance" = none) (b_len : mg "len" = none) (b_list : mg "list" = none) (b_min : mg "min" = none) (c_LETTERS : ∃ t, mg "LETTERS" = some (.str "abcdefghijklmnopqrstuvwxyz" t)) (g_Land : mg "Land" = some (.ref (T.cls 0))) (N_own_towns : ∀ c, NoAttr K (T.cls c) "own_towns") (N_own_roads : ∀ c, NoAttr K (T.cls c) "own_roads")
include O b_isinstance b_len b_list b_min c_LETTERS g_Land N_own_towns N_own_roads
theorem ok_right_k13 {f : Addr} {fd : FuncData} (Fu : L2.Fun K "_law_right" "_law_right" s_right_k13 f fd) (c_made : Cal T P w K mg base 7 "_law_made" ["stream", "land"] .xc pr_made) (c_partings : Cal T P w K mg base 1 "_law_partings" ["things"] .xc pr_partings) (c_spare : Cal T P w K mg base 2 "_law_spare" ["land", "parting"] .atom pr_spare) (c_same : Cal T P w K mg base 7 "_law_same" ["found", "due"] .atom (pr_same 7)) (c_nights : Cal T P w K mg base 4 "nights" ["land"] .atom pr_nights) (c_nights_kw_land : CalK T P w K mg base 4 "nights" ["land"] ["land"] .atom pr_nights) (c_worst_nights : Cal T P w K mg base 4 "worst_nights" ["land"] .xc pr_worst_nights) (c_bears : Cal T P w K mg base 3 "_law_bears" ["land", "size"] .atom pr_bears) (c_is_parting : Cal T P w K mg base 1 "_law_is_parting" ["land", "thing"] .atom pr_is_parting) (c_copied : Cal T P w K mg base 4 "_law_copied" ["thing"] .xc (pr_copied 4)) (c_spoilt : CalS T P w K mg base 6) (c_worst_nights_kw_land : CalK T P w K mg base 4 "worst_nights" ["land"] ["land"] .xc pr_worst_nights) : FnD T P w K mg base 8 f fd ["stream", "land"] .atom pr_right_k13 := by
  refine FnD.mkA (as := [true, false]) (Γ2 := [.atom, (.sh false), .atom, .atom, .atom, .atom, .atom, .atom]) (Γb := [.atom, (.sh false), .atom, .atom, .atom, .atom, .atom, .atom]) Fu sc_right_k13 (.atom _ (.inl rfl)) (fun cdv A outer sh H E hr => ?_)
  have sc := sc_right_k13
  exact (dss_cons (ds_set 2 (de_callP (m := .any) (mr := .xc) c_made (hr.mono (by decide)) (passes_call (takes_of rfl rfl rfl rfl) (fun _ _ _ _ h => h)) (da_cons (de_look 0) (da_cons (de_look 1) da_nil))) sc.nd) (dss_cons (ds_setLc 3 rfl sc.nd (sw_true rfl rfl rfl rfl) (own := [("some", 4)]) (blkOk_by (by first | rfl | decide +kernel)) (by decide) (di_seq (DE.weak (m' := (.sh true)) (de_callP (m := .any) (mr := .xc) c_partings (hr.mono (by decide)) (passes_call (takes_of rfl rfl rfl rfl) (fun _ _ _ _ h => h)) (da_cons (de_ix (un64 hr) (de_look 1) (DE.weak (m' := .any) de_int (.any _))) da_nil)) (.xc_sh _))) rfl (.inl ⟨rfl, rfl, .inr ⟨_, rfl⟩⟩) (fun _ _ _ _ _ => (dg_nm 4 sc.nd)) (fun _ _ _ _ _ => (dq_one (dt_cmp (m := .atom) v_gt (de_callB v_len b_len (da_cons (de_look 4) da_nil)) de_int))) (fun _ _ _ _ _ => (de_callP (m := .any) (mr := .atom) c_spare (hr.mono (by decide)) passL (da_cons (de_look 1) (da_cons (de_look 4) da_nil)))) rfl (by exact fun q => by cases q)) (dss_cons (ds_set 5 (de_if (DW.dt (dw_and (dt_cmp (m := .any) (v_ne (un64 hr)) (de_look 3) (DE.weak (m' := .any) (de_lst (da_nil (m := .atom))) (.any _))) (dw_and1 (dt_cmp (m := .any) v_ge (de_callB (v_min rfl (un64 hr)) b_min (da_cons (de_look 3) da_nil)) (DE.weak (m' := .any) de_int (.any _)))))) (de_fz (de_callB (v_min rfl (un64 hr)) b_min (da_cons (de_look 3) da_nil))) de_non) sc.nd) (dss_cons (ds_if (dt_not (dt_val (de_callP (m := .any) (mr := .atom) c_same (hr.mono (by decide)) (passes_call (takes_of rfl rfl rfl rfl) (fun _ _ _ _ h => h)) (da_cons (DE.weak (m' := .any) (de_lst (da_cons (de_callP (m := .any) (mr := .atom) c_nights (hr.mono (by decide)) (passes_call (takes_of rfl rfl rfl rfl) (fun _ _ _ _ h => h)) (da_cons (de_look 2) da_nil)) (da_cons (de_callKP (m := .any) (mr := .atom) (ks := ["land"]) c_nights_kw_land (hr.mono (by decide)) (passes_call (takes_of rfl rfl rfl rfl) (fun _ _ _ _ h => h)) (dk_cons (de_look 2) dk_nil) (alen_cons alen_nil)) da_nil))) (.any _)) (da_cons (DE.weak (m' := .any) (de_lst (da_cons (de_var (m := .atom) 5 rfl) (da_cons (de_var (m := .atom) 5 rfl) da_nil))) (.any _)) da_nil))))) (dss_one (ds_retR (dr_de de_bl (.atom _ (.inl rfl))))) dss_nil) (dss_cons (ds_set 6 (de_callP (m := .any) (mr := .xc) c_worst_nights (hr.mono (by decide)) (passes_call (takes_of rfl rfl rfl rfl) (fun _ _ _ _ h => h)) (da_cons (de_look 2) da_nil)) sc.nd) (dss_cons (ds_if (dt_cmp (m := .any) v_isN (de_look 5) (DE.weak (m' := .any) de_non (.any _))) (dss_one (ds_retR (dr_de (de_cmp (m := .any) v_isN (de_look 6) (DE.weak (m' := .any) de_non (.any _))) (.atom _ (.inl rfl))))) dss_nil) (dss_cons (ds_if (DW.dt (dw_and (dt_cmp (m := .any) v_lt (de_look 5) (DE.weak (m' := .any) de_int (.any _))) (dw_and (dt_cmp (m := .atom) v_lt (de_callB v_len b_len (da_cons (de_ix (un64 hr) (de_look 1) (DE.weak (m' := .any) de_int (.any _))) da_nil)) de_int) (dw_and (dt_cmp (m := .atom) v_lt (de_callB v_len b_len (da_cons (de_ix (un64 hr) (de_look 1) (DE.weak (m' := .any) de_int (.any _))) da_nil)) de_int) (dw_and1 (DW.dt (dw_or (dt_not (dt_val (de_callP (m := .any) (mr := .atom) c_bears (hr.mono (by decide)) (passes_call (takes_of rfl rfl rfl rfl) (fun _ _ _ _ h => h)) (da_cons (de_look 1) (da_cons (de_look 5) da_nil))))) (dw_or1 (dt_val (de_callP (m := .any) (mr := .atom) c_bears (hr.mono (by decide)) (passes_call (takes_of rfl rfl rfl rfl) (fun _ _ _ _ h => h)) (da_cons (de_look 1) (da_cons (DE.weak (m' := .any) (de_op (m := .any) v_add (de_look 5) (DE.weak (m' := .any) de_int (.any _))) (.any _)) da_nil)))))))))))) (dss_one (ds_retR (dr_de de_bl (.atom _ (.inl rfl))))) dss_nil) (dss_cons (ds_if (DW.dt (dw_or (dt_not (dt_val (de_isi O b_isinstance (cn_b .list b_list) (de_look 6)))) (dw_or (dt_not (dt_val (de_callP (m := .any) (mr := .atom) c_is_parting (hr.mono (by decide)) (passes_call (takes_of rfl rfl rfl rfl) (fun _ _ _ _ h => h)) (da_cons (de_look 1) (da_cons (de_look 6) da_nil))))) (dw_or (dt_cmp (m := .atom) v_lt (de_callB v_len b_len (da_cons (de_look 6) da_nil)) de_int) (dw_or1 (dt_cmp (m := .any) (v_ne (un64 hr)) (DE.weak (m' := .any) (de_callP (m := .any) (mr := .atom) c_spare (hr.mono (by decide)) (passes_call (takes_of rfl rfl rfl rfl) (fun _ _ _ _ h => h)) (da_cons (de_look 1) (da_cons (de_look 6) da_nil))) (.any _)) (de_look 5))))))) (dss_one (ds_retR (dr_de de_bl (.atom _ (.inl rfl))))) dss_nil) (dss_cons (ds_set 7 (de_callP (m := .any) (mr := .xc) c_copied (hr.mono (by decide)) (passes_call (takes_of rfl rfl rfl rfl) (fun _ _ _ _ h => h)) (da_cons (de_look 6) da_nil)) sc.nd) (dss_cons (ds_spoilX (bs := [false, false, false, false, false, false, true, false]) c_spoilt (hr.mono (by decide)) (passes_call (takes_of rfl rfl rfl rfl) (fun _ _ _ _ h => h)) (de_op v_cat (de_var (m := (.sh false)) 6 rfl) (DE.weak (m' := (.sh false)) (de_lst (da_cons (de_var (m := (.sh false)) 6 rfl) da_nil)) .ow_o))) (dss_one (ds_retR (dr_de (de_callP (m := .any) (mr := .atom) c_same (hr.mono (by decide)) (passes_call (takes_of rfl rfl rfl rfl) (fun _ _ _ _ h => h)) (da_cons (DE.weak (m' := .any) (de_callKP (m := .any) (mr := .xc) (ks := ["land"]) c_worst_nights_kw_land (hr.mono (by decide)) (passes_call (takes_of rfl rfl rfl rfl) (fun _ _ _ _ h => h)) (dk_cons (DE.weak (m' := .any) (de_callP (m := .any) (mr := .xc) c_made (hr.mono (by decide)) (passes_call (takes_of rfl rfl rfl rfl) (fun _ _ _ _ h => h)) (da_cons (de_look 0) (da_cons (de_look 1) da_nil))) (.any _)) dk_nil) (alen_cons alen_nil)) (.any _)) (da_cons (de_look 7) da_nil))) (.atom _ (.inl rfl)))))))))))))))
end
end Lk
end
section
set_option autoImplicit false
set_option maxHeartbeats 4000000
namespace Lk
open PySem PySem.Spec L2 DL
abbrev s_stream : Stmt := top 22
theorem sc_stream : FnScope ["script"] ["script"] (defScope s_stream) := ⟨rfl, rfl, rfl, by decide +kernel, rfl, by decide +kernel, by decide +kernel⟩
abbrev s_law : Stmt := top 43
theorem sc_law : FnScope ["script", "stream", "turn"] ["script"] (defScope s_law) := ⟨rfl, rfl, rfl, by decide +kernel, rfl, by decide +kernel, by decide +kernel⟩
section
variable {P : Program} {w : World} {K : PySem.W.Frag} {mg : Str → Option Value} {base : Heap} {T : Cfg}
variable (O : KO T K) (b_all : mg "all" = none) (b_list : mg "list" = none) (b_range : mg "range" = none) (c_LETTERS : ∃ t, mg "LETTERS" = some (.str "abcdefghijklmnopqrstuvwxyz" t)) (g_Land : mg "Land" = some (.ref (T.cls 0))) (N_own_towns : ∀ c, NoAttr K (T.cls c) "own_towns") (N_own_roads : ∀ c, NoAttr K (T.cls c) "own_roads")
include O b_all b_list b_range c_LETTERS g_Land N_own_towns N_own_roads
theorem ok_stream {f : Addr} {fd : FuncData} (Fu : L2.Fun K "_law_stream" "_law_stream" s_stream f fd) : FnOk P w K mg base (L2.CX P w) 1 f fd ["script"] (spStream K) := by
  refine Fu.okX sc_stream (fun vs H Q E ⟨a, ns, e, _⟩ => by subst e; rfl) fun cdv A outer sh H vs Q E hr ⟨a, ns, e, hS, hQ⟩ => ?_
  subst e
  refine ⟨_, pss_one (ps_ret (pe_lst (pa_cons (pe_callTy call_list_of (by rfl) b_list (by decide +kernel) (pa_cons (pv 0) pa_nil)) (pa_cons pe_int (pa_cons pe_int (pa_cons pe_int pa_nil)))))), ?_⟩
  refine ⟨_, rfl, a, _, rfl, .inl hS, fun q hq => ⟨by show 4 ≤ sizeLine; decide, fun p hp => ?_⟩⟩
  have hpq : p ≠ q := fun e => by subst e; rw [upd_same] at hp; cases hp
  rw [upd_ne hpq] at hp
  exact hQ p q hq hp hpq
theorem ok_law {f fs : Addr} {fd fds : FuncData} (Fu : L2.Fun K "law" "law" s_law f fd) (Fs : FnOk P w K mg base (L2.CX P w) 1 fs fds ["script"] (spStream K)) (ms : mg "_law_stream" = some (.ref fs)) (ks : PySem.W.keepIn K (.ref fs) = true) (bs : Binds K fds ["script"] []) (OO : ∀ p q, KO (atT T p q) K) (c_right_k13 : ∀ p q, Cal (atT T p q) P w K mg base 8 "_law_right" ["stream", "land"] .atom pr_right_k13) (c_thick : ∀ p q, Cal (atT T p q) P w K mg base 6 "_law_thick" ["stream"] (.sh false) pr_thick) (hsure : ∀ ns : List Int, ns.length ≤ 63 → (∀ z ∈ ns, Builtin.Int.intBits z ≤ 1048576) → ∃ t, B_law_k13 (none :: some .stm :: List.replicate 1 none) ⟨ns, 0, 0, 19⟩ = some (.ok (.rt (.bl true)), t)) : FnG P w K mg base (L2.CX P w) 9 f fd ["script"] (spLaw K) := by
  refine law_G (Γb := [.atom, .atom, .atom]) (Γ2 := [.atom, .atom, .atom]) T Fu sc_law rfl (by decide) (fun cdv A outer s H E hr hq a ns D hS hD => ?_) (fun p q cdv A outer s H E hr hq => ?_) hsure
  · exact WS.of (ps_set (i := 1) sc_law.nd rfl (by first | exact Or.inl rfl | exact Or.inr rfl) (pe_call Fs (hr.mono (by decide)) (by rfl) ms ks bs .nil (passes_call (takes_of rfl rfl rfl rfl) (fun _ _ _ _ h => h)) (pa_cons (pv 0) pa_nil))) ⟨_, rfl, a, ns, rfl, hS, hD⟩
  · have O := OO p q
    have sc := sc_law
    have c_right_k13 := c_right_k13 p q
    have c_thick := c_thick p q
    exact (dss_one (ds_retR (dr_de (de_callB (v_all rfl) b_all (da_cons (DE.weak (m' := .any) (de_lc (own := [("turn", 2)]) rfl sc.nd (blkOk_by (by first | rfl | decide +kernel)) (by decide) (di_range1 b_range de_int) rfl (.inl ⟨rfl, rfl, .inl rfl⟩) (fun _ _ _ _ _ => (dg_nm 2 sc.nd)) (fun _ _ _ _ _ => dq_nil) (fun _ _ _ _ _ => (de_callP (m := .any) (mr := .atom) c_right_k13 (hr.mono (by decide)) passL (da_cons (de_look 1) (da_cons (DE.weak (m' := .any) (de_callP (m := .atom) (mr := (.sh false)) c_thick (hr.mono (by decide)) passL (da_cons (de_var (m := .atom) 1 rfl) da_nil)) (.any _)) da_nil)))) rfl (by exact fun q => by cases q)) (.any _)) da_nil)) (.atom _ (.inl rfl)))))end
end Lk
end
section
set_option autoImplicit false
set_option maxHeartbeats 4000000
namespace Lk
open PySem PySem.Spec L2 DL
abbrev sDraw : Stmt := top 23
theorem sc_draw : FnScope ["stream", "many", "cell", "digit", "mixed"] ["stream", "many"] (defScope sDraw) := ⟨rfl, rfl, rfl, by decide +kernel, rfl, by decide +kernel, by decide +kernel⟩
section
variable {P : Program} {w : World} {K : PySem.W.Frag} {mg : Str → Option Value} {base : Heap} {T : Cfg}
theorem ok_draw {f : Addr} {fd : FuncData} (Fu : L2.Fun K "_law_draw" "_law_draw" sDraw f fd) (m1 : mg "abs" = none) (m2 : mg "int" = none) : FnD T P w K mg base 1 f fd ["stream", "many"] .atom drawF := by
  refine Fu.okX sc_draw (fun vs H Q E ⟨S0, ds, s, r, s', _, hr, _, hf, _⟩ => ?_) (fun cdv A outer sh H vs Q E hr h => ?_)
  · rw [hr.len]
    unfold drawF at hf
    split at hf
    · rfl
    · cases hf
  · have hu : A.units + 100 < cLine := by have := hr.un; show A.units + 100 < cLine; have : (A.deeper (PyProof.Rows.envOfC "_law_draw" (defScope sDraw) sh.heap.objs.size f cdv)).units = A.units + 3 := rfl; omega
    obtain ⟨S0, ds, s, r, s', hS, hv, hst, hf, hq⟩ := h
    refine ⟨_, pss_cons (ps_asg (pe_op op_add (pe_ix ix_list (pv 0) pe_int fun _ _ => rfl) pe_int) (pg_sub (pv 0) pe_int set_list))
      (pss_cons (ps_while (passes_of rfl) (PT.imp (t' := tLeft T) (PW.pt (pw_and (pt_cmp (pc_eqI (pe_ix ix_list (pv 0) pe_int fun _ _ => rfl) pe_int)) (pw_and1 (pt_cmpR (op_neP (by show A.units + 3 + 64 < cLine; omega)) (pe_ix ix_list (pv 0) pe_int fun _ _ => rfl) (pe_lst pa_nil) (nomark _))))) fun σ H Q ⟨s, h0, st, hl, q⟩ => by
          refine ⟨.ref T.st, h0, ⟨T.st, _, 1, .int s.cur, rfl, rfl, SqL.of st.1, rfl, ⟨s.cur, 0, rfl, rfl, ?_⟩⟩⟩
          by_cases hz : s.cur = 0
          · refine ⟨true, congrArg V.bl (decide_eq_true hz), iteT ⟨.ref T.st, h0, ⟨T.st, _, 0, .ref T.sl, rfl, rfl, SqL.of st.1, rfl, ⟨Nat.zero_le _, fun p hp => ?_⟩⟩⟩⟩
            obtain ⟨d1, d2⟩ := left_ne (K := K) st hp
            obtain ⟨x3, st3⟩ := lay_any (o := .lst []) st hp
            refine ⟨_, _, d1, d2, by simp [PyData.plain, plain_ints], rfl, by simp [PyData.depth, depth_ints], by simp [PyData.depth, PyData.depthAll], _, by rw [left_val], ?_⟩
            have := q _ x3 st3
            simpa [hz] using this
          · exact ⟨false, congrArg V.bl (decide_eq_false hz), iteF (by have := q _ DL.Ext.refl st; simpa [hz] using this)⟩)
        (pss_cons (ps_set (i := 2) sc_draw.nd rfl (.inl rfl) (pe_callB call_abs (by rfl) m1 (by decide +kernel) (pa_cons (pe_bm PySem.F.plainAttrs_list PySem.F.slot_list_pop PySem.F.type_list_pop mt_popAt (pe_ix ix_list (pv 0) pe_int fun _ _ => rfl) (pa_cons pe_int pa_nil)) pa_nil)))
        (pss_cons (ps_asg (pe_op op_mod (pe_callTy call_int1 (by rfl) m2 (by decide +kernel) (pa_cons (pe_op op_add (pe_op op_add (pe_op op_mul (pe_ix ix_list (pv 0) pe_int fun _ _ => rfl) pe_int) (pv 2)) pe_int) pa_nil)) pe_int) (pg_sub (pv 0) pe_int set_list))
        (pss_one (ps_asg (pe_ifExp (pt_cmp (pc_ge (pv 2) (pe_op op_pow pe_int pe_int))) (pv 2) pe_int) (pg_sub (pv 0) pe_int set_list))))))
      (pss_cons (ps_if (pt_cmp (pc_gt (pe_ix ix_list (pv 0) pe_int fun _ _ => rfl) pe_int))
        (pss_cons (ps_set (i := 3) sc_draw.nd rfl (.inl rfl) (pe_op op_mod (pe_callTy call_int1 (by rfl) m2 (by decide +kernel) (pa_cons (pe_ix ix_list (pv 0) pe_int fun _ _ => rfl) pa_nil)) (pv 1)))
        (pss_cons (ps_asg (pe_op op_fdiv (pe_ix ix_list (pv 0) pe_int fun _ _ => rfl) (pv 1)) (pg_sub (pv 0) pe_int set_list))
        (pss_one (ps_ret (pv 3))))) pss_nil)
      (pss_cons (ps_set (i := 4) sc_draw.nd rfl (.inl rfl) (pe_op op_mod (pe_callTy call_int1 (by rfl) m2 (by decide +kernel) (pa_cons (pe_op op_powW (pe_op op_add (pe_op op_add (pe_ix ix_list (pv 0) pe_int fun _ _ => rfl) (pe_op op_mul pe_int (pe_ix ix_list (pv 0) pe_int fun _ _ => rfl))) pe_int) pe_int) pa_nil)) pe_int))
      (pss_one (ps_ret (pe_op op_mod (pe_op op_mod (pe_callTy call_int1 (by rfl) m2 (by decide +kernel) (pa_cons (pe_op op_powW (pe_op op_add (pe_op op_add (pe_op op_mul (pv 4) pe_int) (pe_op op_mul pe_int (pe_ix ix_list (pv 0) pe_int fun _ _ => rfl))) pe_int) pe_int) pa_nil)) pe_int) (pv 1))))))), ?_⟩
    -- what is drawn
    obtain ⟨many, rfl⟩ : ∃ many, ds = [.stm, .int many] := by
      unfold drawF at hf
      split at hf
      · exact ⟨_, rfl⟩
      · cases hf
    obtain ⟨v0, vs', rfl, r0, rr⟩ := hv.consL
    obtain ⟨v1, vs', rfl, r1, r2⟩ := rr.consL
    have := r2.nilL; subst this
    obtain rfl : v0 = .ref T.st := by cases r0; rfl
    obtain rfl : v1 = .int many := by cases r1; rfl
    simp only [drawF] at hf
    obtain ⟨⟨hok, hm0, hm1⟩, hf⟩ := if_some hf
    cases hf
    obtain ⟨hcur, hs0, hs1, hc0, hc1, hlen⟩ := hok
    have fin : ∀ {H' : Hp} {s' : Strm} {d : Int}, DL.Ext T H H' → StmAt T H' s' → drawS many s = (d, s') → Q (.int d) H' := fun {H' s' d} x st e => by
      rw [e] at hq; exact hq _ _ x st (.int _)
    -- stream[2] = stream[2] + 1
    refine ⟨.ref T.st, rfl, ⟨T.st, _, 2, .int s.cnt, rfl, rfl, SqL.of hst.1, rfl, ⟨s.cnt, 1, rfl, rfl, ⟨.ref T.st, rfl, T.st, _, _, 2, rfl, rfl, hst.1, rfl, ?_⟩⟩⟩⟩
    have st1 : StmAt T (upd H T.st (.lst [.ref T.sl, .int s.cur, .int (s.cnt + 1), .int s.seed])) ⟨s.cells, s.cur, s.cnt + 1, s.seed⟩ := upd_st hst ⟨s.cells, s.cur, s.cnt + 1, s.seed⟩ rfl
    have x1 : DL.Ext T H (upd H T.st (.lst [.ref T.sl, .int s.cur, .int (s.cnt + 1), .int s.seed])) := ext_st DL.Ext.refl
    refine ⟨fun m σ' H' => ∃ cells cur seed c2, m = cells.length ∧ σ' = [some (.ref T.st), some (.int many), c2, none, none] ∧ StmAt T H' ⟨cells, cur, s.cnt + 1, seed⟩ ∧ DL.Ext T H H' ∧ 0 ≤ cur ∧ 0 ≤ seed ∧ seed < 2147483629 ∧ cells.length ≤ 63 ∧
      (if s.cur = 0 then eat s.cells s.seed else (s.cells, s.cur, s.seed)) = (if cur = 0 then eat cells seed else (cells, cur, seed)), ⟨_, s.cells, s.cur, s.seed, none, rfl, rfl, st1, x1, hcur, hs0, hs1, hlen, rfl⟩, ?_⟩
    rintro m σ' H' ⟨cells, cur, seed, c2, rfl, rfl, st, x, k1, k2, k3, k4, k5⟩
    refine ⟨_, rfl, st, k4, fun H1 x2 st2 => ?_⟩
    have xx := x.trans x2
    by_cases hgo : cur = 0 ∧ cells ≠ []
    · rw [decide_eq_true hgo]
      refine iteT ?_
      obtain ⟨rfl, hne⟩ := hgo
      obtain ⟨c, cs, rfl⟩ : ∃ c cs, cells = c :: cs := by
        cases cells with
        | nil => exact absurd rfl hne
        | cons c cs => exact ⟨c, cs, rfl⟩
      refine ⟨fun σ' H' => ∃ cells cur seed c2, cells.length = cs.length ∧ σ' = [some (.ref T.st), some (.int many), c2, none, none] ∧ StmAt T H' ⟨cells, cur, s.cnt + 1, seed⟩ ∧ DL.Ext T H H' ∧ 0 ≤ cur ∧ 0 ≤ seed ∧ seed < 2147483629 ∧ cells.length ≤ 63 ∧
        (if s.cur = 0 then eat s.cells s.seed else (s.cells, s.cur, s.seed)) = (if cur = 0 then eat cells seed else (cells, cur, seed)), fun σ' H' ⟨cells, cur, seed, c2, e1, e2, e3, e4, e5, e6, e7, e8, e9⟩ => ⟨cells.length, by rw [e1]; exact Nat.lt_succ_self _, cells, cur, seed, c2, rfl, e2, e3, e4, e5, e6, e7, e8, e9⟩, ?_⟩
      -- cell = abs(stream[0].pop(0))
      refine ⟨.ref T.st, rfl, ⟨T.st, _, 0, .ref T.sl, rfl, rfl, SqL.of st2.1, rfl, .inl ⟨rfl, _, SqL.of st2.2⟩, ⟨T.sl, _, 0, 0, .int c, rfl, rfl, st2.2, by decide, by decide, by rw [List.length_map]; exact seq0 _, rfl, ?_⟩⟩⟩
      have st3 : StmAt T (upd H1 T.sl (.lst (cs.map V.int))) ⟨cs, 0, s.cnt + 1, seed⟩ := upd_sl st2 cs
      refine ⟨c, rfl, ?_⟩
      generalize hcl : (if c < 0 then -c else c) = cell
      have hcell : 0 ≤ cell := by rw [← hcl]; split <;> omega
      -- stream[3] = ..
      refine ⟨.ref T.st, rfl, ⟨T.st, _, 3, .int seed, rfl, rfl, SqL.of st3.1, rfl, ⟨seed, 6151, rfl, rfl, .inl ⟨by omega, by omega⟩, ⟨.int cell, rfl, ⟨seed * 6151, cell, rfl, rfl, ⟨seed * 6151 + cell, 7, rfl, rfl, .inl ⟨seed * 6151 + cell + 7, rfl, ⟨_, _, rfl, rfl, (by show (0 : Int) < 2147483629; decide), ?_⟩⟩⟩⟩⟩⟩⟩⟩
      refine ⟨.ref T.st, rfl, T.st, _, 3, 3, rfl, rfl, st3.1, rfl, ?_⟩
      have st4 : StmAt T (upd (upd H1 T.sl (.lst (cs.map V.int))) T.st (.lst [.ref T.sl, .int 0, .int (s.cnt + 1), .int ((seed * 6151 + cell + 7) % 2147483629)])) ⟨cs, 0, s.cnt + 1, (seed * 6151 + cell + 7) % 2147483629⟩ := upd_st st3 ⟨cs, 0, s.cnt + 1, (seed * 6151 + cell + 7) % 2147483629⟩ rfl
      have e9 : (if s.cur = 0 then eat s.cells s.seed else (s.cells, s.cur, s.seed)) = (if (0 : Int) = 0 then eat (c :: cs) seed else (c :: cs, 0, seed)) := k5
      rw [if_pos (rfl : (0 : Int) = 0), eat, hcl] at e9
      have y4 := ext_st (T := T) (o := .lst [.ref T.sl, .int 0, .int (s.cnt + 1), .int ((seed * 6151 + cell + 7) % 2147483629)]) (ext_sl (o := .lst (cs.map V.int)) xx)
      have b1 : 0 ≤ (seed * 6151 + cell + 7) % 2147483629 := Int.emod_nonneg _ (by decide)
      have b2 : (seed * 6151 + cell + 7) % 2147483629 < 2147483629 := Int.emod_lt_of_pos _ (by decide)
      have b3 : cs.length ≤ 63 := by have : (c :: cs).length ≤ 63 := k4; simp at this; omega
      -- stream[1] = ..
      refine ⟨.int cell, rfl, ⟨10, 18, rfl, rfl, ⟨by decide, by decide, by decide⟩, ⟨cell, 10 ^ 18, rfl, rfl, ?_⟩⟩⟩
      by_cases hbig : 10 ^ 18 ≤ cell
      · rw [if_pos hbig] at e9
        refine ⟨true, congrArg V.bl (decide_eq_true hbig), iteT ⟨.int cell, rfl, ⟨.ref T.st, rfl, T.st, _, 1, 1, rfl, rfl, st4.1, rfl, ?_⟩⟩⟩
        refine ⟨cs, cell, (seed * 6151 + cell + 7) % 2147483629, _, rfl, rfl, upd_st st4 ⟨cs, cell, s.cnt + 1, (seed * 6151 + cell + 7) % 2147483629⟩ rfl, ext_st y4, hcell, b1, b2, b3, ?_⟩
        rw [e9, if_neg (by omega)]
      · rw [if_neg hbig] at e9
        refine ⟨false, congrArg V.bl (decide_eq_false hbig), iteF ⟨.ref T.st, rfl, T.st, _, 1, 1, rfl, rfl, st4.1, rfl, ?_⟩⟩
        exact ⟨cs, 0, (seed * 6151 + cell + 7) % 2147483629, _, rfl, rfl, upd_st st4 ⟨cs, 0, s.cnt + 1, (seed * 6151 + cell + 7) % 2147483629⟩ rfl, ext_st y4, by omega, b1, b2, b3, by rw [e9, if_pos rfl]⟩
    · rw [decide_eq_false hgo]
      refine iteF ?_
      have e9 : (if s.cur = 0 then eat s.cells s.seed else (s.cells, s.cur, s.seed)) = (cells, cur, seed) := by
        by_cases hz : cur = 0
        · have hc : cells = [] := Classical.byContradiction fun n => hgo ⟨hz, n⟩
          subst hz; subst hc
          rw [k5, if_pos rfl, eat]
        · rw [k5, if_neg hz]
      -- if stream[1] > 0
      refine ⟨.ref T.st, rfl, ⟨T.st, _, 1, .int cur, rfl, rfl, SqL.of st2.1, rfl, ⟨cur, 0, rfl, rfl, ?_⟩⟩⟩
      by_cases hp : 0 < cur
      · refine ⟨true, congrArg V.bl (decide_eq_true hp), iteT ?_⟩
        refine ⟨.ref T.st, rfl, ⟨T.st, _, 1, .int cur, rfl, rfl, SqL.of st2.1, rfl, .inl ⟨cur, rfl, ⟨.int many, rfl, ⟨cur, many, rfl, rfl, hm0, ?_⟩⟩⟩⟩⟩
        refine ⟨.ref T.st, rfl, ⟨T.st, _, 1, .int cur, rfl, rfl, SqL.of st2.1, rfl, ⟨.int many, rfl, ⟨cur, many, rfl, rfl, ⟨hm0, hm1⟩, ⟨.ref T.st, rfl, T.st, _, 1, 1, rfl, rfl, st2.1, rfl, ?_⟩⟩⟩⟩⟩
        exact ⟨_, rfl, fin (s' := ⟨cells, cur / many, s.cnt + 1, seed⟩) (ext_st xx) (upd_st st2 ⟨cells, cur / many, s.cnt + 1, seed⟩ rfl) (by simp only [drawS]; rw [e9, if_pos hp])⟩
      · refine ⟨false, congrArg V.bl (decide_eq_false hp), iteF ?_⟩
        have hz : cur = 0 := by omega
        have n1 : (seed + 8191 * (s.cnt + 1) + 50021).natAbs < 2 ^ 256 := by omega
        have n2 : (((seed + 8191 * (s.cnt + 1) + 50021) ^ 5 % 2147483587) * 40009 + 20011 * (s.cnt + 1) + 31).natAbs < 2 ^ 256 := by
          have := Int.emod_nonneg ((seed + 8191 * (s.cnt + 1) + 50021) ^ 5) (show (2147483587 : Int) ≠ 0 by decide)
          have := Int.emod_lt_of_pos ((seed + 8191 * (s.cnt + 1) + 50021) ^ 5) (show (0 : Int) < 2147483587 by decide)
          generalize (seed + 8191 * (s.cnt + 1) + 50021) ^ 5 % 2147483587 = mx at *
          omega
        refine ⟨.ref T.st, rfl, ⟨T.st, _, 3, .int seed, rfl, rfl, SqL.of st2.1, rfl, ⟨.ref T.st, rfl, ⟨T.st, _, 2, .int (s.cnt + 1), rfl, rfl, SqL.of st2.1, rfl, ⟨8191, s.cnt + 1, rfl, rfl, .inl ⟨by decide, by decide⟩, ⟨seed, 8191 * (s.cnt + 1), rfl, rfl, ⟨_, 50021, rfl, rfl, ⟨_, 5, rfl, rfl, ⟨by decide, by decide, n1⟩, .inl ⟨_, rfl, ⟨_, 2147483587, rfl, rfl, (by show (0 : Int) < 2147483587; decide), ?_⟩⟩⟩⟩⟩⟩⟩⟩⟩⟩
        refine ⟨_, rfl, ⟨_, 40009, rfl, rfl, .inr ⟨by decide, by decide⟩, ⟨.ref T.st, rfl, ⟨T.st, _, 2, .int (s.cnt + 1), rfl, rfl, SqL.of st2.1, rfl, ⟨20011, s.cnt + 1, rfl, rfl, .inl ⟨by decide, by decide⟩, ⟨_, _, rfl, rfl, ⟨_, 31, rfl, rfl, ⟨_, 3, rfl, rfl, ⟨by decide, by decide, n2⟩, .inl ⟨_, rfl, ⟨_, 1000000009, rfl, rfl, (by show (0 : Int) < 1000000009; decide), ⟨.int many, rfl, ⟨_, many, rfl, rfl, hm0, ?_⟩⟩⟩⟩⟩⟩⟩⟩⟩⟩⟩⟩
        exact fin (s' := ⟨cells, cur, s.cnt + 1, seed⟩) xx st2 (by simp only [drawS]; rw [e9, if_neg hp]; rfl)
end
end Lk
end
section
set_option autoImplicit false
set_option maxHeartbeats 4000000
namespace Lk
open PySem PySem.Spec L2 DL
abbrev s_spoilt : Stmt := top 29
theorem sc_spoilt : FnScope ["thing", "key", "part"] ["thing"] (defScope s_spoilt) := ⟨rfl, rfl, rfl, by decide +kernel, rfl, by decide +kernel, by decide +kernel⟩
section
variable {P : Program} {w : World} {K : PySem.W.Frag} {mg : Str → Option Value} {base : Heap} {T : Cfg}
theorem ok_spoilt {f : Addr} {fd : FuncData} (O : KO T K) (b_isinstance : mg "isinstance" = none) (b_dict : mg "dict" = none) (b_list : mg "list" = none) (b_tuple : mg "tuple" = none) (Fu : L2.Fun K "_law_spoilt" "_law_spoilt" s_spoilt f fd)
    (hmg : mg "_law_spoilt" = some (.ref f)) (kp : PySem.W.keepIn K (.ref f) = true) (hb : Binds K fd ["thing"] []) : ∀ n, FnOk P w K mg base (L2.CX P w) n f fd ["thing"] (spS T n)
  | 0 => ⟨fun _ _ _ _ h => h.elim, fun _ _ _ _ _ _ _ _ _ _ _ _ _ h => h.elim⟩
  | n + 1 => by
    have ih := ok_spoilt O b_isinstance b_dict b_list b_tuple Fu hmg kp hb n
    have nd := sc_spoilt.nd
    refine Fu.okX sc_spoilt (fun vs H Q E ⟨v, S, B, c, e, _⟩ => by rw [e]; rfl) (fun cdv A outer sh H vs Q E hr h => ?_)
    obtain ⟨v, S, B, c, rfl, hd, hB, hq⟩ := h
    refine ⟨_, pss_cons (ps_if (pt_is1 (T := T) b_isinstance (cn_b .dict b_dict)) WSs.pss pss_nil)
      (pss_cons (ps_if (pt_is2 (T := T) b_isinstance (cn_b .list b_list) (cn_b .tuple b_tuple)) (pss_one (ps_for (passes_of rfl) rfl WI.pi (pg_name (i := 2) nd rfl (.inl rfl))
          (pss_one (ps_expr (pe_call ih (hr.mono (Nat.le_refl _)) (by rfl) hmg kp hb .nil (passes_call (takes_of rfl rfl rfl rfl) (fun _ _ _ _ h => h)) (pa_cons (pv 2) pa_nil)))))) pss_nil)
      (pss_one (ps_if (pt_is1 (T := T) b_isinstance (cn_b .list b_list)) (pss_one (ps_expr (pe_bm PySem.F.plainAttrs_list PySem.F.slot_list_append PySem.F.type_list_append mt_append (pv 0) (pa_cons pe_str pa_nil)))) pss_nil))), ?_⟩
    have fin0 : ∀ {q : Addr} {o : HO}, H q = none → Post H (upd H q o) S v 0 := fun hq1 => Post.lay fun a o e => by rw [upd_ne (ne_of_none e hq1)]; exact e
    by_cases hl : AtV v ∨ IsO T H v
    · obtain ⟨ty, t1, t2, t3, t4⟩ := Dq.leaf (K := K) O hl
      refine WE.of (pv 0) ⟨v, rfl, ty, false, t1, t4, iteF ?_⟩
      refine WE.of (pv 0) ⟨v, rfl, ty, false, false, t1, t2, t3, fun q hq1 => iteF ?_⟩
      refine WE.of (pv 0) ⟨v, rfl, ty, false, tyx_upd hq1 t1, t2, iteF ?_⟩
      exact hq _ ((fin0 hq1).mono (Nat.zero_le _))
    cases n with
    | zero => exact absurd hd hl
    | succ m =>
      rcases hd with hd | hd | ⟨a, xs, cs, rfl, hh, hall, hsum⟩
      · exact absurd (.inl hd) hl
      · exact absurd (.inr hd) hl
      have st0 : ∀ {q : Addr} {o : HO}, H q = none → upd H q o a = H a := fun {q o} hq1 => by
        refine upd_ne ?_
        rintro rfl
        rcases hh with ⟨e, _⟩ | e <;> (rw [e] at hq1; cases hq1)
      rcases hh with ⟨e, hSa, hlen⟩ | e
      · obtain ⟨t1, t2, t3, t4⟩ := Dq.lstK (K := K) e
        refine WE.of (pv 0) ⟨.ref a, rfl, .type "list", false, t1, t4, iteF ?_⟩
        refine WE.of (pv 0) ⟨.ref a, rfl, .type "list", true, false, t1, t2, t3, fun q hq1 => iteT ?_⟩
        have P0 := fin0 (o := .tup [TC.cv T (.b .list), TC.cv T (.b .tuple)]) hq1
        have e0 := st0 (o := .tup [TC.cv T (.b .list), TC.cv T (.b .tuple)]) hq1
        generalize upd H q (.tup [TC.cv T (.b .list), TC.cv T (.b .tuple)]) = Hq at P0 e0 ⊢
        refine WI.of (pi_list (pv 0)) ⟨.ref a, rfl, a, rfl, ⟨xs, SqL.of (e0.trans e)⟩, ?_⟩
        refine for_it walk_list (fun i σ' H' => (∃ p, σ' = [some (.ref a), none, p]) ∧ Post H H' S (.ref a) (cs.take i).sum ∧ H' a = H a) ⟨⟨_, rfl⟩, P0.mono (Nat.zero_le _), e0⟩ (fun i σ' H' _ q => SqL.of (q.2.2.trans e)) ?_ ?_
        · rintro i x σ' H1 H2 hi ⟨⟨p, rfl⟩, P, e1⟩ ⟨rfl, hx⟩
          obtain ⟨k, d1, d2, d3⟩ := spoil_turn hall (.inl e) P e1 hx
          exact ⟨x, rfl, x, S, _, k, rfl, d1, by omega, fun H3 p3 => ⟨⟨_, rfl⟩, (d3 H3 p3).1, (d3 H3 p3).2⟩⟩
        · rintro σ' H' ⟨⟨p, rfl⟩, P, e1⟩
          obtain ⟨t1, t2, _, _⟩ := Dq.lstK (K := K) (e1.trans e)
          refine WE.of (pv 0) ⟨.ref a, rfl, .type "list", true, t1, t2, iteT ?_⟩
          exact ⟨.ref a, rfl, .inl ⟨rfl, xs, SqL.of (e1.trans e)⟩, a, xs, .str "late", rfl, rfl, e1.trans e, by omega, hq _ ((P.app hSa e (e1.trans e) (.str _)).mono (by have := sum_take_le (cs := cs) (i := xs.length); omega))⟩
      · obtain ⟨t1, t2, t3, t4⟩ := Dq.tupK (K := K) e
        refine WE.of (pv 0) ⟨.ref a, rfl, .type "tuple", false, t1, t4, iteF ?_⟩
        refine WE.of (pv 0) ⟨.ref a, rfl, .type "tuple", false, true, t1, t2, t3, fun q hq1 => iteT ?_⟩
        have P0 := fin0 (o := .tup [TC.cv T (.b .list), TC.cv T (.b .tuple)]) hq1
        have e0 := st0 (o := .tup [TC.cv T (.b .list), TC.cv T (.b .tuple)]) hq1
        generalize upd H q (.tup [TC.cv T (.b .list), TC.cv T (.b .tuple)]) = Hq at P0 e0 ⊢
        refine WI.of (pi_tup (pv 0)) ⟨.ref a, rfl, a, rfl, ⟨xs, SqT.of (e0.trans e)⟩, ?_⟩
        refine for_it walk_tup (fun i σ' H' => (∃ p, σ' = [some (.ref a), none, p]) ∧ Post H H' S (.ref a) (cs.take i).sum ∧ H' a = H a) ⟨⟨_, rfl⟩, P0.mono (Nat.zero_le _), e0⟩ (fun i σ' H' _ q => SqT.of (q.2.2.trans e)) ?_ ?_
        · rintro i x σ' H1 H2 hi ⟨⟨p, rfl⟩, P, e1⟩ ⟨rfl, hx⟩
          obtain ⟨k, d1, d2, d3⟩ := spoil_turn hall (.inr e) P e1 hx
          exact ⟨x, rfl, x, S, _, k, rfl, d1, by omega, fun H3 p3 => ⟨⟨_, rfl⟩, (d3 H3 p3).1, (d3 H3 p3).2⟩⟩
        · rintro σ' H' ⟨⟨p, rfl⟩, P, e1⟩
          obtain ⟨t1, t2, _, _⟩ := Dq.tupK (K := K) (e1.trans e)
          refine WE.of (pv 0) ⟨.ref a, rfl, .type "tuple", false, t1, t2, iteF ?_⟩
          exact hq _ (P.mono (by have := sum_take_le (cs := cs) (i := xs.length); omega))
end
end Lk
end
section
set_option autoImplicit false
namespace DL
open PySem PySem.Spec L2
/-- what follows, as simp does not look at it -/
class Kt (α : Type) : Type where
  f : α → Strm → Prop
def SureK {α : Type} (x : M α) (s : Strm) [k : Kt α] : Prop := ∃ a s', x s = some (.ok a, s') ∧ k.f a s'
def Sure {α : Type} (x : M α) (s : Strm) (P : α → Strm → Prop) : Prop := @SureK α x s ⟨P⟩
section
variable {α β : Type} {s s' : Strm} {P Q : α → Strm → Prop}
theorem Sure.pure {a : α} (h : P a s) : Sure (Pure.pure a : M α) s P := ⟨a, s, rfl, h⟩
theorem Sure.bind {x : M α} {f : α → M β} {P : β → Strm → Prop} (h : Sure x s fun a s1 => Sure (f a) s1 P) : Sure (x >>= f) s P := by
  obtain ⟨a, s1, e, b, s2, e2, q⟩ := h
  refine ⟨b, s2, ?_, q⟩
  rw [M.bind_eq, e]
  exact e2
theorem Sure.mono {x : M α} (h : Sure x s P) (k : ∀ a s', P a s' → Q a s') : Sure x s Q := by
  obtain ⟨a, s1, e, q⟩ := h
  exact ⟨a, s1, e, k a s1 q⟩
theorem Sure.of {o : Option α} {a : α} (e : o = some a) (h : P a s) : Sure (M.of o) s P := ⟨a, s, by rw [M.of, e]; rfl, h⟩
/-- the stream, with b draws at most behind it -/
def At (b : Int) (s : Strm) : Prop := StrmOk s ∧ s.cnt ≤ b
theorem eat_ok : ∀ (cells : List Int) (seed : Int), 0 ≤ seed → seed < 2147483629 → cells.length ≤ 63 → (eat cells seed).1.length ≤ 63 ∧ 0 ≤ (eat cells seed).2.1 ∧ 0 ≤ (eat cells seed).2.2 ∧ (eat cells seed).2.2 < 2147483629 := by
  intro cells
  induction cells with
  | nil => intro seed h1 h2 h3; simp [eat]; omega
  | cons c cs ih =>
    intro seed h1 h2 h3
    simp only [List.length_cons] at h3
    unfold eat
    generalize hc : (if c < 0 then -c else c) = c'
    have hc0 : 0 ≤ c' := by rw [← hc]; split <;> omega
    have k1 : 0 ≤ (seed * 6151 + c' + 7) % 2147483629 := Int.emod_nonneg _ (by decide)
    have k2 : (seed * 6151 + c' + 7) % 2147483629 < 2147483629 := Int.emod_lt_of_pos _ (by decide)
    by_cases q : 10 ^ 18 ≤ c'
    · rw [if_pos q]
      exact ⟨by show cs.length ≤ 63; omega, hc0, k1, k2⟩
    · rw [if_neg q]
      exact ih _ k1 k2 (by omega)
/-- a draw: a number below many -/
theorem sure_draw {b many : Int} {P : D → Strm → Prop} (h : At b s) (hb : b + 1 < 2 ^ 200) (h0 : 0 < many) (h1 : many < 1073741824) (k : ∀ i s', 0 ≤ i → i < many → At (b + 1) s' → P (.int i) s') : Sure (drawF [.stm, .int many]) s P := by
  obtain ⟨ok, hc⟩ := h
  refine ⟨.int (drawS many s).1, (drawS many s).2, by show (if StrmOk s ∧ 0 < many ∧ many < 1073741824 then _ else _) = _; rw [if_pos ⟨ok, h0, h1⟩], ?_⟩
  obtain ⟨o1, o2, o3, o4, o5, o6⟩ := ok
  have he : ∀ e : List Int × Int × Int, e = (if s.cur = 0 then eat s.cells s.seed else (s.cells, s.cur, s.seed)) → e.1.length ≤ 63 ∧ 0 ≤ e.2.1 ∧ 0 ≤ e.2.2 ∧ e.2.2 < 2147483629 := by
    rintro e rfl
    by_cases q : s.cur = 0
    · rw [if_pos q]; exact eat_ok _ _ o2 o3 o6
    · rw [if_neg q]; exact ⟨o6, o1, o2, o3⟩
  unfold drawS
  generalize hg : (if s.cur = 0 then eat s.cells s.seed else (s.cells, s.cur, s.seed)) = e at he
  obtain ⟨e1, e2, e3, e4⟩ := he _ rfl
  show P _ _
  dsimp only
  by_cases q : 0 < e.2.1
  · rw [if_pos q]
    exact k _ _ (Int.emod_nonneg _ (by omega)) (Int.emod_lt_of_pos _ h0) ⟨⟨Int.ediv_nonneg e2 (by omega), e3, e4, by show 0 ≤ s.cnt + 1; omega, by show s.cnt + 1 < 2 ^ 200; omega, e1⟩, by show s.cnt + 1 ≤ b + 1; omega⟩
  · rw [if_neg q]
    exact k _ _ (Int.emod_nonneg _ (by omega)) (Int.emod_lt_of_pos _ h0) ⟨⟨e2, e3, e4, by show 0 ≤ s.cnt + 1; omega, by show s.cnt + 1 < 2 ^ 200; omega, e1⟩, by show s.cnt + 1 ≤ b + 1; omega⟩
end
end DL
end
section
set_option autoImplicit false
namespace DL
open PySem PySem.Spec L2
section
variable {α β : Type} {s s' : Strm} {P Q : α → Strm → Prop}
theorem su_bind {x : M α} {f : α → M β} {P : β → Strm → Prop} : Sure (x >>= f) s P ↔ Sure x s fun a s1 => Sure (f a) s1 P := by
  refine ⟨fun h => ?_, Sure.bind⟩
  obtain ⟨b, s2, e, q⟩ := h
  rw [M.bind_eq] at e
  cases hx : x s with
  | none => rw [hx] at e; cases e
  | some rs =>
    obtain ⟨r, s1⟩ := rs
    rw [hx] at e
    cases r with
    | error z => cases e
    | ok a => exact ⟨a, s1, hx, b, s2, e, q⟩
theorem su_pure {a : α} : Sure (Pure.pure a : M α) s P ↔ P a s := ⟨(fun ⟨_, _, e, q⟩ => by cases e; exact q), Sure.pure⟩
theorem su_of {o : Option α} : Sure (M.of o) s P ↔ ∃ a, o = some a ∧ P a s := by
  refine ⟨fun ⟨a, s1, e, q⟩ => ?_, fun ⟨a, e, q⟩ => Sure.of e q⟩
  cases o with
  | none => cases e
  | some b => cases e; exact ⟨_, rfl, q⟩
theorem su_fail : Sure (M.fail : M α) s P ↔ False := ⟨(fun ⟨_, _, e, _⟩ => by cases e), False.elim⟩
theorem su_ite {p : Prop} [Decidable p] {x y : M α} : Sure (if p then x else y) s P ↔ (p → Sure x s P) ∧ (¬ p → Sure y s P) := by
  by_cases h : p
  · simp [h]
  · simp [h]
theorem su_noErr {x : M α} : Sure (noErr x) s P ↔ Sure x s P := by
  constructor
  · rintro ⟨a, s1, e, q⟩
    obtain ⟨b, h1, h2⟩ := noErr_some e
    cases h1
    exact ⟨a, s1, h2, q⟩
  · rintro ⟨a, s1, e, q⟩
    exact ⟨a, s1, by unfold noErr; rw [e], q⟩
theorem su_forAux {B : D → Env → M Out} {P : Out → Strm → Prop} {I : Nat → Env → Strm → Prop} : ∀ (items : List D) (k : Nat) (ρ : Env) (s : Strm), I k ρ s →
    (∀ i d ρ s, items[i]? = some d → I (k + i) ρ s → Sure (B d ρ) s fun o s' => (∃ ρ', (o = .nx ρ' ∨ o = .ct ρ') ∧ I (k + i + 1) ρ' s') ∨ ∃ v, o = .rt v ∧ P (.rt v) s') →
    (∀ ρ s, I (k + items.length) ρ s → P (.nx ρ) s) → Sure (forD B items ρ) s P
  | [], k, ρ, s, h0, _, h1 => su_pure.mpr (h1 ρ s h0)
  | d :: ds, k, ρ, s, h0, st, h1 => by
    unfold forD
    refine Sure.bind ((st 0 d ρ s rfl h0).mono fun o s' h => ?_)
    have rc : ∀ ρ', I (k + 0 + 1) ρ' s' → Sure (forD B ds ρ') s' P := fun ρ' hi => su_forAux ds (k + 1) ρ' s' hi
      (fun i d ρ s e hi => by
        have := st (i + 1) d ρ s (by simpa using e) (by rw [show k + (i + 1) = k + 1 + i by omega]; exact hi)
        rw [show k + (i + 1) = k + 1 + i by omega] at this
        exact this)
      fun ρ s hi => h1 ρ s (by rw [List.length_cons, show k + (ds.length + 1) = k + 1 + ds.length by omega]; exact hi)
    rcases h with ⟨ρ', rfl | rfl, hi⟩ | ⟨v, rfl, hv⟩
    · exact rc ρ' hi
    · exact rc ρ' hi
    · exact su_pure.mpr hv
/-- a for -/
theorem su_for {B : D → Env → M Out} {items : List D} {ρ : Env} {P : Out → Strm → Prop} (I : Nat → Env → Strm → Prop) (h0 : I 0 ρ s)
    (st : ∀ i d ρ s, items[i]? = some d → I i ρ s → Sure (B d ρ) s fun o s' => (∃ ρ', (o = .nx ρ' ∨ o = .ct ρ') ∧ I (i + 1) ρ' s') ∨ ∃ v, o = .rt v ∧ P (.rt v) s')
    (h1 : ∀ ρ s, I items.length ρ s → P (.nx ρ) s) : Sure (forD B items ρ) s P :=
  su_forAux (I := I) items 0 ρ s h0 (fun i d ρ s e hi => by rw [Nat.zero_add] at hi ⊢; exact st i d ρ s e hi) fun ρ s hi => h1 ρ s (by rw [Nat.zero_add] at hi; exact hi)
end
end DL
end
section
set_option autoImplicit false
namespace DL
open PySem PySem.Spec L2
section
variable {s s' : Strm}
def outP (P : D → Strm → Prop) : Out → Strm → Prop
  | .rt d, s => P d s
  | .nx _, s => P .non s
  | _, _ => False
theorem su_fnA {as : List Bool} {n : Nat} {B : SF} {ds : List D} {P : D → Strm → Prop} (ha : argsOk as ds = true) (h : Sure (B (ds.map some ++ List.replicate (n - as.length) none)) s (outP P)) : Sure (fnA as n B ds) s P := by
  obtain ⟨o, s1, e, q⟩ := h
  unfold fnA
  show ∃ a s', (if argsOk as ds = true then _ else _) = _ ∧ _
  rw [if_pos ha, e]
  cases o with
  | rt d => exact ⟨d, s1, rfl, q⟩
  | nx ρ => exact ⟨.non, s1, rfl, q⟩
  | bk ρ => exact q.elim
  | ct ρ => exact q.elim
theorem su_seq {F G : SF} {ρ : Env} {P : Out → Strm → Prop} : Sure (sSeq F G ρ) s P ↔ Sure (F ρ) s fun o s1 => match o with | .nx ρ' => Sure (G ρ') s1 P | o => P o s1 := by
  unfold sSeq
  rw [su_bind]
  constructor <;> (intro h; refine h.mono fun o s1 h => ?_) <;> (cases o <;> first | exact h | exact su_pure.mp h | exact su_pure.mpr h)
end
end DL
end
section
set_option autoImplicit false
namespace DL
open PySem PySem.Spec L2
structure LO {α : Type} [DecidableEq α] (f : α → D) (lt : α → α → Bool) (k : Nat) : Prop where
  pl : ∀ a, plain (f a) = true
  dp : ∀ a, dep (f a) ≤ k
  al : ∀ a b, PySem.W.alike (pyOf (f a)) (pyOf (f b)) = true
  hlt : ∀ a b, PySem.W.dataLt (pyOf (f a)) (pyOf (f b)) = lt a b
  ev : ∀ a b, PyData.eqv (pyOf (f a)) (pyOf (f b)) = decide (a = b)
  de : ∀ a b, deq (f a) (f b) = decide (a = b)
  kd : (∀ a, isTupB (pyOf (f a)) = true) ∨ (∀ a, notTupB (pyOf (f a)) = true)
  ir : ∀ a, lt a a = false
  tr : ∀ a b c, lt a b = true → lt b c = true → lt a c = true
  tri : ∀ a b, lt a b = false → lt b a = false → a = b
def sortT {α : Type} (lt : α → α → Bool) (xs : List α) : List α := xs.mergeSort fun a b => !lt b a
section
variable {α β : Type} [DecidableEq α] [DecidableEq β] {f : α → D} {lt : α → α → Bool} {k : Nat} {g : β → D} {lt2 : β → β → Bool} {k2 : Nat}
theorem LO.asym (h : LO f lt k) {a b : α} (x : lt a b = true) : lt b a = false := by
  cases q : lt b a with
  | false => rfl
  | true => have := h.tr a b a x q; rw [h.ir] at this; cases this
theorem LO.neg (h : LO f lt k) {a b c : α} (x : lt a b = false) (y : lt b c = false) : lt a c = false := by
  cases q : lt a c with
  | false => rfl
  | true =>
    cases z : lt b a with
    | true => rw [h.tr b a c z q] at y; cases y
    | false => rw [h.tri a b x z] at q; rw [q] at y; cases y
theorem LO.dle (h : LO f lt k) (a b : α) : DL.dle (f a) (f b) = !lt b a := by
  rw [← h.hlt b a]; rfl
theorem LO.plt (h : LO f lt k) (a b : α) : DL.plt (f a) (f b) = lt a b := h.hlt a b
theorem sortT_perm (lt : α → α → Bool) (xs : List α) : (sortT lt xs).Perm xs := List.mergeSort_perm _ _
theorem sortT_mem {xs : List α} {a : α} : a ∈ sortT lt xs ↔ a ∈ xs := List.mem_mergeSort
theorem sortT_len (xs : List α) : (sortT lt xs).length = xs.length := (sortT_perm lt xs).length_eq
theorem LO.sorted (h : LO f lt k) (xs : List α) : (sortT lt xs).Pairwise fun a b => lt b a = false := by
  have := List.pairwise_mergeSort (le := fun a b => !lt b a) (fun a b c x y => by simp at *; exact h.neg y x) (fun a b => by
    cases q : lt a b with
    | false => simp
    | true => simp [h.asym q]) xs
  exact this.imp fun z => by simpa using z
theorem LO.unique (h : LO f lt k) {xs ys : List α} (p : xs.Perm ys) (hx : xs.Pairwise fun a b => lt b a = false) (hy : ys.Pairwise fun a b => lt b a = false) : xs = ys :=
  List.Perm.eq_of_pairwise (le := fun a b => lt b a = false) (fun a b _ _ x y => h.tri a b y x) hx hy p
theorem LO.sort_perm (h : LO f lt k) {xs ys : List α} (p : xs.Perm ys) : sortT lt xs = sortT lt ys :=
  h.unique (((sortT_perm lt xs).trans p).trans (sortT_perm lt ys).symm) (h.sorted xs) (h.sorted ys)
theorem LO.sort_of (h : LO f lt k) {xs : List α} (hx : xs.Pairwise fun a b => lt b a = false) : sortT lt xs = xs := h.unique (sortT_perm lt xs) (h.sorted xs) hx
theorem LO.srt (h : LO f lt k) (xs : List α) : DL.srt (xs.map f) = (sortT lt xs).map f := by
  unfold DL.srt sortT
  exact (List.map_mergeSort fun a _ b _ => (h.dle a b).symm).symm
theorem plainL_map (h : ∀ a, plain (f a) = true) (xs : List α) : plainL (xs.map f) = true := by
  induction xs with
  | nil => rfl
  | cons x xs ih => simp [plainL, h, ih]
theorem depL_map {n : Nat} (h : ∀ a, dep (f a) ≤ n) (xs : List α) : depL (xs.map f) ≤ n := by
  induction xs with
  | nil => simp [depL]
  | cons x xs ih => simp only [List.map_cons, depL]; have := h x; omega
theorem LO.ok (h : LO f lt k) (hk : k ≤ 50) (a : α) : okD (f a) = true := by
  have := h.dp a
  unfold okD
  rw [h.pl, Bool.true_and]
  exact decide_eq_true (by omega)
theorem LO.okL (h : LO f lt k) (hk : k < 50) (xs : List α) : okD (.lst (xs.map f)) = true := by
  have := depL_map h.dp xs
  unfold okD
  rw [plain, plainL_map h.pl, Bool.true_and, dep]
  exact decide_eq_true (by omega)
theorem LO.okT (h : LO f lt k) (hk : k < 50) (xs : List α) : okD (.tup (xs.map f)) = true := by
  have := depL_map h.dp xs
  unfold okD
  rw [plain, plainL_map h.pl, Bool.true_and, dep]
  exact decide_eq_true (by omega)
theorem LO.sortOk (h : LO f lt k) (hk : k ≤ 50) {xs : List α} (hl : xs.length ≤ sizeLine) : DL.sortOk (xs.map f) = true := by
  unfold DL.sortOk
  have h1 : (xs.map f).all okD = true := List.all_eq_true.mpr fun d hd => by obtain ⟨a, _, rfl⟩ := List.mem_map.mp hd; exact h.ok hk a
  have h2 : ((xs.map f).all fun a => (xs.map f).all fun b => PySem.W.alike (pyOf a) (pyOf b)) = true := List.all_eq_true.mpr fun d hd => List.all_eq_true.mpr fun e he => by
    obtain ⟨a, _, rfl⟩ := List.mem_map.mp hd; obtain ⟨b, _, rfl⟩ := List.mem_map.mp he; exact h.al a b
  have h3 : (((xs.map f).all fun a => isTupB (pyOf a)) || ((xs.map f).all fun a => notTupB (pyOf a))) = true := by
    rcases h.kd with q | q
    · rw [List.all_eq_true.mpr fun d hd => by obtain ⟨a, _, rfl⟩ := List.mem_map.mp hd; exact q a]; rfl
    · rw [Bool.or_eq_true]; exact .inr (List.all_eq_true.mpr fun d hd => by obtain ⟨a, _, rfl⟩ := List.mem_map.mp hd; exact q a)
  rw [h1, h2, h3, List.length_map]
  simpa using hl
theorem LO.sortedL (h : LO f lt k) (hk : k ≤ 50) {xs : List α} (hl : xs.length ≤ sizeLine) : sortedD [.lst (xs.map f)] = some (.lst ((sortT lt xs).map f)) := by
  show (if DL.sortOk (xs.map f) = true then some (D.lst (DL.srt (xs.map f))) else none) = _
  rw [if_pos (h.sortOk hk hl), h.srt]
theorem LO.sortedT (h : LO f lt k) (hk : k ≤ 50) {xs : List α} (hl : xs.length ≤ sizeLine) : sortedD [.tup (xs.map f)] = some (.lst ((sortT lt xs).map f)) := by
  show (if DL.sortOk (xs.map f) = true then some (D.lst (DL.srt (xs.map f))) else none) = _
  rw [if_pos (h.sortOk hk hl), h.srt]
theorem LO.mem (h : LO f lt k) (a : α) (xs : List α) : memD (f a) (xs.map f) = decide (a ∈ xs) := by
  unfold memD
  rw [List.any_map]
  induction xs with
  | nil => simp
  | cons x xs ih =>
    rw [List.any_cons, ih]
    show (deq (f x) (f a) || _) = _
    rw [h.de]
    by_cases q : x = a
    · subst q; simp
    · by_cases z : a ∈ xs
      · simp [q, z]
      · simp [q, z, Ne.symm q]
theorem LO.inL (h : LO f lt k) (hk : k < 50) (a : α) (xs : List α) : inB (f a) (.lst (xs.map f)) = some (decide (a ∈ xs)) := by
  show (if okD (f a) && okD (.lst (xs.map f)) then some (memD (f a) (xs.map f)) else none) = _
  rw [h.ok (by omega), h.okL hk, h.mem]; rfl
theorem LO.inT (h : LO f lt k) (hk : k < 50) (a : α) (xs : List α) : inB (f a) (.tup (xs.map f)) = some (decide (a ∈ xs)) := by
  show (if okD (f a) && okD (.tup (xs.map f)) then some (memD (f a) (xs.map f)) else none) = _
  rw [h.ok (by omega), h.okT hk, h.mem]; rfl
theorem LO.eq (h : LO f lt k) (hk : k ≤ 50) (a b : α) : eqD (f a) (f b) = some (.bl (decide (a = b))) := by
  unfold eqD
  rw [h.ok hk, h.ok hk, h.de]; rfl
theorem LO.ne (h : LO f lt k) (hk : k ≤ 50) (a b : α) : neD (f a) (f b) = some (.bl (decide (a ≠ b))) := by
  unfold neD
  rw [h.ok hk, h.ok hk, h.de]; simp
theorem LO.nn (h : LO f lt k) (a : α) : (match f a with | .non => false | _ => true) = true := by
  have : notTupB (pyOf (f a)) = true ∨ isTupB (pyOf (f a)) = true := h.kd.elim (fun q => .inr (q a)) fun q => .inl (q a)
  revert this
  cases f a <;> simp [pyOf, toPy, notTupB, isTupB]
theorem LO.cmpOk (h : LO f lt k) (hk : k ≤ 50) (xs : List α) : DL.cmpOk (xs.map f) = true := by
  unfold DL.cmpOk
  have h1 : (xs.map f).all okD = true := List.all_eq_true.mpr fun d hd => by obtain ⟨a, _, rfl⟩ := List.mem_map.mp hd; exact h.ok hk a
  have h2 : ((xs.map f).all fun a => (xs.map f).all fun b => PySem.W.alike (pyOf a) (pyOf b)) = true := List.all_eq_true.mpr fun d hd => List.all_eq_true.mpr fun e he => by
    obtain ⟨a, _, rfl⟩ := List.mem_map.mp hd; obtain ⟨b, _, rfl⟩ := List.mem_map.mp he; exact h.al a b
  have h3 : ((xs.map f).all fun a => match a with | .non => false | _ => true) = true := List.all_eq_true.mpr fun d hd => by obtain ⟨a, _, rfl⟩ := List.mem_map.mp hd; exact h.nn a
  rw [h1, h2]
  exact h3
end
def ltS (x y : Str) : Bool := decide (x.cps.toList < y.cps.toList)
def ltI (x y : Int) : Bool := decide (x < y)
def ltP {α β : Type} [DecidableEq α] (l1 : α → α → Bool) (l2 : β → β → Bool) (x y : α × β) : Bool := if x.1 = y.1 then l2 x.2 y.2 else l1 x.1 y.1
def ltL {α : Type} [DecidableEq α] (l : α → α → Bool) : List α → List α → Bool
  | [], [] => false
  | [], _ :: _ => true
  | _ :: _, [] => false
  | x :: xs, y :: ys => if x = y then ltL l xs ys else l x y
def eP {α β : Type} (f : α → D) (g : β → D) (p : α × β) : D := .tup [f p.1, g p.2]
def eL {α : Type} (f : α → D) (xs : List α) : D := .lst (xs.map f)
theorem str_ext {x y : Str} (h : x.cps.toList = y.cps.toList) : x = y := PySem.W.str_of_cps h
theorem pyOf_str (x : Str) : pyOf (.str x) = .str x := by simp [pyOf, toPy]
theorem pyOf_int (x : Int) : pyOf (.int x) = .int x := by simp [pyOf, toPy]
theorem LO.str : LO D.str ltS 0 where
  pl _ := by simp [plain]
  dp _ := by simp [dep]
  al a b := by rw [pyOf_str, pyOf_str]; simp [PySem.W.alike]
  hlt a b := by rw [pyOf_str, pyOf_str, PySem.W.dataLt_str]; rfl
  ev a b := by rw [pyOf_str, pyOf_str]; simp [PyData.eqv]; by_cases q : a = b <;> simp [q]
  de a b := by simp [deq]; by_cases q : a = b <;> simp [q]
  kd := .inr fun a => by rw [pyOf_str]; rfl
  ir a := by simp [ltS, List.lt_irrefl]
  tr a b c h1 h2 := by simp only [ltS, decide_eq_true_eq] at *; exact List.lt_trans h1 h2
  tri a b h1 h2 := by
    simp only [ltS, decide_eq_false_iff_not, List.not_lt] at *
    exact str_ext (List.le_antisymm h2 h1)
theorem LO.int : LO D.int ltI 0 where
  pl _ := by simp [plain]
  dp _ := by simp [dep]
  al a b := by rw [pyOf_int, pyOf_int]; simp [PySem.W.alike]
  hlt a b := by rw [pyOf_int, pyOf_int, PySem.W.dataLt_int]; rfl
  ev a b := by rw [pyOf_int, pyOf_int]; simp [PyData.eqv]; by_cases q : a = b <;> simp [q]
  de a b := by simp [deq]; by_cases q : a = b <;> simp [q]
  kd := .inr fun a => by rw [pyOf_int]; rfl
  ir a := by simp [ltI]
  tr a b c h1 h2 := by simp only [ltI, decide_eq_true_eq] at *; omega
  tri a b h1 h2 := by simp only [ltI, decide_eq_false_iff_not] at *; omega
section
variable {α β : Type} [DecidableEq α] [DecidableEq β] {f : α → D} {lt : α → α → Bool} {k : Nat} {g : β → D} {lt2 : β → β → Bool} {k2 : Nat}
theorem toPyL_map (h : ∀ a, plain (f a) = true) (xs : List α) : toPyL (xs.map f) = some (xs.map fun a => pyOf (f a)) := by
  induction xs with
  | nil => rfl
  | cons x xs ih =>
    obtain ⟨y, e⟩ := toPy_plain (f x) (h x)
    rw [List.map_cons, toPyL_cons, ih, e]
    simp [pyOf, e]
theorem LO.pyL (h : LO f lt k) (xs : List α) : pyOf (eL f xs) = .list (xs.map fun a => pyOf (f a)) := by
  unfold eL pyOf
  rw [toPy, toPyL_map h.pl]; rfl
theorem LO.pyP (h : LO f lt k) (h2 : LO g lt2 k2) (p : α × β) : pyOf (eP f g p) = .tuple [pyOf (f p.1), pyOf (g p.2)] := by
  obtain ⟨y, e⟩ := toPy_plain (f p.1) (h.pl _)
  obtain ⟨y2, e2⟩ := toPy_plain (g p.2) (h2.pl _)
  simp [eP, pyOf, toPy, toPyL, e, e2]
theorem LO.alL (h : LO f lt k) : ∀ xs ys : List α, PySem.W.alikeAll (xs.map fun a => pyOf (f a)) (ys.map fun a => pyOf (f a)) = true
  | [], ys => by cases ys <;> simp [PySem.W.alikeAll]
  | x :: xs, [] => by simp [PySem.W.alikeAll]
  | x :: xs, y :: ys => by simp [PySem.W.alikeAll, h.al, h.alL xs ys]
theorem LO.evL (h : LO f lt k) : ∀ xs ys : List α, PyData.eqvAll (xs.map fun a => pyOf (f a)) (ys.map fun a => pyOf (f a)) = decide (xs = ys)
  | [], [] => by simp [PyData.eqvAll]
  | [], y :: ys => by simp [PyData.eqvAll]
  | x :: xs, [] => by simp [PyData.eqvAll]
  | x :: xs, y :: ys => by
    rw [List.map_cons, List.map_cons, PySem.W.eqv_all_cons, h.ev, h.evL xs ys]
    by_cases q : x = y <;> by_cases z : xs = ys <;> simp [q, z]
theorem LO.deL (h : LO f lt k) : ∀ xs ys : List α, deqL (xs.map f) (ys.map f) = decide (xs = ys)
  | [], [] => by simp [deqL]
  | [], y :: ys => by simp [deqL]
  | x :: xs, [] => by simp [deqL]
  | x :: xs, y :: ys => by
    simp only [List.map_cons, deqL, h.de, h.deL xs ys]
    by_cases q : x = y <;> by_cases z : xs = ys <;> simp [q, z]
theorem lex0 : PyProof.Rows.lexLt PyProof.Rows.itemOrd (PySem.W.keyToksAll []) (PySem.W.keyToksAll []) = false := by decide
theorem LO.ltL (h : LO f lt k) : ∀ xs ys : List α, PyProof.Rows.lexLt PyProof.Rows.itemOrd (PySem.W.keyToksAll (xs.map fun a => pyOf (f a))) (PySem.W.keyToksAll (ys.map fun a => pyOf (f a))) = DL.ltL lt xs ys
  | [], [] => lex0
  | [], y :: ys => by
    rw [List.map_nil, List.map_cons, PySem.W.toks_all_cons, PySem.W.keyToksAll]
    simp [PyProof.Rows.lexLt, DL.ltL, PyProof.Rows.itemLt]
  | x :: xs, [] => by
    rw [List.map_nil, List.map_cons, PySem.W.toks_all_cons, PySem.W.keyToksAll]
    simp [PyProof.Rows.lexLt, DL.ltL, PyProof.Rows.itemLt]
  | x :: xs, y :: ys => by
    rw [List.map_cons, List.map_cons]
    unfold DL.ltL
    by_cases q : x = y
    · rw [if_pos q, PySem.W.dataLt_all_yes (h.al x y) (by rw [h.ev]; simp [q])]
      exact h.ltL xs ys
    · rw [if_neg q, PySem.W.dataLt_all_no (h.al x y) (by rw [h.ev]; simp [q])]
      exact h.hlt x y
theorem ltL_ir (h : LO f lt k) : ∀ a : List α, DL.ltL lt a a = false
  | [] => rfl
  | x :: xs => by simp [DL.ltL, ltL_ir h xs]
theorem ltL_tri (h : LO f lt k) : ∀ a b : List α, DL.ltL lt a b = false → DL.ltL lt b a = false → a = b
  | [], [], _, _ => rfl
  | [], y :: ys, h1, _ => by simp [DL.ltL] at h1
  | x :: xs, [], _, h1 => by simp [DL.ltL] at h1
  | x :: xs, y :: ys, h1, h2 => by
    unfold DL.ltL at h1 h2
    by_cases q : x = y
    · subst q
      rw [if_pos rfl] at h1 h2
      rw [ltL_tri h xs ys h1 h2]
    · rw [if_neg q] at h1
      rw [if_neg (Ne.symm q)] at h2
      exact absurd (h.tri x y h1 h2) q
theorem ltL_tr (h : LO f lt k) : ∀ a b c : List α, DL.ltL lt a b = true → DL.ltL lt b c = true → DL.ltL lt a c = true
  | [], b, [], h1, h2 => by cases b <;> simp [DL.ltL] at h1 h2
  | [], b, z :: zs, _, _ => rfl
  | x :: xs, [], c, h1, _ => by simp [DL.ltL] at h1
  | x :: xs, y :: ys, [], _, h2 => by simp [DL.ltL] at h2
  | x :: xs, y :: ys, z :: zs, h1, h2 => by
    unfold DL.ltL at h1 h2 ⊢
    by_cases q : x = y
    · subst q
      rw [if_pos rfl] at h1
      by_cases w : x = z
      · subst w
        rw [if_pos rfl] at h2 ⊢
        exact ltL_tr h xs ys zs h1 h2
      · rw [if_neg w] at h2 ⊢
        exact h2
    · rw [if_neg q] at h1
      by_cases w : y = z
      · subst w
        rw [if_neg q]; exact h1
      · rw [if_neg w] at h2
        have t := h.tr x y z h1 h2
        by_cases v : x = z
        · subst v; rw [h.ir] at t; cases t
        · rw [if_neg v]; exact t
/-- lists -/
theorem LO.list (h : LO f lt k) : LO (eL f) (DL.ltL lt) (k + 1) where
  pl a := by simp [eL, plain, plainL_map h.pl]
  dp a := by have := depL_map h.dp a; simp only [eL, dep]; omega
  al a b := by rw [h.pyL, h.pyL]; simp [PySem.W.alike, h.alL]
  hlt a b := by rw [h.pyL, h.pyL, PySem.W.dataLt_list, h.ltL]
  ev a b := by rw [h.pyL, h.pyL]; simp only [PyData.eqv]; exact h.evL a b
  de a b := by simp only [eL, deq]; exact h.deL a b
  kd := .inr fun a => by rw [h.pyL]; rfl
  ir := ltL_ir h
  tr := ltL_tr h
  tri := ltL_tri h
/-- pairs -/
theorem LO.pair (h : LO f lt k) (h2 : LO g lt2 k2) : LO (eP f g) (ltP lt lt2) (max k k2 + 1) where
  pl a := by simp [eP, plain, plainL, h.pl, h2.pl]
  dp a := by have := h.dp a.1; have := h2.dp a.2; simp only [eP, dep, depL]; omega
  al a b := by rw [h.pyP h2, h.pyP h2]; simp [PySem.W.alike, PySem.W.alikeAll, h.al, h2.al]
  hlt a b := by
    rw [h.pyP h2, h.pyP h2, PySem.W.dataLt_tuple]
    unfold ltP
    by_cases q : a.1 = b.1
    · rw [if_pos q, PySem.W.dataLt_all_yes (h.al _ _) (by rw [h.ev]; simp [q])]
      by_cases z : a.2 = b.2
      · rw [PySem.W.dataLt_all_yes (h2.al _ _) (by rw [h2.ev]; simp [z]), z, h2.ir]; exact lex0
      · rw [PySem.W.dataLt_all_no (h2.al _ _) (by rw [h2.ev]; simp [z])]; exact h2.hlt _ _
    · rw [if_neg q, PySem.W.dataLt_all_no (h.al _ _) (by rw [h.ev]; simp [q])]; exact h.hlt _ _
  ev a b := by
    obtain ⟨a1, a2⟩ := a; obtain ⟨b1, b2⟩ := b
    rw [h.pyP h2, h.pyP h2]
    simp only [PyData.eqv, PyData.eqvAll, h.ev, h2.ev]
    by_cases q : a1 = b1 <;> by_cases z : a2 = b2 <;> simp [q, z]
  de a b := by
    obtain ⟨a1, a2⟩ := a; obtain ⟨b1, b2⟩ := b
    simp only [eP, deq, deqL, h.de, h2.de]
    by_cases q : a1 = b1 <;> by_cases z : a2 = b2 <;> simp [q, z]
  kd := .inl fun a => by rw [h.pyP h2]; rfl
  ir a := by simp [ltP, h2.ir]
  tr a b c x y := by
    unfold ltP at *
    by_cases q : a.1 = b.1
    · rw [if_pos q] at x
      by_cases z : b.1 = c.1
      · rw [if_pos z] at y
        rw [if_pos (q.trans z)]
        exact h2.tr _ _ _ x y
      · rw [if_neg z] at y
        rw [if_neg (q ▸ z), q]
        exact y
    · rw [if_neg q] at x
      by_cases z : b.1 = c.1
      · rw [if_neg (z ▸ q), ← z]; exact x
      · rw [if_neg z] at y
        have t := h.tr _ _ _ x y
        by_cases v : a.1 = c.1
        · rw [v, h.ir] at t; cases t
        · rw [if_neg v]; exact t
  tri a b x y := by
    unfold ltP at *
    by_cases q : a.1 = b.1
    · rw [if_pos q] at x
      rw [if_pos q.symm] at y
      exact Prod.ext q (h2.tri _ _ x y)
    · rw [if_neg q] at x
      rw [if_neg (Ne.symm q)] at y
      exact absurd (h.tri _ _ x y) q
end
/-- roads -/
abbrev Rd := Str × Str
abbrev eR : Rd → D := eP D.str D.str
abbrev ltR : Rd → Rd → Bool := ltP ltS ltS
theorem LO.road : LO eR ltR 1 := LO.str.pair LO.str
end DL
end
section
set_option autoImplicit false
namespace DL
open PySem PySem.Spec L2
section
variable {α β : Type} {s s' : Strm}
@[simp ↓] theorem sure_k {x : M α} {P : α → Strm → Prop} : Sure x s P = @SureK α x s ⟨P⟩ := rfl
class Kf (α : Type) : Type where
  f : α → Prop
class KtP : Type where
  p : Prop
/-- a value, and what follows -/
def optI (o : Option α) [k : Kf α] : Prop := ∃ a, o = some a ∧ k.f a
def optK (o : Option α) (f : α → Prop) : Prop := @optI α o ⟨f⟩
@[simp ↓] theorem optK_k {o : Option α} {f : α → Prop} : optK o f = @optI α o ⟨f⟩ := rfl
@[simp] theorem optK_some {a : α} {f : α → Prop} : @optI α (some a) ⟨f⟩ = f a := propext ⟨fun ⟨_, e, h⟩ => by cases e; exact h, fun h => ⟨a, rfl, h⟩⟩
@[simp] theorem optK_none {f : α → Prop} : @optI α none ⟨f⟩ = False := propext ⟨fun ⟨_, e, _⟩ => (by cases e), False.elim⟩
theorem ok {o : Option α} {a : α} {f : α → Prop} (e : o = some a) (h : f a) : optK o f := ⟨a, e, h⟩
/-- a truth, and what follows -/
def ifI (b : Bool) [k : KtP] [l : KtP] : Prop := (b = true → k.p) ∧ (b = false → l.p)
def ifK (b : Bool) (A B : Prop) : Prop := @ifI b ⟨A⟩ ⟨B⟩
@[simp ↓] theorem ifK_k {b : Bool} {A B : Prop} : ifK b A B = @ifI b ⟨A⟩ ⟨B⟩ := rfl
@[simp] theorem ifK_true {A B : Prop} : @ifI true ⟨A⟩ ⟨B⟩ = A := propext ⟨fun h => h.1 rfl, fun h => ⟨fun _ => h, fun e => (by cases e)⟩⟩
@[simp] theorem ifK_false {A B : Prop} : @ifI false ⟨A⟩ ⟨B⟩ = B := propext ⟨fun h => h.2 rfl, fun h => ⟨fun e => (by cases e), fun _ => h⟩⟩
theorem ik {b : Bool} {A B : Prop} (h1 : b = true → A) (h2 : b = false → B) : ifK b A B := ⟨h1, h2⟩
/-- by a question -/
theorem iq {p : Prop} {_ : Decidable p} {A B : Prop} (h1 : p → A) (h2 : ¬ p → B) : ifK (decide p) A B := ⟨fun e => h1 (of_decide_eq_true e), fun e => h2 (of_decide_eq_false e)⟩
theorem iqT {p : Prop} {_ : Decidable p} {A B : Prop} (h : p) (h1 : A) : ifK (decide p) A B := iq (fun _ => h1) fun n => absurd h n
theorem iqF {p : Prop} {_ : Decidable p} {A B : Prop} (h : ¬ p) (h1 : B) : ifK (decide p) A B := iq (fun n => absurd n h) fun _ => h1
/-- a condition, and what follows -/
def andI (c : Prop) [k : KtP] : Prop := c ∧ k.p
def andK (c A : Prop) : Prop := @andI c ⟨A⟩
@[simp ↓] theorem andK_k {c A : Prop} : andK c A = @andI c ⟨A⟩ := rfl
@[simp] theorem andK_true {A : Prop} : @andI True ⟨A⟩ = A := propext ⟨fun h => h.2, fun h => ⟨trivial, h⟩⟩
@[simp] theorem andK_false {A : Prop} : @andI False ⟨A⟩ = False := propext ⟨fun h => h.1, False.elim⟩
theorem ak {c A : Prop} (h1 : c) (h2 : A) : andK c A := ⟨h1, h2⟩
@[simp] theorem optK_ite {p : Prop} {_ : Decidable p} {a : α} {f : α → Prop} : @optI α (if p then some a else none) ⟨f⟩ = andK p (f a) := propext (by
  constructor
  · rintro ⟨b, h1, h2⟩
    by_cases z : p
    · rw [if_pos z] at h1; cases h1; exact ⟨z, h2⟩
    · rw [if_neg z] at h1; cases h1
  · rintro ⟨h1, h2⟩; exact ⟨a, if_pos h1, h2⟩)
@[simp] theorem optK_map {o : Option β} {g : β → α} {f : α → Prop} : @optI α (o.map g) ⟨f⟩ = optK o fun b => f (g b) := propext (by
  constructor
  · rintro ⟨a, h1, h2⟩
    obtain ⟨b, e, rfl⟩ := Option.map_eq_some_iff.mp h1
    exact ⟨b, e, h2⟩
  · rintro ⟨b, rfl, h2⟩; exact ⟨_, rfl, h2⟩)
theorem p_some {a : α} {f : α → Prop} : optK (some a) f = f a := optK_some
theorem p_none {f : α → Prop} : optK (none : Option α) f = False := optK_none
theorem p_ite {p : Prop} {_ : Decidable p} {a : α} {f : α → Prop} : optK (if p then some a else none) f = andK p (f a) := optK_ite
theorem p_map {o : Option β} {g : β → α} {f : α → Prop} : optK (o.map g) f = optK o fun b => f (g b) := optK_map
theorem p_of {o : Option α} {P : α → Strm → Prop} : Sure (M.of o) s P ↔ optK o fun a => P a s := su_of
@[simp] theorem s_bind {x : M α} {f : α → M β} {P : β → Strm → Prop} : @SureK _ (x >>= f) s ⟨P⟩ ↔ Sure x s fun a s1 => Sure (f a) s1 P := su_bind
@[simp] theorem s_pure {a : α} {P : α → Strm → Prop} : @SureK _ (Pure.pure a : M α) s ⟨P⟩ ↔ P a s := su_pure
@[simp] theorem s_of {o : Option α} {P : α → Strm → Prop} : @SureK _ (M.of o) s ⟨P⟩ ↔ optK o fun a => P a s := su_of
@[simp] theorem s_ite {p : Prop} {_ : Decidable p} {x y : M α} {P : α → Strm → Prop} : @SureK _ (if p then x else y) s ⟨P⟩ ↔ ifK (decide p) (Sure x s P) (Sure y s P) := by
  show Sure _ _ _ ↔ _
  rw [su_ite]
  exact ⟨fun h => ⟨fun e => h.1 (of_decide_eq_true e), fun e => h.2 (of_decide_eq_false e)⟩, fun h => ⟨fun p => h.1 (decide_eq_true p), fun p => h.2 (decide_eq_false p)⟩⟩
@[simp] theorem s_fail {P : α → Strm → Prop} : @SureK _ (M.fail : M α) s ⟨P⟩ ↔ False := su_fail
@[simp] theorem s_noErr {x : M α} {P : α → Strm → Prop} : @SureK _ (noErr x) s ⟨P⟩ ↔ Sure x s P := su_noErr
end
section
variable {s s' : Strm} {ρ : Env} {i j n : Nat} {d e : D} {x : Str} {q : Bool}
variable {P : D → Strm → Prop} {PO : Out → Strm → Prop} {PB : Bool → Strm → Prop} {PL : List D → Strm → Prop} {PI : Option Int → Strm → Prop} {PD : Option D → Strm → Prop} {PU : Unit → Strm → Prop}
variable {F G : SF} {Fa Fb Fc Fe Fo Fv Fk : EF} {Fs : AF} {Ft Fu : TF} {Fi : IF} {g : GF} {gs : GFs} {f f' : D → D → Option D} {u : D → Option D} {c : List D → Option D}
theorem ifK_eq {b : Bool} {A B : Prop} : ifK b A B ↔ (b = true → A) ∧ (b = false → B) := Iff.rfl
@[simp] theorem w_var : @SureK _ (fVar i ρ) s ⟨P⟩ ↔ optK (ρ[i]?.join) fun d => P d s := su_of
@[simp] theorem w_C : @SureK _ (fC d ρ) s ⟨P⟩ ↔ P d s := su_pure
@[simp] theorem w_op : @SureK _ (fOp f Fa Fb ρ) s ⟨P⟩ ↔ Sure (Fa ρ) s fun x s1 => Sure (Fb ρ) s1 fun y s2 => optK (f x y) fun z => P z s2 := by
  show Sure _ _ _ ↔ _
  simp only [fOp, su_bind, p_of]
@[simp] theorem w_un : @SureK _ (fUn u Fa ρ) s ⟨P⟩ ↔ Sure (Fa ρ) s fun x s1 => optK (u x) fun z => P z s1 := by
  show Sure _ _ _ ↔ _
  simp only [fUn, su_bind, p_of]
@[simp] theorem w_call : @SureK _ (fCall c Fs ρ) s ⟨P⟩ ↔ Sure (Fs ρ) s fun x s1 => optK (c x) fun z => P z s1 := by
  show Sure _ _ _ ↔ _
  simp only [fCall, su_bind, p_of]
@[simp] theorem w_fn {h : List D → M D} : @SureK _ (fFn h Fs ρ) s ⟨P⟩ ↔ Sure (Fs ρ) s fun xs s1 => Sure (h xs) s1 P := by
  show Sure _ _ _ ↔ _
  simp only [fFn, su_bind]
@[simp] theorem w_fnK {h : List D → M D} {gD : List D → List D} : @SureK _ (fFnK h gD Fs ρ) s ⟨P⟩ ↔ Sure (Fs ρ) s fun xs s1 => Sure (h (gD xs)) s1 P := by
  show Sure _ _ _ ↔ _
  simp only [fFnK, su_bind]
@[simp] theorem w_met {c : Nat} {mn : Str} {fs : List (Str × D)} {c' : Nat} : @SureK _ (metM c mn (.obj c' fs)) s ⟨PU⟩ ↔ andK (c' = c ∧ (fs.all fun p => decide (p.1 ≠ mn)) = true) (PU () s) := by
  show Sure _ _ _ ↔ _
  unfold metM
  dsimp only
  by_cases h : c' = c ∧ (fs.all fun p => decide (p.1 ≠ mn)) = true
  · rw [if_pos h, su_pure]; exact ⟨fun k => ⟨h, k⟩, fun k => k.2⟩
  · rw [if_neg h, su_fail]; exact ⟨False.elim, fun k => h k.1⟩
@[simp] theorem w_meth {c : Nat} {mn : Str} {h : List D → M D} : @SureK _ (fMeth c mn h Fo Fs ρ) s ⟨P⟩ ↔ Sure (Fo ρ) s fun o s1 => Sure (metM c mn o) s1 fun _ s2 => Sure (Fs ρ) s2 fun xs s3 => Sure (h (o :: xs)) s3 P := by
  show Sure _ _ _ ↔ _
  simp only [fMeth, su_bind]
@[simp] theorem w_meth0 {c : Nat} {mn : Str} {h : List D → M D} : @SureK _ (fMeth0 c mn h Fo ρ) s ⟨P⟩ ↔ Sure (Fo ρ) s fun o s1 => Sure (metM c mn o) s1 fun _ s2 => Sure (h [o]) s2 P := by
  show Sure _ _ _ ↔ _
  simp only [fMeth0, su_bind]
@[simp] theorem w_aNil : @SureK _ (aNil ρ) s ⟨PL⟩ ↔ PL [] s := su_pure
@[simp] theorem w_aCons : @SureK _ (aCons Fa Fs ρ) s ⟨PL⟩ ↔ Sure (Fa ρ) s fun x s1 => Sure (Fs ρ) s1 fun xs s2 => PL (x :: xs) s2 := by
  show Sure _ _ _ ↔ _
  simp only [aCons, su_bind, su_pure]
@[simp] theorem w_lst : @SureK _ (fLst Fs ρ) s ⟨P⟩ ↔ Sure (Fs ρ) s fun xs s1 => andK (xs.length ≤ sizeLine) (P (.lst xs) s1) := by
  show Sure _ _ _ ↔ _
  simp only [fLst, su_bind, p_of, p_ite]
@[simp] theorem w_tup : @SureK _ (fTup Fs ρ) s ⟨P⟩ ↔ Sure (Fs ρ) s fun xs s1 => andK (xs.length ≤ sizeLine) (P (.tup xs) s1) := by
  show Sure _ _ _ ↔ _
  simp only [fTup, su_bind, p_of, p_ite]
@[simp] theorem w_bl {b : Bool} : @SureK _ (blM (.bl b)) s ⟨PB⟩ ↔ PB b s := su_pure
@[simp] theorem w_int {i : Int} {P : Int → Strm → Prop} : @SureK _ (intM (.int i)) s ⟨P⟩ ↔ P i s := su_pure
@[simp] theorem w_strM : @SureK _ (strM (.str x)) s ⟨PU⟩ ↔ PU () s := su_pure
@[simp] theorem w_qVal : @SureK _ (qVal Fa ρ) s ⟨PB⟩ ↔ Sure (Fa ρ) s fun x s1 => Sure (blM x) s1 PB := by
  show Sure _ _ _ ↔ _
  simp only [qVal, su_bind]
@[simp] theorem w_qYes : @SureK _ (qYes ρ) s ⟨PB⟩ ↔ PB true s := su_pure
@[simp] theorem w_qAnd : @SureK _ (qAnd Ft Fu ρ) s ⟨PB⟩ ↔ Sure (Ft ρ) s fun b s1 => ifK b (Sure (Fu ρ) s1 PB) (PB false s1) := by
  show Sure _ _ _ ↔ _
  simp only [qAnd, su_bind, su_ite, su_pure, Bool.not_eq_true, ifK_eq]
@[simp] theorem w_qOr : @SureK _ (qOr Ft Fu ρ) s ⟨PB⟩ ↔ Sure (Ft ρ) s fun b s1 => ifK b (PB true s1) (Sure (Fu ρ) s1 PB) := by
  show Sure _ _ _ ↔ _
  simp only [qOr, su_bind, su_ite, su_pure, Bool.not_eq_true, ifK_eq]
@[simp] theorem w_qNot : @SureK _ (qNot Ft ρ) s ⟨PB⟩ ↔ Sure (Ft ρ) s fun b s1 => PB (!b) s1 := by
  show Sure _ _ _ ↔ _
  simp only [qNot, su_bind, su_pure]
@[simp] theorem w_qChain : @SureK _ (qChain f f' Fa Fb Fc ρ) s ⟨PB⟩ ↔ Sure (Fa ρ) s fun x s1 => Sure (Fb ρ) s1 fun y s2 => optK (f x y) fun k => Sure (blM k) s2 fun b s3 => ifK b (Sure (Fc ρ) s3 fun z s4 => optK (f' y z) fun k' => Sure (blM k') s4 PB) (PB false s3) := by
  show Sure _ _ _ ↔ _
  simp only [qChain, su_bind, p_of, su_ite, su_pure, Bool.not_eq_true, ifK_eq]
@[simp] theorem w_fChain : @SureK _ (fChain f f' Fa Fb Fc ρ) s ⟨P⟩ ↔ Sure (Fa ρ) s fun x s1 => Sure (Fb ρ) s1 fun y s2 => optK (f x y) fun k => Sure (blM k) s2 fun b s3 => ifK b (Sure (Fc ρ) s3 fun z s4 => optK (f' y z) fun k' => P k' s4) (P (.bl false) s3) := by
  show Sure _ _ _ ↔ _
  simp only [fChain, su_bind, p_of, su_ite, su_pure, Bool.not_eq_true, ifK_eq]
@[simp] theorem w_isi {ts : List TC} : @SureK _ (fIsi ts Fa ρ) s ⟨P⟩ ↔ Sure (Fa ρ) s fun x s1 => optK (isiD ts x) fun b => P (.bl b) s1 := by
  show Sure _ _ _ ↔ _
  simp only [fIsi, su_bind, p_of, p_map]
@[simp] theorem w_and : @SureK _ (fAnd Fa Fb ρ) s ⟨P⟩ ↔ Sure (Fa ρ) s fun x s1 => Sure (blM x) s1 fun b s2 => ifK b (Sure (Fb ρ) s2 P) (P (.bl false) s2) := by
  show Sure _ _ _ ↔ _
  simp only [fAnd, su_bind, su_ite, su_pure, Bool.not_eq_true, ifK_eq]
@[simp] theorem w_or : @SureK _ (fOr Fa Fb ρ) s ⟨P⟩ ↔ Sure (Fa ρ) s fun x s1 => Sure (blM x) s1 fun b s2 => ifK b (P (.bl true) s2) (Sure (Fb ρ) s2 P) := by
  show Sure _ _ _ ↔ _
  simp only [fOr, su_bind, su_ite, su_pure, Bool.not_eq_true, ifK_eq]
@[simp] theorem w_not : @SureK _ (fNot Fa ρ) s ⟨P⟩ ↔ Sure (Fa ρ) s fun x s1 => Sure (blM x) s1 fun b s2 => P (.bl (!b)) s2 := by
  show Sure _ _ _ ↔ _
  simp only [fNot, su_bind, su_pure]
@[simp] theorem w_if : @SureK _ (fIf Ft Fa Fb ρ) s ⟨P⟩ ↔ Sure (Ft ρ) s fun b s1 => ifK b (Sure (Fa ρ) s1 P) (Sure (Fb ρ) s1 P) := by
  show Sure _ _ _ ↔ _
  simp only [fIf, su_bind, su_ite, Bool.not_eq_true, ifK_eq]
@[simp] theorem w_fz : @SureK _ (fFz Fe ρ) s ⟨P⟩ ↔ Sure (Fe ρ) s fun d s1 => andK (frozen d = true) (P d s1) := by
  show Sure _ _ _ ↔ _
  simp only [fFz, su_bind, p_of, p_ite]
@[simp] theorem w_fzk : @SureK _ (fFzK Fe ρ) s ⟨P⟩ ↔ Sure (Fe ρ) s fun d s1 => andK (fzkD d = true) (P d s1) := by
  show Sure _ _ _ ↔ _
  simp only [fFzK, su_bind, p_of, p_ite]
@[simp] theorem w_m1 {h : D → List D → Option D} : @SureK _ (fM1 h Fo Fe ρ) s ⟨P⟩ ↔ Sure (Fo ρ) s fun d s1 => Sure (strM d) s1 fun _ s2 => Sure (Fe ρ) s2 fun x s3 => optK (h d [x]) fun z => P z s3 := by
  show Sure _ _ _ ↔ _
  simp only [fM1, su_bind, p_of]
@[simp] theorem w_pNo : @SureK _ (pNo ρ) s ⟨PI⟩ ↔ PI none s := su_pure
@[simp] theorem w_pSome : @SureK _ (pSome Fa ρ) s ⟨PI⟩ ↔ Sure (Fa ρ) s fun d s1 => Sure (intM d) s1 fun i s2 => PI (some i) s2 := by
  show Sure _ _ _ ↔ _
  simp only [pSome, su_bind, su_pure]
@[simp] theorem w_sl {h : D → Option Int → Option Int → Option D} {Fl Fh : Env → M (Option Int)} : @SureK _ (fSl h Fa Fl Fh ρ) s ⟨P⟩ ↔ Sure (Fa ρ) s fun d s1 => Sure (Fl ρ) s1 fun lo s2 => Sure (Fh ρ) s2 fun hi s3 => optK (h d lo hi) fun z => P z s3 := by
  show Sure _ _ _ ↔ _
  simp only [fSl, su_bind, p_of]
@[simp] theorem w_iSeq : @SureK _ (iSeq Fa ρ) s ⟨PL⟩ ↔ Sure (Fa ρ) s fun d s1 => optK (itemsD d) fun xs => PL xs s1 := by
  show Sure _ _ _ ↔ _
  simp only [iSeq, su_bind, p_of]
@[simp] theorem w_iRange1 : @SureK _ (iRange1 Fa ρ) s ⟨PL⟩ ↔ Sure (Fa ρ) s fun d s1 => Sure (intM d) s1 fun n s2 => andK (-(2 ^ 62) ≤ n ∧ n < 2 ^ 62) (PL ((List.range n.toNat).map fun (i : Nat) => .int (i : Int)) s2) := by
  show Sure _ _ _ ↔ _
  simp only [iRange1, su_bind, p_of, p_ite]
@[simp] theorem w_iRange2 : @SureK _ (iRange2 Fa Fb ρ) s ⟨PL⟩ ↔ Sure (Fa ρ) s fun d s1 => Sure (Fb ρ) s1 fun e s2 => Sure (intM d) s2 fun i s3 => Sure (intM e) s3 fun j s4 => andK (-(2 ^ 62) ≤ i ∧ i < 2 ^ 62 ∧ -(2 ^ 62) ≤ j ∧ j < 2 ^ 62) (PL ((List.range (j - i).toNat).map fun (k : Nat) => .int (i + (k : Int))) s4) := by
  show Sure _ _ _ ↔ _
  simp only [iRange2, su_bind, p_of, p_ite]
@[simp] theorem w_iEnum : @SureK _ (iEnumD Fa ρ) s ⟨PL⟩ ↔ Sure (Fa ρ) s fun d s1 => optK (enumD d) fun xs => PL xs s1 := by
  show Sure _ _ _ ↔ _
  simp only [iEnumD, su_bind, p_of]
@[simp] theorem w_iZip : @SureK _ (iZip Fa Fb ρ) s ⟨PL⟩ ↔ Sure (Fa ρ) s fun d s1 => Sure (Fb ρ) s1 fun e s2 => optK (zipD d e) fun xs => PL xs s2 := by
  show Sure _ _ _ ↔ _
  simp only [iZip, su_bind, p_of]
theorem w_fzM {items : List D} : Sure (fzM q items) s PU ↔ andK (q = true → items.all frozen = true) (PU () s) := by
  unfold fzM andK
  cases q <;> cases h : items.all frozen <;> simp [su_pure, su_fail, h]
@[simp] theorem w_lcN {is : List Nat} : @SureK _ (fLcN q Fi is g Ft Fe ρ) s ⟨P⟩ ↔ Sure (Fi ρ) s fun items s1 => andK (q = true → items.all frozen = true) (Sure (lcD (lcB g Ft Fe (wipeR ρ is)) items) s1 fun ys s2 => andK (items.length ≤ sizeLine) (P (.lst ys) s2)) := by
  show Sure _ _ _ ↔ _
  simp only [fLcN, su_bind, p_of, w_fzM, su_noErr, p_ite]
@[simp] theorem w_lc {is : List Nat} : @SureK _ (fLc q Fi is g Ft Fe ρ) s ⟨P⟩ ↔ Sure (Fi ρ) s fun items s1 => andK (q = true → items.all frozen = true) (Sure (lcD (lcB g Ft Fe (wipeR ρ is)) items) s1 fun ys s2 => andK (items.length ≤ sizeLine) (P (.lst ys) s2)) := by
  show Sure _ _ _ ↔ _
  simp only [fLc, su_bind, p_of, w_fzM, su_noErr, p_ite]
@[simp] theorem w_lcB : @SureK _ (lcB g Ft Fe ρ d) s ⟨PD⟩ ↔ optK (g d ρ) fun ρ1 => Sure (Ft ρ1) s fun b s1 => ifK b (Sure (Fe ρ1) s1 fun y s2 => PD (some y) s2) (PD none s1) := by
  show Sure _ _ _ ↔ _
  unfold lcB
  cases h : g d ρ with
  | none => simp only [p_none]; exact su_fail
  | some ρ1 => simp only [p_some, su_bind, su_ite, su_pure, Bool.not_eq_true, ifK_eq]
@[simp] theorem wipeR_nil : wipeR ρ [] = ρ := rfl
@[simp] theorem wipeR_cons {is : List Nat} : wipeR ρ (i :: is) = (wipeR ρ is).set i none := rfl
@[simp] theorem w_gNm : gNm i d ρ = some (ρ.set i (some d)) := rfl
@[simp] theorem w_gSqT {ds : List D} : gSq n gs (.tup ds) ρ = if ds.length = n then gs ds ρ else none := rfl
@[simp] theorem w_gSqL {ds : List D} : gSq n gs (.lst ds) ρ = if ds.length = n then gs ds ρ else none := rfl
@[simp] theorem w_gTp {ds : List D} : gTp n gs (.tup ds) ρ = if ds.length = n then gs ds ρ else none := rfl
@[simp] theorem w_gsNil : gsNil [] ρ = some ρ := rfl
@[simp] theorem w_gsCons {ds : List D} : gsCons g gs (d :: ds) ρ = (g d ρ).bind (gs ds) := rfl
/-- what follows a statement -/
def seqK (G : SF) (P : Out → Strm → Prop) : Out → Strm → Prop
  | .nx ρ, s => Sure (G ρ) s P
  | o, s => P o s
@[simp] theorem seqK_nx : seqK G PO (.nx ρ) s = Sure (G ρ) s PO := rfl
@[simp] theorem seqK_rt : seqK G PO (.rt d) s = PO (.rt d) s := rfl
@[simp] theorem seqK_bk : seqK G PO (.bk ρ) s = PO (.bk ρ) s := rfl
@[simp] theorem seqK_ct : seqK G PO (.ct ρ) s = PO (.ct ρ) s := rfl
@[simp] theorem w_seq : @SureK _ (sSeq F G ρ) s ⟨PO⟩ ↔ Sure (F ρ) s (seqK G PO) := by
  show Sure _ _ _ ↔ _
  rw [su_seq]
  constructor <;> (intro h; refine h.mono fun o s1 h => ?_) <;> (cases o <;> exact h)
@[simp] theorem w_nop : @SureK _ (sNop ρ) s ⟨PO⟩ ↔ PO (.nx ρ) s := su_pure
@[simp] theorem w_set : @SureK _ (sSet i Fa ρ) s ⟨PO⟩ ↔ Sure (Fa ρ) s fun d s1 => PO (.nx (ρ.set i (some d))) s1 := by
  show Sure _ _ _ ↔ _
  simp only [sSet, su_bind, su_pure]
@[simp] theorem w_ret : @SureK _ (sRet Fa ρ) s ⟨PO⟩ ↔ Sure (Fa ρ) s fun d s1 => PO (.rt d) s1 := by
  show Sure _ _ _ ↔ _
  simp only [sRet, su_bind, su_pure]
@[simp] theorem w_retN : @SureK _ (sRetN ρ) s ⟨PO⟩ ↔ PO (.rt .non) s := su_pure
@[simp] theorem w_sIf : @SureK _ (sIf Ft F G ρ) s ⟨PO⟩ ↔ Sure (Ft ρ) s fun b s1 => ifK b (Sure (F ρ) s1 PO) (Sure (G ρ) s1 PO) := by
  show Sure _ _ _ ↔ _
  simp only [sIf, su_bind, su_ite, Bool.not_eq_true, ifK_eq]
@[simp] theorem w_do : @SureK _ (sDo Fa ρ) s ⟨PO⟩ ↔ Sure (Fa ρ) s fun _ s1 => PO (.nx ρ) s1 := by
  show Sure _ _ _ ↔ _
  simp only [sDo, su_bind, su_pure]
@[simp] theorem w_brk : @SureK _ (sBrk ρ) s ⟨PO⟩ ↔ PO (.bk ρ) s := su_pure
@[simp] theorem w_cnt : @SureK _ (sCnt ρ) s ⟨PO⟩ ↔ PO (.ct ρ) s := su_pure
@[simp] theorem w_par : @SureK _ (sPar i j Fa Fb ρ) s ⟨PO⟩ ↔ Sure (Fa ρ) s fun d s1 => Sure (Fb ρ) s1 fun e s2 => PO (.nx ((ρ.set i (some d)).set j (some e))) s2 := by
  show Sure _ _ _ ↔ _
  simp only [sPar, su_bind, su_pure]
@[simp] theorem w_asg : @SureK _ (sAsg Fe g ρ) s ⟨PO⟩ ↔ Sure (Fe ρ) s fun d s1 => optK (g d ρ) fun ρ1 => PO (.nx ρ1) s1 := by
  show Sure _ _ _ ↔ _
  simp only [sAsg, su_bind, p_of, p_map]
@[simp] theorem w_lstM {ds : List D} : @SureK _ (lstM (some (some (.lst ds)))) s ⟨PL⟩ ↔ PL ds s := su_pure
@[simp] theorem w_app : @SureK _ (sApp i Fe ρ) s ⟨PO⟩ ↔ Sure (lstM (ρ[i]?)) s fun ds s1 => Sure (Fe ρ) s1 fun d s2 => andK (ds.length < sizeLine) (PO (.nx (ρ.set i (some (.lst (ds ++ [d]))))) s2) := by
  show Sure _ _ _ ↔ _
  simp only [sApp, su_bind, p_of, p_ite]
/-- a list -/
def lstI (d : D) [k : Kf (List D)] : Prop := ∃ es, d = .lst es ∧ k.f es
def lstK (d : D) (f : List D → Prop) : Prop := @lstI d ⟨f⟩
@[simp ↓] theorem lstK_k {d : D} {f : List D → Prop} : lstK d f = @lstI d ⟨f⟩ := rfl
@[simp] theorem lstK_lst {es : List D} {f : List D → Prop} : @lstI (.lst es) ⟨f⟩ = f es := propext ⟨fun ⟨_, e, h⟩ => by cases e; exact h, fun h => ⟨es, rfl, h⟩⟩
@[simp] theorem w_ext : @SureK _ (sExt i Fe ρ) s ⟨PO⟩ ↔ Sure (lstM (ρ[i]?)) s fun ds s1 => Sure (Fe ρ) s1 fun d s2 => lstK d fun es => andK (ds.length + es.length ≤ sizeLine) (PO (.nx (ρ.set i (some (.lst (ds ++ es))))) s2) := by
  show Sure _ _ _ ↔ _
  simp only [sExt, su_bind, p_of]
  constructor <;> (intro h; refine h.mono fun ds s1 h => h.mono fun d s2 h => ?_)
  · obtain ⟨a, h1, h2⟩ := h
    cases d <;> first | cases h1 | skip
    rename_i es
    dsimp only at h1
    split at h1
    · next hl => cases h1; exact ⟨es, rfl, hl, h2⟩
    · cases h1
  · obtain ⟨es, rfl, hl, h2⟩ := h
    exact ⟨_, by dsimp only; rw [if_pos hl], h2⟩
@[simp] theorem w_appPop : @SureK _ (sAppPop i j Fe ρ) s ⟨PO⟩ ↔ Sure (lstM (ρ[i]?)) s fun ds s1 => Sure (lstM (ρ[j]?)) s1 fun es s2 => Sure (Fe ρ) s2 fun d s3 => Sure (intM d) s3 fun n s4 =>
    andK (0 ≤ n ∧ n < es.length ∧ n < 2 ^ 62 ∧ ds.length < sizeLine) (optK (es[n.toNat]?) fun y => PO (.nx ((ρ.set j (some (.lst (es.eraseIdx n.toNat)))).set i (some (.lst (ds ++ [y]))))) s4) := by
  show Sure _ _ _ ↔ _
  simp only [sAppPop, su_bind, su_of]
  constructor <;> (intro h; refine h.mono fun ds s1 h => h.mono fun es s2 h => h.mono fun d s3 h => h.mono fun n s4 h => ?_)
  · obtain ⟨a, h1, h2⟩ := h
    split at h1
    · next hl =>
      obtain ⟨y, h3, rfl⟩ := Option.map_eq_some_iff.mp h1
      exact ⟨hl, y, h3, h2⟩
    · cases h1
  · obtain ⟨hl, y, h1, h2⟩ := h
    exact ⟨_, by rw [if_pos hl, h1]; rfl, h2⟩
@[simp] theorem w_dicM {t : Bool} {kvs : List (D × D)} : @SureK _ (dicM (some (some (.dic t kvs)))) s ⟨P⟩ ↔ P (.dic t kvs) s := su_pure
@[simp] theorem w_put : @SureK _ (sPut i Fv Fk ρ) s ⟨PO⟩ ↔ Sure (Fv ρ) s fun v s1 => Sure (dicM (ρ[i]?)) s1 fun dd s2 => Sure (Fk ρ) s2 fun k s3 => optK (putD dd k v) fun d' => PO (.nx (ρ.set i (some d'))) s3 := by
  show Sure _ _ _ ↔ _
  simp only [sPut, su_bind, p_of, p_map]
@[simp] theorem w_spoil {k : Nat} {is : List Nat} : @SureK _ (sSpoilL k is ρ) s ⟨PO⟩ ↔ optK (is.mapM (lstAt ρ)) fun ds => andK (spOL ds = true ∧ dptL ds + 2 ≤ k ∧ (mxl (.lst ds)) + cnt (.lst ds) < sizeLine) (PO (.nx (is.foldl (fun ρ i => ρ.set i (some .wl)) ρ)) s) := by
  show Sure _ _ _ ↔ _
  unfold sSpoilL
  cases h : is.mapM (lstAt ρ) with
  | none => simp only [p_none]; exact su_fail
  | some ds =>
    simp only [p_some]
    by_cases z : spOL ds = true ∧ dptL ds + 2 ≤ k ∧ (mxl (.lst ds)) + cnt (.lst ds) < sizeLine
    · rw [if_pos z, su_pure]; exact ⟨fun k => ⟨z, k⟩, fun k => k.2⟩
    · rw [if_neg z, su_fail]; exact ⟨False.elim, fun k => z k.1⟩
@[simp] theorem w_for : @SureK _ (sFor q Fi g F ρ) s ⟨PO⟩ ↔ Sure (Fi ρ) s fun items s1 => andK (q = true → items.all frozen = true) (Sure (forD (bindM g F) items ρ) s1 PO) := by
  show Sure _ _ _ ↔ _
  simp only [sFor, su_bind, w_fzM]
@[simp] theorem w_bindM : @SureK _ (bindM g F d ρ) s ⟨PO⟩ ↔ optK (g d ρ) fun ρ1 => Sure (F ρ1) s PO := by
  show Sure _ _ _ ↔ _
  unfold bindM
  cases h : g d ρ with
  | none => simp only [p_none]; exact su_fail
  | some ρ1 => simp only [p_some]
@[simp] theorem outP_rt : outP P (.rt d) s = P d s := rfl
@[simp] theorem outP_nx : outP P (.nx ρ) s = P .non s := rfl
@[simp] theorem le_size {n : Nat} : (n ≤ sizeLine) ↔ (n ≤ 16777216) := ⟨id, id⟩
@[simp] theorem lt_size {n : Nat} : (n < sizeLine) ↔ (n < 16777216) := ⟨id, id⟩
@[simp] theorem frozen_non : frozen .non = true := rfl
@[simp] theorem frozen_bl {b : Bool} : frozen (.bl b) = true := rfl
@[simp] theorem frozen_int {i : Int} : frozen (.int i) = true := rfl
@[simp] theorem frozen_str : frozen (.str x) = true := rfl
@[simp] theorem frozen_tup {xs : List D} : frozen (.tup xs) = frozenL xs := rfl
@[simp] theorem frozen_stm : frozen .stm = true := rfl
@[simp] theorem frozenL_nil : frozenL [] = true := rfl
@[simp] theorem frozenL_cons {ds : List D} : frozenL (d :: ds) = (frozen d && frozenL ds) := rfl
@[simp] theorem lenD_lst {xs : List D} : lenD [.lst xs] = some (.int xs.length) := rfl
@[simp] theorem lenD_tup {xs : List D} : lenD [.tup xs] = some (.int xs.length) := rfl
@[simp] theorem lenD_dic {t : Bool} {kvs : List (D × D)} : lenD [.dic t kvs] = some (.int kvs.length) := rfl
@[simp] theorem lenD_str : lenD [.str x] = if x.length ≤ sizeLine then some (.int x.length) else none := rfl
@[simp] theorem listD_lst {xs : List D} : listD [.lst xs] = some (.lst xs) := rfl
@[simp] theorem listD_tup {xs : List D} : listD [.tup xs] = some (.lst xs) := rfl
@[simp] theorem tupleD_lst {xs : List D} : tupleD [.lst xs] = some (.tup xs) := rfl
@[simp] theorem tupleD_tup {xs : List D} : tupleD [.tup xs] = some (.tup xs) := rfl
@[simp] theorem itemsD_lst {xs : List D} : itemsD (.lst xs) = some xs := rfl
@[simp] theorem itemsD_tup {xs : List D} : itemsD (.tup xs) = some xs := rfl
@[simp] theorem itemsD_str : itemsD (.str x) = some (x.cps.toList.map sgnD) := rfl
@[simp] theorem intD_int {i : Int} : intD [.int i] = some (.int i) := rfl
@[simp] theorem intD_bl {b : Bool} : intD [.bl b] = some (.int (if b then 1 else 0)) := rfl
@[simp] theorem absD_int {i : Int} : absD [.int i] = some (.int (if i < 0 then -i else i)) := rfl
@[simp] theorem addD_int {i j : Int} : addD (.int i) (.int j) = some (.int (i + j)) := rfl
@[simp] theorem subD_int {i j : Int} : subD (.int i) (.int j) = some (.int (i - j)) := rfl
@[simp] theorem mulD_int {i j : Int} : mulD (.int i) (.int j) = if -(2 ^ 64) < i ∧ i < 2 ^ 64 then some (.int (i * j)) else none := rfl
@[simp] theorem modD_int {i j : Int} : modD (.int i) (.int j) = if 0 < j then some (.int (i % j)) else none := rfl
@[simp] theorem negD_int {i : Int} : negD (.int i) = some (.int (-i)) := rfl
@[simp] theorem ltD_int {i j : Int} : ltD (.int i) (.int j) = some (.bl (decide (i < j))) := rfl
@[simp] theorem leD_int {i j : Int} : leD (.int i) (.int j) = some (.bl (decide (i ≤ j))) := rfl
@[simp] theorem gtD_int {i j : Int} : gtD (.int i) (.int j) = some (.bl (decide (j < i))) := rfl
@[simp] theorem geD_int {i j : Int} : geD (.int i) (.int j) = some (.bl (decide (j ≤ i))) := rfl
@[simp] theorem ltD_str {x y : Str} : ltD (.str x) (.str y) = some (.bl (ltS x y)) := rfl
@[simp] theorem eqD_int {i j : Int} : eqD (.int i) (.int j) = some (.bl (decide (i = j))) := LO.int.eq (by decide) i j
@[simp] theorem eqD_str {i j : Str} : eqD (.str i) (.str j) = some (.bl (decide (i = j))) := LO.str.eq (by decide) i j
@[simp] theorem neD_str {i j : Str} : neD (.str i) (.str j) = some (.bl (decide (i ≠ j))) := LO.str.ne (by decide) i j
@[simp] theorem neD_int {i j : Int} : neD (.int i) (.int j) = some (.bl (decide (i ≠ j))) := LO.int.ne (by decide) i j
theorem okD_bl (b : Bool) : okD (.bl b) = true := by simp [okD, DL.plain, dep]
@[simp] theorem eqD_bl {a b : Bool} : eqD (.bl a) (.bl b) = some (.bl (decide (a = b))) := by cases a <;> cases b <;> simp [eqD, okD_bl, deq]
@[simp] theorem neD_bl {a b : Bool} : neD (.bl a) (.bl b) = some (.bl (decide (a ≠ b))) := by cases a <;> cases b <;> simp [neD, okD_bl, deq]
@[simp] theorem ixD_lst {xs : List D} {i : Int} : ixD (.lst xs) (.int i) = atI xs i := rfl
@[simp] theorem ixD_tup {xs : List D} {i : Int} : ixD (.tup xs) (.int i) = atI xs i := rfl
@[simp] theorem atI_0 {α : Type} {x : α} {xs : List α} : atI (x :: xs) 0 = some x := by
  unfold atI ixN
  rw [if_pos (by decide), if_pos (by simp only [List.length_cons]; omega)]; rfl
@[simp] theorem atI_1 {α : Type} {x y : α} {xs : List α} : atI (x :: y :: xs) 1 = some y := by
  unfold atI ixN
  rw [if_pos (by decide), if_pos (by simp only [List.length_cons]; omega)]; rfl
@[simp] theorem atI_2 {α : Type} {x y z : α} {xs : List α} : atI (x :: y :: z :: xs) 2 = some z := by
  unfold atI ixN
  rw [if_pos (by decide), if_pos (by simp only [List.length_cons]; omega)]; rfl
@[simp] theorem ixA_eq {a b : D} : ixA a b = fz (ixD a b) := rfl
@[simp] theorem fzS : fz (some d) = if frozen d = true then some d else none := rfl
@[simp] theorem isNq_non : isNq .non .non = some (.bl true) := rfl
@[simp] theorem isNNq_non : isNNq .non .non = some (.bl false) := rfl
@[simp] theorem isNq_int {i : Int} : isNq (.int i) .non = some (.bl false) := rfl
@[simp] theorem isNNq_int {i : Int} : isNNq (.int i) .non = some (.bl true) := rfl
@[simp] theorem isNq_str : isNq (.str x) .non = some (.bl false) := rfl
@[simp] theorem isNq_bl {b : Bool} : isNq (.bl b) .non = some (.bl false) := rfl
@[simp] theorem isiD_nil : isiD [] d = some false := rfl
@[simp 100] theorem isiD_cons {t : TC} {ts : List TC} : isiD (t :: ts) d = match isC t d with | none => none | some true => some true | some false => isiD ts d := rfl
@[simp] theorem isB_int_non : isB .int .non = some false := rfl
@[simp] theorem isB_int_bl {b : Bool} : isB .int (.bl b) = some true := rfl
@[simp] theorem isB_int_int {i : Int} : isB .int (.int i) = some true := rfl
@[simp] theorem isB_int_str : isB .int (.str x) = some false := rfl
@[simp] theorem isB_int_lst {xs : List D} : isB .int (.lst xs) = some false := rfl
@[simp] theorem isB_int_tup {xs : List D} : isB .int (.tup xs) = some false := rfl
@[simp] theorem isB_int_dic {t : Bool} {kvs : List (D × D)} : isB .int (.dic t kvs) = some false := rfl
@[simp] theorem isB_int_obj {c : Nat} {fs : List (Str × D)} : isB .int (.obj c fs) = some false := rfl
@[simp] theorem isB_int_wl : isB .int .wl = some false := rfl
@[simp] theorem isB_str_non : isB .str .non = some false := rfl
@[simp] theorem isB_str_bl {b : Bool} : isB .str (.bl b) = some false := rfl
@[simp] theorem isB_str_int {i : Int} : isB .str (.int i) = some false := rfl
@[simp] theorem isB_str_str : isB .str (.str x) = some true := rfl
@[simp] theorem isB_str_lst {xs : List D} : isB .str (.lst xs) = some false := rfl
@[simp] theorem isB_str_tup {xs : List D} : isB .str (.tup xs) = some false := rfl
@[simp] theorem isB_str_dic {t : Bool} {kvs : List (D × D)} : isB .str (.dic t kvs) = some false := rfl
@[simp] theorem isB_str_obj {c : Nat} {fs : List (Str × D)} : isB .str (.obj c fs) = some false := rfl
@[simp] theorem isB_str_wl : isB .str .wl = some false := rfl
@[simp] theorem isB_bool_non : isB .bool .non = some false := rfl
@[simp] theorem isB_bool_bl {b : Bool} : isB .bool (.bl b) = some true := rfl
@[simp] theorem isB_bool_int {i : Int} : isB .bool (.int i) = some false := rfl
@[simp] theorem isB_bool_str : isB .bool (.str x) = some false := rfl
@[simp] theorem isB_bool_lst {xs : List D} : isB .bool (.lst xs) = some false := rfl
@[simp] theorem isB_bool_tup {xs : List D} : isB .bool (.tup xs) = some false := rfl
@[simp] theorem isB_bool_dic {t : Bool} {kvs : List (D × D)} : isB .bool (.dic t kvs) = some false := rfl
@[simp] theorem isB_bool_obj {c : Nat} {fs : List (Str × D)} : isB .bool (.obj c fs) = some false := rfl
@[simp] theorem isB_bool_wl : isB .bool .wl = some false := rfl
@[simp] theorem isB_list_non : isB .list .non = some false := rfl
@[simp] theorem isB_list_bl {b : Bool} : isB .list (.bl b) = some false := rfl
@[simp] theorem isB_list_int {i : Int} : isB .list (.int i) = some false := rfl
@[simp] theorem isB_list_str : isB .list (.str x) = some false := rfl
@[simp] theorem isB_list_lst {xs : List D} : isB .list (.lst xs) = some true := rfl
@[simp] theorem isB_list_tup {xs : List D} : isB .list (.tup xs) = some false := rfl
@[simp] theorem isB_list_dic {t : Bool} {kvs : List (D × D)} : isB .list (.dic t kvs) = some false := rfl
@[simp] theorem isB_list_obj {c : Nat} {fs : List (Str × D)} : isB .list (.obj c fs) = some false := rfl
@[simp] theorem isB_list_wl : isB .list .wl = some true := rfl
@[simp] theorem isB_tuple_non : isB .tuple .non = some false := rfl
@[simp] theorem isB_tuple_bl {b : Bool} : isB .tuple (.bl b) = some false := rfl
@[simp] theorem isB_tuple_int {i : Int} : isB .tuple (.int i) = some false := rfl
@[simp] theorem isB_tuple_str : isB .tuple (.str x) = some false := rfl
@[simp] theorem isB_tuple_lst {xs : List D} : isB .tuple (.lst xs) = some false := rfl
@[simp] theorem isB_tuple_tup {xs : List D} : isB .tuple (.tup xs) = some true := rfl
@[simp] theorem isB_tuple_dic {t : Bool} {kvs : List (D × D)} : isB .tuple (.dic t kvs) = some false := rfl
@[simp] theorem isB_tuple_obj {c : Nat} {fs : List (Str × D)} : isB .tuple (.obj c fs) = some false := rfl
@[simp] theorem isB_tuple_wl : isB .tuple .wl = some false := rfl
@[simp] theorem isB_dict_non : isB .dict .non = some false := rfl
@[simp] theorem isB_dict_bl {b : Bool} : isB .dict (.bl b) = some false := rfl
@[simp] theorem isB_dict_int {i : Int} : isB .dict (.int i) = some false := rfl
@[simp] theorem isB_dict_str : isB .dict (.str x) = some false := rfl
@[simp] theorem isB_dict_lst {xs : List D} : isB .dict (.lst xs) = some false := rfl
@[simp] theorem isB_dict_tup {xs : List D} : isB .dict (.tup xs) = some false := rfl
@[simp] theorem isB_dict_dic {t : Bool} {kvs : List (D × D)} : isB .dict (.dic t kvs) = some true := rfl
@[simp] theorem isB_dict_obj {c : Nat} {fs : List (Str × D)} : isB .dict (.obj c fs) = some false := rfl
@[simp] theorem isB_dict_wl : isB .dict .wl = some false := rfl
@[simp] theorem isO_non {c : Nat} : isO c .non = some false := rfl
@[simp] theorem isO_bl {c : Nat} {b : Bool} : isO c (.bl b) = some false := rfl
@[simp] theorem isO_int {c : Nat} {i : Int} : isO c (.int i) = some false := rfl
@[simp] theorem isO_str {c : Nat} : isO c (.str x) = some false := rfl
@[simp] theorem isO_lst {c : Nat} {xs : List D} : isO c (.lst xs) = some false := rfl
@[simp] theorem isO_tup {c : Nat} {xs : List D} : isO c (.tup xs) = some false := rfl
@[simp] theorem isO_dic {c : Nat} {t : Bool} {kvs : List (D × D)} : isO c (.dic t kvs) = some false := rfl
@[simp] theorem isO_wl {c : Nat} : isO c .wl = some false := rfl
@[simp] theorem isO_obj {c c2 : Nat} {fs : List (Str × D)} : isO c (.obj c2 fs) = if c = c2 then some true else none := rfl
@[simp] theorem isC_b {m : TN} : isC (.b m) d = isB m d := rfl
@[simp] theorem isC_o {c : Nat} : isC (.o c) d = isO c d := rfl
end
end DL
end
section
set_option autoImplicit false
namespace DL
/-- the cells' bits -/
def Bnd (L : Nat) (s : Strm) : Prop := s.cur < 2 ^ L ∧ ∀ c ∈ s.cells, -(2 ^ L) < c ∧ c < 2 ^ L
def Dry (s : Strm) : Prop := s.cur = 0 ∧ s.cells = []
def nx26 (s : Strm) : Strm := (drawS 26 s).2
def dg26 (s : Strm) : Int := (drawS 26 s).1
def nxs : Nat → Strm → Strm
  | 0, s => s
  | n + 1, s => nxs n (nx26 s)
theorem nxs_add (a b : Nat) : ∀ s, nxs (a + b) s = nxs b (nxs a s) := by
  induction a with
  | zero => intro s; rw [Nat.zero_add]; rfl
  | succ a ih => intro s; rw [show a + 1 + b = (a + b) + 1 by omega]; exact ih _
theorem nxs_succ (n : Nat) (s : Strm) : nxs (n + 1) s = nx26 (nxs n s) := nxs_add n 1 s
theorem eat_bnd (L : Nat) : ∀ (cells : List Int) (sd : Int), (∀ c ∈ cells, -(2 ^ L) < c ∧ c < 2 ^ L) → (eat cells sd).1.length ≤ cells.length ∧ ((eat cells sd).2.1 ≠ 0 → (eat cells sd).1.length < cells.length) ∧ ((eat cells sd).2.1 = 0 → (eat cells sd).1 = []) ∧ 0 ≤ (eat cells sd).2.1 ∧ (eat cells sd).2.1 < 2 ^ L ∧ (∀ c ∈ (eat cells sd).1, -(2 ^ L) < c ∧ c < 2 ^ L) := by
  intro cells
  have hp : (0 : Int) < 2 ^ L := Int.pow_pos (by decide)
  induction cells with
  | nil => intro sd _; simp [eat, hp]
  | cons c cs ih =>
    intro sd h
    have hc := h c List.mem_cons_self
    unfold eat
    generalize hc' : (if c < 0 then -c else c) = c'
    have h0 : 0 ≤ c' := by rw [← hc']; split <;> omega
    have h1 : c' < 2 ^ L := by rw [← hc']; split <;> omega
    by_cases q : 10 ^ 18 ≤ c'
    · rw [if_pos q]
      refine ⟨by simp, fun _ => by simp, fun z => ?_, h0, h1, fun d hd => h d (List.mem_cons_of_mem _ hd)⟩
      have z' : c' = 0 := z
      omega
    · rw [if_neg q]
      obtain ⟨a1, a2, a3, a4, a5, a6⟩ := ih ((sd * 6151 + c' + 7) % 2147483629) fun d hd => h d (List.mem_cons_of_mem _ hd)
      exact ⟨by simp only [List.length_cons]; omega, fun z => by simp only [List.length_cons]; have := a2 z; omega, a3, a4, a5, a6⟩
theorem Bnd.draw {L : Nat} {s : Strm} {many : Int} (h : Bnd L s) (h0 : 0 ≤ s.cur) (hm : 0 < many) : Bnd L (drawS many s).2 := by
  have he : ∀ e : List Int × Int × Int, e = (if s.cur = 0 then eat s.cells s.seed else (s.cells, s.cur, s.seed)) → 0 ≤ e.2.1 ∧ e.2.1 < 2 ^ L ∧ ∀ c ∈ e.1, -(2 ^ L) < c ∧ c < 2 ^ L := by
    rintro e rfl
    by_cases q : s.cur = 0
    · rw [if_pos q]; obtain ⟨_, _, _, a, b, c⟩ := eat_bnd L s.cells s.seed h.2; exact ⟨a, b, c⟩
    · rw [if_neg q]; exact ⟨h0, h.1, h.2⟩
  unfold drawS
  generalize hg : (if s.cur = 0 then eat s.cells s.seed else (s.cells, s.cur, s.seed)) = e at he
  obtain ⟨a, b, c⟩ := he e rfl
  dsimp only
  by_cases q : 0 < e.2.1
  · rw [if_pos q]
    refine ⟨?_, c⟩
    show e.2.1 / many < 2 ^ L
    have := Int.ediv_le_self many a
    omega
  · rw [if_neg q]; exact ⟨b, c⟩
theorem draw_cnt (many : Int) (s : Strm) : (drawS many s).2.cnt = s.cnt + 1 := by
  unfold drawS
  generalize (if s.cur = 0 then eat s.cells s.seed else (s.cells, s.cur, s.seed)) = e
  dsimp only
  split <;> rfl
theorem nxs_cnt : ∀ (n : Nat) (s : Strm), (nxs n s).cnt = s.cnt + n
  | 0, s => by simp [nxs]
  | n + 1, s => by rw [nxs, nxs_cnt n, nx26, draw_cnt]; omega
/-- the digits come to an end -/
theorem drain (L : Nat) (hL : 0 < L) : ∀ (r : Nat) (s : Strm) (k : Nat), 0 ≤ s.cur → s.cur < 2 ^ k → k ≤ L → Bnd L s → s.cells.length * (L + 1) + k ≤ r → ∃ n, n ≤ r ∧ Dry (nxs n s) := by
  intro r
  induction r with
  | zero =>
    intro s k h0 h1 hk hb hr
    have hk0 : k = 0 := by omega
    have hl : s.cells.length * (L + 1) = 0 := by omega
    rcases Nat.mul_eq_zero.mp hl with q | q
    · subst hk0
      refine ⟨0, Nat.le_refl _, ?_, List.eq_nil_of_length_eq_zero q⟩
      show s.cur = 0
      simp at h1
      omega
    · omega
  | succ r ih =>
    intro s k h0 h1 hk hb hr
    by_cases hd : Dry s
    · exact ⟨0, Nat.zero_le _, hd⟩
    have hnext : (∃ k', 0 ≤ (nx26 s).cur ∧ (nx26 s).cur < 2 ^ k' ∧ k' ≤ L ∧ (nx26 s).cells.length * (L + 1) + k' ≤ r) ∨ Dry (nx26 s) := by
      unfold nx26 drawS
      by_cases q : s.cur = 0
      · rw [if_pos q]
        obtain ⟨a1, a2, a3, a4, a5, a6⟩ := eat_bnd L s.cells s.seed hb.2
        generalize eat s.cells s.seed = e at *
        dsimp only
        by_cases z : 0 < e.2.1
        · rw [if_pos z]
          refine .inl ⟨L, Int.ediv_nonneg a4 (by decide), ?_, Nat.le_refl _, ?_⟩
          · show e.2.1 / 26 < 2 ^ L
            omega
          · show e.1.length * (L + 1) + L ≤ r
            have a2' := a2 (by omega)
            have : (e.1.length + 1) * (L + 1) ≤ s.cells.length * (L + 1) := Nat.mul_le_mul_right _ (by omega)
            rw [Nat.add_mul] at this
            omega
        · rw [if_neg z]
          have z0 : e.2.1 = 0 := by omega
          exact .inr ⟨z0, a3 z0⟩
      · rw [if_neg q]
        dsimp only
        rw [if_pos (by omega)]
        cases k with
        | zero => simp at h1; omega
        | succ k =>
          refine .inl ⟨k, Int.ediv_nonneg h0 (by decide), ?_, by omega, by show s.cells.length * (L + 1) + k ≤ r; omega⟩
          show s.cur / 26 < 2 ^ k
          rw [Int.pow_succ] at h1
          omega
    rcases hnext with ⟨k', b0, b1, b2, b3⟩ | hdry
    · obtain ⟨n, hn, hdn⟩ := ih (nx26 s) k' b0 b1 b2 (hb.draw h0 (by decide)) b3
      exact ⟨n + 1, by omega, hdn⟩
    · exact ⟨1, by omega, hdry⟩
theorem dry_next {s : Strm} (h : Dry s) : Dry (nx26 s) ∧ (nx26 s).seed = s.seed ∧ dg26 s = hashI s.seed (s.cnt + 1) % 26 := by
  obtain ⟨h1, h2⟩ := h
  unfold nx26 dg26 drawS
  rw [if_pos h1, h2]
  simp [eat, Dry]
theorem dry_nxs {s : Strm} (h : Dry s) : ∀ n, Dry (nxs n s) ∧ (nxs n s).seed = s.seed
  | 0 => ⟨h, rfl⟩
  | n + 1 => by
    have := dry_nxs (dry_next h).1 n
    exact ⟨this.1, this.2.trans (dry_next h).2.1⟩
theorem crt1 (sd x0 c0 : Int) (h0 : 0 ≤ x0) (h1 : x0 < 1000000009) : ∃ n : Nat, (n : Int) < 2147483587 * 1000000009 ∧ (sd + 8191 * (c0 + n) + 50021) % 2147483587 = 0 ∧ (20011 * (c0 + n) + 31) % 1000000009 = x0 := by
  have e1 : ∃ c1 : Int, (sd + 8191 * c1 + 50021) % 2147483587 = 0 := ⟨-(sd + 50021) * 1481032204, by omega⟩
  have e2 : ∃ c2 : Int, (20011 * c2 + 31) % 1000000009 = x0 := ⟨(x0 - 31) * 346709313, by omega⟩
  obtain ⟨c1, h2⟩ := e1
  obtain ⟨c2, h3⟩ := e2
  have e3 : ∃ c, c % 2147483587 = c1 % 2147483587 ∧ c % 1000000009 = c2 % 1000000009 :=
    ⟨c1 * (1000000009 * 489137076) + c2 * (2147483587 * 772227800), by omega, by omega⟩
  obtain ⟨c, h4, h5⟩ := e3
  exact ⟨((c - c0) % (2147483587 * 1000000009)).toNat, by omega, by omega, by omega⟩
theorem emod_pow {a b m : Int} (h : a % m = b % m) : ∀ n : Nat, a ^ n % m = b ^ n % m
  | 0 => by rw [Int.pow_zero, Int.pow_zero]
  | n + 1 => by rw [Int.pow_succ, Int.pow_succ, Int.mul_emod, emod_pow h n, h, ← Int.mul_emod]
/-- the two digits behind the count c -/
def pairAt (x : Int) : Int × Int := (x ^ 3 % 1000000009 % 26, (836990474 * 40009 + x + 20011) ^ 3 % 1000000009 % 26)
theorem hash_pair {sd c x0 : Int} (hx0 : 0 ≤ x0) (hx1 : x0 < 1000000009) (h1 : (sd + 8191 * c + 50021) % 2147483587 = 0) (h2 : (20011 * c + 31) % 1000000009 = x0) : (hashI sd c % 26, hashI sd (c + 1) % 26) = pairAt x0 := by
  have hm : (8191 : Int) ^ 5 % 2147483587 = 836990474 := by decide
  have a1 : (sd + 8191 * c + 50021) ^ 5 % 2147483587 = 0 := by
    have := emod_pow (a := sd + 8191 * c + 50021) (b := 0) (m := 2147483587) (by omega) 5
    rw [this]; decide
  have a2 : (sd + 8191 * (c + 1) + 50021) ^ 5 % 2147483587 = 836990474 := by
    have := emod_pow (a := sd + 8191 * (c + 1) + 50021) (b := 8191) (m := 2147483587) (by omega) 5
    rw [this]; exact hm
  unfold hashI pairAt
  rw [a1, a2]
  have b1 := emod_pow (a := 0 * 40009 + 20011 * c + 31) (b := x0) (m := 1000000009) (by omega) 3
  have b2 := emod_pow (a := 836990474 * 40009 + 20011 * (c + 1) + 31) (b := 836990474 * 40009 + x0 + 20011) (m := 1000000009) (by omega) 3
  rw [b1, b2]
/-- how long it takes at most -/
def LongN (L : Nat) : Nat := 64 * (L + 1) + 2147483587 * 1000000009 + 2
theorem wished (L : Nat) (hL : 0 < L) {s : Strm} (ok : StrmOk s) (hb : Bnd L s) {x0 : Int} (h0 : 0 ≤ x0) (h1 : x0 < 1000000009) : ∃ n, n + 2 ≤ LongN L ∧ (dg26 (nxs n s), dg26 (nxs (n + 1) s)) = pairAt x0 := by
  obtain ⟨o1, o2, o3, o4, o5, o6⟩ := ok
  obtain ⟨n1, hn1, hd⟩ := drain L hL (s.cells.length * (L + 1) + L) s L o1 hb.1 (Nat.le_refl _) hb (Nat.le_refl _)
  have hn1' : n1 ≤ 64 * (L + 1) := by
    have : s.cells.length * (L + 1) ≤ 63 * (L + 1) := Nat.mul_le_mul_right _ o6
    omega
  obtain ⟨n2, e1, e2, e3⟩ := crt1 (nxs n1 s).seed x0 ((nxs n1 s).cnt + 1) h0 h1
  refine ⟨n1 + n2, by unfold LongN; omega, ?_⟩
  have d2 := dry_nxs hd n2
  have q1 := dry_next d2.1
  have q2 := dry_next q1.1
  have ec : (nxs n2 (nxs n1 s)).cnt = (nxs n1 s).cnt + n2 := nxs_cnt n2 _
  rw [nxs_succ, nxs_add, q1.2.2, q2.2.2, q1.2.1, d2.2, ec]
  have ec2 : (nx26 (nxs n2 (nxs n1 s))).cnt = (nxs n1 s).cnt + n2 + 1 := by rw [nx26, draw_cnt, ec]
  rw [ec2, ← hash_pair h0 h1 (sd := (nxs n1 s).seed) (c := (nxs n1 s).cnt + 1 + n2) (by rw [← e2]) (by rw [← e3])]
  rw [show (nxs n1 s).cnt + 1 + n2 = (nxs n1 s).cnt + n2 + 1 by omega]
def xs64 : List Int := [0, 1, 2, 3, 4, 5, 6, 7, 8, 9, 10, 11, 12, 13, 14, 15, 16, 17, 18, 19, 20, 22, 23, 24, 25, 26, 27, 28, 29, 30, 31, 32, 33, 36, 37, 38, 39, 40, 41, 42, 43, 44, 46, 47, 48, 49, 51, 52, 53, 54, 55, 56, 57, 58, 60, 61, 62, 63, 65, 66, 68, 69, 70, 71]
def prs64 : List (Int × Int) := xs64.map pairAt
theorem prs64_nd : prs64.Nodup := by decide +kernel
theorem xs64_in : ∀ x ∈ xs64, 0 ≤ x ∧ x < 1000000009 := by decide
/-- one of 64 things is not among fewer -/
theorem one_out {α : Type} [DecidableEq α] : ∀ (xs ys : List α), xs.Nodup → ys.length < xs.length → ∃ x ∈ xs, x ∉ ys
  | [], ys, _, h => by simp at h
  | x :: xs, ys, nd, h => by
    by_cases q : x ∈ ys
    · obtain ⟨n1, n2⟩ := List.nodup_cons.mp nd
      obtain ⟨z, hz, hn⟩ := one_out xs (ys.erase x) n2 (by
        rw [List.length_erase_of_mem q]
        have := List.length_pos_of_mem q
        simp only [List.length_cons] at h
        omega)
      refine ⟨z, List.mem_cons_of_mem _ hz, fun hm => hn ?_⟩
      exact (List.mem_erase_of_ne (fun e => n1 (by rw [← e]; exact hz))).mpr hm
    · exact ⟨x, List.mem_cons_self, q⟩
/-- a pair of digits that none of some pairs is comes soon -/
theorem wished_new (L : Nat) (hL : 0 < L) {s : Strm} (ok : StrmOk s) (hb : Bnd L s) (no : List (Int × Int)) (hn : no.length < 64) : ∃ n, n + 2 ≤ LongN L ∧ (dg26 (nxs n s), dg26 (nxs (n + 1) s)) ∉ no := by
  obtain ⟨p, hp, hq⟩ := one_out prs64 no prs64_nd (by show no.length < prs64.length; rw [show prs64.length = 64 by rfl]; exact hn)
  obtain ⟨x, hx, rfl⟩ := List.mem_map.mp hp
  obtain ⟨h0, h1⟩ := xs64_in x hx
  obtain ⟨n, a, b⟩ := wished L hL ok hb h0 h1
  exact ⟨n, a, by rw [b]; exact hq⟩
end DL
end
section
set_option autoImplicit false
namespace DL
open PySem PySem.Spec L2
def LB : Nat := 1048577
theorem LB_pos : 0 < LB := by decide
def LIM : Int := 100000000000000000000000000000000000000000000000000
theorem lim200 : LIM + 1 < 2 ^ 200 := by decide
/-- the stream stands well, with b draws at most behind it -/
structure Ad (b : Int) (s : Strm) : Prop where
  ok : StrmOk s
  bd : Bnd LB s
  ct : s.cnt ≤ b
section
variable {α β : Type} {s s' : Strm} {b b' c n : Int} {P : D → Strm → Prop}
theorem Ad.mono (h : Ad b s) (l : b ≤ b') : Ad b' s := ⟨h.ok, h.bd, Int.le_trans h.ct l⟩
theorem drawF_eq {many : Int} (h : StrmOk s) (h0 : 0 < many) (h1 : many < 1073741824) : drawF [.stm, .int many] s = some (.ok (.int (drawS many s).1), (drawS many s).2) := by
  show (if StrmOk s ∧ 0 < many ∧ many < 1073741824 then _ else _) = _
  rw [if_pos ⟨h, h0, h1⟩]
/-- a draw -/
theorem Ad.draw (h : Ad b s) (l : b ≤ LIM) (h0 : 0 < n) (h1 : n < 1073741824) : 0 ≤ (drawS n s).1 ∧ (drawS n s).1 < n ∧ Ad (b + 1) (drawS n s).2 := by
  have := lim200
  obtain ⟨i, s1, e, j, q0, q1, q2, q3⟩ := sure_draw (P := fun i s' => ∃ j, i = .int j ∧ 0 ≤ j ∧ j < n ∧ At (b + 1) s') (b := b) (s := s) (many := n) ⟨h.ok, h.ct⟩ (by omega) h0 h1 (fun i s' a1 a2 a3 => ⟨i, rfl, a1, a2, a3⟩)
  rw [drawF_eq h.ok h0 h1] at e
  injection e with e
  injection e with e1 e2
  injection e1 with e1
  rw [q0] at e1
  injection e1 with e1
  rw [e1, e2]
  exact ⟨q1, q2, q3.1, by rw [← e2]; exact h.bd.draw h.ok.1 h0, q3.2⟩
theorem su_draw (h : Ad b s) (l : b ≤ LIM) (h0 : 0 < n) (h1 : n < 1073741824) (k : ∀ i s', 0 ≤ i → i < n → Ad (b + 1) s' → P (.int i) s') : Sure (drawF [.stm, .int n]) s P := by
  obtain ⟨a1, a2, a3⟩ := h.draw l h0 h1
  exact ⟨_, _, drawF_eq h.ok h0 h1, k _ _ a1 a2 a3⟩
theorem Sure.eq {x : M α} {v : α} {s' : Strm} (h : Sure x s fun a t => a = v ∧ t = s') : x s = some (.ok v, s') := by
  obtain ⟨a, t, e, rfl, rfl⟩ := h
  exact e
theorem pure_of_sure {x : M α} {v : α} (h : ∀ s, Sure x s fun a t => a = v ∧ t = s) : x = pure v := funext fun s => (h s).eq
theorem su_lcM {f : α → D} {B : D → M (Option D)} {h : α → Option D} {P : List D → Strm → Prop} : ∀ {xs : List α} {s : Strm}, (∀ a ∈ xs, ∀ s, Sure (B (f a)) s fun o t => o = h a ∧ t = s) → P (xs.filterMap h) s → Sure (lcD B (xs.map f)) s P := by
  intro xs
  suffices q : ∀ xs : List α, (∀ a ∈ xs, ∀ s, Sure (B (f a)) s fun o t => o = h a ∧ t = s) → lcD B (xs.map f) = pure (xs.filterMap h) by
    intro s hb hp
    rw [q xs hb]; exact Sure.pure hp
  intro xs
  induction xs with
  | nil => intro _; rfl
  | cons x xs ih =>
    intro hb
    have e1 : B (f x) = pure (h x) := pure_of_sure (hb x List.mem_cons_self)
    have e2 := ih fun a ha => hb a (List.mem_cons_of_mem _ ha)
    funext s
    rw [List.map_cons]
    unfold lcD
    rw [e1, e2]
    cases hx : h x with
    | none => rw [List.filterMap_cons_none hx]; rfl
    | some y => rw [List.filterMap_cons_some hx]; rfl
theorem su_lcMap {f : α → D} {B : D → M (Option D)} {g : α → D} {P : List D → Strm → Prop} {xs : List α} {s : Strm} (hb : ∀ a ∈ xs, ∀ s, Sure (B (f a)) s fun o t => o = some (g a) ∧ t = s) (hp : P (xs.map g) s) : Sure (lcD B (xs.map f)) s P :=
  su_lcM (h := fun a => some (g a)) hb (by rw [List.filterMap_eq_map']; exact hp)
theorem su_lcFil {f : α → D} {B : D → M (Option D)} {p : α → Bool} {g : α → D} {P : List D → Strm → Prop} {xs : List α} {s : Strm} (hb : ∀ a ∈ xs, ∀ s, Sure (B (f a)) s fun o t => o = (if p a then some (g a) else none) ∧ t = s) (hp : P ((xs.filter p).map g) s) : Sure (lcD B (xs.map f)) s P :=
  su_lcM (h := fun a => if p a then some (g a) else none) hb (by
    have : ∀ xs : List α, xs.filterMap (fun a => if p a then some (g a) else none) = (xs.filter p).map g := fun xs => by
      induction xs with
      | nil => rfl
      | cons x xs ih => cases q : p x <;> simp [q, ih]
    rw [this]; exact hp)
/-- a comprehension that draws: R what an item is worth, c the most draws an item -/
theorem su_lcR {f : α → D} {B : D → M (Option D)} {R : α → D → Prop} {P : List D → Strm → Prop} (c : Int) (hc : 0 ≤ c) : ∀ {xs : List α} {b : Int} {s : Strm}, Ad b s → b + xs.length * c ≤ LIM → (∀ a ∈ xs, ∀ b s, Ad b s → b + c ≤ LIM → Sure (B (f a)) s fun o t => ∃ y, o = some y ∧ R a y ∧ Ad (b + c) t) →
    (∀ ys t, All2 R xs ys → Ad (b + xs.length * c) t → P ys t) → Sure (lcD B (xs.map f)) s P := by
  intro xs
  induction xs generalizing P with
  | nil => intro b s h _ _ k; exact Sure.pure (k [] s .nil (h.mono (by simp)))
  | cons x xs ih =>
    intro b s h hl hb k
    have e : ((x :: xs).length : Int) * c = xs.length * c + c := by rw [List.length_cons, Int.natCast_add, Int.add_mul]; simp
    have hp : (0 : Int) ≤ xs.length * c := Int.mul_nonneg (by omega) hc
    rw [e] at hl k
    rw [List.map_cons]
    unfold lcD
    refine Sure.bind ((hb x List.mem_cons_self b s h (by omega)).mono fun o t ⟨y, e1, r, h1⟩ => ?_)
    subst e1
    refine Sure.bind (ih h1 (by omega) (fun a ha => hb a (List.mem_cons_of_mem _ ha)) fun ys t2 r2 h2 => Sure.pure (k _ _ (.cons r r2) (h2.mono (by omega))))
/-- over a range: so many turns -/
theorem su_lcRange {B : D → M (Option D)} {R : D → Prop} {P : List D → Strm → Prop} (c : Int) (hc : 0 ≤ c) {m : Nat} {b : Int} {s : Strm} (h : Ad b s) (hl : b + m * c ≤ LIM) (hb : ∀ i : Nat, i < m → ∀ b s, Ad b s → b + c ≤ LIM → Sure (B (.int i)) s fun o t => ∃ y, o = some y ∧ R y ∧ Ad (b + c) t)
    (k : ∀ ys t, ys.length = m → (∀ y ∈ ys, R y) → Ad (b + m * c) t → P ys t) : Sure (lcD B ((List.range m).map fun (i : Nat) => .int (i : Int))) s P := by
  refine su_lcR (R := fun _ y => R y) c hc h (by simpa using hl) (fun a ha b s h hl => hb a (List.mem_range.mp ha) b s h hl) fun ys t r h2 => ?_
  have : ∀ {xs : List Nat} {ys : List D}, All2 (fun _ y => R y) xs ys → ys.length = xs.length ∧ ∀ y ∈ ys, R y := fun {xs ys} r => by
    induction r with
    | nil => exact ⟨rfl, fun y hy => by cases hy⟩
    | cons a _ ih =>
      refine ⟨by simp [ih.1], fun y hy => ?_⟩
      rcases List.mem_cons.mp hy with rfl | hy
      · exact a
      · exact ih.2 y hy
  obtain ⟨e1, e2⟩ := this r
  exact k ys t (by simpa using e1) e2 (by simpa using h2)
theorem su_forM {B : D → Env → M Out} {f : α → D} {xs : List α} {ρ : Env} {P : Out → Strm → Prop} (I : Nat → Env → Strm → Prop) (h0 : I 0 ρ s)
    (st : ∀ i x ρ s, xs[i]? = some x → I i ρ s → Sure (B (f x) ρ) s fun o s' => (∃ ρ', (o = .nx ρ' ∨ o = .ct ρ') ∧ I (i + 1) ρ' s') ∨ ∃ v, o = .rt v ∧ P (.rt v) s')
    (h1 : ∀ ρ s, I xs.length ρ s → P (.nx ρ) s) : Sure (forD B (xs.map f) ρ) s P :=
  su_for I h0 (fun i d ρ s e hi => by
    rw [List.getElem?_map] at e
    cases q : xs[i]? with
    | none => rw [q] at e; cases e
    | some x => rw [q] at e; cases e; exact st i x ρ s q hi) fun ρ s hi => h1 ρ s (by rw [List.length_map] at hi; exact hi)
theorem su_forR {B : D → Env → M Out} {f : Nat → D} {m : Nat} {ρ : Env} {P : Out → Strm → Prop} (I : Nat → Env → Strm → Prop) (h0 : I 0 ρ s)
    (st : ∀ i ρ s, i < m → I i ρ s → Sure (B (f i) ρ) s fun o s' => (∃ ρ', (o = .nx ρ' ∨ o = .ct ρ') ∧ I (i + 1) ρ' s') ∨ ∃ v, o = .rt v ∧ P (.rt v) s')
    (h1 : ∀ ρ s, I m ρ s → P (.nx ρ) s) : Sure (forD B ((List.range m).map f) ρ) s P :=
  su_forM I h0 (fun i x ρ s e hi => by
    obtain ⟨h, e⟩ := List.getElem?_eq_some_iff.mp e
    rw [List.getElem_range] at e
    subst e
    exact st i ρ s (by simpa using h) hi) fun ρ s hi => h1 ρ s (by rw [List.length_range] at hi; exact hi)
@[simp] theorem ofString_inj {a b : String} : PySem.Str.ofString a = PySem.Str.ofString b ↔ a = b := by
  constructor
  · intro h
    rw [PySem.Str.ofString_eq_toList, PySem.Str.ofString_eq_toList] at h
    have h1 : a.toList.map Char.toNat = b.toList.map Char.toNat := by
      have := congrArg (fun x : Str => x.cps.toList) h
      simpa using this
    have h2 : ∀ c d : Char, c.toNat = d.toNat → c = d := fun c d e => Char.toNat_inj.mp e
    have h3 : a.toList = b.toList := by
      have : ∀ (xs ys : List Char), xs.map Char.toNat = ys.map Char.toNat → xs = ys := fun xs => by
        induction xs with
        | nil => intro ys h; cases ys with | nil => rfl | cons y ys => cases h
        | cons x xs ih =>
          intro ys h
          cases ys with
          | nil => cases h
          | cons y ys => simp only [List.map_cons, List.cons.injEq] at h; rw [h2 _ _ h.1, ih ys h.2]
      exact this _ _ h1
    exact String.toList_inj.mp h3
  · rintro rfl; rfl
theorem blsD_map (p : α → Bool) (xs : List α) : blsD (xs.map fun a => D.bl (p a)) = some (xs.map p) := by
  induction xs with
  | nil => rfl
  | cons x xs ih => simp [blsD, ih]
theorem allD_map (p : α → Bool) (xs : List α) : allD [.lst (xs.map fun a => D.bl (p a))] = some (.bl (xs.all p)) := by
  simp [allD, blsD_map, List.all_map, Function.comp_def]
theorem anyD_map (p : α → Bool) (xs : List α) : anyD [.lst (xs.map fun a => D.bl (p a))] = some (.bl (xs.any p)) := by
  simp [anyD, blsD_map, List.any_map, Function.comp_def]
theorem enum_get : ∀ (xs : List D) (k i : Nat) (d : D), (enumL xs k)[i]? = some d → ∃ x, xs[i]? = some x ∧ d = .tup [.int ((k + i : Nat) : Int), x]
  | [], k, i, d, h => by simp [enumL] at h
  | x :: xs, k, 0, d, h => by simp [enumL] at h; exact ⟨x, rfl, h.symm⟩
  | x :: xs, k, i + 1, d, h => by
    simp [enumL] at h
    obtain ⟨y, h1, h2⟩ := enum_get xs (k + 1) i d h
    exact ⟨y, by simpa using h1, by rw [h2, show k + 1 + i = k + (i + 1) by omega]⟩
/-- a list or a tuple of these -/
def IsSq (d : D) (xs : List D) : Prop := d = .lst xs ∨ d = .tup xs
theorem IsSq.items {d : D} {xs : List D} (h : IsSq d xs) : itemsD d = some xs := by rcases h with rfl | rfl <;> rfl
theorem IsSq.enum {d : D} {xs : List D} (h : IsSq d xs) : enumD d = some (enumL xs 0) := by rcases h with rfl | rfl <;> rfl
theorem IsSq.len {d : D} {xs : List D} (h : IsSq d xs) : lenD [d] = some (.int xs.length) := by rcases h with rfl | rfl <;> rfl
theorem IsSq.ix {d : D} {xs : List D} (h : IsSq d xs) (i : Int) : ixD d (.int i) = atI xs i := by rcases h with rfl | rfl <;> rfl
theorem IsSq.list {d : D} {xs : List D} (h : IsSq d xs) : listD [d] = some (.lst xs) := by rcases h with rfl | rfl <;> rfl
theorem IsSq.tuple {d : D} {xs : List D} (h : IsSq d xs) : tupleD [d] = some (.tup xs) := by rcases h with rfl | rfl <;> rfl
theorem IsSq.isi {d : D} {xs : List D} (h : IsSq d xs) : isiD [.b .list, .b .tuple] d = some true := by rcases h with rfl | rfl <;> rfl
theorem atI_nat (xs : List D) (i : Int) (h0 : 0 ≤ i) (h1 : i < xs.length) : ∃ x, atI xs i = some x ∧ xs[i.toNat]? = some x := by
  have h2 : i.toNat < xs.length := by omega
  refine ⟨xs[i.toNat], ?_, List.getElem?_eq_getElem h2⟩
  unfold atI ixN
  rw [if_pos h0, if_pos h1]
  exact List.getElem?_eq_getElem h2
theorem LO.sortedQ [DecidableEq α] {f : α → D} {lt : α → α → Bool} {k : Nat} (h : LO f lt k) (hk : k ≤ 50) {d : D} {xs : List α} (hl : xs.length ≤ sizeLine) (q : IsSq d (xs.map f)) : sortedD [d] = some (.lst ((sortT lt xs).map f)) := by
  rcases q with rfl | rfl
  · exact h.sortedL hk hl
  · exact h.sortedT hk hl
end
end DL
end
section
set_option autoImplicit false
namespace DL
open PySem PySem.Spec L2
section
variable {s : Strm} {ρ : Env} {Fa Fb Fc F : EF} {Fs : AF} {P : D → Strm → Prop} {PL : List D → Strm → Prop} {PO : Out → Strm → Prop} {i j l k : Nat} {bs : List Bool}
@[simp] theorem starD_lst {ds : List D} : starD (.lst ds) = some ds := rfl
@[simp] theorem starD_tup {ds : List D} : starD (.tup ds) = some ds := rfl
@[simp] theorem w_aStar : @SureK _ (aStar Fa Fs ρ) s ⟨PL⟩ ↔ Sure (Fa ρ) s fun x s1 => optK (starD x) fun ds => Sure (Fs ρ) s1 fun xs s2 => PL (ds ++ xs) s2 := by
  show Sure _ _ _ ↔ _
  simp only [aStar, su_bind, su_pure, p_of]
@[simp] theorem w_par3 : @SureK _ (sPar3 i j l Fa Fb Fc ρ) s ⟨PO⟩ ↔ Sure (Fa ρ) s fun d s1 => Sure (Fb ρ) s1 fun e s2 => Sure (Fc ρ) s2 fun f s3 => PO (.nx (((ρ.set i (some d)).set j (some e)).set l (some f))) s3 := by
  show Sure _ _ _ ↔ _
  simp only [sPar3, su_bind, su_pure]
@[simp] theorem w_spoilX : @SureK _ (sSpoilX k bs F ρ) s ⟨PO⟩ ↔ Sure (F (maskE bs ρ)) s fun d s1 => andK (spO d = true ∧ dpt d + 1 ≤ k ∧ mxl d + cnt d < sizeLine) (PO (.nx (dropE bs ρ)) s1) := by
  show Sure _ _ _ ↔ _
  simp only [sSpoilX, su_bind]
  constructor <;> (intro h; refine h.mono fun d s1 h => ?_)
  · by_cases z : spO d = true ∧ dpt d + 1 ≤ k ∧ mxl d + cnt d < sizeLine
    · rw [if_pos z, su_pure] at h; exact ⟨z, h⟩
    · rw [if_neg z, su_fail] at h; exact h.elim
  · rw [if_pos h.1, su_pure]; exact h.2
@[simp] theorem maskE_t {o : Option D} : maskE (true :: bs) (o :: ρ) = o :: maskE bs ρ := rfl
@[simp] theorem maskE_f {o : Option D} : maskE (false :: bs) (o :: ρ) = none :: maskE bs ρ := rfl
@[simp] theorem maskE_n : maskE [] [] = [] := rfl
@[simp] theorem dropE_t {o : Option D} : dropE (true :: bs) (o :: ρ) = none :: dropE bs ρ := rfl
@[simp] theorem dropE_f {o : Option D} : dropE (false :: bs) (o :: ρ) = o :: dropE bs ρ := rfl
@[simp] theorem dropE_n : dropE [] ρ = ρ := rfl
end
end DL
end
section
set_option autoImplicit false
namespace DL
open PySem PySem.Spec L2
section
variable {s : Strm} {ρ : Env} {d : D} {q q1 : Bool} {Fi Fi1 : IF} {is is1 : List Nat} {g g1 : GF} {Ft Ft1 : TF} {Fe Fk Fv : EF} {P : D → Strm → Prop} {PL : List D → Strm → Prop} {PO : Out → Strm → Prop} {i : Nat}
theorem p_ite' {α : Type} {p : Prop} {_ : Decidable p} {o : Option α} {f : α → Prop} : optK (if p then o else none) f ↔ andK p (optK o f) := by
  by_cases h : p
  · rw [if_pos h]; exact ⟨fun k => ⟨h, k⟩, fun k => k.2⟩
  · rw [if_neg h]; exact ⟨(fun ⟨_, e, _⟩ => by cases e), fun k => absurd k.1 h⟩
@[simp] theorem w_pair : @SureK _ (fPair Fk Fv ρ) s ⟨P⟩ ↔ Sure (Fk ρ) s fun x s1 => Sure (Fv ρ) s1 fun y s2 => P (.tup [x, y]) s2 := by
  show Sure _ _ _ ↔ _
  simp only [fPair, su_bind, su_pure]
@[simp] theorem w_pairK : @SureK _ (fPairK Fk Fv ρ) s ⟨P⟩ ↔ Sure (Fk ρ) s fun x s1 => Sure (Fv ρ) s1 fun y s2 => optK (kOf x) fun _ => P (.tup [x, y]) s2 := by
  show Sure _ _ _ ↔ _
  simp only [fPairK, su_bind, p_of, p_map]
@[simp] theorem w_dcN : @SureK _ (fDcN q Fi is g Ft Fk Fv ρ) s ⟨P⟩ ↔ Sure (Fi ρ) s fun items s1 => andK (q = true → items.all frozen = true) (Sure (lcD (lcB g Ft (fPair Fk Fv) (wipeR ρ is)) items) s1 fun ys s2 => andK (items.length ≤ sizeLine) (optK (mergeP [] ys) fun kvs => P (.dic false kvs) s2)) := by
  show Sure _ _ _ ↔ _
  simp only [fDcN, su_bind, p_of, w_fzM, su_noErr, p_ite', p_map]
@[simp] theorem w_lcB2 : @SureK _ (lcB2 g Ft Fi1 q1 is1 g1 Ft1 Fe ρ d) s ⟨PL⟩ ↔ optK (g d ρ) fun ρ1 => Sure (Ft ρ1) s fun b s1 => ifK b (Sure (Fi1 ρ1) s1 fun items s2 => andK (q1 = true → items.all frozen = true) (Sure (lcD (lcB g1 Ft1 Fe (wipeR ρ1 is1)) items) s2 PL)) (PL [] s1) := by
  show Sure _ _ _ ↔ _
  unfold lcB2
  cases h : g d ρ with
  | none => simp only [p_none]; exact su_fail
  | some ρ1 => simp only [p_some, su_bind, su_ite, Bool.not_eq_true, ifK_eq, w_fzM, su_pure]
@[simp] theorem w_lc2 : @SureK _ (fLc2 q Fi is g Ft Fi1 q1 is1 g1 Ft1 Fe ρ) s ⟨P⟩ ↔ Sure (Fi ρ) s fun items s1 => andK (q = true → items.all frozen = true) (Sure (lcJ (lcB2 g Ft Fi1 q1 is1 g1 Ft1 Fe (wipeR ρ is)) items) s1 fun ys s2 => andK (ys.length < sizeLine) (P (.lst ys) s2)) := by
  show Sure _ _ _ ↔ _
  simp only [fLc2, fPs2, su_bind, p_of, w_fzM, su_noErr, p_ite]
@[simp] theorem w_dc2 : @SureK _ (fDc2 q Fi is g Ft Fi1 q1 is1 g1 Ft1 Fk Fv ρ) s ⟨P⟩ ↔ Sure (Fi ρ) s fun items s1 => andK (q = true → items.all frozen = true) (Sure (lcJ (lcB2 g Ft Fi1 q1 is1 g1 Ft1 (fPairK Fk Fv) (wipeR ρ is)) items) s1 fun ys s2 => andK (ys.length < sizeLine) (optK (mergeP [] ys) fun kvs => P (.dic false kvs) s2)) := by
  show Sure _ _ _ ↔ _
  simp only [fDc2, fPs2, su_bind, p_of, w_fzM, su_noErr, p_ite', p_map]
@[simp] theorem w_upd : @SureK _ (sUpd i Fe ρ) s ⟨PO⟩ ↔ Sure (dicM (ρ[i]?)) s fun dd s1 => Sure (Fe ρ) s1 fun e s2 => optK (updD dd e) fun d' => PO (.nx (ρ.set i (some d'))) s2 := by
  show Sure _ _ _ ↔ _
  simp only [sUpd, su_bind, p_of, p_map]
/-- the inner lists joined, without draws -/
theorem su_lcJ {α : Type} {f : α → D} {B : D → M (List D)} {h : α → List D} : ∀ {xs : List α} {s : Strm} {P : List D → Strm → Prop}, (∀ a ∈ xs, ∀ s, Sure (B (f a)) s fun ys t => ys = h a ∧ t = s) → P (xs.flatMap h) s → Sure (lcJ B (xs.map f)) s P
  | [], s, P, _, hp => by show Sure (pure []) s P; rw [su_pure]; exact hp
  | x :: xs, s, P, hb, hp => by
    show Sure (B (f x) >>= _) s P
    rw [su_bind]
    refine (hb x List.mem_cons_self s).mono fun ys t ⟨e1, e2⟩ => ?_
    subst e1 e2
    rw [su_bind]
    refine su_lcJ (fun a ha s => hb a (List.mem_cons_of_mem _ ha) s) ?_
    rw [su_pure]
    exact hp
end
end DL
end
section
set_option autoImplicit false
namespace Lk
open PySem PySem.Spec L2 DL
variable {s : Strm} {P : D → Strm → Prop}
/-- a name -/
structure Nm (x : Str) : Prop where
  lo : 0 < x.length
  hi : x.length ≤ 8
  az : ∀ c ∈ x.cps.toList, 97 ≤ c ∧ c ≤ 122
theorem letters : (PySem.Str.ofString "abcdefghijklmnopqrstuvwxyz").cps.toList = (List.range 26).map (97 + ·) := by decide +kernel
theorem m_is_list {d : D} {xs : List D} (h : IsSq d xs) (k : P (.bl true) s) : Sure (pr_is_list [d]) s P := by
  refine su_fnA (by simp [DL.argsOk]) ?_
  rcases h with rfl | rfl <;> simp [B_is_list, k]
theorem m_is_row {d : D} {xs : List D} {n : Int} (h : IsSq d xs) (k : P (.bl (decide ((xs.length : Int) = n))) s) : Sure (pr_is_row [d, .int n]) s P := by
  refine su_fnA (by simp [DL.argsOk]) ?_
  simp [B_is_row]
  refine m_is_list h ?_
  simp [h.len, k]
theorem sgn_in {c : Nat} : inB (sgnD c) (.str (PySem.Str.ofString "abcdefghijklmnopqrstuvwxyz")) = some (decide (97 ≤ c ∧ c ≤ 122)) := by
  show some (decide (c ∈ (PySem.Str.ofString "abcdefghijklmnopqrstuvwxyz").cps.toList)) = _
  rw [letters]
  congr 1
  rw [decide_eq_decide]
  simp only [List.mem_map, List.mem_range]
  constructor
  · rintro ⟨a, h, rfl⟩; omega
  · intro h; exact ⟨c - 97, by omega, by omega⟩
theorem m_is_name {x : Str} (hx : Nm x) (k : P (.bl true) s) : Sure (pr_is_name [.str x]) s P := by
  have h8 := hx.hi
  have h1 := hx.lo
  refine su_fnA (by simp [DL.argsOk]) ?_
  simp [B_is_name]
  refine ak (by omega) ?_
  simp
  refine iqT (by omega) ?_
  simp
  refine iqT (by omega) ?_
  simp
  refine su_lcMap (g := fun c => .bl (decide (97 ≤ c) && decide (c ≤ 122))) (fun c _ s => ?_) ?_
  · simp [inD, sgn_in]
  · simp
    refine ak (by show x.length ≤ _; omega) ?_
    simp
    refine ok (allD_map _ _) ?_
    rw [List.all_eq_true.mpr fun c hc => by have := hx.az c hc; simp; omega]
    exact k
/-- texts as trees -/
abbrev tS (xs : List Str) : List D := xs.map D.str
def sk (kvs : List (Str × D)) : List (D × D) := kvs.map fun p => (.str p.1, p.2)
def lookS (kvs : List (Str × D)) (x : Str) : Option D := (kvs.find? fun p => decide (p.1 = x)).map (·.2)
def putS (kvs : List (Str × D)) (x : Str) (v : D) : List (Str × D) := if x ∈ kvs.map (·.1) then kvs.map (fun p => if p.1 = x then (p.1, v) else p) else kvs ++ [(x, v)]
theorem kOf_iff {t x : Str} : (kOf (.str t) = some (Sum.inr x : Key)) ↔ t = x := by simp [kOf]
theorem getD_sk (kvs : List (Str × D)) (x : Str) : getD? (.dic false (sk kvs)) (.str x) = some (lookS kvs x) := by
  show some (lookD (sk kvs) fun d => decide (kOf d = some (Sum.inr x : Key))) = _
  congr 1
  unfold lookD lookS sk
  rw [List.find?_map]
  have : ((fun p : D × D => (fun d => decide (kOf d = some (Sum.inr x : Key))) p.1) ∘ fun p : Str × D => (D.str p.1, p.2)) = fun p => decide (p.1 = x) := by
    funext p
    exact decide_eq_decide.mpr kOf_iff
  rw [this, Option.map_map]
  rfl
theorem ixD_sk (kvs : List (Str × D)) (x : Str) : ixD (.dic false (sk kvs)) (.str x) = lookS kvs x := by
  show (getD? (.dic false (sk kvs)) (.str x)).join = _
  rw [getD_sk]; rfl
theorem inB_sk (kvs : List (Str × D)) (x : Str) : inB (.str x) (.dic false (sk kvs)) = some (decide (x ∈ kvs.map (·.1))) := by
  show (getD? (.dic false (sk kvs)) (.str x)).map (·.isSome) = _
  rw [getD_sk, Option.map_some]
  congr 1
  unfold lookS
  rw [Option.isSome_map, Bool.eq_iff_iff, List.find?_isSome]
  simp
theorem putD_sk (kvs : List (Str × D)) (x : Str) (v : D) (hl : kvs.length < sizeLine) : putD (.dic false (sk kvs)) (.str x) v = some (.dic false (sk (putS kvs x v))) := by
  show (some (Sum.inr x : Key)).bind (fun key => if (sk kvs).length < sizeLine then some (D.dic false (putL (sk kvs) (fun d => decide (kOf d = some key)) (.str x) v)) else none) = _
  rw [Option.bind_some, if_pos (by simpa [sk] using hl)]
  congr 2
  unfold putL putS sk
  rw [List.any_map]
  have : ((fun p : D × D => (fun d => decide (kOf d = some (Sum.inr x : Key))) p.1) ∘ fun p : Str × D => (D.str p.1, p.2)) = fun p => decide (p.1 = x) := by
    funext p
    exact decide_eq_decide.mpr kOf_iff
  rw [this]
  by_cases q : x ∈ kvs.map (·.1)
  · rw [if_pos q, if_pos (by simpa using q), List.map_map, List.map_map]
    refine List.map_congr_left fun p _ => ?_
    simp only [Function.comp_apply]
    by_cases z : p.1 = x
    · rw [if_pos z, if_pos (by simpa [kOf] using z)]
    · rw [if_neg z, if_neg (by simpa [kOf] using z)]
  · rw [if_neg q, if_neg (by simpa using q)]
    simp
/-- the dict of the towns that are known -/
def kn (ts : List Str) : List (Str × D) := ts.map fun t => (t, .bl true)
theorem kn_keys (ts : List Str) : (kn ts).map (·.1) = ts := by simp [kn, List.map_map, Function.comp_def]
theorem putS_kn {ts : List Str} {x : Str} (h : x ∉ ts) : putS (kn ts) x (.bl true) = kn (ts ++ [x]) := by
  unfold putS
  rw [kn_keys, if_neg h]
  simp [kn]
theorem nodup_get {α : Type} : ∀ {xs : List α}, xs.Nodup → ∀ {i j : Nat}, i < j → j < xs.length → xs[i]? ≠ xs[j]?
  | [], _, _, _, _, h => by simp at h
  | x :: xs, hd, 0, j + 1, _, h => by
    intro e
    rw [List.getElem?_cons_zero, List.getElem?_cons_succ] at e
    exact (List.nodup_cons.mp hd).1 (List.mem_of_getElem? e.symm)
  | x :: xs, hd, i + 1, j + 1, hij, h => by
    rw [List.getElem?_cons_succ, List.getElem?_cons_succ]
    exact nodup_get (List.nodup_cons.mp hd).2 (by omega) (by simpa using h)
theorem m_first_bad_town {d : D} {ts : List Str} (h : IsSq d (tS ts)) (h0 : ts ≠ []) (hl : ts.length ≤ 1000) (hn : ∀ t ∈ ts, Nm t) (hd : ts.Nodup) (k : P .non s) : Sure (pr_first_bad_town [d]) s P := by
  refine su_fnA (by simp [DL.argsOk]) ?_
  simp [B_first_bad_town]
  refine m_is_list h ?_
  simp [h.len]
  refine iqF (by simpa using h0) ?_
  simp [h.enum]
  refine su_for (I := fun i ρ t => t = s ∧ ∃ o p, ρ = [some d, some (.dic false (sk (kn (ts.take i)))), o, p]) ⟨rfl, none, none, by simp [sk, kn]⟩ ?_ ?_
  · intro i e ρ t he ⟨ht, o, p, hρ⟩
    subst ht hρ
    obtain ⟨x, hx, rfl⟩ := enum_get _ _ _ _ he
    obtain ⟨a, ha, rfl⟩ : ∃ a, ts[i]? = some a ∧ x = .str a := by
      rw [List.getElem?_map] at hx
      cases q : ts[i]? with
      | none => rw [q] at hx; cases hx
      | some a => rw [q] at hx; cases hx; exact ⟨a, rfl, rfl⟩
    have hi : i < ts.length := (List.getElem?_eq_some_iff.mp ha).1
    have hm : a ∈ ts := List.mem_of_getElem? ha
    have hnew : a ∉ ts.take i := by
      intro z
      obtain ⟨j, hj, e⟩ := List.mem_take_iff_getElem.mp z
      have hj' : j < i := by omega
      exact nodup_get hd hj' hi (by rw [ha, List.getElem?_eq_getElem (by omega), e])
    simp
    refine m_is_name (hn a hm) ?_
    have hlt : (kn (ts.take i)).length < sizeLine := by simp [kn]; omega
    simp [inD, inB_sk, kn_keys, hnew, putD_sk _ _ _ hlt, putS_kn hnew]
    rw [List.take_succ, ha]; simp
  · rintro ρ t ⟨rfl, o, p, rfl⟩
    simpa using k
end Lk
end
section
set_option autoImplicit false
namespace DL
open PySem PySem.Spec L2
theorem All2.length {α β : Type} {R : α → β → Prop} : ∀ {xs : List α} {ys : List β}, All2 R xs ys → xs.length = ys.length
  | _, _, .nil => rfl
  | _, _, .cons _ r => by simp [r.length]
theorem su_lc2 {α : Type} {B : D → M (Option D)} {R : D → α → Prop} {g : α → D} {PL : List D → Strm → Prop} : ∀ {ds : List D} {xs : List α} {s : Strm}, All2 R ds xs → (∀ d x, R d x → x ∈ xs → ∀ s, Sure (B d) s fun o t => o = some (g x) ∧ t = s) → PL (xs.map g) s → Sure (lcD B ds) s PL := by
  intro ds xs s r hb hp
  suffices q : lcD B ds = pure (xs.map g) by rw [q]; exact Sure.pure hp
  clear hp
  induction r with
  | nil => rfl
  | @cons d x ds xs r _ ih =>
    have e1 : B d = pure (some (g x)) := pure_of_sure (hb d x r List.mem_cons_self)
    have e2 := ih fun d x r hx => hb d x r (List.mem_cons_of_mem _ hx)
    funext s
    unfold lcD
    rw [e1, e2]; rfl
theorem su_forT {g : GF} {Ft : TF} {P : Env → Strm → Prop} {s : Strm} (I : Nat → Env → Prop) : ∀ {items : List D} {k : Nat} {ρ : Env}, I k ρ → (∀ i d ρ s, items[i]? = some d → I (k + i) ρ → ∃ ρ1, g d ρ = some ρ1 ∧ I (k + i + 1) ρ1 ∧ Sure (Ft ρ1) s fun b t => b = false ∧ t = s) →
    (∀ ρ, I (k + items.length) ρ → P ρ s) → Sure (forT g Ft items ρ) s P
  | [], k, ρ, h0, _, h1 => su_pure.mpr (h1 ρ h0)
  | d :: ds, k, ρ, h0, st, h1 => by
    obtain ⟨ρ1, e, hi, hF⟩ := st 0 d ρ s rfl h0
    unfold forT
    rw [e]
    dsimp only
    refine Sure.bind (hF.mono fun b t ⟨e1, e2⟩ => ?_)
    subst e1 e2
    exact su_forT I hi (fun i d ρ s he hi => by
      have := st (i + 1) d ρ s (by simpa using he) (by rw [show k + (i + 1) = k + 0 + 1 + i by omega]; exact hi)
      rw [show k + (i + 1) + 1 = k + 0 + 1 + i + 1 by omega] at this
      exact this) fun ρ hi => h1 ρ (by rw [List.length_cons, show k + (ds.length + 1) = k + 0 + 1 + ds.length by omega]; exact hi)
end DL
namespace Lk
open PySem PySem.Spec L2 DL
variable {s : Strm} {P : D → Strm → Prop}
/-- a land that is being made, a land -/
def oT (ts : List Str) : D := .obj 0 [("own_towns", .lst (tS ts))]
def oL (ts : List Str) (rs : List Rd) : D := .obj 0 [("own_towns", .lst (tS ts)), ("own_roads", .lst (rs.map eR))]
theorem fld_oT (ts : List Str) : fldD "own_towns" (oT ts) = some (.lst (tS ts)) := by simp [oT, fldD]
theorem fld_oL (ts : List Str) (rs : List Rd) : fldD "own_towns" (oL ts rs) = some (.lst (tS ts)) := by simp [oL, fldD]
theorem fld_oL2 (ts : List Str) (rs : List Rd) : fldD "own_roads" (oL ts rs) = some (.lst (rs.map eR)) := by simp [oL, fldD]
theorem m_is_road {o d : D} {ts : List Str} {a b : Str} (ho : fldD "own_towns" o = some (.lst (tS ts))) (h : IsSq d [.str a, .str b]) (ha : a ∈ ts) (hb : b ∈ ts) (hab : a ≠ b) (k : P (.bl true) s) : Sure (pr_Land_is_road [o, d]) s P := by
  refine su_fnA (by simp [DL.argsOk]) ?_
  simp [B_Land_is_road]
  refine m_is_row h ?_
  simp [h.items]
  have e : ([D.str a, D.str b] : List D) = [a, b].map D.str := rfl
  rw [e]
  refine su_lcMap (g := fun x => .bl (decide (x ∈ ts))) (fun x hx s => ?_) ?_
  · simp [ho, inD, LO.str.inL]
  · simp [allD, blsD, ha, hb, h.ix, hab, k]
/-- a road as it stands: the lesser town first -/
def nrm (r : Rd) : Rd := (if ltS r.2 r.1 then r.2 else r.1, if ltS r.1 r.2 then r.2 else r.1)
theorem min2 {d : D} {a b : Str} (h : IsSq d [.str a, .str b]) : minD [d] = some (.str (if ltS b a then b else a)) := by
  have h1 : cmpOk [D.str a, D.str b] = true := LO.str.cmpOk (by decide) [a, b]
  have h2 : minL (.str a) [.str b] = .str (if ltS b a then b else a) := by
    show (if plt (D.str b) (D.str a) then D.str b else D.str a) = _
    rw [LO.str.plt]; split <;> rfl
  rcases h with rfl | rfl <;> simp [minD, h1, h2]
theorem max2 {d : D} {a b : Str} (h : IsSq d [.str a, .str b]) : maxD [d] = some (.str (if ltS a b then b else a)) := by
  have h1 : cmpOk [D.str a, D.str b] = true := LO.str.cmpOk (by decide) [a, b]
  have h2 : maxL (.str a) [.str b] = .str (if ltS a b then b else a) := by
    show (if plt (D.str a) (D.str b) then D.str b else D.str a) = _
    rw [LO.str.plt]; split <;> rfl
  rcases h with rfl | rfl <;> simp [maxD, h1, h2]
/-- pairs of towns as they are handed -/
def Rds (ds : List D) (rs : List Rd) : Prop := All2 (fun (d : D) (r : Rd) => IsSq d [.str r.1, .str r.2]) ds rs
/-- what a land can be made of -/
structure LOk (ts : List Str) (rs : List Rd) : Prop where
  ne : ts ≠ []
  nd : ts.Nodup
  nm : ∀ t ∈ ts, Nm t
  rd : ∀ r ∈ rs, r.1 ∈ ts ∧ r.2 ∈ ts ∧ r.1 ≠ r.2
  lt : ts.length ≤ 1000
  lr : rs.length ≤ 1000
def stT (ts : List Str) : List Str := sortT ltS ts
def stR (rs : List Rd) : List Rd := sortT ltR (rs.map nrm)
theorem plainL_tS (ts : List Str) : DL.plain (.lst (tS ts)) = true := by rw [DL.plain]; exact plainL_map (fun _ => by simp [DL.plain]) ts
theorem plainL_eR (rs : List Rd) : DL.plain (.lst (rs.map eR)) = true := by rw [DL.plain]; exact plainL_map LO.road.pl rs
theorem fzk_tS (ts : List Str) : fzkD (.lst (tS ts)) = true := by
  simp only [fzkD]; exact List.all_eq_true.mpr fun d hd => by obtain ⟨t, _, rfl⟩ := List.mem_map.mp hd; simp [frozen]
theorem m_Land {d e : D} {ts : List Str} {rs : List Rd} {ds : List D} (ok : LOk ts rs) (h : IsSq d (tS ts)) (h2 : IsSq e ds) (hr : Rds ds rs) (k : P (oL (stT ts) (stR rs)) s) : Sure (pr_Land_init [d, e]) s P := by
  have hl : ts.length ≤ sizeLine := by have := ok.lt; unfold sizeLine; omega
  have hlr : rs.length ≤ sizeLine := by have := ok.lr; unfold sizeLine; omega
  unfold pr_Land_init initF
  simp [initE]
  refine m_first_bad_town h ok.ne ok.lt ok.nm ok.nd ?_
  simp
  refine DL.ok (LO.str.sortedQ (by decide) hl h) ?_
  refine ak (fzk_tS _) ?_
  simp [plainL_tS]
  refine m_is_list h2 ?_
  simp [h2.enum]
  refine su_forT (k := 0) (I := fun i ρ => ∃ o p, ρ = [some (oT (stT ts)), some d, some e, none, o, p]) ⟨none, none, rfl⟩ ?_ ?_
  · rintro i x ρ t hx ⟨o, p, rfl⟩
    obtain ⟨y, hy, rfl⟩ := enum_get _ _ _ _ hx
    obtain ⟨r, h3, h4⟩ := All2.get hr hy
    obtain ⟨q1, q2, q3⟩ := ok.rd r (List.mem_of_getElem? h3)
    refine ⟨[some (oT (stT ts)), some d, some e, none, some (.int ((0 + i : Nat) : Int)), some y], by simp, ⟨_, _, rfl⟩, ?_⟩
    simp [oT]
    refine m_is_road (fld_oT (stT ts)) h4 (sortT_mem.mpr q1) (sortT_mem.mpr q2) q3 ?_
    simp
  · rintro ρ ⟨o, p, rfl⟩
    simp [h2.items]
    refine su_lc2 (g := fun r : Rd => eR (nrm r)) hr (fun x r hx hr s => ?_) ?_
    · simp [min2 hx, max2 hx, eP, nrm]
    · have e : rs.map (fun r => eR (nrm r)) = (rs.map nrm).map eR := by rw [List.map_map]; rfl
      have e2 : ds.length = rs.length := All2.length hr
      refine ak (by rw [e2]; exact hlr) ?_
      simp
      rw [e, LO.road.sortedL (by decide) (by rw [List.length_map]; exact hlr)]
      simp [plainL_eR]
      exact k
@[simp] theorem met_towns {ts : List Str} {rs : List Rd} {PU : Unit → Strm → Prop} : @SureK _ (metM 0 (PySem.Str.ofString "towns") (oL ts rs)) s ⟨PU⟩ ↔ PU () s := by unfold oL; simp
@[simp] theorem met_roads {ts : List Str} {rs : List Rd} {PU : Unit → Strm → Prop} : @SureK _ (metM 0 (PySem.Str.ofString "roads") (oL ts rs)) s ⟨PU⟩ ↔ PU () s := by unfold oL; simp
end Lk
end
section
set_option autoImplicit false
namespace Lk
open PySem PySem.Spec L2 DL
variable {s : Strm} {P : D → Strm → Prop} {b : Int}
theorem m_pick {d : D} {xs : List D} (h : Ad b s) (hb : b ≤ LIM) (hd : IsSq d xs) (hx : xs ≠ []) (hl : xs.length < 1000000000) (k : ∀ x ∈ xs, ∀ s', Ad (b + 1) s' → P x s') : Sure (pr_pick [.stm, d]) s P := by
  have hp : 0 < xs.length := List.length_pos_iff.mpr hx
  refine su_fnA (by simp [DL.argsOk, frozen]) ?_
  simp [B_pick, hd.len]
  refine su_draw h hb (by omega) (by omega) fun i s' h0 h1 h' => ?_
  obtain ⟨x, e1, e2⟩ := atI_nat xs i h0 h1
  simp [hd.ix, e1]
  exact k x (List.mem_of_getElem? e2) s' h'
theorem perm_erase {α : Type} : ∀ (xs : List α) (i : Nat) (h : i < xs.length), ([xs[i]] ++ xs.eraseIdx i).Perm xs
  | x :: xs, 0, _ => .refl _
  | x :: xs, i + 1, h => by
    have := perm_erase xs i (by simpa using h)
    rw [List.eraseIdx_cons_succ, List.getElem_cons_succ]
    exact (List.Perm.swap _ _ _).trans (List.Perm.cons x this)
/-- in a drawn order -/
theorem m_mixed {d : D} {xs : List D} (h : Ad b s) (hb : b + xs.length ≤ LIM) (hd : IsSq d xs) (hl : xs.length ≤ 100000) (k : ∀ ys s', ys.Perm xs → Ad (b + xs.length) s' → P (.lst ys) s') : Sure (pr_mixed [.stm, d]) s P := by
  refine su_fnA (by simp [DL.argsOk, frozen]) ?_
  simp [B_mixed, hd.list]
  refine ak (by omega) ?_
  simp
  refine su_for (I := fun i ρ t => ∃ left found o, (left ++ found).Perm xs ∧ found.length = i ∧ Ad (b + i) t ∧ ρ = [some .stm, some d, some (.lst left), some (.lst found), o]) ⟨xs, [], none, by simp, rfl, by simpa using h, rfl⟩ ?_ ?_
  · rintro i e ρ t he ⟨left, found, o, hp, hf, ht, rfl⟩
    have hi : i < xs.length := by
      have := (List.getElem?_eq_some_iff.mp he).1
      simpa using this
    have hlen : left.length + found.length = xs.length := by rw [← hp.length_eq, List.length_append]
    have e1 : e = .int (i : Int) := by
      rw [List.getElem?_map, List.getElem?_range hi] at he
      cases he; rfl
    subst e1
    simp
    refine su_draw ht (by omega) (by omega) (by omega) fun j s' h0 h1 h' => ?_
    have hj : j.toNat < left.length := by omega
    simp
    refine ak ⟨h0, h1, by omega, by omega⟩ ?_
    refine DL.ok (List.getElem?_eq_getElem hj) ?_
    simp
    refine ⟨left.eraseIdx j.toNat, found ++ [left[j.toNat]], ⟨?_, by simp [hf], ?_, rfl, rfl⟩⟩
    · refine List.Perm.trans ?_ hp
      rw [← List.append_assoc]
      refine List.perm_append_comm.trans ?_
      rw [← List.append_assoc]
      refine List.Perm.append_right _ ?_
      exact perm_erase left j.toNat hj
    · rw [show b + ((i : Int) + 1) = b + i + 1 by omega]; exact h'
  · rintro ρ t ⟨left, found, o, hp, hf, ht, rfl⟩
    simp
    have hlen : left.length + found.length = xs.length := by rw [← hp.length_eq, List.length_append]
    have hl0 : left = [] := List.eq_nil_of_length_eq_zero (by simp at hf; omega)
    subst hl0
    exact k found t (by simpa using hp) (by simpa using ht)
theorem perm_map_inv {α β : Type} {f : α → β} : ∀ {ys : List β} {xs : List α}, ys.Perm (xs.map f) → ∃ zs : List α, zs.Perm xs ∧ ys = zs.map f := by
  intro ys xs h
  generalize hz : xs.map f = zs at h
  induction h generalizing xs with
  | nil => exact ⟨[], by cases xs with | nil => exact .refl _ | cons => simp at hz, rfl⟩
  | @cons a l1 l2 p ih =>
    cases xs with
    | nil => simp at hz
    | cons x xs =>
      simp at hz
      obtain ⟨rfl, hz⟩ := hz
      obtain ⟨zs, p1, rfl⟩ := ih hz
      exact ⟨x :: zs, p1.cons x, rfl⟩
  | swap a c l =>
    cases xs with
    | nil => simp at hz
    | cons x xs =>
      cases xs with
      | nil => simp at hz
      | cons y xs =>
        simp at hz
        obtain ⟨rfl, rfl, rfl⟩ := hz
        exact ⟨y :: x :: xs, .swap _ _ _, rfl⟩
  | trans p1 p2 ih1 ih2 =>
    obtain ⟨zs, q1, rfl⟩ := ih2 hz
    obtain ⟨ws, q2, rfl⟩ := ih1 rfl
    exact ⟨ws, q2.trans q1, rfl⟩
theorem m_mixedM {α : Type} {f : α → D} {d : D} {xs : List α} (h : Ad b s) (hb : b + xs.length ≤ LIM) (hd : IsSq d (xs.map f)) (hl : xs.length ≤ 100000) (k : ∀ (ys : List α) s', ys.Perm xs → Ad (b + xs.length) s' → P (.lst (ys.map f)) s') : Sure (pr_mixed [.stm, d]) s P := by
  refine m_mixed h (by simpa using hb) hd (by simpa using hl) fun ys s' p h' => ?_
  obtain ⟨zs, q, rfl⟩ := perm_map_inv p
  exact k zs s' q (by simpa using h')
def atm : D → Bool
  | .non => true
  | .bl _ => true
  | .int _ => true
  | .str _ => true
  | _ => false
mutual
inductive Ls : D → D → Prop
  | ato {d : D} : atm d = true → Ls d d
  | sq {d e : D} {xs ys : List D} : IsSq d xs → IsSq e ys → LsL xs ys → Ls d e
inductive LsL : List D → List D → Prop
  | nil : LsL [] []
  | cons {d e : D} {ds es : List D} : Ls d e → LsL ds es → LsL (d :: ds) (e :: es)
end
mutual
/-- what stands within is of lists, tuples, atoms, to a depth of n -/
def flatN : Nat → D → Bool
  | n + 1, .lst xs => flatL n xs
  | n + 1, .tup xs => flatL n xs
  | 0, .lst _ => false
  | 0, .tup _ => false
  | _, d => atm d
def flatL : Nat → List D → Bool
  | _, [] => true
  | n, d :: ds => flatN n d && flatL n ds
end
theorem LsL.len {xs ys : List D} (h : LsL xs ys) : xs.length = ys.length := by
  induction ys generalizing xs with
  | nil => cases h; rfl
  | cons y ys ih => cases h with | cons _ h => simp [ih h]
theorem Ls.atm_eq {d e : D} (h : Ls d e) (ha : atm d = true) : d = e := by
  cases h with
  | ato _ => rfl
  | sq q _ _ => rcases q with rfl | rfl <;> cases ha
theorem Ls.isq {d e : D} {xs : List D} (h : Ls d e) (q : IsSq d xs) : ∃ ys, IsSq e ys ∧ LsL xs ys := by
  cases h with
  | ato ha => rcases q with rfl | rfl <;> cases ha
  | @sq _ _ zs ys q1 q2 r =>
    have : zs = xs := by rcases q with rfl | rfl <;> rcases q1 with q1 | q1 <;> cases q1 <;> rfl
    exact ⟨ys, q2, this ▸ r⟩
theorem LsL.atoms {α : Type} {f : α → D} (hf : ∀ a, atm (f a) = true) : ∀ {xs : List α} {ys : List D}, LsL (xs.map f) ys → ys = xs.map f
  | [], _, .nil => rfl
  | x :: xs, _, .cons h1 h2 => by rw [List.map_cons, ← h1.atm_eq (hf x), LsL.atoms hf h2]
theorem all2_ls {xs ys : List D} (h : All2 Ls xs ys) : LsL xs ys := by
  induction h with
  | nil => exact .nil
  | cons a _ ih => exact .cons a ih
mutual
/-- all that stands within -/
def szD : D → Nat
  | .lst xs => szDL xs + 1
  | .tup xs => szDL xs + 1
  | _ => 1
def szDL : List D → Nat
  | [] => 0
  | d :: ds => szD d + szDL ds
end
theorem su_lcS {B : D → M (Option D)} {R : D → D → Prop} {PL : List D → Strm → Prop} {w : D → Nat} : ∀ {xs : List D} {b : Int} {s : Strm}, Ad b s → b + ((xs.map w).sum : Nat) ≤ LIM → (∀ a ∈ xs, ∀ b s, Ad b s → b + w a ≤ LIM → Sure (B a) s fun o t => ∃ y, o = some y ∧ R a y ∧ Ad (b + w a) t) →
    (∀ ys t, All2 R xs ys → Ad (b + ((xs.map w).sum : Nat)) t → PL ys t) → Sure (lcD B xs) s PL := by
  intro xs
  induction xs generalizing PL with
  | nil => intro b s h _ _ k; exact Sure.pure (k [] s .nil (h.mono (by simp)))
  | cons x xs ih =>
    intro b s h hl hb k
    rw [List.map_cons, List.sum_cons] at hl k
    unfold lcD
    refine Sure.bind ((hb x List.mem_cons_self b s h (by omega)).mono fun o t ⟨y, e1, r, h1⟩ => ?_)
    subst e1
    refine Sure.bind (ih h1 (by omega) (fun a ha => hb a (List.mem_cons_of_mem _ ha)) fun ys t2 r2 h2 => Sure.pure (k _ _ (.cons r r2) (h2.mono (by omega))))
theorem szDL_sum : ∀ xs : List D, szDL xs = (xs.map szD).sum
  | [] => rfl
  | x :: xs => by rw [szDL, List.map_cons, List.sum_cons, szDL_sum xs]
theorem szD_pos (d : D) : 0 < szD d := by cases d <;> simp [szD]
theorem szDL_len : ∀ xs : List D, xs.length ≤ szDL xs
  | [] => Nat.le_refl _
  | x :: xs => by have := szDL_len xs; have := szD_pos x; rw [szDL, List.length_cons]; omega
theorem szDL_mem : ∀ {xs : List D} {d : D}, d ∈ xs → szD d ≤ szDL xs
  | x :: xs, d, h => by
    rw [szDL]
    rcases List.mem_cons.mp h with rfl | h
    · omega
    · have := szDL_mem h; omega
theorem flatL_mem {n : Nat} : ∀ {xs : List D}, flatL n xs = true → ∀ d ∈ xs, flatN n d = true
  | x :: xs, h, d, hd => by
    rw [flatL, Bool.and_eq_true] at h
    rcases List.mem_cons.mp hd with rfl | hd
    · exact h.1
    · exact flatL_mem h.2 d hd
theorem flatN_sq {n : Nat} {d : D} {xs : List D} (h : flatN n d = true) (q : IsSq d xs) : ∃ m, n = m + 1 ∧ flatL m xs = true := by
  rcases q with rfl | rfl <;> cases n <;> first | (simp [flatN] at h; done) | exact ⟨_, rfl, by simpa [flatN] using h⟩
theorem sq_or_atm {n : Nat} {d : D} (h : flatN n d = true) : (∃ xs, IsSq d xs) ∨ (atm d = true) := by
  cases d with
  | lst xs => exact .inl ⟨xs, .inl rfl⟩
  | tup xs => exact .inl ⟨xs, .inr rfl⟩
  | _ => right; cases n <;> simpa [flatN] using h
theorem sz_sq {d : D} {xs : List D} (q : IsSq d xs) : szD d = szDL xs + 1 := by rcases q with rfl | rfl <;> rfl
theorem loose_atm {rec : List D → M D} {d : D} (ha : atm d = true) (k : P d s) : Sure (fnA [true, false] 4 (B_loose rec) [.stm, d]) s P := by
  refine su_fnA (by simp [DL.argsOk]) ?_
  cases d <;> first | (simp [B_loose]; exact k; done) | cases ha
theorem m_loose : ∀ (n : Nat) {d : D} {b : Int} {s : Strm} {P : D → Strm → Prop}, flatN n d = true → Ad b s → b + szD d ≤ LIM → szD d ≤ 100000 → (∀ e s', Ls d e → Ad (b + szD d) s' → P e s') → Sure (pr_loose (n + 1) [.stm, d]) s P := by
  intro n
  induction n with
  | zero =>
    intro d b s P hf h hl hz k
    rcases sq_or_atm hf with ⟨xs, q⟩ | ha
    · obtain ⟨m, hm, _⟩ := flatN_sq hf q; omega
    exact loose_atm ha (k d s (.ato ha) (h.mono (by omega)))
  | succ n ih =>
    intro d b s P hf h hl hz k
    rcases sq_or_atm hf with ⟨xs, q⟩ | ha
    rotate_left
    · exact loose_atm ha (k d s (.ato ha) (h.mono (by omega)))
    refine su_fnA (by simp [DL.argsOk]) ?_
    obtain ⟨m, hm, hfl⟩ := flatN_sq hf q
    obtain rfl : m = n := by omega
    have hs := sz_sq q
    have hxl := szDL_len xs
    simp [B_loose, q.isi, q.items]
    refine su_lcS (R := Ls) (w := szD) h (by rw [← szDL_sum]; omega) (fun a ha b s h2 hl2 => ?_) fun ys t r h2 => ?_
    · have := szDL_mem ha
      simp
      exact ih (flatL_mem hfl a ha) h2 hl2 (by omega) fun e s' r h3 => ⟨_, rfl, r, h3⟩
    · rw [← szDL_sum] at h2
      refine ak (by simp; omega) ?_
      simp
      refine su_draw h2 (by omega) (by omega) (by omega) fun i s' h0 h1 h' => ?_
      have h3 : Ad (b + szD d) s' := h'.mono (by omega)
      simp
      refine iq (fun _ => ?_) fun _ => ?_
      · simp
        exact k _ _ (.sq q (.inl rfl) (all2_ls r)) h3
      · simp
        exact k _ _ (.sq q (.inr rfl) (all2_ls r)) h3
end Lk
end
section
set_option autoImplicit false
namespace Lk
open PySem PySem.Spec L2 DL
variable {s : Strm} {P : D → Strm → Prop} {b : Int}
theorem zip_self {α : Type} : ∀ xs : List α, xs.zip xs = xs.map fun x => (x, x)
  | [] => rfl
  | x :: xs => by simp [zip_self xs]
theorem same_atm {rec : List D → M D} {d : D} (ha : atm d = true) (k : P (.bl true) s) : Sure (fnA [false, false] 4 (B_same rec) [d, d]) s P := by
  refine su_fnA (by simp [DL.argsOk]) ?_
  cases d <;> first | (simp [B_same]; exact k; done) | cases ha
theorem m_same : ∀ (n : Nat) {d : D} {s : Strm} {P : D → Strm → Prop}, flatN n d = true → szD d ≤ 100000 → P (.bl true) s → Sure (pr_same (n + 1) [d, d]) s P := by
  intro n
  induction n with
  | zero =>
    intro d s P hf hz k
    rcases sq_or_atm hf with ⟨xs, q⟩ | ha
    · obtain ⟨m, hm, _⟩ := flatN_sq hf q; omega
    exact same_atm ha k
  | succ n ih =>
    intro d s P hf hz k
    rcases sq_or_atm hf with ⟨xs, q⟩ | ha
    rotate_left
    · exact same_atm ha k
    refine su_fnA (by simp [DL.argsOk]) ?_
    obtain ⟨m, hm, hfl⟩ := flatN_sq hf q
    obtain rfl : m = n := by omega
    have hs := sz_sq q
    have hxl := szDL_len xs
    have key : Sure (lcD (lcB (gSq 2 (gsCons (gNm 2) (gsCons (gNm 3) gsNil))) qYes (fFn (pr_same (m + 1)) (aCons (fVar 2) (aCons (fVar 3) aNil))) (wipeR [some d, some d, none, none] [2, 3])) ((xs.zip xs).map fun p => .tup [p.1, p.2])) s fun ys s2 => P (.bl true) s2 ∧ allD [D.lst ys] = some (.bl true) := by
      rw [zip_self, List.map_map]
      refine su_lcMap (g := fun _ => .bl true) (fun a ha s => ?_) ?_
      · have := szDL_mem ha
        simp
        exact ih (flatL_mem hfl a ha) (by omega) ⟨rfl, rfl⟩
      · refine ⟨k, (allD_map (fun _ => true) xs).trans ?_⟩
        rw [List.all_eq_true.mpr fun _ _ => rfl]
    rcases q with rfl | rfl
    · simp [B_same, zipD]
      refine key.mono fun ys t ⟨h1, h2⟩ => ?_
      refine ak (by simp; omega) ?_
      simp [h2, h1]
    · simp [B_same, zipD]
      refine key.mono fun ys t ⟨h1, h2⟩ => ?_
      refine ak (by simp; omega) ?_
      simp [h2, h1]
/-- a drawn name: at most five signs -/
structure Nm5 (x : Str) : Prop where
  lo : 0 < x.length
  hi : x.length ≤ 5
  az : ∀ c ∈ x.cps.toList, 97 ≤ c ∧ c ≤ 122
theorem Nm5.nm {x : Str} (h : Nm5 x) : Nm x := ⟨h.lo, by have := h.hi; omega, h.az⟩
/-- the name with a sign behind it, its last five signs -/
def more5 (x : Str) (c : Nat) : Str := cutS (x ++ (⟨#[c]⟩ : Str)) (some (-5)) none
theorem app_cps (x y : Str) : (x ++ y).cps = x.cps ++ y.cps := rfl
theorem app_len (x y : Str) : (x ++ y).length = x.length + y.length := by simp [PySem.Str.length, app_cps]
theorem more5_cps (x : Str) (c : Nat) : (more5 x c).cps.toList = (x.cps.toList ++ [c]).drop (x.length + 1 - 5) := by
  have e : (x ++ (⟨#[c]⟩ : Str)).length = x.length + 1 := by rw [app_len]; rfl
  have e1 : HT.sIx (x.length + 1) 0 (some (-5)) = x.length + 1 - 5 := by
    show (if (-5 : Int) < 0 then (-5 + ((x.length + 1 : Nat) : Int)).toNat else min (-5 : Int).toNat (x.length + 1)) = _
    rw [if_pos (by decide)]; omega
  have e2 : HT.sIx (x.length + 1) (x.length + 1) none = x.length + 1 := rfl
  unfold more5 cutS
  rw [e, e1, e2]
  have e3 : (x ++ (⟨#[c]⟩ : Str)).cps.toList = x.cps.toList ++ [c] := by rw [app_cps]; simp
  rw [e3]
  refine List.take_of_length_le ?_
  rw [List.length_drop, List.length_append]
  show x.cps.toList.length + 1 - _ ≤ _
  have : x.cps.toList.length = x.length := by simp [PySem.Str.length]
  omega
theorem more5_len {x : Str} (c : Nat) : (more5 x c).length = min (x.length + 1) 5 := by
  have h1 : (more5 x c).length = (more5 x c).cps.toList.length := by simp [PySem.Str.length]
  have h2 : x.cps.toList.length = x.length := by simp [PySem.Str.length]
  rw [h1, more5_cps, List.length_drop, List.length_append, h2, List.length_singleton]
  omega
theorem more5_nm {x : Str} {c : Nat} (h : Nm5 x) (hc : 97 ≤ c ∧ c ≤ 122) : Nm5 (more5 x c) := by
  refine ⟨by rw [more5_len]; omega, by rw [more5_len]; omega, fun d hd => ?_⟩
  rw [more5_cps] at hd
  rcases List.mem_append.mp (List.mem_of_mem_drop hd) with q | q
  · exact h.az d q
  · rw [List.mem_singleton.mp q]; exact hc
/-- the last two signs -/
def last2 (x : Str) : Int × Int := (((x.cps.toList.reverse)[1]?.getD 0 : Nat) - 97, ((x.cps.toList.reverse)[0]?.getD 0 : Nat) - 97)
theorem more5_last {x : Str} (h : 0 < x.length) (c d : Nat) : last2 (more5 (more5 x c) d) = ((c : Int) - 97, (d : Int) - 97) := by
  have key : ∀ (x : Str) (c : Nat), ∃ l, (more5 x c).cps.toList = l ++ [c] := fun x c => by
    rw [more5_cps]
    refine ⟨x.cps.toList.drop (x.length + 1 - 5), ?_⟩
    have : x.cps.toList.length = x.length := by simp [PySem.Str.length]
    rw [List.drop_append_of_le_length (by omega)]
  obtain ⟨l, e⟩ := key x c
  have e2 : (more5 (more5 x c) d).cps.toList = (l ++ [c] ++ [d]).drop ((more5 x c).length + 1 - 5) := by rw [more5_cps, e]
  have hl : (more5 x c).length = l.length + 1 := by
    have : (more5 x c).length = (more5 x c).cps.toList.length := by simp [PySem.Str.length]
    rw [this, e]; simp
  have h5 : (more5 x c).length ≤ 5 := by rw [more5_len]; omega
  have e3 : ∃ l2, (more5 (more5 x c) d).cps.toList = l2 ++ [c] ++ [d] := by
    refine ⟨l.drop ((more5 x c).length + 1 - 5), ?_⟩
    rw [e2, List.append_assoc, List.drop_append_of_le_length (by omega), List.append_assoc]
  obtain ⟨l2, e4⟩ := e3
  unfold last2
  rw [e4]
  simp
end Lk
end
section
set_option autoImplicit false
namespace DL
open PySem PySem.Spec L2
theorem su_while {Ft : TF} {F : SF} {ρ : Env} {s : Strm} {P : Out → Strm → Prop} (n : Nat) (h : Sure (whN F Ft n ρ) s P) : Sure (sWhile Ft F ρ) s P := by
  obtain ⟨o, t, e, q⟩ := h
  exact ⟨o, t, sWhile_of e, q⟩
theorem su_drawE {s : Strm} {n : Int} {P : D → Strm → Prop} (h : StrmOk s) (h0 : 0 < n) (h1 : n < 1073741824) (k : P (.int (drawS n s).1) (drawS n s).2) : Sure (drawF [.stm, .int n]) s P := ⟨_, _, drawF_eq h h0 h1, k⟩
end DL
namespace Lk
open PySem PySem.Spec L2 DL
variable {s : Strm} {P : D → Strm → Prop} {b : Int}
abbrev az : Str := PySem.Str.ofString "abcdefghijklmnopqrstuvwxyz"
theorem az_len : az.length = 26 := by decide +kernel
theorem az_at {i : Int} (h0 : 0 ≤ i) (h1 : i < 26) : ixD (.str az) (.int i) = some (sgnD (97 + i.toNat)) := by
  show (if az.length ≤ sizeLine then (atI az.cps.toList i).map sgnD else none) = _
  rw [if_pos (by rw [az_len]; decide), letters]
  unfold atI ixN
  have e : ((List.range 26).map (97 + ·)).length = 26 := rfl
  rw [e, if_pos h0, if_pos (by omega)]
  simp only [Option.bind_some]
  rw [List.getElem?_map, List.getElem?_range (by omega)]
  rfl
/-- a drawn sign -/
theorem m_sign (h : Ad b s) (hb : b ≤ LIM) (k : Ad (b + 1) (nx26 s) → 0 ≤ dg26 s → dg26 s < 26 → P (sgnD (97 + (dg26 s).toNat)) (nx26 s)) : Sure (pr_pick [.stm, .str az]) s P := by
  obtain ⟨h0, h1, h2⟩ := h.draw (n := 26) hb (by decide) (by decide)
  refine su_fnA (by simp [DL.argsOk, frozen]) ?_
  simp [B_pick, az_len]
  refine su_drawE h.ok (by decide) (by decide) ?_
  have e2 := az_at h0 h1
  exact DL.ok e2 (k h2 h0 h1)
def nameAt : Nat → Str → Strm → Str
  | 0, x, _ => x
  | n + 1, x, s => nameAt n (more5 x (97 + (dg26 s).toNat)) (nx26 s)
theorem nameAt_succ : ∀ (n : Nat) (x : Str) (s : Strm), nameAt (n + 1) x s = more5 (nameAt n x s) (97 + (dg26 (nxs n s)).toNat)
  | 0, x, s => rfl
  | n + 1, x, s => by rw [nameAt, nameAt_succ n]; rfl
theorem dg_lt (s : Strm) : 0 ≤ dg26 s ∧ dg26 s < 26 := by
  unfold dg26 drawS
  generalize (if s.cur = 0 then eat s.cells s.seed else (s.cells, s.cur, s.seed)) = e
  dsimp only
  split <;> (dsimp only; omega)
theorem nameAt_nm : ∀ (n : Nat) {x : Str} (s : Strm), Nm5 x → Nm5 (nameAt n x s)
  | 0, _, _, h => h
  | n + 1, x, s, h => nameAt_nm n _ (more5_nm h (by have := dg_lt s; omega))
theorem new_soon {found : List Str} {x : Str} (h : Ad b s) (hf : found.length < 64) (hx : Nm5 x) : ∃ j : Nat, (j : Int) ≤ 10000000000000000000 ∧ nameAt j x s ∉ found := by
  obtain ⟨n, h1, h2⟩ := wished_new LB LB_pos h.ok h.bd (found.map last2) (by simpa using hf)
  have hL : LongN LB ≤ 10000000000000000000 := by decide
  refine ⟨n + 2, by omega, fun hm => h2 ?_⟩
  have e : nameAt (n + 2) x s = more5 (more5 (nameAt n x s) (97 + (dg26 (nxs n s)).toNat)) (97 + (dg26 (nxs (n + 1) s)).toNat) := by
    rw [nameAt_succ, nameAt_succ]
  have q1 := dg_lt (nxs n s)
  have q2 := dg_lt (nxs (n + 1) s)
  refine List.mem_map.mpr ⟨_, hm, ?_⟩
  rw [e, more5_last (nameAt_nm n s hx).lo]
  congr 1 <;> omega
theorem str_sgn (c : Nat) : sgnD c = .str ⟨#[c]⟩ := rfl
noncomputable def Fnm : SF := (sSet 5 (fSl slTD (fOp addD (fVar 5) (fFn pr_pick (aCons (fVar 0) (aCons (fVar 3) aNil)))) (pSome (fUn negD (fC (.int 5)))) pNo))
theorem wh_names {found : List Str} {ρ3 ρ4 ρ6 : Option D} {many : D} : ∀ (j : Nat) {x : Str} {s : Strm} {b : Int}, Ad b s → b + j ≤ LIM → Nm5 x → found.length ≤ 1000 → nameAt j x s ∉ found →
    ∃ n, Sure (whN Fnm (qVal (fOp inD (fVar 5) (fVar 2))) n [some .stm, some many, some (.lst (tS found)), some (.str az), ρ4, some (.str x), ρ6]) s fun o t =>
      ∃ y, Nm5 y ∧ y ∉ found ∧ Ad (b + j) t ∧ o = .nx [some .stm, some many, some (.lst (tS found)), some (.str az), ρ4, some (.str y), ρ6]
  | 0, x, s, b, h, hl, hx, hf, hn => by
    refine ⟨1, ?_⟩
    have hn' : x ∉ found := hn
    unfold whN
    simp [inD, LO.str.inL, hn']
    exact ⟨x, hx, hn', h, rfl⟩
  | j + 1, x, s, b, h, hl, hx, hf, hn => by
    by_cases hm : x ∈ found
    · have hs := dg_lt s
      have hx2 : Nm5 (more5 x (97 + (dg26 s).toNat)) := more5_nm hx (by omega)
      obtain ⟨h0, h1, h2⟩ := h.draw (n := 26) (by omega) (by decide) (by decide)
      obtain ⟨n, hS⟩ := wh_names (ρ3 := ρ3) (ρ4 := ρ4) (ρ6 := ρ6) (many := many) j h2 (by omega) hx2 hf hn
      refine ⟨n + 1, ?_⟩
      unfold whN
      simp [inD, LO.str.inL, hm, Fnm]
      refine m_sign h (by omega) fun h3 _ _ => ?_
      have hxl := hx.hi
      have e : addD (.str x) (sgnD (97 + (dg26 s).toNat)) = some (.str (x ++ (⟨#[97 + (dg26 s).toNat]⟩ : Str))) := by
        rw [str_sgn]
        show (if x.length + (⟨#[97 + (dg26 s).toNat]⟩ : Str).length ≤ sizeLine then _ else none) = _
        rw [if_pos (by show x.length + 1 ≤ sizeLine; unfold sizeLine; omega)]
      have e2 : slTD (.str (x ++ (⟨#[97 + (dg26 s).toNat]⟩ : Str))) (some (-5)) none = some (.str (more5 x (97 + (dg26 s).toNat))) := by
        show (if _ ≤ sizeLine then some (D.str (more5 x _)) else none) = _
        rw [if_pos (by rw [app_len]; show x.length + 1 ≤ sizeLine; unfold sizeLine; omega)]
      simp [e]
      refine DL.ok e2 ?_
      simp
      refine hS.mono fun o t ⟨y, q1, q2, q3, q4⟩ => ⟨y, q1, q2, q3.mono (by omega), q4⟩
    · obtain ⟨n, hS⟩ := wh_names (ρ3 := ρ3) (ρ4 := ρ4) (ρ6 := ρ6) (many := many) 0 h (by omega) hx hf hm
      exact ⟨n, hS.mono fun o t ⟨y, q1, q2, q3, q4⟩ => ⟨y, q1, q2, q3.mono (by omega), q4⟩⟩
def sg (c : Nat) : Str := ⟨#[c]⟩
theorem join_sg : ∀ cs : List Nat, (PySem.Str.join (PySem.Str.ofString "") (cs.map sg)).cps.toList = cs
  | [] => by decide
  | [c] => rfl
  | c :: d :: cs => by
    have := join_sg (d :: cs)
    have e0 : (PySem.Str.ofString "").cps = #[] := by decide +kernel
    show (sg c ++ PySem.Str.ofString "" ++ PySem.Str.join _ ((d :: cs).map sg)).cps.toList = _
    rw [app_cps, app_cps, Array.toList_append, Array.toList_append, this, e0]
    simp [sg]
theorem strsD_sg : ∀ cs : List Nat, strsD (cs.map sgnD) = some (cs.map sg)
  | [] => rfl
  | c :: cs => by
    show (strsD (cs.map sgnD)).map ((⟨#[c]⟩ : Str) :: ·) = _
    rw [strsD_sg cs]; rfl
theorem sum_sg : ∀ cs : List Nat, ((cs.map sg).map fun x : Str => x.length).sum = cs.length
  | [] => rfl
  | c :: cs => by
    have := sum_sg cs
    simp only [List.map_cons, List.sum_cons, List.length_cons, this]
    show 1 + cs.length = _
    omega
theorem joinD_sg (cs : List Nat) (h : cs.length ≤ 1000) : ∃ x : Str, joinD (.str (PySem.Str.ofString "")) [.lst (cs.map sgnD)] = some (.str x) ∧ x.cps.toList = cs := by
  refine ⟨Txt.join (PySem.Str.ofString "") (cs.map sg), ?_, ?_⟩
  · show (match strsD (cs.map sgnD) with | some ys => if (ys.map fun x : Str => x.length).sum + ys.length * (PySem.Str.ofString "").length ≤ 16777216 then some (D.str (Txt.join (PySem.Str.ofString "") ys)) else none | none => none) = _
    rw [strsD_sg]
    dsimp only
    rw [sum_sg, show (PySem.Str.ofString "").length = 0 by decide +kernel, if_pos (by omega)]
  · show (Builtin.Str.glued (PySem.Str.ofString "") (cs.map sg)).cps.toList = cs
    rw [StrLaws.glued_eq_join, join_sg]
theorem cds_of : ∀ {ys : List D}, (∀ y ∈ ys, ∃ c : Nat, y = sgnD c ∧ 97 ≤ c ∧ c ≤ 122) → ∃ cs : List Nat, ys = cs.map sgnD ∧ ∀ c ∈ cs, 97 ≤ c ∧ c ≤ 122
  | [], _ => ⟨[], rfl, fun c h => by cases h⟩
  | y :: ys, h => by
    obtain ⟨c, rfl, h1⟩ := h y List.mem_cons_self
    obtain ⟨cs, rfl, h2⟩ := cds_of fun y hy => h y (List.mem_cons_of_mem _ hy)
    exact ⟨c :: cs, rfl, fun d hd => by exact (List.mem_cons.mp hd).elim (fun e => e ▸ h1) (h2 d)⟩
/-- so many unlike names -/
theorem m_names {many : Int} (h : Ad b s) (hb : b + 1000000000000000000000 ≤ LIM) (h0 : 0 ≤ many) (h1 : many ≤ 60) (k : ∀ (ts : List Str) s', (ts.length : Int) = many → ts.Nodup → (∀ t ∈ ts, Nm5 t) → Ad (b + 1000000000000000000000) s' → P (.lst (tS ts)) s') : Sure (pr_names [.stm, .int many]) s P := by
  refine su_fnA (by simp [DL.argsOk, frozen]) ?_
  simp [B_names]
  refine ak (by omega) ?_
  simp
  refine su_for (I := fun i ρ t => ∃ found o4 o5 o6, found.length = i ∧ found.Nodup ∧ (∀ t ∈ found, Nm5 t) ∧ Ad (b + i * 10000000000000000010) t ∧ ρ = [some .stm, some (.int many), some (.lst (tS found)), some (.str az), o4, o5, o6]) ⟨[], none, none, none, rfl, .nil, (fun t h => by cases h), by simpa using h, rfl⟩ ?_ ?_
  · rintro i e ρ t he ⟨found, o4, o5, o6, hf, hn, hN, ht, rfl⟩
    have hi : i < many.toNat := by have := (List.getElem?_eq_some_iff.mp he).1; simpa using this
    have hm : (i : Int) * 10000000000000000010 ≤ 60 * 10000000000000000010 := by omega
    simp
    refine m_pick ht (by omega) (.inl rfl) (by simp) (by simp) fun x hx s1 h1 => ?_
    have hx' : ∃ m : Int, x = .int m ∧ 0 < m ∧ m ≤ 3 := by
      simp at hx
      rcases hx with rfl | rfl | rfl <;> exact ⟨_, rfl, by decide, by decide⟩
    obtain ⟨m, rfl, hm0, hm3⟩ := hx'
    simp
    refine su_draw h1 (by omega) hm0 (by omega) fun j s2 hj0 hj1 h2 => ?_
    simp
    refine ak (by omega) ?_
    simp
    refine su_lcRange (R := fun y => ∃ c : Nat, y = sgnD c ∧ 97 ≤ c ∧ c ≤ 122) 1 (by decide) h2 (by omega) (fun _ _ b s h hl => ?_) fun ys s3 hys hR h3 => ?_
    · simp
      exact m_sign h (by omega) fun q1 q2 q3 => ⟨_, rfl, ⟨_, rfl, by omega, by omega⟩, q1⟩
    obtain ⟨cs, rfl, hcs⟩ := cds_of hR
    rw [List.length_map] at hys
    obtain ⟨x, e1, e2⟩ := joinD_sg cs (by omega)
    simp
    refine ak (by omega) ?_
    refine DL.ok e1 ?_
    simp
    have hxl : x.length = cs.length := by rw [← e2]; simp [PySem.Str.length]
    have hx5 : Nm5 x := ⟨by omega, by omega, by rw [e2]; exact hcs⟩
    obtain ⟨jj, hjj, hnew⟩ := new_soon h3 (found := found) (by omega) hx5
    obtain ⟨n, hS⟩ := wh_names (ρ3 := none) (ρ4 := some e) (ρ6 := o6) (many := .int many) jj h3 (by omega) hx5 (by omega) hnew
    refine su_while n (hS.mono fun o t2 ⟨y, q1, q2, q3, q4⟩ => ?_)
    subst q4
    simp
    refine ak (by omega) ?_
    simp
    refine ⟨found ++ [y], by simp [hf], ?_, ?_, q3.mono ?_, by simp⟩
    · rw [List.nodup_append]
      exact ⟨hn, by simp, fun a ha c hc => by rw [List.mem_singleton.mp hc]; exact fun z => q2 (z ▸ ha)⟩
    · intro a ha
      rcases List.mem_append.mp ha with ha | ha
      · exact hN a ha
      · rw [List.mem_singleton.mp ha]; exact q1
    · omega
  · rintro ρ t ⟨found, o4, o5, o6, hf, hn, hN, ht, rfl⟩
    simp
    refine k found t ?_ hn hN (ht.mono ?_)
    · simp at hf; omega
    · simp; omega
end Lk
end
section
set_option autoImplicit false
namespace Lk
open PySem PySem.Spec L2 DL
variable {s : Strm} {P : D → Strm → Prop} {b : Int}
theorem at_map {α : Type} (f : α → D) (xs : List α) (i : Int) (h0 : 0 ≤ i) (h1 : i < xs.length) : ∃ x, ixD (.lst (xs.map f)) (.int i) = some (f x) ∧ xs[i.toNat]? = some x := by
  obtain ⟨y, e1, e2⟩ := atI_nat (xs.map f) i h0 (by simpa using h1)
  rw [List.getElem?_map] at e2
  cases q : xs[i.toNat]? with
  | none => rw [q] at e2; cases e2
  | some x => rw [q] at e2; cases e2; exact ⟨x, e1, rfl⟩
theorem ltS_ne {a b : Str} (h : ltS a b = true) : a ≠ b := fun e => by rw [e, LO.str.ir] at h; cases h
theorem nrm_lt {a b : Str} (h : a ≠ b) : ltS (nrm (a, b)).1 (nrm (a, b)).2 = true := by
  unfold nrm
  cases q : ltS a b with
  | true => simp [LO.str.asym q, q]
  | false =>
    cases q2 : ltS b a with
    | true => simp [q, q2]
    | false => exact absurd (LO.str.tri a b q q2) h
theorem nrm_of {r : Rd} (h : ltS r.1 r.2 = true) : nrm r = r := by
  unfold nrm; simp [h, LO.str.asym h]
theorem nrm_swap (a b : Str) : nrm (a, b) = nrm (b, a) := by
  unfold nrm
  cases q : ltS a b with
  | true => simp [LO.str.asym q, q]
  | false =>
    cases q2 : ltS b a with
    | true => simp [q, q2]
    | false => rw [LO.str.tri a b q q2]
theorem nrm_mem {r : Rd} {ts : List Str} (h1 : r.1 ∈ ts) (h2 : r.2 ∈ ts) : (nrm r).1 ∈ ts ∧ (nrm r).2 ∈ ts := by
  unfold nrm; constructor <;> dsimp only <;> split <;> assumption
theorem sort2 {a b : Str} (h : a ≠ b) : sortT ltS [a, b] = [(nrm (a, b)).1, (nrm (a, b)).2] := by
  refine LO.str.unique ((sortT_perm ltS [a, b]).trans ?_) (LO.str.sorted _) ?_
  · unfold nrm
    cases q : ltS a b with
    | true => simp [LO.str.asym q, q]
    | false =>
      cases q2 : ltS b a with
      | true => simp [q, q2]; exact .swap _ _ _
      | false => exact absurd (LO.str.tri a b q q2) h
  · have := LO.str.asym (nrm_lt h)
    simp [this]
theorem minA (a b : Str) : minD [.str a, .str b] = some (.str (nrm (a, b)).1) := by
  show (if atom2 (D.str a) (D.str b) = true then some (if plt (D.str b) (D.str a) then D.str b else D.str a) else none) = _
  rw [if_pos (show atom2 (D.str a) (D.str b) = true from rfl), LO.str.plt]
  unfold nrm; dsimp only; split <;> rfl
theorem maxA (a b : Str) : maxD [.str a, .str b] = some (.str (nrm (a, b)).2) := by
  show (if atom2 (D.str a) (D.str b) = true then some (if plt (D.str a) (D.str b) then D.str b else D.str a) else none) = _
  rw [if_pos (show atom2 (D.str a) (D.str b) = true from rfl), LO.str.plt]
  unfold nrm; dsimp only; split <;> rfl
theorem two_of {α : Type} : ∀ {xs : List α}, 2 ≤ xs.length → ∃ x y r, xs = x :: y :: r
  | x :: y :: r, _ => ⟨x, y, r, rfl⟩
  | [x], h => by simp at h
  | [], h => by simp at h
theorem cut2 {α : Type} (x y : α) (r : List α) : cutG (x :: y :: r) none (some 2) = [x, y] := by
  have e2 : HT.sIx (r.length + 1 + 1) (r.length + 1 + 1) (some 2) = 2 := by
    show (if (2 : Int) < 0 then ((2 : Int) + ((r.length + 1 + 1 : Nat) : Int)).toNat else min (2 : Int).toNat (r.length + 1 + 1)) = 2
    rw [if_neg (by decide)]
    show min 2 _ = 2
    omega
  unfold cutG
  rw [HT.sIx_none]
  simp only [List.length_cons, e2]
  rfl
/-- roads of towns, the lesser town first -/
structure ROk (ts : List Str) (rs : List Rd) : Prop where
  rd : ∀ r ∈ rs, r.1 ∈ ts ∧ r.2 ∈ ts ∧ ltS r.1 r.2 = true
theorem ROk.nil {ts : List Str} : ROk ts [] := ⟨fun r h => by cases h⟩
theorem ROk.app {ts : List Str} {rs : List Rd} {a b : Str} (h : ROk ts rs) (ha : a ∈ ts) (hb : b ∈ ts) (hab : a ≠ b) : ROk ts (rs ++ [nrm (a, b)]) := ⟨fun r hr => by
  rcases List.mem_append.mp hr with hr | hr
  · exact h.rd r hr
  · rw [List.mem_singleton.mp hr]
    have := nrm_mem (r := (a, b)) ha hb
    exact ⟨this.1, this.2, nrm_lt hab⟩⟩
theorem ROk.perm {ts : List Str} {rs rs2 : List Rd} (h : ROk ts rs) (p : rs2.Perm rs) : ROk ts rs2 := ⟨fun r hr => h.rd r (p.mem_iff.mp hr)⟩
/-- a drawn land: at most T towns, R roads -/
structure DLand (T R : Int) (ts : List Str) (rs : List Rd) : Prop where
  t2 : 2 ≤ ts.length
  tT : (ts.length : Int) ≤ T
  nd : ts.Nodup
  st : ts.Pairwise fun a b => ltS b a = false
  nm : ∀ t ∈ ts, Nm5 t
  rd : ROk ts rs
  rR : (rs.length : Int) ≤ R
  sr : rs.Pairwise fun a b => ltR b a = false
theorem m_land {T R : Int} (h : Ad b s) (hb : b + 2000000000000000000000 ≤ LIM) (hT : 2 ≤ T) (hT2 : T ≤ 30) (hR : 0 ≤ R) (hR2 : R ≤ 1000) (k : ∀ ts rs s', DLand T R ts rs → Ad (b + 2000000000000000000000) s' → P (.tup [.lst (tS ts), .lst (rs.map eR)]) s') : Sure (pr_land [.stm, .int T, .int R]) s P := by
  refine su_fnA (by simp [DL.argsOk]) ?_
  simp [B_land]
  refine su_draw h (by omega) (by omega) (by omega) fun i s1 hi0 hi1 h1 => ?_
  simp
  refine m_names h1 (by omega) (by omega) (by omega) fun ts0 s2 hts hnd hnm h2 => ?_
  have hl0 : ts0.length ≤ sizeLine := by simp; omega
  simp [LO.str.sortedL (k := 0) (by decide) hl0]
  have hp := sortT_perm ltS ts0
  have hst := LO.str.sorted ts0
  generalize sortT ltS ts0 = ts at hp hst
  have hnd' : ts.Nodup := hp.nodup_iff.mpr hnd
  have hnm' : ∀ t ∈ ts, Nm5 t := fun t ht => hnm t (hp.mem_iff.mp ht)
  have hlen : (ts.length : Int) = 2 + i := by rw [hp.length_eq, hts]
  refine m_mixedM h2 (by omega) (.inl rfl) (by omega) fun mx s3 hmx h3 => ?_
  simp
  refine su_draw h3 (by omega) (by omega) (by omega) fun j s4 hj0 hj1 h4 => ?_
  simp
  have hmxl : mx.length = ts.length := hmx.length_eq
  have hmnd : mx.Nodup := hmx.nodup_iff.mpr hnd'
  refine ak (by split <;> omega) ?_
  simp
  have hm2 : (1 + if 0 < j then (1 : Int) else 0).toNat ≤ 2 := by split <;> omega
  generalize (1 + if 0 < j then (1 : Int) else 0).toNat = mm at hm2
  refine su_forR (I := fun i ρ t => ∃ mx found o6 o7, mx.Perm ts ∧ ROk ts found ∧ (found.length : Int) ≤ R ∧ Ad (b + 1000000000000000000100 + i * 1000) t ∧ ρ = [some .stm, some (.int T), some (.int R), some (.lst (tS ts)), some (.lst (tS mx)), some (.lst (found.map eR)), o6, o7, none, none, none])
    ⟨mx, [], none, none, hmx, .nil, by simpa using hR, h4.mono (by omega), rfl⟩ ?_ ?_
  · rintro t ρ s5 ht ⟨mx, found, o6, o7, hmx, hro, hfl, h5, rfl⟩
    have hmxl : mx.length = ts.length := hmx.length_eq
    have hmnd : mx.Nodup := hmx.nodup_iff.mpr hnd'
    simp
    refine ak (by omega) ?_
    simp
    refine su_forR (I := fun i ρ u => ∃ found o7, ROk ts found ∧ (found.length : Int) ≤ R ∧ Ad (b + 1000000000000000000100 + t * 1000 + i * 10) u ∧ ρ = [some .stm, some (.int T), some (.int R), some (.lst (tS ts)), some (.lst (tS mx)), some (.lst (found.map eR)), some (.int (t : Int)), o7, none, none, none])
      ⟨found, o7, hro, hfl, by simpa using h5, rfl⟩ ?_ ?_
    · rintro a ρ s6 ha ⟨found, o7, hro, hfl, h6, rfl⟩
      simp
      refine iq (fun hlt => ?_) fun _ => ?_
      · simp
        refine su_draw h6 (by omega) (by omega) (by omega) fun c s7 hc0 hc1 h7 => ?_
        simp
        refine iq (fun _ => ?_) fun _ => ?_
        · simp
          obtain ⟨x, e1, e2⟩ := at_map D.str mx (1 + a) (by omega) (by omega)
          refine DL.ok e1 ?_
          simp
          refine su_draw h7 (by omega) (by omega) (by omega) fun d s8 hd0 hd1 h8 => ?_
          simp
          obtain ⟨y, e3, e4⟩ := at_map D.str mx d (by omega) (by omega)
          refine DL.ok e3 ?_
          have hxy : y ≠ x := fun e => nodup_get hmnd (i := d.toNat) (j := (1 + (a : Int)).toNat) (by omega) (by omega) (by rw [e2, e4, e])
          have hx : x ∈ ts := hmx.mem_iff.mp (List.mem_of_getElem? e2)
          have hy : y ∈ ts := hmx.mem_iff.mp (List.mem_of_getElem? e4)
          have e5 : sortedD [.lst [D.str x, D.str y]] = some (.lst ([(nrm (x, y)).1, (nrm (x, y)).2].map D.str)) := by
            have := LO.str.sortedL (k := 0) (by decide) (xs := [x, y]) (by simp)
            rw [sort2 (Ne.symm hxy)] at this
            exact this
          simp [e5]
          refine ak (by omega) ?_
          simp
          exact ⟨found ++ [nrm (x, y)], hro.app hx hy (Ne.symm hxy), by simp; omega, h8.mono (by omega), by simp [eP]⟩
        · simp
          exact ⟨found, hro, hfl, h7.mono (by omega), rfl⟩
      · simp
        exact ⟨found, hro, hfl, h6.mono (by omega), rfl⟩
    · rintro ρ s6 ⟨found, o7, hro, hfl, h6, rfl⟩
      simp
      refine m_mixedM h6 (by omega) (.inl rfl) (by omega) fun mx s7 hmx h7 => ?_
      simp
      exact ⟨mx, hmx, found, hro, hfl, h7.mono (by omega), rfl, rfl⟩
  · rintro ρ s5 ⟨mx, found, o6, o7, hmx, hro, hfl, h5, rfl⟩
    simp
    refine m_pick h5 (by omega) (.inl rfl) (by simp) (by simp) fun x hx s6 h6 => ?_
    have hx' : ∃ m : Int, x = .int m ∧ 0 < m ∧ m ≤ 6 := by
      simp at hx
      rcases hx with rfl | rfl | rfl <;> exact ⟨_, rfl, by decide, by decide⟩
    obtain ⟨m, rfl, hm0, hm6⟩ := hx'
    simp
    refine su_draw h6 (by omega) hm0 (by omega) fun c s7 hc0 hc1 h7 => ?_
    simp
    refine ak (by omega) ?_
    simp
    refine su_forR (I := fun i ρ u => ∃ found o8 o9 o10, ROk ts found ∧ (found.length : Int) ≤ R ∧ Ad (b + 1000000000000000003000 + i * 100) u ∧ ρ = [some .stm, some (.int T), some (.int R), some (.lst (tS ts)), some (.lst (tS mx)), some (.lst (found.map eR)), o6, o7, o8, o9, o10])
      ⟨found, none, none, none, hro, hfl, h7.mono (by omega), rfl⟩ ?_ ?_
    · rintro a ρ s8 ha ⟨found, o8, o9, o10, hro, hfl, h8, rfl⟩
      simp
      refine m_mixedM h8 (by omega) (.inl rfl) (by omega) fun ms s9 hms h9 => ?_
      obtain ⟨x, y, r, rfl⟩ := two_of (xs := ms) (by rw [hms.length_eq]; omega)
      have hxy : x ≠ y := by
        have := (List.nodup_cons.mp (hms.nodup_iff.mpr hnd')).1
        exact fun e => this (by rw [e]; exact List.mem_cons_self)
      have hx : x ∈ ts := hms.mem_iff.mp List.mem_cons_self
      have hy : y ∈ ts := hms.mem_iff.mp (List.mem_cons_of_mem _ List.mem_cons_self)
      simp [slLD, cut2]
      refine iq (fun hlt => ?_) fun _ => ?_
      · simp [minA, maxA]
        refine ak (by omega) ?_
        simp
        exact ⟨found ++ [nrm (x, y)], hro.app hx hy hxy, by simp; omega, h9.mono (by omega), by simp [eP]⟩
      · simp
        exact ⟨found, hro, hfl, h9.mono (by omega), rfl⟩
    · rintro ρ s8 ⟨found, o8, o9, o10, hro, hfl, h8, rfl⟩
      have hl2 : found.length ≤ sizeLine := by simp; omega
      simp [LO.road.sortedL (k := 1) (by decide) hl2]
      refine k ts (sortT ltR found) s8 ⟨by omega, by omega, hnd', hst, hnm', hro.perm (sortT_perm _ _), by rw [sortT_len]; exact hfl, LO.road.sorted _⟩ (h8.mono (by omega))
end Lk
end
section
set_option autoImplicit false
namespace Lk
open PySem PySem.Spec L2 DL
variable {s : Strm} {P : D → Strm → Prop} {b : Int}
def dL (ts : List Str) (rs : List Rd) : D := .tup [.lst (tS ts), .lst (rs.map eR)]
@[simp] theorem ix_dL0 {ts : List Str} {rs : List Rd} : ixD (dL ts rs) (.int 0) = some (.lst (tS ts)) := by unfold dL; simp
@[simp] theorem ix_dL1 {ts : List Str} {rs : List Rd} : ixD (dL ts rs) (.int 1) = some (.lst (rs.map eR)) := by unfold dL; simp
theorem all2_perm {α β : Type} {R : α → β → Prop} : ∀ {xs xs' : List α}, xs'.Perm xs → ∀ {ys : List β}, All2 R xs ys → ∃ ys' : List β, ys'.Perm ys ∧ All2 R xs' ys' := by
  intro xs xs' p
  induction p with
  | nil => intro ys h; cases h; exact ⟨[], .refl _, .nil⟩
  | cons x _ ih =>
    intro ys h
    cases h with
    | cons r h =>
      obtain ⟨ys', p1, h1⟩ := ih h
      exact ⟨_, p1.cons _, .cons r h1⟩
  | swap x y l =>
    intro ys h
    cases h with
    | cons r h => cases h with | cons r2 h => exact ⟨_, .swap _ _ _, .cons r2 (.cons r h)⟩
  | trans _ _ ih1 ih2 =>
    intro ys h
    obtain ⟨y1, p1, h1⟩ := ih2 h
    obtain ⟨y2, p2, h2⟩ := ih1 h1
    exact ⟨y2, p2.trans p1, h2⟩
/-- a road either way about -/
def Sw (r q : Rd) : Prop := q = r ∨ q = (r.2, r.1)
theorem Sw.nrm {r q : Rd} (h : Sw r q) : nrm q = nrm r := by
  rcases h with rfl | rfl
  · rfl
  · rw [nrm_swap]
theorem sw_stR : ∀ {rs qs : List Rd}, All2 Sw rs qs → qs.map nrm = rs.map nrm
  | _, _, .nil => rfl
  | _, _, .cons h t => by rw [List.map_cons, List.map_cons, h.nrm, sw_stR t]
theorem stR_perm {rs qs : List Rd} (h : rs.Perm qs) : stR rs = stR qs := LO.road.sort_perm (h.map _)
theorem stR_sw {rs qs : List Rd} (h : All2 Sw rs qs) : stR qs = stR rs := by unfold stR; rw [sw_stR h]
theorem stT_perm {ts us : List Str} (h : ts.Perm us) : stT ts = stT us := LO.str.sort_perm h
theorem all2_mem {α β : Type} {R : α → β → Prop} : ∀ {xs : List α} {ys : List β}, All2 R xs ys → ∀ y ∈ ys, ∃ x ∈ xs, R x y
  | _, _, .cons h t, y, hy => by
    rcases List.mem_cons.mp hy with rfl | hy
    · exact ⟨_, List.mem_cons_self, h⟩
    · obtain ⟨x, h1, h2⟩ := all2_mem t y hy
      exact ⟨x, List.mem_cons_of_mem _ h1, h2⟩
theorem LOk.of {ts us : List Str} {rs qs rs' : List Rd} (h : LOk ts rs) (p : us.Perm ts) (w : All2 Sw rs qs) (p2 : rs'.Perm qs) : LOk us rs' where
  ne := fun e => h.ne (by subst e; exact p.symm.eq_nil)
  nd := p.nodup_iff.mpr h.nd
  nm t ht := h.nm t (p.mem_iff.mp ht)
  rd r hr := by
    obtain ⟨x, h1, h2⟩ := all2_mem w r (p2.mem_iff.mp hr)
    obtain ⟨q1, q2, q3⟩ := h.rd x h1
    rcases h2 with rfl | rfl
    · exact ⟨p.mem_iff.mpr q1, p.mem_iff.mpr q2, q3⟩
    · exact ⟨p.mem_iff.mpr q2, p.mem_iff.mpr q1, Ne.symm q3⟩
  lt := by rw [p.length_eq]; exact h.lt
  lr := by rw [p2.length_eq, ← All2.length w]; exact h.lr
theorem tS_atm (t : Str) : atm (D.str t) = true := rfl
theorem szDL_tS (ts : List Str) : szDL (tS ts) = ts.length := by
  induction ts with
  | nil => rfl
  | cons t ts ih => show szD (D.str t) + szDL (tS ts) = _; rw [ih]; simp [szD]; omega
theorem flatL_tS (n : Nat) (ts : List Str) : flatL n (tS ts) = true := by
  induction ts with
  | nil => cases n <;> rfl
  | cons t ts ih => show (flatN n (D.str t) && flatL n (tS ts)) = true; rw [ih]; cases n <;> rfl
theorem Ls.tS {d e : D} {ts : List Str} (h : Ls d e) (q : IsSq d (tS ts)) : IsSq e (tS ts) := by
  obtain ⟨ys, h1, h2⟩ := h.isq q
  rw [h2.atoms tS_atm] at h1
  exact h1
theorem perm_pair {α : Type} {ys : List α} {x y : α} (p : ys.Perm [x, y]) : ys = [x, y] ∨ ys = [y, x] := by
  have hl := p.length_eq
  match ys, hl with
  | [u, v], _ =>
    have hu : u ∈ [x, y] := p.mem_iff.mp List.mem_cons_self
    simp at hu
    rcases hu with rfl | rfl
    · left
      have := (List.perm_cons u).mp p
      simpa using this
    · right
      have := (List.perm_cons u).mp (p.trans (.swap _ _ _))
      simpa using this
theorem m_loose_tS {d : D} {ts : List Str} (q : IsSq d (tS ts)) (h : Ad b s) (hb : b + ts.length + 1 ≤ LIM) (hl : ts.length ≤ 1000) (k : ∀ e s', IsSq e (tS ts) → Ad (b + ts.length + 1) s' → P e s') : Sure (pr_loose 5 [.stm, d]) s P := by
  have hz : szD d = ts.length + 1 := by rw [sz_sq q, szDL_tS]
  refine m_loose 4 ?_ h (by rw [hz]; omega) (by rw [hz]; omega) fun e s' r h' => k e s' (r.tS q) (h'.mono (by rw [hz]; omega))
  rcases q with rfl | rfl <;> exact flatL_tS 3 ts
theorem szDL_rds : ∀ {ds : List D} {rs : List Rd}, Rds ds rs → szDL ds = 3 * rs.length
  | _, _, .nil => rfl
  | _, _, .cons h t => by
    rw [szDL, sz_sq h, szDL_rds t]; simp [szDL, szD]; omega
theorem flatL_rds : ∀ {ds : List D} {rs : List Rd} (n : Nat), Rds ds rs → flatL (n + 1) ds = true
  | _, _, _, .nil => rfl
  | _, _, n, .cons h t => by
    rw [flatL, flatL_rds n t, Bool.and_true]
    rcases h with h | h <;> (rw [h]; exact flatL_tS n [_, _])
theorem lsL_rds : ∀ {ds es : List D} {rs : List Rd}, Rds ds rs → LsL ds es → Rds es rs
  | _, _, _, .nil, .nil => .nil
  | _, _, _, .cons h t, .cons h2 t2 => .cons (Ls.tS (ts := [_, _]) h2 h) (lsL_rds t t2)
theorem m_loose_rds {d : D} {ds : List D} {rs : List Rd} (q : IsSq d ds) (hr : Rds ds rs) (h : Ad b s) (hb : b + 3 * rs.length + 1 ≤ LIM) (hl : rs.length ≤ 1000) (k : ∀ e es s', IsSq e es → Rds es rs → Ad (b + 3 * rs.length + 1) s' → P e s') : Sure (pr_loose 5 [.stm, d]) s P := by
  have hz : szD d = 3 * rs.length + 1 := by rw [sz_sq q, szDL_rds hr]
  refine m_loose 4 ?_ h (by rw [hz]; omega) (by rw [hz]; omega) fun e s' r h' => ?_
  · rcases q with rfl | rfl <;> exact flatL_rds 2 hr
  · obtain ⟨es, h1, h2⟩ := r.isq q
    exact k e es s' h1 (lsL_rds hr h2) (h'.mono (by rw [hz]; omega))
/-- [loose(tuple(mixed(list(road)))) for road in ..], or without loose -/
theorem m_made {ts : List Str} {rs : List Rd} (ok : LOk ts rs) (h : Ad b s) (hb : b + 1000000 ≤ LIM) (k : ∀ s', Ad (b + 1000000) s' → P (oL (stT ts) (stR rs)) s') : Sure (pr_made [.stm, dL ts rs]) s P := by
  have hlt := ok.lt
  have hlr := ok.lr
  refine su_fnA (by simp [DL.argsOk]) ?_
  simp [B_made, dL]
  refine su_lcR (R := fun r d => ∃ q, Sw r q ∧ IsSq d [.str q.1, .str q.2]) 10 (by decide) h (by omega) (fun r hr b s h hl => ?_) fun ds s1 hds h1 => ?_
  · simp [eP]
    refine m_mixedM (f := D.str) (xs := [r.1, r.2]) h (by simp; omega) (.inl rfl) (by simp) fun ys s2 p h2 => ?_
    simp
    refine m_loose_tS (.inr rfl) h2 (by rw [p.length_eq]; simp; omega) (by rw [p.length_eq]; simp) fun e s3 q h3 => ?_
    rcases perm_pair p with rfl | rfl
    · exact ⟨e, rfl, ⟨_, .inl rfl, q⟩, h3.mono (by simp; omega)⟩
    · exact ⟨e, rfl, ⟨_, .inr rfl, q⟩, h3.mono (by simp; omega)⟩
  · obtain ⟨qs, hw, hq⟩ : ∃ qs, All2 Sw rs qs ∧ Rds ds qs := by
      clear k h1 hlt hlr ok
      induction hds with
      | nil => exact ⟨[], .nil, .nil⟩
      | cons a _ ih =>
        obtain ⟨q, h1, h2⟩ := a
        obtain ⟨qs, h3, h4⟩ := ih
        exact ⟨q :: qs, .cons h1 h3, .cons h2 h4⟩
    have hql : qs.length = rs.length := (All2.length hw).symm
    have hdl : ds.length = rs.length := by rw [All2.length hq, hql]
    simp
    refine ak (by omega) ?_
    simp
    refine m_mixedM h1 (by omega) (.inl rfl) (by omega) fun us s2 hus h2 => ?_
    have hul : us.length = ts.length := hus.length_eq
    simp
    refine m_loose_tS (.inl rfl) h2 (by omega) (by omega) fun e s3 he h3 => ?_
    simp
    refine m_mixed h3 (by omega) (.inl rfl) (by omega) fun es s4 hes h4 => ?_
    obtain ⟨qs', hp, hq'⟩ := all2_perm hes hq
    have hql' : qs'.length = rs.length := by rw [hp.length_eq, hql]
    simp
    refine m_loose_rds (.inl rfl) hq' h4 (by omega) (by omega) fun e2 es2 s5 he2 hr2 h5 => ?_
    simp
    refine m_Land (ok.of hus hw hp) he he2 hr2 ?_
    simp
    rw [stT_perm hus, stR_perm hp, stR_sw hw]
    exact k s5 (h5.mono (by omega))
end Lk
end
section
set_option autoImplicit false
namespace Lk
open PySem PySem.Spec L2 DL
variable {s : Strm} {P : D → Strm → Prop} {b : Int}
theorem mergeP_sk : ∀ (kvs acc : List (Str × D)), mergeP (sk acc) (kvs.map fun p => .tup [.str p.1, p.2]) = some (sk (kvs.foldl (fun a p => putS a p.1 p.2) acc))
  | [], acc => rfl
  | (x, v) :: kvs, acc => by
    have e : putL (sk acc) (fun d => decide (kOf d = some (Sum.inr x : Key))) (.str x) v = sk (putS acc x v) := by
      unfold putL putS sk
      rw [List.any_map]
      have : ((fun p : D × D => (fun d => decide (kOf d = some (Sum.inr x : Key))) p.1) ∘ fun p : Str × D => (D.str p.1, p.2)) = fun p => decide (p.1 = x) := by
        funext p
        exact decide_eq_decide.mpr kOf_iff
      rw [this]
      by_cases q : x ∈ acc.map (·.1)
      · rw [if_pos q, if_pos (by simpa using q), List.map_map, List.map_map]
        refine List.map_congr_left fun p _ => ?_
        simp only [Function.comp_apply]
        by_cases z : p.1 = x
        · rw [if_pos z, if_pos (by simpa [kOf] using z)]
        · rw [if_neg z, if_neg (by simpa [kOf] using z)]
      · rw [if_neg q, if_neg (by simpa using q)]
        simp
    rw [List.map_cons, List.foldl_cons, ← mergeP_sk kvs (putS acc x v)]
    show (some (Sum.inr x : Key)).bind (fun key => mergeP (putL (sk acc) (fun d => decide (kOf d = some key)) (.str x) v) _) = _
    rw [Option.bind_some, e]
end Lk
end
section
set_option autoImplicit false
namespace Lk
open PySem PySem.Spec L2 DL
variable {s : Strm} {P : D → Strm → Prop} {b : Int}
theorem sIx_pos (n d : Nat) {v : Int} (h : 0 ≤ v) : HT.sIx n d (some v) = min v.toNat n := by
  show (if v < 0 then _ else min v.toNat n) = _
  rw [if_neg (by omega)]
theorem cut_to {α : Type} (xs : List α) {i : Int} (h0 : 0 ≤ i) (h1 : i ≤ xs.length) : cutG xs none (some i) = xs.take i.toNat := by
  unfold cutG
  rw [HT.sIx_none, sIx_pos _ _ h0, Nat.min_eq_left (by omega)]
  simp
theorem cut_from {α : Type} (xs : List α) {i : Int} (h0 : 0 ≤ i) (h1 : i ≤ xs.length) : cutG xs (some i) none = xs.drop i.toNat := by
  unfold cutG
  rw [HT.sIx_none, sIx_pos _ _ h0, Nat.min_eq_left (by omega)]
  exact List.take_of_length_le (by simp)
abbrev aaa : Str := PySem.Str.ofString "aaaaaaaa"
abbrev zzz : Str := PySem.Str.ofString "zzzzzzzz"
theorem Nm5.ne8 {x y : Str} (h : Nm5 x) (hy : y.length = 8) : x ≠ y := fun e => by have := h.hi; rw [e] at this; omega
/-- lands that k01 changes -/
structure LW (ts : List Str) (rs : List Rd) : Prop where
  ok : LOk ts rs
  lt : ts.length ≤ 900
  lr : rs.length ≤ 900
  na : aaa ∉ ts
  nz : zzz ∉ ts
/-- lands all of them -/
def OsOk (os : List (List Str × List Rd)) : Prop := ∀ o ∈ os, LOk o.1 o.2
theorem OsOk.app {os : List (List Str × List Rd)} {ts : List Str} {rs : List Rd} (h : OsOk os) (k : LOk ts rs) : OsOk (os ++ [(ts, rs)]) := fun o ho => by
  rcases List.mem_append.mp ho with q | q
  · exact h _ q
  · rw [List.mem_singleton.mp q]; exact k
end Lk
end
section
set_option autoImplicit false
namespace Lk
open PySem PySem.Spec L2 DL
end Lk
end
section
set_option autoImplicit false
namespace Lk
open PySem PySem.Spec L2 DL
variable {s : Strm} {P : D → Strm → Prop} {b : Int}
mutual
theorem flatN_sp : ∀ (n : Nat) (d : D), flatN n d = true → spO d = true ∧ dpt d ≤ n ∧ mxl d ≤ szD d ∧ cnt d ≤ szD d
  | 0, .lst _, h => by simp [flatN] at h
  | 0, .tup _, h => by simp [flatN] at h
  | n + 1, .lst xs, h => by
    rw [flatN] at h
    have := flatL_sp n xs h
    have h2 := szDL_len xs
    simp only [spO, dpt, mxl, cnt, szD]
    exact ⟨this.1, by omega, by omega, by omega⟩
  | n + 1, .tup xs, h => by
    rw [flatN] at h
    have := flatL_sp n xs h
    simp only [spO, dpt, mxl, cnt, szD]
    exact ⟨this.1, by omega, by omega, by omega⟩
  | n, .non, _ => by simp [spO, dpt, mxl, cnt]
  | n, .bl _, _ => by simp [spO, dpt, mxl, cnt]
  | n, .int _, _ => by simp [spO, dpt, mxl, cnt]
  | n, .str _, _ => by simp [spO, dpt, mxl, cnt]
  | n, .dic _ _, h => by cases n <;> simp [flatN, atm] at h
  | n, .obj _ _, h => by cases n <;> simp [flatN, atm] at h
  | n, .stm, h => by cases n <;> simp [flatN, atm] at h
  | n, .opq _, h => by cases n <;> simp [flatN, atm] at h
  | n, .wl, h => by cases n <;> simp [flatN, atm] at h
theorem flatL_sp : ∀ (n : Nat) (ds : List D), flatL n ds = true → spOL ds = true ∧ dptL ds ≤ n ∧ mxlL ds ≤ szDL ds ∧ cntL ds ≤ szDL ds
  | _, [], _ => by simp [spOL, dptL, mxlL, cntL]
  | n, d :: ds, h => by
    rw [flatL, Bool.and_eq_true] at h
    have h1 := flatN_sp n d h.1
    have h2 := flatL_sp n ds h.2
    simp only [spOL, dptL, mxlL, cntL, szDL, h1.1, h2.1]
    exact ⟨rfl, by omega, by omega, by omega⟩
end
mutual
theorem flatN_up : ∀ (n : Nat) (d : D), flatN n d = true → flatN (n + 1) d = true
  | 0, .lst _, h => by simp [flatN] at h
  | 0, .tup _, h => by simp [flatN] at h
  | n + 1, .lst xs, h => by rw [flatN] at h ⊢; exact flatL_up n xs h
  | n + 1, .tup xs, h => by rw [flatN] at h ⊢; exact flatL_up n xs h
  | n, .non, _ => by simp [flatN, atm]
  | n, .bl _, _ => by simp [flatN, atm]
  | n, .int _, _ => by simp [flatN, atm]
  | n, .str _, _ => by simp [flatN, atm]
  | n, .dic _ _, h => by cases n <;> simp [flatN, atm] at h
  | n, .obj _ _, h => by cases n <;> simp [flatN, atm] at h
  | n, .stm, h => by cases n <;> simp [flatN, atm] at h
  | n, .opq _, h => by cases n <;> simp [flatN, atm] at h
  | n, .wl, h => by cases n <;> simp [flatN, atm] at h
theorem flatL_up : ∀ (n : Nat) (ds : List D), flatL n ds = true → flatL (n + 1) ds = true
  | _, [], _ => rfl
  | n, d :: ds, h => by
    rw [flatL, Bool.and_eq_true] at h
    rw [flatL, flatN_up n d h.1, flatL_up n ds h.2]; rfl
end
theorem flatN_le {n m : Nat} (h : n ≤ m) {d : D} (k : flatN n d = true) : flatN m d = true := by
  induction h with
  | refl => exact k
  | step _ ih => exact flatN_up _ _ ih
theorem same_of {n : Nat} {d : D} (hf : flatN n d = true) (hn : n ≤ 6) (hz : szD d ≤ 100000) (k : P (.bl true) s) : Sure (pr_same 7 [d, d]) s P := m_same 6 (flatN_le hn hf) hz k
end Lk
end
section
set_option autoImplicit false
namespace Lk
open PySem PySem.Spec L2 DL
variable {s : Strm} {P : D → Strm → Prop} {b : Int}
theorem ad_start {ns : List Int} (h : ns.length ≤ 63) (hb : ∀ z ∈ ns, Builtin.Int.intBits z ≤ 1048576) : Ad 0 ⟨ns, 0, 0, 19⟩ := by
  refine ⟨⟨Int.le_refl 0, (by decide : (0 : Int) ≤ 19), (by decide : (19 : Int) < 2147483629), Int.le_refl 0, (by decide : (0 : Int) < 2 ^ 200), h⟩, ⟨?_, fun c hc => ?_⟩, Int.le_refl 0⟩
  · show (0 : Int) < 2 ^ LB
    exact Int.pow_pos (by decide)
  · have h1 := (intBits_le_iff (x := c)).mp (Nat.le_trans (hb c hc) (show 1048576 ≤ LB by decide))
    have h2 : (c.natAbs : Int) < ((2 ^ LB : Nat) : Int) := Int.ofNat_lt.mpr h1
    rw [Int.natCast_pow] at h2
    have h3 : ((2 : Nat) : Int) ^ LB = (2 : Int) ^ LB := rfl
    rw [h3] at h2
    show -(2 ^ LB) < c ∧ c < 2 ^ LB
    omega
theorem DLand.lw {T R : Int} {ts : List Str} {rs : List Rd} (h : DLand T R ts rs) (hT : T ≤ 900) (hR : R ≤ 900) : LW ts rs where
  ok := {
    ne := fun e => by have := h.t2; rw [e] at this; simp at this
    nd := h.nd
    nm := fun t ht => (h.nm t ht).nm
    rd := fun r hr => by obtain ⟨a, b, c⟩ := h.rd.rd r hr; exact ⟨a, b, ltS_ne c⟩
    lt := by have := h.tT; omega
    lr := by have := h.rR; omega }
  lt := by have := h.tT; omega
  lr := by have := h.rR; omega
  na := fun q => (h.nm _ q).ne8 (by decide +kernel : aaa.length = 8) rfl
  nz := fun q => (h.nm _ q).ne8 (by decide +kernel : zzz.length = 8) rfl
end Lk
end
section
set_option autoImplicit false
namespace Lk
open PySem PySem.Spec L2 DL
variable {s : Strm} {P : D → Strm → Prop} {b : Int}
theorem m_check_land {ts : List Str} {rs : List Rd} (k : P .non s) : Sure (pr_check_land [oL ts rs]) s P := by
  refine su_fnA (by simp [DL.argsOk]) ?_
  simp [B_check_land, oL, k]
@[simp] theorem met_is_road {ts : List Str} {rs : List Rd} {PU : Unit → Strm → Prop} : @SureK _ (metM 0 (PySem.Str.ofString "is_road") (oL ts rs)) s ⟨PU⟩ ↔ PU () s := by unfold oL; simp
end Lk
end
section
set_option autoImplicit false
namespace Lk
open PySem PySem.Spec L2 DL
variable {s : Strm} {P : D → Strm → Prop} {b : Int}
theorem kOf_str (x : Str) : kOf (.str x) = some (Sum.inr x : Key) := rfl
/-- a list of towns, a numbered one -/
abbrev eS (xs : List Str) : D := .lst (tS xs)
def eN (q : List Str × Nat) : D := .tup [.int (q.2 : Nat), eS q.1]
theorem enumL_map : ∀ (p : List (List Str)) (k : Nat), enumL (p.map eS) k = (p.zipIdx k).map eN
  | [], _ => rfl
  | x :: p, k => by
    rw [List.zipIdx_cons, List.map_cons, List.map_cons, ← enumL_map p (k + 1)]
    rfl
/-- each town with its list's number, one behind another; as a dict -/
def flP (p : List (List Str)) : List (Str × D) := p.zipIdx.flatMap fun q => q.1.map fun t => (t, .int (q.2 : Nat))
def plc (p : List (List Str)) : List (Str × D) := (flP p).foldl (fun a q => putS a q.1 q.2) []
def posP (p : List (List Str)) (t : Str) : Int := match lookS (plc p) t with
  | some (.int z) => z
  | _ => -1
def crsP (p : List (List Str)) (rs : List Rd) : List Nat := (rs.zipIdx.filter fun q => decide (posP p q.1.1 ≠ posP p q.1.2)).map (·.2)
def eRN (q : Rd × Nat) : D := .tup [.int (q.2 : Nat), eR q.1]
theorem enumL_rds : ∀ (rs : List Rd) (k : Nat), enumL (rs.map eR) k = (rs.zipIdx k).map eRN
  | [], _ => rfl
  | x :: p, k => by
    rw [List.zipIdx_cons, List.map_cons, List.map_cons, ← enumL_rds p (k + 1)]
    rfl
theorem m_crossing_of {ts : List Str} {rs : List Rd} {p : List (List Str)} {d : D} (h : IsSq d (p.map eS)) (hl : rs.length ≤ 1000) (hf : (flP p).length ≤ 1000) (hm : p.all (fun xs => decide (xs.length ≤ 1000)) = true) (hk : ∀ r ∈ rs, lookS (plc p) r.1 = some (.int (posP p r.1)) ∧ lookS (plc p) r.2 = some (.int (posP p r.2)))
    (k : P (.lst ((crsP p rs).map fun i : Nat => .int i)) s) : Sure (pr_crossing_of [oL ts rs, d]) s P := by
  refine su_fnA (by simp [DL.argsOk]) ?_
  simp [B_crossing_of, h.enum, enumL_map]
  refine su_lcJ (h := fun q => q.1.map fun t => .tup [.str t, .int (q.2 : Nat)]) (fun q hq s => ?_) ?_
  · simp [eN]
    refine su_lcMap (g := fun t => .tup [.str t, .int (q.2 : Nat)]) (fun t ht s => ?_) ?_
    · simp [kOf_str]
    · simp
  · have e1 : (p.zipIdx.flatMap fun q => q.1.map fun t => (.tup [.str t, .int (q.2 : Nat)] : D)) = (flP p).map fun q => .tup [.str q.1, q.2] := by
      unfold flP
      rw [List.map_flatMap]
      congr 1
      funext q
      rw [List.map_map]; rfl
    rw [e1]
    refine ak (by rw [List.length_map]; show _ < 16777216; omega) ?_
    refine DL.ok (mergeP_sk (flP p) []) ?_
    have e3 : enumD (.lst (rs.map eR)) = some ((rs.zipIdx).map eRN) := by rw [← enumL_rds]; rfl
    simp [fld_oL2, e3]
    refine su_lcFil (p := fun q : Rd × Nat => decide (posP p q.1.1 ≠ posP p q.1.2)) (g := fun q : Rd × Nat => .int (q.2 : Nat)) (fun q hq s => ?_) ?_
    · have hr : q.1 ∈ rs := by
        have := List.mem_zipIdx hq
        obtain ⟨_, _, e⟩ := this
        rw [e]; exact List.getElem_mem _
      obtain ⟨k1, k2⟩ := hk q.1 hr
      have k1 : lookS ((flP p).foldl (fun a q => putS a q.1 q.2) []) q.1.1 = _ := k1
      have k2 : lookS ((flP p).foldl (fun a q => putS a q.1 q.2) []) q.1.2 = _ := k2
      simp [eRN, eP, ixD_sk, k1, k2]
      by_cases z : posP p q.1.1 = posP p q.1.2
      · simp [z]
      · simp [z]
    · refine ak (by rw [List.length_map, List.length_zipIdx]; show _ ≤ 16777216; omega) (ak ?_ ?_)
      · simp only [fzkD]
        exact List.all_eq_true.mpr fun d hd => by obtain ⟨q, _, rfl⟩ := List.mem_map.mp hd; simp [frozen]
      · show P _ s
        have e4 : (crsP p rs).map (fun i : Nat => D.int i) = (rs.zipIdx.filter fun q : Rd × Nat => decide (posP p q.1.1 ≠ posP p q.1.2)).map fun q => D.int (q.2 : Nat) := by
          unfold crsP; rw [List.map_map]; rfl
        rw [← e4]
        exact k
end Lk
end
section
set_option autoImplicit false
namespace Lk
open PySem PySem.Spec L2 DL
variable {s : Strm} {P : D → Strm → Prop} {b : Int}
def flI (qs : List (List Str × Nat)) : List (Str × D) := qs.flatMap fun q => q.1.map fun t => (t, .int (q.2 : Nat))
def foldS (acc kvs : List (Str × D)) : List (Str × D) := kvs.foldl (fun a q => putS a q.1 q.2) acc
theorem foldS_new : ∀ (kvs acc : List (Str × D)), (kvs.map (·.1)).Nodup → (∀ x ∈ kvs, x.1 ∉ acc.map (·.1)) → foldS acc kvs = acc ++ kvs
  | [], acc, _, _ => by simp [foldS]
  | x :: kvs, acc, hd, hn => by
    have hx := hn x List.mem_cons_self
    have e : putS acc x.1 x.2 = acc ++ [x] := by unfold putS; rw [if_neg hx]
    have h2 := List.nodup_cons.mp (show (x.1 :: kvs.map (·.1)).Nodup from hd)
    show foldS (putS acc x.1 x.2) kvs = _
    rw [e, foldS_new kvs (acc ++ [x]) h2.2 fun y hy => ?_]
    · simp
    · rw [List.map_append, List.mem_append]
      rintro (z | z)
      · exact hn y (List.mem_cons_of_mem _ hy) z
      · simp at z
        exact h2.1 (by rw [← z]; exact List.mem_map_of_mem hy)
theorem foldS_app (acc xs ys : List (Str × D)) : foldS acc (xs ++ ys) = foldS (foldS acc xs) ys := List.foldl_append
theorem upd_sk (acc more : List (Str × D)) (hl : acc.length + more.length ≤ sizeLine) : updD (.dic false (sk acc)) (.dic false (sk more)) = some (.dic false (sk (foldS acc more))) := by
  have e : (sk more).map (fun p => (.tup [p.1, p.2] : D)) = more.map fun p => .tup [.str p.1, p.2] := by unfold sk; rw [List.map_map]; rfl
  show (if (sk acc).length + (sk more).length ≤ sizeLine then _ else none) = _
  rw [if_pos (by simpa [sk] using hl), e, mergeP_sk]
  rfl
theorem foldS_len : ∀ (kvs acc : List (Str × D)), (foldS acc kvs).length ≤ acc.length + kvs.length
  | [], acc => by simp [foldS]
  | x :: kvs, acc => by
    have h1 := foldS_len kvs (putS acc x.1 x.2)
    have h2 : (putS acc x.1 x.2).length ≤ acc.length + 1 := by unfold putS; split <;> simp
    show (foldS (putS acc x.1 x.2) kvs).length ≤ _
    simp only [List.length_cons]; omega
theorem flP_eq (p : List (List Str)) : flP p = flI p.zipIdx := rfl
theorem flI_take_len (qs : List (List Str × Nat)) (i : Nat) : (flI (qs.take i)).length ≤ (flI qs).length := by
  have : flI qs = flI (qs.take i) ++ flI (qs.drop i) := by unfold flI; rw [← List.flatMap_append, List.take_append_drop]
  rw [this, List.length_append]; omega
theorem m_crossing {ts : List Str} {rs : List Rd} {p : List (List Str)} {d : D} (h : IsSq d (p.map eS)) (hl : rs.length ≤ 1000) (hf : (flP p).length ≤ 1000) (hnd : ∀ xs ∈ p, xs.Nodup) (hk : ∀ r ∈ rs, lookS (plc p) r.1 = some (.int (posP p r.1)) ∧ lookS (plc p) r.2 = some (.int (posP p r.2)))
    (k : P (.lst ((crsP p rs).map fun i : Nat => .int i)) s) : Sure (pr_crossing [dL ts rs, d]) s P := by
  refine su_fnA (by simp [DL.argsOk]) ?_
  simp [B_crossing, h.enum, enumL_map]
  refine su_forM (I := fun i ρ t => t = s ∧ ∃ o3 o4 o5, ρ = [some (dL ts rs), some d, some (.dic false (sk (foldS [] (flI (p.zipIdx.take i))))), o3, o4, o5, none, none]) ⟨rfl, none, none, none, by simp [flI, foldS, sk]⟩ ?_ ?_
  · rintro i q ρ t hq ⟨rfl, o3, o4, o5, rfl⟩
    have hm := List.mem_of_getElem? hq
    have hxs : q.1 ∈ p := by
      obtain ⟨_, _, e⟩ := List.mem_zipIdx hm
      rw [e]; exact List.getElem_mem _
    have hlen : q.1.length + (flI (p.zipIdx.take i)).length ≤ 1000 := by
      have h1 : (flI (p.zipIdx.take (i + 1))).length ≤ (flI p.zipIdx).length := flI_take_len _ _
      have h2 : flI (p.zipIdx.take (i + 1)) = flI (p.zipIdx.take i) ++ q.1.map fun t => (t, (.int (q.2 : Nat) : D)) := by
        rw [List.take_succ, hq]; unfold flI; rw [List.flatMap_append]; simp
      rw [h2, List.length_append, List.length_map] at h1
      rw [← flP_eq] at h1
      omega
    simp [eN]
    refine su_lcMap (g := fun t => .tup [.str t, .int (q.2 : Nat)]) (fun t ht s => ?_) ?_
    · simp
    · refine ak (by rw [List.length_map]; show _ ≤ 16777216; omega) ?_
      simp
      have e1 : (q.1.map fun t => (.tup [.str t, .int (q.2 : Nat)] : D)) = (q.1.map fun t => (t, (.int (q.2 : Nat) : D))).map fun x => .tup [.str x.1, x.2] := by rw [List.map_map]; rfl
      have e2 : dictD [.lst (q.1.map fun t => .tup [.str t, .int (q.2 : Nat)])] = some (.dic false (sk (q.1.map fun t => (t, .int (q.2 : Nat))))) := by
        show (mergeP [] _).map _ = _
        rw [e1]
        have := mergeP_sk (q.1.map fun t => (t, (.int (q.2 : Nat) : D))) []
        rw [show sk [] = ([] : List (D × D)) from rfl] at this
        rw [this]
        have e3 := foldS_new (q.1.map fun t => (t, (.int (q.2 : Nat) : D))) [] (by rw [List.map_map]; simpa [Function.comp_def] using hnd q.1 hxs) (fun _ _ => by simp)
        unfold foldS at e3
        rw [e3]; rfl
      refine DL.ok e2 ?_
      simp
      refine DL.ok (upd_sk _ _ (by have := foldS_len (flI (p.zipIdx.take i)) []; rw [List.length_map]; show _ ≤ 16777216; simp at this; omega)) ?_
      simp
      rw [← foldS_app]
      have h2 : flI (p.zipIdx.take (i + 1)) = flI (p.zipIdx.take i) ++ q.1.map fun t => (t, (.int (q.2 : Nat) : D)) := by
        rw [List.take_succ, hq]; unfold flI; rw [List.flatMap_append]; simp
      rw [h2]
  · rintro ρ t ⟨rfl, o3, o4, o5, rfl⟩
    rw [List.take_of_length_le (by simp)]
    simp [dL]
    have e3 : enumD (.lst (rs.map eR)) = some ((rs.zipIdx).map eRN) := by rw [← enumL_rds]; rfl
    simp [e3]
    refine su_lcFil (p := fun q : Rd × Nat => decide (posP p q.1.1 ≠ posP p q.1.2)) (g := fun q : Rd × Nat => .int (q.2 : Nat)) (fun q hq s => ?_) ?_
    · have hr : q.1 ∈ rs := by
        obtain ⟨_, _, e⟩ := List.mem_zipIdx hq
        rw [e]; exact List.getElem_mem _
      obtain ⟨k1, k2⟩ := hk q.1 hr
      have k1 : lookS (foldS [] (flI p.zipIdx)) q.1.1 = _ := k1
      have k2 : lookS (foldS [] (flI p.zipIdx)) q.1.2 = _ := k2
      simp [eRN, eP, ixD_sk, k1, k2]
      by_cases z : posP p q.1.1 = posP p q.1.2
      · simp [z]
      · simp [z]
    · refine ak (by rw [List.length_map, List.length_zipIdx]; show _ ≤ 16777216; omega) (ak ?_ ?_)
      · simp only [fzkD]
        exact List.all_eq_true.mpr fun d hd => by obtain ⟨q, _, rfl⟩ := List.mem_map.mp hd; simp [frozen]
      · show P _ _
        have e4 : (crsP p rs).map (fun i : Nat => D.int i) = (rs.zipIdx.filter fun q : Rd × Nat => decide (posP p q.1.1 ≠ posP p q.1.2)).map fun q => D.int (q.2 : Nat) := by
          unfold crsP; rw [List.map_map]; rfl
        rw [← e4]
        exact k
end Lk
end
section
set_option autoImplicit false
namespace Lk
open PySem PySem.Spec L2 DL
variable {s : Strm} {P : D → Strm → Prop} {b : Int}
abbrev eSS (p : List (List Str)) : D := .lst (p.map eS)
/-- one town more: within each list, alone -/
def grownAt (p : List (List Str)) (t : Str) (i : Nat) : List (List Str) := p.take i ++ [p.getD i [] ++ [t]] ++ p.drop (i + 1)
def grown (p : List (List Str)) (t : Str) : List (List (List Str)) := (List.range p.length).map (grownAt p t) ++ [p ++ [[t]]]
def partsG (ts : List Str) (f : List (List (List Str))) : List (List (List Str)) := ts.foldl (fun f t => f.flatMap fun p => grown p t) f
theorem m_grown_by {p : List (List Str)} {t : Str} (hl : p.length ≤ 1000) (hm : ∀ xs ∈ p, xs.length ≤ 1000) (k : P (.lst ((grown p t).map eSS)) s) : Sure (pr_grown_by [eSS p, .str t]) s P := by
  refine su_fnA (by simp [DL.argsOk]) ?_
  simp [B_grown_by]
  refine ak (by omega) ?_
  simp
  refine su_lcMap (f := fun i : Nat => .int (i : Int)) (g := fun i => eSS (grownAt p t i)) (fun i hi s => ?_) ?_
  · have hi' : i < p.length := List.mem_range.mp hi
    have e0 : (p.map eS)[i]? = some (eS p[i]) := by rw [List.getElem?_map, List.getElem?_eq_getElem hi']; rfl
    have e1 : ixD (.lst (p.map eS)) (.int (i : Int)) = some (eS p[i]) := by
      obtain ⟨x, h1, h2⟩ := at_map eS p (i : Int) (by omega) (by omega)
      rw [h1]
      congr 1
      have : x = p[i] := by
        have h3 : p[i]? = some x := by simpa using h2
        rw [List.getElem?_eq_getElem hi'] at h3
        exact (Option.some.inj h3).symm
      rw [this]
    have e2 : cutG (p.map eS) none (some (i : Int)) = (p.take i).map eS := by rw [cut_to _ (by omega) (by simp; omega), List.map_take]; congr 1
    have e3 : cutG (p.map eS) (some ((i : Int) + 1)) none = (p.drop (i + 1)).map eS := by rw [cut_from _ (by omega) (by simp; omega), List.map_drop]; congr 1
    have hx := hm p[i] (List.getElem_mem _)
    simp [slLD, e1, e2, e3]
    refine ak (by omega) ?_
    simp [slLD, e3]
    refine ak (by omega) ?_
    have e4 : (p.take i).map eS ++ .lst (tS p[i] ++ [.str t]) :: (p.drop (i + 1)).map eS = (grownAt p t i).map eS := by
      unfold grownAt
      rw [List.getD_eq_getElem?_getD, List.getElem?_eq_getElem hi', Option.getD_some]
      simp [eS]
    simp
    rw [← List.map_take, ← List.map_drop]
    exact e4
  · refine ak (by simp; omega) ?_
    simp
    refine ak (by omega) ?_
    simp
    refine ak (by omega) ?_
    simp
    have e5 : (List.range p.length).map (fun i => eSS (grownAt p t i)) ++ [.lst (p.map eS ++ [.lst [.str t]])] = (grown p t).map eSS := by
      unfold grown
      rw [List.map_append, List.map_map]
      simp [Function.comp_def]
    rw [e5]
    exact k
/-- sizes of what is grown -/
theorem grown_len {p : List (List Str)} {t : Str} : (grown p t).length = p.length + 1 := by simp [grown]
theorem grown_bd {p : List (List Str)} {t : Str} {n : Nat} (h1 : p.length ≤ n) (h2 : ∀ xs ∈ p, xs.length ≤ n) : ∀ q ∈ grown p t, q.length ≤ n + 1 ∧ ∀ xs ∈ q, xs.length ≤ n + 1 := by
  intro q hq
  rcases List.mem_append.mp hq with hq | hq
  · obtain ⟨i, hi, rfl⟩ := List.mem_map.mp hq
    have hi := List.mem_range.mp hi
    refine ⟨by unfold grownAt; simp; omega, fun xs hx => ?_⟩
    unfold grownAt at hx
    rcases List.mem_append.mp hx with hx | hx
    · rcases List.mem_append.mp hx with hx | hx
      · have := h2 xs (List.mem_of_mem_take hx); omega
      · rw [List.mem_singleton.mp hx, List.getD_eq_getElem?_getD, List.getElem?_eq_getElem hi]
        have := h2 p[i] (List.getElem_mem _)
        simp; exact this
    · have := h2 xs (List.mem_of_mem_drop hx); omega
  · rw [List.mem_singleton.mp hq]
    refine ⟨by simp; omega, fun xs hx => ?_⟩
    rcases List.mem_append.mp hx with hx | hx
    · have := h2 xs hx; omega
    · rw [List.mem_singleton.mp hx]; simp
theorem partsG_snoc (ts : List Str) (t : Str) (f : List (List (List Str))) : partsG (ts ++ [t]) f = (partsG ts f).flatMap fun p => grown p t := by
  unfold partsG; rw [List.foldl_append]; rfl
theorem len_flat {α β : Type} {h : α → List β} (hp : ∀ a, 1 ≤ (h a).length) : ∀ xs : List α, xs.length ≤ (xs.flatMap h).length
  | [] => Nat.le_refl _
  | x :: xs => by
    have h1 := len_flat hp xs
    have h2 := hp x
    rw [List.flatMap_cons, List.length_append, List.length_cons]; omega
theorem partsG_len : ∀ (ts : List Str) (f : List (List (List Str))), f.length ≤ (partsG ts f).length
  | [], f => Nat.le_refl _
  | t :: ts, f => Nat.le_trans (len_flat (fun p => by rw [grown_len]; omega) f) (partsG_len ts _)
theorem partsG_bd (ts : List Str) : ∀ i, i ≤ ts.length → ∀ p ∈ partsG (ts.take i) [[]], p.length ≤ i ∧ ∀ xs ∈ p, xs.length ≤ i
  | 0, _, p, hp => by simp [partsG] at hp; subst hp; simp
  | i + 1, hi, p, hp => by
    rw [List.take_succ, List.getElem?_eq_getElem (by omega), Option.toList_some, partsG_snoc] at hp
    obtain ⟨q, hq, hp⟩ := List.mem_flatMap.mp hp
    obtain ⟨h1, h2⟩ := partsG_bd ts i (by omega) q hq
    exact grown_bd h1 h2 p hp
theorem m_partings_of {ts : List Str} {rs : List Rd} (ht : ts.length ≤ 900) (hl : (partsG ts [[]]).length ≤ 1000000) (k : P (.lst (((partsG ts [[]]).filter fun p => decide (1 < p.length)).map eSS)) s) : Sure (pr_partings_of [oL ts rs]) s P := by
  refine su_fnA (by simp [DL.argsOk]) ?_
  simp [B_partings_of, fld_oL]
  refine su_forM (I := fun i ρ u => u = s ∧ ∃ o2, ρ = [some (oL ts rs), some (.lst ((partsG (ts.take i) [[]]).map eSS)), o2, none, none]) ⟨rfl, none, by simp [partsG, eSS]⟩ ?_ ?_
  · rintro i t ρ u hq ⟨rfl, o2, rfl⟩
    have hi : i < ts.length := (List.getElem?_eq_some_iff.mp hq).1
    have hbd := partsG_bd ts i (by omega)
    have e1 : partsG (ts.take (i + 1)) [[]] = (partsG (ts.take i) [[]]).flatMap fun p => grown p t := by rw [List.take_succ, hq, Option.toList_some, partsG_snoc]
    have hlen : (partsG (ts.take (i + 1)) [[]]).length ≤ 1000000 := by
      refine Nat.le_trans ?_ hl
      have : partsG ts [[]] = partsG (ts.drop (i + 1)) (partsG (ts.take (i + 1)) [[]]) := by unfold partsG; rw [← List.foldl_append, List.take_append_drop]
      rw [this]; exact partsG_len _ _
    simp
    refine su_lcJ (f := eSS) (h := fun p => (grown p t).map eSS) (fun p hp s => ?_) ?_
    · obtain ⟨b1, b2⟩ := hbd p hp
      simp
      refine m_grown_by (by omega) (fun xs hx => by have := b2 xs hx; omega) ?_
      simp
      refine su_lcMap (f := eSS) (g := eSS) (fun q hq s => ?_) ?_
      · simp
      · simp
    · have e2 : ((partsG (ts.take i) [[]]).flatMap fun p => (grown p t).map eSS) = (partsG (ts.take (i + 1)) [[]]).map eSS := by rw [e1, List.map_flatMap]
      rw [e2]
      refine ak (by rw [List.length_map]; show _ < 16777216; omega) ?_
      simp
  · rintro ρ u ⟨rfl, o2, rfl⟩
    rw [List.take_of_length_le (Nat.le_refl _)]
    simp
    refine su_lcFil (f := eSS) (p := fun p => decide (1 < p.length)) (g := eSS) (fun p hp s => ?_) ?_
    · simp
      refine iq (fun z => ?_) fun z => ?_
      · have z' : 1 < p.length := by omega
        simp [z']
      · have z' : ¬ 1 < p.length := by omega
        simp [z']
    · refine ak (by rw [List.length_map]; show _ ≤ 16777216; omega) ?_
      exact k
end Lk
end
section
set_option autoImplicit false
namespace Lk
open PySem PySem.Spec L2 DL
variable {s : Strm} {P : D → Strm → Prop} {b : Int}
theorem m_partings {ts : List Str} {d : D} (hd : IsSq d (tS ts)) (ht : ts.length ≤ 900) (hl : (partsG ts [[]]).length ≤ 1000000) (k : P (.lst ((partsG ts [[]]).map eSS)) s) : Sure (pr_partings [d]) s P := by
  refine su_fnA (by simp [DL.argsOk]) ?_
  simp [B_partings, hd.items]
  refine su_forM (I := fun i ρ u => u = s ∧ ∃ o2 o3 o4 o5, ρ = [some d, some (.lst ((partsG (ts.take i) [[]]).map eSS)), o2, o3, o4, o5]) ⟨rfl, none, none, none, none, by simp [partsG, eSS]⟩ ?_ ?_
  · rintro i t ρ u hq ⟨rfl, o2, o3, o4, o5, rfl⟩
    have hi : i < ts.length := (List.getElem?_eq_some_iff.mp hq).1
    have hbd := partsG_bd ts i (by omega)
    have e1 : partsG (ts.take (i + 1)) [[]] = (partsG (ts.take i) [[]]).flatMap fun p => grown p t := by rw [List.take_succ, hq, Option.toList_some, partsG_snoc]
    have hlen : (partsG (ts.take (i + 1)) [[]]).length ≤ 1000000 := by
      refine Nat.le_trans ?_ hl
      have : partsG ts [[]] = partsG (ts.drop (i + 1)) (partsG (ts.take (i + 1)) [[]]) := by unfold partsG; rw [← List.foldl_append, List.take_append_drop]
      rw [this]; exact partsG_len _ _
    generalize partsG (ts.take i) [[]] = F at hbd e1
    simp
    refine su_forM (f := eSS) (I := fun j ρ v => v = u ∧ ∃ o4 o5, ρ = [some d, some (.lst (F.map eSS)), some (.str t), some (.lst (((F.take j).flatMap fun p => grown p t).map eSS)), o4, o5]) ⟨rfl, o4, o5, by simp⟩ ?_ ?_
    · rintro j p ρ v hp ⟨rfl, o4, o5, rfl⟩
      obtain ⟨b1, b2⟩ := hbd p (List.mem_of_getElem? hp)
      simp
      refine ak (by omega) ?_
      simp
      refine su_lcMap (f := fun i : Nat => .int (i : Int)) (g := fun i => eSS (grownAt p t i)) (fun i2 hi2 s => ?_) ?_
      · have hi' : i2 < p.length := List.mem_range.mp hi2
        have f1 : ixD (.lst (p.map eS)) (.int (i2 : Int)) = some (eS p[i2]) := by
          obtain ⟨x, h1, h2⟩ := at_map eS p (i2 : Int) (by omega) (by omega)
          rw [h1]
          congr 1
          have : x = p[i2] := by
            have h3 : p[i2]? = some x := by simpa using h2
            rw [List.getElem?_eq_getElem hi'] at h3
            exact (Option.some.inj h3).symm
          rw [this]
        have f2 : cutG (p.map eS) none (some (i2 : Int)) = (p.take i2).map eS := by rw [cut_to _ (by omega) (by simp; omega), List.map_take]; congr 1
        have f3 : cutG (p.map eS) (some ((i2 : Int) + 1)) none = (p.drop (i2 + 1)).map eS := by rw [cut_from _ (by omega) (by simp; omega), List.map_drop]; congr 1
        have hx := b2 p[i2] (List.getElem_mem _)
        have c1 : catD (eS p[i2]) (.lst [.str t]) = some (eS (p[i2] ++ [t])) := by simp [catD, eS]; omega
        have c2 : catD (.lst ((p.map eS).take i2)) (.lst [eS (p[i2] ++ [t])]) = some (.lst ((p.map eS).take i2 ++ [eS (p[i2] ++ [t])])) := by simp [catD]; omega
        have c3 : catD (.lst ((p.map eS).take i2 ++ [eS (p[i2] ++ [t])])) (.lst ((p.map eS).drop (i2 + 1))) = some (eSS (grownAt p t i2)) := by
          unfold grownAt
          rw [List.getD_eq_getElem?_getD, List.getElem?_eq_getElem hi', Option.getD_some]
          simp [catD, eS]
          omega
        have f4 : slLD (eSS p) none (some (i2 : Int)) = some (.lst ((p.map eS).take i2)) := by show some (D.lst (cutG (p.map eS) none (some (i2 : Int)))) = _; rw [f2, List.map_take]
        have f5 : slLD (eSS p) (some ((i2 : Int) + 1)) none = some (.lst ((p.map eS).drop (i2 + 1))) := by show some (D.lst (cutG (p.map eS) (some ((i2 : Int) + 1)) none)) = _; rw [f3, List.map_drop]
        simp
        refine DL.ok f4 ?_
        simp [f1]
        refine DL.ok c1 ?_
        simp
        refine DL.ok c2 ?_
        simp
        refine DL.ok f5 ?_
        simp
        refine DL.ok c3 ?_
        simp
      · have e2 : F.take (j + 1) = F.take j ++ [p] := by rw [List.take_succ, hp]; rfl
        have e3 : ((F.take (j + 1)).flatMap fun p => grown p t) = ((F.take j).flatMap fun p => grown p t) ++ grown p t := by rw [e2, List.flatMap_append]; simp
        have e4 : (((F.take (j + 1)).flatMap fun p => grown p t)).length ≤ 1000000 := by
          have : F.flatMap (fun p => grown p t) = (F.take (j + 1)).flatMap (fun p => grown p t) ++ (F.drop (j + 1)).flatMap fun p => grown p t := by rw [← List.flatMap_append, List.take_append_drop]
          rw [e1, this, List.length_append] at hlen
          omega
        rw [e3, List.length_append, grown_len] at e4
        refine ak (by simp; omega) ?_
        simp
        generalize hG : ((F.take j).flatMap fun p => grown p t) = G at e3 e4
        refine ak (by simp [← hG] at e4 ⊢; omega) ?_
        simp
        have c4 : catD (eSS p) (.lst [.lst [.str t]]) = some (eSS (p ++ [[t]])) := by simp [catD, eS]; omega
        refine DL.ok c4 ?_
        simp
        refine ak (by omega) ?_
        have e5 : (((F.take (j + 1)).flatMap fun p => grown p t)).map eSS = G.map eSS ++ ((List.range p.length).map (fun i => eSS (grownAt p t i)) ++ [eSS (p ++ [[t]])]) := by
          rw [e3, List.map_append]
          congr 1
          unfold grown
          rw [List.map_append, List.map_map]; rfl
        rw [e5]
        simp
    · rintro ρ v ⟨rfl, o4, o5, rfl⟩
      rw [List.take_of_length_le (Nat.le_refl _), ← e1]
      simp
  · rintro ρ u ⟨rfl, o2, o3, o4, o5, rfl⟩
    rw [List.take_of_length_le (Nat.le_refl _)]
    simp
    exact k
end Lk
end
section
set_option autoImplicit false
namespace Lk
open PySem PySem.Spec L2 DL
variable {s : Strm} {P : D → Strm → Prop} {b : Int}
theorem look_int {kvs : List (Str × D)} {t : Str} (hv : ∀ x ∈ kvs, ∃ z : Int, x.2 = .int z) (ht : t ∈ kvs.map (·.1)) : ∃ z : Int, lookS kvs t = some (.int z) := by
  unfold lookS
  cases e : kvs.find? (fun p => decide (p.1 = t)) with
  | none =>
    obtain ⟨x, hx, rfl⟩ := List.mem_map.mp ht
    have := List.find?_eq_none.mp e x hx
    simp at this
  | some x =>
    obtain ⟨z, hz⟩ := hv x (List.mem_of_find?_eq_some e)
    exact ⟨z, by rw [Option.map_some, hz]⟩
theorem flP_keys (p : List (List Str)) : (flP p).map (·.1) = p.flatten := by
  have : ∀ (p : List (List Str)) (k : Nat), (flI (p.zipIdx k)).map (·.1) = p.flatten := by
    intro p
    induction p with
    | nil => intro k; rfl
    | cons x p ih =>
      intro k
      rw [List.zipIdx_cons]
      unfold flI
      rw [List.flatMap_cons, List.map_append, List.flatten_cons]
      have h := ih (k + 1)
      unfold flI at h
      rw [h, List.map_map]
      simp [Function.comp_def]
  exact this p 0
theorem flP_ints {p : List (List Str)} : ∀ x ∈ flP p, ∃ z : Int, x.2 = .int z := fun x hx => by
  obtain ⟨q, _, hq⟩ := List.mem_flatMap.mp hx
  obtain ⟨t, _, rfl⟩ := List.mem_map.mp hq
  exact ⟨_, rfl⟩
theorem plc_eq {p : List (List Str)} (h : p.flatten.Nodup) : plc p = flP p := by
  have := foldS_new (flP p) [] (by rw [flP_keys]; exact h) (fun _ _ => by simp)
  simpa [foldS, plc] using this
theorem pos_of {p : List (List Str)} (h : p.flatten.Nodup) {t : Str} (ht : t ∈ p.flatten) : lookS (plc p) t = some (.int (posP p t)) := by
  obtain ⟨z, hz⟩ := look_int (kvs := flP p) flP_ints (by rw [flP_keys]; exact ht)
  rw [← plc_eq h] at hz
  unfold posP
  rw [hz]
/-- a parting's lists hold just the towns -/
theorem grown_perm {p : List (List Str)} {t : Str} {us : List Str} (h : p.flatten.Perm us) : ∀ q ∈ grown p t, q.flatten.Perm (us ++ [t]) := by
  intro q hq
  rcases List.mem_append.mp hq with hq | hq
  · obtain ⟨i, hi, rfl⟩ := List.mem_map.mp hq
    have hi := List.mem_range.mp hi
    have e : p = p.take i ++ p[i] :: p.drop (i + 1) := by rw [List.getElem_cons_drop, List.take_append_drop]
    unfold grownAt
    rw [List.getD_eq_getElem?_getD, List.getElem?_eq_getElem hi, Option.getD_some]
    rw [e] at h
    simp only [List.flatten_append, List.flatten_cons, List.flatten_nil, List.append_nil] at h ⊢
    have : ((p.take i).flatten ++ (p[i] ++ [t]) ++ (p.drop (i + 1)).flatten).Perm (((p.take i).flatten ++ (p[i] ++ (p.drop (i + 1)).flatten)) ++ [t]) := by
      simp only [List.append_assoc]
      exact List.Perm.append_left _ (List.Perm.append_left _ List.perm_append_comm)
    exact this.trans (h.append_right _)
  · rw [List.mem_singleton.mp hq, List.flatten_append]
    simpa using h.append_right [t]
theorem partsG_perm (ts : List Str) : ∀ i, i ≤ ts.length → ∀ p ∈ partsG (ts.take i) [[]], p.flatten.Perm (ts.take i)
  | 0, _, p, hp => by simp [partsG] at hp; subst hp; simp
  | i + 1, hi, p, hp => by
    rw [List.take_succ, List.getElem?_eq_getElem (by omega), Option.toList_some] at hp ⊢
    rw [partsG_snoc] at hp
    obtain ⟨q, hq, hp⟩ := List.mem_flatMap.mp hp
    exact grown_perm (partsG_perm ts i (by omega) q hq) p hp
end Lk
end
section
set_option autoImplicit false
namespace Lk
open PySem PySem.Spec L2 DL
variable {s : Strm} {P : D → Strm → Prop} {b : Int}
def spareP (p : List (List Str)) (rs : List Rd) : Int := (crsP p rs).length - 2 * ((p.length : Int) - 1)
theorem nodup_in {p : List (List Str)} (h : p.flatten.Nodup) : ∀ xs ∈ p, xs.Nodup := fun xs hx => h.sublist (List.sublist_flatten_of_mem hx)
theorem crs_len (p : List (List Str)) (rs : List Rd) : (crsP p rs).length ≤ rs.length := by
  unfold crsP
  rw [List.length_map]
  have := List.length_filter_le (fun q : Rd × Nat => decide (posP p q.1.1 ≠ posP p q.1.2)) rs.zipIdx
  simpa using this
theorem m_spare {ts : List Str} {rs : List Rd} {p : List (List Str)} (ok : LOk ts rs) (hp : p.flatten.Perm ts) (hl : p.length ≤ 1000) (k : P (.int (spareP p rs)) s) : Sure (pr_spare [dL ts rs, eSS p]) s P := by
  have hnd : p.flatten.Nodup := hp.nodup_iff.mpr ok.nd
  have hlf : (flP p).length ≤ 1000 := by
    have e := congrArg List.length (flP_keys p)
    rw [List.length_map] at e
    rw [e, hp.length_eq]; exact ok.lt
  have hk : ∀ r ∈ rs, lookS (plc p) r.1 = some (.int (posP p r.1)) ∧ lookS (plc p) r.2 = some (.int (posP p r.2)) := fun r hr => by
    obtain ⟨h1, h2, _⟩ := ok.rd r hr
    exact ⟨pos_of hnd (hp.mem_iff.mpr h1), pos_of hnd (hp.mem_iff.mpr h2)⟩
  have hc := crs_len p rs
  have hr := ok.lr
  refine su_fnA (by simp [DL.argsOk]) ?_
  simp [B_spare]
  refine m_crossing (.inl rfl) ok.lr hlf (nodup_in hnd) hk ?_
  simp
  exact k
end Lk
end
section
set_option autoImplicit false
namespace Lk
open PySem PySem.Spec L2 DL
variable {s : Strm} {P : D → Strm → Prop} {b : Int}
def leastF (rs : List Rd) (f : Option (Int × List (List Str))) (p : List (List Str)) : Option (Int × List (List Str)) := match f with
  | none => some (spareP p rs, p)
  | some (z, q) => if spareP p rs < z then some (spareP p rs, p) else some (z, q)
def leastP (rs : List Rd) (ps : List (List (List Str))) : Option (Int × List (List Str)) := ps.foldl (leastF rs) none
def eLe : Option (Int × List (List Str)) → D
  | none => .non
  | some (z, p) => .tup [.int z, eSS p]
def manyP (ts : List Str) : List (List (List Str)) := (partsG ts [[]]).filter fun p => decide (1 < p.length)
theorem m_least_spare {ts : List Str} {rs : List Rd} (ok : LOk ts rs) (ht : ts.length ≤ 900) (hl : (partsG ts [[]]).length ≤ 1000000) (k : P (eLe (leastP rs (manyP ts))) s) : Sure (pr_least_spare [oL ts rs]) s P := by
  have hpm : ∀ p ∈ manyP ts, p.flatten.Perm ts ∧ p.length ≤ 900 ∧ ∀ xs ∈ p, xs.length ≤ 900 := fun p hp => by
    have hp := (List.mem_filter.mp hp).1
    have h1 := partsG_perm ts ts.length (Nat.le_refl _) p (by rw [List.take_of_length_le (Nat.le_refl _)]; exact hp)
    have h2 := partsG_bd ts ts.length (Nat.le_refl _) p (by rw [List.take_of_length_le (Nat.le_refl _)]; exact hp)
    rw [List.take_of_length_le (Nat.le_refl _)] at h1
    exact ⟨h1, by omega, fun xs hx => by have := h2.2 xs hx; omega⟩
  refine su_fnA (by simp [DL.argsOk]) ?_
  simp [B_least_spare]
  refine m_partings_of ht hl ?_
  simp
  refine su_forM (f := eSS) (xs := manyP ts) (I := fun i ρ u => u = s ∧ ∃ o2 o3, ρ = [some (oL ts rs), some (eLe (leastP rs ((manyP ts).take i))), o2, o3]) ⟨rfl, none, none, by simp [leastP, eLe]⟩ ?_ ?_
  · rintro i p ρ u hp ⟨rfl, o2, o3, rfl⟩
    obtain ⟨h1, h2, h3⟩ := hpm p (List.mem_of_getElem? hp)
    have hnd : p.flatten.Nodup := h1.nodup_iff.mpr ok.nd
    have hlf : (flP p).length ≤ 1000 := by
      have e := congrArg List.length (flP_keys p)
      rw [List.length_map] at e
      rw [e, h1.length_eq]; exact ok.lt
    have hk : ∀ r ∈ rs, lookS (plc p) r.1 = some (.int (posP p r.1)) ∧ lookS (plc p) r.2 = some (.int (posP p r.2)) := fun r hr => by
      obtain ⟨q1, q2, _⟩ := ok.rd r hr
      exact ⟨pos_of hnd (h1.mem_iff.mpr q1), pos_of hnd (h1.mem_iff.mpr q2)⟩
    have hc := crs_len p rs
    have hr := ok.lr
    have e1 : leastP rs ((manyP ts).take (i + 1)) = leastF rs (leastP rs ((manyP ts).take i)) p := by rw [List.take_succ, hp]; unfold leastP; rw [Option.toList_some, List.foldl_append]; rfl
    rw [e1]
    generalize leastP rs ((manyP ts).take i) = f
    simp
    refine m_crossing_of (.inl rfl) ok.lr hlf (List.all_eq_true.mpr fun xs hx => by have := h3 xs hx; simp; omega) hk ?_
    simp
    cases f with
    | none =>
      simp [eLe, leastF]
      rfl
    | some zq =>
      obtain ⟨z, q⟩ := zq
      have e2 : isNq (.tup [.int z, eSS q]) .non = some (.bl false) := rfl
      have e3 : ((crsP p rs).length : Int) - 2 * ((p.length : Int) - 1) = spareP p rs := rfl
      simp [eLe, leastF, e2, e3]
      by_cases y : spareP p rs < z
      · simp [y]
        rw [show leastF rs (some (z, q)) p = some (spareP p rs, p) from if_pos y]
        try rfl
      · simp [y]
        rw [show leastF rs (some (z, q)) p = some (z, q) from if_neg y]
        try rfl
  · rintro ρ u ⟨rfl, o2, o3, rfl⟩
    rw [List.take_of_length_le (Nat.le_refl _)]
    simp
    exact k
end Lk
end
section
set_option autoImplicit false
namespace Lk
open PySem PySem.Spec L2 DL
variable {s : Strm} {P : D → Strm → Prop} {b : Int}
/-- what nights tells: of the least spare, if it is none below 0 -/
def nightsP : Option (Int × List (List Str)) → D
  | none => .non
  | some (z, _) => if 0 ≤ z then .int z else .non
def worstP : Option (Int × List (List Str)) → D
  | none => .non
  | some (z, p) => if 0 ≤ z then eSS p else .non
theorem m_nights {ts : List Str} {rs : List Rd} (ok : LOk ts rs) (ht : ts.length ≤ 900) (hl : (partsG ts [[]]).length ≤ 1000000) (k : P (nightsP (leastP rs (manyP ts))) s) : Sure (pr_nights [oL ts rs]) s P := by
  refine su_fnA (by simp [DL.argsOk]) ?_
  simp [B_nights]
  refine m_check_land ?_
  simp
  refine m_least_spare ok ht hl ?_
  simp
  generalize leastP rs (manyP ts) = f at k
  cases f with
  | none =>
    simp [eLe]
    exact k
  | some zq =>
    obtain ⟨z, q⟩ := zq
    have e2 : isNNq (.tup [.int z, eSS q]) .non = some (.bl true) := rfl
    have e3 : ixA (.tup [.int z, eSS q]) (.int 0) = some (.int z) := rfl
    simp [eLe, e2, e3]
    by_cases y : 0 ≤ z
    · simp [nightsP, y] at k
      simp [y, eLe]
      exact k
    · simp [nightsP, y] at k
      simp [y]
      exact k
theorem m_worst_nights {ts : List Str} {rs : List Rd} (ok : LOk ts rs) (ht : ts.length ≤ 900) (hl : (partsG ts [[]]).length ≤ 1000000) (k : P (worstP (leastP rs (manyP ts))) s) : Sure (pr_worst_nights [oL ts rs]) s P := by
  refine su_fnA (by simp [DL.argsOk]) ?_
  simp [B_worst_nights]
  refine m_check_land ?_
  simp
  refine m_least_spare ok ht hl ?_
  simp
  generalize leastP rs (manyP ts) = f at k
  cases f with
  | none =>
    simp [eLe]
    exact k
  | some zq =>
    obtain ⟨z, q⟩ := zq
    have e2 : isNNq (.tup [.int z, eSS q]) .non = some (.bl true) := rfl
    simp [eLe, e2]
    by_cases y : 0 ≤ z
    · simp [worstP, y] at k
      simp [y, eLe]
      exact k
    · simp [worstP, y] at k
      simp [y]
      exact k
end Lk
end
section
set_option autoImplicit false
namespace Lk
open PySem PySem.Spec L2 DL
variable {s : Strm} {P : D → Strm → Prop} {b : Int}
theorem copied_atm {rec : List D → M D} {d : D} (ha : atm d = true) (k : P d s) : Sure (fnA [false] 4 (B_copied rec) [d]) s P := by
  refine su_fnA (by simp [DL.argsOk]) ?_
  cases d <;> first | (cases ha; done) | (simp [B_copied, frozen]; exact k)
theorem m_copied : ∀ (n : Nat) {d : D} {s : Strm} {P : D → Strm → Prop}, flatN n d = true → szD d ≤ 100000 → P d s → Sure (pr_copied (n + 1) [d]) s P := by
  intro n
  induction n with
  | zero =>
    intro d s P hf hz k
    rcases sq_or_atm hf with ⟨xs, q⟩ | ha
    · obtain ⟨m, e, _⟩ := flatN_sq hf q; cases e
    · exact copied_atm ha k
  | succ n ih =>
    intro d s P hf hz k
    rcases sq_or_atm hf with ⟨xs, q⟩ | ha
    · obtain ⟨m, e, hfl⟩ := flatN_sq hf q
      cases e
      have hzl := sz_sq q
      have hl := szDL_len xs
      show Sure (fnA [false] 4 (B_copied (pr_copied (n + 1))) [d]) s P
      refine su_fnA (by simp [DL.argsOk]) ?_
      have key : ∀ {PL : List D → Strm → Prop} {B : D → M (Option D)}, (∀ x ∈ xs, ∀ s, Sure (B x) s fun o t => o = some x ∧ t = s) → PL xs s → Sure (lcD B xs) s PL := fun {PL B} hb hp => by
        have := su_lcMap (f := fun x : D => x) (g := fun x => x) (xs := xs) (B := B) (P := PL) (s := s) hb (by simpa using hp)
        simpa using this
      rcases q with rfl | rfl
      · simp [B_copied]
        refine key (fun x hx s => ?_) ?_
        · simp
          refine ih (flatL_mem hfl x hx) (by have := szDL_mem hx; omega) ?_
          simp
        · refine ak (by show _ ≤ 16777216; omega) ?_
          simp
          exact k
      · simp [B_copied]
        refine key (fun x hx s => ?_) ?_
        · simp
          refine ih (flatL_mem hfl x hx) (by have := szDL_mem hx; omega) ?_
          simp
        · refine ak (by show _ ≤ 16777216; omega) ?_
          simp
          exact k
    · exact copied_atm ha k
end Lk
end
section
set_option autoImplicit false
namespace Lk
open PySem PySem.Spec L2 DL
variable {s : Strm} {P : D → Strm → Prop} {b : Int}
abbrev eI (xs : List Nat) : D := .lst (xs.map fun i : Nat => .int i)
theorem minL_int : ∀ (zs : List Int) (z : Int), ∃ m : Int, minL (.int z) (zs.map D.int) = .int m ∧ (m = z ∨ m ∈ zs) ∧ m ≤ z ∧ ∀ y ∈ zs, m ≤ y
  | [], z => ⟨z, rfl, .inl rfl, Int.le_refl _, fun _ h => by cases h⟩
  | y :: zs, z => by
    have e : minL (.int z) ((y :: zs).map D.int) = minL (if plt (.int y) (.int z) then .int y else .int z) (zs.map D.int) := rfl
    rw [e, LO.int.plt]
    unfold ltI
    by_cases q : y < z
    · obtain ⟨m, h1, h2, h3, h4⟩ := minL_int zs y
      refine ⟨m, by simpa [q] using h1, ?_, by omega, fun w hw => ?_⟩
      · rcases h2 with rfl | h2
        · right; simp
        · right; simp [h2]
      · rcases List.mem_cons.mp hw with rfl | hw
        · exact h3
        · exact h4 w hw
    · obtain ⟨m, h1, h2, h3, h4⟩ := minL_int zs z
      refine ⟨m, by simpa [q] using h1, ?_, h3, fun w hw => ?_⟩
      · rcases h2 with rfl | h2
        · left; rfl
        · right; simp [h2]
      · rcases List.mem_cons.mp hw with rfl | hw
        · omega
        · exact h4 w hw
theorem minD_ints {zs : List Int} (h : zs ≠ []) : ∃ m : Int, minD [.lst (zs.map D.int)] = some (.int m) ∧ m ∈ zs ∧ ∀ y ∈ zs, m ≤ y := by
  cases zs with
  | nil => exact absurd rfl h
  | cons z zs =>
    obtain ⟨m, h1, h2, h3, h4⟩ := minL_int zs z
    refine ⟨m, ?_, ?_, ?_⟩
    · have hc : cmpOk ((z :: zs).map D.int) = true := LO.int.cmpOk (by decide) _
      show (if cmpOk ((z :: zs).map D.int) = true then some (minL (.int z) (zs.map D.int)) else none) = _
      rw [if_pos hc, h1]
    · rcases h2 with rfl | h2 <;> simp [*]
    · intro y hy
      rcases List.mem_cons.mp hy with rfl | hy
      · exact h3
      · exact h4 y hy
theorem leastF_some (rs : List Rd) : ∀ (ps : List (List (List Str))) (z : Int) (p : List (List Str)), ∃ z' p', ps.foldl (leastF rs) (some (z, p)) = some (z', p') ∧ ((z' = z ∧ p' = p) ∨ (p' ∈ ps ∧ z' = spareP p' rs)) ∧ z' ≤ z ∧ ∀ q ∈ ps, z' ≤ spareP q rs
  | [], z, p => ⟨z, p, rfl, .inl ⟨rfl, rfl⟩, Int.le_refl _, fun _ h => by cases h⟩
  | q :: ps, z, p => by
    by_cases y : spareP q rs < z
    · obtain ⟨z', p', h1, h2, h3, h4⟩ := leastF_some rs ps (spareP q rs) q
      refine ⟨z', p', by rw [List.foldl_cons, show leastF rs (some (z, p)) q = some (spareP q rs, q) from if_pos y]; exact h1, ?_, by omega, fun w hw => ?_⟩
      · right
        rcases h2 with ⟨rfl, rfl⟩ | ⟨h2, h5⟩
        · exact ⟨List.mem_cons_self, rfl⟩
        · exact ⟨List.mem_cons_of_mem _ h2, h5⟩
      · rcases List.mem_cons.mp hw with rfl | hw
        · exact h3
        · exact h4 w hw
    · obtain ⟨z', p', h1, h2, h3, h4⟩ := leastF_some rs ps z p
      refine ⟨z', p', by rw [List.foldl_cons, show leastF rs (some (z, p)) q = some (z, p) from if_neg y]; exact h1, ?_, h3, fun w hw => ?_⟩
      · rcases h2 with h2 | ⟨h2, h5⟩
        · exact .inl h2
        · exact .inr ⟨List.mem_cons_of_mem _ h2, h5⟩
      · rcases List.mem_cons.mp hw with rfl | hw
        · omega
        · exact h4 w hw
theorem least_spec (rs : List Rd) {ps : List (List (List Str))} (h : ps ≠ []) : ∃ p, leastP rs ps = some (spareP p rs, p) ∧ p ∈ ps ∧ ∀ q ∈ ps, spareP p rs ≤ spareP q rs := by
  cases ps with
  | nil => exact absurd rfl h
  | cons q ps =>
    obtain ⟨z', p', h1, h2, h3, h4⟩ := leastF_some rs ps (spareP q rs) q
    have h5 : z' = spareP p' rs ∧ p' ∈ q :: ps := by
      rcases h2 with ⟨h2, h6⟩ | ⟨h2, h6⟩
      · rw [h6]; exact ⟨h2, List.mem_cons_self⟩
      · exact ⟨h6, List.mem_cons_of_mem _ h2⟩
    refine ⟨p', ?_, h5.2, fun w hw => ?_⟩
    · show (q :: ps).foldl (leastF rs) none = _
      rw [List.foldl_cons, ← h5.1]; exact h1
    · rw [← h5.1]
      rcases List.mem_cons.mp hw with rfl | hw
      · exact h3
      · exact h4 w hw
def hd (xs : List Str) : Str := xs.headD default
structure Pk (us : List Str) (p : List (List Str)) : Prop where
  ne : ∀ xs ∈ p, xs ≠ []
  su : ∀ xs ∈ p, xs.Sublist us
  hs : (p.map hd).Sublist us
theorem hd_app {xs : List Str} (h : xs ≠ []) (t : Str) : hd (xs ++ [t]) = hd xs := by cases xs with | nil => exact absurd rfl h | cons => rfl
theorem Pk.grown {us : List Str} {p : List (List Str)} (h : Pk us p) (t : Str) : ∀ q ∈ grown p t, Pk (us ++ [t]) q := by
  intro q hq
  have h0 : us.Sublist (us ++ [t]) := List.sublist_append_left _ _
  rcases List.mem_append.mp hq with hq | hq
  · obtain ⟨i, hi, rfl⟩ := List.mem_map.mp hq
    have hi := List.mem_range.mp hi
    have e : p = p.take i ++ p[i] :: p.drop (i + 1) := by rw [List.getElem_cons_drop, List.take_append_drop]
    have hm := List.getElem_mem hi
    have em : (grownAt p t i).map hd = p.map hd := by
      unfold grownAt
      rw [List.getD_eq_getElem?_getD, List.getElem?_eq_getElem hi, Option.getD_some, List.map_append, List.map_append, List.map_cons, List.map_nil, hd_app (h.ne _ hm)]
      conv => rhs; rw [e, List.map_append, List.map_cons]
      simp
    have mem : ∀ xs ∈ grownAt p t i, xs ∈ p ∨ xs = p[i] ++ [t] := fun xs hx => by
      unfold grownAt at hx
      rw [List.getD_eq_getElem?_getD, List.getElem?_eq_getElem hi, Option.getD_some] at hx
      rcases List.mem_append.mp hx with hx | hx
      · rcases List.mem_append.mp hx with hx | hx
        · exact .inl (List.mem_of_mem_take hx)
        · exact .inr (List.mem_singleton.mp hx)
      · exact .inl (List.mem_of_mem_drop hx)
    refine ⟨fun xs hx => ?_, fun xs hx => ?_, by rw [em]; exact h.hs.trans h0⟩
    · rcases mem xs hx with hx | rfl
      · exact h.ne xs hx
      · simp
    · rcases mem xs hx with hx | rfl
      · exact (h.su xs hx).trans h0
      · exact List.Sublist.append_right (h.su _ hm) [t]
  · rw [List.mem_singleton.mp hq]
    refine ⟨fun xs hx => ?_, fun xs hx => ?_, ?_⟩
    · rcases List.mem_append.mp hx with hx | hx
      · exact h.ne xs hx
      · rw [List.mem_singleton.mp hx]; simp
    · rcases List.mem_append.mp hx with hx | hx
      · exact (h.su xs hx).trans h0
      · rw [List.mem_singleton.mp hx]; exact List.sublist_append_right _ _
    · rw [List.map_append]
      exact List.Sublist.append h.hs (List.Sublist.refl _)
theorem partsG_pk (ts : List Str) : ∀ i, i ≤ ts.length → ∀ p ∈ partsG (ts.take i) [[]], Pk (ts.take i) p
  | 0, _, p, hp => by simp [partsG] at hp; subst hp; exact ⟨(fun _ h => by cases h), (fun _ h => by cases h), by simp⟩
  | i + 1, hi, p, hp => by
    rw [List.take_succ, List.getElem?_eq_getElem (by omega), Option.toList_some] at hp ⊢
    rw [partsG_snoc] at hp
    obtain ⟨q, hq, hp⟩ := List.mem_flatMap.mp hp
    exact (partsG_pk ts i (by omega) q hq).grown _ p hp
/-- a parting as it stands: ascending, all its towns -/
structure Pt (ts : List Str) (p : List (List Str)) : Prop where
  pk : Pk ts p
  pm : p.flatten.Perm ts
  lp : p.length ≤ ts.length
  lx : ∀ xs ∈ p, xs.length ≤ ts.length
theorem many_pt {ts : List Str} : ∀ p ∈ manyP ts, Pt ts p ∧ 1 < p.length := fun p hp => by
  obtain ⟨hp, h1⟩ := List.mem_filter.mp hp
  have hp' : p ∈ partsG (ts.take ts.length) [[]] := by rw [List.take_of_length_le (Nat.le_refl _)]; exact hp
  have h2 := partsG_pk ts ts.length (Nat.le_refl _) p hp'
  have h3 := partsG_perm ts ts.length (Nat.le_refl _) p hp'
  have h4 := partsG_bd ts ts.length (Nat.le_refl _) p hp'
  rw [List.take_of_length_le (Nat.le_refl _)] at h2 h3
  exact ⟨⟨h2, h3, h4.1, h4.2⟩, of_decide_eq_true h1⟩
end Lk
end
section
set_option autoImplicit false
namespace DL
open PySem PySem.Spec L2
/-- the second branch, and the first one given that -/
theorem ifB {c : Bool} {A B : Prop} (h : B) (k : c = true → B → A) : ifK c A B := ⟨fun e => k e h, fun _ => h⟩
/-- an order by way of another one -/
theorem LO.comap {α β : Type} [DecidableEq α] [DecidableEq β] {f : α → D} {lt : α → α → Bool} {k : Nat} (h : LO f lt k) (g : β → α) (hg : ∀ a b, g a = g b → a = b) : LO (fun b => f (g b)) (fun a b => lt (g a) (g b)) k where
  pl a := h.pl _
  dp a := h.dp _
  al a b := h.al _ _
  hlt a b := h.hlt _ _
  ev a b := by rw [h.ev]; by_cases q : a = b <;> simp [q]; exact fun e => q (hg _ _ e)
  de a b := by rw [h.de]; by_cases q : a = b <;> simp [q]; exact fun e => q (hg _ _ e)
  kd := h.kd.imp (fun z a => z _) (fun z a => z _)
  ir a := h.ir _
  tr a b c := h.tr _ _ _
  tri a b x y := hg _ _ (h.tri _ _ x y)
def ltN (a b : Nat) : Bool := decide (a < b)
theorem LO.nat : LO (fun n : Nat => D.int n) ltN 0 := by
  have h := LO.int.comap (fun n : Nat => (n : Int)) (fun a b e => by omega)
  have e : (fun a b : Nat => ltI (a : Int) (b : Int)) = ltN := by funext a b; unfold ltI ltN; by_cases q : a < b <;> simp [q] <;> omega
  rw [e] at h
  exact h
section
variable {α β : Type} [DecidableEq α] {f : α → D} {lt : α → α → Bool} {k : Nat}
theorem LO.sortedI (h : LO f lt k) (hk : k ≤ 50) {xs : List α} : sortedD [.lst (xs.map f)] = if xs.length ≤ 16777216 then some (.lst ((sortT lt xs).map f)) else none := by
  by_cases q : xs.length ≤ 16777216
  · rw [if_pos q]; exact h.sortedL hk q
  · rw [if_neg q]
    show (if DL.sortOk (xs.map f) = true then some (D.lst (DL.srt (xs.map f))) else none) = _
    have : DL.sortOk (xs.map f) = false := by
      unfold DL.sortOk
      rw [List.length_map, show decide (xs.length ≤ sizeLine) = false from decide_eq_false q, Bool.and_false]
    rw [this]; rfl
end
@[simp] theorem catD_lst {xs ys : List D} : catD (.lst xs) (.lst ys) = if xs.length + ys.length ≤ 16777216 then some (.lst (xs ++ ys)) else none := by
  have hz : sizeLine = 16777216 := rfl
  show (if xs.length ≤ sizeLine ∧ ys.length ≤ sizeLine ∧ xs.length + ys.length ≤ sizeLine then _ else _) = _
  by_cases q : xs.length + ys.length ≤ 16777216
  · rw [if_pos q, if_pos (by omega)]
  · rw [if_neg q, if_neg (by omega)]
@[simp] theorem slLD_lst {xs : List D} {lo hi : Option Int} : slLD (.lst xs) lo hi = some (.lst (cutG xs lo hi)) := rfl
@[simp] theorem slTD_tup {xs : List D} {lo hi : Option Int} : slTD (.tup xs) lo hi = some (.tup (cutG xs lo hi)) := rfl
@[simp] theorem atI_nat_cast {α : Type} {xs : List α} {n : Nat} : atI xs (n : Int) = xs[n]? := by
  unfold atI ixN
  rw [if_pos (by omega)]
  by_cases q : n < xs.length
  · rw [if_pos (by omega)]; simp
  · rw [if_neg (by omega)]
    rw [List.getElem?_eq_none (by omega)]; rfl
@[simp] theorem sortedD_str {xs : List Str} : sortedD [.lst (xs.map D.str)] = if xs.length ≤ 16777216 then some (.lst ((sortT ltS xs).map D.str)) else none := LO.str.sortedI (by decide)
@[simp] theorem sortedD_int {xs : List Int} : sortedD [.lst (xs.map D.int)] = if xs.length ≤ 16777216 then some (.lst ((sortT ltI xs).map D.int)) else none := LO.int.sortedI (by decide)
@[simp] theorem sortedD_nat {xs : List Nat} : sortedD [.lst (xs.map fun n : Nat => D.int n)] = if xs.length ≤ 16777216 then some (.lst ((sortT ltN xs).map fun n : Nat => D.int n)) else none := LO.nat.sortedI (by decide)
@[simp] theorem inD_str {a : Str} {xs : List Str} : inD (.str a) (.lst (xs.map D.str)) = some (.bl (decide (a ∈ xs))) := by unfold inD; rw [LO.str.inL (by decide)]; rfl
@[simp] theorem inD_strT {a : Str} {xs : List Str} : inD (.str a) (.tup (xs.map D.str)) = some (.bl (decide (a ∈ xs))) := by unfold inD; rw [LO.str.inT (by decide)]; rfl
@[simp] theorem ninD_str {a : Str} {xs : List Str} : ninD (.str a) (.lst (xs.map D.str)) = some (.bl (!decide (a ∈ xs))) := by unfold ninD; rw [LO.str.inL (by decide)]; rfl
@[simp] theorem inD_nat {a : Nat} {xs : List Nat} : inD (.int a) (.lst (xs.map fun n : Nat => D.int n)) = some (.bl (decide (a ∈ xs))) := by
  unfold inD; rw [show inB (.int (a : Int)) (.lst (xs.map fun n : Nat => D.int n)) = _ from LO.nat.inL (by decide) a xs]; rfl
@[simp] theorem inD_natT {a : Nat} {xs : List Nat} : inD (.int a) (.tup (xs.map fun n : Nat => D.int n)) = some (.bl (decide (a ∈ xs))) := by
  unfold inD; rw [show inB (.int (a : Int)) (.tup (xs.map fun n : Nat => D.int n)) = _ from LO.nat.inT (by decide) a xs]; rfl
@[simp] theorem ninD_nat {a : Nat} {xs : List Nat} : ninD (.int a) (.lst (xs.map fun n : Nat => D.int n)) = some (.bl (!decide (a ∈ xs))) := by
  unfold ninD; rw [show inB (.int (a : Int)) (.lst (xs.map fun n : Nat => D.int n)) = _ from LO.nat.inL (by decide) a xs]; rfl
@[simp] theorem ninD_natT {a : Nat} {xs : List Nat} : ninD (.int a) (.tup (xs.map fun n : Nat => D.int n)) = some (.bl (!decide (a ∈ xs))) := by
  unfold ninD; rw [show inB (.int (a : Int)) (.tup (xs.map fun n : Nat => D.int n)) = _ from LO.nat.inT (by decide) a xs]; rfl
theorem inD_nil {d : D} (h : okD d = true) : inD d (.lst []) = some (.bl false) := by
  have e : okD (.lst []) = true := by decide
  unfold inD inB
  simp [h, e, memD]
theorem okD_int (i : Int) : okD (.int i) = true := by simp [okD, DL.plain, dep]
theorem okD_str (x : Str) : okD (.str x) = true := by simp [okD, DL.plain, dep]
@[simp] theorem inD_nil_int {i : Int} : inD (.int i) (.lst []) = some (.bl false) := inD_nil (okD_int i)
@[simp] theorem inD_nil_str {i : Str} : inD (.str i) (.lst []) = some (.bl false) := inD_nil (okD_str i)
@[simp] theorem eqD_strs {xs ys : List Str} : eqD (.lst (xs.map D.str)) (.lst (ys.map D.str)) = some (.bl (decide (xs = ys))) := LO.str.list.eq (by decide) xs ys
@[simp] theorem neD_strs {xs ys : List Str} : neD (.lst (xs.map D.str)) (.lst (ys.map D.str)) = some (.bl (decide (xs ≠ ys))) := LO.str.list.ne (by decide) xs ys
@[simp] theorem eqD_nats {xs ys : List Nat} : eqD (.lst (xs.map fun n : Nat => D.int n)) (.lst (ys.map fun n : Nat => D.int n)) = some (.bl (decide (xs = ys))) := LO.nat.list.eq (by decide) xs ys
@[simp] theorem neD_nats {xs ys : List Nat} : neD (.lst (xs.map fun n : Nat => D.int n)) (.lst (ys.map fun n : Nat => D.int n)) = some (.bl (decide (xs ≠ ys))) := LO.nat.list.ne (by decide) xs ys
@[simp] theorem eqD_nats0 {xs : List Nat} : eqD (.lst (xs.map fun n : Nat => D.int n)) (.lst []) = some (.bl (decide (xs = []))) := LO.nat.list.eq (by decide) xs []
@[simp] theorem neD_nats0 {xs : List Nat} : neD (.lst (xs.map fun n : Nat => D.int n)) (.lst []) = some (.bl (decide (xs ≠ []))) := LO.nat.list.ne (by decide) xs []
@[simp] theorem allD_bls {α : Type} {p : α → Bool} {xs : List α} : allD [.lst (xs.map fun a => D.bl (p a))] = some (.bl (xs.all p)) := allD_map p xs
@[simp] theorem anyD_bls {α : Type} {p : α → Bool} {xs : List α} : anyD [.lst (xs.map fun a => D.bl (p a))] = some (.bl (xs.any p)) := anyD_map p xs
end DL
end
section
set_option autoImplicit false
namespace Lk
open PySem PySem.Spec L2 DL
variable {s : Strm} {P : D → Strm → Prop} {b : Int}
def stL (lot : List Nat) : Nat := match lot.getLast? with
  | none => 0
  | some x => x + 1
def lotN (N : Nat) (lot : List Nat) : List (List Nat) := (List.range (N - stL lot)).map fun k => lot ++ [stL lot + k]
def lotsG (N : Nat) : Nat → List (List Nat)
  | 0 => [[]]
  | i + 1 => (lotsG N i).flatMap (lotN N)
theorem lotN_len (N : Nat) (lot : List Nat) : (lotN N lot).length ≤ N := by simp [lotN]
theorem lots_len (N : Nat) : ∀ i, (lotsG N i).length ≤ N ^ i
  | 0 => by simp [lotsG]
  | i + 1 => by
    have h := lots_len N i
    have : ∀ F : List (List Nat), (F.flatMap (lotN N)).length ≤ F.length * N := fun F => by
      induction F with
      | nil => simp
      | cons x F ih => rw [List.flatMap_cons, List.length_append, List.length_cons, Nat.add_mul, Nat.one_mul]; have := lotN_len N x; omega
    show ((lotsG N i).flatMap (lotN N)).length ≤ _
    rw [Nat.pow_succ]
    exact Nat.le_trans (this _) (Nat.mul_le_mul_right _ h)
theorem lots_size (N : Nat) : ∀ i, ∀ lot ∈ lotsG N i, lot.length = i
  | 0, lot, h => by simp [lotsG] at h; subst h; rfl
  | i + 1, lot, h => by
    obtain ⟨l, h1, h2⟩ := List.mem_flatMap.mp h
    obtain ⟨k, _, rfl⟩ := List.mem_map.mp h2
    simp [lots_size N i l h1]
theorem lots_lt (N : Nat) : ∀ i, ∀ lot ∈ lotsG N i, ∀ x ∈ lot, x < N
  | 0, lot, h, x, hx => by simp [lotsG] at h; subst h; cases hx
  | i + 1, lot, h, x, hx => by
    obtain ⟨l, h1, h2⟩ := List.mem_flatMap.mp h
    obtain ⟨k, hk, rfl⟩ := List.mem_map.mp h2
    have hk := List.mem_range.mp hk
    rcases List.mem_append.mp hx with hx | hx
    · exact lots_lt N i l h1 x hx
    · rw [List.mem_singleton.mp hx]; omega
theorem stL_le {N : Nat} {lot : List Nat} (h : ∀ x ∈ lot, x < N) : stL lot ≤ N := by
  unfold stL
  cases q : lot.getLast? with
  | none => simp
  | some x => exact h x (List.mem_of_getLast? q)
/-- each ascending lot of its size -/
theorem lots_all (N : Nat) : ∀ lot : List Nat, lot.Pairwise (· < ·) → (∀ x ∈ lot, x < N) → lot ∈ lotsG N lot.length := by
  intro lot
  generalize hn : lot.length = n
  induction n generalizing lot with
  | zero => intro _ _; rw [List.eq_nil_of_length_eq_zero hn]; simp [lotsG]
  | succ n ih =>
    intro h1 h2
    obtain ⟨l, x, rfl⟩ : ∃ l x, lot = l ++ [x] := by
      rcases List.eq_nil_or_concat lot with rfl | ⟨l, x, rfl⟩
      · simp at hn
      · exact ⟨l, x, by simp⟩
    have hn' : l.length = n := by simpa using hn
    subst hn'
    replace ih := ih l rfl
    rw [List.pairwise_append] at h1
    have h3 := ih h1.1 fun y hy => h2 y (List.mem_append_left _ hy)
    refine List.mem_flatMap.mpr ⟨l, h3, List.mem_map.mpr ⟨x - stL l, ?_, ?_⟩⟩
    · have : stL l ≤ x := by
        unfold stL
        cases q : l.getLast? with
        | none => simp
        | some y => exact h1.2.2 y (List.mem_of_getLast? q) x (by simp)
      have := h2 x (by simp)
      rw [List.mem_range]; omega
    · have : stL l ≤ x := by
        unfold stL
        cases q : l.getLast? with
        | none => simp
        | some y => exact h1.2.2 y (List.mem_of_getLast? q) x (by simp)
      rw [show stL l + (x - stL l) = x by omega]
theorem m_lots {N k : Nat} (hN : N ≤ 20) (hk : k ≤ 3) (h : P (.lst ((lotsG N k).map eI)) s) : Sure (pr_lots [.int N, .int k]) s P := by
  have hpow : ∀ i, i ≤ 3 → (lotsG N i).length ≤ 8000 := fun i hi => by
    have h1 := lots_len N i
    have h2 : N ^ i ≤ 20 ^ i := Nat.pow_le_pow_left hN i
    have h3 : 20 ^ i ≤ 20 ^ 3 := Nat.pow_le_pow_right (by decide) hi
    omega
  refine su_fnA (by simp [DL.argsOk, frozen]) ?_
  simp [B_lots]
  refine ak (by omega) ?_
  simp
  refine su_forR (I := fun i ρ u => u = s ∧ ∃ o3 o4 o5, ρ = [some (.int N), some (.int k), some (.lst ((lotsG N i).map eI)), o3, o4, o5]) ⟨rfl, none, none, none, by simp [lotsG, eI]⟩ ?_ ?_
  · rintro i ρ u hi ⟨rfl, o3, o4, o5, rfl⟩
    have hF := hpow i (by omega)
    have hF2 := hpow (i + 1) (by omega)
    have hsz := lots_size N i
    have hlt := lots_lt N i
    have e0 : lotsG N (i + 1) = (lotsG N i).flatMap (lotN N) := rfl
    rw [e0] at hF2
    rw [e0]
    generalize lotsG N i = F at hF hF2 hsz hlt
    simp
    refine su_forM (f := eI) (I := fun j ρ v => v = u ∧ ∃ o5, ρ = [some (.int N), some (.int k), some (.lst (F.map eI)), some (.int i), some (.lst (((F.take j).flatMap (lotN N)).map eI)), o5]) ⟨rfl, o5, by simp⟩ ?_ ?_
    · rintro j lot ρ v hj ⟨rfl, o5, rfl⟩
      have hlen := hsz lot (List.mem_of_getElem? hj)
      have e1 : neD (eI lot) (.lst []) = some (.bl (decide (lot ≠ []))) := LO.nat.list.ne (by decide) lot []
      simp [e1]
      have hst : lot ≠ [] → ixD (eI lot) (.int (-1)) = some (.int ((stL lot : Int) - 1)) := fun hne => by
        rcases List.eq_nil_or_concat lot with rfl | ⟨l, x, rfl⟩
        · exact absurd rfl hne
        · simp [eI, stL, L2.atI_last]
      have hle := stL_le (hlt lot (List.mem_of_getElem? hj))
      have e2 : F.take (j + 1) = F.take j ++ [lot] := by rw [List.take_succ, hj]; rfl
      have e3 : ((F.take (j + 1)).flatMap (lotN N)) = ((F.take j).flatMap (lotN N)) ++ lotN N lot := by rw [e2, List.flatMap_append]; simp
      have e4 : ((F.take (j + 1)).flatMap (lotN N)).length ≤ 8000 := by
        have : F.flatMap (lotN N) = (F.take (j + 1)).flatMap (lotN N) ++ (F.drop (j + 1)).flatMap (lotN N) := by rw [← List.flatMap_append, List.take_append_drop]
        rw [this, List.length_append] at hF2
        omega
      rw [e3, List.length_append] at e4
      have hll : (lotN N lot).length = N - stL lot := by simp [lotN]
      rw [e3]
      generalize ((F.take j).flatMap (lotN N)) = G at e4
      by_cases hne : lot = []
      · subst hne
        (repeat (first | (refine ak ?_ ?_; focus (solve | omega | simp | (simp; omega))) | omega | simp))
        refine su_lcMap (f := fun k : Nat => D.int (k : Int)) (g := fun k => eI [k]) (fun c hc s => ?_) ?_
        · (repeat (first | (refine ak ?_ ?_; focus (solve | omega | simp | (simp; omega))) | omega | simp))
        · have : ((List.range N).map fun k => eI [k]) = (lotN N []).map eI := by simp [lotN, stL]
          rw [this]
          (repeat (first | (refine ak ?_ ?_; focus (solve | omega | simp | (simp; omega))) | omega | simp))
      · simp [hne, hst hne]
        (repeat (first | (refine ak ?_ ?_; focus (solve | omega | simp | (simp; omega))) | omega | simp))
        refine su_lcMap (f := fun k : Nat => D.int ((stL lot : Int) + k)) (g := fun k => eI (lot ++ [stL lot + k])) (fun c hc s => ?_) ?_
        · simp [eI]
          (repeat (first | (refine ak ?_ ?_; focus (solve | omega | simp | (simp; omega))) | omega | simp))
        · have : ((List.range (N - stL lot)).map fun k => eI (lot ++ [stL lot + k])) = (lotN N lot).map eI := by unfold lotN; rw [List.map_map]; rfl
          rw [this]
          (repeat (first | (refine ak ?_ ?_; focus (solve | omega | simp | (simp; omega))) | omega | simp))
    · rintro ρ v ⟨rfl, o5, rfl⟩
      rw [List.take_of_length_le (Nat.le_refl _)]
      simp
  · rintro ρ u ⟨rfl, o3, o4, o5, rfl⟩
    simp
    exact h
end Lk
end
section
set_option autoImplicit false
namespace Lk
open PySem PySem.Spec L2 DL
variable {s : Strm} {P : D → Strm → Prop} {b : Int}
/-- ascending towns -/
abbrev Asc (ts : List Str) : Prop := ts.Pairwise fun a b => ltS a b = true
theorem Asc.le {ts : List Str} (h : Asc ts) : ts.Pairwise fun a b => ltS b a = false := h.imp fun z => LO.str.asym z
theorem Asc.sort {ts : List Str} (h : Asc ts) : sortT ltS ts = ts := LO.str.sort_of h.le
theorem Asc.nd {ts : List Str} (h : Asc ts) : ts.Nodup := h.imp fun z => ltS_ne z
theorem Asc.of {ts : List Str} (h1 : ts.Pairwise fun a b => ltS b a = false) (h2 : ts.Nodup) : Asc ts := by
  have := h1.and h2
  exact this.imp fun {x y} z => by
    cases q : ltS x y with
    | true => rfl
    | false => exact absurd (LO.str.tri x y q z.1) z.2
theorem Pt.asc {ts : List Str} {p : List (List Str)} (h : Pt ts p) (ha : Asc ts) : ∀ xs ∈ p, Asc xs := fun xs hx => ha.sublist (h.pk.su xs hx)
theorem Pt.heads {ts : List Str} {p : List (List Str)} (h : Pt ts p) (ha : Asc ts) : Asc (p.map hd) := ha.sublist h.pk.hs
theorem m_is_parting {ts : List Str} {rs : List Rd} {p : List (List Str)} (ha : Asc ts) (h : Pt ts p) (hl : ts.length ≤ 900) (k : P (.bl true) s) : Sure (pr_is_parting [dL ts rs, eSS p]) s P := by
  have h1 := h.lp
  have h2 := h.lx
  have hfl : p.flatten.length = ts.length := h.pm.length_eq
  refine su_fnA (by simp [DL.argsOk]) ?_
  simp [B_is_parting]
  refine su_lcMap (f := eS) (g := fun _ => .bl true) (fun xs hx s => ?_) ?_
  · have : 0 < xs.length := List.length_pos_iff.mpr (h.pk.ne xs hx)
    simp
    omega
  · have e1 : allD [.lst (p.map fun _ => D.bl true)] = some (.bl true) := by
      rw [allD_map (fun _ => true) p]
      simp
    (repeat (first | (refine ak ?_ ?_; focus (solve | omega | simp | (simp; omega))) | omega | simp))
    refine su_forM (f := eS) (I := fun i ρ u => u = s ∧ ∃ us o2 o4, us = (p.take i).flatten ∧ ρ = [some (dL ts rs), some (eSS p), o2, some (.lst (tS us)), o4]) ⟨rfl, [], none, none, rfl, rfl⟩ ?_ ?_
    · rintro i xs ρ u hx ⟨rfl, us, o2, o4, eus, rfl⟩
      have hm := List.mem_of_getElem? hx
      have e2 : p.take (i + 1) = p.take i ++ [xs] := by rw [List.take_succ, hx]; rfl
      have hle : us.length + xs.length ≤ ts.length := by
        rw [← hfl, eus]
        conv => rhs; rw [← List.take_append_drop (i + 1) p, List.flatten_append, List.length_append, e2, List.flatten_append, List.length_append]
        simp
      have h3 := h2 xs hm
      (repeat (first | (refine ak ?_ ?_; focus (solve | omega | simp | (simp; omega))) | omega | simp))
      refine su_lcMap (f := D.str) (g := D.str) (fun t ht s => by simp) ?_
      (repeat (first | (refine ak ?_ ?_; focus (solve | omega | simp | (simp; omega))) | omega | simp))
      rw [(h.asc ha xs hm).sort]
      simp
      rw [← List.map_take, e2, eus]; simp [List.map_flatten]
    · rintro ρ u ⟨rfl, us, o2, o4, eus, rfl⟩
      rw [List.take_of_length_le (Nat.le_refl _)] at eus
      have e5 : sortT ltS us = ts := by rw [eus, LO.str.sort_perm h.pm, ha.sort]
      have e8 : us.length = ts.length := by rw [eus, hfl]
      (repeat (first | (refine ak ?_ ?_; focus (solve | omega | simp | (simp; omega))) | omega | simp))
      rw [e5]
      simp
      have e6 : ∀ xs ∈ p, atI (tS xs) 0 = some (.str (hd xs)) := fun xs hx => by
        have := h.pk.ne xs hx
        cases xs with
        | nil => exact absurd rfl this
        | cons x xs => simp [hd]
      refine su_lcMap (f := eS) (g := fun xs => .str (hd xs)) (fun xs hx s => ?_) ?_
      · simp [e6 xs hx]
      · obtain ⟨hs, ehs⟩ : ∃ hs, hs = p.map hd := ⟨_, rfl⟩
        have e7 : (p.map fun xs => D.str (hd xs)) = tS hs := by rw [ehs]; simp
        have e9 : hs.length ≤ 900 := by rw [ehs]; simp; omega
        have e10 := (h.heads ha).sort
        rw [← ehs] at e10
        (repeat (first | (refine ak ?_ ?_; focus (solve | omega | simp | (simp; omega))) | omega | simp))
        refine su_lcMap (f := eS) (g := fun xs => .str (hd xs)) (fun xs hx s => ?_) ?_
        · simp [e6 xs hx]
        · rw [e7]
          (repeat (first | (refine ak ?_ ?_; focus (solve | omega | simp | (simp; omega))) | omega | simp))
          rw [e10]
          simpa using k
/-- how many of its roads a lot leaves a parting -/
def leftN (p : List (List Str)) (rs : List Rd) (lot : List Nat) : Nat := ((crsP p rs).filter fun i => !decide (i ∈ lot)).length
theorem Pt.nd {ts : List Str} {p : List (List Str)} (h : Pt ts p) (ha : Asc ts) : p.flatten.Nodup := h.pm.nodup_iff.mpr ha.nd
theorem m_crossing_pt {ts : List Str} {rs : List Rd} {p : List (List Str)} {d : D} (ok : LOk ts rs) (ha : Asc ts) (h : Pt ts p) (hd : IsSq d (p.map eS)) (k : P (eI (crsP p rs)) s) : Sure (pr_crossing [dL ts rs, d]) s P := by
  have hnd := h.nd ha
  have hlf : (flP p).length ≤ 1000 := by
    have e := congrArg List.length (flP_keys p)
    rw [List.length_map] at e
    rw [e, h.pm.length_eq]; exact ok.lt
  refine m_crossing hd ok.lr hlf (nodup_in hnd) (fun r hr => ?_) k
  obtain ⟨h1, h2, _⟩ := ok.rd r hr
  exact ⟨pos_of hnd (h.pm.mem_iff.mpr h1), pos_of hnd (h.pm.mem_iff.mpr h2)⟩
theorem m_is_split {ts : List Str} {rs : List Rd} {p : List (List Str)} {lot : List Nat} (ok : LOk ts rs) (ha : Asc ts) (hl : ts.length ≤ 900) (h : Pt ts p) (k : P (.bl (decide ((leftN p rs lot : Int) < 2 * ((p.length : Int) - 1)))) s) : Sure (pr_is_split [dL ts rs, .tup [.lst [], eI lot], eSS p]) s P := by
  have h1 := h.lp
  have hc := crs_len p rs
  have hr := ok.lr
  refine su_fnA (by simp [DL.argsOk]) ?_
  simp [B_is_split]
  refine m_is_parting ha h hl ?_
  simp
  refine m_crossing_pt ok ha h (.inl rfl) ?_
  simp
  generalize hC : crsP p rs = C at hc
  refine su_lcMap (f := fun i : Nat => D.int i) (g := fun _ => .bl false) (fun i hi s => ?_) ?_
  · simp
  · have e1 : allD [.lst (C.map fun _ => D.bl false)] = allD [.lst (C.map fun _ => D.bl false)] := rfl
    (repeat (first | (refine ak ?_ ?_; focus (solve | omega | simp | (simp; omega))) | omega | simp))
    refine su_lcFil (f := fun i : Nat => D.int i) (p := fun i => !decide (i ∈ lot)) (g := fun i : Nat => D.int i) (fun i hi s => ?_) ?_
    · simp
      by_cases z : i ∈ lot <;> simp [z]
    · unfold leftN at k
      rw [hC] at k
      (repeat (first | (refine ak ?_ ?_; focus (solve | omega | simp | (simp; omega))) | omega | simp))
theorem Pt.sorted {ts : List Str} {p : List (List Str)} (h : Pt ts p) (ha : Asc ts) : sortT (ltL ltS) p = p := by
  refine LO.str.list.sort_of ?_
  have h1 : p.Pairwise fun a b => ltS (hd a) (hd b) = true := List.pairwise_map.mp (h.heads ha)
  refine h1.imp_of_mem fun {a b} ma mb z => ?_
  have na := h.pk.ne a ma
  have nb := h.pk.ne b mb
  cases a with
  | nil => exact absurd rfl na
  | cons x xs =>
    cases b with
    | nil => exact absurd rfl nb
    | cons y ys =>
      have z : ltS x y = true := z
      unfold ltL
      rw [if_neg fun e => ltS_ne z e.symm]
      exact LO.str.asym z
def splitB (rs : List Rd) (lot : List Nat) (p : List (List Str)) : Bool := decide ((leftN p rs lot : Int) < 2 * ((p.length : Int) - 1))
def bearsB (ts : List Str) (rs : List Rd) (k : Nat) : Bool := !((lotsG rs.length k).any fun lot => (manyP ts).any fun p => splitB rs lot p)
theorem m_bears {ts : List Str} {rs : List Rd} {k : Nat} (ok : LOk ts rs) (ha : Asc ts) (ht : ts.length ≤ 900) (hl : (partsG ts [[]]).length ≤ 1000000) (hN : rs.length ≤ 20) (hk : k ≤ 3) (h : P (.bl (bearsB ts rs k)) s) : Sure (pr_bears [dL ts rs, .int k]) s P := by
  refine su_fnA (by simp [DL.argsOk]) ?_
  simp [B_bears]
  refine m_partings (.inl rfl) ht hl ?_
  simp
  refine su_lcFil (f := eSS) (p := fun p => decide (1 < p.length)) (g := eSS) (fun p hp s => ?_) ?_
  · simp
    by_cases z : 1 < p.length
    · have hm : p ∈ manyP ts := List.mem_filter.mpr ⟨hp, decide_eq_true z⟩
      obtain ⟨pt, _⟩ := many_pt p hm
      have h1 := pt.lp
      have e : sortedD [.lst (p.map eS)] = some (.lst ((sortT (ltL ltS) p).map eS)) := LO.str.list.sortedL (by decide) (by show _ ≤ 16777216; omega)
      rw [pt.sorted ha] at e
      have z' : (1 : Int) < p.length := by omega
      simp [z, z', e]
    · have z' : ¬ (1 : Int) < p.length := by omega
      simp [z, z']
  · have hM : (manyP ts).length ≤ 1000000 := Nat.le_trans (List.length_filter_le _ _) hl
    show andK _ _
    refine ak (by simp; omega) ?_
    show Sure _ _ _
    change P (.bl (!((lotsG rs.length k).any fun lot => (manyP ts).any fun p => splitB rs lot p))) s at h
    have hpm := many_pt (ts := ts)
    change Sure _ _ _
    have eM : ((partsG ts [[]]).filter fun p => decide (1 < p.length)) = manyP ts := rfl
    rw [eM]
    generalize manyP ts = M at *
    simp
    refine m_lots hN hk ?_
    simp
    generalize lotsG rs.length k = L at *
    refine su_forM (f := eI) (I := fun i ρ u => u = s ∧ (L.take i).any (fun lot => M.any fun p => splitB rs lot p) = false ∧ ∃ o3 o4, ρ = [some (dL ts rs), some (.int k), some (.lst (M.map eSS)), o3, o4]) ⟨rfl, by simp, none, none, rfl⟩ ?_ ?_
    · rintro i lot ρ u hx ⟨rfl, hI, o3, o4, rfl⟩
      have e2 : L.take (i + 1) = L.take i ++ [lot] := by rw [List.take_succ, hx]; rfl
      simp
      refine su_lcMap (f := eSS) (g := fun p => .bl (splitB rs lot p)) (fun p hp s => ?_) ?_
      · simp
        refine m_is_split ok ha ht (hpm p hp).1 ?_
        simp [splitB]
      · (repeat (first | (refine ak ?_ ?_; focus (solve | omega | simp | (simp; omega))) | omega | simp))
        cases q : M.any fun p => splitB rs lot p with
        | false =>
          simp [q]
          intro x hx2 p hp
          rw [e2] at hx2
          rcases List.mem_append.mp hx2 with hx2 | hx2
          · have h1 := List.any_eq_false.mp hI x hx2
            have h1 : (M.any fun p => splitB rs x p) = false := by simpa using h1
            simpa using List.any_eq_false.mp h1 p hp
          · rw [List.mem_singleton.mp hx2]
            simpa using List.any_eq_false.mp q p hp
        | true =>
          have hL : (L.any fun lot => M.any fun p => splitB rs lot p) = true := List.any_eq_true.mpr ⟨lot, List.mem_of_getElem? hx, q⟩
          rw [hL] at h
          simp [q]
          exact h
    · rintro ρ u ⟨rfl, hI, o3, o4, rfl⟩
      rw [List.take_of_length_le (Nat.le_refl _)] at hI
      rw [hI] at h
      simp
      exact h
end Lk
end
section
set_option autoImplicit false
namespace Lk
open PySem PySem.Spec L2 DL
variable {s : Strm} {P : D → Strm → Prop} {b : Int}
theorem map_nrm {ts : List Str} {rs : List Rd} (h : ROk ts rs) : rs.map nrm = rs := by
  have : ∀ r ∈ rs, nrm r = r := fun r hr => nrm_of (h.rd r hr).2.2
  clear h
  induction rs with
  | nil => rfl
  | cons r rs ih => rw [List.map_cons, this r List.mem_cons_self, ih fun q hq => this q (List.mem_cons_of_mem _ hq)]
theorem DLand.hT {T R : Int} {ts : List Str} {rs : List Rd} (h : DLand T R ts rs) : stT ts = ts := LO.str.sort_of h.st
theorem DLand.hR {T R : Int} {ts : List Str} {rs : List Rd} (h : DLand T R ts rs) : stR rs = rs := by
  unfold stR
  rw [map_nrm h.rd]
  exact LO.road.sort_of h.sr
theorem DLand.app {T R R2 : Int} {ts : List Str} {rs : List Rd} {r : Rd} (h : DLand T R ts rs) (h1 : r.1 ∈ ts) (h2 : r.2 ∈ ts) (h3 : r.1 ≠ r.2) (hR2 : R + 1 ≤ R2) : DLand T R2 ts (stR (rs ++ [r])) := by
  have e : (rs ++ [r]).map nrm = rs ++ [nrm r] := by rw [List.map_append, map_nrm h.rd]; rfl
  refine ⟨h.t2, h.tT, h.nd, h.st, h.nm, ?_, ?_, LO.road.sorted _⟩
  · unfold Lk.stR
    rw [e]
    exact (h.rd.app h1 h2 h3).perm (sortT_perm _ _)
  · unfold Lk.stR
    rw [sortT_len, List.length_map, List.length_append]
    have := h.rR
    simp; omega
end Lk
end
section
set_option autoImplicit false
namespace Lk
open PySem PySem.Spec L2 DL
variable {s : Strm} {P : D → Strm → Prop} {b : Int}
/-- a drawn land, or one of a single town: ascending, fit for the package -/
structure ALand (T R : Int) (ts : List Str) (rs : List Rd) : Prop where
  ok : LOk ts rs
  as : Asc ts
  tT : (ts.length : Int) ≤ T
  rd : ROk ts rs
  rR : (rs.length : Int) ≤ R
  sr : rs.Pairwise fun a b => ltR b a = false
  nm : ∀ t ∈ ts, Nm5 t
theorem DLand.al {T R : Int} {ts : List Str} {rs : List Rd} (h : DLand T R ts rs) (hT : T ≤ 900) (hR : R ≤ 900) : ALand T R ts rs :=
  ⟨(h.lw hT hR).ok, .of h.st h.nd, h.tT, h.rd, h.rR, h.sr, h.nm⟩
theorem ALand.hT {T R : Int} {ts : List Str} {rs : List Rd} (h : ALand T R ts rs) : stT ts = ts := h.as.sort
theorem ALand.hR {T R : Int} {ts : List Str} {rs : List Rd} (h : ALand T R ts rs) : stR rs = rs := by
  unfold stR
  rw [map_nrm h.rd]
  exact LO.road.sort_of h.sr
theorem nm5B {x : Str} (h : (decide (0 < x.length) && decide (x.length ≤ 5) && x.cps.toList.all fun c => decide (97 ≤ c) && decide (c ≤ 122)) = true) : Nm5 x := by
  simp only [Bool.and_eq_true, decide_eq_true_eq, List.all_eq_true] at h
  exact ⟨h.1.1, h.1.2, h.2⟩
theorem single_al {T R : Int} {t : Str} (h : Nm5 t) (hT : 1 ≤ T) (hR : 0 ≤ R) : ALand T R [t] [] :=
  ⟨⟨by simp, by simp, fun u hu => by simp at hu; subst hu; exact h.nm, (fun r h => by cases h), by simp, by simp⟩, by simp [Asc], by simpa using hT, .nil, by simpa using hR, .nil, fun u hu => by simp at hu; subst hu; exact h⟩
theorem m_any_land {T R : Int} (h : Ad b s) (hb : b + 2000000000000000000010 ≤ LIM) (hT : 2 ≤ T) (hT2 : T ≤ 30) (hR : 0 ≤ R) (hR2 : R ≤ 800) (k : ∀ ts rs s', ALand T R ts rs → Ad (b + 2000000000000000000010) s' → P (dL ts rs) s') : Sure (pr_any_land [.stm, .int T, .int R]) s P := by
  refine su_fnA (by simp [DL.argsOk]) ?_
  simp [B_any_land]
  refine su_draw h (by omega) (by omega) (by omega) fun i s1 hi0 hi1 h1 => ?_
  simp
  refine iq (fun _ => ?_) fun _ => ?_
  · simp
    refine m_pick h1 (by omega) (.inl rfl) (by simp) (by simp) fun x hx s2 h2 => ?_
    have hx' : ∃ t : Str, x = .str t ∧ Nm5 t := by
      simp at hx
      rcases hx with rfl | rfl
      · exact ⟨_, rfl, nm5B (by decide +kernel)⟩
      · exact ⟨_, rfl, nm5B (by decide +kernel)⟩
    obtain ⟨t, rfl, ht⟩ := hx'
    simp
    exact k [t] [] s2 (single_al ht (by omega) hR) (h2.mono (by omega))
  · simp
    refine m_land h1 (by omega) hT hT2 hR (by omega) fun ts rs s2 dl h2 => ?_
    exact k ts rs s2 (dl.al (by omega) (by omega)) (h2.mono (by omega))
theorem m_thick (h : Ad b s) (hb : b + 2000000000000000001000 ≤ LIM) (k : ∀ ts rs s', ALand 8 22 ts rs → Ad (b + 2000000000000000001000) s' → P (dL ts rs) s') : Sure (pr_thick [.stm]) s P := by
  refine su_fnA (by simp [DL.argsOk]) ?_
  simp [B_thick]
  refine m_pick h (by omega) (.inl rfl) (by simp) (by simp) fun x hx s1 h1 => ?_
  have hx' : ∃ m : Int, x = .int m ∧ 2 ≤ m ∧ m ≤ 8 := by
    simp at hx
    rcases hx with rfl | rfl <;> exact ⟨_, rfl, by decide, by decide⟩
  obtain ⟨m, rfl, hm0, hm8⟩ := hx'
  simp
  refine m_any_land h1 (by omega) hm0 (by omega) (by decide) (by decide) fun ts rs s2 al h2 => ?_
  have hr := al.rR
  simp
  have key : ∀ (c : Int) s3, c ≤ 8 → (0 < c → rs ≠ []) → Ad (b + 2000000000000000000100) s3 → Sure (forD (bindM (gNm 3) (sApp 2 (fFn pr_pick (aCons (fVar 0) (aCons (fOp ixD (fVar 1) (fC (.int 1))) aNil))))) ((List.range c.toNat).map fun (i : Nat) => D.int (i : Int)) [some .stm, some (dL ts rs), some (.lst (rs.map eR)), none]) s3 (seqK (sRet (fTup (aCons (fOp ixD (fVar 1) (fC (.int 0))) (aCons (fCall sortedD (aCons (fVar 2) aNil)) aNil)))) (outP P)) := by
    intro c s3 hc hne h3
    refine su_forR (m := c.toNat) (f := fun i : Nat => D.int i) (I := fun i ρ u => ∃ qs o3, ROk ts qs ∧ qs.length = rs.length + i ∧ Ad (b + 2000000000000000000100 + i) u ∧ ρ = [some .stm, some (dL ts rs), some (.lst (qs.map eR)), o3]) ⟨rs, none, al.rd, by simp, by simpa using h3, rfl⟩ ?_ ?_
    · rintro i ρ u hi ⟨qs, o3, hq, hl, h4, rfl⟩
      have hrs := hne (by omega)
      simp
      refine m_pick h4 (by omega) (.inl rfl) (by simpa using hrs) (by simp; omega) fun x hx s4 h5 => ?_
      obtain ⟨r, hrm, rfl⟩ := List.mem_map.mp hx
      (repeat (first | (refine ak ?_ ?_; focus (solve | omega | simp | (simp; omega))) | omega | simp))
      refine ⟨qs ++ [r], ⟨fun q hq' => ?_⟩, by simp [hl]; omega, h5.mono (by omega), by simp⟩
      rcases List.mem_append.mp hq' with hq' | hq'
      · exact hq.rd q hq'
      · rw [List.mem_singleton.mp hq']; exact al.rd.rd r hrm
    · rintro ρ u ⟨qs, o3, hq, hl, h4, rfl⟩
      have hl2 : qs.length ≤ sizeLine := by simp; omega
      simp [LO.road.sortedL (k := 1) (by decide) hl2]
      have hp := sortT_perm ltR qs
      have ok := al.ok
      refine k ts (sortT ltR qs) u ⟨⟨ok.ne, ok.nd, ok.nm, fun r hr => ?_, ok.lt, ?_⟩, al.as, by have := al.tT; omega, hq.perm hp, ?_, LO.road.sorted _, al.nm⟩ (h4.mono (by omega))
      · obtain ⟨z1, z2, z3⟩ := hq.rd r (hp.mem_iff.mp hr)
        exact ⟨z1, z2, ltS_ne z3⟩
      · rw [sortT_len]; omega
      · rw [sortT_len]; omega
  have e : neD (.lst (rs.map eR)) (.lst []) = some (.bl (decide (rs ≠ []))) := LO.road.list.ne (by decide) rs []
  refine DL.ok e ?_
  by_cases hrs : rs = []
  · have := key 0 s2 (by omega) (by omega) (h2.mono (by omega))
    simp [hrs] at this ⊢
    exact this
  · simp [hrs]
    refine m_pick h2 (by omega) (.inl rfl) (by simp) (by simp) fun x hx s3 h3 => ?_
    have hx' : ∃ m : Int, x = .int m ∧ 0 < m ∧ m ≤ 9 := by
      simp at hx
      rcases hx with rfl | rfl <;> exact ⟨_, rfl, by decide, by decide⟩
    obtain ⟨c, rfl, hc0, hc9⟩ := hx'
    simp
    refine su_draw h3 (by omega) hc0 (by omega) fun j s4 hj0 hj1 h4 => ?_
    have := key j s4 (by omega) (fun _ => hrs) (h4.mono (by omega))
    (repeat (first | (refine ak ?_ ?_; focus (solve | omega | simp | (simp; omega))) | omega | simp))
end Lk
end
section
set_option autoImplicit false
namespace Lk
open PySem PySem.Spec L2 DL
variable {s : Strm} {P : D → Strm → Prop} {b : Int}
def facN : Nat → Nat
  | 0 => 1
  | n + 1 => facN n * (n + 1)
theorem partsG_fac (ts : List Str) : ∀ i, i ≤ ts.length → (partsG (ts.take i) [[]]).length ≤ facN i
  | 0, _ => by simp [partsG, facN]
  | i + 1, hi => by
    have h1 := partsG_fac ts i (by omega)
    have h2 := partsG_bd ts i (by omega)
    rw [List.take_succ, List.getElem?_eq_getElem (by omega), Option.toList_some, partsG_snoc]
    have : ∀ F : List (List (List Str)), (∀ p ∈ F, p.length ≤ i) → (F.flatMap fun p => grown p ts[i]).length ≤ F.length * (i + 1) := fun F => by
      induction F with
      | nil => intro _; simp
      | cons x F ih =>
        intro hF
        rw [List.flatMap_cons, List.length_append, List.length_cons, Nat.add_mul, Nat.one_mul, grown_len]
        have := ih fun p hp => hF p (List.mem_cons_of_mem _ hp)
        have := hF x List.mem_cons_self
        omega
    refine Nat.le_trans (this _ fun p hp => (h2 p hp).1) ?_
    exact Nat.mul_le_mul_right _ h1
theorem partsG_8 {ts : List Str} (h : ts.length ≤ 8) : (partsG ts [[]]).length ≤ 1000000 := by
  have h1 := partsG_fac ts ts.length (Nat.le_refl _)
  rw [List.take_of_length_le (Nat.le_refl _)] at h1
  have : ∀ n, n ≤ 8 → facN n ≤ 1000000 := by decide
  have := this _ h
  omega
theorem zip_pw (rs : List Rd) : ∀ k, (rs.zipIdx k).Pairwise fun a b => a.2 < b.2 := by
  induction rs with
  | nil => intro k; exact .nil
  | cons r rs ih =>
    intro k
    rw [List.zipIdx_cons]
    refine .cons (fun q hq => ?_) (ih _)
    have := (List.mem_zipIdx (x := q.1) (i := q.2) hq).1
    show k < q.2
    omega
theorem crs_asc (p : List (List Str)) (rs : List Rd) : (crsP p rs).Pairwise (· < ·) := by
  unfold crsP
  refine List.pairwise_map.mpr ?_
  exact (zip_pw rs 0).filter _
theorem crs_lt (p : List (List Str)) (rs : List Rd) : ∀ i ∈ crsP p rs, i < rs.length := fun i hi => by
  unfold crsP at hi
  obtain ⟨q, hq, rfl⟩ := List.mem_map.mp hi
  have := List.mem_zipIdx (x := q.1) (i := q.2) (List.mem_filter.mp hq).1
  omega
theorem sub_len {α : Type} [DecidableEq α] : ∀ {xs ys : List α}, xs.Nodup → (∀ x ∈ xs, x ∈ ys) → xs.length ≤ ys.length
  | [], ys, _, _ => Nat.zero_le _
  | x :: xs, ys, hn, hs => by
    have h1 := List.nodup_cons.mp hn
    have h2 : xs.length ≤ (ys.erase x).length := sub_len h1.2 fun y hy => (List.mem_erase_of_ne (a := y) (b := x) (fun e => h1.1 (by rw [← e]; exact hy))).mpr (hs y (List.mem_cons_of_mem _ hy))
    have h3 := hs x List.mem_cons_self
    rw [List.length_erase_of_mem h3] at h2
    have := List.length_pos_of_mem h3
    rw [List.length_cons]; omega
theorem filter_two {α : Type} (p : α → Bool) (xs : List α) : xs.length = (xs.filter p).length + (xs.filter fun x => !p x).length := by
  induction xs with
  | nil => rfl
  | cons x xs ih => cases q : p x <;> simp [q] <;> omega
theorem left_ge (p : List (List Str)) (rs : List Rd) (lot : List Nat) : (crsP p rs).length ≤ leftN p rs lot + lot.length := by
  have h1 := filter_two (fun i => decide (i ∈ lot)) (crsP p rs)
  have h2 : ((crsP p rs).filter fun i => decide (i ∈ lot)).length ≤ lot.length := by
    refine sub_len (List.Nodup.sublist List.filter_sublist ?_) fun x hx => by simpa using (List.mem_filter.mp hx).2
    exact (crs_asc p rs).imp fun h => Nat.ne_of_lt h
  unfold leftN
  omega
theorem left_take (p : List (List Str)) (rs : List Rd) (k : Nat) : leftN p rs ((crsP p rs).take k) ≤ (crsP p rs).length - k := by
  unfold leftN
  have e : ((crsP p rs).filter fun i => !decide (i ∈ (crsP p rs).take k)) = (((crsP p rs).drop k).filter fun i => !decide (i ∈ (crsP p rs).take k)) := by
    conv => lhs; arg 2; rw [← List.take_append_drop k (crsP p rs)]
    rw [List.filter_append]
    have : ((crsP p rs).take k).filter (fun i => !decide (i ∈ (crsP p rs).take k)) = [] := by
      rw [List.filter_eq_nil_iff]
      intro a ha
      simp [ha]
    rw [this, List.nil_append]
  rw [e]
  refine Nat.le_trans (List.length_filter_le _ _) ?_
  rw [List.length_drop]; exact Nat.le_refl _
theorem bears_yes {ts : List Str} {rs : List Rd} {k : Nat} (h : ∀ q ∈ manyP ts, (k : Int) ≤ spareP q rs) : bearsB ts rs k = true := by
  unfold bearsB
  rw [Bool.not_eq_true', List.any_eq_false]
  intro lot hl hb
  obtain ⟨p, hp, hs⟩ := List.any_eq_true.mp hb
  have h1 := h p hp
  have h2 := left_ge p rs lot
  have h3 := lots_size _ _ lot hl
  have h4 : (leftN p rs lot : Int) < 2 * ((p.length : Int) - 1) := of_decide_eq_true hs
  unfold spareP at h1
  omega
theorem bears_no {ts : List Str} {rs : List Rd} {k : Nat} {p : List (List Str)} (hp : p ∈ manyP ts) (h : spareP p rs = k) : bearsB ts rs (k + 1) = false := by
  have h1 : 1 < p.length := of_decide_eq_true (List.mem_filter.mp hp).2
  unfold spareP at h
  have hlen : ((crsP p rs).take (k + 1)).length = k + 1 := by rw [List.length_take]; omega
  have hm := lots_all rs.length ((crsP p rs).take (k + 1)) ((crs_asc p rs).sublist (List.take_sublist _ _)) fun x hx => crs_lt p rs x (List.mem_of_mem_take hx)
  rw [hlen] at hm
  have h2 := left_take p rs (k + 1)
  have h3 : splitB rs ((crsP p rs).take (k + 1)) p = true := decide_eq_true (by omega)
  unfold bearsB
  rw [List.any_eq_true.mpr ⟨_, hm, List.any_eq_true.mpr ⟨p, hp, h3⟩⟩]
  rfl
end Lk
end
section
set_option autoImplicit false
namespace Lk
open PySem PySem.Spec L2 DL
variable {s : Strm} {P : D → Strm → Prop} {b : Int}
theorem flat_eSS (p : List (List Str)) : flatN 2 (eSS p) = true := by
  have : ∀ p : List (List Str), flatL 1 (p.map eS) = true := fun p => by
    induction p with
    | nil => rfl
    | cons x p ih => rw [List.map_cons, flatL, ih, Bool.and_true]; exact flatL_tS 0 x
  exact this p
theorem sz_eSS (p : List (List Str)) : szD (eSS p) = p.length + p.flatten.length + 1 := by
  have : ∀ p : List (List Str), szDL (p.map eS) = p.length + p.flatten.length := fun p => by
    induction p with
    | nil => rfl
    | cons x p ih =>
      rw [List.map_cons, szDL, ih, List.length_cons, List.flatten_cons, List.length_append]
      show szDL (tS x) + 1 + _ = _
      rw [szDL_tS]; omega
  show szDL (p.map eS) + 1 = _
  rw [this]
theorem m_right_k13 {ts : List Str} {rs : List Rd} (al : ALand 8 22 ts rs) (h : Ad b s) (hb : b + 2000010 ≤ LIM) (k : ∀ s', Ad (b + 2000010) s' → P (.bl true) s') : Sure (pr_right_k13 [.stm, dL ts rs]) s P := by
  have l1 := al.tT
  have l2 := al.rR
  have ok := al.ok
  have hP := partsG_8 (ts := ts) (by omega)
  refine su_fnA (by simp [DL.argsOk]) ?_
  simp [B_right_k13]
  refine m_made ok h (by omega) fun s1 h1 => ?_
  rw [al.hT, al.hR]
  simp
  refine m_partings (.inl rfl) (by omega) hP ?_
  simp
  refine su_lcFil (f := eSS) (p := fun p => decide (1 < p.length)) (g := fun p => .int (spareP p rs)) (fun p hp s => ?_) ?_
  · simp
    by_cases z : 1 < p.length
    · have hm : p ∈ manyP ts := List.mem_filter.mpr ⟨hp, decide_eq_true z⟩
      obtain ⟨pt, _⟩ := many_pt p hm
      have h1 := pt.lp
      have z' : (1 : Int) < p.length := by omega
      simp [z, z']
      refine m_spare ok pt.pm (by omega) ?_
      simp [z]
    · have z' : ¬ (1 : Int) < p.length := by omega
      simp [z, z']
  · rw [show ((partsG ts [[]]).filter fun p => decide (1 < p.length)) = manyP ts from rfl]
    have hM : (manyP ts).length ≤ 1000000 := Nat.le_trans (List.length_filter_le _ _) hP
    refine ak (by simp; omega) ?_
    have h1' := h1
    have hpm := many_pt (ts := ts)
    by_cases hne : manyP ts = []
    · have hn : nightsP (leastP rs (manyP ts)) = .non := by rw [hne]; rfl
      have hw : worstP (leastP rs (manyP ts)) = .non := by rw [hne]; rfl
      have e : neD (.lst ((manyP ts).map fun p => .int (spareP p rs))) (.lst []) = some (.bl false) := by rw [hne]; rfl
      simp [e]
      refine m_nights ok (by omega) hP ?_
      rw [hn]
      simp [byName, List.lookup]
      refine m_nights ok (by omega) hP ?_
      rw [hn]
      simp
      refine same_of (n := 1) (by simp [flatN, flatL, atm]) (by decide) (by simp [szD, szDL]) ?_
      simp
      refine m_worst_nights ok (by omega) hP ?_
      rw [hw]
      simp
      exact k s1 (h1.mono (by omega))
    · obtain ⟨m, hm1, hm2, hm3⟩ := minD_ints (zs := (manyP ts).map fun p => spareP p rs) (by simpa using hne)
      obtain ⟨p, hp1, hp2, hp3⟩ := least_spec rs hne
      have hm : m = spareP p rs := by
        obtain ⟨q, hq, e⟩ := List.mem_map.mp hm2
        have h1 := hm3 _ (List.mem_map_of_mem hp2)
        have h2 := hp3 q hq
        omega
      rw [List.map_map] at hm1
      have hm1 : minD [.lst ((manyP ts).map fun p => .int (spareP p rs))] = some (.int m) := hm1
      have e : neD (.lst ((manyP ts).map fun p => .int (spareP p rs))) (.lst []) = some (.bl true) := by
        have := LO.int.list.ne (by decide) ((manyP ts).map fun p => spareP p rs) []
        simp only [eL, List.map_map] at this
        refine this.trans ?_
        simp [hne]
      by_cases h0 : 0 ≤ m
      · have hn : nightsP (leastP rs (manyP ts)) = .int m := by rw [hp1, ← hm]; exact if_pos h0
        have hw : worstP (leastP rs (manyP ts)) = eSS p := by rw [hp1, ← hm]; exact if_pos h0
        obtain ⟨c, hc⟩ := Int.eq_ofNat_of_zero_le h0
        obtain ⟨pt, hp4⟩ := hpm p hp2
        have hp5 := pt.lp
        have hfl : p.flatten.length = ts.length := pt.pm.length_eq
        simp [e, hm1, h0]
        refine m_nights ok (by omega) hP ?_
        rw [hn]
        simp [byName, List.lookup]
        refine m_nights ok (by omega) hP ?_
        rw [hn]
        simp
        refine same_of (n := 1) (by simp [flatN, flatL, atm]) (by decide) (by simp [szD, szDL]) ?_
        simp
        refine m_worst_nights ok (by omega) hP ?_
        rw [hw]
        simp
        refine ifB ?_ fun c1 hB => ?_
        · simp
          refine m_is_parting al.as pt (by omega) ?_
          have hp6 : ¬ (p.length : Int) < 2 := by omega
          simp [hp6]
          refine m_spare ok pt.pm (by omega) ?_
          rw [← hm]
          simp
          refine m_copied 3 (flatN_le (by decide) (flat_eSS p)) (by rw [sz_eSS]; omega) ?_
          simp
          refine ak (by omega) ?_
          have f1 : flatN 3 (.lst (p.map eS ++ [eSS p])) = true := by
            have : ∀ xs : List D, flatL 2 xs = true → flatL 2 (xs ++ [eSS p]) = true := fun xs => by
              induction xs with
              | nil => intro _; show (flatN 2 (eSS p) && true) = true; rw [flat_eSS]; rfl
              | cons x xs ih =>
                intro hx
                rw [flatL, Bool.and_eq_true] at hx
                rw [List.cons_append, flatL, hx.1, ih hx.2]; rfl
            have h2 : flatN 3 (eSS p) = true := flatN_le (by decide) (flat_eSS p)
            exact this _ h2
          have f2 := flatN_sp 3 _ f1
          have f3 : szD (.lst (p.map eS ++ [eSS p])) ≤ 100 := by
            have : ∀ xs ys : List D, szDL (xs ++ ys) = szDL xs + szDL ys := fun xs ys => by
              induction xs with
              | nil => simp [szDL]
              | cons x xs ih => rw [List.cons_append, szDL, szDL, ih]; omega
            have h3 := sz_eSS p
            have h4 : szD (eSS p) = szDL (p.map eS) + 1 := rfl
            rw [szD, this, szDL, szDL, h3]
            omega
          refine ak ⟨f2.1, by omega, by show _ < 16777216; omega⟩ ?_
          simp
          refine m_made ok h1 (by omega) fun s2 h2 => ?_
          rw [al.hT, al.hR]
          simp [byName, List.lookup]
          refine m_worst_nights ok (by omega) hP ?_
          rw [hw]
          simp
          refine same_of (flat_eSS p) (by decide) (by rw [sz_eSS]; omega) ?_
          simp
          exact k s2 (h2.mono (by omega))
        · have c1' : m < 2 := of_decide_eq_true c1
          simp at hB ⊢
          refine ik (fun c2 => ?_) fun _ => by simpa using hB
          simp at c2
          simp
          refine ik (fun c3 => ?_) fun _ => by simpa using hB
          simp at c3
          simp
          subst hc
          refine m_bears (k := c) ok al.as (by omega) hP (by omega) (by omega) ?_
          rw [bears_yes fun q hq => by rw [hm]; exact hp3 q hq]
          simp
          refine m_bears (k := c + 1) ok al.as (by omega) hP (by omega) (by omega) ?_
          rw [bears_no hp2 hm.symm]
          simpa using hB
      · have hn : nightsP (leastP rs (manyP ts)) = .non := by rw [hp1, ← hm]; exact if_neg h0
        have hw : worstP (leastP rs (manyP ts)) = .non := by rw [hp1, ← hm]; exact if_neg h0
        simp [e, hm1, h0]
        refine m_nights ok (by omega) hP ?_
        rw [hn]
        simp [byName, List.lookup]
        refine m_nights ok (by omega) hP ?_
        rw [hn]
        simp
        refine same_of (n := 1) (by simp [flatN, flatL, atm]) (by decide) (by simp [szD, szDL]) ?_
        simp
        refine m_worst_nights ok (by omega) hP ?_
        rw [hw]
        simp
        exact k s1 (h1.mono (by omega))
theorem m_law13 (h : Ad 0 s) : Sure (B_law_k13 (none :: some .stm :: List.replicate 1 none)) s (outP fun d _ => d = .bl true) := by
  have hLIM : LIM = 100000000000000000000000000000000000000000000000000 := rfl
  simp [B_law_k13]
  refine su_lcRange (m := 5) (R := fun y => y = .bl true) 10000000000000000000000 (by decide) h (by omega) (fun i hi b s h hl => ?_) fun ys t hy hR h2 => ?_
  · simp
    refine m_thick h (by omega) fun ts rs s1 al h1 => ?_
    simp
    refine m_right_k13 al h1 (by omega) fun s2 h2 => ?_
    simp
    exact h2.mono (by omega)
  · have e : ys = (List.range 5).map fun _ => D.bl true := by
      rw [List.eq_replicate_of_mem hR, hy]; rfl
    subst e
    (repeat (first | (refine ak ?_ ?_; focus (solve | omega | simp | (simp; omega))) | omega | simp))
theorem law13_true (ns : List Int) (h : ns.length ≤ 63) (hb : ∀ z ∈ ns, Builtin.Int.intBits z ≤ 1048576) : ∃ t, B_law_k13 (none :: some .stm :: List.replicate 1 none) ⟨ns, 0, 0, 19⟩ = some (.ok (.rt (.bl true)), t) := by
  obtain ⟨o, t, e, q⟩ := m_law13 (ad_start h hb)
  cases o with
  | rt d => exact ⟨t, by rw [e]; rw [show d = .bl true from q]⟩
  | nx ρ => exact absurd (show D.non = .bl true from q) (fun z => by cases z)
  | bk ρ => exact q.elim
  | ct ρ => exact q.elim
end Lk
end
section
set_option autoImplicit false
set_option maxHeartbeats 4000000
namespace Lk
open PySem PySem.Spec L2 DL PyProof.Rows
def dsc_draw : He.DefD := ⟨("_law_draw", none), "_law_draw", "_law_draw", defArgs sDraw, defBody sDraw, defScope sDraw, [], []⟩
def dsc_spoilt : He.DefD := ⟨("_law_spoilt", none), "_law_spoilt", "_law_spoilt", defArgs s_spoilt, defBody s_spoilt, defScope s_spoilt, [], []⟩
def dsc_is_list : He.DefD := ⟨("is_list", none), "is_list", "is_list", defArgs s_is_list, defBody s_is_list, defScope s_is_list, [], []⟩
def dsc_is_row : He.DefD := ⟨("is_row", none), "is_row", "is_row", defArgs s_is_row, defBody s_is_row, defScope s_is_row, [], []⟩
def dsc_is_name : He.DefD := ⟨("is_name", none), "is_name", "is_name", defArgs s_is_name, defBody s_is_name, defScope s_is_name, [], []⟩
def dsc_first_bad_town : He.DefD := ⟨("first_bad_town", none), "first_bad_town", "first_bad_town", defArgs s_first_bad_town, defBody s_first_bad_town, defScope s_first_bad_town, [], []⟩
def dsc_Land_is_road : He.DefD := ⟨("Land", some "is_road"), "is_road", "Land.is_road", defArgs s_Land_is_road, defBody s_Land_is_road, defScope s_Land_is_road, [], []⟩
def dsc_Land : He.DefD := ⟨("Land", some "__init__"), "__init__", "Land.__init__", defArgs s_Land_init, defBody s_Land_init, defScope s_Land_init, [], []⟩
def dsc_pick : He.DefD := ⟨("_law_pick", none), "_law_pick", "_law_pick", defArgs s_pick, defBody s_pick, defScope s_pick, [], []⟩
def dsc_mixed : He.DefD := ⟨("_law_mixed", none), "_law_mixed", "_law_mixed", defArgs s_mixed, defBody s_mixed, defScope s_mixed, [], []⟩
def dsc_same : He.DefD := ⟨("_law_same", none), "_law_same", "_law_same", defArgs s_same, defBody s_same, defScope s_same, [], []⟩
def dsc_loose : He.DefD := ⟨("_law_loose", none), "_law_loose", "_law_loose", defArgs s_loose, defBody s_loose, defScope s_loose, [], []⟩
def dsc_names : He.DefD := ⟨("_law_names", none), "_law_names", "_law_names", defArgs s_names, defBody s_names, defScope s_names, [], []⟩
def dsc_land : He.DefD := ⟨("_law_land", none), "_law_land", "_law_land", defArgs s_land, defBody s_land, defScope s_land, [], []⟩
def dsc_made : He.DefD := ⟨("_law_made", none), "_law_made", "_law_made", defArgs s_made, defBody s_made, defScope s_made, [], []⟩
def dsc_check_land : He.DefD := ⟨("check_land", none), "check_land", "check_land", defArgs s_check_land, defBody s_check_land, defScope s_check_land, [], []⟩
def dsc_crossing_of : He.DefD := ⟨("crossing_of", none), "crossing_of", "crossing_of", defArgs s_crossing_of, defBody s_crossing_of, defScope s_crossing_of, [], []⟩
def dsc_grown_by : He.DefD := ⟨("grown_by", none), "grown_by", "grown_by", defArgs s_grown_by, defBody s_grown_by, defScope s_grown_by, [], []⟩
def dsc_partings_of : He.DefD := ⟨("partings_of", none), "partings_of", "partings_of", defArgs s_partings_of, defBody s_partings_of, defScope s_partings_of, [], []⟩
def dsc_least_spare : He.DefD := ⟨("least_spare", none), "least_spare", "least_spare", defArgs s_least_spare, defBody s_least_spare, defScope s_least_spare, [], []⟩
def dsc_nights : He.DefD := ⟨("nights", none), "nights", "nights", defArgs s_nights, defBody s_nights, defScope s_nights, [], []⟩
def dsc_worst_nights : He.DefD := ⟨("worst_nights", none), "worst_nights", "worst_nights", defArgs s_worst_nights, defBody s_worst_nights, defScope s_worst_nights, [], []⟩
def dsc_Land_towns : He.DefD := ⟨("Land", some "towns"), "towns", "Land.towns", defArgs s_Land_towns, defBody s_Land_towns, defScope s_Land_towns, [], []⟩
def dsc_Land_roads : He.DefD := ⟨("Land", some "roads"), "roads", "Land.roads", defArgs s_Land_roads, defBody s_Land_roads, defScope s_Land_roads, [], []⟩
def dsc_crossing : He.DefD := ⟨("_law_crossing", none), "_law_crossing", "_law_crossing", defArgs s_crossing, defBody s_crossing, defScope s_crossing, [], []⟩
def dsc_partings : He.DefD := ⟨("_law_partings", none), "_law_partings", "_law_partings", defArgs s_partings, defBody s_partings, defScope s_partings, [], []⟩
def dsc_is_parting : He.DefD := ⟨("_law_is_parting", none), "_law_is_parting", "_law_is_parting", defArgs s_is_parting, defBody s_is_parting, defScope s_is_parting, [], []⟩
def dsc_is_split : He.DefD := ⟨("_law_is_split", none), "_law_is_split", "_law_is_split", defArgs s_is_split, defBody s_is_split, defScope s_is_split, [], []⟩
def dsc_spare : He.DefD := ⟨("_law_spare", none), "_law_spare", "_law_spare", defArgs s_spare, defBody s_spare, defScope s_spare, [], []⟩
def dsc_any_land : He.DefD := ⟨("_law_any_land", none), "_law_any_land", "_law_any_land", defArgs s_any_land, defBody s_any_land, defScope s_any_land, [], []⟩
def dsc_thick : He.DefD := ⟨("_law_thick", none), "_law_thick", "_law_thick", defArgs s_thick, defBody s_thick, defScope s_thick, [], []⟩
def dsc_lots : He.DefD := ⟨("_law_lots", none), "_law_lots", "_law_lots", defArgs s_lots, defBody s_lots, defScope s_lots, [], []⟩
def dsc_bears : He.DefD := ⟨("_law_bears", none), "_law_bears", "_law_bears", defArgs s_bears, defBody s_bears, defScope s_bears, [], []⟩
def dsc_copied : He.DefD := ⟨("_law_copied", none), "_law_copied", "_law_copied", defArgs s_copied, defBody s_copied, defScope s_copied, [], []⟩
def dsc_right_k13 : He.DefD := ⟨("_law_right", none), "_law_right", "_law_right", defArgs s_right_k13, defBody s_right_k13, defScope s_right_k13, [], []⟩
def dsc_stream : He.DefD := ⟨("_law_stream", none), "_law_stream", "_law_stream", defArgs s_stream, defBody s_stream, defScope s_stream, [], []⟩
def dsc_law : He.DefD := ⟨("law", none), "law", "law", defArgs s_law, defBody s_law, defScope s_law, [], []⟩
def fnL : List He.DefD := [dsc_draw, dsc_spoilt, dsc_is_list, dsc_is_row, dsc_is_name, dsc_first_bad_town, dsc_Land_is_road, dsc_Land, dsc_pick, dsc_mixed, dsc_same, dsc_loose, dsc_names, dsc_land, dsc_made, dsc_check_land, dsc_crossing_of, dsc_grown_by, dsc_partings_of, dsc_least_spare, dsc_nights, dsc_worst_nights, dsc_Land_towns, dsc_Land_roads, dsc_crossing, dsc_partings, dsc_is_parting, dsc_is_split, dsc_spare, dsc_any_land, dsc_thick, dsc_lots, dsc_bears, dsc_copied, dsc_right_k13, dsc_stream, dsc_law]
def fbL : List FB := [faB (.glo "_law_draw"), faB (.glo "_law_spoilt"), faB (.glo "is_list"), faB (.glo "is_row"), faB (.glo "is_name"), faB (.glo "first_bad_town"), faB (.glo "_law_pick"), faB (.glo "_law_mixed"), faB (.glo "_law_same"), faB (.glo "_law_loose"), faB (.glo "_law_names"), faB (.glo "_law_land"), faB (.glo "_law_made"), faB (.glo "check_land"), faB (.glo "crossing_of"), faB (.glo "grown_by"), faB (.glo "partings_of"), faB (.glo "least_spare"), faB (.glo "nights"), faB (.glo "worst_nights"), faB (.glo "_law_crossing"), faB (.glo "_law_partings"), faB (.glo "_law_is_parting"), faB (.glo "_law_is_split"), faB (.glo "_law_spare"), faB (.glo "_law_any_land"), faB (.glo "_law_thick"), faB (.glo "_law_lots"), faB (.glo "_law_bears"), faB (.glo "_law_copied"), faB (.glo "_law_right"), faB (.glo "_law_stream"), faB (.glo "law"), faB (.free "abs"), faB (.free "all"), faB (.free "any"), faB (.free "bool"), faB (.free "dict"), faB (.free "enumerate"), faB (.free "int"), faB (.free "isinstance"), faB (.free "len"), faB (.free "list"), faB (.free "max"), faB (.free "min"), faB (.free "range"), faB (.free "sorted"), faB (.free "str"), faB (.free "tuple"), faB (.free "zip"), faB (.str "LETTERS" "abcdefghijklmnopqrstuvwxyz"), koB0, faB (.glo "Land"), koB "Land", faB (.cls "Land"), faB (.noat "Land" "own_towns"), faB (.noat "Land" "own_roads"), faB (.meth "Land" "is_road"), faB (.mkr "Land"), faB (.meth "Land" "towns"), faB (.meth "Land" "roads")]
def T0 (K : PySem.W.Frag) : Cfg := ⟨0, 0, fun _ => He.ga K "Land", fun _ => 0, fun _ => PySem.Str.empty⟩
theorem headfacts {P : Program} {w : World} {K : PySem.W.Frag} {h : Heap} {mg : Str → Option Value} {f : Addr} (X : K.In h) (G : h.Ns mainGlobals mg) (hfa : mg ("law" : Str) = some (.ref f)) (c : SaysX fbL fnL K) :
    ∃ fd : FuncData, (∀ (s : Shared) (v : Value), BindsTo s fd ⟨[v], []⟩ [("script", v)]) ∧ ∀ base : Heap, K.In base → base.Ns mainGlobals mg → FnG P w K mg base (L2.CX P w) 9 f fd ["script"] (spLaw K) := by
  obtain ⟨fd_draw, FD_draw⟩ := c.def_ 0 (d := dsc_draw) rfl
  have Fu_draw := fun_of_D (st := sDraw) FD_draw
  have bn_draw := Fu_draw.binds (ps := ["stream", "many"]) fun _ _ _ _ _ _ us hl => match us, hl with | [_, _], _ => rfl
  obtain ⟨fd_spoilt, FD_spoilt⟩ := c.def_ 1 (d := dsc_spoilt) rfl
  have Fu_spoilt := fun_of_D (st := s_spoilt) FD_spoilt
  have bn_spoilt := Fu_spoilt.binds (ps := ["thing"]) fun _ _ _ _ _ _ us hl => match us, hl with | [_], _ => rfl
  obtain ⟨fd_is_list, FD_is_list⟩ := c.def_ 2 (d := dsc_is_list) rfl
  have Fu_is_list := fun_of_D (st := s_is_list) FD_is_list
  have bn_is_list := Fu_is_list.binds (ps := ["thing"]) fun _ _ _ _ _ _ us hl => match us, hl with | [_], _ => rfl
  obtain ⟨fd_is_row, FD_is_row⟩ := c.def_ 3 (d := dsc_is_row) rfl
  have Fu_is_row := fun_of_D (st := s_is_row) FD_is_row
  have bn_is_row := Fu_is_row.binds (ps := ["thing", "many"]) fun _ _ _ _ _ _ us hl => match us, hl with | [_, _], _ => rfl
  obtain ⟨fd_is_name, FD_is_name⟩ := c.def_ 4 (d := dsc_is_name) rfl
  have Fu_is_name := fun_of_D (st := s_is_name) FD_is_name
  have bn_is_name := Fu_is_name.binds (ps := ["thing"]) fun _ _ _ _ _ _ us hl => match us, hl with | [_], _ => rfl
  obtain ⟨fd_first_bad_town, FD_first_bad_town⟩ := c.def_ 5 (d := dsc_first_bad_town) rfl
  have Fu_first_bad_town := fun_of_D (st := s_first_bad_town) FD_first_bad_town
  have bn_first_bad_town := Fu_first_bad_town.binds (ps := ["towns"]) fun _ _ _ _ _ _ us hl => match us, hl with | [_], _ => rfl
  obtain ⟨fd_Land_is_road, FD_Land_is_road⟩ := c.def_ 6 (d := dsc_Land_is_road) rfl
  have Fu_Land_is_road := fun_of_D (st := s_Land_is_road) FD_Land_is_road
  have bn_Land_is_road := Fu_Land_is_road.binds (ps := ["self", "thing"]) fun _ _ _ _ _ _ us hl => match us, hl with | [_, _], _ => rfl
  obtain ⟨fd_Land, FD_Land⟩ := c.def_ 7 (d := dsc_Land) rfl
  have Fu_Land := fun_of_D (st := s_Land_init) FD_Land
  have bn_Land := Fu_Land.binds (ps := ["self", "towns", "roads"]) fun _ _ _ _ _ _ us hl => match us, hl with | [_, _, _], _ => rfl
  obtain ⟨fd_pick, FD_pick⟩ := c.def_ 8 (d := dsc_pick) rfl
  have Fu_pick := fun_of_D (st := s_pick) FD_pick
  have bn_pick := Fu_pick.binds (ps := ["stream", "things"]) fun _ _ _ _ _ _ us hl => match us, hl with | [_, _], _ => rfl
  obtain ⟨fd_mixed, FD_mixed⟩ := c.def_ 9 (d := dsc_mixed) rfl
  have Fu_mixed := fun_of_D (st := s_mixed) FD_mixed
  have bn_mixed := Fu_mixed.binds (ps := ["stream", "things"]) fun _ _ _ _ _ _ us hl => match us, hl with | [_, _], _ => rfl
  obtain ⟨fd_same, FD_same⟩ := c.def_ 10 (d := dsc_same) rfl
  have Fu_same := fun_of_D (st := s_same) FD_same
  have bn_same := Fu_same.binds (ps := ["found", "due"]) fun _ _ _ _ _ _ us hl => match us, hl with | [_, _], _ => rfl
  obtain ⟨fd_loose, FD_loose⟩ := c.def_ 11 (d := dsc_loose) rfl
  have Fu_loose := fun_of_D (st := s_loose) FD_loose
  have bn_loose := Fu_loose.binds (ps := ["stream", "thing"]) fun _ _ _ _ _ _ us hl => match us, hl with | [_, _], _ => rfl
  obtain ⟨fd_names, FD_names⟩ := c.def_ 12 (d := dsc_names) rfl
  have Fu_names := fun_of_D (st := s_names) FD_names
  have bn_names := Fu_names.binds (ps := ["stream", "many"]) fun _ _ _ _ _ _ us hl => match us, hl with | [_, _], _ => rfl
  obtain ⟨fd_land, FD_land⟩ := c.def_ 13 (d := dsc_land) rfl
  have Fu_land := fun_of_D (st := s_land) FD_land
  have bn_land := Fu_land.binds (ps := ["stream", "towns", "roads"]) fun _ _ _ _ _ _ us hl => match us, hl with | [_, _, _], _ => rfl
  obtain ⟨fd_made, FD_made⟩ := c.def_ 14 (d := dsc_made) rfl
  have Fu_made := fun_of_D (st := s_made) FD_made
  have bn_made := Fu_made.binds (ps := ["stream", "land"]) fun _ _ _ _ _ _ us hl => match us, hl with | [_, _], _ => rfl
  obtain ⟨fd_check_land, FD_check_land⟩ := c.def_ 15 (d := dsc_check_land) rfl
  have Fu_check_land := fun_of_D (st := s_check_land) FD_check_land
  have bn_check_land := Fu_check_land.binds (ps := ["land"]) fun _ _ _ _ _ _ us hl => match us, hl with | [_], _ => rfl
  obtain ⟨fd_crossing_of, FD_crossing_of⟩ := c.def_ 16 (d := dsc_crossing_of) rfl
  have Fu_crossing_of := fun_of_D (st := s_crossing_of) FD_crossing_of
  have bn_crossing_of := Fu_crossing_of.binds (ps := ["land", "parting"]) fun _ _ _ _ _ _ us hl => match us, hl with | [_, _], _ => rfl
  obtain ⟨fd_grown_by, FD_grown_by⟩ := c.def_ 17 (d := dsc_grown_by) rfl
  have Fu_grown_by := fun_of_D (st := s_grown_by) FD_grown_by
  have bn_grown_by := Fu_grown_by.binds (ps := ["lists", "town"]) fun _ _ _ _ _ _ us hl => match us, hl with | [_, _], _ => rfl
  obtain ⟨fd_partings_of, FD_partings_of⟩ := c.def_ 18 (d := dsc_partings_of) rfl
  have Fu_partings_of := fun_of_D (st := s_partings_of) FD_partings_of
  have bn_partings_of := Fu_partings_of.binds (ps := ["land"]) fun _ _ _ _ _ _ us hl => match us, hl with | [_], _ => rfl
  obtain ⟨fd_least_spare, FD_least_spare⟩ := c.def_ 19 (d := dsc_least_spare) rfl
  have Fu_least_spare := fun_of_D (st := s_least_spare) FD_least_spare
  have bn_least_spare := Fu_least_spare.binds (ps := ["land"]) fun _ _ _ _ _ _ us hl => match us, hl with | [_], _ => rfl
  obtain ⟨fd_nights, FD_nights⟩ := c.def_ 20 (d := dsc_nights) rfl
  have Fu_nights := fun_of_D (st := s_nights) FD_nights
  have bn_nights := Fu_nights.binds (ps := ["land"]) fun _ _ _ _ _ _ us hl => match us, hl with | [_], _ => rfl
  obtain ⟨fd_worst_nights, FD_worst_nights⟩ := c.def_ 21 (d := dsc_worst_nights) rfl
  have Fu_worst_nights := fun_of_D (st := s_worst_nights) FD_worst_nights
  have bn_worst_nights := Fu_worst_nights.binds (ps := ["land"]) fun _ _ _ _ _ _ us hl => match us, hl with | [_], _ => rfl
  obtain ⟨fd_Land_towns, FD_Land_towns⟩ := c.def_ 22 (d := dsc_Land_towns) rfl
  have Fu_Land_towns := fun_of_D (st := s_Land_towns) FD_Land_towns
  have bn_Land_towns := Fu_Land_towns.binds (ps := ["self"]) fun _ _ _ _ _ _ us hl => match us, hl with | [_], _ => rfl
  obtain ⟨fd_Land_roads, FD_Land_roads⟩ := c.def_ 23 (d := dsc_Land_roads) rfl
  have Fu_Land_roads := fun_of_D (st := s_Land_roads) FD_Land_roads
  have bn_Land_roads := Fu_Land_roads.binds (ps := ["self"]) fun _ _ _ _ _ _ us hl => match us, hl with | [_], _ => rfl
  obtain ⟨fd_crossing, FD_crossing⟩ := c.def_ 24 (d := dsc_crossing) rfl
  have Fu_crossing := fun_of_D (st := s_crossing) FD_crossing
  have bn_crossing := Fu_crossing.binds (ps := ["land", "parting"]) fun _ _ _ _ _ _ us hl => match us, hl with | [_, _], _ => rfl
  obtain ⟨fd_partings, FD_partings⟩ := c.def_ 25 (d := dsc_partings) rfl
  have Fu_partings := fun_of_D (st := s_partings) FD_partings
  have bn_partings := Fu_partings.binds (ps := ["things"]) fun _ _ _ _ _ _ us hl => match us, hl with | [_], _ => rfl
  obtain ⟨fd_is_parting, FD_is_parting⟩ := c.def_ 26 (d := dsc_is_parting) rfl
  have Fu_is_parting := fun_of_D (st := s_is_parting) FD_is_parting
  have bn_is_parting := Fu_is_parting.binds (ps := ["land", "thing"]) fun _ _ _ _ _ _ us hl => match us, hl with | [_, _], _ => rfl
  obtain ⟨fd_is_split, FD_is_split⟩ := c.def_ 27 (d := dsc_is_split) rfl
  have Fu_is_split := fun_of_D (st := s_is_split) FD_is_split
  have bn_is_split := Fu_is_split.binds (ps := ["land", "stand", "thing"]) fun _ _ _ _ _ _ us hl => match us, hl with | [_, _, _], _ => rfl
  obtain ⟨fd_spare, FD_spare⟩ := c.def_ 28 (d := dsc_spare) rfl
  have Fu_spare := fun_of_D (st := s_spare) FD_spare
  have bn_spare := Fu_spare.binds (ps := ["land", "parting"]) fun _ _ _ _ _ _ us hl => match us, hl with | [_, _], _ => rfl
  obtain ⟨fd_any_land, FD_any_land⟩ := c.def_ 29 (d := dsc_any_land) rfl
  have Fu_any_land := fun_of_D (st := s_any_land) FD_any_land
  have bn_any_land := Fu_any_land.binds (ps := ["stream", "towns", "roads"]) fun _ _ _ _ _ _ us hl => match us, hl with | [_, _, _], _ => rfl
  obtain ⟨fd_thick, FD_thick⟩ := c.def_ 30 (d := dsc_thick) rfl
  have Fu_thick := fun_of_D (st := s_thick) FD_thick
  have bn_thick := Fu_thick.binds (ps := ["stream"]) fun _ _ _ _ _ _ us hl => match us, hl with | [_], _ => rfl
  obtain ⟨fd_lots, FD_lots⟩ := c.def_ 31 (d := dsc_lots) rfl
  have Fu_lots := fun_of_D (st := s_lots) FD_lots
  have bn_lots := Fu_lots.binds (ps := ["many", "size"]) fun _ _ _ _ _ _ us hl => match us, hl with | [_, _], _ => rfl
  obtain ⟨fd_bears, FD_bears⟩ := c.def_ 32 (d := dsc_bears) rfl
  have Fu_bears := fun_of_D (st := s_bears) FD_bears
  have bn_bears := Fu_bears.binds (ps := ["land", "size"]) fun _ _ _ _ _ _ us hl => match us, hl with | [_, _], _ => rfl
  obtain ⟨fd_copied, FD_copied⟩ := c.def_ 33 (d := dsc_copied) rfl
  have Fu_copied := fun_of_D (st := s_copied) FD_copied
  have bn_copied := Fu_copied.binds (ps := ["thing"]) fun _ _ _ _ _ _ us hl => match us, hl with | [_], _ => rfl
  obtain ⟨fd_right_k13, FD_right_k13⟩ := c.def_ 34 (d := dsc_right_k13) rfl
  have Fu_right_k13 := fun_of_D (st := s_right_k13) FD_right_k13
  have bn_right_k13 := Fu_right_k13.binds (ps := ["stream", "land"]) fun _ _ _ _ _ _ us hl => match us, hl with | [_, _], _ => rfl
  obtain ⟨fd_stream, FD_stream⟩ := c.def_ 35 (d := dsc_stream) rfl
  have Fu_stream := fun_of_D (st := s_stream) FD_stream
  have bn_stream := Fu_stream.binds (ps := ["script"]) fun _ _ _ _ _ _ us hl => match us, hl with | [_], _ => rfl
  obtain ⟨fd_law, FD_law⟩ := c.def_ 36 (d := dsc_law) rfl
  have Fu_law := fun_of_D (st := s_law) FD_law
  have bn_law := Fu_law.binds (ps := ["script"]) fun _ _ _ _ _ _ us hl => match us, hl with | [_], _ => rfl
  have g_draw := He.glo_ok X G (x := "_law_draw") (c.fact 0 rfl)
  have g_spoilt := He.glo_ok X G (x := "_law_spoilt") (c.fact 1 rfl)
  have g_is_list := He.glo_ok X G (x := "is_list") (c.fact 2 rfl)
  have g_is_row := He.glo_ok X G (x := "is_row") (c.fact 3 rfl)
  have g_is_name := He.glo_ok X G (x := "is_name") (c.fact 4 rfl)
  have g_first_bad_town := He.glo_ok X G (x := "first_bad_town") (c.fact 5 rfl)
  have g_pick := He.glo_ok X G (x := "_law_pick") (c.fact 6 rfl)
  have g_mixed := He.glo_ok X G (x := "_law_mixed") (c.fact 7 rfl)
  have g_same := He.glo_ok X G (x := "_law_same") (c.fact 8 rfl)
  have g_loose := He.glo_ok X G (x := "_law_loose") (c.fact 9 rfl)
  have g_names := He.glo_ok X G (x := "_law_names") (c.fact 10 rfl)
  have g_land := He.glo_ok X G (x := "_law_land") (c.fact 11 rfl)
  have g_made := He.glo_ok X G (x := "_law_made") (c.fact 12 rfl)
  have g_check_land := He.glo_ok X G (x := "check_land") (c.fact 13 rfl)
  have g_crossing_of := He.glo_ok X G (x := "crossing_of") (c.fact 14 rfl)
  have g_grown_by := He.glo_ok X G (x := "grown_by") (c.fact 15 rfl)
  have g_partings_of := He.glo_ok X G (x := "partings_of") (c.fact 16 rfl)
  have g_least_spare := He.glo_ok X G (x := "least_spare") (c.fact 17 rfl)
  have g_nights := He.glo_ok X G (x := "nights") (c.fact 18 rfl)
  have g_worst_nights := He.glo_ok X G (x := "worst_nights") (c.fact 19 rfl)
  have g_crossing := He.glo_ok X G (x := "_law_crossing") (c.fact 20 rfl)
  have g_partings := He.glo_ok X G (x := "_law_partings") (c.fact 21 rfl)
  have g_is_parting := He.glo_ok X G (x := "_law_is_parting") (c.fact 22 rfl)
  have g_is_split := He.glo_ok X G (x := "_law_is_split") (c.fact 23 rfl)
  have g_spare := He.glo_ok X G (x := "_law_spare") (c.fact 24 rfl)
  have g_any_land := He.glo_ok X G (x := "_law_any_land") (c.fact 25 rfl)
  have g_thick := He.glo_ok X G (x := "_law_thick") (c.fact 26 rfl)
  have g_lots := He.glo_ok X G (x := "_law_lots") (c.fact 27 rfl)
  have g_bears := He.glo_ok X G (x := "_law_bears") (c.fact 28 rfl)
  have g_copied := He.glo_ok X G (x := "_law_copied") (c.fact 29 rfl)
  have g_right_k13 := He.glo_ok X G (x := "_law_right") (c.fact 30 rfl)
  have g_stream := He.glo_ok X G (x := "_law_stream") (c.fact 31 rfl)
  have e_law := hfa.symm.trans (He.glo_ok X G (x := "law") (c.fact 32 rfl))
  cases e_law
  have b_abs := He.free_ok X G (x := "abs") (c.fact 33 rfl)
  have b_all := He.free_ok X G (x := "all") (c.fact 34 rfl)
  have b_any := He.free_ok X G (x := "any") (c.fact 35 rfl)
  have b_bool := He.free_ok X G (x := "bool") (c.fact 36 rfl)
  have b_dict := He.free_ok X G (x := "dict") (c.fact 37 rfl)
  have b_enumerate := He.free_ok X G (x := "enumerate") (c.fact 38 rfl)
  have b_int := He.free_ok X G (x := "int") (c.fact 39 rfl)
  have b_isinstance := He.free_ok X G (x := "isinstance") (c.fact 40 rfl)
  have b_len := He.free_ok X G (x := "len") (c.fact 41 rfl)
  have b_list := He.free_ok X G (x := "list") (c.fact 42 rfl)
  have b_max := He.free_ok X G (x := "max") (c.fact 43 rfl)
  have b_min := He.free_ok X G (x := "min") (c.fact 44 rfl)
  have b_range := He.free_ok X G (x := "range") (c.fact 45 rfl)
  have b_sorted := He.free_ok X G (x := "sorted") (c.fact 46 rfl)
  have b_str := He.free_ok X G (x := "str") (c.fact 47 rfl)
  have b_tuple := He.free_ok X G (x := "tuple") (c.fact 48 rfl)
  have b_zip := He.free_ok X G (x := "zip") (c.fact 49 rfl)
  have c_LETTERS := He.str_ok X G (x := "LETTERS") (z := "abcdefghijklmnopqrstuvwxyz") (c.fact 50 rfl)
  have g_Land := He.glo_ok X G (x := "Land") (c.fact 52 rfl)
  have O : ∀ p q, KO (atT (T0 K) p q) K := fun p q => ko_of (c.fact 51 rfl) fun _ => ⟨"Land", rfl, c.fact 53 rfl⟩
  have N_own_towns : ∀ cc, NoAttr K ((T0 K).cls cc) "own_towns" := fun _ => He.noat_ok (x := "Land") (f := "own_towns") (c.fact 55 rfl)
  have N_own_roads : ∀ cc, NoAttr K ((T0 K).cls cc) "own_roads" := fun _ => He.noat_ok (x := "Land") (f := "own_roads") (c.fact 56 rfl)
  refine ⟨fd_law, fun s v => ?_, fun base _ _ => ?_⟩
  · exact FunD.bindsA (ps := ["script"]) FD_law (fun _ _ _ _ _ _ us hl => match us, hl with | [_], _ => rfl) s [v] rfl
  have c_draw : ∀ p q, Cal (atT (T0 K) p q) P w K mg base 1 "_law_draw" ["stream", "many"] .atom drawF := fun p q => ⟨_, _, ok_draw Fu_draw b_abs b_int, g_draw, Fu_draw.kp, bn_draw⟩
  have c_spoilt : ∀ p q, CalS (atT (T0 K) p q) P w K mg base 6 := fun p q => ⟨_, _, ok_spoilt (O p q) b_isinstance b_dict b_list b_tuple Fu_spoilt g_spoilt Fu_spoilt.kp bn_spoilt 6, g_spoilt, Fu_spoilt.kp, bn_spoilt⟩
  have c_is_list : ∀ p q, Cal (atT (T0 K) p q) P w K mg base 1 "is_list" ["thing"] .atom pr_is_list := fun p q => ⟨_, _, ok_is_list (O p q) b_all b_bool b_dict b_enumerate b_int b_isinstance b_len b_list b_max b_min b_range b_sorted b_str b_tuple b_zip c_LETTERS g_Land N_own_towns N_own_roads Fu_is_list , g_is_list, Fu_is_list.kp, bn_is_list⟩
  have c_is_row : ∀ p q, Cal (atT (T0 K) p q) P w K mg base 2 "is_row" ["thing", "many"] .atom pr_is_row := fun p q => ⟨_, _, ok_is_row (O p q) b_all b_bool b_dict b_enumerate b_int b_isinstance b_len b_list b_max b_min b_range b_sorted b_str b_tuple b_zip c_LETTERS g_Land N_own_towns N_own_roads Fu_is_row (c_is_list p q), g_is_row, Fu_is_row.kp, bn_is_row⟩
  have c_is_name : ∀ p q, Cal (atT (T0 K) p q) P w K mg base 1 "is_name" ["thing"] .atom pr_is_name := fun p q => ⟨_, _, ok_is_name (O p q) b_all b_bool b_dict b_enumerate b_int b_isinstance b_len b_list b_max b_min b_range b_sorted b_str b_tuple b_zip c_LETTERS g_Land N_own_towns N_own_roads Fu_is_name , g_is_name, Fu_is_name.kp, bn_is_name⟩
  have c_first_bad_town : ∀ p q, Cal (atT (T0 K) p q) P w K mg base 2 "first_bad_town" ["towns"] .atom pr_first_bad_town := fun p q => ⟨_, _, ok_first_bad_town (O p q) b_all b_bool b_dict b_enumerate b_int b_isinstance b_len b_list b_max b_min b_range b_sorted b_str b_tuple b_zip c_LETTERS g_Land N_own_towns N_own_roads Fu_first_bad_town (c_is_list p q) (c_is_name p q), g_first_bad_town, Fu_first_bad_town.kp, bn_first_bad_town⟩
  have c_Land_is_road : ∀ p q, CalM (atT (T0 K) p q) P w K mg base 3 0 "is_road" ["self", "thing"] .atom pr_Land_is_road := fun p q => ⟨_, _, ok_Land_is_road (O p q) b_all b_bool b_dict b_enumerate b_int b_isinstance b_len b_list b_max b_min b_range b_sorted b_str b_tuple b_zip c_LETTERS g_Land N_own_towns N_own_roads Fu_Land_is_road (c_is_row p q), He.meth_ok (x := "Land") (m := "is_road") (c.fact 57 rfl), He.cls_ok (x := "Land") (c.fact 54 rfl), bn_Land_is_road⟩
  have c_Land : ∀ p q, CalC (atT (T0 K) p q) P w K mg base 4 0 "Land" ["towns", "roads"] pr_Land_init := fun p q => ⟨_, _, _, He.mkr_ok (x := "Land") (c.fact 58 rfl), ok_Land_init (O p q) b_all b_bool b_dict b_enumerate b_int b_isinstance b_len b_list b_max b_min b_range b_sorted b_str b_tuple b_zip c_LETTERS g_Land N_own_towns N_own_roads Fu_Land (c_first_bad_town p q) (c_is_list p q) (c_Land_is_road p q), made_init, g_Land, bn_Land, fun ks h1 h2 h3 => by
    rcases ks_two h1 h2 h3 with rfl | rfl
    · exact ⟨_, _, kbn_of (ps := ["towns", "roads"]) (ks := ["towns", "roads"]) (fun u ws hl => match ws, hl with | [_, _], _ => by obtain ⟨oc, od, kV, doc, pm, an, cdv, ct, osl, e, _, _⟩ := Fu_Land.ex; subst e; rfl), fun _ _ => rfl⟩
    · exact ⟨_, _, kbn_of (ps := ["towns", "roads"]) (ks := ["roads", "towns"]) (fun u ws hl => match ws, hl with | [_, _], _ => by obtain ⟨oc, od, kV, doc, pm, an, cdv, ct, osl, e, _, _⟩ := Fu_Land.ex; subst e; rfl), fun _ _ => rfl⟩⟩
  have c_pick : ∀ p q, Cal (atT (T0 K) p q) P w K mg base 2 "_law_pick" ["stream", "things"] (.sh false) pr_pick := fun p q => ⟨_, _, ok_pick (O p q) b_all b_bool b_dict b_enumerate b_int b_isinstance b_len b_list b_max b_min b_range b_sorted b_str b_tuple b_zip c_LETTERS g_Land N_own_towns N_own_roads Fu_pick (c_draw p q), g_pick, Fu_pick.kp, bn_pick⟩
  have c_mixed : ∀ p q, Cal (atT (T0 K) p q) P w K mg base 2 "_law_mixed" ["stream", "things"] (.sh false) pr_mixed := fun p q => ⟨_, _, ok_mixed (O p q) b_all b_bool b_dict b_enumerate b_int b_isinstance b_len b_list b_max b_min b_range b_sorted b_str b_tuple b_zip c_LETTERS g_Land N_own_towns N_own_roads Fu_mixed (c_draw p q), g_mixed, Fu_mixed.kp, bn_mixed⟩
  have r_same_0 : ∀ p q, Cal (atT (T0 K) p q) P w K mg base 0 "_law_same" ["found", "due"] .atom (pr_same 0) := fun p q => Cal.fail g_same Fu_same.kp bn_same
  have r_same_1 : ∀ p q, Cal (atT (T0 K) p q) P w K mg base 1 "_law_same" ["found", "due"] .atom (pr_same 1) := fun p q => ⟨_, _, ok_same (O p q) b_all b_bool b_dict b_enumerate b_int b_isinstance b_len b_list b_max b_min b_range b_sorted b_str b_tuple b_zip c_LETTERS g_Land N_own_towns N_own_roads (by decide) Fu_same (r_same_0 p q), g_same, Fu_same.kp, bn_same⟩
  have r_same_2 : ∀ p q, Cal (atT (T0 K) p q) P w K mg base 2 "_law_same" ["found", "due"] .atom (pr_same 2) := fun p q => ⟨_, _, ok_same (O p q) b_all b_bool b_dict b_enumerate b_int b_isinstance b_len b_list b_max b_min b_range b_sorted b_str b_tuple b_zip c_LETTERS g_Land N_own_towns N_own_roads (by decide) Fu_same (r_same_1 p q), g_same, Fu_same.kp, bn_same⟩
  have r_same_3 : ∀ p q, Cal (atT (T0 K) p q) P w K mg base 3 "_law_same" ["found", "due"] .atom (pr_same 3) := fun p q => ⟨_, _, ok_same (O p q) b_all b_bool b_dict b_enumerate b_int b_isinstance b_len b_list b_max b_min b_range b_sorted b_str b_tuple b_zip c_LETTERS g_Land N_own_towns N_own_roads (by decide) Fu_same (r_same_2 p q), g_same, Fu_same.kp, bn_same⟩
  have r_same_4 : ∀ p q, Cal (atT (T0 K) p q) P w K mg base 4 "_law_same" ["found", "due"] .atom (pr_same 4) := fun p q => ⟨_, _, ok_same (O p q) b_all b_bool b_dict b_enumerate b_int b_isinstance b_len b_list b_max b_min b_range b_sorted b_str b_tuple b_zip c_LETTERS g_Land N_own_towns N_own_roads (by decide) Fu_same (r_same_3 p q), g_same, Fu_same.kp, bn_same⟩
  have r_same_5 : ∀ p q, Cal (atT (T0 K) p q) P w K mg base 5 "_law_same" ["found", "due"] .atom (pr_same 5) := fun p q => ⟨_, _, ok_same (O p q) b_all b_bool b_dict b_enumerate b_int b_isinstance b_len b_list b_max b_min b_range b_sorted b_str b_tuple b_zip c_LETTERS g_Land N_own_towns N_own_roads (by decide) Fu_same (r_same_4 p q), g_same, Fu_same.kp, bn_same⟩
  have r_same_6 : ∀ p q, Cal (atT (T0 K) p q) P w K mg base 6 "_law_same" ["found", "due"] .atom (pr_same 6) := fun p q => ⟨_, _, ok_same (O p q) b_all b_bool b_dict b_enumerate b_int b_isinstance b_len b_list b_max b_min b_range b_sorted b_str b_tuple b_zip c_LETTERS g_Land N_own_towns N_own_roads (by decide) Fu_same (r_same_5 p q), g_same, Fu_same.kp, bn_same⟩
  have r_same_7 : ∀ p q, Cal (atT (T0 K) p q) P w K mg base 7 "_law_same" ["found", "due"] .atom (pr_same 7) := fun p q => ⟨_, _, ok_same (O p q) b_all b_bool b_dict b_enumerate b_int b_isinstance b_len b_list b_max b_min b_range b_sorted b_str b_tuple b_zip c_LETTERS g_Land N_own_towns N_own_roads (by decide) Fu_same (r_same_6 p q), g_same, Fu_same.kp, bn_same⟩
  have c_same := r_same_7
  have r_loose_0 : ∀ p q, Cal (atT (T0 K) p q) P w K mg base 1 "_law_loose" ["stream", "thing"] .xc (pr_loose 0) := fun p q => Cal.fail g_loose Fu_loose.kp bn_loose
  have r_loose_1 : ∀ p q, Cal (atT (T0 K) p q) P w K mg base 2 "_law_loose" ["stream", "thing"] .xc (pr_loose 1) := fun p q => ⟨_, _, ok_loose (O p q) b_all b_bool b_dict b_enumerate b_int b_isinstance b_len b_list b_max b_min b_range b_sorted b_str b_tuple b_zip c_LETTERS g_Land N_own_towns N_own_roads (by decide) Fu_loose (r_loose_0 p q) (c_draw p q), g_loose, Fu_loose.kp, bn_loose⟩
  have r_loose_2 : ∀ p q, Cal (atT (T0 K) p q) P w K mg base 3 "_law_loose" ["stream", "thing"] .xc (pr_loose 2) := fun p q => ⟨_, _, ok_loose (O p q) b_all b_bool b_dict b_enumerate b_int b_isinstance b_len b_list b_max b_min b_range b_sorted b_str b_tuple b_zip c_LETTERS g_Land N_own_towns N_own_roads (by decide) Fu_loose (r_loose_1 p q) (c_draw p q), g_loose, Fu_loose.kp, bn_loose⟩
  have r_loose_3 : ∀ p q, Cal (atT (T0 K) p q) P w K mg base 4 "_law_loose" ["stream", "thing"] .xc (pr_loose 3) := fun p q => ⟨_, _, ok_loose (O p q) b_all b_bool b_dict b_enumerate b_int b_isinstance b_len b_list b_max b_min b_range b_sorted b_str b_tuple b_zip c_LETTERS g_Land N_own_towns N_own_roads (by decide) Fu_loose (r_loose_2 p q) (c_draw p q), g_loose, Fu_loose.kp, bn_loose⟩
  have r_loose_4 : ∀ p q, Cal (atT (T0 K) p q) P w K mg base 5 "_law_loose" ["stream", "thing"] .xc (pr_loose 4) := fun p q => ⟨_, _, ok_loose (O p q) b_all b_bool b_dict b_enumerate b_int b_isinstance b_len b_list b_max b_min b_range b_sorted b_str b_tuple b_zip c_LETTERS g_Land N_own_towns N_own_roads (by decide) Fu_loose (r_loose_3 p q) (c_draw p q), g_loose, Fu_loose.kp, bn_loose⟩
  have r_loose_5 : ∀ p q, Cal (atT (T0 K) p q) P w K mg base 6 "_law_loose" ["stream", "thing"] .xc (pr_loose 5) := fun p q => ⟨_, _, ok_loose (O p q) b_all b_bool b_dict b_enumerate b_int b_isinstance b_len b_list b_max b_min b_range b_sorted b_str b_tuple b_zip c_LETTERS g_Land N_own_towns N_own_roads (by decide) Fu_loose (r_loose_4 p q) (c_draw p q), g_loose, Fu_loose.kp, bn_loose⟩
  have c_loose := r_loose_5
  have c_names : ∀ p q, Cal (atT (T0 K) p q) P w K mg base 3 "_law_names" ["stream", "many"] (.ow .e) pr_names := fun p q => ⟨_, _, ok_names (O p q) b_all b_bool b_dict b_enumerate b_int b_isinstance b_len b_list b_max b_min b_range b_sorted b_str b_tuple b_zip c_LETTERS g_Land N_own_towns N_own_roads Fu_names (c_draw p q) (c_pick p q), g_names, Fu_names.kp, bn_names⟩
  have c_land : ∀ p q, Cal (atT (T0 K) p q) P w K mg base 4 "_law_land" ["stream", "towns", "roads"] (.sh false) pr_land := fun p q => ⟨_, _, ok_land (O p q) b_enumerate b_int b_isinstance b_len b_list b_max b_min b_range b_sorted b_tuple c_LETTERS g_Land N_own_towns N_own_roads Fu_land (c_names p q) (c_draw p q) (c_mixed p q) (c_pick p q), g_land, Fu_land.kp, bn_land⟩
  have c_made : ∀ p q, Cal (atT (T0 K) p q) P w K mg base 7 "_law_made" ["stream", "land"] .xc pr_made := fun p q => ⟨_, _, ok_made (O p q) b_enumerate b_int b_isinstance b_len b_list b_max b_min b_range b_sorted b_tuple c_LETTERS g_Land N_own_towns N_own_roads Fu_made (c_loose p q) (c_mixed p q) (c_Land p q), g_made, Fu_made.kp, bn_made⟩
  have c_check_land : ∀ p q, Cal (atT (T0 K) p q) P w K mg base 1 "check_land" ["land"] .atom pr_check_land := fun p q => ⟨_, _, ok_check_land (O p q) b_enumerate b_int b_isinstance b_len b_list b_max b_min b_range b_sorted b_tuple c_LETTERS g_Land N_own_towns N_own_roads Fu_check_land , g_check_land, Fu_check_land.kp, bn_check_land⟩
  have c_crossing_of : ∀ p q, Cal (atT (T0 K) p q) P w K mg base 1 "crossing_of" ["land", "parting"] (.ow .e) pr_crossing_of := fun p q => ⟨_, _, ok_crossing_of (O p q) b_enumerate b_int b_isinstance b_len b_list b_max b_min b_range b_sorted b_tuple c_LETTERS g_Land N_own_towns N_own_roads Fu_crossing_of , g_crossing_of, Fu_crossing_of.kp, bn_crossing_of⟩
  have c_grown_by : ∀ p q, Cal (atT (T0 K) p q) P w K mg base 1 "grown_by" ["lists", "town"] (.sh false) pr_grown_by := fun p q => ⟨_, _, ok_grown_by (O p q) b_len b_range c_LETTERS g_Land N_own_towns N_own_roads Fu_grown_by , g_grown_by, Fu_grown_by.kp, bn_grown_by⟩
  have c_partings_of : ∀ p q, Cal (atT (T0 K) p q) P w K mg base 2 "partings_of" ["land"] .xc pr_partings_of := fun p q => ⟨_, _, ok_partings_of (O p q) b_len b_range c_LETTERS g_Land N_own_towns N_own_roads Fu_partings_of (c_grown_by p q), g_partings_of, Fu_partings_of.kp, bn_partings_of⟩
  have c_least_spare : ∀ p q, Cal (atT (T0 K) p q) P w K mg base 3 "least_spare" ["land"] .xc pr_least_spare := fun p q => ⟨_, _, ok_least_spare (O p q) b_len b_range c_LETTERS g_Land N_own_towns N_own_roads Fu_least_spare (c_partings_of p q) (c_crossing_of p q), g_least_spare, Fu_least_spare.kp, bn_least_spare⟩
  have c_nights_kw_land : ∀ p q, CalK (atT (T0 K) p q) P w K mg base 4 "nights" ["land"] ["land"] .atom pr_nights := fun p q => ⟨_, _, ok_nights (O p q) b_len b_range c_LETTERS g_Land N_own_towns N_own_roads Fu_nights (c_check_land p q) (c_least_spare p q), g_nights, Fu_nights.kp, by decide, fun ws hl => match ws, hl with | [_], _ => by obtain ⟨oc, od, kV, doc, pm, an, cdv, ct, osl, e, _, _⟩ := Fu_nights.ex; subst e; rfl⟩
  have c_nights : ∀ p q, Cal (atT (T0 K) p q) P w K mg base 4 "nights" ["land"] .atom pr_nights := fun p q => ⟨_, _, ok_nights (O p q) b_len b_range c_LETTERS g_Land N_own_towns N_own_roads Fu_nights (c_check_land p q) (c_least_spare p q), g_nights, Fu_nights.kp, bn_nights⟩
  have c_worst_nights_kw_land : ∀ p q, CalK (atT (T0 K) p q) P w K mg base 4 "worst_nights" ["land"] ["land"] .xc pr_worst_nights := fun p q => ⟨_, _, ok_worst_nights (O p q) b_len b_range c_LETTERS g_Land N_own_towns N_own_roads Fu_worst_nights (c_check_land p q) (c_least_spare p q), g_worst_nights, Fu_worst_nights.kp, by decide, fun ws hl => match ws, hl with | [_], _ => by obtain ⟨oc, od, kV, doc, pm, an, cdv, ct, osl, e, _, _⟩ := Fu_worst_nights.ex; subst e; rfl⟩
  have c_worst_nights : ∀ p q, Cal (atT (T0 K) p q) P w K mg base 4 "worst_nights" ["land"] .xc pr_worst_nights := fun p q => ⟨_, _, ok_worst_nights (O p q) b_len b_range c_LETTERS g_Land N_own_towns N_own_roads Fu_worst_nights (c_check_land p q) (c_least_spare p q), g_worst_nights, Fu_worst_nights.kp, bn_worst_nights⟩
  have c_Land_towns : ∀ p q, CalM (atT (T0 K) p q) P w K mg base 1 0 "towns" ["self"] (.ow .e) pr_Land_towns := fun p q => ⟨_, _, ok_Land_towns (O p q) b_all b_any b_dict b_enumerate b_isinstance b_len b_list b_range b_sorted b_str b_tuple c_LETTERS g_Land N_own_towns N_own_roads Fu_Land_towns , He.meth_ok (x := "Land") (m := "towns") (c.fact 59 rfl), He.cls_ok (x := "Land") (c.fact 54 rfl), bn_Land_towns⟩
  have c_Land_roads : ∀ p q, CalM (atT (T0 K) p q) P w K mg base 1 0 "roads" ["self"] (.ow .e) pr_Land_roads := fun p q => ⟨_, _, ok_Land_roads (O p q) b_all b_any b_dict b_enumerate b_isinstance b_len b_list b_range b_sorted b_str b_tuple c_LETTERS g_Land N_own_towns N_own_roads Fu_Land_roads , He.meth_ok (x := "Land") (m := "roads") (c.fact 60 rfl), He.cls_ok (x := "Land") (c.fact 54 rfl), bn_Land_roads⟩
  have c_crossing : ∀ p q, Cal (atT (T0 K) p q) P w K mg base 1 "_law_crossing" ["land", "parting"] (.ow .e) pr_crossing := fun p q => ⟨_, _, ok_crossing (O p q) b_all b_any b_dict b_enumerate b_isinstance b_len b_list b_range b_sorted b_str b_tuple c_LETTERS g_Land N_own_towns N_own_roads Fu_crossing , g_crossing, Fu_crossing.kp, bn_crossing⟩
  have c_partings : ∀ p q, Cal (atT (T0 K) p q) P w K mg base 1 "_law_partings" ["things"] .xc pr_partings := fun p q => ⟨_, _, ok_partings (O p q) b_all b_any b_dict b_enumerate b_isinstance b_len b_list b_range b_sorted b_str b_tuple c_LETTERS g_Land N_own_towns N_own_roads Fu_partings , g_partings, Fu_partings.kp, bn_partings⟩
  have c_is_parting : ∀ p q, Cal (atT (T0 K) p q) P w K mg base 1 "_law_is_parting" ["land", "thing"] .atom pr_is_parting := fun p q => ⟨_, _, ok_is_parting (O p q) b_all b_any b_dict b_enumerate b_isinstance b_len b_list b_range b_sorted b_str b_tuple c_LETTERS g_Land N_own_towns N_own_roads Fu_is_parting , g_is_parting, Fu_is_parting.kp, bn_is_parting⟩
  have c_is_split : ∀ p q, Cal (atT (T0 K) p q) P w K mg base 2 "_law_is_split" ["land", "stand", "thing"] .atom pr_is_split := fun p q => ⟨_, _, ok_is_split (O p q) b_all b_any b_dict b_enumerate b_isinstance b_len b_list b_range b_sorted b_str b_tuple c_LETTERS g_Land N_own_towns N_own_roads Fu_is_split (c_is_parting p q) (c_crossing p q), g_is_split, Fu_is_split.kp, bn_is_split⟩
  have c_spare : ∀ p q, Cal (atT (T0 K) p q) P w K mg base 2 "_law_spare" ["land", "parting"] .atom pr_spare := fun p q => ⟨_, _, ok_spare (O p q) b_all b_any b_dict b_enumerate b_isinstance b_len b_list b_range b_sorted b_str b_tuple c_LETTERS g_Land N_own_towns N_own_roads Fu_spare (c_crossing p q), g_spare, Fu_spare.kp, bn_spare⟩
  have c_any_land : ∀ p q, Cal (atT (T0 K) p q) P w K mg base 5 "_law_any_land" ["stream", "towns", "roads"] (.sh false) pr_any_land := fun p q => ⟨_, _, ok_any_land (O p q) b_any b_dict b_isinstance b_len b_list b_range b_sorted b_tuple c_LETTERS g_Land N_own_towns N_own_roads Fu_any_land (c_draw p q) (c_pick p q) (c_land p q), g_any_land, Fu_any_land.kp, bn_any_land⟩
  have c_thick : ∀ p q, Cal (atT (T0 K) p q) P w K mg base 6 "_law_thick" ["stream"] (.sh false) pr_thick := fun p q => ⟨_, _, ok_thick (O p q) b_any b_dict b_isinstance b_len b_list b_range b_sorted b_tuple c_LETTERS g_Land N_own_towns N_own_roads Fu_thick (c_any_land p q) (c_pick p q) (c_draw p q), g_thick, Fu_thick.kp, bn_thick⟩
  have c_lots : ∀ p q, Cal (atT (T0 K) p q) P w K mg base 1 "_law_lots" ["many", "size"] .xc pr_lots := fun p q => ⟨_, _, ok_lots (O p q) b_any b_dict b_isinstance b_len b_list b_range b_sorted b_tuple c_LETTERS g_Land N_own_towns N_own_roads Fu_lots , g_lots, Fu_lots.kp, bn_lots⟩
  have c_bears : ∀ p q, Cal (atT (T0 K) p q) P w K mg base 3 "_law_bears" ["land", "size"] .atom pr_bears := fun p q => ⟨_, _, ok_bears (O p q) b_any b_dict b_isinstance b_len b_list b_range b_sorted b_tuple c_LETTERS g_Land N_own_towns N_own_roads Fu_bears (c_partings p q) (c_lots p q) (c_is_split p q), g_bears, Fu_bears.kp, bn_bears⟩
  have r_copied_0 : ∀ p q, Cal (atT (T0 K) p q) P w K mg base 0 "_law_copied" ["thing"] .xc (pr_copied 0) := fun p q => Cal.fail g_copied Fu_copied.kp bn_copied
  have r_copied_1 : ∀ p q, Cal (atT (T0 K) p q) P w K mg base 1 "_law_copied" ["thing"] .xc (pr_copied 1) := fun p q => ⟨_, _, ok_copied (O p q) b_any b_dict b_isinstance b_len b_list b_range b_sorted b_tuple c_LETTERS g_Land N_own_towns N_own_roads (by decide) Fu_copied (r_copied_0 p q), g_copied, Fu_copied.kp, bn_copied⟩
  have r_copied_2 : ∀ p q, Cal (atT (T0 K) p q) P w K mg base 2 "_law_copied" ["thing"] .xc (pr_copied 2) := fun p q => ⟨_, _, ok_copied (O p q) b_any b_dict b_isinstance b_len b_list b_range b_sorted b_tuple c_LETTERS g_Land N_own_towns N_own_roads (by decide) Fu_copied (r_copied_1 p q), g_copied, Fu_copied.kp, bn_copied⟩
  have r_copied_3 : ∀ p q, Cal (atT (T0 K) p q) P w K mg base 3 "_law_copied" ["thing"] .xc (pr_copied 3) := fun p q => ⟨_, _, ok_copied (O p q) b_any b_dict b_isinstance b_len b_list b_range b_sorted b_tuple c_LETTERS g_Land N_own_towns N_own_roads (by decide) Fu_copied (r_copied_2 p q), g_copied, Fu_copied.kp, bn_copied⟩
  have r_copied_4 : ∀ p q, Cal (atT (T0 K) p q) P w K mg base 4 "_law_copied" ["thing"] .xc (pr_copied 4) := fun p q => ⟨_, _, ok_copied (O p q) b_any b_dict b_isinstance b_len b_list b_range b_sorted b_tuple c_LETTERS g_Land N_own_towns N_own_roads (by decide) Fu_copied (r_copied_3 p q), g_copied, Fu_copied.kp, bn_copied⟩
  have c_copied := r_copied_4
  have c_right_k13 : ∀ p q, Cal (atT (T0 K) p q) P w K mg base 8 "_law_right" ["stream", "land"] .atom pr_right_k13 := fun p q => ⟨_, _, ok_right_k13 (O p q) b_isinstance b_len b_list b_min c_LETTERS g_Land N_own_towns N_own_roads Fu_right_k13 (c_made p q) (c_partings p q) (c_spare p q) (c_same p q) (c_nights p q) (c_nights_kw_land p q) (c_worst_nights p q) (c_bears p q) (c_is_parting p q) (c_copied p q) (c_spoilt p q) (c_worst_nights_kw_land p q), g_right_k13, Fu_right_k13.kp, bn_right_k13⟩
  exact ok_law (T := T0 K) (O := ko_of (c.fact 51 rfl) fun _ => ⟨"Land", rfl, c.fact 53 rfl⟩) b_all b_list b_range c_LETTERS g_Land N_own_towns N_own_roads Fu_law (ok_stream (T := T0 K) (O := ko_of (c.fact 51 rfl) fun _ => ⟨"Land", rfl, c.fact 53 rfl⟩) b_all b_list b_range c_LETTERS g_Land N_own_towns N_own_roads Fu_stream) g_stream Fu_stream.kp bn_stream O c_right_k13 c_thick (fun ns h1 h2 => law13_true ns h1 h2)
abbrev Rw : PySem.W.OpenRow := PySem.W.OpenLaw.row PySem.Challenge.rw_heldroads_k13_whole_nights_ahead
abbrev hkX : PySem.W.Hook := hookX 5 fbL fnL
def obX (s : PySem.W.SharedT) : He.AlD := obsXG 5 fbL fnL (HandSHeadRun.getT s)
theorem obX_eq (s : PySem.W.SharedT) : obX s = hkX.obs s.abs := obsXG_eq (HandSHeadRun.getT_eq s)
def looseN : List PySem.Str := (["LETTERS", "is_list", "is_row", "is_name", "RoadError", "BadTowns", "BadRoads", "BadLand", "first_bad_town", "Land", "check_land", "crossing_of", "partings_of", "grown_by", "least_spare", "nights", "worst_nights", "_law_stream", "_law_draw", "_law_pick", "_law_mixed", "_law_same", "_law_loose", "_law_copied", "_law_spoilt", "_law_names", "_law_crossing", "_law_partings", "_law_is_parting", "_law_is_split"] : List PySem.Str) ++ (["_law_land", "_law_any_land", "_law_made", "_law_spare", "_law_thick", "_law_lots", "_law_bears", "_law_right"] : List PySem.Str)
theorem runX (w : World) : HandSHeadRun.RunEq Rw (PySem.W.view Rw.prog [43]) hkX obX 3000 looseN w := by
  intro os
  kernel_rfl
end Lk
open PySem PySem.W PySem.Calls PyProof.Rows in
set_option maxRecDepth 100000 in
set_option maxHeartbeats 0 in
theorem PySem.Challenge.cw_heldroads_k13_whole_nights_ahead_holds : PySem.Challenge.rw_heldroads_k13_whole_nights_ahead.Holds := by
  w_on; o_law
  refine HandSHeadRun.head_any (r := OpenLaw.row PySem.Challenge.rw_heldroads_k13_whole_nights_ahead) (q := view (OpenLaw.row PySem.Challenge.rw_heldroads_k13_whole_nights_ahead).prog [43]) (H := Lk.hkX) (ob := Lk.obX) (M := 3000) (loose := Lk.looseN) (d := HandSHeadRun.topDef (OpenLaw.row PySem.Challenge.rw_heldroads_k13_whole_nights_ahead).prog 43) (kwd := []) Lk.obX_eq
    (by kernel_rfl) (fun s => by kernel_rfl) Lk.runX (by kernel_rfl) (by kernel_rfl) (by kernel_rfl) (by rfl) (by first | assumption | decide +kernel) (by decide +kernel) ⟨rfl, rfl, rfl, rfl, rfl, by decide +kernel⟩ ?hw ?hc
  case hw => w_witness2
  case hc =>
    refine DL.walk_GE (l := PySem.Challenge.rw_heldroads_k13_whole_nights_ahead) (n := 63) (k := 9) (x := "script") rfl (by decide) (by kernel_rfl) ⟨rfl, by decide, by decide⟩ ?F
    intro w mg fa h Y G hmg0
    obtain ⟨K, KX, c⟩ := Y
    have hmg : mg ("law" : PySem.Str) = some (.ref fa) := by
      have e : (HandSHeadRun.topDef (OpenLaw.row PySem.Challenge.rw_heldroads_k13_whole_nights_ahead).prog 43).name = ("law" : PySem.Str) := by kernel_rfl
      rw [← e]
      exact hmg0
    obtain ⟨fd, hb, hF⟩ := Lk.headfacts (P := PySem.Challenge.rw_heldroads_k13_whole_nights_ahead.prog) (w := w) KX G hmg c
    exact ⟨K, fd, DL.spLaw K, KX, hb, fun H a ns hl hbits hO hS => ⟨a, ns, rfl, hO, hS, hl, hbits, fun _ => rfl⟩, hF⟩
end
