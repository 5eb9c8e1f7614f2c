import PyProof.Rows.All
import Wide.All
import OpenK.AllK
import Wide.FinOn
import HandS.ForMost
import HandS.TupAny
import HandS.Flow
import HandS.TupMul
import HandS.Deep
import HandS.Text
import HandS.Star
import HandS.Codes
import HandS.More
import HandS.NoneIn
import HandS.Zip
import HandS.Small
import HandS.IsInst
import HandS.Conv
import HandS.Dict
import HandS.SortRule
import KE.KSortTupAny
import KE.KSortAsk
import HandS.Defaults
import HandS.Style
import PyProof.TupleOfStr
import HandS.HeadHook2
import KE.GoesMore
import KE.KDictZip
import HandS.HeadEnd
import KE.KStateDown
import HandS.WordsExc
import HandS.Head0
import HandS.Head1
import HandS.Head2
import HandS.HeadHook1
import PySem.Challenge.RW_lasttellers_k16_who_tells_by_a_rule
set_option linter.all false
set_option maxRecDepth 100000
set_option maxHeartbeats 0

namespace Py
/-! ## the small Python: values, cells, results -/
inductive W where
  | non | bl (b : Bool) | int (i : Int) | str (l : List Nat)
  | tup (k : Bool) (xs : List W) | lst (xs : List W) | dct (ks vs : List W) | fz (ns : List Int) | ref (n : Nat)
  deriving Inhabited

/-- a cell: a list or a dict that may be changed in place; dead: given away -/
inductive Cell where
  | lst (xs : List W) | dct (ks vs : List W) | dead
abbrev MH := List Cell
/-- an error: its class, its arguments -/
structure Xc where
  cls : Nat
  args : List W
inductive R (α : Type) where
  | ok (a : α) (M : MH) | exc (c : Xc) (M : MH) | bad
abbrev Sl := List (Option W)
abbrev Ev := Sl → MH → R W
abbrev EvL := Sl → MH → R (List W)
abbrev EvB := Sl → MH → R Bool
abbrev Fn := List W → MH → R W
/-- what comes behind a statement -/
inductive O where
  | nx (r : Sl) (M : MH) | rt (w : W) (M : MH) | bk (r : Sl) (M : MH) | ct (r : Sl) (M : MH) | exc (c : Xc) (M : MH) | bad
abbrev Sx := Sl → MH → O

def R.bind {α β : Type} (x : R α) (f : α → MH → R β) : R β :=
  match x with
  | .ok a M => f a M
  | .exc c M => .exc c M
  | .bad => .bad
def R.ofO {α : Type} (o : Option α) (M : MH) : R α :=
  match o with
  | some a => .ok a M
  | none => .bad
def R.thenO {α : Type} (x : R α) (f : α → MH → O) : O :=
  match x with
  | .ok a M => f a M
  | .exc c M => .exc c M
  | .bad => .bad

mutual
def noRef : W → Bool
  | .tup _ xs => noRefs xs
  | .lst xs => noRefs xs
  | .dct ks vs => noRefs ks && noRefs vs
  | .ref _ => false
  | _ => true
def noRefs : List W → Bool
  | [] => true
  | x :: xs => noRef x && noRefs xs
end

/-- a list, a dict in a cell is read as what it holds -/
def rd (M : MH) (w : W) : W :=
  match w with
  | .ref n => match M[n]? with
    | some (.lst xs) => .lst xs
    | some (.dct ks vs) => .dct ks vs
    | _ => w
  | _ => w

/-! ### what an address means -/
open PySem L2
/-- the cells' addresses; the addresses that are set aside (a list that is being made) -/
structure Mu where
  cells : List (Option Addr)
  rsv : List Addr
def Mu.ok (m : Mu) (a : Addr) : Prop := some a ∉ m.cells ∧ a ∉ m.rsv
def Mu.push (m : Mu) (a : Addr) : Mu := ⟨m.cells ++ [some a], m.rsv⟩
def Mu.hold (m : Mu) (a : Addr) : Mu := ⟨m.cells, a :: m.rsv⟩
section
variable (K : PySem.W.Frag) (mu : Mu) (H : Hp)
mutual
inductive RV : W → V → Prop
  | non : RV .non .non
  | bl (b : Bool) : RV (.bl b) (.bl b)
  | int (i : Int) : RV (.int i) (.int i)
  | str (l : List Nat) : (∀ c ∈ l, c < 128) → RV (.str l) (.str ⟨l.toArray⟩)
  | tup {ws : List W} {vs : List V} {a : Addr} : H a = some (.tup vs) → mu.ok a → RVs ws vs → RV (.tup false ws) (.ref a)
  | tupK {k : Bool} {ws : List W} {vs : List V} {a : Addr} {o : Obj} : H a = some (.frz o (.tup vs)) → o.dict = none → mu.ok a → RVs ws vs → RV (.tup k ws) (.ref a)
  | ktup {ws : List W} {vs : List V} {a : Addr} {o : Obj} {its : Array Value} {n : Nat} : K.lookup a = some o → o.cls = .type "tuple" → o.data = .seq its n → its.size ≤ sizeLine → Vals vs its.toList → RVs ws vs → RV (.tup false ws) (.ref a)
  | lst {ws : List W} {vs : List V} {a : Addr} : H a = some (.lst vs) → mu.ok a → RVs ws vs → RV (.lst ws) (.ref a)
  | dct {ks ws : List W} {kvs : List (Key × V)} {a : Addr} : H a = some (.dK kvs) → mu.ok a → RVs ks (kvs.map fun p => kV p.1) → RVs ws (kvs.map (·.2)) → RV (.dct ks ws) (.ref a)
  | fz {ns : List Int} {a : Addr} {o : Obj} : H a = some (.frz o (.lst (ns.map V.int))) → mu.ok a → RV (.fz ns) (.ref a)
  | kfz {ns : List Int} {a : Addr} : (∃ (o : Obj) (its : Array Value) (n : Nat), K.lookup a = some o ∧ o.cls = .type "list" ∧ o.dict = none ∧ o.data = .seq its n ∧ its.size ≤ sizeLine ∧ Vals (ns.map V.int) its.toList) → RV (.fz ns) (.ref a)
  | ref {n : Nat} {a : Addr} : mu.cells[n]? = some (some a) ∨ mu.cells[n]? = some none → RV (.ref n) (.ref a)
inductive RVs : List W → List V → Prop
  | nil : RVs [] []
  | cons {w : W} {v : V} {ws : List W} {vs : List V} : RV w v → RVs ws vs → RVs (w :: ws) (v :: vs)
end
end

/-- how addresses and the abstract heap go on -/
structure Ext (mu : Mu) (H : Hp) (mu' : Mu) (H' : Hp) : Prop where
  len : mu.cells.length ≤ mu'.cells.length
  old : ∀ n, n < mu.cells.length → mu'.cells[n]? = mu.cells[n]? ∨ mu'.cells[n]? = some none
  new : ∀ n a, mu.cells.length ≤ n → mu'.cells[n]? = some (some a) → H a = none
  keep : ∀ a o, H a = some o → mu.ok a → H' a = some o
  there : ∀ a, H a ≠ none → H' a ≠ none
  rsv : mu'.rsv = mu.rsv
  held : ∀ a, a ∈ mu.rsv → H' a = H a

theorem Ext.refl {mu H} : Ext mu H mu H where
  len := Nat.le_refl _
  old := fun _ _ => .inl rfl
  new := fun n a h e => by rw [List.getElem?_eq_none h] at e; cases e
  keep := fun _ _ h _ => h
  there := fun _ h => h
  rsv := rfl
  held := fun _ _ => rfl

/-- the same where addresses may be set aside on the way -/
structure ExtW (mu : Mu) (H : Hp) (mu' : Mu) (H' : Hp) : Prop where
  len : mu.cells.length ≤ mu'.cells.length
  old : ∀ n, n < mu.cells.length → mu'.cells[n]? = mu.cells[n]? ∨ mu'.cells[n]? = some none
  new : ∀ n a, mu.cells.length ≤ n → mu'.cells[n]? = some (some a) → H a = none
  keep : ∀ a o, H a = some o → mu.ok a → H' a = some o
  there : ∀ a, H a ≠ none → H' a ≠ none
  rsvW : ∀ a, a ∈ mu'.rsv → a ∈ mu.rsv ∨ H a = none
theorem Ext.toW {mu H mu' H'} (x : Ext mu H mu' H') : ExtW mu H mu' H' := ⟨x.len, x.old, x.new, x.keep, x.there, fun a h => .inl (by rw [← x.rsv]; exact h)⟩
theorem ExtW.nmem {mu H mu' H'} (x : ExtW mu H mu' H') {a : Addr} (h : H a ≠ none) (n : mu.ok a) : mu'.ok a := by
  refine ⟨fun hm => ?_, fun hm => (x.rsvW a hm).elim n.2 h⟩
  obtain ⟨i, hi⟩ := List.mem_iff_getElem?.mp hm
  by_cases hl : i < mu.cells.length
  · rcases x.old i hl with e | e
    · rw [hi] at e; exact n.1 (List.mem_iff_getElem?.mpr ⟨i, e.symm⟩)
    · rw [hi] at e; cases e
  · exact h (x.new i a (Nat.le_of_not_lt hl) hi)
theorem Ext.nmem {mu H mu' H'} (x : Ext mu H mu' H') {a : Addr} (h : H a ≠ none) (n : mu.ok a) : mu'.ok a := x.toW.nmem h n
theorem ExtW.trans {mu H mu1 H1 mu2 H2} (x : ExtW mu H mu1 H1) (y : ExtW mu1 H1 mu2 H2) : ExtW mu H mu2 H2 := by
  have back : ∀ a, H1 a = none → H a = none := fun a e => by
    cases q : H a with
    | none => rfl
    | some o => exact absurd e (x.there a (by rw [q]; simp))
  refine ⟨Nat.le_trans x.len y.len, fun n hn => ?_, fun n a hn e => ?_, fun a o h n => ?_, fun a h => y.there a (x.there a h), fun a h => ?_⟩
  · rcases y.old n (Nat.lt_of_lt_of_le hn x.len) with e | e
    · rw [e]; exact x.old n hn
    · exact .inr e
  · by_cases h1 : n < mu1.cells.length
    · rcases y.old n h1 with e' | e'
      · rw [e'] at e; exact x.new n a hn e
      · rw [e'] at e; cases e
    · exact back a (y.new n a (Nat.le_of_not_lt h1) e)
  · exact y.keep a o (x.keep a o h n) (x.nmem (by rw [h]; simp) n)
  · rcases y.rsvW a h with q | q
    · exact x.rsvW a q
    · exact .inr (back a q)

theorem Ext.trans {mu H mu1 H1 mu2 H2} (x : Ext mu H mu1 H1) (y : Ext mu1 H1 mu2 H2) : Ext mu H mu2 H2 := by
  refine ⟨Nat.le_trans x.len y.len, fun n hn => ?_, fun n a hn e => ?_, fun a o h n => ?_, fun a h => y.there a (x.there a h), y.rsv.trans x.rsv, fun a h => (y.held a (by rw [x.rsv]; exact h)).trans (x.held a h)⟩
  · rcases y.old n (Nat.lt_of_lt_of_le hn x.len) with e | e
    · rw [e]; exact x.old n hn
    · exact .inr e
  · by_cases h1 : n < mu1.cells.length
    · rcases y.old n h1 with e' | e'
      · rw [e'] at e; exact x.new n a hn e
      · rw [e'] at e; cases e
    · have := y.new n a (Nat.le_of_not_lt h1) e
      cases q : H a with
      | none => rfl
      | some o => exact absurd this (x.there a (by rw [q]; simp))
  · exact y.keep a o (x.keep a o h n) (x.nmem (by rw [h]; simp) n)

mutual
theorem RV.extW {K mu H mu' H'} (x : ExtW mu H mu' H') : ∀ {w : W} {v : V}, RV K mu H w v → RV K mu' H' w v
  | _, _, .non => .non
  | _, _, .bl b => .bl b
  | _, _, .int i => .int i
  | _, _, .str l h => .str l h
  | _, _, .tup h n r => .tup (x.keep _ _ h n) (x.nmem (by rw [h]; simp) n) (RVs.extW x r)
  | _, _, .tupK h d n r => .tupK (x.keep _ _ h n) d (x.nmem (by rw [h]; simp) n) (RVs.extW x r)
  | _, _, .ktup a b c d e r => .ktup a b c d e (RVs.extW x r)
  | _, _, .lst h n r => .lst (x.keep _ _ h n) (x.nmem (by rw [h]; simp) n) (RVs.extW x r)
  | _, _, .dct h n r q => .dct (x.keep _ _ h n) (x.nmem (by rw [h]; simp) n) (RVs.extW x r) (RVs.extW x q)
  | _, _, .fz h n => .fz (x.keep _ _ h n) (x.nmem (by rw [h]; simp) n)
  | _, _, .kfz h => .kfz h
  | _, _, .ref (n := n) h => .ref (by
      have hl : n < mu.cells.length := by
        rcases h with h | h <;> exact (List.getElem?_eq_some_iff.mp h).1
      rcases x.old n hl with e | e
      · rw [e]; exact h
      · exact .inr e)
theorem RVs.extW {K mu H mu' H'} (x : ExtW mu H mu' H') : ∀ {ws : List W} {vs : List V}, RVs K mu H ws vs → RVs K mu' H' ws vs
  | _, _, .nil => .nil
  | _, _, .cons a b => .cons (RV.extW x a) (RVs.extW x b)
end
theorem RV.ext {K mu H mu' H' w v} (x : Ext mu H mu' H') (h : RV K mu H w v) : RV K mu' H' w v := h.extW x.toW
theorem RVs.ext {K mu H mu' H' ws vs} (x : Ext mu H mu' H') (h : RVs K mu H ws vs) : RVs K mu' H' ws vs := h.extW x.toW
/-- what a cell holds -/
def CellOk (K : PySem.W.Frag) (mu : Mu) (H : Hp) (n : Nat) : Cell → Prop
  | .lst xs => ∃ a vs, mu.cells[n]? = some (some a) ∧ H a = some (.lst vs) ∧ RVs K mu H xs vs ∧ noRefs xs = true
  | .dct ks ws => ∃ a kvs, mu.cells[n]? = some (some a) ∧ H a = some (.dK kvs) ∧ RVs K mu H ks (kvs.map fun p => kV p.1) ∧ RVs K mu H ws (kvs.map (·.2)) ∧ noRefs ks = true ∧ noRefs ws = true
  | .dead => mu.cells[n]? = some none
def mutB : HO → Bool
  | .lst _ => true
  | .dK _ => true
  | .dT _ => true
  | _ => false
structure Good (K : PySem.W.Frag) (mu : Mu) (M : MH) (H : Hp) : Prop where
  len : mu.cells.length = M.length
  inj : ∀ (i j : Nat) (a : Addr), mu.cells[i]? = some (some a) → mu.cells[j]? = some (some a) → i = j
  cell : ∀ (n : Nat) (c : Cell), M[n]? = some c → CellOk K mu H n c
  rsvd' : ∀ a, a ∈ mu.rsv → ∃ o, H a = some o ∧ mutB o = true
  disj : ∀ a, a ∈ mu.rsv → some a ∉ mu.cells
structure RS (K : PySem.W.Frag) (mu : Mu) (H : Hp) (r : Sl) (σ : St) : Prop where
  len : r.length = σ.length
  at_ : ∀ (i : Nat) (w : W), r[i]? = some (some w) → ∃ v, σ[i]? = some (some v) ∧ RV K mu H w v
theorem RS.ext {K mu H mu' H' r σ} (x : Ext mu H mu' H') (s : RS K mu H r σ) : RS K mu' H' r σ :=
  ⟨s.len, fun i w e => let ⟨v, h, q⟩ := s.at_ i w e; ⟨v, h, q.ext x⟩⟩

theorem RS.extW {K mu H mu' H' r σ} (x : ExtW mu H mu' H') (s : RS K mu H r σ) : RS K mu' H' r σ :=
  ⟨s.len, fun i w e => let ⟨v, h, q⟩ := s.at_ i w e; ⟨v, h, q.extW x⟩⟩
/-- what a result promises -/
def Post {α : Type} (K : PySem.W.Frag) (mu : Mu) (H : Hp) (P : α → MH → Mu → Hp → Prop) : R α → Prop
  | .ok a M' => ∀ mu' H', Ext mu H mu' H' → Good K mu' M' H' → P a M' mu' H'
  | .exc _ _ => False
  | .bad => False
theorem Post.ext {α : Type} {K mu H mu1 H1} {P : α → MH → Mu → Hp → Prop} {r : R α} (x : Ext mu H mu1 H1) (h : Post K mu H P r) : Post K mu1 H1 P r := by
  cases r with
  | ok a M' => exact fun mu' H' e g => h mu' H' (x.trans e) g
  | exc c M => exact h
  | bad => exact h
theorem Post.imp {α : Type} {K mu H} {P P' : α → MH → Mu → Hp → Prop} {r : R α} (h : Post K mu H P r)
    (f : ∀ a M' mu' H', Ext mu H mu' H' → Good K mu' M' H' → P a M' mu' H' → P' a M' mu' H') : Post K mu H P' r := by
  cases r with
  | ok a M' => exact fun mu' H' e g => f a M' mu' H' e g (h mu' H' e g)
  | exc c M => exact h
  | bad => exact h
theorem Post.bind {α β : Type} {K mu H} {P : β → MH → Mu → Hp → Prop} {x : R α} {f : α → MH → R β} (h : Post K mu H P (x.bind f)) :
    Post K mu H (fun a M1 mu1 H1 => Post K mu1 H1 P (f a M1)) x := by
  cases x with
  | ok a M' => exact fun mu' H' e _ => Post.ext e h
  | exc c M => exact h
  | bad => exact h

/-- an expression's reading by the small Python -/
def den (K : PySem.W.Frag) (m : Ev) : TE := fun σ H Q => ∃ mu M r, Good K mu M H ∧ RS K mu H r σ ∧
  Post K mu H (fun w _ mu' H' => ∀ v, RV K mu' H' w v → Q v H') (m r M)
def denT (K : PySem.W.Frag) (m : EvB) : TT := fun σ H Q => ∃ mu M r, Good K mu M H ∧ RS K mu H r σ ∧
  Post K mu H (fun b _ _ H' => Q b H') (m r M)
def denA (K : PySem.W.Frag) (m : EvL) : TA := fun σ H Q => ∃ mu M r, Good K mu M H ∧ RS K mu H r σ ∧
  Post K mu H (fun ws _ mu' H' => ∀ vs, RVs K mu' H' ws vs → Q vs H') (m r M)
/-- a new list with these items -/
def denL (K : PySem.W.Frag) (m : EvL) : TE := fun σ H Q => ∃ mu M r, Good K mu M H ∧ RS K mu H r σ ∧
  Post K mu H (fun ws _ mu' H' => ∀ vs p, RVs K mu' H' ws vs → H' p = none → Q (.ref p) (upd H' p (.lst vs))) (m r M)

theorem PE.of {X : Cx} {e : Expr} {t t' : TE} (h : PE X e t) (f : ∀ σ H Q, t' σ H Q → t σ H Q) : PE X e t' :=
  ⟨fun pins s σ H Q I q => h.run pins s σ H Q I (f σ H Q q)⟩
theorem PT.of {X : Cx} {e : Expr} {t t' : TT} (h : PT X e t) (f : ∀ σ H Q, t' σ H Q → t σ H Q) : PT X e t' :=
  ⟨fun pins s σ H Q I q => h.run pins s σ H Q I (f σ H Q q)⟩
theorem PW.of {X : Cx} {e : Expr} {t t' : TT} (h : PW X e t) (f : ∀ σ H Q, t' σ H Q → t σ H Q) : PW X e t' :=
  ⟨fun wh pins s σ H Q I q => h.run wh pins s σ H Q I (f σ H Q q)⟩
theorem PA.of {X : Cx} {e : List Expr} {t t' : TA} (h : PA X e t) (f : ∀ σ H Q, t' σ H Q → t σ H Q) : PA X e t' :=
  ⟨fun pos pins s σ H Q I q => h.run pos pins s σ H Q I (f σ H Q q)⟩
theorem PK.of {X : Cx} {e : List Keyword} {t t' : TA} (h : PK X e t) (f : ∀ σ H Q, t' σ H Q → t σ H Q) : PK X e t' :=
  ⟨fun pos pins s σ H Q I q => h.run pos pins s σ H Q I (f σ H Q q)⟩
theorem PS.of {X : Cx} {e : Stmt} {t t' : TS} (h : PS X e t) (f : ∀ D σ H, t' D σ H → t D σ H) : PS X e t' :=
  ⟨fun pins s σ H D I q => h.run pins s σ H D I (f D σ H q)⟩
theorem PSs.of {X : Cx} {e : List Stmt} {t t' : TS} (h : PSs X e t) (f : ∀ D σ H, t' D σ H → t D σ H) : PSs X e t' :=
  ⟨fun pins s σ H D I q => h.run pins s σ H D I (f D σ H q)⟩

/-! ### new objects -/
theorem Good.rsvd {K mu M H} (g : Good K mu M H) (a : Addr) (ha : a ∈ mu.rsv) : H a ≠ none := by
  obtain ⟨o, e, _⟩ := g.rsvd' a ha
  rw [e]; simp
theorem Good.fresh {K mu M H} (g : Good K mu M H) {p : Addr} (h : H p = none) : mu.ok p := by
  refine ⟨fun hm => ?_, fun hm => g.rsvd p hm h⟩
  obtain ⟨n, hn⟩ := List.mem_iff_getElem?.mp hm
  have hl : n < M.length := by rw [← g.len]; exact (List.getElem?_eq_some_iff.mp hn).1
  have hc := g.cell n _ (List.getElem?_eq_getElem hl)
  cases e : M[n] with
  | lst xs => rw [e] at hc; obtain ⟨b, vs, h1, h2, _⟩ := hc; rw [hn] at h1; cases h1; rw [h] at h2; cases h2
  | dct ks ws => rw [e] at hc; obtain ⟨b, vs, h1, h2, _⟩ := hc; rw [hn] at h1; cases h1; rw [h] at h2; cases h2
  | dead => rw [e] at hc; have hc : mu.cells[n]? = some none := hc; rw [hn] at hc; cases hc
theorem Ext.upd {K mu M H p o} (g : Good K mu M H) (h : H p = none) : Ext mu H mu (L2.upd H p o) where
  len := Nat.le_refl _
  old := fun _ _ => .inl rfl
  new := fun n a h e => by rw [List.getElem?_eq_none h] at e; cases e
  keep := fun a u q _ => by rw [upd_ne (ne_of_none q h)]; exact q
  there := fun a q => by
    by_cases e : a = p
    · subst e; exact absurd h q
    · rw [upd_ne e]; exact q
  rsv := rfl
  held := fun a ha => upd_ne fun e => by subst e; exact g.rsvd a ha h
/-- the heap goes on, the cells stay -/
theorem Good.stay {K mu M H H'} (g : Good K mu M H) (x : Ext mu H mu H') (k : ∀ a, some a ∈ mu.cells → H' a = H a) : Good K mu M H' where
  len := g.len
  inj := g.inj
  rsvd' := fun a ha => by rw [x.held a ha]; exact g.rsvd' a ha
  disj := g.disj
  cell := fun n c e => by
    have hc := g.cell n c e
    cases c with
    | lst xs => obtain ⟨a, vs, h1, h2, h3, h4⟩ := hc; exact ⟨a, vs, h1, by rw [k a (List.mem_iff_getElem?.mpr ⟨n, h1⟩)]; exact h2, h3.ext x, h4⟩
    | dct ks ws => obtain ⟨a, vs, h1, h2, h3, h4, h5⟩ := hc; exact ⟨a, vs, h1, by rw [k a (List.mem_iff_getElem?.mpr ⟨n, h1⟩)]; exact h2, h3.ext x, h4.ext x, h5⟩
    | dead => exact hc
theorem Good.upd {K mu M H p o} (g : Good K mu M H) (h : H p = none) : Good K mu M (L2.upd H p o) :=
  g.stay (Ext.upd g h) fun a ha => upd_ne fun e => by subst e; exact (g.fresh h).1 ha
/-- a new cell -/
theorem Ext.push {K mu M H p o} (g : Good K mu M H) (h : H p = none) : Ext mu H (mu.push p) (L2.upd H p o) where
  len := by simp [Mu.push]
  old := fun n hn => .inl (by unfold Mu.push; rw [List.getElem?_append_left hn])
  new := fun n a hn e => by
    unfold Mu.push at e
    rw [List.getElem?_append_right hn] at e
    cases k : n - mu.cells.length with
    | zero => rw [k] at e; simp at e; rw [← e]; exact h
    | succ j => rw [k] at e; simp at e
  keep := fun a u q _ => by rw [upd_ne (ne_of_none q h)]; exact q
  there := fun a q => by
    by_cases e : a = p
    · subst e; exact absurd h q
    · rw [upd_ne e]; exact q
  rsv := rfl
  held := fun a ha => upd_ne fun e => by subst e; exact g.rsvd a ha h
theorem RVs.length {K mu H} : ∀ {ws : List W} {vs : List V}, RVs K mu H ws vs → ws.length = vs.length
  | _, _, .nil => rfl
  | _, _, .cons _ r => by rw [List.length_cons, List.length_cons, RVs.length r]
theorem Good.push {K mu M H p xs vs} (g : Good K mu M H) (h : H p = none) (r : RVs K mu H xs vs) (nr : noRefs xs = true) : Good K (mu.push p) (M ++ [.lst xs]) (L2.upd H p (.lst vs)) where
  len := by simp [Mu.push, g.len]
  rsvd' := fun a ha => by rw [(Ext.push g h).held a ha]; exact g.rsvd' a ha
  disj := fun a ha hm => by
    rcases List.mem_append.mp hm with q | q
    · exact g.disj a ha q
    · simp at q; subst q; exact g.rsvd a ha h
  inj := fun i j a hi hj => by
    have pos : ∀ k : Nat, (mu.cells ++ [some p])[k]? = some (some a) → (k < mu.cells.length ∧ mu.cells[k]? = some (some a)) ∨ (k = mu.cells.length ∧ a = p) := fun k e => by
      by_cases hk : k < mu.cells.length
      · rw [List.getElem?_append_left hk] at e; exact .inl ⟨hk, e⟩
      · rw [List.getElem?_append_right (Nat.le_of_not_lt hk)] at e
        cases q : k - mu.cells.length with
        | zero => rw [q] at e; simp at e; exact .inr ⟨by omega, e.symm⟩
        | succ j => rw [q] at e; simp at e
    rcases pos i hi with ⟨_, a1⟩ | ⟨a1, a2⟩ <;> rcases pos j hj with ⟨_, b1⟩ | ⟨b1, b2⟩
    · exact g.inj i j a a1 b1
    · subst b2; exact absurd (List.mem_iff_getElem?.mpr ⟨i, a1⟩) (g.fresh h).1
    · subst a2; exact absurd (List.mem_iff_getElem?.mpr ⟨j, b1⟩) (g.fresh h).1
    · omega
  cell := fun n c e => by
    have x : Ext mu H (mu.push p) (L2.upd H p (.lst vs)) := Ext.push g h
    by_cases hn : n < M.length
    · rw [List.getElem?_append_left hn] at e
      have hn' : n < mu.cells.length := by rw [g.len]; exact hn
      have hc := g.cell n c e
      have ap : (mu.push p).cells[n]? = mu.cells[n]? := List.getElem?_append_left hn'
      cases c with
      | lst ys => obtain ⟨a, us, h1, h2, h3, h4⟩ := hc; exact ⟨a, us, by rw [ap]; exact h1, by rw [upd_ne (ne_of_none h2 h)]; exact h2, h3.ext x, h4⟩
      | dct ks ws => obtain ⟨a, us, h1, h2, h3, h4, h5⟩ := hc; exact ⟨a, us, by rw [ap]; exact h1, by rw [upd_ne (ne_of_none h2 h)]; exact h2, h3.ext x, h4.ext x, h5⟩
      | dead => show (mu.push p).cells[n]? = some none; rw [ap]; exact hc
    · rw [List.getElem?_append_right (Nat.le_of_not_lt hn)] at e
      cases q : n - M.length with
      | zero =>
        rw [q] at e; simp at e; subst e
        refine ⟨p, vs, ?_, upd_same, r.ext x, nr⟩
        have : n = mu.cells.length := by rw [g.len]; omega
        subst this; simp [Mu.push]
      | succ j => rw [q] at e; simp at e
/-! ### an address set aside -/
def hid (H : Hp) (D : Addr) : Hp := fun a => if a = D then none else H a
theorem hid_ne {H : Hp} {D a : Addr} (h : a ≠ D) : hid H D a = H a := by unfold hid; rw [if_neg h]
theorem hid_at {H : Hp} {D : Addr} : hid H D D = none := by unfold hid; rw [if_pos rfl]
theorem hid_upd {H : Hp} {D : Addr} {o : HO} (h : H D = some o) : L2.upd (hid H D) D o = H := by
  funext a
  by_cases e : a = D
  · subst e; rw [upd_same, h]
  · rw [upd_ne e, hid_ne e]
theorem Mu.ok.hold {mu : Mu} {D a : Addr} (h : mu.ok a) (n : a ≠ D) : (mu.hold D).ok a := ⟨h.1, fun q => (List.mem_cons.mp q).elim n h.2⟩
mutual
theorem RV.hold {K mu H D o} (hD : H D = none) : ∀ {w : W} {v : V}, RV K mu H w v → RV K (mu.hold D) (L2.upd H D o) w v
  | _, _, .non => .non
  | _, _, .bl b => .bl b
  | _, _, .int i => .int i
  | _, _, .str l h => .str l h
  | _, _, .tup h n r => .tup (by rw [upd_ne (ne_of_none h hD)]; exact h) (n.hold (ne_of_none h hD)) (RVs.hold hD r)
  | _, _, .tupK h d n r => .tupK (by rw [upd_ne (ne_of_none h hD)]; exact h) d (n.hold (ne_of_none h hD)) (RVs.hold hD r)
  | _, _, .ktup a b c d e r => .ktup a b c d e (RVs.hold hD r)
  | _, _, .lst h n r => .lst (by rw [upd_ne (ne_of_none h hD)]; exact h) (n.hold (ne_of_none h hD)) (RVs.hold hD r)
  | _, _, .dct h n r q => .dct (by rw [upd_ne (ne_of_none h hD)]; exact h) (n.hold (ne_of_none h hD)) (RVs.hold hD r) (RVs.hold hD q)
  | _, _, .fz h n => .fz (by rw [upd_ne (ne_of_none h hD)]; exact h) (n.hold (ne_of_none h hD))
  | _, _, .kfz h => .kfz h
  | _, _, .ref h => .ref h
theorem RVs.hold {K mu H D o} (hD : H D = none) : ∀ {ws : List W} {vs : List V}, RVs K mu H ws vs → RVs K (mu.hold D) (L2.upd H D o) ws vs
  | _, _, .nil => .nil
  | _, _, .cons a b => .cons (RV.hold hD a) (RVs.hold hD b)
end
theorem Mu.ok.unhold {mu : Mu} {D a : Addr} (h : (mu.hold D).ok a) : mu.ok a ∧ a ≠ D := ⟨⟨h.1, fun q => h.2 (List.mem_cons_of_mem _ q)⟩, fun e => h.2 (e ▸ List.mem_cons_self)⟩
mutual
theorem RV.unhold {K mu H D} : ∀ {w : W} {v : V}, RV K (Mu.hold mu D) H w v → RV K mu (hid H D) w v
  | _, _, .non => .non
  | _, _, .bl b => .bl b
  | _, _, .int i => .int i
  | _, _, .str l h => .str l h
  | _, _, .tup h n r => .tup (by rw [hid_ne n.unhold.2]; exact h) n.unhold.1 (RVs.unhold r)
  | _, _, .tupK h d n r => .tupK (by rw [hid_ne n.unhold.2]; exact h) d n.unhold.1 (RVs.unhold r)
  | _, _, .ktup a b c d e r => .ktup a b c d e (RVs.unhold r)
  | _, _, .lst h n r => .lst (by rw [hid_ne n.unhold.2]; exact h) n.unhold.1 (RVs.unhold r)
  | _, _, .dct h n r q => .dct (by rw [hid_ne n.unhold.2]; exact h) n.unhold.1 (RVs.unhold r) (RVs.unhold q)
  | _, _, .fz h n => .fz (by rw [hid_ne n.unhold.2]; exact h) n.unhold.1
  | _, _, .kfz h => .kfz h
  | _, _, .ref h => .ref h
theorem RVs.unhold {K mu H D} : ∀ {ws : List W} {vs : List V}, RVs K (Mu.hold mu D) H ws vs → RVs K mu (hid H D) ws vs
  | _, _, .nil => .nil
  | _, _, .cons a b => .cons (RV.unhold a) (RVs.unhold b)
end
/-! what is set aside is changed: nothing else is -/
theorem Mu.ok.ne {mu : Mu} {D a : Addr} (h : mu.ok a) (hm : D ∈ mu.rsv) : a ≠ D := fun e => by subst e; exact h.2 hm
mutual
theorem RV.held {K mu H D o} (hm : D ∈ Mu.rsv mu) : ∀ {w : W} {v : V}, RV K mu H w v → RV K mu (L2.upd H D o) w v
  | _, _, .non => .non
  | _, _, .bl b => .bl b
  | _, _, .int i => .int i
  | _, _, .str l h => .str l h
  | _, _, .tup h n r => .tup (by rw [upd_ne (n.ne hm)]; exact h) n (RVs.held hm r)
  | _, _, .tupK h d n r => .tupK (by rw [upd_ne (n.ne hm)]; exact h) d n (RVs.held hm r)
  | _, _, .ktup a b c d e r => .ktup a b c d e (RVs.held hm r)
  | _, _, .lst h n r => .lst (by rw [upd_ne (n.ne hm)]; exact h) n (RVs.held hm r)
  | _, _, .dct h n r q => .dct (by rw [upd_ne (n.ne hm)]; exact h) n (RVs.held hm r) (RVs.held hm q)
  | _, _, .fz h n => .fz (by rw [upd_ne (n.ne hm)]; exact h) n
  | _, _, .kfz h => .kfz h
  | _, _, .ref h => .ref h
theorem RVs.held {K mu H D o} (hm : D ∈ Mu.rsv mu) : ∀ {ws : List W} {vs : List V}, RVs K mu H ws vs → RVs K mu (L2.upd H D o) ws vs
  | _, _, .nil => .nil
  | _, _, .cons a b => .cons (RV.held hm a) (RVs.held hm b)
end
/-- cells carried over, by any way that carries values -/
theorem CellOk.map {K mu H mu' H' n c} (hc : CellOk K mu H n c) (he : mu'.cells = mu.cells) (hk : ∀ a, some a ∈ mu.cells → H' a = H a) (hr : ∀ {ws : List W} {vs : List V}, RVs K mu H ws vs → RVs K mu' H' ws vs) : CellOk K mu' H' n c := by
  cases c with
  | lst xs => obtain ⟨a, vs, h1, h2, h3, h4⟩ := hc; exact ⟨a, vs, by rw [he]; exact h1, by rw [hk a (List.mem_iff_getElem?.mpr ⟨n, h1⟩)]; exact h2, hr h3, h4⟩
  | dct ks ws => obtain ⟨a, vs, h1, h2, h3, h4, h5⟩ := hc; exact ⟨a, vs, by rw [he]; exact h1, by rw [hk a (List.mem_iff_getElem?.mpr ⟨n, h1⟩)]; exact h2, hr h3, hr h4, h5⟩
  | dead => show mu'.cells[n]? = some none; rw [he]; exact hc
theorem Good.hold {K mu M H D o} (g : Good K mu M H) (hD : H D = none) (ho : mutB o = true) : Good K (mu.hold D) M (L2.upd H D o) where
  len := g.len
  inj := g.inj
  rsvd' := fun a ha => by
    rcases List.mem_cons.mp ha with e | e
    · subst e; exact ⟨o, upd_same, ho⟩
    · rw [upd_ne (fun q => by subst q; exact g.rsvd a e hD)]; exact g.rsvd' a e
  disj := fun a ha => by
    rcases List.mem_cons.mp ha with e | e
    · subst e; exact (g.fresh hD).1
    · exact g.disj a e
  cell := fun n c e => (g.cell n c e).map rfl (fun a ha => upd_ne fun q => by subst q; exact (g.fresh hD).1 ha) (RVs.hold hD)
theorem Good.unhold {K mu M H D} (g : Good K (Mu.hold mu D) M H) (hD : D ∉ mu.rsv) : Good K mu M (hid H D) where
  len := g.len
  inj := g.inj
  rsvd' := fun a ha => by rw [hid_ne (fun q => by subst q; exact hD ha)]; exact g.rsvd' a (List.mem_cons_of_mem _ ha)
  disj := fun a ha => g.disj a (List.mem_cons_of_mem _ ha)
  cell := fun n c e => (g.cell n c e).map rfl (fun a ha => hid_ne fun q => by subst q; exact g.disj a List.mem_cons_self ha) RVs.unhold
theorem Good.held {K mu M H D o} (g : Good K mu M H) (hm : D ∈ mu.rsv) (ho : mutB o = true) : Good K mu M (L2.upd H D o) where
  len := g.len
  inj := g.inj
  rsvd' := fun a ha => by
    by_cases e : a = D
    · subst e; exact ⟨o, upd_same, ho⟩
    · rw [upd_ne e]; exact g.rsvd' a ha
  disj := g.disj
  cell := fun n c e => (g.cell n c e).map rfl (fun a ha => upd_ne fun q => by subst q; exact g.disj a hm ha) (RVs.held hm)
theorem RS.map {K mu H mu' H' r σ} (s : RS K mu H r σ) (f : ∀ {w : W} {v : V}, RV K mu H w v → RV K mu' H' w v) : RS K mu' H' r σ :=
  ⟨s.len, fun i w e => let ⟨v, h, q⟩ := s.at_ i w e; ⟨v, h, f q⟩⟩
theorem ExtW.hold {mu H D} (n : H D ≠ none) : ExtW mu (hid H D) (Mu.hold mu D) H where
  len := Nat.le_refl _
  old := fun _ _ => .inl rfl
  new := fun n a h e => by
    have e : mu.cells[n]? = some (some a) := e
    rw [List.getElem?_eq_none h] at e; cases e
  keep := fun a o h _ => by
    by_cases e : a = D
    · subst e; rw [hid_at] at h; cases h
    · rw [hid_ne e] at h; exact h
  there := fun a h => by
    by_cases e : a = D
    · subst e; exact n
    · rw [hid_ne e] at h; exact h
  rsvW := fun a h => by
    rcases List.mem_cons.mp h with e | e
    · subst e; exact .inr hid_at
    · exact .inl e
theorem Ext.split {mu D H mu2 H2} (x : Ext (Mu.hold mu D) H mu2 H2) : ∃ mu3, mu2 = Mu.hold mu3 D ∧ mu3.rsv = mu.rsv := by
  obtain ⟨c, rs⟩ := mu2
  have e : rs = D :: mu.rsv := x.rsv
  subst e
  exact ⟨⟨c, mu.rsv⟩, rfl, rfl⟩
theorem Ext.unhold {mu D H mu3 H2} (x : Ext (Mu.hold mu D) H (Mu.hold mu3 D) H2) (hD : D ∉ mu.rsv) : Ext mu (hid H D) mu3 (hid H2 D) where
  len := x.len
  old := x.old
  new := fun n a h e => by
    by_cases q : a = D
    · subst q; exact hid_at
    · rw [hid_ne q]; exact x.new n a h e
  keep := fun a o h n => by
    by_cases q : a = D
    · subst q; rw [hid_at] at h; cases h
    · rw [hid_ne q] at h ⊢; exact x.keep a o h (n.hold q)
  there := fun a h => by
    by_cases q : a = D
    · subst q; exact absurd hid_at h
    · rw [hid_ne q] at h ⊢; exact x.there a h
  rsv := (List.cons.inj x.rsv).2
  held := fun a h => by
    have q : a ≠ D := fun q => by subst q; exact hD h
    rw [hid_ne q, hid_ne q]; exact x.held a (List.mem_cons_of_mem _ h)
theorem Post.hold {α : Type} {K mu D H} {P : α → MH → Mu → Hp → Prop} {x : R α} (hD : D ∉ Mu.rsv mu) (h : Post K mu (hid H D) P x) :
    Post K (mu.hold D) H (fun a M2 mu2 H2 => ∃ mu3, mu2 = Mu.hold mu3 D ∧ mu3.rsv = mu.rsv ∧ Ext mu (hid H D) mu3 (hid H2 D) ∧ P a M2 mu3 (hid H2 D)) x := by
  cases x with
  | ok a M' =>
    intro mu2 H2 e g
    obtain ⟨mu3, rfl, h3⟩ := e.split
    exact ⟨mu3, rfl, h3, e.unhold hD, h mu3 _ (e.unhold hD) (g.unhold (by rw [h3]; exact hD))⟩
  | exc c M => exact h
  | bad => exact h
theorem hid_upd' {H : Hp} {D : Addr} {o : HO} : hid (L2.upd H D o) D = hid H D := by
  funext a
  by_cases e : a = D
  · subst e; rw [hid_at, hid_at]
  · rw [hid_ne e, hid_ne e, upd_ne e]
theorem hid_none {H : Hp} {D : Addr} (h : H D = none) : hid H D = H := by
  funext a
  by_cases e : a = D
  · subst e; rw [hid_at, h]
  · rw [hid_ne e]
end Py

namespace Py
open PySem L2

/-! ## reading -/
/-- a tuple stands there -/
def TupAt (K : PySem.W.Frag) (H : Hp) (a : Addr) (k : Bool) (vs : List V) : Prop := (∃ o, H a = some (.frz o (.tup vs)) ∧ o.dict = none) ∨ k = false ∧ (H a = some (.tup vs) ∨
  ∃ (o : Obj) (its : Array Value) (n : Nat), K.lookup a = some o ∧ o.cls = .type "tuple" ∧ o.data = .seq its n ∧ its.size ≤ sizeLine ∧ Vals vs its.toList)
theorem TupAt.sq {K H a k vs} (h : TupAt K H a k vs) : SqT K H a vs := by
  rcases h with ⟨o, h, _⟩ | ⟨_, h | h⟩
  · exact .inl (.inr ⟨o, h⟩)
  · exact .inl (.inl h)
  · exact .inr h
inductive RD (K : PySem.W.Frag) (mu : Mu) (H : Hp) : W → V → Prop
  | non : RD K mu H .non .non
  | bl (b : Bool) : RD K mu H (.bl b) (.bl b)
  | int (i : Int) : RD K mu H (.int i) (.int i)
  | str (l : List Nat) : (∀ c ∈ l, c < 128) → RD K mu H (.str l) (.str ⟨l.toArray⟩)
  | tup {k : Bool} {ws : List W} {vs : List V} {a : Addr} : TupAt K H a k vs → RVs K mu H ws vs → RD K mu H (.tup k ws) (.ref a)
  | lst {ws : List W} {vs : List V} {a : Addr} : H a = some (.lst vs) → RVs K mu H ws vs → RD K mu H (.lst ws) (.ref a)
  | dct {ks ws : List W} {kvs : List (Key × V)} {a : Addr} : H a = some (.dK kvs) → RVs K mu H ks (kvs.map fun p => kV p.1) → RVs K mu H ws (kvs.map (·.2)) → RD K mu H (.dct ks ws) (.ref a)
  | fz {ns : List Int} {a : Addr} : SqL K H a (ns.map V.int) → RD K mu H (.fz ns) (.ref a)
  | ref {n : Nat} {a : Addr} : RD K mu H (.ref n) (.ref a)
theorem RV.rd {K mu M H w v} (g : Good K mu M H) (h : RV K mu H w v) : RD K mu H (rd M w) v := by
  cases h with
  | non => exact .non
  | bl b => exact .bl b
  | int i => exact .int i
  | str l h => exact .str l h
  | tup a b c => exact .tup (.inr ⟨rfl, .inl a⟩) c
  | tupK a d b c => exact .tup (.inl ⟨_, a, d⟩) c
  | ktup a b c d e f => exact .tup (.inr ⟨rfl, .inr ⟨_, _, _, a, b, c, d, e⟩⟩) f
  | lst a b c => exact .lst a c
  | dct a b c d => exact .dct a c d
  | fz a b => exact .fz (.inl (.inr ⟨_, a⟩))
  | kfz a => exact .fz (.inr a)
  | @ref n a h =>
    show RD K mu H (match M[n]? with | some (.lst xs) => W.lst xs | some (.dct ks vs) => W.dct ks vs | _ => W.ref n) (.ref a)
    cases e : M[n]? with
    | none => exact .ref
    | some c =>
      have hc := g.cell n c e
      cases c with
      | lst xs =>
        obtain ⟨b, vs, h1, h2, h3, _⟩ := hc
        rcases h with h | h
        · rw [h1] at h; cases h; exact .lst h2 h3
        · rw [h1] at h; cases h
      | dct ks vs =>
        obtain ⟨b, kvs, h1, h2, h3, h4, _⟩ := hc
        rcases h with h | h
        · rw [h1] at h; cases h; exact .dct h2 h3 h4
        · rw [h1] at h; cases h
      | dead => exact .ref
theorem Good.nomut {K mu M H a o} (g : Good K mu M H) (h : H a = some o) (ho : mutB o = false) : mu.ok a := by
  refine ⟨fun hm => ?_, fun hm => by obtain ⟨o', e, n⟩ := g.rsvd' a hm; rw [h] at e; cases e; rw [ho] at n; cases n⟩
  obtain ⟨n, hn⟩ := List.mem_iff_getElem?.mp hm
  have hl : n < M.length := by rw [← g.len]; exact (List.getElem?_eq_some_iff.mp hn).1
  have hc := g.cell n _ (List.getElem?_eq_getElem hl)
  cases e : M[n] with
  | lst xs => rw [e] at hc; obtain ⟨b, us, h1, h2, _⟩ := hc; rw [hn] at h1; cases h1; rw [h] at h2; cases h2; cases ho
  | dct ks ws => rw [e] at hc; obtain ⟨b, us, h1, h2, _⟩ := hc; rw [hn] at h1; cases h1; rw [h] at h2; cases h2; cases ho
  | dead => rw [e] at hc; have hc : mu.cells[n]? = some none := hc; rw [hn] at hc; cases hc
theorem RV.ofTup {K mu M H a k vs ws} (g : Good K mu M H) (h : TupAt K H a k vs) (r : RVs K mu H ws vs) : RV K mu H (.tup k ws) (.ref a) := by
  rcases h with ⟨o, h, d⟩ | ⟨rfl, h | ⟨o, its, n, a1, a2, a3, a4, a5⟩⟩
  · exact .tupK h d (g.nomut h rfl) r
  · exact .tup h (g.nomut h rfl) r
  · exact .ktup a1 a2 a3 a4 a5 r
theorem TupAt.weak {K H a k vs} (h : TupAt K H a k vs) : TupAt K H a false vs := h.elim .inl fun h => .inr ⟨rfl, h.2⟩
/-- a new tuple, a new list -/
theorem RV.newTup {K mu M H p vs ws} (g : Good K mu M H) (h : H p = none) (r : RVs K mu H ws vs) : RV K mu (L2.upd H p (.tup vs)) (.tup false ws) (.ref p) :=
  .tup upd_same (g.fresh h) (r.ext (Ext.upd g h))
theorem RV.newLst {K mu M H p vs ws} (g : Good K mu M H) (h : H p = none) (r : RVs K mu H ws vs) : RV K mu (L2.upd H p (.lst vs)) (.lst ws) (.ref p) :=
  .lst upd_same (g.fresh h) (r.ext (Ext.upd g h))
theorem RV.newTupK {K mu M H p o vs ws k} (g : Good K mu M H) (h : H p = none) (ho : o.dict = none) (r : RVs K mu H ws vs) : RV K mu (L2.upd H p (.frz o (.tup vs))) (.tup k ws) (.ref p) :=
  .tupK upd_same ho (g.fresh h) (r.ext (Ext.upd g h))
theorem RVs.append {K mu H} : ∀ {ws us : List W} {vs xs : List V}, RVs K mu H ws vs → RVs K mu H us xs → RVs K mu H (ws ++ us) (vs ++ xs)
  | _, _, _, _, .nil, r => r
  | _, _, _, _, .cons a b, r => .cons a (RVs.append b r)
theorem RVs.get {K mu H} : ∀ {ws : List W} {vs : List V} {i : Nat} {w : W}, RVs K mu H ws vs → ws[i]? = some w → ∃ v, vs[i]? = some v ∧ RV K mu H w v
  | _, _, _, _, .nil, e => by simp at e
  | _, _, 0, _, .cons a _, e => by simp at e; subst e; exact ⟨_, by simp, a⟩
  | _, _, i + 1, _, .cons _ b, e => by
    obtain ⟨v, h1, h2⟩ := RVs.get b (i := i) (by simpa using e)
    exact ⟨v, by simpa using h1, h2⟩
theorem RVs.drop {K mu H} : ∀ {ws : List W} {vs : List V} (n : Nat), RVs K mu H ws vs → RVs K mu H (ws.drop n) (vs.drop n)
  | _, _, 0, r => by simpa using r
  | _, _, _ + 1, .nil => .nil
  | _, _, n + 1, .cons _ b => by simpa using RVs.drop n b
theorem RVs.take {K mu H} : ∀ {ws : List W} {vs : List V} (n : Nat), RVs K mu H ws vs → RVs K mu H (ws.take n) (vs.take n)
  | _, _, 0, r => by simpa using RVs.nil
  | _, _, _ + 1, .nil => .nil
  | _, _, n + 1, .cons a b => by simpa using RVs.cons a (RVs.take n b)
theorem RVs.ints {K mu H} : ∀ (ns : List Int), RVs K mu H (ns.map W.int) (ns.map V.int)
  | [] => .nil
  | n :: ns => .cons (.int n) (RVs.ints ns)

/-! ## names, constants -/
def eVar (i : Nat) : Ev := fun r M => match r[i]? with
  | some (some w) => .ok w M
  | _ => .bad
def eC (w : W) : Ev := fun _ M => .ok w M
section
variable {X : Cx} {a b c : Expr} {ma mb mc : Ev} {pos : Pos}
theorem sd_var {i : Nat} {x : Str} (h : PE X (.Name x pos) (tVar i)) : PE X (.Name x pos) (den X.K (eVar i)) := by
  refine PE.of h fun σ H Q ⟨mu, M, r, g, s, h⟩ => ?_
  unfold eVar at h
  split at h
  · rename_i w e
    obtain ⟨v, e1, rv⟩ := s.at_ i w e
    exact ⟨v, e1, h mu H Ext.refl g v rv⟩
  · exact False.elim h
theorem sd_const {e : Expr} {v : V} {w : W} (h : PE X e (tC v)) (rv : ∀ mu H, RV X.K mu H w v) : PE X e (den X.K (eC w)) :=
  PE.of h fun σ H Q ⟨mu, M, r, g, s, h⟩ => h mu H Ext.refl g v (rv mu H)
theorem sd_int {i : Int} {j pos} : PE X (.Constant (.int i) j pos) (den X.K (eC (.int i))) := sd_const pe_int fun _ _ => .int i
theorem sd_bl {i : Bool} {j pos} : PE X (.Constant (.bool i) j pos) (den X.K (eC (.bl i))) := sd_const pe_bl fun _ _ => .bl i
theorem sd_non {j pos} : PE X (.Constant .none j pos) (den X.K (eC .non)) := sd_const pe_non fun _ _ => .non
theorem sd_str {x : Str} {l : List Nat} {j pos} (h : x.cps = l.toArray := by decide +kernel) (h2 : (l.all fun c => decide (c < 128)) = true := by decide +kernel) : PE X (.Constant (.str x) j pos) (den X.K (eC (.str l))) :=
  sd_const pe_str fun _ _ => by
    have : x = ⟨l.toArray⟩ := by cases x; cases h; rfl
    subst this
    exact .str l fun c hc => by simpa using List.all_eq_true.mp h2 c hc

/-! ## operators by values -/
def eOp (f : W → W → Option W) (ma mb : Ev) : Ev := fun r M => (ma r M).bind fun x M1 => (mb r M1).bind fun y M2 => R.ofO (f (rd M2 x) (rd M2 y)) M2
def eUn (f : W → Option W) (ma : Ev) : Ev := fun r M => (ma r M).bind fun x M1 => R.ofO (f (rd M1 x)) M1
def OpS (K : PySem.W.Frag) (t : R2) (f : W → W → Option W) : Prop := ∀ mu M H x y vx vy w (Q : VK), Good K mu M H → RD K mu H x vx → RD K mu H y vy → f x y = some w →
  (∀ v H', Ext mu H mu H' → Good K mu M H' → RV K mu H' w v → Q v H') → t vx vy H Q
def UnS (K : PySem.W.Frag) (t : V → Hp → VK → Prop) (f : W → Option W) : Prop := ∀ mu M H x vx w (Q : VK), Good K mu M H → RD K mu H x vx → f x = some w →
  (∀ v H', Ext mu H mu H' → Good K mu M H' → RV K mu H' w v → Q v H') → t vx H Q
theorem op_core {K : PySem.W.Frag} {f : W → W → Option W} {t : R2} (hs : OpS K t f) {σ H Q} (h : den K (eOp f ma mb) σ H Q) : tOp t (den K ma) (den K mb) σ H Q := by
  obtain ⟨mu, M, r, g, s, h⟩ := h
  refine ⟨mu, M, r, g, s, (Post.bind h).imp fun x M1 mu1 H1 e1 g1 h1 vx rx => ?_⟩
  refine ⟨mu1, M1, r, g1, s.ext e1, (Post.bind h1).imp fun y M2 mu2 H2 e2 g2 h2 vy ry => ?_⟩
  cases q : f (rd M2 x) (rd M2 y) with
  | none => rw [q] at h2; exact False.elim h2
  | some w =>
    rw [q] at h2
    exact hs mu2 M2 H2 _ _ vx vy w Q g2 ((rx.ext e2).rd g2) (ry.rd g2) q fun v H' e g' rv => h2 mu2 H' e g' v rv
theorem sd_op {op : Operator} {f : W → W → Option W} {t : R2} (ho : OpR X (binaryOp op) t) (hs : OpS X.K t f) (ha : PE X a (den X.K ma)) (hb : PE X b (den X.K mb)) : PE X (.BinOp a op b pos) (den X.K (eOp f ma mb)) :=
  PE.of (pe_op ho ha hb) fun σ H Q h => op_core hs h
theorem sd_cmp {op : CmpOp} {f : W → W → Option W} {t : R2} (ho : OpR X (compareOp op) t) (hs : OpS X.K t f) (ha : PE X a (den X.K ma)) (hb : PE X b (den X.K mb)) (hm : behindInMarks op b = false) : PE X (.Compare a [op] [b] pos) (den X.K (eOp f ma mb)) :=
  PE.of (pe_cmpR ho ha hb hm) fun σ H Q h => op_core hs h
theorem sd_un {op : UnaryOp} {f : W → Option W} {t : V → Hp → VK → Prop} (ho : UnR X (unaryOp op) t) (hs : UnS X.K t f) (ha : PE X a (den X.K ma)) : PE X (.UnaryOp op a pos) (den X.K (eUn f ma)) := by
  refine PE.of (pe_un ho ha) fun σ H Q ⟨mu, M, r, g, s, h⟩ => ?_
  refine ⟨mu, M, r, g, s, (Post.bind h).imp fun x M1 mu1 H1 e1 g1 h1 vx rx => ?_⟩
  cases q : f (rd M1 x) with
  | none => rw [q] at h1; exact False.elim h1
  | some w =>
    rw [q] at h1
    exact hs mu1 M1 H1 _ vx w Q g1 (rx.rd g1) q fun v H' e g' rv => h1 mu1 H' e g' v rv
theorem OpS.or {K : PySem.W.Frag} {t t' : R2} {f f' : W → W → Option W} (h : OpS K t f) (h' : OpS K t' f') : OpS K (fun x y H Q => t x y H Q ∨ t' x y H Q) (fun x y => (f x y).or (f' x y)) := by
  intro mu M H x y vx vy w Q g rx ry e k
  dsimp only at e
  cases q : f x y with
  | some u => rw [q] at e; exact .inl (h mu M H x y vx vy w Q g rx ry (q.trans e) k)
  | none => rw [q] at e; exact .inr (h' mu M H x y vx vy w Q g rx ry e k)
end

/-! ### arithmetic -/
def line : Nat := 16777216
theorem line_eq : sizeLine = line := by rw [sizeLine_eq]; rfl
def addW : W → W → Option W
  | .int i, .int j => some (.int (i + j))
  | .str a, .str b => if a.length + b.length ≤ line then some (.str (a ++ b)) else none
  | .lst a, .lst b => if a.length + b.length ≤ line then some (.lst (a ++ b)) else none
  | .tup _ a, .tup _ b => if a.length + b.length ≤ line then some (.tup false (a ++ b)) else none
  | _, _ => none
def rAddW (K : PySem.W.Frag) : R2 := fun x y H Q =>
  (((rI0 fun i j => .int (i + j)) x y H Q ∨ (∃ i j, x = .str i ∧ y = .str j ∧ i.length + j.length ≤ sizeLine ∧ Q (.str (i ++ j)) H)) ∨ rCat x y H Q) ∨ rCatA K x y H Q
theorem or_add {X : Cx} : OpR X (binaryOp .Add) (rAddW X.K) := ((op_add.or op_add_str).or op_cat).or op_catA
theorem str_app (a b : List Nat) : (⟨a.toArray⟩ : Str) ++ ⟨b.toArray⟩ = ⟨(a ++ b).toArray⟩ := by
  show Str.mk (a.toArray ++ b.toArray) = _
  rw [List.append_toArray]
theorem str_len (a : List Nat) : (⟨a.toArray⟩ : Str).length = a.length := by
  show (a.toArray).size = _
  simp
theorem os_add {K : PySem.W.Frag} : OpS K (rAddW K) addW := by
  intro mu M H x y vx vy w Q g rx ry e k
  cases rx with
  | int i =>
    cases ry with
    | int j => cases e; exact .inl (.inl (.inl ⟨i, j, rfl, rfl, k _ _ Ext.refl g (.int _)⟩))
    | _ => cases e
  | str a ha =>
    cases ry with
    | str b hb =>
      simp only [addW] at e
      split at e
      · rename_i hz
        cases e
        refine .inl (.inl (.inr ⟨_, _, rfl, rfl, by rw [str_len, str_len, line_eq]; exact hz, ?_⟩))
        rw [str_app]
        exact k _ _ Ext.refl g (.str _ fun c hc => (List.mem_append.mp hc).elim (ha c) (hb c))
      · cases e
    | _ => cases e
  | lst h1 r1 =>
    cases ry with
    | lst h2 r2 =>
      simp only [addW] at e
      split at e
      · rename_i hz
        cases e
        refine .inl (.inr ⟨_, _, _, _, rfl, rfl, h1, h2, by rw [← r1.length, ← r2.length, line_eq]; exact hz, fun p hp => ?_⟩)
        exact k _ _ (Ext.upd g hp) (g.upd hp) (.newLst g hp (r1.append r2))
      · cases e
    | _ => cases e
  | tup h1 r1 =>
    cases ry with
    | tup h2 r2 =>
      simp only [addW] at e
      split at e
      · rename_i hz
        cases e
        refine .inr ⟨_, _, _, _, rfl, rfl, h1.sq, h2.sq, by rw [← r1.length, ← r2.length, line_eq]; exact hz, fun z => ?_, fun _ z => ?_, fun _ _ p hp => ?_⟩
        · subst z; cases r1
          exact k _ _ Ext.refl g (.ofTup g h2.weak r2)
        · subst z; cases r2
          rw [List.append_nil] at k
          exact k _ _ Ext.refl g (.ofTup g h1.weak r1)
        · exact k _ _ (Ext.upd g hp) (g.upd hp) (.newTup g hp (r1.append r2))
      · cases e
    | _ => cases e
  | _ => cases e
def iOp (C : Int → Int → Bool) (f : Int → Int → Int) : W → W → Option W
  | .int i, .int j => if C i j = true then some (.int (f i j)) else none
  | _, _ => none
theorem os_int {K : PySem.W.Frag} {C : Int → Int → Bool} {P : Int → Int → Prop} {f : Int → Int → Int} (h : ∀ i j, C i j = true → P i j) : OpS K (rI P fun i j => .int (f i j)) (iOp C f) := by
  intro mu M H x y vx vy w Q g rx ry e k
  cases rx with
  | int i =>
    cases ry with
    | int j =>
      simp only [iOp] at e
      split at e
      · rename_i hz; cases e; exact ⟨i, j, rfl, rfl, h i j hz, k _ _ Ext.refl g (.int _)⟩
      · cases e
    | _ => cases e
  | _ => cases e
def subW : W → W → Option W
  | .int i, .int j => some (.int (i - j))
  | _, _ => none
theorem os_sub {K : PySem.W.Frag} : OpS K (rI0 fun i j => .int (i - j)) subW := by
  intro mu M H x y vx vy w Q g rx ry e k
  cases rx with
  | int i =>
    cases ry with
    | int j => cases e; exact ⟨i, j, rfl, rfl, k _ _ Ext.refl g (.int _)⟩
    | _ => cases e
  | _ => cases e
def big : Int := 18446744073709551616
def mulC (i j : Int) : Bool := (decide (-big < i) && decide (i < big)) || (decide (-big < j) && decide (j < big))
def mulI : W → W → Option W := iOp mulC fun i j => i * j
theorem os_mulI {K : PySem.W.Frag} : OpS K (rI CMul fun i j => .int (i * j)) mulI := os_int fun i j h => by
  simp only [mulC, Bool.or_eq_true, Bool.and_eq_true, decide_eq_true_eq] at h
  exact h
/-- [..] * n; the last alternative: () * n is not served -/
def mulL : W → W → Option W
  | .lst a, .int k => if decide (-9223372036854775808 ≤ k) && decide (k < 9223372036854775808) && decide (a.length * k.toNat ≤ line) then some (.lst (List.replicate k.toNat a).flatten) else none
  | _, _ => none
theorem RVs.rep {K mu H ws vs} (r : RVs K mu H ws vs) : ∀ n : Nat, RVs K mu H (List.replicate n ws).flatten (List.replicate n vs).flatten
  | 0 => .nil
  | n + 1 => by
    rw [List.replicate_succ, List.replicate_succ, List.flatten_cons, List.flatten_cons]
    exact r.append (RVs.rep r n)
theorem os_mulL {K : PySem.W.Frag} : OpS K rRep mulL := by
  intro mu M H x y vx vy w Q g rx ry e k
  cases rx with
  | lst h1 r1 =>
    cases ry with
    | int j =>
      simp only [mulL] at e
      split at e
      · rename_i hz
        cases e
        simp only [Bool.and_eq_true, decide_eq_true_eq] at hz
        refine ⟨_, _, _, rfl, rfl, h1, hz.1.1, hz.1.2, by rw [← r1.length, line_eq]; exact hz.2, fun p hp => ?_⟩
        exact k _ _ (Ext.upd g hp) (g.upd hp) (.newLst g hp (r1.rep _))
      · cases e
    | _ => cases e
  | _ => cases e
def mulW : W → W → Option W := fun x y => (mulI x y).or (mulL x y)
def fdivC (i j : Int) : Bool := decide (0 < j) && decide (j < 1073741824)
def fdivW : W → W → Option W := iOp fdivC fun i j => i / j
def modC (i j : Int) : Bool := decide (0 < j)
def modW : W → W → Option W := iOp modC fun i j => i % j
def powC (i j : Int) : Bool := decide (0 ≤ j) && decide (j ≤ 1000000) && decide (i.natAbs < 18446744073709551616)
def powW : W → W → Option W := iOp powC fun i j => i ^ j.toNat
def negW : W → Option W
  | .int i => some (.int (-i))
  | _ => none
section
variable {X : Cx} {a b : Expr} {ma mb : Ev} {pos : Pos}
theorem sd_add (ha : PE X a (den X.K ma)) (hb : PE X b (den X.K mb)) : PE X (.BinOp a .Add b pos) (den X.K (eOp addW ma mb)) := sd_op or_add os_add ha hb
theorem sd_sub (ha : PE X a (den X.K ma)) (hb : PE X b (den X.K mb)) : PE X (.BinOp a .Sub b pos) (den X.K (eOp subW ma mb)) := sd_op op_sub os_sub ha hb
theorem sd_mul (ha : PE X a (den X.K ma)) (hb : PE X b (den X.K mb)) : PE X (.BinOp a .Mult b pos) (den X.K (eOp mulW ma mb)) := sd_op (op_mul.or op_rep) (os_mulI.or os_mulL) ha hb
theorem sd_fdiv (ha : PE X a (den X.K ma)) (hb : PE X b (den X.K mb)) : PE X (.BinOp a .FloorDiv b pos) (den X.K (eOp fdivW ma mb)) :=
  sd_op op_fdiv (os_int fun i j h => by simp only [fdivC, Bool.and_eq_true, decide_eq_true_eq] at h; exact h) ha hb
theorem sd_mod (ha : PE X a (den X.K ma)) (hb : PE X b (den X.K mb)) : PE X (.BinOp a .Mod b pos) (den X.K (eOp modW ma mb)) :=
  sd_op op_mod (os_int fun i j h => by simp only [modC, decide_eq_true_eq] at h; exact h) ha hb
theorem sd_pow (ha : PE X a (den X.K ma)) (hb : PE X b (den X.K mb)) : PE X (.BinOp a .Pow b pos) (den X.K (eOp powW ma mb)) :=
  sd_op op_pow (os_int fun i j h => by simp only [powC, Bool.and_eq_true, decide_eq_true_eq] at h; exact ⟨h.1.1, h.1.2, h.2⟩) ha hb
theorem sd_neg (ha : PE X a (den X.K ma)) : PE X (.UnaryOp .USub a pos) (den X.K (eUn negW ma)) := sd_un un_neg (by
  intro mu M H x vx w Q g rx e k
  cases rx with
  | int i => cases e; exact ⟨i, rfl, k _ _ Ext.refl g (.int _)⟩
  | _ => cases e) ha
end
end Py

namespace Py
open PySem L2

/-! ## equality of data -/
mutual
def eqW : W → W → Bool
  | .non, .non => true
  | .bl a, .bl b => a == b
  | .bl a, .int j => (if a then 1 else 0) == j
  | .int i, .bl b => i == (if b then 1 else 0)
  | .int i, .int j => i == j
  | .str a, .str b => a == b
  | .lst xs, .lst ys => eqWs xs ys
  | .tup _ xs, .tup _ ys => eqWs xs ys
  | _, _ => false
def eqWs : List W → List W → Bool
  | [], [] => true
  | x :: xs, y :: ys => eqW x y && eqWs xs ys
  | _, _ => false
end
/-- plain data of at most this depth -/
def dat : Nat → W → Bool
  | _, .non => true
  | _, .bl _ => true
  | _, .int _ => true
  | _, .str _ => true
  | n + 1, .tup _ xs => xs.all (dat n)
  | n + 1, .lst xs => xs.all (dat n)
  | _, _ => false
mutual
def pd : W → PyData
  | .non => .none
  | .bl b => .bool b
  | .int i => .int i
  | .str l => .str ⟨l.toArray⟩
  | .tup _ xs => .tuple (pds xs)
  | .lst xs => .list (pds xs)
  | _ => .none
def pds : List W → List PyData
  | [] => []
  | x :: xs => pd x :: pds xs
end

theorem strOk_of {l : List Nat} (h : ∀ c ∈ l, c < 128) : PyData.strOk ⟨l.toArray⟩ = true := by
  unfold PyData.strOk
  rw [Array.all_eq_true]
  intro i hi
  have : l[i]'(by simpa using hi) ∈ l := List.getElem_mem _
  have := h _ this
  simp only [List.getElem_toArray, decide_eq_true_eq]
  omega
theorem dat_ok {K mu H} : ∀ (n : Nat) {w : W} {v : V}, dat n w = true → RV K mu H w v → Dp K H v (pd w) ∧ (pd w).canLay0 = true ∧ (pd w).depth ≤ n := by
  have all : ∀ (n : Nat), (∀ {w : W} {v : V}, dat n w = true → RV K mu H w v → Dp K H v (pd w) ∧ (pd w).canLay0 = true ∧ (pd w).depth ≤ n) →
      ∀ {ws : List W} {vs : List V}, ws.all (dat n) = true → RVs K mu H ws vs → DpAll K H vs (pds ws) ∧ PyData.canLayAll0 (pds ws) = true ∧ PyData.depthAll (pds ws) ≤ n := by
    intro n ih ws vs h r
    induction ws generalizing vs with
    | nil => cases r; exact ⟨.nil, rfl, Nat.zero_le _⟩
    | cons w ws ihw =>
      cases r with
      | cons r rs =>
        rw [List.all_cons, Bool.and_eq_true] at h
        obtain ⟨a1, a2, a3⟩ := ih h.1 r
        obtain ⟨b1, b2, b3⟩ := ihw h.2 rs
        refine ⟨.cons a1 b1, ?_, ?_⟩
        · show (PyData.canLay0 (pd w) && PyData.canLayAll0 (pds ws)) = true
          rw [a2, b2]; rfl
        · show max (PyData.depth (pd w)) (PyData.depthAll (pds ws)) ≤ n
          omega
  intro n
  induction n with
  | zero =>
    intro w v h r
    cases r with
    | non => exact ⟨.non, rfl, Nat.le_refl _⟩
    | bl b => exact ⟨.bl b, rfl, Nat.le_refl _⟩
    | int i => exact ⟨.int i, rfl, Nat.le_refl _⟩
    | str l hl => exact ⟨.str _, strOk_of hl, Nat.le_refl _⟩
    | _ => simp [dat] at h
  | succ n ih =>
    intro w v h r
    cases r with
    | non => exact ⟨.non, rfl, Nat.zero_le _⟩
    | bl b => exact ⟨.bl b, rfl, Nat.zero_le _⟩
    | int i => exact ⟨.int i, rfl, Nat.zero_le _⟩
    | str l hl => exact ⟨.str _, strOk_of hl, Nat.zero_le _⟩
    | tup a b c =>
      obtain ⟨d1, d2, d3⟩ := all n ih (by simpa [dat] using h) c
      exact ⟨.tup (.inl (.inl a)) d1, d2, Nat.succ_le_succ d3⟩
    | tupK a d b c =>
      obtain ⟨d1, d2, d3⟩ := all n ih (by simpa [dat] using h) c
      exact ⟨.tup (.inl (.inr ⟨_, a⟩)) d1, d2, Nat.succ_le_succ d3⟩
    | ktup a b c d e f =>
      obtain ⟨d1, d2, d3⟩ := all n ih (by simpa [dat] using h) f
      exact ⟨.tup (.inr ⟨_, _, _, a, b, c, d, e⟩) d1, d2, Nat.succ_le_succ d3⟩
    | lst a b c =>
      obtain ⟨d1, d2, d3⟩ := all n ih (by simpa [dat] using h) c
      exact ⟨.lst (.inl (.inl a)) d1, d2, Nat.succ_le_succ d3⟩
    | _ => simp [dat] at h
theorem dats_ok {K mu H} {n : Nat} : ∀ {ws : List W} {vs : List V}, ws.all (dat n) = true → RVs K mu H ws vs → DpAll K H vs (pds ws) ∧ PyData.canLayAll0 (pds ws) = true ∧ PyData.depthAll (pds ws) ≤ n
  | _, _, _, .nil => ⟨.nil, rfl, Nat.zero_le _⟩
  | _, _, h, .cons r rs => by
    rw [List.all_cons, Bool.and_eq_true] at h
    obtain ⟨a1, a2, a3⟩ := dat_ok n h.1 r
    obtain ⟨b1, b2, b3⟩ := dats_ok h.2 rs
    refine ⟨.cons a1 b1, ?_, ?_⟩
    · show (PyData.canLay0 _ && PyData.canLayAll0 _) = true
      rw [a2, b2]; rfl
    · show max (PyData.depth _) (PyData.depthAll _) ≤ n
      omega
theorem dat_okD {K mu H} {w : W} {v : V} (h : dat 60 w = true) (r : RD K mu H w v) : Dp K H v (pd w) ∧ SeqAt.shaped (pd w) = true := by
  have fin : ∀ d : PyData, d.canLay0 = true → d.depth ≤ 60 → SeqAt.shaped d = true := fun d h1 h2 => by
    unfold SeqAt.shaped
    rw [h1, decide_eq_true (by omega)]; rfl
  cases r with
  | non => exact ⟨.non, fin _ rfl (Nat.zero_le _)⟩
  | bl b => exact ⟨.bl b, fin _ rfl (Nat.zero_le _)⟩
  | int i => exact ⟨.int i, fin _ rfl (Nat.zero_le _)⟩
  | str l hl => exact ⟨.str _, fin _ (strOk_of hl) (Nat.zero_le _)⟩
  | tup a c =>
    obtain ⟨d1, d2, d3⟩ := dats_ok (n := 59) (by simpa [dat] using h) c
    exact ⟨.tup a.sq d1, fin _ d2 (Nat.succ_le_succ d3)⟩
  | lst a c =>
    obtain ⟨d1, d2, d3⟩ := dats_ok (n := 59) (by simpa [dat] using h) c
    exact ⟨.lst (.inl (.inl a)) d1, fin _ d2 (Nat.succ_le_succ d3)⟩
  | _ => simp [dat] at h
theorem str_beq (a b : List Nat) : ((⟨a.toArray⟩ : Str) == ⟨b.toArray⟩) = (a == b) := by
  by_cases h : a = b
  · subst h; simp
  · have : (⟨a.toArray⟩ : Str) ≠ ⟨b.toArray⟩ := fun e => h (by injection e with e; simpa using congrArg Array.toList e)
    rw [beq_eq_false_iff_ne.mpr this, beq_eq_false_iff_ne.mpr h]
theorem eqv_pd : ∀ (n m : Nat) (x y : W), dat n x = true → dat m y = true → PyData.eqv (pd x) (pd y) = eqW x y := by
  intro n
  induction n with
  | zero =>
    intro m x y hx hy
    cases x <;> first | (simp [dat] at hx; done) | skip
    all_goals (cases y <;> first | (simp [dat] at hy; done) | skip)
    all_goals first | rfl | exact str_beq _ _
    all_goals (cases m <;> first | (simp [dat] at hy; done) | rfl)
  | succ n ih =>
    have all : ∀ (m : Nat) (xs ys : List W), xs.all (dat n) = true → ys.all (dat m) = true → PyData.eqvAll (pds xs) (pds ys) = eqWs xs ys := by
      intro m xs
      induction xs with
      | nil => intro ys _ _; cases ys <;> rfl
      | cons x xs ihx =>
        intro ys hx hy
        cases ys with
        | nil => rfl
        | cons y ys =>
          rw [List.all_cons, Bool.and_eq_true] at hx hy
          show (PyData.eqv (pd x) (pd y) && PyData.eqvAll (pds xs) (pds ys)) = (eqW x y && eqWs xs ys)
          rw [ih m x y hx.1 hy.1, ihx ys hx.2 hy.2]
    intro m x y hx hy
    cases x <;> first | (simp [dat] at hx; done) | skip
    all_goals (cases y <;> first | (simp [dat] at hy; done) | skip)
    all_goals first | rfl | exact str_beq _ _ | skip
    all_goals (cases m <;> first | (simp [dat] at hy; done) | rfl | skip)
    all_goals exact all _ _ _ (by simpa [dat] using hx) (by simpa [dat] using hy)

def eqO (x y : W) : Option W := if dat 60 x && dat 60 y then some (.bl (eqW x y)) else none
def neO (x y : W) : Option W := if dat 60 x && dat 60 y then some (.bl (!eqW x y)) else none
theorem os_eq {K : PySem.W.Frag} : OpS K (rEqD K) eqO := by
  intro mu M H x y vx vy w Q g rx ry e k
  unfold eqO at e
  split at e
  · rename_i h
    rw [Bool.and_eq_true] at h
    cases e
    obtain ⟨d1, s1⟩ := dat_okD h.1 rx
    obtain ⟨d2, s2⟩ := dat_okD h.2 ry
    exact ⟨_, _, d1, d2, s1, s2, by rw [eqv_pd 60 60 x y h.1 h.2]; exact k _ _ Ext.refl g (.bl _)⟩
  · cases e
theorem os_ne {K : PySem.W.Frag} : OpS K (rNeD K) neO := by
  intro mu M H x y vx vy w Q g rx ry e k
  unfold neO at e
  split at e
  · rename_i h
    rw [Bool.and_eq_true] at h
    cases e
    obtain ⟨d1, s1⟩ := dat_okD h.1 rx
    obtain ⟨d2, s2⟩ := dat_okD h.2 ry
    exact ⟨_, _, d1, d2, s1, s2, by rw [eqv_pd 60 60 x y h.1 h.2]; exact k _ _ Ext.refl g (.bl _)⟩
  · cases e

/-! ## order -/
def cmpW (p : Int → Int → Bool) (q : List Nat → List Nat → Bool) : W → W → Option W
  | .int i, .int j => some (.bl (p i j))
  | .str a, .str b => some (.bl (q a b))
  | _, _ => none
def ltW := cmpW (fun i j => decide (i < j)) (fun a b => decide (a < b))
def leW := cmpW (fun i j => decide (i ≤ j)) (fun a b => !decide (b < a))
def gtW := cmpW (fun i j => decide (j < i)) (fun a b => decide (b < a))
def geW := cmpW (fun i j => decide (j ≤ i)) (fun a b => !decide (a < b))
theorem os_cmp {K : PySem.W.Frag} {p : Int → Int → Bool} {q : List Nat → List Nat → Bool} : OpS K (fun x y H Q => (rI0 fun i j => .bl (p i j)) x y H Q ∨ ∃ i j, x = .str i ∧ y = .str j ∧ Q (.bl (q i.cps.toList j.cps.toList)) H) (cmpW p q) := by
  intro mu M H x y vx vy w Q g rx ry e k
  cases rx with
  | int i =>
    cases ry with
    | int j => cases e; exact .inl ⟨i, j, rfl, rfl, k _ _ Ext.refl g (.bl _)⟩
    | _ => cases e
  | str a ha =>
    cases ry with
    | str b hb => cases e; exact .inr ⟨_, _, rfl, rfl, k _ _ Ext.refl g (.bl _)⟩
    | _ => cases e
  | _ => cases e

/-! ## is None -/
def isN (x y : W) : Option W := match y with
  | .non => some (.bl (match x with | .non => true | _ => false))
  | _ => none
def isnN (x y : W) : Option W := match y with
  | .non => some (.bl (match x with | .non => false | _ => true))
  | _ => none
theorem os_isN {K : PySem.W.Frag} : OpS K (fun x y H Q => y = .non ∧ Q (.bl (decide (x = .non))) H) isN := by
  intro mu M H x y vx vy w Q g rx ry e k
  cases ry with
  | non => cases rx <;> (cases e; exact ⟨rfl, k _ _ Ext.refl g (.bl _)⟩)
  | _ => cases e
theorem os_isnN {K : PySem.W.Frag} : OpS K (fun x y H Q => y = .non ∧ Q (.bl (!decide (x = .non))) H) isnN := by
  intro mu M H x y vx vy w Q g rx ry e k
  cases ry with
  | non => cases rx <;> (cases e; exact ⟨rfl, k _ _ Ext.refl g (.bl _)⟩)
  | _ => cases e

/-! ## in -/
def flat : W → Bool
  | .non => true
  | .bl _ => true
  | .int _ => true
  | .str _ => true
  | _ => false
def keyEq : W → W → Bool
  | .int i, .int j => i == j
  | .str a, .str b => a == b
  | _, _ => false
def isKey : W → Bool
  | .int _ => true
  | .str _ => true
  | _ => false
def look : List W → List W → W → Option W
  | k :: ks, v :: vs, x => if keyEq k x then some v else look ks vs x
  | _, _, _ => none
def has (ks : List W) (x : W) : Bool := ks.any fun k => keyEq k x
def inB (x y : W) : Option Bool := match y with
  | .lst ys => if flat x && ys.all flat then some (ys.any fun z => eqW z x) else if dat 60 x && dat 60 y then some (ys.any fun z => eqW z x) else none
  | .tup _ ys => if flat x && ys.all flat then some (ys.any fun z => eqW z x) else none
  | .str s => match x with
    | .str [c] => some (decide (c ∈ s))
    | _ => none
  | .dct ks vs => if isKey x then some (has ks x) else none
  | _ => none
def inW (x y : W) : Option W := (inB x y).map W.bl
def ninW (x y : W) : Option W := (inB x y).map fun b => .bl (!b)
def rInW (K : PySem.W.Frag) (neg : Bool) : R2 := fun x y H Q => ∃ b : Bool, ((rIn K false x y H fun v H' => v = .bl b ∧ H' = H) ∨ (rInD K x y H fun v H' => v = .bl b ∧ H' = H) ∨
   (∃ (c : Nat) (z : Str), x = .str ⟨#[c]⟩ ∧ y = .str z ∧ b = decide (c ∈ z.cps.toList)) ∨ ∃ a o, y = .ref a ∧ DGet H a x o ∧ b = o.isSome) ∧ Q (.bl (if neg then !b else b)) H
theorem or_in {X : Cx} (hu : X.A.units + 65 < cLine) : OpR X (compareOp .In) (rInW X.K false) := by
  intro pins s σ H x y v u Q I rx ry h
  obtain ⟨b, h, q⟩ := h
  rcases h with h | h | ⟨c, z, h1, h2, h3⟩ | ⟨a, o, h1, h2, h3⟩
  · obtain ⟨p, xs, e1, e2, e3, e4, e5, e6⟩ := h
    exact op_in_seq pins s σ H x y v u Q I rx ry ⟨p, xs, e1, e2, e3, e4, by rw [e5]; exact q⟩
  · obtain ⟨d, ds, e1, e2, e3, e4, e5, e6⟩ := h
    exact op_inD hu pins s σ H x y v u Q I rx ry ⟨d, ds, e1, e2, e3, e4, by rw [e5]; exact q⟩
  · exact op_in_sign pins s σ H x y v u Q I rx ry ⟨c, z, h1, h2, by rw [← h3]; exact q⟩
  · subst h1
    obtain rfl : u = Value.ref a := ry
    exact d_in (by omega) I h2 rx fun s' I' => ⟨.bl o.isSome, H, I', rfl, by rw [← h3]; exact q⟩
theorem or_nin {X : Cx} (hu : X.A.units + 65 < cLine) : OpR X (compareOp .NotIn) (rInW X.K true) := by
  intro pins s σ H x y v u Q I rx ry h
  obtain ⟨b, h, q⟩ := h
  rcases h with h | h | ⟨c, z, h1, h2, h3⟩ | ⟨a, o, h1, h2, h3⟩
  · obtain ⟨p, xs, e1, e2, e3, e4, e5, e6⟩ := h
    refine op_notIn_seq pins s σ H x y v u Q I rx ry ⟨p, xs, e1, e2, e3, e4, ?_⟩
    have e5 : inV x xs = b := by injection e5
    rw [if_pos rfl, e5]; exact q
  · obtain ⟨d, ds, e1, e2, e3, e4, e5, e6⟩ := h
    refine op_notInD hu pins s σ H x y v u Q I rx ry ⟨d, ds, e1, e2, e3, e4, ?_⟩
    have e5 : (ds.any fun z => PyData.eqv z d) = b := by injection e5
    rw [e5]; exact q
  · exact op_notIn_sign pins s σ H x y v u Q I rx ry ⟨c, z, h1, h2, by rw [← h3]; exact q⟩
  · subst h1
    obtain rfl : u = Value.ref a := ry
    exact d_notIn (by omega) I h2 rx fun s' I' => ⟨.bl (!o.isSome), H, I', rfl, by rw [← h3]; exact q⟩
theorem flat_rv {K mu H x vx} (h : flat x = true) (r : RD K mu H x vx) : flatV vx = true ∧ ∀ (z : W) (vz : V), flat z = true → RV K mu H z vz → eqV vz vx = eqW z x := by
  cases r with
  | non => exact ⟨rfl, fun z vz hz rz => by cases rz <;> first | rfl | cases hz⟩
  | bl b => exact ⟨rfl, fun z vz hz rz => by cases rz <;> first | rfl | cases hz⟩
  | int i => exact ⟨rfl, fun z vz hz rz => by cases rz <;> first | rfl | cases hz⟩
  | str l hl => exact ⟨rfl, fun z vz hz rz => by cases rz <;> first | exact str_beq _ _ | rfl | cases hz⟩
  | _ => cases h
theorem flats_rv {K mu H x vx} (h : flat x = true) (r : RD K mu H x vx) : ∀ {ys : List W} {vs : List V}, ys.all flat = true → RVs K mu H ys vs → vs.all flatV = true ∧ inV vx vs = ys.any fun z => eqW z x
  | [], [], _, .nil => ⟨rfl, rfl⟩
  | y :: ys, v :: vs, hy, .cons ry rs => by
    rw [List.all_cons, Bool.and_eq_true] at hy
    obtain ⟨h1, h2⟩ := flats_rv h r hy.2 rs
    have e := (flat_rv h r).2 y v hy.1 ry
    have fv : flatV v = true := by cases ry <;> first | rfl | (simp [flat] at hy)
    refine ⟨by rw [List.all_cons, fv, h1]; rfl, ?_⟩
    show (vs.any _ |> fun t => (eqV v vx || t)) = _
    unfold inV at h2
    show (eqV v vx || vs.any fun y => eqV y vx) = _
    rw [h2, e, List.any_cons]
theorem key_of {K mu H x vx} (h : isKey x = true) (r : RD K mu H x vx) : ∃ k : Key, vx = kV k ∧ ∀ (z : W) (q : Key), RV K mu H z (kV q) → keyEq z x = decide (q = k) := by
  cases r with
  | int i => 
    refine ⟨.inl i, rfl, fun z q rz => ?_⟩
    cases q with
    | inl j => cases rz; rw [key_ll]; rfl
    | inr j => cases rz; rw [key_rl]; rfl
  | str l hl =>
    refine ⟨.inr ⟨l.toArray⟩, rfl, fun z q rz => ?_⟩
    cases q with
    | inl j => cases rz; rw [key_lr]; rfl
    | inr j => cases rz; rw [key_rr]; show _ = decide _; exact ((str_beq _ _).symm.trans (Bool.beq_eq_decide_eq _ _))
  | _ => cases h
theorem look_val {K mu H x} {k : Key} (hk : ∀ (z : W) (q : Key), RV K mu H z (kV q) → keyEq z x = decide (q = k)) : ∀ {ks ws : List W} {kvs : List (Key × V)}, RVs K mu H ks (kvs.map fun p => kV p.1) → RVs K mu H ws (kvs.map (·.2)) →
    (∀ w, look ks ws x = some w → ∃ v, valV kvs k = some v ∧ RV K mu H w v) ∧ has ks x = (valV kvs k).isSome
  | _, _, [], .nil, .nil => ⟨fun w e => by simp [look] at e, rfl⟩
  | _, _, (q, v) :: kvs, .cons r1 r2, .cons q1 q2 => by
    have e := hk _ q r1
    obtain ⟨h1, h2⟩ := look_val hk r2 q2
    by_cases hq : q = k
    · rw [decide_eq_true hq] at e
      refine ⟨fun w hw => ?_, ?_⟩
      · simp only [look, e, if_true, Option.some.injEq] at hw
        subst hw
        exact ⟨v, valV_pos hq, q1⟩
      · rw [valV_pos hq]; show (keyEq _ x || _) = true; rw [e]; rfl
    · rw [decide_eq_false hq] at e
      have e2 : valV ((q, v) :: kvs) k = valV kvs k := by simp [valV, List.find?_cons, hq]
      refine ⟨fun w hw => ?_, ?_⟩
      · simp only [look, e] at hw
        rw [e2]; exact h1 w (by simpa using hw)
      · rw [e2, ← h2]; show (keyEq _ x || _) = _; rw [e]; rfl
theorem os_inB {K : PySem.W.Frag} {mu M H x y vx vy b} {neg : Bool} {Q : VK} (g : Good K mu M H) (rx : RD K mu H x vx) (ry : RD K mu H y vy) (e : inB x y = some b) (k : Q (.bl (if neg then !b else b)) H) : rInW K neg vx vy H Q := by
  refine ⟨b, ?_, k⟩
  cases ry with
  | lst h r =>
    simp only [inB] at e
    split at e
    · rename_i hf
      rw [Bool.and_eq_true] at hf
      cases e
      obtain ⟨h1, h2⟩ := flats_rv hf.1 rx hf.2 r
      exact .inl ⟨_, _, rfl, .inl (.inl (.inl h)), (flat_rv hf.1 rx).1, h1, by rw [if_neg (by decide), h2], rfl⟩
    · split at e
      · rename_i hd
        rw [Bool.and_eq_true] at hd
        cases e
        obtain ⟨d1, s1⟩ := dat_okD hd.1 rx
        obtain ⟨d2, s2⟩ := dat_okD hd.2 (.lst h r)
        refine .inr (.inl ⟨_, _, d1, d2, s1, s2, ?_, rfl⟩)
        have : ∀ zs : List W, zs.all (dat 59) = true → ((pds zs).any fun z => PyData.eqv z (pd x)) = zs.any fun z => eqW z x := by
          intro zs
          induction zs with
          | nil => intro _; rfl
          | cons z zs ih =>
            intro hz
            rw [List.all_cons, Bool.and_eq_true] at hz
            show (PyData.eqv (pd z) (pd x) || (pds zs).any _) = _
            rw [ih hz.2, eqv_pd 59 60 z x hz.1 hd.1, List.any_cons]
        rw [this _ (by simpa [dat] using hd.2)]
      · cases e
  | tup h r =>
    simp only [inB] at e
    split at e
    · rename_i hf
      rw [Bool.and_eq_true] at hf
      cases e
      obtain ⟨h1, h2⟩ := flats_rv hf.1 rx hf.2 r
      exact .inl ⟨_, _, rfl, .inr h.sq, (flat_rv hf.1 rx).1, h1, by rw [if_neg (by decide), h2], rfl⟩
    · cases e
  | str s hs =>
    simp only [inB] at e
    split at e
    · cases e
      cases rx
      exact .inr (.inr (.inl ⟨_, _, rfl, rfl, rfl⟩))
    · cases e
  | dct h r q =>
    simp only [inB] at e
    split at e
    · rename_i hk
      cases e
      obtain ⟨kk, e1, e2⟩ := key_of hk rx
      subst e1
      exact .inr (.inr (.inr ⟨_, _, rfl, DGet.k h, (look_val e2 r q).2⟩))
    · cases e
  | _ => simp [inB] at e
theorem os_in {K : PySem.W.Frag} : OpS K (rInW K false) inW := by
  intro mu M H x y vx vy w Q g rx ry e k
  unfold inW at e
  cases q : inB x y with
  | none => rw [q] at e; cases e
  | some b => rw [q] at e; cases e; exact os_inB g rx ry q (k _ _ Ext.refl g (.bl _))
theorem os_nin {K : PySem.W.Frag} : OpS K (rInW K true) ninW := by
  intro mu M H x y vx vy w Q g rx ry e k
  unfold ninW at e
  cases q : inB x y with
  | none => rw [q] at e; cases e
  | some b => rw [q] at e; cases e; exact os_inB g rx ry q (k _ _ Ext.refl g (.bl _))
end Py

namespace Py
open PySem L2

/-! ## truth, and, or, not, if -/
def truW : W → Option Bool
  | .non => some false
  | .bl b => some b
  | .int i => some (i != 0)
  | .str l => if l.length ≤ line then some (!l.isEmpty) else none
  | .tup _ xs => some (!xs.isEmpty)
  | .lst xs => some (!xs.isEmpty)
  | .dct ks _ => some (!ks.isEmpty)
  | .fz ns => some (!ns.isEmpty)
  | .ref _ => none
theorem tru_rd {K mu H x vx k} (r : RD K mu H x vx) (e : truW x = some k) : TruV K vx H k := by
  cases r with
  | non => cases e; rfl
  | bl b => cases e; rfl
  | int i => cases e; rfl
  | str l hl =>
    simp only [truW] at e
    split at e
    · rename_i hz
      cases e
      refine ⟨by rw [str_len, line_eq]; exact hz, ?_⟩
      rw [str_len]
      cases l <;> simp
      omega
    · cases e
  | tup h r =>
    cases e
    refine .inr (.inl ⟨_, h.sq, ?_⟩)
    cases r <;> rfl
  | lst h r =>
    cases e
    refine .inl ⟨_, .inl (.inl h), ?_⟩
    cases r <;> rfl
  | dct h r q =>
    cases e
    refine .inr (.inr ⟨_, h, ?_⟩)
    have := r.length
    rw [List.length_map] at this
    rename_i ks ws kvs a
    cases ks <;> cases kvs <;> simp at this ⊢
  | fz h =>
    cases e
    refine .inl ⟨_, h, ?_⟩
    rename_i ns a
    cases ns <;> rfl
  | ref => cases e
def bT (m : Ev) : EvB := fun r M => (m r M).bind fun x M1 => R.ofO (truW (rd M1 x)) M1
def bAnd (a b : EvB) : EvB := fun r M => (a r M).bind fun k M1 => if k = true then b r M1 else .ok false M1
def bOr (a b : EvB) : EvB := fun r M => (a r M).bind fun k M1 => if k = true then .ok true M1 else b r M1
def bNot (a : EvB) : EvB := fun r M => (a r M).bind fun k M1 => .ok (!k) M1
def eAnd (a b : Ev) : Ev := fun r M => (a r M).bind fun x M1 => match truW (rd M1 x) with
  | some true => b r M1
  | some false => .ok x M1
  | none => .bad
def eOr (a b : Ev) : Ev := fun r M => (a r M).bind fun x M1 => match truW (rd M1 x) with
  | some true => .ok x M1
  | some false => b r M1
  | none => .bad
def eNot (a : Ev) : Ev := fun r M => (bT a r M).bind fun k M1 => .ok (.bl (!k)) M1
def eIf (c : EvB) (a b : Ev) : Ev := fun r M => (c r M).bind fun k M1 => if k = true then a r M1 else b r M1
section
variable {X : Cx} {a b c : Expr} {ma mb mc : Ev} {ba bb bc : EvB} {pos : Pos} {rest : List Expr}
theorem bT_core {K : PySem.W.Frag} {m : Ev} {σ H Q} (h : denT K (bT m) σ H Q) : den K m σ H fun x H' => ∃ k, TruV K x H' k ∧ Q k H' := by
  obtain ⟨mu, M, r, g, s, h⟩ := h
  refine ⟨mu, M, r, g, s, (Post.bind h).imp fun x M1 mu1 H1 e1 g1 h1 vx rx => ?_⟩
  cases q : truW (rd M1 x) with
  | none => rw [q] at h1; exact False.elim h1
  | some k => rw [q] at h1; exact ⟨k, tru_rd (rx.rd g1) q, h1 mu1 H1 Ext.refl g1⟩
theorem st_truth (ha : PE X a (den X.K ma)) (he : ∀ whole, isTrue a X.env whole = (do let v ← whole; standAt a.pos; holding [v] (truthy v)) := by intro _; rfl) : PT X a (denT X.K (bT ma)) :=
  PT.of (pt_truth ha he) fun σ H Q h => bT_core h
theorem st_cmp {op : CmpOp} {f : W → W → Option W} {t : R2} (ho : OpR X (compareOp op) t) (hs : OpS X.K t f) (hf : ∀ x y w, f x y = some w → ∃ k, w = .bl k) (ha : PE X a (den X.K ma)) (hb : PE X b (den X.K mb)) (hm : behindInMarks op b = false) :
    PT X (.Compare a [op] [b] pos) (denT X.K (bT (eOp f ma mb))) := by
  refine PT.of (pt_cmpR ho ha hb hm) fun σ H Q h => ?_
  show tOp t (den X.K ma) (den X.K mb) σ H fun x H' => ∃ k, x = .bl k ∧ Q k H'
  refine op_core hs ?_
  obtain ⟨mu, M, r, g, s, h⟩ := h
  refine ⟨mu, M, r, g, s, ?_⟩
  unfold bT at h
  have key : ∀ w M1, eOp f ma mb r M = .ok w M1 → ∃ k, w = .bl k := fun w M1 e => by
    unfold eOp at e
    cases q : ma r M with
    | ok x M2 =>
      rw [q] at e
      simp only [R.bind] at e
      cases q2 : mb r M2 with
      | ok y M3 =>
        rw [q2] at e
        simp only at e
        cases q3 : f (rd M3 x) (rd M3 y) with
        | none => rw [q3] at e; cases e
        | some z => rw [q3] at e; cases e; exact hf _ _ _ q3
      | exc c M => rw [q2] at e; cases e
      | bad => rw [q2] at e; cases e
    | exc c M => rw [q] at e; cases e
    | bad => rw [q] at e; cases e
  cases q : eOp f ma mb r M with
  | ok w M1 =>
    rw [q] at h
    obtain ⟨k, rfl⟩ := key w M1 q
    intro mu' H' e' g' v rv
    cases rv
    exact ⟨k, rfl, h mu' H' e' g'⟩
  | exc c M => rw [q] at h; exact h
  | bad => rw [q] at h; exact h
theorem sw_and1 (ha : PT X a (denT X.K ba)) : PW X (.BoolOp .And [a] pos) (denT X.K ba) := pw_and1 ha
theorem sw_or1 (ha : PT X a (denT X.K ba)) : PW X (.BoolOp .Or [a] pos) (denT X.K ba) := pw_or1 ha
theorem sw_and (ha : PT X a (denT X.K ba)) (hb : PW X (.BoolOp .And (b :: rest) pos) (denT X.K bb)) : PW X (.BoolOp .And (a :: b :: rest) pos) (denT X.K (bAnd ba bb)) := by
  refine PW.of (pw_and ha hb) fun σ H Q ⟨mu, M, r, g, s, h⟩ => ?_
  refine ⟨mu, M, r, g, s, (Post.bind h).imp fun k M1 mu1 H1 e1 g1 h1 => ?_⟩
  cases k with
  | true => exact ⟨mu1, M1, r, g1, s.ext e1, h1⟩
  | false => exact h1 mu1 H1 Ext.refl g1
theorem sw_or (ha : PT X a (denT X.K ba)) (hb : PW X (.BoolOp .Or (b :: rest) pos) (denT X.K bb)) : PW X (.BoolOp .Or (a :: b :: rest) pos) (denT X.K (bOr ba bb)) := by
  refine PW.of (pw_or ha hb) fun σ H Q ⟨mu, M, r, g, s, h⟩ => ?_
  refine ⟨mu, M, r, g, s, (Post.bind h).imp fun k M1 mu1 H1 e1 g1 h1 => ?_⟩
  cases k with
  | false => exact ⟨mu1, M1, r, g1, s.ext e1, h1⟩
  | true => exact h1 mu1 H1 Ext.refl g1
theorem st_not (ha : PT X a (denT X.K ba)) : PT X (.UnaryOp .Not a pos) (denT X.K (bNot ba)) := by
  refine PT.of (pt_not ha) fun σ H Q ⟨mu, M, r, g, s, h⟩ => ?_
  exact ⟨mu, M, r, g, s, (Post.bind h).imp fun k M1 mu1 H1 e1 g1 h1 => h1 mu1 H1 Ext.refl g1⟩
theorem sd_and1 (ha : PE X a (den X.K ma)) : PE X (.BoolOp .And [a] pos) (den X.K ma) := pe_one ha
theorem sd_or1 (ha : PE X a (den X.K ma)) : PE X (.BoolOp .Or [a] pos) (den X.K ma) := pe_one ha
theorem sd_and (ha : PE X a (den X.K ma)) (hb : PE X (.BoolOp .And (b :: rest) pos) (den X.K mb)) : PE X (.BoolOp .And (a :: b :: rest) pos) (den X.K (eAnd ma mb)) := by
  refine PE.of (pe_andT ha hb) fun σ H Q ⟨mu, M, r, g, s, h⟩ => ?_
  refine ⟨mu, M, r, g, s, (Post.bind h).imp fun x M1 mu1 H1 e1 g1 h1 vx rx => ?_⟩
  cases q : truW (rd M1 x) with
  | none => simp only [q] at h1; exact False.elim h1
  | some k =>
    refine ⟨k, tru_rd (rx.rd g1) q, ?_⟩
    cases k with
    | true => simp only [q] at h1; rw [if_pos rfl]; exact ⟨mu1, M1, r, g1, s.ext e1, h1⟩
    | false => simp only [q] at h1; rw [if_neg (by decide)]; exact h1 mu1 H1 Ext.refl g1 vx rx
theorem sd_or (ha : PE X a (den X.K ma)) (hb : PE X (.BoolOp .Or (b :: rest) pos) (den X.K mb)) : PE X (.BoolOp .Or (a :: b :: rest) pos) (den X.K (eOr ma mb)) := by
  refine PE.of (pe_orT ha hb) fun σ H Q ⟨mu, M, r, g, s, h⟩ => ?_
  refine ⟨mu, M, r, g, s, (Post.bind h).imp fun x M1 mu1 H1 e1 g1 h1 vx rx => ?_⟩
  cases q : truW (rd M1 x) with
  | none => simp only [q] at h1; exact False.elim h1
  | some k =>
    refine ⟨k, tru_rd (rx.rd g1) q, ?_⟩
    cases k with
    | false => simp only [q] at h1; rw [if_neg (by decide)]; exact ⟨mu1, M1, r, g1, s.ext e1, h1⟩
    | true => simp only [q] at h1; rw [if_pos rfl]; exact h1 mu1 H1 Ext.refl g1 vx rx
theorem sd_not (ha : PE X a (den X.K ma)) : PE X (.UnaryOp .Not a pos) (den X.K (eNot ma)) := by
  refine PE.of (pe_notT ha) fun σ H Q ⟨mu, M, r, g, s, h⟩ => ?_
  show den X.K ma σ H fun x H1 => ∃ k, TruV X.K x H1 k ∧ Q (.bl (!k)) H1
  refine bT_core (Q := fun k H' => Q (.bl (!k)) H') ⟨mu, M, r, g, s, (Post.bind h).imp fun k M1 mu1 H1 e1 g1 h1 => h1 mu1 H1 Ext.refl g1 _ (.bl _)⟩
theorem sd_if (hc : PT X c (denT X.K bc)) (ha : PE X a (den X.K ma)) (hb : PE X b (den X.K mb)) : PE X (.IfExp c a b pos) (den X.K (eIf bc ma mb)) := by
  refine PE.of (pe_ifExp hc ha hb) fun σ H Q ⟨mu, M, r, g, s, h⟩ => ?_
  refine ⟨mu, M, r, g, s, (Post.bind h).imp fun k M1 mu1 H1 e1 g1 h1 => ?_⟩
  cases k with
  | true => rw [if_pos rfl] at h1 ⊢; exact ⟨mu1, M1, r, g1, s.ext e1, h1⟩
  | false => rw [if_neg (by decide)] at h1 ⊢; exact ⟨mu1, M1, r, g1, s.ext e1, h1⟩
end

/-! ## arguments, displays -/
def aNil : EvL := fun _ M => .ok [] M
def aCons (m : Ev) (ms : EvL) : EvL := fun r M => (m r M).bind fun x M1 => (ms r M1).bind fun xs M2 => .ok (x :: xs) M2
def aStar (m : Ev) (ms : EvL) : EvL := fun r M => (m r M).bind fun x M1 => match rd M1 x with
  | .tup _ ys => (ms r M1).bind fun xs M2 => .ok (ys ++ xs) M2
  | .lst ys => (ms r M1).bind fun xs M2 => .ok (ys ++ xs) M2
  | _ => .bad
def eTup (ms : EvL) : Ev := fun r M => (ms r M).bind fun xs M1 => if xs.length ≤ line then .ok (.tup true xs) M1 else .bad
def lDisp (ms : EvL) : EvL := fun r M => (ms r M).bind fun xs M1 => if xs.length ≤ line then .ok xs M1 else .bad
/-- a new list as a value; as a cell -/
def eL (m : EvL) : Ev := fun r M => (m r M).bind fun ws M1 => .ok (.lst ws) M1
def eB (m : EvL) : Ev := fun r M => (m r M).bind fun ws M1 => if noRefs ws = true then .ok (.ref M1.length) (M1 ++ [.lst ws]) else .bad
section
variable {X : Cx} {e : Expr} {es : List Expr} {m : Ev} {ms : EvL} {pos p : Pos}
theorem sa_nil : PA X [] (denA X.K aNil) := PA.of pa_nil fun σ H Q ⟨mu, M, r, g, s, h⟩ => h mu H Ext.refl g [] .nil
theorem sa_cons (he : PE X e (den X.K m)) (hes : PA X es (denA X.K ms)) (hs : starEach (e :: es) X.env = (false, eval e X.env) :: starEach es X.env := by rfl) : PA X (e :: es) (denA X.K (aCons m ms)) := by
  refine PA.of (pa_cons he hes hs) fun σ H Q ⟨mu, M, r, g, s, h⟩ => ?_
  refine ⟨mu, M, r, g, s, (Post.bind h).imp fun x M1 mu1 H1 e1 g1 h1 vx rx => ?_⟩
  refine ⟨mu1, M1, r, g1, s.ext e1, (Post.bind h1).imp fun xs M2 mu2 H2 e2 g2 h2 vs rs => ?_⟩
  exact h2 mu2 H2 Ext.refl g2 _ (.cons (rx.ext e2) rs)
theorem sa_star (he : PE X e (den X.K m)) (hes : PA X es (denA X.K ms)) : PA X (.Starred e p :: es) (denA X.K (aStar m ms)) := by
  refine PA.of (StX.pa_star he hes) fun σ H Q ⟨mu, M, r, g, s, h⟩ => ?_
  refine ⟨mu, M, r, g, s, (Post.bind h).imp fun x M1 mu1 H1 e1 g1 h1 vx rx => ?_⟩
  have rr := rx.rd g1
  cases q : rd M1 x with
  | tup kk ys =>
    simp only [q] at h1
    rw [q] at rr
    cases rr with
    | tup ht rv =>
      refine ⟨_, _, rfl, .inl ht.sq, mu1, M1, r, g1, s.ext e1, (Post.bind h1).imp fun xs M2 mu2 H2 e2 g2 h2 vs rs => ?_⟩
      exact h2 mu2 H2 Ext.refl g2 _ ((rv.ext e2).append rs)
  | lst ys =>
    simp only [q] at h1
    rw [q] at rr
    cases rr with
    | lst ht rv =>
      refine ⟨_, _, rfl, .inr (.inl (.inl ht)), mu1, M1, r, g1, s.ext e1, (Post.bind h1).imp fun xs M2 mu2 H2 e2 g2 h2 vs rs => ?_⟩
      exact h2 mu2 H2 Ext.refl g2 _ ((rv.ext e2).append rs)
  | _ => simp only [q] at h1; exact False.elim h1
theorem tupK_new {X : Cx} {pins : List (Addr × Obj)} {σ : St} {H : Hp} {s : Shared} {us : List Value} {xs : List V} (I : Inv X pins σ H s) (r : Vals xs us) (z : xs.length ≤ sizeLine) :
    Inv X pins σ (L2.upd H s.heap.objs.size (.frz { cls := .type "tuple", data := .seq us.toArray } (.tup xs))) { s with heap := s.heap.push { cls := .type "tuple", data := .seq us.toArray } } :=
  I.laid (t' := s.toks) (fun b u e => Heap.get?_push_of_some _ e) (Nat.le_refl _) ⟨Heap.get?_push_size _ rfl, z, us, r, PyProof.Rows.IsTup.new _ _⟩
theorem pe_tupK {x1} {t : TA} (h : PA X es t) : PE X (.Tuple es x1 pos) (fun σ H Q => t σ H fun xs H1 => xs.length ≤ sizeLine ∧ ∀ p o, o.dict = none → H1 p = none → Q (.ref p) (L2.upd H1 p (.frz o (.tup xs)))) := by
  refine ⟨fun pins s σ H Q I hq => ?_⟩
  refine wpAny_Tuple_spliced (thn (h.run pos pins s σ H _ I hq) fun us s1 ⟨xs, H1, I1, r, z, q⟩ => ⟨by rw [← r.length]; exact z, ?_⟩)
  exact ⟨.ref s1.heap.objs.size, _, tupK_new I1 r z, rfl, q _ _ rfl (I1.hok.fresh (Nat.le_refl _))⟩
theorem sd_tup {x1} (h : PA X es (denA X.K ms)) : PE X (.Tuple es x1 pos) (den X.K (eTup ms)) := by
  refine PE.of (pe_tupK h) fun σ H Q ⟨mu, M, r, g, s, h⟩ => ?_
  refine ⟨mu, M, r, g, s, (Post.bind h).imp fun xs M1 mu1 H1 e1 g1 h1 vs rs => ?_⟩
  split at h1
  · rename_i hz
    refine ⟨by rw [← rs.length, line_eq]; exact hz, fun p o ho hp => h1 _ _ (Ext.upd g1 hp) (g1.upd hp) _ (.newTupK g1 hp ho rs)⟩
  · exact False.elim h1
theorem sl_lst (h : PA X es (denA X.K ms)) : PE X (.List es pos) (denL X.K (lDisp ms)) := by
  refine PE.of (pe_lst h) fun σ H Q ⟨mu, M, r, g, s, h⟩ => ?_
  refine ⟨mu, M, r, g, s, (Post.bind h).imp fun xs M1 mu1 H1 e1 g1 h1 vs rs => ?_⟩
  split at h1
  · rename_i hz
    exact ⟨by rw [← rs.length, line_eq]; exact hz, fun p hp => h1 mu1 H1 Ext.refl g1 vs p rs hp⟩
  · exact False.elim h1
theorem sd_L {ml : EvL} (h : PE X e (denL X.K ml)) : PE X e (den X.K (eL ml)) := by
  refine PE.of h fun σ H Q ⟨mu, M, r, g, s, h⟩ => ?_
  refine ⟨mu, M, r, g, s, (Post.bind h).imp fun xs M1 mu1 H1 e1 g1 h1 vs p rs hp => ?_⟩
  exact h1 _ _ (Ext.upd g1 hp) (g1.upd hp) _ (.newLst g1 hp rs)
theorem sd_B {ml : EvL} (h : PE X e (denL X.K ml)) : PE X e (den X.K (eB ml)) := by
  refine PE.of h fun σ H Q ⟨mu, M, r, g, s, h⟩ => ?_
  refine ⟨mu, M, r, g, s, (Post.bind h).imp fun xs M1 mu1 H1 e1 g1 h1 vs p rs hp => ?_⟩
  split at h1
  · rename_i hn
    exact h1 _ _ (Ext.push g1 hp) (g1.push hp rs hn) _ (.ref (.inl (by rw [← g1.len]; simp [Mu.push])))
  · exact False.elim h1
end

/-! ## subscripts, slices -/
def atW (xs : List W) (i : Int) : Option W := (ixN xs.length i).bind fun j => xs[j]?
def ixW (x y : W) : Option W := match x with
  | .lst xs => match y with
    | .int i => atW xs i
    | _ => none
  | .tup _ xs => match y with
    | .int i => atW xs i
    | _ => none
  | .fz ns => match y with
    | .int i => ((ixN ns.length i).bind fun j => ns[j]?).map W.int
    | _ => none
  | .str l => match y with
    | .int i => if l.length ≤ line then ((ixN l.length i).bind fun j => l[j]?).map fun c => W.str [c] else none
    | _ => none
  | .dct ks vs => if isKey y then look ks vs y else none
  | _ => none
def rIxW (K : PySem.W.Frag) : R2 := fun x y H Q => rIx K x y H Q ∨ ∃ a v, x = .ref a ∧ DGet H a y (some v) ∧ Q v H
theorem ix_dct {X : Cx} (hu : X.A.units + 1 < cLine) : IxR X (fun x y H Q => ∃ a v, x = .ref a ∧ DGet H a y (some v) ∧ Q v H) := by
  intro value slice pins s σ H x y v u Q I rx ry h hs
  obtain ⟨a, z, rfl, gg, q⟩ := h
  obtain rfl : v = Value.ref a := rx
  exact PyProof.Rows.tail_any (dict_typeIs I gg) PySem.F.slot_dict_getitem.lookup (d_getItem hu I gg ry fun w' s3 I3 rw' => ⟨z, H, I3, rw', q⟩) hs
theorem ix_any {X : Cx} (hu : X.A.units + 1 < cLine) : IxR X (rIxW X.K) := ix_seq.or (ix_dct hu)
theorem os_ix {K : PySem.W.Frag} : OpS K (rIxW K) ixW := by
  intro mu M H x y vx vy w Q g rx ry e k
  cases rx with
  | lst h r =>
    simp only [ixW] at e
    cases ry with
    | int i =>
      simp only [atW] at e
      cases q : ixN _ i with
      | none => rw [q] at e; cases e
      | some j =>
        rw [q] at e
        obtain ⟨v, h1, h2⟩ := r.get e
        exact .inl (.inl ⟨_, _, i, v, rfl, rfl, .inl (.inl h), by unfold atI; rw [← r.length, q]; exact h1, k _ _ Ext.refl g h2⟩)
    | _ => cases e
  | tup h r =>
    simp only [ixW] at e
    cases ry with
    | int i =>
      simp only [atW] at e
      cases q : ixN _ i with
      | none => rw [q] at e; cases e
      | some j =>
        rw [q] at e
        obtain ⟨v, h1, h2⟩ := r.get e
        exact .inl (.inr (.inl ⟨_, _, i, v, rfl, rfl, h.sq, by unfold atI; rw [← r.length, q]; exact h1, k _ _ Ext.refl g h2⟩))
    | _ => cases e
  | fz h =>
    simp only [ixW] at e
    cases ry with
    | int i =>
      simp only at e
      cases q : ixN _ i with
      | none => rw [q] at e; cases e
      | some j =>
        rw [q] at e
        simp only [Option.bind_some] at e
        obtain ⟨z, h1, h2⟩ := Option.map_eq_some_iff.mp e
        subst h2
        exact .inl (.inl ⟨_, _, i, .int z, rfl, rfl, h, by unfold atI; rw [List.length_map, q]; simp [h1], k _ _ Ext.refl g (.int z)⟩)
    | _ => cases e
  | str l hl =>
    simp only [ixW] at e
    cases ry with
    | int i =>
      simp only at e
      split at e
      · rename_i hz
        cases q : ixN _ i with
        | none => rw [q] at e; cases e
        | some j =>
          rw [q] at e
          simp only [Option.bind_some] at e
          obtain ⟨z, h1, h2⟩ := Option.map_eq_some_iff.mp e
          subst h2
          refine .inl (.inr (.inr ⟨_, i, z, rfl, rfl, by rw [str_len, line_eq]; exact hz, by unfold atI; simp only [List.toList_toArray]; rw [q]; exact h1, ?_⟩))
          exact k _ _ Ext.refl g (.str [z] fun c hc => by simp at hc; subst hc; exact hl _ (List.mem_of_getElem? h1))
      · cases e
    | _ => cases e
  | dct h r q =>
    simp only [ixW] at e
    split at e
    · rename_i hk
      obtain ⟨kk, e1, e2⟩ := key_of hk ry
      subst e1
      obtain ⟨v, h1, h2⟩ := (look_val e2 r q).1 w e
      exact .inr ⟨_, v, rfl, by rw [← h1]; exact DGet.k h, k _ _ Ext.refl g h2⟩
    · cases e
  | _ => simp [ixW] at e
def cutW {α : Type} (xs : List α) (lo hi : Option Int) : List α := (xs.drop (HT.sIx xs.length 0 lo)).take (HT.sIx xs.length xs.length hi - HT.sIx xs.length 0 lo)
/-- a part of a slice -/
def pNo : Sl → MH → R (Option Int) := fun _ M => .ok none M
def pSo (m : Ev) : Sl → MH → R (Option Int) := fun r M => (m r M).bind fun x M1 => match x with
  | .int i => .ok (some i) M1
  | _ => .bad
def denO (K : PySem.W.Frag) (m : Sl → MH → R (Option Int)) : TO := fun σ H Q => ∃ mu M r, Good K mu M H ∧ RS K mu H r σ ∧
  Post K mu H (fun b _ _ H' => Q b H') (m r M)
def slW (x : W) (lo hi : Option Int) : Option W := match x with
  | .lst xs => some (.lst (cutW xs lo hi))
  | .tup _ xs => some (.tup false (cutW xs lo hi))
  | .fz ns => some (.lst ((cutW ns lo hi).map W.int))
  | _ => none
def eSl (m : Ev) (lo hi : Sl → MH → R (Option Int)) : Ev := fun r M => (m r M).bind fun x M1 => (lo r M1).bind fun l M2 => (hi r M2).bind fun h M3 => R.ofO (slW (rd M3 x) l h) M3
/-- of a list: a new list -/
def lSl (m : Ev) (lo hi : Sl → MH → R (Option Int)) : EvL := fun r M => (m r M).bind fun x M1 => (lo r M1).bind fun l M2 => (hi r M2).bind fun h M3 => match rd M3 x with
  | .lst xs => .ok (cutW xs l h) M3
  | .fz ns => .ok ((cutW ns l h).map W.int) M3
  | _ => .bad
theorem cutW_map {α β : Type} (f : α → β) (xs : List α) (lo hi : Option Int) : cutW (xs.map f) lo hi = (cutW xs lo hi).map f := by
  unfold cutW
  rw [List.length_map, List.map_take, List.map_drop]
theorem RVs.cut {K mu H ws vs} (r : RVs K mu H ws vs) (lo hi : Option Int) : RVs K mu H (cutW ws lo hi) (cutV vs lo hi) := by
  unfold cutW cutV
  rw [r.length]
  exact (r.drop _).take _
section
variable {X : Cx} {e : Expr} {lo hi : Option Expr} {m : Ev} {ml mh : Sl → MH → R (Option Int)} {pos p2 : Pos}
theorem PO.of {o : Option Expr} {t t' : TO} (h : PO X o t) (f : ∀ σ H Q, t' σ H Q → t σ H Q) : PO X o t' :=
  ⟨fun pins s σ H Q I q => h.run pins s σ H Q I (f σ H Q q)⟩
theorem so_none : PO X none (denO X.K pNo) := PO.of po_none fun σ H Q ⟨mu, M, r, g, s, h⟩ => h mu H Ext.refl g
theorem so_some (h : PE X e (den X.K m)) : PO X (some e) (denO X.K (pSo m)) := by
  refine PO.of (po_some h) fun σ H Q ⟨mu, M, r, g, s, h⟩ => ?_
  refine ⟨mu, M, r, g, s, (Post.bind h).imp fun x M1 mu1 H1 e1 g1 h1 vx rx => ?_⟩
  cases rx with
  | int i => exact ⟨i, rfl, h1 mu1 H1 Ext.refl g1⟩
  | _ => exact False.elim h1
theorem sd_slice (he : PE X e (den X.K m)) (hl : PO X lo (denO X.K ml)) (hh : PO X hi (denO X.K mh)) : PE X (.Subscript e (.Slice lo hi none p2) pos) (den X.K (eSl m ml mh)) := by
  refine PE.of (pe_slice (sl_list.or sl_tupA) he hl hh) fun σ H Q ⟨mu, M, r, g, s, h⟩ => ?_
  refine ⟨mu, M, r, g, s, (Post.bind h).imp fun x M1 mu1 H1 e1 g1 h1 vx rx => ?_⟩
  refine ⟨mu1, M1, r, g1, s.ext e1, (Post.bind h1).imp fun l M2 mu2 H2 e2 g2 h2 => ?_⟩
  refine ⟨mu2, M2, r, g2, (s.ext e1).ext e2, (Post.bind h2).imp fun u M3 mu3 H3 e3 g3 h3 => ?_⟩
  have rr := ((rx.ext e2).ext e3).rd g3
  cases q : slW (rd M3 x) l u with
  | none => rw [q] at h3; exact False.elim h3
  | some w =>
    rw [q] at h3
    generalize rd M3 x = y at rr q
    cases rr with
    | lst a b =>
      cases q
      exact .inl ⟨_, _, rfl, .inl (.inl a), fun p hp => h3 _ _ (Ext.upd g3 hp) (g3.upd hp) _ (.newLst g3 hp (b.cut l u))⟩
    | fz a =>
      cases q
      refine .inl ⟨_, _, rfl, a, fun p hp => h3 _ _ (Ext.upd g3 hp) (g3.upd hp) _ ?_⟩
      rw [← cutW_map]
      exact .newLst g3 hp ((RVs.ints _).cut l u)
    | tup a b =>
      cases q
      refine .inr ⟨_, _, rfl, a.sq, fun z => ?_, fun z p hp => h3 _ _ (Ext.upd g3 hp) (g3.upd hp) _ (.newTup g3 hp (b.cut l u))⟩
      refine h3 _ _ Ext.refl g3 _ ?_
      rename_i ws vs a0
      have : cutW ws l u = ws := by
        unfold cutW
        rw [b.length, z.1, z.2, Nat.sub_zero, List.drop_zero, ← b.length, List.take_length]
      rw [this]
      exact .ofTup g3 a.weak b
    | _ => simp [slW] at q
theorem sl_slice (he : PE X e (den X.K m)) (hl : PO X lo (denO X.K ml)) (hh : PO X hi (denO X.K mh)) : PE X (.Subscript e (.Slice lo hi none p2) pos) (denL X.K (lSl m ml mh)) := by
  refine PE.of (pe_slice sl_list he hl hh) fun σ H Q ⟨mu, M, r, g, s, h⟩ => ?_
  refine ⟨mu, M, r, g, s, (Post.bind h).imp fun x M1 mu1 H1 e1 g1 h1 vx rx => ?_⟩
  refine ⟨mu1, M1, r, g1, s.ext e1, (Post.bind h1).imp fun l M2 mu2 H2 e2 g2 h2 => ?_⟩
  refine ⟨mu2, M2, r, g2, (s.ext e1).ext e2, (Post.bind h2).imp fun u M3 mu3 H3 e3 g3 h3 => ?_⟩
  have rr := ((rx.ext e2).ext e3).rd g3
  generalize rd M3 x = y at rr h3
  cases rr with
  | lst a b => exact ⟨_, _, rfl, .inl (.inl a), fun p hp => h3 _ _ Ext.refl g3 _ p (b.cut l u) hp⟩
  | fz a =>
    refine ⟨_, _, rfl, a, fun p hp => ?_⟩
    refine h3 _ _ Ext.refl g3 _ p ?_ hp
    rw [← cutW_map]
    exact (RVs.ints _).cut l u
  | _ => exact False.elim h3
variable {a b : Expr} {ma mb : Ev}
theorem sd_ix (hu : X.A.units + 1 < cLine) (ha : PE X a (den X.K ma)) (hb : PE X b (den X.K mb)) (hs : PlainIx b := by intro _ _; rfl) : PE X (.Subscript a b pos) (den X.K (eOp ixW ma mb)) :=
  PE.of (pe_ix (ix_any hu) ha hb hs) fun σ H Q h => op_core os_ix h
/-- a new list by + -/
def lAdd (ma mb : Ev) : EvL := fun r M => (ma r M).bind fun x M1 => (mb r M1).bind fun y M2 => match rd M2 x with
  | .lst xs => (match rd M2 y with
    | .lst ys => if xs.length + ys.length ≤ line then .ok (xs ++ ys) M2 else .bad
    | _ => .bad)
  | _ => .bad
theorem sl_add (ha : PE X a (den X.K ma)) (hb : PE X b (den X.K mb)) : PE X (.BinOp a .Add b pos) (denL X.K (lAdd ma mb)) := by
  refine PE.of (pe_op op_cat ha hb) fun σ H Q ⟨mu, M, r, g, s, h⟩ => ?_
  refine ⟨mu, M, r, g, s, (Post.bind h).imp fun x M1 mu1 H1 e1 g1 h1 vx rx => ?_⟩
  refine ⟨mu1, M1, r, g1, s.ext e1, (Post.bind h1).imp fun y M2 mu2 H2 e2 g2 h2 vy ry => ?_⟩
  have rr := (rx.ext e2).rd g2
  have rq := ry.rd g2
  generalize rd M2 x = x' at rr h2
  generalize rd M2 y = y' at rq h2
  cases rr with
  | lst a1 b1 =>
    cases rq with
    | lst a2 b2 =>
      simp only at h2
      split at h2
      · rename_i hz
        exact ⟨_, _, _, _, rfl, rfl, a1, a2, by rw [← b1.length, ← b2.length, line_eq]; exact hz, fun p hp => h2 _ _ Ext.refl g2 _ p (b1.append b2) hp⟩
      · exact False.elim h2
    | _ => exact False.elim h2
  | _ => exact False.elim h2
end
end Py

namespace Py
open PySem L2

/-! ## targets -/
abbrev Tg := MH → W → Sl → Option Sl
abbrev Tgs := List W → MH → Sl → Option Sl
def gN (i : Nat) : Tg := fun _ w r => some (r.set i (some w))
def gT (ts : Tgs) : Tg := fun M w r => match rd M w with
  | .tup _ ws => ts ws M r
  | .lst ws => ts ws M r
  | _ => none
def gs0 : Tgs := fun ws _ r => match ws with
  | [] => some r
  | _ => none
def gsC (t : Tg) (ts : Tgs) : Tgs := fun ws M r => match ws with
  | w :: ws => (t M w r).bind fun r1 => ts ws M r1
  | [] => none
/-- the slots outside own stay -/
def Off (own : List Nat) (σ σ' : St) : Prop := σ'.length = σ.length ∧ ∀ j, j ∉ own → σ'[j]? = σ[j]?
def denG (K : PySem.W.Frag) (t : Tg) (own : List Nat) : TG := fun v σ H Q => ∃ mu M r w r', Good K mu M H ∧ RS K mu H r σ ∧ RV K mu H w v ∧ t M w r = some r' ∧
  ∀ σ', RS K mu H r' σ' → Off own σ σ' → Q σ' H
def denGs (K : PySem.W.Frag) (n : Nat) (t : Tgs) (own : List Nat) : TGs := fun vs σ H Q => ∃ mu M r ws r', Good K mu M H ∧ RS K mu H r σ ∧ RVs K mu H ws vs ∧ t ws M r = some r' ∧
  ∀ σ', RS K mu H r' σ' → Off own σ σ' → Q σ' H
theorem PG.of {X : Cx} {e : Expr} {t t' : TG} (h : PG X e t) (f : ∀ v σ H Q, t' v σ H Q → t v σ H Q) : PG X e t' :=
  ⟨fun pins s σ H v u Q I r q => h.run pins s σ H v u Q I r (f v σ H Q q)⟩
theorem PG.or {X : Cx} {e : Expr} {t t' : TG} (h : PG X e t) (h' : PG X e t') : PG X e (fun v σ H Q => t v σ H Q ∨ t' v σ H Q) :=
  ⟨fun pins s σ H v u Q I r q => q.elim (h.run pins s σ H v u Q I r) (h'.run pins s σ H v u Q I r)⟩
theorem PGs.of {X : Cx} {e : List Expr} {t t' : TGs} (h : PGs X e t) (f : ∀ v σ H Q, t' v σ H Q → t v σ H Q) : PGs X e t' :=
  ⟨fun pins s σ H v u Q I r q => h.run pins s σ H v u Q I r (f v σ H Q q)⟩
theorem RS.set {K mu H r σ i w v} (s : RS K mu H r σ) (rv : RV K mu H w v) : RS K mu H (r.set i (some w)) (σ.set i (some v)) where
  len := by simp [s.len]
  at_ := fun j u e => by
    by_cases hj : i = j
    · subst hj
      have hl : i < r.length := by
        have := (List.getElem?_eq_some_iff.mp e).1
        simpa using this
      rw [List.getElem?_set_self hl] at e
      cases e
      exact ⟨v, List.getElem?_set_self (by rw [← s.len]; exact hl), rv⟩
    · rw [List.getElem?_set_ne hj] at e
      obtain ⟨v', h1, h2⟩ := s.at_ j u e
      exact ⟨v', by rw [List.getElem?_set_ne hj]; exact h1, h2⟩
theorem Off.set {own : List Nat} {σ : St} {i : Nat} {v : Option V} (h : i ∈ own) : Off own σ (σ.set i v) :=
  ⟨by simp, fun j hj => List.getElem?_set_ne (fun (e : i = j) => hj (by rw [← e]; exact h))⟩
theorem Off.trans {own own' : List Nat} {σ σ' σ'' : St} (a : Off own σ σ') (b : Off own' σ' σ'') (h : ∀ i ∈ own, i ∈ own') : Off own' σ σ'' :=
  ⟨b.1.trans a.1, fun j hj => (b.2 j hj).trans (a.2 j fun q => hj (h j q))⟩
section
variable {X : Cx} {pos : Pos}
theorem sg_name {i : Nat} {x : Str} (h : PG X (.Name x pos) (gName i)) : PG X (.Name x pos) (denG X.K (gN i) [i]) :=
  PG.of h fun v σ H Q ⟨mu, M, r, w, r', g, s, rv, e, k⟩ => by
    cases e
    exact k _ (s.set rv) (Off.set (by simp))
theorem sgs_nil : PGs X [] (denGs X.K 0 gs0 []) := by
  refine PGs.of pgs_nil fun vs σ H Q ⟨mu, M, r, ws, r', g, s, rv, e, k⟩ => ?_
  cases rv with
  | nil => cases e; exact ⟨rfl, k _ s ⟨rfl, fun _ _ => rfl⟩⟩
  | cons a b => cases e
theorem sgs_cons {e : Expr} {es : List Expr} {t : Tg} {u : Tgs} {o o' : List Nat} {n : Nat} (h1 : PG X e (denG X.K t o)) (h2 : PGs X es (denGs X.K n u o'))
    (hs : (assignEach (e :: es) X.env).map (·.2) = assign e X.env :: (assignEach es X.env).map (·.2) := by rfl) : PGs X (e :: es) (denGs X.K (n + 1) (gsC t u) (o ++ o')) := by
  refine PGs.of (pgs_cons h1 h2 hs) fun vs σ H Q ⟨mu, M, r, ws, r', g, s, rv, ee, k⟩ => ?_
  cases rv with
  | nil => cases ee
  | @cons w v ws vs a b =>
    simp only [gsC] at ee
    cases q : t M w r with
    | none => rw [q] at ee; cases ee
    | some r1 =>
      rw [q] at ee
      refine ⟨_, _, rfl, mu, M, r, w, r1, g, s, a, q, fun σ1 s1 o1 => ?_⟩
      refine ⟨mu, M, r1, ws, r', g, s1, b, ee, fun σ2 s2 o2 => k σ2 s2 ?_⟩
      exact ⟨o2.1.trans o1.1, fun j hj => (o2.2 j fun z => hj (List.mem_append_right _ z)).trans (o1.2 j fun z => hj (List.mem_append_left _ z))⟩
theorem sg_tup {es : List Expr} {k0 : Nat} {u : Tgs} {o : List Nat} {n : Nat} (hc : X.calm = true) (h : PGs X es (denGs X.K n u o)) (hu : ∀ ws M r r', u ws M r = some r' → ws.length = n)
    (hn : (assignEach es X.env).length = n := by rfl) (hst : (assignEach es X.env).findIdx? (·.1) = none := by rfl) : PG X (.Tuple es k0 pos) (denG X.K (gT u) o) := by
  refine PG.of (PG.or (pg_tup hc h hn hst) (pg_unl hc h hn hst)) fun v σ H Q ⟨mu, M, r, w, r', g, s, rv, e, k⟩ => ?_
  have rr := rv.rd g
  unfold gT at e
  generalize rd M w = x at rr e
  cases rr with
  | tup a b => exact .inl ⟨_, _, rfl, a.sq, by rw [← b.length]; exact hu _ _ _ _ e, mu, M, r, _, r', g, s, b, e, k⟩
  | lst a b => exact .inr ⟨_, _, rfl, .inl (.inl a), by rw [← b.length]; exact hu _ _ _ _ e, mu, M, r, _, r', g, s, b, e, k⟩
  | _ => cases e
end
theorem gs0_len {ws M r r'} (h : gs0 ws M r = some r') : ws.length = 0 := by cases ws with | nil => rfl | cons => cases h
theorem gsC_len {t : Tg} {u : Tgs} {n : Nat} (hu : ∀ ws M r r', u ws M r = some r' → ws.length = n) : ∀ ws M r r', gsC t u ws M r = some r' → ws.length = n + 1 := by
  intro ws M r r' h
  cases ws with
  | nil => cases h
  | cons w ws =>
    simp only [gsC] at h
    cases q : t M w r with
    | none => rw [q] at h; cases h
    | some r1 => rw [q] at h; simp [hu _ _ _ _ h]

/-! ## statements -/
def PostS (K : PySem.W.Frag) (mu : Mu) (H : Hp) (D : Ends) : O → Prop
  | .nx r M => ∀ σ mu' H', Ext mu H mu' H' → Good K mu' M H' → RS K mu' H' r σ → D.nx σ H'
  | .bk r M => ∀ σ mu' H', Ext mu H mu' H' → Good K mu' M H' → RS K mu' H' r σ → D.bk σ H'
  | .ct r M => ∀ σ mu' H', Ext mu H mu' H' → Good K mu' M H' → RS K mu' H' r σ → D.ct σ H'
  | .rt w M => ∀ v mu' H', Ext mu H mu' H' → Good K mu' M H' → RV K mu' H' w v → D.rt v H'
  | .exc _ _ => False
  | .bad => False
theorem PostS.ext {K mu H D mu1 H1 o} (x : Ext mu H mu1 H1) (h : PostS K mu H D o) : PostS K mu1 H1 D o := by
  cases o with
  | nx r M => exact fun σ mu' H' e => h σ mu' H' (x.trans e)
  | bk r M => exact fun σ mu' H' e => h σ mu' H' (x.trans e)
  | ct r M => exact fun σ mu' H' e => h σ mu' H' (x.trans e)
  | rt w M => exact fun σ mu' H' e => h σ mu' H' (x.trans e)
  | exc c M => exact h
  | bad => exact h
theorem PostS.thenO {α : Type} {K mu H D} {x : R α} {f : α → MH → O} (h : PostS K mu H D (x.thenO f)) : Post K mu H (fun a M1 mu1 H1 => PostS K mu1 H1 D (f a M1)) x := by
  cases x with
  | ok a M' => exact fun mu' H' e _ => PostS.ext e h
  | exc c M => exact h
  | bad => exact h
def denS (K : PySem.W.Frag) (m : Sx) : TS := fun D σ H => ∃ mu M r, Good K mu M H ∧ RS K mu H r σ ∧ PostS K mu H D (m r M)
def sSkip : Sx := fun r M => .nx r M
def sSeq (a b : Sx) : Sx := fun r M => match a r M with
  | .nx r1 M1 => b r1 M1
  | o => o
def sSet (i : Nat) (m : Ev) : Sx := fun r M => (m r M).thenO fun w M1 => .nx (r.set i (some w)) M1
def sAsg (t : Tg) (m : Ev) : Sx := fun r M => (m r M).thenO fun w M1 => match t M1 w r with
  | some r1 => .nx r1 M1
  | none => .bad
def sEx (m : Ev) : Sx := fun r M => (m r M).thenO fun _ M1 => .nx r M1
def sRet (m : Ev) : Sx := fun r M => (m r M).thenO fun w M1 => .rt w M1
def sRet0 : Sx := fun _ M => .rt .non M
def sIf (c : EvB) (a b : Sx) : Sx := fun r M => (c r M).thenO fun k M1 => if k = true then a r M1 else b r M1
def sBad : Sx := fun _ _ => .bad
def sCont : Sx := fun r M => .ct r M
def sBrk : Sx := fun r M => .bk r M
section
variable {X : Cx} {e c : Expr} {m : Ev} {bc : EvB} {pos pos' : Pos} {st : Stmt} {rest : List Stmt} {a b : Sx}
theorem ss_nil : PSs X [] (denS X.K sSkip) := PSs.of pss_nil fun D σ H ⟨mu, M, r, g, s, h⟩ => h σ mu H Ext.refl g s
theorem ss_cons (h1 : PS X st (denS X.K a)) (h2 : PSs X rest (denS X.K b)) : PSs X (st :: rest) (denS X.K (sSeq a b)) := by
  refine PSs.of (pss_cons h1 h2) fun D σ H ⟨mu, M, r, g, s, h⟩ => ⟨mu, M, r, g, s, ?_⟩
  unfold sSeq at h
  cases q : a r M with
  | nx r1 M1 => rw [q] at h; exact fun σ' mu' H' e' g' s' => ⟨mu', M1, r1, g', s', PostS.ext e' h⟩
  | bk r1 M1 => rw [q] at h; exact h
  | ct r1 M1 => rw [q] at h; exact h
  | rt r1 M1 => rw [q] at h; exact h
  | exc r1 M1 => rw [q] at h; exact h
  | bad => rw [q] at h; exact h
theorem ss_one (h1 : PS X st (denS X.K a)) : PSs X [st] (denS X.K a) := pss_one h1
theorem ss_pass : PS X (.Pass pos) (denS X.K sSkip) := PS.of ps_pass fun D σ H ⟨mu, M, r, g, s, h⟩ => h σ mu H Ext.refl g s
theorem ss_cont : PS X (.Continue pos) (denS X.K sCont) := PS.of ps_continue fun D σ H ⟨mu, M, r, g, s, h⟩ => h σ mu H Ext.refl g s
theorem ss_brk : PS X (.Break pos) (denS X.K sBrk) := PS.of ps_break fun D σ H ⟨mu, M, r, g, s, h⟩ => h σ mu H Ext.refl g s
theorem ss_never : PS X st (denS X.K sBad) := PS.of ps_never fun D σ H ⟨mu, M, r, g, s, h⟩ => h
theorem sss_never {sts : List Stmt} : PSs X sts (denS X.K sBad) := PSs.of pss_never fun D σ H ⟨mu, M, r, g, s, h⟩ => h
theorem ss_set {i : Nat} {x : Str} (h : PS X (.Assign [.Name x pos'] e pos) (tAsg (den X.K m) (gName i))) : PS X (.Assign [.Name x pos'] e pos) (denS X.K (sSet i m)) := by
  refine PS.of h fun D σ H ⟨mu, M, r, g, s, h⟩ => ?_
  refine ⟨mu, M, r, g, s, (PostS.thenO h).imp fun w M1 mu1 H1 e1 g1 h1 v rv => ?_⟩
  exact h1 _ mu1 H1 Ext.refl g1 ((s.ext e1).set rv)
theorem ss_asg {tg : Expr} {t : Tg} {o : List Nat} (he : PE X e (den X.K m)) (hg : PG X tg (denG X.K t o)) (hs : swapsWithSole [tg] e pos.line X.env = pure false := by rfl) (hw : swappedStores [tg] e X.env = pure none := by rfl)
    (h1 : (assignEach [tg] X.env).map (·.2) = [assign tg X.env] := by rfl) : PS X (.Assign [tg] e pos) (denS X.K (sAsg t m)) := by
  refine PS.of (ps_asg he hg hs hw h1) fun D σ H ⟨mu, M, r, g, s, h⟩ => ?_
  refine ⟨mu, M, r, g, s, (PostS.thenO h).imp fun w M1 mu1 H1 e1 g1 h1 v rv => ?_⟩
  cases q : t M1 w r with
  | none => simp only [q] at h1; exact False.elim h1
  | some r1 =>
    simp only [q] at h1
    exact ⟨mu1, M1, r, w, r1, g1, s.ext e1, rv, q, fun σ' s' _ => h1 σ' mu1 H1 Ext.refl g1 s'⟩
theorem ss_ex (he : PE X e (den X.K m)) (hs : swapsWith e none pos.line X.env = pure false := by rfl) : PS X (.Expr e pos) (denS X.K (sEx m)) := by
  refine PS.of (ps_expr he hs) fun D σ H ⟨mu, M, r, g, s, h⟩ => ?_
  exact ⟨mu, M, r, g, s, (PostS.thenO h).imp fun w M1 mu1 H1 e1 g1 h1 v rv => h1 σ mu1 H1 Ext.refl g1 (s.ext e1)⟩
theorem ss_ret (he : PE X e (den X.K m)) : PS X (.Return (some e) pos) (denS X.K (sRet m)) := by
  refine PS.of (ps_ret he) fun D σ H ⟨mu, M, r, g, s, h⟩ => ?_
  exact ⟨mu, M, r, g, s, (PostS.thenO h).imp fun w M1 mu1 H1 e1 g1 h1 v rv => h1 v mu1 H1 Ext.refl g1 rv⟩
theorem ss_ret0 : PS X (.Return none pos) (denS X.K sRet0) := PS.of ps_retN fun D σ H ⟨mu, M, r, g, s, h⟩ => h .non mu H Ext.refl g .non
theorem ss_if {ta tb : List Stmt} (hc : PT X c (denT X.K bc)) (ha : PSs X ta (denS X.K a)) (hb : PSs X tb (denS X.K b)) : PS X (.If c ta tb pos) (denS X.K (sIf bc a b)) := by
  refine PS.of (ps_if hc ha hb) fun D σ H ⟨mu, M, r, g, s, h⟩ => ?_
  refine ⟨mu, M, r, g, s, (PostS.thenO h).imp fun k M1 mu1 H1 e1 g1 h1 => ?_⟩
  cases k with
  | true => exact ⟨mu1, M1, r, g1, s.ext e1, h1⟩
  | false => exact ⟨mu1, M1, r, g1, s.ext e1, h1⟩
end

/-! ## what is walked -/
/-- the walk yields these, while the heap goes on -/
def Yl (K : PySem.W.Frag) (J : It) (mu : Mu) (H : Hp) (ws : List W) : Prop :=
  ∀ mu' H' M', ExtW mu H mu' H' → Good K mu' M' H' → ∀ i, (ws.length = i → J.stop i H') ∧ ∀ w, ws[i]? = some w → J.go i H' ∧
    ∀ x H'', J.yld i H' x H'' → Ext mu' H' mu' H'' ∧ Good K mu' M' H'' ∧ RV K mu' H'' w x
def denI (K : PySem.W.Frag) (m : EvL) : TI := fun σ H Rr => ∃ mu M r, Good K mu M H ∧ RS K mu H r σ ∧
  Post K mu H (fun ws _ mu' H' => ∀ J, Yl K J mu' H' ws → Rr J H') (m r M)
def loopS (t : Tg) (body : Sx) : List W → Sl → MH → O
  | [], r, M => .nx r M
  | w :: ws, r, M => match t M w r with
    | none => .bad
    | some r1 => match body r1 M with
      | .nx r2 M2 => loopS t body ws r2 M2
      | .ct r2 M2 => loopS t body ws r2 M2
      | .bk r2 M2 => .nx r2 M2
      | o => o
def sFor (it : EvL) (t : Tg) (body : Sx) : Sx := fun r M => (it r M).thenO fun ws M1 => loopS t body ws r M1
theorem for_core {K : PySem.W.Frag} {it : EvL} {t : Tg} {o : List Nat} {body : Sx} {D : Ends} {σ : St} {H : Hp} (h : denS K (sFor it t body) D σ H) : tFor (denI K it) (denG K t o) (denS K body) D σ H := by
  obtain ⟨mu, M, r, g, s, h⟩ := h
  refine ⟨mu, M, r, g, s, (PostS.thenO h).imp fun ws M1 mu1 H1 e1 g1 h1 J hy => ?_⟩
  refine ⟨fun i m σ' H' => ∃ mu' M' r', Ext mu1 H1 mu' H' ∧ Good K mu' M' H' ∧ RS K mu' H' r' σ' ∧ m + i = ws.length ∧ PostS K mu' H' D (loopS t body (ws.drop i) r' M'),
    ⟨ws.length, mu1, M1, r, Ext.refl, g1, s.ext e1, rfl, h1⟩, fun i m σ' H' ⟨mu', M', r', e', g', s', hm, h'⟩ => ?_⟩
  obtain ⟨y1, y2⟩ := hy mu' H' M' e'.toW g' i
  cases q : ws[i]? with
  | none =>
    have hi : ws.length ≤ i := List.getElem?_eq_none_iff.mp q
    have hi : ws.length = i := by omega
    rw [List.drop_eq_nil_of_le (by omega)] at h'
    exact .inl ⟨y1 hi, h' σ' mu' H' Ext.refl g' s'⟩
  | some w =>
    obtain ⟨z1, z2⟩ := y2 w q
    obtain ⟨hl, hw⟩ := List.getElem?_eq_some_iff.mp q
    rw [List.drop_eq_getElem_cons hl, hw] at h'
    refine .inr ⟨z1, fun σ2 H2 => ∃ mu' M' r', Ext mu1 H1 mu' H2 ∧ Good K mu' M' H2 ∧ RS K mu' H2 r' σ2 ∧ PostS K mu' H2 D (loopS t body (ws.drop (i + 1)) r' M'),
      fun σ2 H2 ⟨mu2, M2, r2, e2, g2, s2, h2⟩ => ⟨m - 1, by omega, mu2, M2, r2, e2, g2, s2, by omega, h2⟩, fun x H'' yld => ?_⟩
    obtain ⟨e3, g3, rv⟩ := z2 x H'' yld
    simp only [loopS] at h'
    cases q2 : t M' w r' with
    | none => rw [q2] at h'; exact False.elim h'
    | some r1 =>
      rw [q2] at h'
      simp only at h'
      refine ⟨mu', M', r', w, r1, g3, s'.ext e3, rv, q2, fun σ2 s2 _ => ⟨mu', M', r1, g3, s2, ?_⟩⟩
      cases q3 : body r1 M' with
      | nx r2 M2 => rw [q3] at h'; exact fun σ3 mu3 H3 e4 g4 s4 => ⟨mu3, M2, r2, e'.trans (e3.trans e4), g4, s4, PostS.ext (e3.trans e4) h'⟩
      | ct r2 M2 => rw [q3] at h'; exact fun σ3 mu3 H3 e4 g4 s4 => ⟨mu3, M2, r2, e'.trans (e3.trans e4), g4, s4, PostS.ext (e3.trans e4) h'⟩
      | bk r2 M2 => rw [q3] at h'; exact fun σ3 mu3 H3 e4 g4 s4 => h' σ3 mu3 H3 (e3.trans e4) g4 s4
      | rt w2 M2 => rw [q3] at h'; exact fun σ3 mu3 H3 e4 g4 s4 => h' σ3 mu3 H3 (e3.trans e4) g4 s4
      | exc c2 M2 => rw [q3] at h'; exact h'
      | bad => rw [q3] at h'; exact h'
theorem ss_for {X : Cx} {tg iter : Expr} {body : List Stmt} {it : EvL} {t : Tg} {o : List Nat} {b : Sx} {pos : Pos} (hp : PassesOwn (model X.prog X.w) X.A X.env X.xe) (hc : X.calm = true) (hi : PI X tg iter (denI X.K it)) (hg : PG X tg (denG X.K t o)) (hb : PSs X body (denS X.K b))
    (hs : ∀ x, foldedSetIterable iter X.env x = pure x := by intro _; rfl) : PS X (.For tg iter body [] pos) (denS X.K (sFor it t b)) :=
  PS.of (ps_for hp hc hi hg hb hs) fun D σ H h => for_core h
end Py

namespace Py
open PySem L2

/-! ## list comprehensions -/
def wipeR (r : Sl) : List Nat → Sl
  | [] => r
  | v :: vs => (wipeR r vs).set v none
def lcGo (r : Sl) (t : Tg) (c : EvB) (e : Ev) : List W → List W → MH → R (List W)
  | [], acc, M => .ok acc M
  | w :: ws, acc, M => match t M w r with
    | none => .bad
    | some r1 => (c r1 M).bind fun k M1 => if k = true then (e r1 M1).bind fun y M2 => if acc.length < line then lcGo r t c e ws (acc ++ [y]) M2 else .bad else lcGo r t c e ws acc M1
def lComp (own : List Nat) (it : EvL) (t : Tg) (c : EvB) (e : Ev) : EvL := fun r M => (it r M).bind fun ws M1 => lcGo (wipeR r own) t c e ws [] M1
def bYes : EvB := fun _ M => .ok true M
theorem wipeR_length (r : Sl) : ∀ vs : List Nat, (wipeR r vs).length = r.length
  | [] => rfl
  | v :: vs => by unfold wipeR; rw [List.length_set, wipeR_length r vs]
theorem RS.wipe {K mu H r σ} (s : RS K mu H r σ) : ∀ vs : List Nat, RS K mu H (wipeR r vs) (wipe σ vs)
  | [] => s
  | v :: vs => by
    have ih := RS.wipe s vs
    refine ⟨by show ((wipeR r vs).set v none).length = ((L2.wipe σ vs).set v none).length; simp [ih.len], fun j w e => ?_⟩
    unfold wipeR at e
    by_cases hj : v = j
    · subst hj
      by_cases hl : v < (wipeR r vs).length
      · rw [List.getElem?_set_self hl] at e; cases e
      · rw [List.getElem?_eq_none (by simpa using hl)] at e; cases e
    · rw [List.getElem?_set_ne hj] at e
      obtain ⟨x, h1, h2⟩ := ih.at_ j w e
      exact ⟨x, by show ((L2.wipe σ vs).set v none)[j]? = _; rw [List.getElem?_set_ne hj]; exact h1, h2⟩
theorem wipe_get (σ : St) (j : Nat) : ∀ vs : List Nat, (wipe σ vs)[j]? = if j ∈ vs ∧ j < σ.length then some none else σ[j]?
  | [] => by simp [wipe]
  | v :: vs => by
    unfold wipe
    by_cases hj : v = j
    · subst hj
      by_cases hl : v < σ.length
      · rw [List.getElem?_set_self (by rw [wipe_length]; exact hl), if_pos ⟨by simp, hl⟩]
      · rw [List.getElem?_eq_none (by simp [wipe_length]; omega), if_neg (fun h => hl h.2), List.getElem?_eq_none (by omega)]
    · rw [List.getElem?_set_ne hj, wipe_get σ j vs]
      have : j ∈ v :: vs ↔ j ∈ vs := by simp [Ne.symm hj]
      simp only [this]
theorem wipe_off {σ σ2 : St} {own : List Nat} (h : Off own (wipe σ own) σ2) : wipe σ2 own = wipe σ own := by
  have hl : σ2.length = σ.length := by rw [h.1, wipe_length]
  apply List.ext_getElem?
  intro j
  rw [wipe_get, wipe_get, hl]
  by_cases hj : j ∈ own
  · by_cases hz : j < σ.length
    · rw [if_pos ⟨hj, hz⟩, if_pos ⟨hj, hz⟩]
    · rw [if_neg (fun q => hz q.2), if_neg (fun q => hz q.2), List.getElem?_eq_none (by omega), List.getElem?_eq_none (by omega)]
  · rw [if_neg (fun q => hj q.1), if_neg (fun q => hj q.1), h.2 j hj, wipe_get, if_neg (fun q => hj q.1)]
theorem lc_core' {K : PySem.W.Frag} {own : List Nat} {it : EvL} {t : Tg} {c : EvB} {e : Ev} {σ : St} {H : Hp} {Q : VK} (h : denL K (lComp own it t c e) σ H Q) :
    tLc (denI K it) (denG K t own) (denT K c) (den K e) own σ H Q := by
  obtain ⟨mu, M, r, g, s, h⟩ := h
  refine ⟨mu, M, r, g, s, (Post.bind h).imp fun ws M1 mu1 H1 e1 g1 h1 J hy D hD => ?_⟩
  have hDr : D ∉ mu1.rsv := fun q => g1.rsvd D q hD
  have s1 := s.ext e1
  refine ⟨fun i m H' => ∃ (mu' : Mu) (M' : MH) (acc : List W) (vs : List V), Ext mu1 H1 mu' (hid H' D) ∧ Good K (mu'.hold D) M' H' ∧ H' D = some (.lst vs) ∧ RVs K (mu'.hold D) H' acc vs ∧ m + i = ws.length ∧
      Post K mu' (hid H' D) (fun ws' _ mu2 H2 => ∀ vs p, RVs K mu2 H2 ws' vs → H2 p = none → Q (.ref p) (L2.upd H2 p (.lst vs))) (lcGo (wipeR r own) t c e (ws.drop i) acc M'), ?_, ?_⟩
  · refine ⟨ws.length, mu1, M1, [], [], ?_, g1.hold hD rfl, upd_same, .nil, rfl, ?_⟩
    · rw [hid_upd', hid_none hD]; exact Ext.refl
    · rw [hid_upd', hid_none hD]; exact h1
  · rintro i m H' ⟨mu', M', acc, vs, ex, gg, hDv, ra, hm, hp⟩
    have hDr' : D ∉ mu'.rsv := by rw [ex.rsv]; exact hDr
    have xw : ExtW mu1 H1 (mu'.hold D) H' := ex.toW.trans (ExtW.hold (by rw [hDv]; simp))
    obtain ⟨y1, y2⟩ := hy (mu'.hold D) H' M' xw gg i
    cases q : ws[i]? with
    | none =>
      have hi : ws.length ≤ i := List.getElem?_eq_none_iff.mp q
      have hi : ws.length = i := by omega
      rw [List.drop_eq_nil_of_le (by omega)] at hp
      refine .inl ⟨y1 hi, ?_⟩
      have := hp mu' (hid H' D) Ext.refl (gg.unhold hDr') vs D ra.unhold hid_at
      rw [hid_upd hDv] at this
      exact this
    | some w =>
      obtain ⟨z1, z2⟩ := y2 w q
      obtain ⟨hl, hw⟩ := List.getElem?_eq_some_iff.mp q
      rw [List.drop_eq_getElem_cons hl, hw] at hp
      refine .inr ⟨z1, fun H2 => ∃ (mu' : Mu) (M' : MH) (acc : List W) (vs : List V), Ext mu1 H1 mu' (hid H2 D) ∧ Good K (mu'.hold D) M' H2 ∧ H2 D = some (.lst vs) ∧ RVs K (mu'.hold D) H2 acc vs ∧
        Post K mu' (hid H2 D) (fun ws' _ mu2 H2 => ∀ vs p, RVs K mu2 H2 ws' vs → H2 p = none → Q (.ref p) (L2.upd H2 p (.lst vs))) (lcGo (wipeR r own) t c e (ws.drop (i + 1)) acc M'),
        fun H2 ⟨mu2, M2, acc2, vs2, a1, a2, a3, a4, a5⟩ => ⟨m - 1, by omega, mu2, M2, acc2, vs2, a1, a2, a3, a4, by omega, a5⟩, fun x H'' yld => ?_⟩
      obtain ⟨e3, g3, rv⟩ := z2 x H'' yld
      have ex3 : Ext mu1 H1 mu' (hid H'' D) := ex.trans (e3.unhold hDr')
      have hp3 := Post.ext (e3.unhold hDr') hp
      have hD3 : H'' D = some (.lst vs) := by rw [e3.held D List.mem_cons_self]; exact hDv
      have xw3 : ExtW mu1 H1 (mu'.hold D) H'' := ex3.toW.trans (ExtW.hold (by rw [hD3]; simp))
      simp only [lcGo] at hp3
      cases q2 : t M' w (wipeR r own) with
      | none => rw [q2] at hp3; exact False.elim hp3
      | some r1 =>
        rw [q2] at hp3
        simp only at hp3
        refine ⟨mu'.hold D, M', wipeR r own, w, r1, g3, (s1.extW xw3).wipe own, rv, q2, fun σ2 s2 o2 => ⟨wipe_off o2, mu'.hold D, M', r1, g3, s2, ?_⟩⟩
        refine (Post.hold hDr' (Post.bind hp3)).imp fun k M2 mu2 H2 e2 g2 hk => ?_
        obtain ⟨mu3, rfl, hr3, x3, hk⟩ := hk
        have hDr3 : D ∉ mu3.rsv := by rw [hr3]; exact hDr'
        have hD2 : H2 D = some (.lst vs) := by rw [e2.held D List.mem_cons_self]; exact hD3
        cases k with
        | false =>
          rw [if_neg (by decide)] at hk ⊢
          exact ⟨mu3, M2, acc, vs, ex3.trans x3, g2, hD2, (ra.ext e3).ext e2, hk⟩
        | true =>
          rw [if_pos rfl] at hk ⊢
          refine ⟨mu3.hold D, M2, r1, g2, s2.ext e2, (Post.hold hDr3 (Post.bind hk)).imp fun y M4 mu4 H4 e4 g4 hy4 v rv4 => ?_⟩
          obtain ⟨mu5, rfl, hr5, x5, hy5⟩ := hy4
          have hD4 : H4 D = some (.lst vs) := by rw [e4.held D List.mem_cons_self]; exact hD2
          have ra4 : RVs K (mu5.hold D) H4 acc vs := ((ra.ext e3).ext e2).ext e4
          split at hy5
          · rename_i hz
            refine ⟨vs, hD4, by rw [← ra4.length, line_eq]; exact hz, mu5, M4, acc ++ [y], vs ++ [v], ?_, g4.held List.mem_cons_self rfl, upd_same, (ra4.append (.cons rv4 .nil)).held List.mem_cons_self, ?_⟩
            · rw [hid_upd']; exact (ex3.trans x3).trans x5
            · rw [hid_upd']; exact hy5
          · exact False.elim hy5
section
variable {X : Cx} {elt tg iter : Expr} {ifs : List Expr} {scope : Scope} {own : List (Str × Nat)} {pos spos : Pos} {it : EvL} {t : Tg} {c : EvB} {e : Ev}
theorem PTs.of {X : Cx} {ifs : List Expr} {t t' : TT} (h : PTs X ifs t) (f : ∀ σ H Q, t' σ H Q → t σ H Q) : PTs X ifs t' :=
  ⟨fun pins s σ H Q I q => h.run pins s σ H Q I (f σ H Q q)⟩
theorem sts_nil : PTs X [] (denT X.K bYes) := PTs.of pts_nil fun σ H Q ⟨mu, M, r, g, s, h⟩ => h mu H Ext.refl g
theorem sts_one {c : Expr} {b : EvB} (h : PT X c (denT X.K b)) : PTs X [c] (denT X.K b) := pts_one h
theorem sl_comp (hc : X.calm = true) (hN : X.N.Nodup) (hi : PI X tg iter (denI X.K it)) (ok : BlkOk X.N X.env.scope scope own)
    (hg : ∀ (s : Shared) (H : Hp) (C : Addr) (cl : List (Str × Addr)) (fp : List Addr), PG (X.blk s H scope (compEnvC scope cl C X.env) fp) tg (denG X.K t (own.map (·.2))))
    (ht : ∀ (s : Shared) (H : Hp) (C : Addr) (cl : List (Str × Addr)) (fp : List Addr), PTs (X.blk s H scope (compEnvC scope cl C X.env) fp) ifs (denT X.K c))
    (he : ∀ (s : Shared) (H : Hp) (C : Addr) (cl : List (Str × Addr)) (fp : List Addr), PE (X.blk s H scope (compEnvC scope cl C X.env) fp) elt (den X.K e)) (hs : ∀ x, foldedSetIterable iter X.env x = pure x := by intro _; rfl) :
    PE X (.ListComp elt [⟨tg, iter, ifs, 0⟩] scope pos) (denL X.K (lComp (own.map (·.2)) it t c e)) :=
  PE.of (pe_lc hc hN hi ok hg ht he hs) fun σ H Q h => lc_core' h
theorem setL_core {K : PySem.W.Frag} {m : EvL} {i : Nat} {D : Ends} {σ : St} {H : Hp} (h : denS K (sSet i (eL m)) D σ H) : denL K m σ H fun x H1 => gName i x σ H1 D.nx := by
  obtain ⟨mu, M, r, g, s, h⟩ := h
  have h2 := Post.bind (P := fun w M1 mu1 H1 => PostS K mu1 H1 D (.nx (r.set i (some w)) M1)) (x := m r M) (f := fun ws M1 => .ok (.lst ws) M1) (PostS.thenO h)
  refine ⟨mu, M, r, g, s, h2.imp fun ws M1 mu1 H1 e1 g1 h1 vs p rs hp => ?_⟩
  exact h1 mu1 H1 Ext.refl g1 _ mu1 _ (Ext.upd g1 hp) (g1.upd hp) ((s.ext (e1.trans (Ext.upd g1 hp))).set (.newLst g1 hp rs))
theorem setB_core {K : PySem.W.Frag} {m : EvL} {i : Nat} {D : Ends} {σ : St} {H : Hp} (h : denS K (sSet i (eB m)) D σ H) : denL K m σ H fun x H1 => gName i x σ H1 D.nx := by
  obtain ⟨mu, M, r, g, s, h⟩ := h
  have h2 := Post.bind (P := fun w M1 mu1 H1 => PostS K mu1 H1 D (.nx (r.set i (some w)) M1)) (x := m r M) (f := fun ws M1 => if noRefs ws = true then .ok (.ref M1.length) (M1 ++ [.lst ws]) else .bad) (PostS.thenO h)
  refine ⟨mu, M, r, g, s, h2.imp fun ws M1 mu1 H1 e1 g1 h1 vs p rs hp => ?_⟩
  split at h1
  · rename_i hn
    have x := Ext.push (o := .lst vs) g1 hp
    exact h1 _ _ x (g1.push hp rs hn) _ _ _ Ext.refl (g1.push hp rs hn) ((s.ext (e1.trans x)).set (.ref (.inl (by rw [← g1.len]; simp [Mu.push]))))
  · exact False.elim h1
theorem PSL {K : PySem.W.Frag} {st : Stmt} {m : EvL} {i : Nat} (h : PS X st (tAsg (denL K m) (gName i))) : PS X st (denS K (sSet i (eL m))) := PS.of h fun D σ H h => setL_core h
theorem PSB {K : PySem.W.Frag} {st : Stmt} {m : EvL} {i : Nat} (h : PS X st (tAsg (denL K m) (gName i))) : PS X st (denS K (sSet i (eB m))) := PS.of h fun D σ H h => setB_core h
/-- name = [..], the name a plain local -/
theorem ss_setLc {i : Nat} {y : Str} {py : Pos} (hc : X.calm = true) (hN : X.N.Nodup) (hy : X.N[i]? = some y) (hyl : X.env.scope.names.lookup y = some .local)
    (hsw : swapsWith (.ListComp elt [⟨tg, iter, ifs, 0⟩] scope pos) (some (.Name y py)) spos.line X.env = pure true) (hi : PI X tg iter (denI X.K it)) (ok : BlkOk X.N X.env.scope scope own)
    (hg : ∀ (s : Shared) (H : Hp) (C : Addr) (cl : List (Str × Addr)) (fp : List Addr), PG (X.blk s H scope (compEnvC scope cl C X.env) fp) tg (denG X.K t (own.map (·.2))))
    (ht : ∀ (s : Shared) (H : Hp) (C : Addr) (cl : List (Str × Addr)) (fp : List Addr), PTs (X.blk s H scope (compEnvC scope cl C X.env) fp) ifs (denT X.K c))
    (he : ∀ (s : Shared) (H : Hp) (C : Addr) (cl : List (Str × Addr)) (fp : List Addr), PE (X.blk s H scope (compEnvC scope cl C X.env) fp) elt (den X.K e)) (hs : ∀ x, foldedSetIterable iter X.env x = pure x := by intro _; rfl) :
    PS X (.Assign [.Name y py] (.ListComp elt [⟨tg, iter, ifs, 0⟩] scope pos) spos) (tAsg (denL X.K (lComp (own.map (·.2)) it t c e)) (gName i)) :=
  PS.of (ps_setLc hc hN hy hyl hsw hi ok hg ht he hs) fun D σ H h => lc_core' h
end

/-! ## a cell is given away: from now on a value -/
def sFrz (i : Nat) : Sx := fun r M => match r[i]? with
  | some (some (.ref n)) => match M[n]? with
    | some (.lst xs) => .nx (r.set i (some (.lst xs))) (M.set n .dead)
    | some (.dct ks vs) => .nx (r.set i (some (.dct ks vs))) (M.set n .dead)
    | _ => .nx r M
  | _ => .nx r M
def Mu.kill (m : Mu) (n : Nat) : Mu := ⟨m.cells.set n none, m.rsv⟩
theorem Mu.kill_get (m : Mu) (n k : Nat) : (m.kill n).cells[k]? = if n = k ∧ k < m.cells.length then some none else m.cells[k]? := by
  unfold Mu.kill
  by_cases h : n = k
  · subst h
    by_cases hl : n < m.cells.length
    · rw [if_pos ⟨rfl, hl⟩, List.getElem?_set_self hl]
    · rw [if_neg (fun q => hl q.2), List.getElem?_eq_none (by simpa using hl), List.getElem?_eq_none (by simpa using hl)]
  · rw [if_neg (fun q => h q.1), List.getElem?_set_ne h]
theorem Ext.kill {mu H n} : Ext mu H (mu.kill n) H where
  len := by simp [Mu.kill]
  old := fun k hk => by
    rw [Mu.kill_get]
    split
    · exact .inr rfl
    · exact .inl rfl
  new := fun k a hk e => by
    rw [Mu.kill_get, if_neg (fun q => by omega), List.getElem?_eq_none hk] at e; cases e
  keep := fun _ _ h _ => h
  there := fun _ h => h
  rsv := rfl
  held := fun _ _ => rfl
theorem Good.kill {K mu M H n} (g : Good K mu M H) : Good K (mu.kill n) (M.set n .dead) H where
  len := by simp [Mu.kill, g.len]
  rsvd' := g.rsvd'
  disj := fun a ha hm => by
    obtain ⟨k, hk⟩ := List.mem_iff_getElem?.mp hm
    rw [Mu.kill_get] at hk
    split at hk
    · cases hk
    · exact g.disj a ha (List.mem_iff_getElem?.mpr ⟨k, hk⟩)
  inj := fun i j a hi hj => by
    rw [Mu.kill_get] at hi hj
    split at hi
    · cases hi
    · split at hj
      · cases hj
      · exact g.inj i j a hi hj
  cell := fun k c e => by
    by_cases h : n = k
    · subst h
      by_cases hl : n < M.length
      · rw [List.getElem?_set_self hl] at e
        cases e
        show (mu.kill n).cells[n]? = some none
        rw [Mu.kill_get, if_pos ⟨rfl, by rw [g.len]; exact hl⟩]
      · rw [List.getElem?_eq_none (by simpa using hl)] at e; cases e
    · rw [List.getElem?_set_ne h] at e
      have hc := g.cell k c e
      have ek : (mu.kill n).cells[k]? = mu.cells[k]? := by rw [Mu.kill_get, if_neg (fun q => h q.1)]
      cases c with
      | lst xs => obtain ⟨a, vs, h1, h2, h3, h4⟩ := hc; exact ⟨a, vs, by rw [ek]; exact h1, h2, h3.ext Ext.kill, h4⟩
      | dct ks ws => obtain ⟨a, vs, h1, h2, h3, h4, h5⟩ := hc; exact ⟨a, vs, by rw [ek]; exact h1, h2, h3.ext Ext.kill, h4.ext Ext.kill, h5⟩
      | dead => show (mu.kill n).cells[k]? = some none; rw [ek]; exact hc
theorem Good.kill_ok {K mu M H} {n : Nat} {a : Addr} (g : Good K mu M H) (h : mu.cells[n]? = some (some a)) : (mu.kill n).ok a := by
  refine ⟨fun hm => ?_, fun hr => g.disj a hr (List.mem_iff_getElem?.mpr ⟨n, h⟩)⟩
  obtain ⟨k, hk⟩ := List.mem_iff_getElem?.mp hm
  rw [Mu.kill_get] at hk
  split at hk
  · cases hk
  · rename_i hn
    have := g.inj n k a h hk
    subst this
    exact hn ⟨rfl, (List.getElem?_eq_some_iff.mp hk).1⟩
theorem RS.setW {K mu H r σ i w v} (s : RS K mu H r σ) (h : σ[i]? = some (some v)) (rv : RV K mu H w v) : RS K mu H (r.set i (some w)) σ where
  len := by simp [s.len]
  at_ := fun j u e => by
    by_cases hj : i = j
    · subst hj
      have hl : i < r.length := by
        have := (List.getElem?_eq_some_iff.mp e).1
        simpa using this
      rw [List.getElem?_set_self hl] at e
      cases e
      exact ⟨v, h, rv⟩
    · rw [List.getElem?_set_ne hj] at e
      exact s.at_ j u e
theorem ss_frz {X : Cx} {st : Stmt} {m : Sx} {i : Nat} (h : PS X st (denS X.K m)) : PS X st (denS X.K (sSeq (sFrz i) m)) := by
  refine PS.of h fun D σ H ⟨mu, M, r, g, s, h⟩ => ?_
  unfold sSeq sFrz at h
  cases q : r[i]? with
  | none => simp only [q] at h; exact ⟨mu, M, r, g, s, h⟩
  | some o =>
    cases o with
    | none => simp only [q] at h; exact ⟨mu, M, r, g, s, h⟩
    | some w =>
      cases w with
      | ref n =>
        simp only [q] at h
        obtain ⟨v, hv, rv⟩ := s.at_ i _ q
        cases q2 : M[n]? with
        | none => simp only [q2] at h; exact ⟨mu, M, r, g, s, h⟩
        | some c =>
          have hc := g.cell n c q2
          cases c with
          | lst xs =>
            simp only [q2] at h
            obtain ⟨a, vs, h1, h2, h3, _⟩ := hc
            refine ⟨mu.kill n, M.set n .dead, _, g.kill, ?_, PostS.ext Ext.kill h⟩
            cases rv with
            | ref hr =>
              rcases hr with hr | hr
              · rw [h1] at hr; cases hr
                exact (s.ext Ext.kill).setW hv (.lst h2 (g.kill_ok h1) (h3.ext Ext.kill))
              · rw [h1] at hr; cases hr
          | dct ks ws =>
            simp only [q2] at h
            obtain ⟨a, vs, h1, h2, h3, h4, _⟩ := hc
            refine ⟨mu.kill n, M.set n .dead, _, g.kill, ?_, PostS.ext Ext.kill h⟩
            cases rv with
            | ref hr =>
              rcases hr with hr | hr
              · rw [h1] at hr; cases hr
                exact (s.ext Ext.kill).setW hv (.dct h2 (g.kill_ok h1) (h3.ext Ext.kill) (h4.ext Ext.kill))
              · rw [h1] at hr; cases hr
          | dead => simp only [q2] at h; exact ⟨mu, M, r, g, s, h⟩
      | _ => simp only [q] at h; exact ⟨mu, M, r, g, s, h⟩
end Py

namespace Py
open PySem L2

/-! ## what a for walks -/
def itOf (x : W) : Option (List W) := match x with
  | .lst xs => some xs
  | .tup _ xs => some xs
  | .fz ns => some (ns.map W.int)
  | .str l => some (l.map fun c => W.str [c])
  | _ => none
def itS (m : Ev) : EvL := fun r M => (m r M).bind fun x M1 => R.ofO (itOf x) M1
theorem PI.of {X : Cx} {tg e : Expr} {t t' : TI} (h : PI X tg e t) (f : ∀ σ H Q, t' σ H Q → t σ H Q) : PI X tg e t' :=
  ⟨fun pins s σ H Q I q => h.run pins s σ H Q I (f σ H Q q)⟩
theorem PI.or {X : Cx} {tg e : Expr} {t t' : TI} (h : PI X tg e t) (h' : PI X tg e t') : PI X tg e (fun σ H Q => t σ H Q ∨ t' σ H Q) :=
  ⟨fun pins s σ H Q I q => q.elim (h.run pins s σ H Q I) (h'.run pins s σ H Q I)⟩
/-- a list stands there, and goes on standing -/
def LstAt (K : PySem.W.Frag) (mu : Mu) (H : Hp) (a : Addr) (ws : List W) : Prop := ∀ mu' H', ExtW mu H mu' H' → ∃ vs, SqL K H' a vs ∧ RVs K mu' H' ws vs
def TupStands (K : PySem.W.Frag) (mu : Mu) (H : Hp) (a : Addr) (ws : List W) : Prop := ∀ mu' H', ExtW mu H mu' H' → ∃ vs, SqT K H' a vs ∧ RVs K mu' H' ws vs
theorem lst_at {K mu H ws a} (h : RV K mu H (.lst ws) (.ref a)) : LstAt K mu H a ws := fun mu' H' x => by
  cases h.extW x with
  | lst h n r => exact ⟨_, .inl (.inl h), r⟩
theorem fz_at {K mu H ns a} (h : RV K mu H (.fz ns) (.ref a)) : LstAt K mu H a (ns.map W.int) := fun mu' H' x => by
  cases h.extW x with
  | fz h n => exact ⟨_, .inl (.inr ⟨_, h⟩), RVs.ints _⟩
  | kfz h => exact ⟨_, .inr h, RVs.ints _⟩
theorem tup_at {K mu H k ws a} (h : RV K mu H (.tup k ws) (.ref a)) : TupStands K mu H a ws := fun mu' H' x => by
  cases h.extW x with
  | tup h n r => exact ⟨_, .inl (.inl h), r⟩
  | tupK h d n r => exact ⟨_, .inl (.inr ⟨_, h⟩), r⟩
  | ktup a b c d e r => exact ⟨_, .inr ⟨_, _, _, a, b, c, d, e⟩, r⟩
theorem yl_list {K mu H a ws} (h : LstAt K mu H a ws) : Yl K (Itl K a) mu H ws := by
  intro mu' H' M' x g i
  obtain ⟨vs, hs, r⟩ := h mu' H' x
  refine ⟨fun e => ⟨vs, hs, by rw [← r.length]; omega⟩, fun w e => ?_⟩
  obtain ⟨v, h1, h2⟩ := r.get e
  refine ⟨⟨vs, v, hs, h1⟩, fun y H'' hy => ?_⟩
  obtain ⟨rfl, hy⟩ := hy
  have := hy vs hs
  rw [h1] at this; cases this
  exact ⟨Ext.refl, g, h2⟩
theorem yl_tup {K mu H a ws} (h : TupStands K mu H a ws) : Yl K (Itt K a) mu H ws := by
  intro mu' H' M' x g i
  obtain ⟨vs, hs, r⟩ := h mu' H' x
  refine ⟨fun e => ⟨vs, hs, by rw [← r.length]; omega⟩, fun w e => ?_⟩
  obtain ⟨v, h1, h2⟩ := r.get e
  refine ⟨⟨vs, v, hs, h1⟩, fun y H'' hy => ?_⟩
  obtain ⟨rfl, hy⟩ := hy
  have := hy vs hs
  rw [h1] at this; cases this
  exact ⟨Ext.refl, g, h2⟩
theorem yl_str {K mu H} {l : List Nat} (hl : ∀ c ∈ l, c < 128) : Yl K (Its ⟨l.toArray⟩) mu H (l.map fun c => W.str [c]) := by
  intro mu' H' M' x g i
  refine ⟨fun e => ?_, fun w e => ?_⟩
  · show l.toArray.size ≤ i
    rw [List.length_map] at e; simp; omega
  · rw [List.getElem?_map] at e
    cases q : l[i]? with
    | none => rw [q] at e; cases e
    | some c =>
      rw [q] at e; cases e
      refine ⟨?_, fun y H'' hy => ?_⟩
      · show i < l.toArray.size
        have := (List.getElem?_eq_some_iff.mp q).1
        simpa using this
      · obtain ⟨rfl, c', h1, rfl⟩ := hy
        have h1 : l.toArray[i]? = some c' := h1
        rw [List.getElem?_toArray, q] at h1; cases h1
        exact ⟨Ext.refl, g, .str [c] fun z hz => by simp at hz; subst hz; exact hl _ (List.mem_of_getElem? q)⟩
theorem den_ok {K : PySem.W.Frag} {m : Ev} {mu M r w M1 σ H Q} (g : Good K mu M H) (s : RS K mu H r σ) (q : m r M = .ok w M1) (h : ∀ mu' H', Ext mu H mu' H' → Good K mu' M1 H' → ∀ v, RV K mu' H' w v → Q v H') : den K m σ H Q :=
  ⟨mu, M, r, g, s, by rw [q]; exact h⟩
theorem si_seq {X : Cx} {tg e : Expr} {m : Ev} (h : PE X e (den X.K m)) : PI X tg e (denI X.K (itS m)) := by
  refine PI.of (PI.or (PI.or (pi_list h) (pi_tup h)) (pi_str h)) fun σ H Q ⟨mu, M, r, g, s, h⟩ => ?_
  unfold itS at h
  cases q : m r M with
  | ok w M1 =>
    rw [q] at h
    simp only [R.bind] at h
    cases w with
    | lst xs =>
      refine .inl (.inl (den_ok g s q fun mu' H' e' g' v rv => ?_))
      cases rv with
      | lst a b c => exact ⟨_, rfl, ⟨_, .inl (.inl a)⟩, h mu' H' e' g' _ (yl_list (lst_at (.lst a b c)))⟩
    | fz ns =>
      refine .inl (.inl (den_ok g s q fun mu' H' e' g' v rv => ?_))
      cases rv with
      | fz a b => exact ⟨_, rfl, ⟨_, .inl (.inr ⟨_, a⟩)⟩, h mu' H' e' g' _ (yl_list (fz_at (.fz a b)))⟩
      | kfz a => exact ⟨_, rfl, ⟨_, .inr a⟩, h mu' H' e' g' _ (yl_list (fz_at (.kfz a)))⟩
    | tup kk xs =>
      refine .inl (.inr (den_ok g s q fun mu' H' e' g' v rv => ?_))
      cases rv with
      | tup a b c => exact ⟨_, rfl, ⟨_, .inl (.inl a)⟩, h mu' H' e' g' _ (yl_tup (tup_at (.tup a b c)))⟩
      | tupK a d b c => exact ⟨_, rfl, ⟨_, .inl (.inr ⟨_, a⟩)⟩, h mu' H' e' g' _ (yl_tup (tup_at (k := kk) (.tupK a d b c)))⟩
      | ktup a b c d e f => exact ⟨_, rfl, ⟨_, .inr ⟨_, _, _, a, b, c, d, e⟩⟩, h mu' H' e' g' _ (yl_tup (tup_at (.ktup a b c d e f)))⟩
    | str l =>
      refine .inr (den_ok g s q fun mu' H' e' g' v rv => ?_)
      cases rv with
      | str _ hl => exact ⟨_, rfl, h mu' H' e' g' _ (yl_str hl)⟩
    | _ => exact False.elim h
  | exc c M => rw [q] at h; exact False.elim h
  | bad => rw [q] at h; exact False.elim h
/-- range -/
def rngW (lo : Int) (n : Nat) : List W := (List.range n).map fun (k : Nat) => W.int (lo + (k : Int))
def i62 (j : Int) : Bool := decide (-4611686018427387904 ≤ j) && decide (j < 4611686018427387904)
def itR1 (m : Ev) : EvL := fun r M => (m r M).bind fun x M1 => match x with
  | .int j => if i62 j = true then .ok (rngW 0 j.toNat) M1 else .bad
  | _ => .bad
def itR2 (a b : Ev) : EvL := fun r M => (a r M).bind fun x M1 => (b r M1).bind fun y M2 => match x with
  | .int i => (match y with
    | .int j => if i62 i && i62 j then .ok (rngW i (j - i).toNat) M2 else .bad
    | _ => .bad)
  | _ => .bad
theorem yl_rng {K mu H} {lo : Int} {n : Nat} : Yl K (Itr lo n) mu H (rngW lo n) := by
  intro mu' H' M' x g i
  unfold rngW
  refine ⟨fun e => ?_, fun w e => ?_⟩
  · show n ≤ i
    simp at e; omega
  · rw [List.getElem?_map] at e
    cases q : (List.range n)[i]? with
    | none => rw [q] at e; cases e
    | some c =>
      rw [q] at e; cases e
      obtain ⟨h1, h2⟩ := List.getElem?_eq_some_iff.mp q
      rw [List.getElem_range] at h2; subst h2
      refine ⟨show i < n by simpa using h1, fun y H'' hy => ?_⟩
      obtain ⟨rfl, rfl⟩ := hy
      exact ⟨Ext.refl, g, .int _⟩
theorem i62_ok {j : Int} (h : i62 j = true) : -(2 ^ 62) ≤ j ∧ j < 2 ^ 62 := by
  simp only [i62, Bool.and_eq_true, decide_eq_true_eq] at h
  exact h
section
variable {X : Cx} {tg a b : Expr} {ma mb : Ev} {p pos tpos : Pos} {elts : List Expr} {kk : Nat}
theorem si_range1 (hg : Gl X "range") (hm : X.mg "range" = none) (ha : PE X a (den X.K ma)) (hs : starEach [a] X.env = [(false, eval a X.env)] := by rfl) : PI X tg (.Call (.Name "range" p) [a] [] pos) (denI X.K (itR1 ma)) := by
  refine PI.of (pi_range1 hg hm (pa_cons ha pa_nil hs) hs) fun σ H Q ⟨mu, M, r, g, s, h⟩ => ?_
  refine ⟨mu, M, r, g, s, (Post.bind h).imp fun x M1 mu1 H1 e1 g1 h1 vx rx => ?_⟩
  cases rx with
  | int j =>
    simp only at h1
    split at h1
    · rename_i hj
      exact ⟨j, rfl, (i62_ok hj).1, (i62_ok hj).2, h1 mu1 H1 Ext.refl g1 _ yl_rng⟩
    · exact False.elim h1
  | _ => exact False.elim h1
theorem si_range2 (hg : Gl X "range") (hm : X.mg "range" = none) (ha : PE X a (den X.K ma)) (hb : PE X b (den X.K mb)) (hs : starEach [a, b] X.env = [(false, eval a X.env), (false, eval b X.env)] := by rfl) (hs2 : starEach [b] X.env = [(false, eval b X.env)] := by rfl) :
    PI X tg (.Call (.Name "range" p) [a, b] [] pos) (denI X.K (itR2 ma mb)) := by
  refine PI.of (pi_range2 hg hm (pa_cons ha (pa_cons hb pa_nil hs2) (by rw [hs, hs2])) hs hs2) fun σ H Q ⟨mu, M, r, g, s, h⟩ => ?_
  refine ⟨mu, M, r, g, s, (Post.bind h).imp fun x M1 mu1 H1 e1 g1 h1 vx rx => ?_⟩
  refine ⟨mu1, M1, r, g1, s.ext e1, (Post.bind h1).imp fun y M2 mu2 H2 e2 g2 h2 vy ry => ?_⟩
  cases rx with
  | int i =>
    cases ry with
    | int j =>
      simp only at h2
      split at h2
      · rename_i hj
        rw [Bool.and_eq_true] at hj
        exact ⟨i, j, rfl, ⟨(i62_ok hj.1).1, (i62_ok hj.1).2, (i62_ok hj.2).1, (i62_ok hj.2).2⟩, h2 mu2 H2 Ext.refl g2 _ yl_rng⟩
      · exact False.elim h2
    | _ => exact False.elim h2
  | _ => exact False.elim h2
end
/-- enumerate of a list -/
def enumW : Nat → List W → List W
  | _, [] => []
  | i, x :: xs => .tup false [.int (i : Int), x] :: enumW (i + 1) xs
theorem enumW_get : ∀ (xs : List W) (k i : Nat), (enumW k xs)[i]? = (xs[i]?).map fun x => W.tup false [.int ((k + i : Nat) : Int), x]
  | [], _, _ => by simp [enumW]
  | x :: xs, k, 0 => by simp [enumW]
  | x :: xs, k, i + 1 => by
    show (enumW (k + 1) xs)[i]? = (xs[i]?).map _
    rw [enumW_get xs (k + 1) i, show k + 1 + i = k + (i + 1) by omega]
theorem enumW_len : ∀ (xs : List W) (k : Nat), (enumW k xs).length = xs.length
  | [], _ => rfl
  | x :: xs, k => by simp [enumW, enumW_len xs]
def itEn (m : Ev) : EvL := fun r M => (m r M).bind fun x M1 => match x with
  | .lst xs => .ok (enumW 0 xs) M1
  | .fz ns => .ok (enumW 0 (ns.map W.int)) M1
  | _ => .bad
theorem yl_enum {K mu H a ws} (h : LstAt K mu H a ws) : Yl K (Ite K a) mu H (enumW 0 ws) := by
  intro mu' H' M' x g i
  obtain ⟨vs, hs, r⟩ := h mu' H' x
  refine ⟨fun e => ⟨vs, hs, by rw [enumW_len] at e; rw [← r.length]; omega⟩, fun w e => ?_⟩
  rw [enumW_get] at e
  cases q : ws[i]? with
  | none => rw [q] at e; cases e
  | some z =>
    rw [q] at e; cases e
    obtain ⟨v, h1, h2⟩ := r.get q
    refine ⟨⟨vs, v, hs, h1⟩, fun y H'' hy => ?_⟩
    obtain ⟨T, z', rfl, hT, rfl, hz⟩ := hy
    have := hz vs hs
    rw [h1] at this; cases this
    refine ⟨Ext.upd g hT, g.upd hT, .newTup g hT (.cons ?_ (.cons h2 .nil))⟩
    rw [Nat.zero_add]; exact .int _
def zipW : List W → List W → List W
  | x :: xs, y :: ys => .tup false [x, y] :: zipW xs ys
  | _, _ => []
theorem zipW_get : ∀ (xs ys : List W) (i : Nat), (zipW xs ys)[i]? = (xs[i]?).bind fun x => (ys[i]?).map fun y => W.tup false [x, y]
  | [], _, _ => by simp [zipW]
  | x :: xs, [], i => by cases q : (x :: xs)[i]? <;> simp [zipW]
  | x :: xs, y :: ys, 0 => by simp [zipW]
  | x :: xs, y :: ys, i + 1 => by
    show (zipW xs ys)[i]? = (xs[i]?).bind _
    rw [zipW_get xs ys i]; rfl
theorem zipW_len : ∀ (xs ys : List W), (zipW xs ys).length = min xs.length ys.length
  | [], _ => by simp [zipW]
  | x :: xs, [] => by simp [zipW]
  | x :: xs, y :: ys => by simp [zipW, zipW_len xs ys]
def itZ (a b : Ev) : EvL := fun r M => (a r M).bind fun x M1 => (b r M1).bind fun y M2 => match x with
  | .lst xs => (match y with
    | .lst ys => .ok (zipW xs ys) M2
    | .fz ns => .ok (zipW xs (ns.map W.int)) M2
    | _ => .bad)
  | .tup _ xs => (match y with
    | .tup _ ys => .ok (zipW xs ys) M2
    | _ => .bad)
  | _ => .bad
theorem yl_zip {K mu H a b xs ys} (h : LstAt K mu H a xs) (h' : LstAt K mu H b ys) : Yl K (Itz K a b) mu H (zipW xs ys) := by
  intro mu' H' M' x g i
  obtain ⟨vs, hs, r⟩ := h mu' H' x
  obtain ⟨us, hu, r'⟩ := h' mu' H' x
  refine ⟨fun e => ⟨vs, us, hs, hu, by rw [zipW_len] at e; rw [← r.length, ← r'.length]; omega⟩, fun w e => ?_⟩
  rw [zipW_get] at e
  cases q : xs[i]? with
  | none => rw [q] at e; cases e
  | some z =>
    cases q' : ys[i]? with
    | none => rw [q, q'] at e; cases e
    | some z' =>
      rw [q, q'] at e; cases e
      obtain ⟨v, h1, h2⟩ := r.get q
      obtain ⟨u, k1, k2⟩ := r'.get q'
      refine ⟨⟨vs, us, v, u, hs, hu, h1, k1⟩, fun y H'' hy => ?_⟩
      obtain ⟨T, z1, z2, rfl, hT, rfl, hz, hz'⟩ := hy
      have e1 := hz vs hs
      rw [h1] at e1; cases e1
      have e2 := hz' us hu
      rw [k1] at e2; cases e2
      exact ⟨Ext.upd g hT, g.upd hT, .newTup g hT (.cons h2 (.cons k2 .nil))⟩
theorem yl_zipT {K mu H a b xs ys} (h : TupStands K mu H a xs) (h' : TupStands K mu H b ys) : Yl K (RZ.ItzT K a b) mu H (zipW xs ys) := by
  intro mu' H' M' x g i
  obtain ⟨vs, hs, r⟩ := h mu' H' x
  obtain ⟨us, hu, r'⟩ := h' mu' H' x
  refine ⟨fun e => ⟨vs, us, hs, hu, by rw [zipW_len] at e; rw [← r.length, ← r'.length]; omega⟩, fun w e => ?_⟩
  rw [zipW_get] at e
  cases q : xs[i]? with
  | none => rw [q] at e; cases e
  | some z =>
    cases q' : ys[i]? with
    | none => rw [q, q'] at e; cases e
    | some z' =>
      rw [q, q'] at e; cases e
      obtain ⟨v, h1, h2⟩ := r.get q
      obtain ⟨u, k1, k2⟩ := r'.get q'
      refine ⟨⟨vs, us, v, u, hs, hu, h1, k1⟩, fun y H'' hy => ?_⟩
      obtain ⟨T, z1, z2, rfl, hT, rfl, hz, hz'⟩ := hy
      have e1 := hz vs hs
      rw [h1] at e1; cases e1
      have e2 := hz' us hu
      rw [k1] at e2; cases e2
      exact ⟨Ext.upd g hT, g.upd hT, .newTup g hT (.cons h2 (.cons k2 .nil))⟩
section
variable {X : Cx} {a b : Expr} {ma mb : Ev} {p pos tpos : Pos} {elts : List Expr} {kk : Nat}
theorem si_enum (hg : Gl X "enumerate") (hm : X.mg "enumerate" = none) (ha : PE X a (den X.K ma)) (hs : starEach [a] X.env = [(false, eval a X.env)] := by rfl) : PI X (.Tuple elts kk tpos) (.Call (.Name "enumerate" p) [a] [] pos) (denI X.K (itEn ma)) := by
  refine PI.of (pi_enum hg hm (pa_cons ha pa_nil hs) hs) fun σ H Q ⟨mu, M, r, g, s, h⟩ => ?_
  refine ⟨mu, M, r, g, s, (Post.bind h).imp fun x M1 mu1 H1 e1 g1 h1 vx rx => ?_⟩
  cases rx with
  | lst a b c => exact ⟨_, _, rfl, .inl (.inl a), h1 mu1 H1 Ext.refl g1 _ (yl_enum (lst_at (.lst a b c)))⟩
  | fz a b => exact ⟨_, _, rfl, .inl (.inr ⟨_, a⟩), h1 mu1 H1 Ext.refl g1 _ (yl_enum (fz_at (.fz a b)))⟩
  | kfz a => exact ⟨_, _, rfl, .inr a, h1 mu1 H1 Ext.refl g1 _ (yl_enum (fz_at (.kfz a)))⟩
  | _ => exact False.elim h1
theorem si_zip (hg : Gl X "zip") (hm : X.mg "zip" = none) (ha : PE X a (den X.K ma)) (hb : PE X b (den X.K mb)) (hs : starEach [a, b] X.env = (false, eval a X.env) :: starEach [b] X.env := by rfl) (hs2 : starEach [b] X.env = [(false, eval b X.env)] := by rfl) (hpl : (backTo pos (starEach [b] X.env)).any (·.1) = false := by rfl) :
    PI X (.Tuple elts kk tpos) (.Call (.Name "zip" p) [a, b] [] pos) (denI X.K (itZ ma mb)) := by
  refine PI.of (RZ.pi_zipA hg hm (pa_cons ha (pa_cons hb pa_nil hs2) hs) hs hpl) fun σ H Q ⟨mu, M, r, g, s, h⟩ => ?_
  refine ⟨mu, M, r, g, s, (Post.bind h).imp fun x M1 mu1 H1 e1 g1 h1 vx rx => ?_⟩
  refine ⟨mu1, M1, r, g1, s.ext e1, (Post.bind h1).imp fun y M2 mu2 H2 e2 g2 h2 vy ry => ?_⟩
  have zt : ∀ {a : Addr} {xs : List W} {vs : List V} {y : W} {vy : V}, TupStands X.K mu2 H2 a xs → SqT X.K H2 a vs → RV X.K mu2 H2 y vy →
      Post X.K mu2 H2 (fun ws _ mu' H' => ∀ J, Yl X.K J mu' H' ws → Q J H') (match y with | .tup _ ys => .ok (zipW xs ys) M2 | _ => .bad) →
      ∃ a' b' xs ys, [V.ref a, vy] = [V.ref a', V.ref b'] ∧ ((SqL X.K H2 a' xs ∧ SqL X.K H2 b' ys ∧ Q (Itz X.K a' b') H2) ∨ (SqT X.K H2 a' xs ∧ SqT X.K H2 b' ys ∧ Q (RZ.ItzT X.K a' b') H2)) := by
    intro a xs vs y vy ta sa ry h2
    cases ry with
    | tup a' b' c' => exact ⟨_, _, _, _, rfl, .inr ⟨sa, .inl (.inl a'), h2 mu2 H2 Ext.refl g2 _ (yl_zipT ta (tup_at (.tup a' b' c')))⟩⟩
    | tupK a' d' b' c' => exact ⟨_, _, _, _, rfl, .inr ⟨sa, .inl (.inr ⟨_, a'⟩), h2 mu2 H2 Ext.refl g2 _ (yl_zipT ta (tup_at (k := false) (.tupK a' d' b' c')))⟩⟩
    | ktup a1 b1 c1 d1 e1 f1 => exact ⟨_, _, _, _, rfl, .inr ⟨sa, .inr ⟨_, _, _, a1, b1, c1, d1, e1⟩, h2 mu2 H2 Ext.refl g2 _ (yl_zipT ta (tup_at (.ktup a1 b1 c1 d1 e1 f1)))⟩⟩
    | _ => exact False.elim h2
  cases rx.ext e2 with
  | lst a b c =>
    cases ry with
    | lst a' b' c' => exact ⟨_, _, _, _, rfl, .inl ⟨.inl (.inl a), .inl (.inl a'), h2 mu2 H2 Ext.refl g2 _ (yl_zip (lst_at (.lst a b c)) (lst_at (.lst a' b' c')))⟩⟩
    | fz a' b' => exact ⟨_, _, _, _, rfl, .inl ⟨.inl (.inl a), .inl (.inr ⟨_, a'⟩), h2 mu2 H2 Ext.refl g2 _ (yl_zip (lst_at (.lst a b c)) (fz_at (.fz a' b')))⟩⟩
    | kfz a' => exact ⟨_, _, _, _, rfl, .inl ⟨.inl (.inl a), .inr a', h2 mu2 H2 Ext.refl g2 _ (yl_zip (lst_at (.lst a b c)) (fz_at (.kfz a')))⟩⟩
    | _ => exact False.elim h2
  | tup a b c => exact zt (tup_at (.tup a b c)) (.inl (.inl a)) ry h2
  | tupK a d b c => exact zt (tup_at (k := false) (.tupK a d b c)) (.inl (.inr ⟨_, a⟩)) ry h2
  | ktup a b c d e f => exact zt (tup_at (.ktup a b c d e f)) (.inr ⟨_, _, _, a, b, c, d, e⟩) ry h2
  | _ => exact False.elim h2
end
end Py

namespace Py
open PySem L2

/-! ## cells are changed -/
theorem Ext.write {K mu M H} {n : Nat} {a : Addr} {o : HO} (g : Good K mu M H) (h : mu.cells[n]? = some (some a)) : Ext mu H mu (L2.upd H a o) where
  len := Nat.le_refl _
  old := fun _ _ => .inl rfl
  new := fun n a h e => by rw [List.getElem?_eq_none h] at e; cases e
  keep := fun b u q hb => by
    rw [upd_ne (fun e => by subst e; exact hb.1 (List.mem_iff_getElem?.mpr ⟨n, h⟩))]; exact q
  there := fun b q => by
    by_cases e : b = a
    · subst e; rw [upd_same]; simp
    · rw [upd_ne e]; exact q
  rsv := rfl
  held := fun b hb => upd_ne fun e => by subst e; exact g.disj b hb (List.mem_iff_getElem?.mpr ⟨n, h⟩)
theorem Good.write {K mu M H} {n : Nat} {a : Addr} {c : Cell} {o : HO} (g : Good K mu M H) (h : mu.cells[n]? = some (some a)) (hc : CellOk K mu (L2.upd H a o) n c) : Good K mu (M.set n c) (L2.upd H a o) where
  len := by simp [g.len]
  inj := g.inj
  rsvd' := fun b hb => by rw [(Ext.write (o := o) g h).held b hb]; exact g.rsvd' b hb
  disj := g.disj
  cell := fun k d e => by
    by_cases hk : n = k
    · subst hk
      by_cases hl : n < M.length
      · rw [List.getElem?_set_self hl] at e; cases e; exact hc
      · rw [List.getElem?_eq_none (by simpa using hl)] at e; cases e
    · rw [List.getElem?_set_ne hk] at e
      have hd := g.cell k d e
      have x : Ext mu H mu (L2.upd H a o) := Ext.write g h
      have ne : ∀ b, mu.cells[k]? = some (some b) → b ≠ a := fun b hb q => by subst q; exact hk (g.inj n k b h hb)
      cases d with
      | lst xs => obtain ⟨b, vs, h1, h2, h3, h4⟩ := hd; exact ⟨b, vs, h1, by rw [upd_ne (ne b h1)]; exact h2, h3.ext x, h4⟩
      | dct ks ws => obtain ⟨b, vs, h1, h2, h3, h4, h5⟩ := hd; exact ⟨b, vs, h1, by rw [upd_ne (ne b h1)]; exact h2, h3.ext x, h4.ext x, h5⟩
      | dead => exact hd
theorem Good.writeL {K mu M H} {n : Nat} {a : Addr} {xs : List W} {vs : List V} (g : Good K mu M H) (h : mu.cells[n]? = some (some a)) (r : RVs K mu H xs vs) (nr : noRefs xs = true) : Good K mu (M.set n (.lst xs)) (L2.upd H a (.lst vs)) :=
  g.write h ⟨a, vs, h, upd_same, r.ext (Ext.write g h), nr⟩
theorem noRefs_append : ∀ (a b : List W), noRefs (a ++ b) = (noRefs a && noRefs b)
  | [], b => by simp [noRefs]
  | x :: a, b => by simp [noRefs, noRefs_append a b, Bool.and_assoc]
theorem noRefs_all : ∀ (a : List W), noRefs a = a.all noRef
  | [] => rfl
  | x :: a => by rw [List.all_cons]; show (noRef x && noRefs a) = _; rw [noRefs_all a]
/-- what a receiver's cell holds -/
def cellL (M : MH) (x : W) : Option (Nat × List W) := match x with
  | .ref n => match M[n]? with
    | some (.lst xs) => some (n, xs)
    | _ => none
  | _ => none
theorem cellL_rv {K mu M H x v n xs} (g : Good K mu M H) (r : RV K mu H x v) (e : cellL M x = some (n, xs)) : ∃ a vs, v = .ref a ∧ x = .ref n ∧ mu.cells[n]? = some (some a) ∧ M[n]? = some (.lst xs) ∧ H a = some (.lst vs) ∧ RVs K mu H xs vs ∧ noRefs xs = true := by
  unfold cellL at e
  cases r with
  | @ref m a h =>
    simp only at e
    cases q : M[m]? with
    | none => rw [q] at e; cases e
    | some c =>
      rw [q] at e
      have hc := g.cell m c q
      cases c with
      | lst ys =>
        cases e
        obtain ⟨b, vs, h1, h2, h3, h4⟩ := hc
        rcases h with h | h
        · rw [h1] at h; cases h; exact ⟨_, vs, rfl, rfl, h1, q, h2, h3, h4⟩
        · rw [h1] at h; cases h
      | _ => cases e
  | _ => cases e
def eApp (mo ma : Ev) : Ev := fun r M => (mo r M).bind fun x M1 => if (cellL M1 x).isSome = true then (ma r M1).bind (fun y M2 => match cellL M2 x with
  | some (n, xs) => if decide (xs.length < line) && noRef y then .ok .non (M2.set n (.lst (xs ++ [y]))) else .bad
  | none => .bad)
  else .bad
def eExt (mo ma : Ev) : Ev := fun r M => (mo r M).bind fun x M1 => if (cellL M1 x).isSome = true then (ma r M1).bind (fun y M2 => match cellL M2 x with
  | some (n, xs) => (match rd M2 y with
    | .lst ys => if decide (xs.length + ys.length ≤ line) && noRefs ys then .ok .non (M2.set n (.lst (xs ++ ys))) else .bad
    | _ => .bad)
  | none => .bad)
  else .bad
def ePopAt (mo ma : Ev) : Ev := fun r M => (mo r M).bind fun x M1 => if (cellL M1 x).isSome = true then (ma r M1).bind (fun y M2 => match cellL M2 x with
  | some (n, xs) => (match y with
    | .int i => if xs.length ≤ line then (match ixN xs.length i with
      | some k => (match xs[k]? with
        | some z => .ok z (M2.set n (.lst (xs.eraseIdx k)))
        | none => .bad)
      | none => .bad) else .bad
    | _ => .bad)
  | none => .bad)
  else .bad
theorem isList_of {K mu M H x v} (g : Good K mu M H) (r : RV K mu H x v) (h : (cellL M x).isSome = true) : tyV K "list" v H := by
  obtain ⟨⟨n, xs⟩, e⟩ := Option.isSome_iff_exists.mp h
  obtain ⟨a, vs, rfl, _, _, _, h2, _⟩ := cellL_rv g r e
  exact .inl ⟨rfl, vs, .inl (.inl h2)⟩
section
variable {X : Cx} {o e : Expr} {mo ma : Ev} {apos cpos : Pos}
theorem sd_append (ho : PE X o (den X.K mo)) (ha : PE X e (den X.K ma)) (h : PE X (.Call (.Attribute o "append" apos) [e] [] cpos) (tBM X.K "list" rAppend (den X.K mo) (tCons (den X.K ma) tNil))) :
    PE X (.Call (.Attribute o "append" apos) [e] [] cpos) (den X.K (eApp mo ma)) := by
  refine PE.of h fun σ H Q ⟨mu, M, r, g, s, h⟩ => ?_
  refine ⟨mu, M, r, g, s, (Post.bind h).imp fun x M1 mu1 H1 e1 g1 h1 vx rx => ?_⟩
  split at h1
  · rename_i hl
    refine ⟨isList_of g1 rx hl, mu1, M1, r, g1, s.ext e1, (Post.bind h1).imp fun y M2 mu2 H2 e2 g2 h2 vy ry => ?_⟩
    cases q : cellL M2 x with
    | none => simp only [q] at h2; exact False.elim h2
    | some p =>
      obtain ⟨n, xs⟩ := p
      simp only [q] at h2
      obtain ⟨a, vs, rfl, rfl, k1, k2, k3, k4, k5⟩ := cellL_rv g2 (rx.ext e2) q
      split at h2
      · rename_i hz
        rw [Bool.and_eq_true, decide_eq_true_eq] at hz
        refine ⟨a, vs, vy, rfl, rfl, k3, by rw [← k4.length, line_eq]; exact hz.1, ?_⟩
        refine h2 mu2 _ (Ext.write g2 k1) (g2.writeL k1 (k4.append (.cons ry .nil)) ?_) _ .non
        rw [noRefs_append, k5]; simp [noRefs, hz.2]
      · exact False.elim h2
  · exact False.elim h1
theorem sd_extend (ho : PE X o (den X.K mo)) (ha : PE X e (den X.K ma)) (h : PE X (.Call (.Attribute o "extend" apos) [e] [] cpos) (tBM X.K "list" rExtend (den X.K mo) (tCons (den X.K ma) tNil))) :
    PE X (.Call (.Attribute o "extend" apos) [e] [] cpos) (den X.K (eExt mo ma)) := by
  refine PE.of h fun σ H Q ⟨mu, M, r, g, s, h⟩ => ?_
  refine ⟨mu, M, r, g, s, (Post.bind h).imp fun x M1 mu1 H1 e1 g1 h1 vx rx => ?_⟩
  split at h1
  · rename_i hl
    refine ⟨isList_of g1 rx hl, mu1, M1, r, g1, s.ext e1, (Post.bind h1).imp fun y M2 mu2 H2 e2 g2 h2 vy ry => ?_⟩
    cases q : cellL M2 x with
    | none => simp only [q] at h2; exact False.elim h2
    | some p =>
      obtain ⟨n, xs⟩ := p
      simp only [q] at h2
      obtain ⟨a, vs, rfl, rfl, k1, k2, k3, k4, k5⟩ := cellL_rv g2 (rx.ext e2) q
      have rr := ry.rd g2
      generalize rd M2 y = y' at rr h2
      cases rr with
      | lst b1 b2 =>
        simp only at h2
        split at h2
        · rename_i hz
          rw [Bool.and_eq_true, decide_eq_true_eq] at hz
          refine ⟨a, _, vs, _, rfl, rfl, k3, b1, by rw [← k4.length, ← b2.length, line_eq]; exact hz.1, ?_⟩
          refine h2 mu2 _ (Ext.write g2 k1) (g2.writeL k1 (k4.append b2) ?_) _ .non
          rw [noRefs_append, k5, hz.2]; rfl
        · exact False.elim h2
      | _ => exact False.elim h2
  · exact False.elim h1
theorem ixN_seq {n k : Nat} {i : Int} (h : ixN n i = some k) : seqIndex? i n = some k ∧ (-(n : Int) ≤ i ∧ i < n) := by
  unfold ixN at h
  split at h
  · split at h
    · cases h; exact ⟨seqIndex_of (by omega) (by omega), by omega⟩
    · cases h
  · split at h
    · cases h
      refine ⟨?_, by omega⟩
      unfold seqIndex?
      have h1 : i < 0 := by omega
      simp only [h1, if_true]
      rw [if_pos]
      simp only [Bool.and_eq_true, decide_eq_true_eq]
      omega
    · cases h
theorem RVs.erase {K mu H} : ∀ {ws : List W} {vs : List V} (k : Nat), RVs K mu H ws vs → RVs K mu H (ws.eraseIdx k) (vs.eraseIdx k)
  | _, _, _, .nil => .nil
  | _, _, 0, .cons a b => by simpa using b
  | _, _, k + 1, .cons a b => by simpa using RVs.cons a (RVs.erase k b)
theorem noRefs_erase {xs : List W} (h : noRefs xs = true) (k : Nat) : noRefs (xs.eraseIdx k) = true := by
  rw [noRefs_all, List.all_eq_true] at h ⊢
  exact fun x hx => h x (List.mem_of_mem_eraseIdx hx)
theorem sd_popAt (ho : PE X o (den X.K mo)) (ha : PE X e (den X.K ma)) (h : PE X (.Call (.Attribute o "pop" apos) [e] [] cpos) (tBM X.K "list" rPopAt (den X.K mo) (tCons (den X.K ma) tNil))) :
    PE X (.Call (.Attribute o "pop" apos) [e] [] cpos) (den X.K (ePopAt mo ma)) := by
  refine PE.of h fun σ H Q ⟨mu, M, r, g, s, h⟩ => ?_
  refine ⟨mu, M, r, g, s, (Post.bind h).imp fun x M1 mu1 H1 e1 g1 h1 vx rx => ?_⟩
  split at h1
  · rename_i hl
    refine ⟨isList_of g1 rx hl, mu1, M1, r, g1, s.ext e1, (Post.bind h1).imp fun y M2 mu2 H2 e2 g2 h2 vy ry => ?_⟩
    cases q : cellL M2 x with
    | none => simp only [q] at h2; exact False.elim h2
    | some p =>
      obtain ⟨n, xs⟩ := p
      simp only [q] at h2
      obtain ⟨a, vs, rfl, rfl, k1, k2, k3, k4, k5⟩ := cellL_rv g2 (rx.ext e2) q
      cases ry with
      | int i =>
        simp only at h2
        split at h2
        · rename_i hz
          cases q2 : ixN xs.length i with
          | none => simp only [q2] at h2; exact False.elim h2
          | some k =>
            simp only [q2] at h2
            cases q3 : xs[k]? with
            | none => simp only [q3] at h2; exact False.elim h2
            | some z =>
              simp only [q3] at h2
              obtain ⟨w1, w2⟩ := ixN_seq q2
              obtain ⟨v, z1, z2⟩ := k4.get q3
              have big : (xs.length : Int) < 2 ^ 63 := by unfold line at hz; omega
              refine ⟨a, vs, i, k, v, rfl, rfl, k3, by omega, by omega, by rw [← k4.length]; exact w1, z1, ?_⟩
              exact h2 mu2 _ (Ext.write g2 k1) (g2.writeL k1 (k4.erase k) (noRefs_erase k5 k)) _ (z2.ext (Ext.write g2 k1))
        · exact False.elim h2
      | _ => exact False.elim h2
  · exact False.elim h1
end
end Py

namespace Py
open PySem L2

/-! ## x[i] = v -/
def putV : List W → List W → W → W → List W
  | k0 :: ks, v0 :: vs, k, v => (if keyEq k0 k then v else v0) :: putV ks vs k v
  | _, _, _, _ => []
def putD (ks vs : List W) (k v : W) : List W × List W := if has ks k then (ks, putV ks vs k v) else (ks ++ [k], vs ++ [v])
def sSub (mo mi mv : Ev) : Sx := fun r M => (mv r M).thenO fun v M1 => (mo r M1).thenO fun x M2 => (mi r M2).thenO fun y M3 =>
  match x with
  | .ref n => (match M3[n]? with
    | some (.lst xs) => (match y with
      | .int i => (match ixN xs.length i with
        | some j => if noRef v then .nx r (M3.set n (.lst (xs.set j v))) else .bad
        | none => .bad)
      | _ => .bad)
    | some (.dct ks vs) => if isKey y && noRef v && decide (ks.length < line) then .nx r (M3.set n (.dct (putD ks vs y v).1 (putD ks vs y v).2)) else .bad
    | _ => .bad)
  | _ => .bad
theorem RVs.set {K mu H w v} (rv : RV K mu H w v) : ∀ {ws : List W} {vs : List V} (j : Nat), RVs K mu H ws vs → RVs K mu H (ws.set j w) (vs.set j v)
  | _, _, _, .nil => .nil
  | _, _, 0, .cons _ b => .cons rv b
  | _, _, j + 1, .cons a b => .cons a (RVs.set rv j b)
theorem noRefs_set {xs : List W} (h : noRefs xs = true) (j : Nat) {w : W} (hw : noRef w = true) : noRefs (xs.set j w) = true := by
  rw [noRefs_all, List.all_eq_true] at h ⊢
  intro x hx
  rcases List.mem_or_eq_of_mem_set hx with q | q
  · exact h x q
  · subst q; exact hw
theorem RVs.put {K mu H y w v} {k : Key} (hk : ∀ (z : W) (q : Key), RV K mu H z (kV q) → keyEq z y = decide (q = k)) (rv : RV K mu H w v) : ∀ {ks ws : List W} {kvs : List (Key × V)}, RVs K mu H ks (kvs.map fun p => kV p.1) → RVs K mu H ws (kvs.map (·.2)) →
    RVs K mu H (putV ks ws y w) ((kvs.map fun kv => if kv.1 = k then (kv.1, v) else kv).map (·.2))
  | _, _, [], .nil, .nil => .nil
  | _, _, (q, u) :: kvs, .cons r1 r2, .cons q1 q2 => by
    have e := hk _ q r1
    refine .cons ?_ (RVs.put hk rv r2 q2)
    by_cases hq : q = k
    · rw [decide_eq_true hq] at e; simp only [e, hq, if_true]; exact rv
    · rw [decide_eq_false hq] at e; simp only [e, hq]; exact q1
theorem put_keys {kvs : List (Key × V)} {k : Key} {v : V} : ((kvs.map fun kv => if kv.1 = k then (kv.1, v) else kv).map fun p => kV p.1) = kvs.map fun p => kV p.1 := by
  rw [List.map_map]
  apply List.map_congr_left
  intro p _
  simp only [Function.comp]
  split <;> rfl
theorem noRefs_putV : ∀ {ks vs : List W} {k v : W}, noRefs vs = true → noRef v = true → noRefs (putV ks vs k v) = true
  | [], _, _, _, _, _ => by simp [putV, noRefs]
  | _ :: _, [], _, _, _, _ => by simp [putV, noRefs]
  | k0 :: ks, v0 :: vs, k, v, h, hv => by
    simp only [noRefs, Bool.and_eq_true] at h
    simp only [putV, noRefs, Bool.and_eq_true]
    refine ⟨?_, noRefs_putV h.2 hv⟩
    split
    · exact hv
    · exact h.1
theorem noRef_key {y : W} (h : isKey y = true) : noRef y = true := by cases y <;> first | rfl | cases h
theorem PSet.or {X : Cx} {t t' : TSet} (h : PSet X t) (h' : PSet X t') : PSet X (fun o i v H Q => t o i v H Q ∨ t' o i v H Q) := by
  intro pins s σ H o i v ov iv u Q I r1 r2 r3 q
  exact q.elim (h pins s σ H o i v ov iv u Q I r1 r2 r3) (h' pins s σ H o i v ov iv u Q I r1 r2 r3)
section
variable {X : Cx} {o i e : Expr} {mo mi mv : Ev} {pos pos' : Pos}
theorem ss_sub (hu : X.A.units + 1 < cLine) (he : PE X e (den X.K mv)) (ho : PE X o (den X.K mo)) (hi : PE X i (den X.K mi))
    (h : PS X (.Assign [.Subscript o i pos'] e pos) (tAsg (den X.K mv) (gSub (den X.K mo) (den X.K mi) (fun o i v H Q => rSetL o i v H Q ∨ rSetD o i v H Q)))) :
    PS X (.Assign [.Subscript o i pos'] e pos) (denS X.K (sSub mo mi mv)) := by
  refine PS.of h fun D σ H ⟨mu, M, r, g, s, h⟩ => ?_
  refine ⟨mu, M, r, g, s, (PostS.thenO h).imp fun v M1 mu1 H1 e1 g1 h1 vv rv => ?_⟩
  refine ⟨mu1, M1, r, g1, s.ext e1, (PostS.thenO h1).imp fun x M2 mu2 H2 e2 g2 h2 vx rx => ?_⟩
  refine ⟨mu2, M2, r, g2, (s.ext e1).ext e2, (PostS.thenO h2).imp fun y M3 mu3 H3 e3 g3 h3 vy ry => ?_⟩
  have rv3 := (rv.ext e2).ext e3
  have s3 := ((s.ext e1).ext e2).ext e3
  cases rx.ext e3 with
  | @ref n a hr =>
    simp only at h3
    cases q : M3[n]? with
    | none => simp only [q] at h3; exact False.elim h3
    | some c =>
      have hc := g3.cell n c q
      cases c with
      | lst xs =>
        simp only [q] at h3
        obtain ⟨b, vs, k1, k2, k3, k4⟩ := hc
        obtain rfl : a = b := by
          rcases hr with z | z
          · rw [k1] at z; cases z; rfl
          · rw [k1] at z; cases z
        cases ry with
        | int j =>
          simp only at h3
          cases q2 : ixN xs.length j with
          | none => simp only [q2] at h3; exact False.elim h3
          | some jj =>
            simp only [q2] at h3
            split at h3
            · rename_i hz
              refine .inl ⟨a, vs, j, jj, rfl, rfl, k2, by rw [← k3.length]; exact q2, ?_⟩
              have x4 : Ext mu3 H3 mu3 (L2.upd H3 a (.lst (vs.set jj vv))) := Ext.write g3 k1
              exact h3 σ mu3 _ x4 (g3.writeL k1 (k3.set rv3 jj) (noRefs_set k4 jj hz)) (s3.ext x4)
            · exact False.elim h3
        | _ => exact False.elim h3
      | dct ks ws =>
        simp only [q] at h3
        obtain ⟨b, kvs, k1, k2, k3, k4, k5, k6⟩ := hc
        obtain rfl : a = b := by
          rcases hr with z | z
          · rw [k1] at z; cases z; rfl
          · rw [k1] at z; cases z
        split at h3
        · rename_i hz
          rw [Bool.and_eq_true, Bool.and_eq_true, decide_eq_true_eq] at hz
          obtain ⟨kk, z1, z2⟩ := key_of hz.1.1 (show RD X.K mu3 H3 y vy by cases ry <;> first | exact .int _ | exact .str _ (by assumption) | (exact absurd hz.1.1 (by simp [isKey])))
          subst z1
          have hlen : kvs.length < sizeLine := by
            have := k3.length
            rw [List.length_map] at this
            rw [← this, line_eq]; exact hz.2
          refine .inr ⟨a, _, rfl, DPut.k (k := kk) k2 hlen, ?_⟩
          have x4 : Ext mu3 H3 mu3 (L2.upd H3 a (.dK (putK kvs kk vv))) := Ext.write g3 k1
          refine h3 σ mu3 _ x4 (g3.write k1 ⟨a, _, k1, upd_same, ?_⟩) (s3.ext x4)
          have hh := (look_val z2 k3 k4).2
          have any_eq : (kvs.any fun kv => decide (kv.1 = kk)) = (valV kvs kk).isSome := by
            unfold valV
            rw [Option.isSome_map, Bool.eq_iff_iff, List.find?_isSome, List.any_eq_true]
          unfold putD putK
          rw [any_eq, ← hh]
          by_cases hq : has ks y = true
          · rw [hq, if_pos rfl, if_pos rfl]
            refine ⟨?_, (RVs.put z2 rv3 k3 k4).ext (Ext.write g3 k1), k5, noRefs_putV k6 hz.1.2⟩
            rw [put_keys]; exact k3.ext (Ext.write g3 k1)
          · rw [if_neg hq, if_neg hq]
            refine ⟨?_, ?_, ?_, ?_⟩
            · rw [List.map_append]; exact (k3.append (.cons ry .nil)).ext (Ext.write g3 k1)
            · rw [List.map_append]; exact (k4.append (.cons rv3 .nil)).ext (Ext.write g3 k1)
            · show noRefs (ks ++ [y]) = true
              rw [noRefs_append, k5]; simp [noRefs, noRef_key hz.1.1]
            · show noRefs (ws ++ [v]) = true
              rw [noRefs_append, k6]; simp [noRefs, hz.1.2]
        · exact False.elim h3
      | dead => simp only [q] at h3; exact False.elim h3
  | _ => exact False.elim h3
end

/-! ## defs and calls -/
def fin (keep : Bool) (L : Nat) (w : W) (M : MH) : R W := match w with
  | .ref n => if n < L then .ok w (M.take L) else match M[n]? with
    | some (.lst xs) => if keep then .ok (.ref L) (M.take L ++ [.lst xs]) else .ok (.lst xs) (M.take L)
    | some (.dct ks vs) => .ok (.dct ks vs) (M.take L)
    | _ => .bad
  | _ => if noRef w then .ok w (M.take L) else .bad
def fnOf (ar n : Nat) (keep : Bool) (body : Sx) : Fn := fun ws M => if ws.length = ar then (match body (ws.map some ++ List.replicate (n - ar) none) M with
  | .rt w M' => fin keep M.length w M'
  | .nx _ M' => fin keep M.length .non M'
  | .exc c M' => .exc c (M'.take M.length)
  | _ => .bad) else .bad
def Mu.cut (m : Mu) (L : Nat) : Mu := ⟨m.cells.take L, m.rsv⟩
theorem Mu.ok.cut {m : Mu} {L : Nat} {a : Addr} (h : m.ok a) : (m.cut L).ok a := ⟨fun q => h.1 (List.mem_of_mem_take q), h.2⟩
mutual
theorem RV.okm {K mu mu2 H} (f : ∀ c, Mu.ok mu c → Mu.ok mu2 c) : ∀ {w : W} {v : V}, RV K mu H w v → noRef w = true → RV K mu2 H w v
  | _, _, .non, _ => .non
  | _, _, .bl b, _ => .bl b
  | _, _, .int i, _ => .int i
  | _, _, .str l h, _ => .str l h
  | _, _, .tup h n r, e => .tup h (f _ n) (RVs.okm f r e)
  | _, _, .tupK h d n r, e => .tupK h d (f _ n) (RVs.okm f r e)
  | _, _, .ktup a b c d e r, q => .ktup a b c d e (RVs.okm f r q)
  | _, _, .lst h n r, e => .lst h (f _ n) (RVs.okm f r e)
  | _, _, .dct h n r q, e => .dct h (f _ n) (RVs.okm f r (Bool.and_eq_true_iff.mp e).1) (RVs.okm f q (Bool.and_eq_true_iff.mp e).2)
  | _, _, .fz h n, _ => .fz h (f _ n)
  | _, _, .kfz h, _ => .kfz h
theorem RVs.okm {K mu mu2 H} (f : ∀ c, Mu.ok mu c → Mu.ok mu2 c) : ∀ {ws : List W} {vs : List V}, RVs K mu H ws vs → noRefs ws = true → RVs K mu2 H ws vs
  | _, _, .nil, _ => .nil
  | _, _, .cons a b, e => .cons (RV.okm f a (Bool.and_eq_true_iff.mp e).1) (RVs.okm f b (Bool.and_eq_true_iff.mp e).2)
end
theorem RV.cut {K mu H} {L : Nat} {w : W} {v : V} (r : RV K mu H w v) (h : noRef w = true) : RV K (Mu.cut mu L) H w v := r.okm (fun _ => Mu.ok.cut) h
theorem RVs.cut' {K mu H} {L : Nat} {ws : List W} {vs : List V} (r : RVs K mu H ws vs) (h : noRefs ws = true) : RVs K (Mu.cut mu L) H ws vs := r.okm (fun _ => Mu.ok.cut) h
theorem cut_get {m : Mu} {L n : Nat} (h : n < L) : (m.cut L).cells[n]? = m.cells[n]? := by
  unfold Mu.cut; rw [List.getElem?_take, if_pos h]
theorem Ext.cut {mu H mu' H'} (x : Ext mu H mu' H') : Ext mu H (mu'.cut mu.cells.length) H' where
  len := by unfold Mu.cut; rw [List.length_take]; have := x.len; omega
  old := fun n hn => by rw [cut_get hn]; exact x.old n hn
  new := fun n a hn e => by
    unfold Mu.cut at e
    rw [List.getElem?_take, if_neg (by omega)] at e; cases e
  keep := x.keep
  there := x.there
  rsv := x.rsv
  held := x.held
theorem Good.cut {K mu M H} (g : Good K mu M H) (L : Nat) : Good K (mu.cut L) (M.take L) H where
  len := by unfold Mu.cut; rw [List.length_take, List.length_take, g.len]
  inj := fun i j a hi hj => by
    unfold Mu.cut at hi hj
    rw [List.getElem?_take] at hi hj
    split at hi
    · split at hj
      · exact g.inj i j a hi hj
      · cases hj
    · cases hi
  rsvd' := g.rsvd'
  disj := fun a ha hm => g.disj a ha (List.mem_of_mem_take hm)
  cell := fun n c e => by
    rw [List.getElem?_take] at e
    split at e
    · rename_i hn
      have hc := g.cell n c e
      cases c with
      | lst xs => obtain ⟨a, vs, h1, h2, h3, h4⟩ := hc; exact ⟨a, vs, by rw [cut_get hn]; exact h1, h2, h3.cut' h4, h4⟩
      | dct ks ws => obtain ⟨a, vs, h1, h2, h3, h4, h5, h6⟩ := hc; exact ⟨a, vs, by rw [cut_get hn]; exact h1, h2, h3.cut' h5, h4.cut' h6, h5, h6⟩
      | dead => show (mu.cut L).cells[n]? = some none; rw [cut_get hn]; exact hc
    · cases e
/-- what a def hands back -/
theorem fin_ok {K mu H mu' M' H' w v} {M : MH} {keep : Bool} {P : W → MH → Mu → Hp → Prop} (hL : mu.cells.length = M.length) (x : Ext mu H mu' H') (g : Good K mu' M' H') (rv : RV K mu' H' w v) (h : Post K mu H P (fin keep M.length w M')) :
    ∃ w2 M2 mu2, Ext mu H mu2 H' ∧ Good K mu2 M2 H' ∧ RV K mu2 H' w2 v ∧ P w2 M2 mu2 H' := by
  have xc := x.cut
  rw [hL] at xc
  have base : ∀ {w0 : W}, noRef w0 = true → RV K mu' H' w0 v → Post K mu H P (.ok w0 (M'.take M.length)) → ∃ w2 M2 mu2, Ext mu H mu2 H' ∧ Good K mu2 M2 H' ∧ RV K mu2 H' w2 v ∧ P w2 M2 mu2 H' := fun hn r0 h0 =>
    ⟨_, _, _, xc, g.cut _, r0.cut hn, h0 _ _ xc (g.cut _)⟩
  cases w with
  | ref n =>
    simp only [fin] at h
    split at h
    · rename_i hn
      cases rv with
      | ref hr =>
        have rc : RV K (mu'.cut M.length) H' (.ref n) _ := .ref (by rw [cut_get hn]; exact hr)
        exact ⟨_, _, _, xc, g.cut _, rc, h _ _ xc (g.cut _)⟩
    · rename_i hn
      cases q : M'[n]? with
      | none => simp only [q] at h; exact False.elim h
      | some c =>
        have hc := g.cell n c q
        cases rv with
        | @ref _ a hr =>
          cases c with
          | lst xs =>
            simp only [q] at h
            obtain ⟨b, vs, k1, k2, k3, k4⟩ := hc
            obtain rfl : a = b := by
              rcases hr with z | z
              · rw [k1] at z; cases z; rfl
              · rw [k1] at z; cases z
            split at h
            · -- the cell goes on
              have gc := g.cut M.length
              have nin : some a ∉ (mu'.cut M.length).cells := fun hm => by
                obtain ⟨k, hk⟩ := List.mem_iff_getElem?.mp hm
                unfold Mu.cut at hk
                rw [List.getElem?_take] at hk
                split at hk
                · have := g.inj n k a k1 hk; omega
                · cases hk
              have lenC : (mu'.cut M.length).cells.length = M.length := by
                unfold Mu.cut; rw [List.length_take]
                have := x.len; rw [hL] at this; omega
              have lenM : (M'.take M.length).length = M.length := by rw [← gc.len]; exact lenC
              let mu2 : Mu := ⟨(mu'.cut M.length).cells ++ [some a], mu'.rsv⟩
              have get2 : ∀ k : Nat, k < M.length → mu2.cells[k]? = mu'.cells[k]? := fun k hk => by
                show ((mu'.cut M.length).cells ++ [some a])[k]? = _
                rw [List.getElem?_append_left (by omega), cut_get hk]
              have atL : mu2.cells[M.length]? = some (some a) := by
                show ((mu'.cut M.length).cells ++ [some a])[M.length]? = _
                rw [List.getElem?_append_right (by omega), lenC]; simp
              have over : ∀ k : Nat, M.length < k → mu2.cells[k]? = none := fun k hk => by
                show ((mu'.cut M.length).cells ++ [some a])[k]? = _
                rw [List.getElem?_eq_none]; simp; omega
              have okm : ∀ c, mu'.ok c → mu2.ok c := fun c hc => ⟨fun hm => by
                rcases List.mem_append.mp hm with z | z
                · exact hc.cut.1 z
                · simp at z; subst z; exact hc.1 (List.mem_iff_getElem?.mpr ⟨n, k1⟩), hc.2⟩
              have dec : ∀ (k : Nat) (b : Addr), mu2.cells[k]? = some (some b) → (k < M.length ∧ mu'.cells[k]? = some (some b)) ∨ (k = M.length ∧ b = a) := fun k b hk => by
                rcases Nat.lt_trichotomy k M.length with q1 | q1 | q1
                · exact .inl ⟨q1, by rw [← get2 k q1]; exact hk⟩
                · subst q1; rw [atL] at hk; cases hk; exact .inr ⟨rfl, rfl⟩
                · rw [over k q1] at hk; cases hk
              have g2 : Good K mu2 (M'.take M.length ++ [.lst xs]) H' := by
                refine ⟨?_, fun i j b hi hj => ?_, fun k c e => ?_, g.rsvd', fun b hb hm => ?_⟩
                · show ((mu'.cut M.length).cells ++ [some a]).length = _
                  rw [List.length_append, List.length_append, lenC, lenM]; rfl
                · rcases dec i b hi with ⟨a1, a2⟩ | ⟨a1, a2⟩ <;> rcases dec j b hj with ⟨b1, b2⟩ | ⟨b1, b2⟩
                  · exact g.inj i j b a2 b2
                  · subst b2; have := g.inj i n b a2 k1; omega
                  · subst a2; have := g.inj j n b b2 k1; omega
                  · omega
                · by_cases hk : k < M.length
                  · rw [List.getElem?_append_left (by omega), List.getElem?_take, if_pos hk] at e
                    have hd := g.cell k c e
                    cases c with
                    | lst ys => obtain ⟨b, us, h1, h2, h3, h4⟩ := hd; exact ⟨b, us, by rw [get2 k hk]; exact h1, h2, h3.okm okm h4, h4⟩
                    | dct ks ws => obtain ⟨b, us, h1, h2, h3, h4, h5, h6⟩ := hd; exact ⟨b, us, by rw [get2 k hk]; exact h1, h2, h3.okm okm h5, h4.okm okm h6, h5, h6⟩
                    | dead => show mu2.cells[k]? = some none; rw [get2 k hk]; exact hd
                  · rw [List.getElem?_append_right (by omega), lenM] at e
                    cases q9 : k - M.length with
                    | zero =>
                      rw [q9] at e; simp at e; subst e
                      have : k = M.length := by omega
                      subst this
                      exact ⟨a, vs, atL, k2, k3.okm okm k4, k4⟩
                    | succ z => rw [q9] at e; simp at e
                · rcases List.mem_append.mp hm with z | z
                  · exact g.disj b hb (List.mem_of_mem_take z)
                  · simp at z; subst z; exact g.disj b hb (List.mem_iff_getElem?.mpr ⟨n, k1⟩)
              have xx : Ext mu H mu2 H' := by
                refine ⟨?_, fun k hk => ?_, fun k b hk e => ?_, x.keep, x.there, x.rsv, x.held⟩
                · show _ ≤ ((mu'.cut M.length).cells ++ [some a]).length
                  rw [List.length_append, lenC, hL]; simp
                · rw [get2 k (by omega)]; exact x.old k hk
                · rcases dec k b e with ⟨a1, a2⟩ | ⟨a1, a2⟩
                  · omega
                  · subst a2; exact x.new n b (by omega) k1
              exact ⟨_, _, mu2, xx, g2, .ref (.inl atL), h _ _ xx g2⟩
            · have okk : ∀ c, mu'.ok c → (Mu.cut mu' M.length).ok c := fun _ => Mu.ok.cut
              refine ⟨_, _, _, xc, g.cut _, .lst k2 ⟨fun hm => ?_, fun hr => g.disj a hr (List.mem_iff_getElem?.mpr ⟨n, k1⟩)⟩ (k3.cut' k4), h _ _ xc (g.cut _)⟩
              obtain ⟨k, hk⟩ := List.mem_iff_getElem?.mp hm
              unfold Mu.cut at hk
              rw [List.getElem?_take] at hk
              split at hk
              · have := g.inj n k a k1 hk; omega
              · cases hk
          | dct ks ws =>
            simp only [q] at h
            obtain ⟨b, vs, k1, k2, k3, k4, k5, k6⟩ := hc
            obtain rfl : a = b := by
              rcases hr with z | z
              · rw [k1] at z; cases z; rfl
              · rw [k1] at z; cases z
            refine ⟨_, _, _, xc, g.cut _, .dct k2 ⟨fun hm => ?_, fun hr => g.disj a hr (List.mem_iff_getElem?.mpr ⟨n, k1⟩)⟩ (k3.cut' k5) (k4.cut' k6), h _ _ xc (g.cut _)⟩
            obtain ⟨k, hk⟩ := List.mem_iff_getElem?.mp hm
            unfold Mu.cut at hk
            rw [List.getElem?_take] at hk
            split at hk
            · have := g.inj n k a k1 hk; omega
            · cases hk
          | dead => simp only [q] at h; exact False.elim h
  | non => exact base rfl rv (by simpa [fin, noRef] using h)
  | bl b => exact base rfl rv (by simpa [fin, noRef] using h)
  | int i => exact base rfl rv (by simpa [fin, noRef] using h)
  | str l => exact base rfl rv (by simpa [fin, noRef] using h)
  | fz ns => exact base rfl rv (by simpa [fin, noRef] using h)
  | tup kk xs =>
    simp only [fin] at h
    split at h
    · rename_i hn; exact base hn rv h
    · exact False.elim h
  | lst xs =>
    simp only [fin] at h
    split at h
    · rename_i hn; exact base hn rv h
    · exact False.elim h
  | dct ks ws =>
    simp only [fin] at h
    split at h
    · rename_i hn; exact base hn rv h
    · exact False.elim h
/-- a def's promise by its small form -/
def spF (K : PySem.W.Frag) (ar : Nat) (f : Fn) : Sp := fun vs H Q _ => vs.length = ar ∧ ∃ mu M ws, Good K mu M H ∧ RVs K mu H ws vs ∧ Post K mu H (fun w _ mu' H' => ∀ v, RV K mu' H' w v → Q v H') (f ws M)
def fBad : Fn := fun _ _ => .bad
section
variable {P : Program} {w : World} {K : PySem.W.Frag} {mg : Str → Option Value} {base : Heap}
theorem fn_bad {f : Addr} {fd : FuncData} {ps : List Str} : FnOk P w K mg base CX0 0 f fd ps (spF K ps.length fBad) :=
  ⟨fun vs H Q E h => h.1, fun A outer s H args us vs Q E hr e0 hb hv h => by obtain ⟨_, mu, M, ws, g, r, h⟩ := h; exact False.elim h⟩
theorem start_rs {mu H} {N : List Str} {ws : List W} {vs : List V} (r : RVs K mu H ws vs) : RS K mu H (ws.map some ++ List.replicate (N.length - ws.length) none) (L2.start N vs) := by
  unfold L2.start
  refine ⟨by simp [r.length], fun i x e => ?_⟩
  by_cases hi : i < ws.length
  · rw [List.getElem?_append_left (by simpa using hi), List.getElem?_map] at e
    cases q : ws[i]? with
    | none => rw [q] at e; cases e
    | some y =>
      rw [q] at e; cases e
      obtain ⟨v, h1, h2⟩ := r.get q
      exact ⟨v, by rw [List.getElem?_append_left (by rw [List.length_map, ← r.length]; exact hi), List.getElem?_map, h1]; rfl, h2⟩
  · rw [List.getElem?_append_right (by simpa using hi), List.getElem?_replicate] at e
    split at e <;> cases e
theorem fn_ok {x qual : Str} {st : Stmt} {f : Addr} {fd : FuncData} {N ps : List Str} {k : Nat} {keep : Bool} {body : Sx} (F : Fun K x qual st f fd) (S : FnScope N ps (defScope st))
    (hbody : ∀ (cdv : Value) (A : Around) (outer : List Env) (s : Shared) (H : Hp) (E : XK), Room k (A.deeper (PyProof.Rows.envOfC qual (defScope st) s.heap.objs.size f cdv)) →
      PSs (cxOf CX0 P w K mg base N qual (defScope st) f cdv A outer s H E).nox (defBody st) (denS K body)) : FnOk P w K mg base CX0 (k + 1) f fd ps (spF K ps.length (fnOf ps.length N.length keep body)) := by
  refine F.ok S (fun vs H Q E h => h.1) fun cdv A outer s H vs Q E hr hsp => ⟨denS K body, hbody cdv A outer s H E hr, ?_⟩
  obtain ⟨hl, mu, M, ws, g, rv, h⟩ := hsp
  have hw : ws.length = ps.length := by rw [rv.length]; exact hl
  unfold fnOf at h
  rw [if_pos hw] at h
  refine ⟨mu, M, _, g, start_rs rv, ?_⟩
  rw [hw]
  cases q : body (ws.map some ++ List.replicate (N.length - ps.length) none) M with
  | rt w0 M' =>
    rw [q] at h
    intro v mu' H' x g' rv'
    obtain ⟨w2, M2, mu2, x2, g2, r2, p2⟩ := fin_ok g.len x g' rv' h
    exact p2 v r2
  | nx r0 M' =>
    rw [q] at h
    intro σ mu' H' x g' _
    obtain ⟨w2, M2, mu2, x2, g2, r2, p2⟩ := fin_ok g.len x g' (.non) h
    exact p2 .non r2
  | exc c M' => rw [q] at h; exact False.elim h
  | bk r0 M' => rw [q] at h; exact False.elim h
  | ct r0 M' => rw [q] at h; exact False.elim h
  | bad => rw [q] at h; exact False.elim h
end
def eCall (f : Fn) (ms : EvL) : Ev := fun r M => (ms r M).bind fun ws M1 => f ws M1
section
variable {X : Cx} {k : Nat} {f : Addr} {fd : FuncData} {ps : List Str} {x : Str} {p pos : Pos} {e : Expr} {es : List Expr} {ms : EvL} {g : Fn}
theorem call_core {K : PySem.W.Frag} {n : Nat} {σ H Q} (hn : ∀ ws M, ws.length ≠ n → g ws M = .bad) (h : den K (eCall g ms) σ H Q) : tCall (spF K n g) [] E0 (denA K ms) σ H Q := by
  obtain ⟨mu, M, r, gd, s, h⟩ := h
  refine ⟨mu, M, r, gd, s, (Post.bind h).imp fun ws M1 mu1 H1 e1 g1 h1 vs rs => ?_⟩
  show spF K n g (vs ++ []) H1 Q E0
  rw [List.append_nil]
  by_cases hl : ws.length = n
  · exact ⟨by rw [← rs.length]; exact hl, mu1, M1, ws, g1, rs, h1⟩
  · rw [hn ws M1 hl] at h1; exact False.elim h1
theorem sd_call {n : Nat} (F : FnOk X.prog X.w X.K X.mg X.base CX0 k f fd ps (spF X.K n g)) (hn : ∀ ws M, ws.length ≠ n → g ws M = .bad) (hr : Room k X.A) (hg : Gl X x) (hm : X.mg x = some (.ref f)) (hk : PySem.W.keepIn X.K (.ref f) = true) (hb : Binds X.K fd ps [])
    (ha : PA X (e :: es) (denA X.K ms)) (hdb : (x == ("__debug__" : Str)) = false := by decide) (he : starEach (e :: es) X.env = (false, eval e X.env) :: starEach es X.env := by rfl) (hpl : (backTo pos (starEach es X.env)).any (·.1) = false := by rfl) :
    PE X (.Call (.Name x p) (e :: es) [] pos) (den X.K (eCall g ms)) :=
  PE.of (pe_call F hr hg hm hk hb .nil pass0 ha hdb he hpl) fun σ H Q h => call_core hn h
theorem sd_call0 {n : Nat} (F : FnOk X.prog X.w X.K X.mg X.base CX0 k f fd ps (spF X.K n g)) (hn : ∀ ws M, ws.length ≠ n → g ws M = .bad) (hr : Room k X.A) (hg : Gl X x) (hm : X.mg x = some (.ref f)) (hk : PySem.W.keepIn X.K (.ref f) = true) (hb : Binds X.K fd ps [])
    (hdb : (x == ("__debug__" : Str)) = false := by decide) : PE X (.Call (.Name x p) [] [] pos) (den X.K (eCall g aNil)) :=
  PE.of (pe_call0 F hr hg hm hk hb .nil pass0 hdb) fun σ H Q h => by
    obtain ⟨mu, M, r, gd, s, h⟩ := h
    have h : Post X.K mu H (fun w _ mu' H' => ∀ v, RV X.K mu' H' w v → Q v H') (g [] M) := h
    show spF X.K n g ([] ++ []) H Q E0
    by_cases hl : ([] : List W).length = n
    · exact ⟨hl, mu, M, [], gd, .nil, h⟩
    · rw [hn [] M hl] at h; exact False.elim h
end
theorem fnOf_len {ar n : Nat} {keep : Bool} {body : Sx} : ∀ ws M, ws.length ≠ ar → fnOf ar n keep body ws M = .bad := fun ws M h => by unfold fnOf; rw [if_neg h]
theorem fBad_len {ar : Nat} : ∀ ws M, ws.length ≠ ar → fBad ws M = .bad := fun _ _ _ => rfl
end Py

namespace Py
open PySem L2

/-! ## built-ins by values -/
def CallS (K : PySem.W.Frag) (t : List V → Hp → VK → Prop) (f : MH → List W → Option W) : Prop := ∀ mu M H ws vs w (Q : VK), Good K mu M H → RVs K mu H ws vs → f M ws = some w →
  (∀ v H', Ext mu H mu H' → Good K mu M H' → RV K mu H' w v → Q v H') → t vs H Q
def CallSL (K : PySem.W.Frag) (t : List V → Hp → VK → Prop) (f : MH → List W → Option (List W)) : Prop := ∀ mu M H ws vs xs (Q : VK), Good K mu M H → RVs K mu H ws vs → f M ws = some xs →
  (∀ us p, RVs K mu H xs us → H p = none → Q (.ref p) (L2.upd H p (.lst us))) → t vs H Q
def eBi (f : MH → List W → Option W) (ms : EvL) : Ev := fun r M => (ms r M).bind fun ws M1 => R.ofO (f M1 ws) M1
def lBi (f : MH → List W → Option (List W)) (ms : EvL) : EvL := fun r M => (ms r M).bind fun ws M1 => R.ofO (f M1 ws) M1
theorem bi_core {K : PySem.W.Frag} {t : List V → Hp → VK → Prop} {f : MH → List W → Option W} {ms : EvL} (hs : CallS K t f) {σ H Q} (h : den K (eBi f ms) σ H Q) : tCB t (denA K ms) σ H Q := by
  obtain ⟨mu, M, r, g, s, h⟩ := h
  refine ⟨mu, M, r, g, s, (Post.bind h).imp fun ws M1 mu1 H1 e1 g1 h1 vs rs => ?_⟩
  cases q : f M1 ws with
  | none => rw [q] at h1; exact False.elim h1
  | some w => rw [q] at h1; exact hs mu1 M1 H1 ws vs w Q g1 rs q fun v H' e g' rv => h1 mu1 H' e g' v rv
theorem biL_core {K : PySem.W.Frag} {t : List V → Hp → VK → Prop} {f : MH → List W → Option (List W)} {ms : EvL} (hs : CallSL K t f) {σ H Q} (h : denL K (lBi f ms) σ H Q) : tCB t (denA K ms) σ H Q := by
  obtain ⟨mu, M, r, g, s, h⟩ := h
  refine ⟨mu, M, r, g, s, (Post.bind h).imp fun ws M1 mu1 H1 e1 g1 h1 vs rs => ?_⟩
  cases q : f M1 ws with
  | none => rw [q] at h1; exact False.elim h1
  | some w => rw [q] at h1; exact hs mu1 M1 H1 ws vs w Q g1 rs q fun us p ru hp => h1 mu1 H1 Ext.refl g1 us p ru hp
section
variable {X : Cx} {x : Str} {id T : String} {p pos : Pos} {e : Expr} {es : List Expr} {ms : EvL} {t : List V → Hp → VK → Prop}
theorem sd_bi {f : MH → List W → Option W} (hc : CallR X (.builtin id) t) (hs : CallS X.K t f) (hg : Gl X x) (hm : X.mg x = none) (hv : bootBuiltins x = some (.builtin id)) (ha : PA X (e :: es) (denA X.K ms)) (hn : x ≠ "__name__" := by decide) (hdb : (x == ("__debug__" : Str)) = false := by decide)
    (h : PE X (.Call (.Name x p) (e :: es) [] pos) (tCB t (denA X.K ms))) : PE X (.Call (.Name x p) (e :: es) [] pos) (den X.K (eBi f ms)) := PE.of h fun σ H Q h => bi_core hs h
theorem sd_of {f : MH → List W → Option W} (hs : CallS X.K t f) (h : PE X e (tCB t (denA X.K ms))) : PE X e (den X.K (eBi f ms)) := PE.of h fun σ H Q h => bi_core hs h
theorem sl_of {f : MH → List W → Option (List W)} (hs : CallSL X.K t f) (h : PE X e (tCB t (denA X.K ms))) : PE X e (denL X.K (lBi f ms)) := PE.of h fun σ H Q h => biL_core hs h
end
/-- of one argument, read -/
def b1 (f : W → Option W) : MH → List W → Option W := fun M ws => match ws with
  | [x] => f (rd M x)
  | _ => none
theorem cs1 {K : PySem.W.Frag} {t : List V → Hp → VK → Prop} {f : W → Option W} (h : ∀ mu M H x v w (Q : VK), Good K mu M H → RD K mu H x v → f x = some w → (∀ v H', Ext mu H mu H' → Good K mu M H' → RV K mu H' w v → Q v H') → t [v] H Q) : CallS K t (b1 f) := by
  intro mu M H ws vs w Q g r e k
  cases r with
  | nil => cases e
  | cons a b =>
    cases b with
    | nil => exact h mu M H _ _ w Q g (a.rd g) e k
    | cons _ _ => cases e
def lenW : W → Option W
  | .str l => if l.length ≤ line then some (.int l.length) else none
  | .tup _ xs => some (.int xs.length)
  | .lst xs => some (.int xs.length)
  | .fz ns => some (.int ns.length)
  | .dct ks _ => some (.int ks.length)
  | _ => none
theorem cs_len {X : Cx} : CallR X (.builtin "len") (fun xs H Q => ((∃ p ys, xs = [.ref p] ∧ (SqL X.K H p ys ∨ SqT X.K H p ys) ∧ Q (.int ys.length) H) ∨ ∃ z, xs = [.str z] ∧ z.length ≤ sizeLine ∧ Q (.int z.length) H) ∨ ∃ a kvs, xs = [V.ref a] ∧ H a = some (.dK kvs) ∧ Q (.int kvs.length) H) :=
  (call_len_seq.or call_len_str).or call_lenD
theorem cs_lenS {K : PySem.W.Frag} : CallS K (fun xs H Q => ((∃ p ys, xs = [.ref p] ∧ (SqL K H p ys ∨ SqT K H p ys) ∧ Q (.int ys.length) H) ∨ ∃ z, xs = [.str z] ∧ z.length ≤ sizeLine ∧ Q (.int z.length) H) ∨ ∃ a kvs, xs = [V.ref a] ∧ H a = some (.dK kvs) ∧ Q (.int kvs.length) H) (b1 lenW) :=
  cs1 fun mu M H x v w Q g r e k => by
    cases r with
    | str l hl =>
      simp only [lenW] at e
      split at e
      · rename_i hz
        cases e
        exact .inl (.inr ⟨_, rfl, by rw [str_len, line_eq]; exact hz, by rw [str_len]; exact k _ _ Ext.refl g (.int _)⟩)
      · cases e
    | tup h r => cases e; exact .inl (.inl ⟨_, _, rfl, .inr h.sq, by rw [← r.length]; exact k _ _ Ext.refl g (.int _)⟩)
    | lst h r => cases e; exact .inl (.inl ⟨_, _, rfl, .inl (.inl (.inl h)), by rw [← r.length]; exact k _ _ Ext.refl g (.int _)⟩)
    | fz h => cases e; exact .inl (.inl ⟨_, _, rfl, .inl h, by rw [List.length_map]; exact k _ _ Ext.refl g (.int _)⟩)
    | dct h r q =>
      cases e
      have := r.length
      rw [List.length_map] at this
      exact .inr ⟨_, _, rfl, h, by rw [← this]; exact k _ _ Ext.refl g (.int _)⟩
    | _ => cases e
def absW : W → Option W
  | .int i => some (.int (if i < 0 then -i else i))
  | _ => none
theorem cs_abs {K : PySem.W.Frag} : CallS K (fun xs H Q => ∃ i, xs = [.int i] ∧ Q (.int (if i < 0 then -i else i)) H) (b1 absW) := cs1 fun mu M H x v w Q g r e k => by
  cases r with
  | int i => cases e; exact ⟨i, rfl, k _ _ Ext.refl g (.int _)⟩
  | _ => cases e
def intW : W → Option W
  | .int i => some (.int i)
  | .bl b => some (.int (if b then 1 else 0))
  | _ => none
theorem cs_int {K : PySem.W.Frag} : CallS K (fun xs H Q => (∃ i, xs = [.int i] ∧ Q (.int i) H) ∨ ∃ k, xs = [.bl k] ∧ Q (.int (if k then 1 else 0)) H) (b1 intW) := cs1 fun mu M H x v w Q g r e k => by
  cases r with
  | int i => cases e; exact .inl ⟨i, rfl, k _ _ Ext.refl g (.int _)⟩
  | bl b => cases e; exact .inr ⟨b, rfl, k _ _ Ext.refl g (.int _)⟩
  | _ => cases e
/-- of two ints -/
def b2 (f : Int → Int → Int) : MH → List W → Option W := fun _ ws => match ws with
  | [.int i, .int j] => some (.int (f i j))
  | _ => none
theorem cs_two {K : PySem.W.Frag} {f : Int → Int → Int} : CallS K (fun xs H Q => ∃ i j, xs = [.int i, .int j] ∧ Q (.int (f i j)) H) (b2 f) := by
  intro mu M H ws vs w Q g r e k
  unfold b2 at e
  split at e
  · cases e
    cases r with
    | cons a b =>
      cases b with
      | cons c d =>
        cases d; cases a; cases c
        exact ⟨_, _, rfl, k _ _ Ext.refl g (.int _)⟩
  · cases e
def minI (i j : Int) : Int := if j < i then j else i
def maxI (i j : Int) : Int := if j > i then j else i
/-! ### all, any -/
def bls : List W → Option (List Bool)
  | [] => some []
  | .bl b :: ws => (bls ws).map (b :: ·)
  | _ => none
theorem bls_rv {K mu H} : ∀ {ws : List W} {vs : List V} {bs : List Bool}, RVs K mu H ws vs → bls ws = some bs → vs = bs.map V.bl
  | _, _, _, .nil, e => by cases e; rfl
  | _, _, _, .cons (.bl b) r, e => by
    simp only [bls] at e
    obtain ⟨bs', h1, h2⟩ := Option.map_eq_some_iff.mp e
    subst h2
    rw [bls_rv r h1]; rfl
def allW : W → Option W
  | .lst ws => (bls ws).map fun bs => .bl (bs.all id)
  | _ => none
def anyW : W → Option W
  | .lst ws => (bls ws).map fun bs => .bl (bs.any id)
  | _ => none
theorem cs_all {K : PySem.W.Frag} : CallS K (rAll K) (b1 allW) := cs1 fun mu M H x v w Q g r e k => by
  cases r with
  | lst h r =>
    simp only [allW] at e
    obtain ⟨bs, h1, h2⟩ := Option.map_eq_some_iff.mp e
    subst h2
    have := bls_rv r h1
    subst this
    exact ⟨_, bs, rfl, .inl (.inl h), k _ _ Ext.refl g (.bl _)⟩
  | _ => cases e
theorem cs_any {K : PySem.W.Frag} : CallS K (rAny K) (b1 anyW) := cs1 fun mu M H x v w Q g r e k => by
  cases r with
  | lst h r =>
    simp only [anyW] at e
    obtain ⟨bs, h1, h2⟩ := Option.map_eq_some_iff.mp e
    subst h2
    have := bls_rv r h1
    subst this
    exact ⟨_, bs, rfl, .inl (.inl h), k _ _ Ext.refl g (.bl _)⟩
  | _ => cases e
/-! ### tuple, list -/
def tupleW : W → Option W
  | .lst ws => some (.tup true ws)
  | .fz ns => some (.tup true (ns.map W.int))
  | .tup k ws => some (.tup k ws)
  | _ => none
def rTupleK (K : PySem.W.Frag) : List V → Hp → VK → Prop := fun xs H Q => ∃ p ys, xs = [.ref p] ∧ ((SqL K H p ys ∧ ∀ l o, o.dict = none → H l = none → Q (.ref l) (L2.upd H l (.frz o (.tup ys)))) ∨ (SqT K H p ys ∧ Q (.ref p) H))
theorem cr_tupleK {X : Cx} : CallR X (.type "tuple") (rTupleK X.K) := by
  intro pins s σ H xs us Q I r h
  obtain ⟨p, ys, rfl, h⟩ := h
  obtain ⟨u, rfl, rx⟩ := vals1 r
  cases rx
  rcases h with ⟨hq, q⟩ | ⟨hq, q⟩
  · obtain ⟨its, r', pl, hz⟩ := I.list hq
    refine call_tuple_list pl.isList (fun h' kp => ?_) (by simp only [List.size_toArray] <;> (have := r'.length; omega))
    have I1 : Inv X pins σ H { s with heap := h' } := I.kept (t' := s.toks) kp
    exact ⟨.ref h'.objs.size, _, tupK_new I1 r' hz, rfl, q _ _ rfl (I1.hok.fresh (Nat.le_refl _))⟩
  · obtain ⟨its, r', pl, hz⟩ := I.tuple hq
    exact call_tuple_same pl ⟨.ref p, H, I, rfl, q⟩
theorem cs_tuple {K : PySem.W.Frag} : CallS K (rTupleK K) (b1 tupleW) := cs1 fun mu M H x v w Q g r e k => by
  cases r with
  | lst h r => cases e; exact ⟨_, _, rfl, .inl ⟨.inl (.inl h), fun l o ho hl => k _ _ (Ext.upd g hl) (g.upd hl) (.newTupK g hl ho r)⟩⟩
  | fz h => cases e; exact ⟨_, _, rfl, .inl ⟨h, fun l o ho hl => k _ _ (Ext.upd g hl) (g.upd hl) (.newTupK g hl ho (RVs.ints _))⟩⟩
  | tup h r => cases e; exact ⟨_, _, rfl, .inr ⟨h.sq, k _ _ Ext.refl g (.ofTup g h r)⟩⟩
  | _ => cases e
def listW : MH → List W → Option (List W) := fun M ws => match ws with
  | [x] => (match rd M x with
    | .lst xs => some xs
    | .tup _ xs => some xs
    | .fz ns => some (ns.map W.int)
    | _ => none)
  | _ => none
theorem cs_list {K : PySem.W.Frag} : CallSL K (fun xs H Q => ∃ p ys, xs = [.ref p] ∧ (SqL K H p ys ∨ SqT K H p ys) ∧ ∀ l, H l = none → Q (.ref l) (L2.upd H l (.lst ys))) listW := by
  intro mu M H ws vs xs Q g r e k
  cases r with
  | nil => cases e
  | cons a b =>
    cases b with
    | nil =>
      simp only [listW] at e
      have rr := a.rd g
      generalize rd M _ = y at rr e
      cases rr with
      | lst h r => cases e; exact ⟨_, _, rfl, .inl (.inl (.inl h)), fun l hl => k _ l r hl⟩
      | tup h r => cases e; exact ⟨_, _, rfl, .inr h.sq, fun l hl => k _ l r hl⟩
      | fz h => cases e; exact ⟨_, _, rfl, .inl h, fun l hl => k _ l (RVs.ints _) hl⟩
      | _ => cases e
    | cons _ _ => cases e
/-! ### isinstance -/
inductive Ty where
  | non | bl | int | str | tup | lst | dct
  deriving DecidableEq
def Ty.nm : Ty → String
  | .non => "NoneType" | .bl => "bool" | .int => "int" | .str => "str" | .tup => "tuple" | .lst => "list" | .dct => "dict"
def tyW : W → Option Ty
  | .non => some .non
  | .bl _ => some .bl
  | .int _ => some .int
  | .str _ => some .str
  | .tup _ _ => some .tup
  | .lst _ => some .lst
  | .fz _ => some .lst
  | .dct _ _ => some .dct
  | .ref _ => none
def sub (a b : Ty) : Bool := decide (a = b) || (decide (a = .bl) && decide (b = .int))
theorem kit_sub (a b : Ty) : kitB a.nm b.nm = some (sub a b) := by
  cases a <;> cases b <;> decide +kernel
theorem ty_rd {K mu H x v t} (r : RD K mu H x v) (e : tyW x = some t) : TyX K H v (.type t.nm) := by
  cases r with
  | non => cases e; exact .base .non
  | bl b => cases e; exact .base (.bl b)
  | int i => cases e; exact .base (.int i)
  | str l hl => cases e; exact .base (.str _)
  | tup h r =>
    cases e
    rcases h with ⟨o, h, _⟩ | ⟨_, h | ⟨o, its, n, h, hc, _⟩⟩
    · exact .fTuple h
    · exact .base (.tup h)
    · exact .kTuple h hc
  | lst h r => cases e; exact .base (.lst h)
  | fz h =>
    cases e
    rcases h with (h | ⟨o, h⟩) | ⟨o, its, n, h, hc, _⟩
    · exact .base (.lst h)
    · exact .base (.frz h)
    · exact .kList h hc
  | dct h r q => cases e; exact .base (.dK h)
  | ref => cases e
def eIsI (ts : List Ty) (m : Ev) : Ev := fun r M => (m r M).bind fun x M1 => match tyW (rd M1 x) with
  | some t => .ok (.bl (ts.any (sub t))) M1
  | none => .bad
section
variable {X : Cx} {e : Expr} {m : Ev} {p p1 p2 pos : Pos}
theorem TyX.upd {K : PySem.W.Frag} {H : Hp} {x : V} {t : Value} {q : Addr} {o : HO} (h : TyX K H x t) (hq : H q = none) : TyX K (L2.upd H q o) x t := by
  have go : ∀ {a : Addr} {u : HO}, H a = some u → L2.upd H q o a = some u := fun e => by rw [upd_ne (ne_of_none e hq)]; exact e
  cases h with
  | base h =>
    cases h with
    | non => exact .base .non
    | bl b => exact .base (.bl b)
    | int i => exact .base (.int i)
    | str z => exact .base (.str z)
    | flt z => exact .base (.flt z)
    | lst e => exact .base (.lst (go e))
    | frz e => exact .base (.frz (go e))
    | tup e => exact .base (.tup (go e))
    | dK e => exact .base (.dK (go e))
    | dT e => exact .base (.dT (go e))
    | ins e a b c d f => exact .base (.ins (go e) a b c d f)
  | byt b => exact .byt b
  | set e => exact .set (go e)
  | kList e c => exact .kList e c
  | kTuple e c => exact .kTuple e c
  | kDict e c => exact .kDict e c
  | fTuple e => exact .fTuple (go e)
  | fDict e => exact .fDict (go e)
theorem isi1_core {K : PySem.W.Frag} {T : Ty} {σ H Q} (h : den K (eIsI [T] m) σ H Q) : tCB (rIsi K) (tCons (den K m) (tCons (tC (.ty T.nm)) tNil)) σ H Q := by
  obtain ⟨mu, M, r, g, s, h⟩ := h
  refine ⟨mu, M, r, g, s, (Post.bind h).imp fun x M1 mu1 H1 e1 g1 h1 v rv => ?_⟩
  cases q : tyW (rd M1 x) with
  | none => simp only [q] at h1; exact False.elim h1
  | some t =>
    simp only [q] at h1
    refine ⟨v, .ty T.nm, .type t.nm, .type T.nm, sub t T, rfl, .ty _, ty_rd (rv.rd g1) q, kit_ty (kit_sub t T), ?_⟩
    have := h1 mu1 H1 Ext.refl g1 (.bl (sub t T)) (by simp only [List.any_cons, List.any_nil, Bool.or_false]; exact .bl _)
    exact this
theorem paired_tys : ∀ ts : List Ty, Paired ClsV (ts.map fun t => V.ty t.nm) (ts.map fun t => Value.type t.nm)
  | [] => .nil
  | t :: ts => .cons (.ty _) (paired_tys ts)
theorem kitAny_sub {K : PySem.W.Frag} (t : Ty) : ∀ ts : List Ty, PySem.W.kitAny K (.type t.nm) (ts.map fun t => Value.type t.nm) = some (ts.any (sub t))
  | [] => rfl
  | u :: ts => kitAny_cons (b := sub t u) (kit_ty (kit_sub t u)) (fun h => by rw [kitAny_sub t ts, List.any_cons, h]; rfl) (fun h => by rw [List.any_cons, h]; rfl)
/-- the classes of a tuple -/
def tTys (ts : List Ty) : TA := fun _ H Q => Q (ts.map fun t => V.ty t.nm) H
theorem pty_nil : PA X [] (tTys []) := pa_nil
theorem pty_cons {T : Ty} {n : Expr} {ns : List Expr} {ts : List Ty} (h : PE X n (tC (.ty T.nm))) (hr : PA X ns (tTys ts)) (hs : starEach (n :: ns) X.env = (false, eval n X.env) :: starEach ns X.env := by rfl) : PA X (n :: ns) (tTys (T :: ts)) := pa_cons h hr hs
theorem isiT_core {K : PySem.W.Frag} {ts : List Ty} {σ H Q} (hl : ts.length ≤ 100) (h : den K (eIsI ts m) σ H Q) : tCB (rIsiT K) (tCons (den K m) (tCons (tTup (tTys ts)) tNil)) σ H Q := by
  obtain ⟨mu, M, r, g, s, h⟩ := h
  refine ⟨mu, M, r, g, s, (Post.bind h).imp fun x M1 mu1 H1 e1 g1 h1 v rv => ?_⟩
  cases q : tyW (rd M1 x) with
  | none => simp only [q] at h1; exact False.elim h1
  | some t =>
    simp only [q] at h1
    refine ⟨by rw [List.length_map, line_eq]; unfold line; omega, fun p hp => ?_⟩
    exact ⟨v, p, _, .type t.nm, _, ts.any (sub t), rfl, upd_same, paired_tys ts, TyX.upd (ty_rd (rv.rd g1) q) hp, kitAny_sub t ts, h1 mu1 _ (Ext.upd g1 hp) (g1.upd hp) _ (.bl _)⟩
theorem sd_isi1 {T : Ty} {n : Str} (h : PE X e (den X.K m)) (hT : PE X (.Name n p1) (tC (.ty T.nm))) (h0 : PE X (.Call (.Name "isinstance" p) [e, .Name n p1] [] pos) (tCB (rIsi X.K) (tCons (den X.K m) (tCons (tC (.ty T.nm)) tNil)))) :
    PE X (.Call (.Name "isinstance" p) [e, .Name n p1] [] pos) (den X.K (eIsI [T] m)) := PE.of h0 fun σ H Q h => isi1_core h
theorem sd_isiT {ts : List Ty} {ns : List Expr} {x1 : Nat} (hl : ts.length ≤ 100 := by decide) (h0 : PE X (.Call (.Name "isinstance" p) [e, .Tuple ns x1 p1] [] pos) (tCB (rIsiT X.K) (tCons (den X.K m) (tCons (tTup (tTys ts)) tNil)))) :
    PE X (.Call (.Name "isinstance" p) [e, .Tuple ns x1 p1] [] pos) (den X.K (eIsI ts m)) := PE.of h0 fun σ H Q h => isiT_core hl h
end
end Py

namespace Py
open PySem L2 PySem.Spec PyProof.Rows

/-! ## dict(t), t a tuple of pairs -/
theorem tuple_keys_none : typeLookup (.type "tuple") "keys" = pure none := am_miss_of_fast (by first | decide +kernel | rfl)
section
variable {prog : Program} {w : World} {A : Around} {E : Value → Shared → Prop}
/-- a tuple has none of that name -/
theorem miss_tup {s : Shared} {a : Addr} {o : Obj} {xs : Array Value} {k : Nat} {Q : Option Value → Shared → Prop} (hx : s.heap.get? a = some o) (hc : o.cls = .type "tuple") (hdat : o.data = .seq xs k) (hd : o.dict = none) (hA : A.handled = none)
    (h : ∀ h' tk, (∀ b ob, s.heap.get? b = some ob → h'.get? b = some ob) → Q none { s with heap := h', toks := tk }) : wpAny (model prog w) A (getAttr? (.ref a) "keys") Q E s := by
  obtain ⟨c, dct, dat, sl⟩ := o
  simp only at hc hdat hd
  subst hc; subst hdat; subst hd
  obtain ⟨hp, gs, dd, tk, os⟩ := s
  have hT : ∀ t0, (⟨hp, gs, dd, t0, os⟩ : Shared).TypeIs (.ref a) "tuple" := fun _ => ⟨_, hx, rfl⟩
  have q1 := tuple_keys_none
  have q2 : (["__module__", "__name__", "__qualname__", "__doc__", "__annotations__"] : List Str).contains "keys" = false := by decide +kernel
  have q3 : ("keys" : Str).length + 100 ≤ sizeLine := by first | size_fits | decide +kernel
  have f1 := sub_AttributeError
  have f3 := PySem.F.slot_tuple_getattribute.lookup
  have f4 := PySem.F.slot_tuple_getattribute.bind (.ref a)
  have f5 := am_tuple_getattr_none
  unfold getAttr? getAttrBy? getAttrBy
  repeat (any_goals (first | assumption | exact hT _ | ((with_reducible show wpAny _ _ (call (Value.builtin "tuple.__getattribute__") _ _) _ _ _); refine call_meets PySem.F.slot_tuple_getattribute (hT _) am_entry_tuple_getattribute (PySem.F.args_tuple_getattribute_2 _ _) (meets_getattribute_miss_tuple a xs k sl "keys" _ q1 q2 q3) ⟨hx, hA, fun hN tN eN xN => ?_⟩) | wp_step))
  obtain ⟨z1, z2, z3⟩ := xN.there
  show wpAny _ _ (getattributeRaised _ _ _ _ _ _ _) _ _ _
  unfold getattributeRaised
  repeat (any_goals (first | assumption | wp_step))
  all_goals first | exact h _ _ xN.keeps | (dsimp only; repeat (any_goals (first | assumption | exact h _ _ xN.keeps | wp_step)))
/-- the walk over a tuple's pairs -/
theorem upd_tup {R : Result → Shared → Prop} {S I l : Addr} {items : Array Value} {res : Value} (hh : A.handled = none) (hlI : l ≠ I) (hSI : S ≠ I) (hSl : S ≠ l) :
    ∀ (rest : List (Key × Value)) (i : Nat) (acc : List (Key × Value)) (ix : Int) (t : Tok) (s : Shared), items.size = i + rest.length → acc.length + rest.length ≤ sizeLine →
      (∀ (j : Nat) (q : Key × Value), rest[j]? = some q → ∃ (b : Addr) (u : Value), items[i + j]? = some (.ref b) ∧ b ≠ S ∧ b ≠ I ∧ IsTup s.heap b #[u, q.2] ∧ keyIs q.1 u = true) →
      s.heap.IsTupleIter I l i → s.heap.IsTuple l items → s.heap.DictOf (mixKind prog w) S acc →
      (∀ h' tk, h'.DictOf (mixKind prog w) S (merged acc rest) → (∀ b o, b ≠ S → b ≠ I → s.heap.get? b = some o → h'.get? b = some o) → R (.ok (.ret res)) { s with heap := h', toks := tk }) →
      codeAny (model prog w) A (.builtin "dict.update.loop" ⟨[.ref S, .ref I, .int ix t, res], []⟩) R s
  | [], i, acc, ix, t, s, n1, n2, ht, hit, hl, hm, hR => by
    refine codeAny_builtin ud_entry ?_
    rw [Around.under_plainId ud_plain _]
    show wpAny _ A.in1 (pyNext (.ref I) >>= _) _ _ s
    refine wpAny_bind (wpAny_pyNext_tuple_end (A := A.in1) hh hit hl (by simp at n1; simp; omega) fun h' he => ?_)
    show wpAny _ A.in1 (Builtin.Dict.addKeywords S [] >>= _) _ _ _
    refine wpAny_bind (wpAny_pure (wpAny_pure ?_))
    exact hR h' s.toks (hm.extBut he hSI) fun b o _ hb e => he b o hb e
  | q :: rest, i, acc, ix, t, s, n1, n2, ht, hit, hl, hm, hR => by
    obtain ⟨b, u, b1, b2, b3, b4, b5⟩ := ht 0 q rfl
    rw [List.length_cons] at n1 n2
    refine codeAny_builtin ud_entry ?_
    rw [Around.under_plainId ud_plain _]
    show wpAny _ A.in1 (pyNext (.ref I) >>= _) _ _ s
    refine wpAny_bind (wpAny_pyNext_tuple_item (x := .ref b) hit hl (by simpa using b1) fun h1 hit1 hs1 => ?_)
    have t1 : IsTup h1 b #[u, q.2] := b4.extBut hs1.extBut b3
    have l1 : h1.IsTuple l items := hl.extBut hs1.extBut hlI
    have m1 : h1.DictOf (mixKind prog w) S acc := hm.extBut hs1.extBut hSI
    obtain ⟨o, o1, o2, n, o3⟩ := id t1
    show wpAny _ A.in1 (holding [Value.ref b] _ >>= _) _ _ _
    refine wpAny_bind (wpAny_holding (wpAny_bind (wpAny_tryCatch ?_)))
    unfold Builtin.Dict.pairItems
    refine wpAny_bind (wpAny_typeOf (T := "tuple") ⟨o, o1, o2⟩ ?_)
    rw [if_pos (by first | decide | rfl | simp)]
    refine wpAny_bind (wpAny_seqItems o1 o3 (wpAny_pure ?_))
    show wpAny _ A.in1 (holding [u, q.2] (dictSet S u q.2)) _ _ _
    refine wpAny_holding (wpAny_dictSet_pairs (knd := mixKind prog w) (k := q.1) b5 m1 (fun h2 hm2 hs2 => ?_) (by omega))
    refine wpAny_pure ⟨plainId_quiet ud_plain _, upd_tup (items := items) hh hlI hSI hSl rest (i + 1) (stored acc q.1 q.2) (ix + 1) 0 _ (show items.size = i + 1 + rest.length by omega) ?_ (fun j q' e => ?_) ?_ ?_ hm2 fun h' tk hd' k => ?_⟩
    · have := stored_length_le acc q.1 q.2; omega
    · obtain ⟨c, v, c1, c2, c3, c4, c5⟩ := ht (j + 1) q' (by simpa using e)
      exact ⟨c, v, by rw [show i + 1 + j = i + (j + 1) by omega]; exact c1, c2, c3, (c4.extBut hs1.extBut c3).extBut hs2.extBut c2, c5⟩
    · exact hit1.at fun o' e => hs2.extBut I o' (Ne.symm hSI) e
    · exact l1.extBut hs2.extBut (Ne.symm hSl)
    · exact hR h' tk hd' fun c oc h3 h4 e => k c oc h3 h4 (hs2.extBut c oc h3 (hs1.extBut c oc h4 e))
/-- dict(t) of a tuple of pairs -/
theorem call_dict_tup {s : Shared} {l : Addr} {ol : Obj} {items : Array Value} {n : Nat} {prs : List (Key × Value)} {Q : Value → Shared → Prop} (hh : A.handled = none) (hl : s.heap.get? l = some ol) (hc : ol.cls = .type "tuple") (hd : ol.dict = none)
    (hdat : ol.data = .seq items n) (n1 : items.size = prs.length) (n2 : prs.length ≤ sizeLine)
    (ht : ∀ (j : Nat) (q : Key × Value), prs[j]? = some q → ∃ (b : Addr) (u : Value), items[j]? = some (.ref b) ∧ IsTup s.heap b #[u, q.2] ∧ keyIs q.1 u = true)
    (h : ∀ h' tk, h'.DictOf (mixKind prog w) s.heap.objs.size (merged [] prs) → (∀ b o, s.heap.get? b = some o → h'.get? b = some o) → Q (.ref s.heap.objs.size) { s with heap := h', toks := tk }) :
    wpAny (model prog w) A (call (.type "dict") [.ref l]) Q E s := by
  refine callType_codes (Q₁ := fun obj s₁ => obj = .ref s.heap.objs.size ∧ s₁ = { s with heap := s.heap.push { cls := .type "dict", data := .dict #[] } }) PySem.F.kt_called_dict (PySem.F.kt_typeCall_dict_1 _) PySem.F.entry_dict_init (kt_code_dict_new _ ⟨rfl, rfl⟩) ?_
  rintro obj s₁ ⟨rfl, rfl⟩
  have m0 : (s.heap.push { cls := .type "dict", data := .dict #[] }).DictOf (mixKind prog w) s.heap.objs.size [] := Heap.DictOf.new s.heap
  have k0 : ∀ b o, s.heap.get? b = some o → (s.heap.push { cls := .type "dict", data := .dict #[] }).get? b = some o := fun b o e => Heap.get?_push_of_some _ e
  refine ⟨m0.typeIs, PySem.F.args_dict_init_2 _ _, ?_⟩
  unfold Builtin.«dict.__init__»
  refine wpAny_bind ?_
  unfold Builtin.Dict.selfAndRest
  refine wpAny_bind (wpAny_notOrdered_dict m0.typeIs ?_)
  show wpAny _ _ (pure (s.heap.objs.size, [Value.ref l])) _ _ _
  refine wpAny_pure ?_
  show wpAny _ _ (Builtin.Dict.updateFrom "dict.__init__" s.heap.objs.size (.ref l) [] .none) _ _ _
  unfold Builtin.Dict.updateFrom
  refine wpAny_bind (wpAny_typeOf (T := "tuple") ⟨ol, k0 _ _ hl, hc⟩ ?_)
  rw [if_pos (by first | decide | rfl | simp)]
  refine wpAny_bind (miss_tup (k0 _ _ hl) hc hdat hd hh fun h1 tk1 hk1 => ?_)
  rw [if_pos (show (none : Option Value).isNone = true from rfl)]
  refine wpAny_bind (wpAny_rule ?_)
  have l1 : h1.IsTuple l items := ⟨ol, hk1 _ _ (k0 _ _ hl), hc, n, hdat⟩
  have z1 : s.heap.objs.size < h1.objs.size := by
    have e : (s.heap.push { cls := .type "dict", data := .dict #[] }).get? s.heap.objs.size = some { cls := .type "dict", data := .dict #[] } := Heap.get?_push_size _ rfl
    exact Heap.lt_size (hk1 _ _ e)
  refine wpAny_bind (wpAny_pyIter_tuple l1 ?_)
  have k2 : ∀ b o, h1.get? b = some o → (h1.push { cls := .type "tuple_iterator", data := .fields #[.ref l, .int 0 0] }).get? b = some o := fun b o e => Heap.get?_push_of_some _ e
  have lt0 : l < s.heap.objs.size := Heap.lt_size hl
  have key := upd_tup (prog := prog) (w := w) (A := A.in1) (R := wants (fun r s₂ => r = .none ∧ Q (.ref s.heap.objs.size) s₂) E) (S := s.heap.objs.size) (I := h1.objs.size) (l := l) (items := items) (res := Value.none) hh
    (Nat.ne_of_lt (Nat.lt_trans lt0 z1)) (Nat.ne_of_lt z1) (Nat.ne_of_gt lt0) prs 0 [] 0 0
    { s with heap := h1.push { cls := .type "tuple_iterator", data := .fields #[.ref l, .int 0 0] }, toks := tk1 } (by rw [n1, Nat.zero_add]) (by rw [List.length_nil, Nat.zero_add]; exact n2)
    (fun j q e => by
      obtain ⟨b, u, e1, e2, e3⟩ := ht j q e
      have hb : b < s.heap.objs.size := e2.lt
      exact ⟨b, u, by rw [Nat.zero_add]; exact e1, Nat.ne_of_lt hb, Nat.ne_of_lt (Nat.lt_trans hb z1), e2.keeps fun c o z => k2 _ _ (hk1 _ _ (k0 _ _ z)), e3⟩)
    ⟨_, Heap.get?_push_size _ rfl, rfl, rfl⟩ (l1.at fun o e => k2 _ _ e) ((m0.at fun o e => hk1 _ _ e).at fun o e => k2 _ _ e)
    (fun h' tk hd' k => ⟨rfl, h h' tk hd' fun b o e => k b o (Nat.ne_of_lt (Heap.lt_size e)) (Nat.ne_of_lt (Nat.lt_trans (Heap.lt_size e) z1)) (k2 _ _ (hk1 _ _ (k0 _ _ e)))⟩)
  first
    | exact wpAny_pure ⟨plainId_quiet ud_plain _, key⟩
    | exact wpAny_bind (wpAny_pure (wpAny_pure ⟨plainId_quiet ud_plain _, key⟩))
end
section
variable {X : Cx}
def rDictT (K : PySem.W.Frag) : List V → Hp → VK → Prop := fun xs H Q => ∃ (a : Addr) (o : Obj) (ps : List Addr) (kvs : List (Key × V)), xs = [.ref a] ∧ H a = some (.frz o (.tup (ps.map V.ref))) ∧ o.dict = none ∧ Paired (fun p kv => SqT K H p [kV kv.1, kv.2]) ps kvs ∧
    ∀ p, H p = none → Q (.ref p) (L2.upd H p (.dK (mergeK [] kvs)))
theorem cr_dictT (hcalm : X.calm = true) : CallR X (.type "dict") (rDictT X.K) := by
  intro pins s σ H xs us Q I r q
  obtain ⟨a, o, ps, kvs, rfl, ha, hd, hp, q⟩ := q
  obtain ⟨u, rfl, rx⟩ := vals1 r
  cases rx
  obtain ⟨ho, hz, its, rv, o', ho', hc, n, hdat⟩ := (show ObjOk X.prog X.w H s.heap a (.frz o (.tup (ps.map V.ref))) from I.hok a _ ha)
  rw [ho] at ho'; cases ho'
  have ei := refs_at rv
  subst ei
  rw [List.length_map] at hz
  obtain ⟨prs, rel, hl, hpr⟩ := pairs_of I hp
  refine call_dict_tup (prs := prs) (I.ok.hd hcalm) ho hc hd hdat (by simp [hl]) (by rw [hl]; exact hz) (fun j q' e => ?_) fun h' tk hd' k => ?_
  · obtain ⟨b, u, e1, e2, e3⟩ := hpr j q' e
    exact ⟨b, u, by simp [e1], e2, e3⟩
  · have hm : (s.heap.objs.size == sysModules) = false := beq_eq_false_iff_ne.mpr (Nat.ne_of_gt I.big)
    have z : (mergeK [] kvs).length ≤ sizeLine := by
      have := length_mergeK kvs []
      have e := rel.length
      simp only [List.length_nil, Nat.zero_add] at this
      omega
    exact ⟨.ref s.heap.objs.size, L2.upd H s.heap.objs.size (.dK (mergeK [] kvs)), I.laid (t' := tk) k (Nat.le_refl _) (show ObjOk X.prog X.w _ _ _ (.dK (mergeK [] kvs)) from ⟨z, hm, merged [] prs, KV.merge rel .nil, hd'⟩), rfl, q _ (I.hok.fresh (Nat.le_refl _))⟩
end
/-- the pairs put into a dict, one behind another -/
def dictGo : List W → List W → List W → Option (List W × List W)
  | ks, vs, [] => some (ks, vs)
  | ks, vs, p :: ps => match p with
    | .tup _ [k, v] => if isKey k then dictGo (putD ks vs k v).1 (putD ks vs k v).2 ps else none
    | _ => none
theorem dictGo_rv {K mu H} : ∀ {ps ks ws ks' ws' : List W} {us : List V} {acc : List (Key × V)}, RVs K mu H ps us → RVs K mu H ks (acc.map fun p => kV p.1) → RVs K mu H ws (acc.map (·.2)) → dictGo ks ws ps = some (ks', ws') →
    ∃ (as : List Addr) (kvs : List (Key × V)), us = as.map V.ref ∧ Paired (fun p kv => SqT K H p [kV kv.1, kv.2]) as kvs ∧ RVs K mu H ks' ((mergeK acc kvs).map fun p => kV p.1) ∧ RVs K mu H ws' ((mergeK acc kvs).map (·.2))
  | [], ks, ws, ks', ws', _, acc, .nil, r1, r2, e => by
    cases e
    exact ⟨[], [], rfl, .nil, r1, r2⟩
  | p :: ps, ks, ws, ks', ws', _, acc, .cons (v := u) (vs := us) rp rps, r1, r2, e => by
    unfold dictGo at e
    split at e
    · rename_i kk k v
      split at e
      · rename_i hk
        have key : ∃ (a : Addr) (x y : V), u = .ref a ∧ SqT K H a [x, y] ∧ RV K mu H k x ∧ RV K mu H v y := by
          cases rp with
          | tup h n r => cases r with | cons a b => cases b with | cons c d => cases d; exact ⟨_, _, _, rfl, .inl (.inl h), a, c⟩
          | tupK h d n r => cases r with | cons a b => cases b with | cons c d => cases d; exact ⟨_, _, _, rfl, .inl (.inr ⟨_, h⟩), a, c⟩
          | ktup h1 h2 h3 h4 h5 r => cases r with | cons a b => cases b with | cons c d => cases d; exact ⟨_, _, _, rfl, .inr ⟨_, _, _, h1, h2, h3, h4, h5⟩, a, c⟩
        obtain ⟨a, x, y, rfl, hs, rk, rv⟩ := key
        have rd0 : RD K mu H k x := by
          cases rk with
          | int i => exact .int i
          | str l h => exact .str l h
          | _ => cases hk
        obtain ⟨q, rfl, hq⟩ := key_of hk rd0
        have hput : RVs K mu H (putD ks ws k v).1 ((putK acc q y).map fun p => kV p.1) ∧ RVs K mu H (putD ks ws k v).2 ((putK acc q y).map (·.2)) := by
          have hh := (look_val hq r1 r2).2
          have any_eq : (acc.any fun kv => decide (kv.1 = q)) = (valV acc q).isSome := by
            unfold valV
            rw [Option.isSome_map, Bool.eq_iff_iff, List.find?_isSome, List.any_eq_true]
          unfold putD putK
          rw [any_eq, ← hh]
          by_cases z : has ks k = true
          · rw [z, if_pos rfl, if_pos rfl]
            exact ⟨by rw [put_keys]; exact r1, RVs.put hq rv r1 r2⟩
          · rw [if_neg z, if_neg z]
            exact ⟨by rw [List.map_append]; exact r1.append (.cons rk .nil), by rw [List.map_append]; exact r2.append (.cons rv .nil)⟩
        obtain ⟨as, kvs, e1, e2, e3, e4⟩ := dictGo_rv rps hput.1 hput.2 e
        subst e1
        exact ⟨a :: as, (q, y) :: kvs, rfl, .cons hs e2, e3, e4⟩
      · cases e
    · cases e
def dictPairs : W → Option (List W)
  | .tup true ps => some ps
  | .lst ps => some ps
  | _ => none
/-- a new dict with these keys, values -/
def dBi (m : Ev) : Sl → MH → R (List W × List W) := fun r M => (m r M).bind fun x M1 => match dictPairs (rd M1 x) with
  | some ps => R.ofO (dictGo [] [] ps) M1
  | none => .bad
def denD (K : PySem.W.Frag) (m : Sl → MH → R (List W × List W)) : TE := fun σ H Q => ∃ mu M r, Good K mu M H ∧ RS K mu H r σ ∧
  Post K mu H (fun d _ mu' H' => ∀ kvs p, RVs K mu' H' d.1 (kvs.map fun (q : Key × V) => kV q.1) → RVs K mu' H' d.2 (kvs.map (·.2)) → H' p = none → Q (.ref p) (L2.upd H' p (.dK kvs))) (m r M)
/-- a new dict as a value; as a cell -/
def eD (m : Sl → MH → R (List W × List W)) : Ev := fun r M => (m r M).bind fun d M1 => .ok (.dct d.1 d.2) M1
def eDB (m : Sl → MH → R (List W × List W)) : Ev := fun r M => (m r M).bind fun d M1 => if noRefs d.1 && noRefs d.2 then .ok (.ref M1.length) (M1 ++ [.dct d.1 d.2]) else .bad
def dNil : Sl → MH → R (List W × List W) := fun _ M => .ok ([], []) M
theorem Good.pushD {K mu M H p ks ws kvs} (g : Good K mu M H) (h : H p = none) (r : RVs K mu H ks (kvs.map fun (q : Key × V) => kV q.1)) (r2 : RVs K mu H ws (kvs.map (·.2))) (n1 : noRefs ks = true) (n2 : noRefs ws = true) : Good K (mu.push p) (M ++ [.dct ks ws]) (L2.upd H p (.dK kvs)) where
  len := by simp [Mu.push, g.len]
  rsvd' := fun a ha => by rw [(Ext.push g h).held a ha]; exact g.rsvd' a ha
  disj := fun a ha hm => by
    rcases List.mem_append.mp hm with q | q
    · exact g.disj a ha q
    · simp at q; subst q; exact g.rsvd a ha h
  inj := fun i j a hi hj => by
    have pos : ∀ k : Nat, (mu.cells ++ [some p])[k]? = some (some a) → (k < mu.cells.length ∧ mu.cells[k]? = some (some a)) ∨ (k = mu.cells.length ∧ a = p) := fun k e => by
      by_cases hk : k < mu.cells.length
      · rw [List.getElem?_append_left hk] at e; exact .inl ⟨hk, e⟩
      · rw [List.getElem?_append_right (Nat.le_of_not_lt hk)] at e
        cases q : k - mu.cells.length with
        | zero => rw [q] at e; simp at e; exact .inr ⟨by omega, e.symm⟩
        | succ j => rw [q] at e; simp at e
    rcases pos i hi with ⟨_, a1⟩ | ⟨a1, a2⟩ <;> rcases pos j hj with ⟨_, b1⟩ | ⟨b1, b2⟩
    · exact g.inj i j a a1 b1
    · subst b2; exact absurd (List.mem_iff_getElem?.mpr ⟨i, a1⟩) (g.fresh h).1
    · subst a2; exact absurd (List.mem_iff_getElem?.mpr ⟨j, b1⟩) (g.fresh h).1
    · omega
  cell := fun n c e => by
    have x : Ext mu H (mu.push p) (L2.upd H p (.dK kvs)) := Ext.push g h
    by_cases hn : n < M.length
    · rw [List.getElem?_append_left hn] at e
      have hn' : n < mu.cells.length := by rw [g.len]; exact hn
      have hc := g.cell n c e
      have ap : (mu.push p).cells[n]? = mu.cells[n]? := List.getElem?_append_left hn'
      cases c with
      | lst ys => obtain ⟨a, us, h1, h2, h3, h4⟩ := hc; exact ⟨a, us, by rw [ap]; exact h1, by rw [upd_ne (ne_of_none h2 h)]; exact h2, h3.ext x, h4⟩
      | dct ks ws => obtain ⟨a, us, h1, h2, h3, h4, h5⟩ := hc; exact ⟨a, us, by rw [ap]; exact h1, by rw [upd_ne (ne_of_none h2 h)]; exact h2, h3.ext x, h4.ext x, h5⟩
      | dead => show (mu.push p).cells[n]? = some none; rw [ap]; exact hc
    · rw [List.getElem?_append_right (Nat.le_of_not_lt hn)] at e
      cases q : n - M.length with
      | zero =>
        rw [q] at e; simp at e; subst e
        refine ⟨p, kvs, ?_, upd_same, r.ext x, r2.ext x, n1, n2⟩
        have : n = mu.cells.length := by rw [g.len]; omega
        subst this; simp [Mu.push]
      | succ j => rw [q] at e; simp at e
section
variable {X : Cx} {e : Expr} {m : Ev} {md : Sl → MH → R (List W × List W)} {p pos : Pos}
theorem sd_D (h : PE X e (denD X.K md)) : PE X e (den X.K (eD md)) := by
  refine PE.of h fun σ H Q ⟨mu, M, r, g, s, h⟩ => ?_
  refine ⟨mu, M, r, g, s, (Post.bind h).imp fun d M1 mu1 H1 e1 g1 h1 kvs q r1 r2 hq => ?_⟩
  exact h1 _ _ (Ext.upd g1 hq) (g1.upd hq) _ (.dct upd_same (g1.fresh hq) (r1.ext (Ext.upd g1 hq)) (r2.ext (Ext.upd g1 hq)))
theorem sd_DB (h : PE X e (denD X.K md)) : PE X e (den X.K (eDB md)) := by
  refine PE.of h fun σ H Q ⟨mu, M, r, g, s, h⟩ => ?_
  refine ⟨mu, M, r, g, s, (Post.bind h).imp fun d M1 mu1 H1 e1 g1 h1 kvs q r1 r2 hq => ?_⟩
  split at h1
  · rename_i hn
    rw [Bool.and_eq_true] at hn
    exact h1 _ _ (Ext.push g1 hq) (g1.pushD hq r1 r2 hn.1 hn.2) _ (.ref (.inl (by rw [← g1.len]; simp [Mu.push])))
  · exact False.elim h1
theorem sD_nil : PE X (.Dict [] [] pos) (denD X.K dNil) := PE.of pe_dnewK fun σ H Q ⟨mu, M, r, g, s, h⟩ => fun d hd => h mu H Ext.refl g [] d .nil .nil hd
theorem sD_dict (hcalm : X.calm = true) (h0 : PE X (.Call (.Name "dict" p) [e] [] pos) (tCB (fun xs H Q => rDictT X.K xs H Q ∨ ∃ (a : Addr) (ps : List Addr) (kvs : List (Key × V)), xs = [.ref a] ∧ SqL X.K H a (ps.map V.ref) ∧ Paired (fun p kv => SqT X.K H p [kV kv.1, kv.2]) ps kvs ∧
    ∀ p, H p = none → Q (.ref p) (L2.upd H p (.dK (mergeK [] kvs)))) (tCons (den X.K m) tNil))) : PE X (.Call (.Name "dict" p) [e] [] pos) (denD X.K (dBi m)) := by
  refine PE.of h0 fun σ H Q ⟨mu, M, r, g, s, h⟩ => ?_
  refine ⟨mu, M, r, g, s, (Post.bind h).imp fun x M1 mu1 H1 e1 g1 h1 v rv => ?_⟩
  have rr := rv.rd g1
  generalize rd M1 x = y at rr h1
  cases q : dictPairs y with
  | none => simp only [q] at h1; exact False.elim h1
  | some ps =>
    simp only [q] at h1
    cases q2 : dictGo [] [] ps with
    | none => rw [q2] at h1; exact False.elim h1
    | some d =>
      rw [q2] at h1
      obtain ⟨ks', ws'⟩ := d
      cases rr with
      | @tup kk ws vs a h r =>
        cases kk with
        | false => cases q
        | true =>
          cases q
          obtain ⟨as, kvs, rfl, e2, e3, e4⟩ := dictGo_rv (acc := []) r .nil .nil q2
          rcases h with ⟨o, h, hd⟩ | ⟨z, _⟩
          · exact .inl ⟨_, o, as, kvs, rfl, h, hd, e2, fun p hp => h1 mu1 H1 Ext.refl g1 _ p e3 e4 hp⟩
          · cases z
      | lst h r =>
        cases q
        obtain ⟨as, kvs, rfl, e2, e3, e4⟩ := dictGo_rv (acc := []) r .nil .nil q2
        exact .inr ⟨_, as, kvs, rfl, .inl (.inl h), e2, fun p hp => h1 mu1 H1 Ext.refl g1 _ p e3 e4 hp⟩
      | _ => cases q
end
end Py

namespace Py
open PySem L2 PySem.Spec
open PyProof.Rows hiding St lexLt

/-! ## sorted -/
abbrev At := Int ⊕ List Nat
abbrev ltA (a b : List At) : Bool := PyProof.Rows.lexLt itemOrd a b
theorem swo_ltA {α : Type} (k : α → List At) : SrtO.Swo fun x y => ltA (k x) (k y) := by
  refine ⟨fun x y h => ?_, fun x y z h1 h2 => ?_⟩
  · cases q : ltA (k y) (k x) with
    | false => rfl
    | true => have := lex_trans (O := itemOrd) _ _ _ h q; rw [lex_irrefl] at this; cases this
  · cases q : ltA (k z) (k x) with
    | false => rfl
    | true =>
      rcases lex_negTrans (O := itemOrd) _ (k y) _ q with e | e
      · exact absurd (h2.symm.trans e) (by decide)
      · exact absurd (h1.symm.trans e) (by decide)
/-- two rows of values compared: equal data up to a place, then ints or texts -/
inductive LexV (K : PySem.W.Frag) (H : Hp) : List V → List V → Bool → Prop
  | nn : LexV K H [] [] false
  | nc {y ys} : LexV K H [] (y :: ys) true
  | cn {x xs} : LexV K H (x :: xs) [] false
  | eq {x y xs ys r d e} : Dp K H x d → Dp K H y e → SeqAt.shaped d = true → SeqAt.shaped e = true → PyData.eqv d e = true → LexV K H xs ys r → LexV K H (x :: xs) (y :: ys) r
  | int {i j xs ys} : i ≠ j → LexV K H (.int i :: xs) (.int j :: ys) (decide (i < j))
  | str {a b : Str} {xs ys} : a ≠ b → LexV K H (.str a :: xs) (.str b :: ys) (decide (a.cps.toList < b.cps.toList))
theorem katlex_of {X : Cx} {pins : List (Addr × Obj)} {σ : St} {H : Hp} {s : Shared} {h' : Heap} {A : Around} {b : Bool} (I : Inv X pins σ H s) (kk : ∀ c o, s.heap.get? c = some o → h'.get? c = some o) (hu : A.units + 64 < cLine) {s' : Shared} (hs : s'.heap = h') :
    ∀ {xs ys : List V} {r : Bool} {ps qs : List Value} (i : Nat), LexV X.K H xs ys r → Vals xs ps → Vals ys qs →
      PySem.W.KatLex X.prog X.w A b (decide (ps.length < qs.length)) (fun c s'' => s'' = s' ∧ c = r) (ps.zip qs) i s'
  | _, _, _, _, _, i, .nn, .nil, .nil => PySem.W.kat_nil ⟨rfl, rfl⟩
  | _, _, _, _, _, i, .nc, .nil, .cons _ _ => PySem.W.kat_nil ⟨rfl, by simp⟩
  | _, _, _, _, _, i, .cn, .cons _ _, .nil => PySem.W.kat_nil ⟨rfl, by simp⟩
  | _, _, _, _, _, i, .eq d1 d2 s1 s2 e l, .cons (b := u) r1 r2, .cons (b := v) q1 q2 => by
    obtain ⟨as, ra⟩ := Dp.reads I _ _ _ d1 r1
    obtain ⟨bs, rb⟩ := Dp.reads I _ _ _ d2 q1
    subst hs
    refine PySem.W.kat_cons (SeqAt.eqBoolOverData _ _ _ _ _ _ _ _ _ as bs _ (Reads.keeps kk ra) (Reads.keeps kk rb) (SeqAt.canLay_of_shaped s1) (SeqAt.canLay_of_shaped s2) (SeqAt.room_of_shaped s1 hu) ?_)
    rw [e]
    refine PySem.W.kat_yes ?_
    have := katlex_of (b := b) I kk hu rfl (i + 1) l r2 q2
    rw [List.length_cons, List.length_cons]
    simp only [Nat.add_lt_add_iff_right]
    exact this
  | _, _, _, _, _, i, .int (i := x) (j := y) ne, .cons r1 r2, .cons q1 q2 => by
    obtain ⟨t, rfl⟩ := r1
    obtain ⟨u, rfl⟩ := q1
    refine PySem.W.kat_cons (SeqAt.EqAt.int_int x t y u _ _ _ _ ?_)
    rw [beq_eq_false_iff_ne.mpr ne]
    exact PySem.W.kat_no (oneLt_any_int ⟨rfl, rfl⟩)
  | _, _, _, _, _, i, .str (a := x) (b := y) ne, .cons r1 r2, .cons q1 q2 => by
    obtain ⟨t, rfl⟩ := r1
    obtain ⟨u, rfl⟩ := q1
    refine PySem.W.kat_cons (SeqAt.EqAt.str_str x t y u _ _ _ _ ?_)
    rw [beq_eq_false_iff_ne.mpr ne]
    exact PySem.W.kat_no (oneLt_any_str ⟨rfl, rfl⟩)
/-- a list that can be sorted by a key -/
def SortOk (K : PySem.W.Frag) (H : Hp) (key : V → List At) (us : List V) : Prop :=
  us.length < 2 ∨ (∃ ns : List Int, us = ns.map V.int ∧ ∀ n, key (.int n) = [.inl n]) ∨ (∃ ss : List Str, us = ss.map V.str ∧ ∀ x, key (.str x) = [.inr x.cps.toList]) ∨
    ((∀ x ∈ us, ∃ a f r, x = .ref a ∧ SqT K H a (.str f :: r)) ∧ ∀ x y, x ∈ us → y ∈ us → ∃ a b xs ys, x = .ref a ∧ y = .ref b ∧ SqT K H a xs ∧ SqT K H b ys ∧ LexV K H xs ys (ltA (key x) (key y)))
def rSortW (K : PySem.W.Frag) : List V → Hp → VK → Prop := fun vs H Q => ∃ (a : Addr) (us : List V) (key : V → List At), vs = [V.ref a] ∧ SqL K H a us ∧ SortOk K H key us ∧
  ∀ out p, SrtO.Srtd (fun x y => ltA (key x) (key y)) out → SrtO.Stb (fun x y => ltA (key x) (key y)) out us → H p = none → Q (.ref p) (L2.upd H p (.lst out))
def gV (u : Value) : V := (absV u).getD .non
theorem gV_of {v : V} {u : Value} (r : RelV v u) : gV u = v := by unfold gV; rw [r.abs]; rfl
theorem vals_g : ∀ {vs : List V} {us : List Value}, Vals vs us → us.map gV = vs
  | _, _, .nil => rfl
  | _, _, .cons r t => by rw [List.map_cons, gV_of r, vals_g t]
theorem vals_mem : ∀ {vs : List V} {us : List Value} {u : Value}, Vals vs us → u ∈ us → ∃ v ∈ vs, RelV v u
  | _, _, _, .cons (a := v) r t, h => by
    rcases List.mem_cons.mp h with e | e
    · subst e; exact ⟨v, by simp, r⟩
    · obtain ⟨v', h1, h2⟩ := vals_mem t e
      exact ⟨v', by simp [h1], h2⟩
theorem vals_out {vs : List V} {us : List Value} (r : Vals vs us) : ∀ {out : List Value}, (∀ u ∈ out, u ∈ us) → Vals (out.map gV) out
  | [], _ => .nil
  | u :: out, h => by
    obtain ⟨v, _, rv⟩ := vals_mem r (h u (by simp))
    rw [List.map_cons, gV_of rv]
    exact .cons rv (vals_out r fun w hw => h w (by simp [hw]))
theorem kind_ints : ∀ {its : List Value} {ns : List Int}, IntsAre its ns → 2 ≤ its.length → keyKind' its.toArray = pure oneType'
  | _, _, .nil, h => absurd h (by simp)
  | _, _, .cons _ _ .nil, h => absurd h (by simp)
  | _, _, .cons a b (.cons c d e), _ => keyKind_ints (.cons a b (.cons c d e))
theorem kind_strs : ∀ {its : List Value} {ns : List Str}, StrsAre its ns → 2 ≤ its.length → keyKind' its.toArray = pure oneType'
  | _, _, .nil, h => absurd h (by simp)
  | _, _, .cons _ _ .nil, h => absurd h (by simp)
  | _, _, .cons a b (.cons c d e), _ => keyKind_strs (.cons a b (.cons c d e))
theorem strsAre_of {ss : List Str} : ∀ {us : List Value}, Vals (ss.map V.str) us → StrsAre us ss := by
  induction ss with
  | nil => intro us r; cases r; exact .nil
  | cons n ns ih =>
    intro us r
    cases r with
    | cons r1 r2 =>
      obtain ⟨t, e⟩ := r1
      subst e
      exact .cons n t (ih r2)
theorem lt1 {a b : At} : ltA [a] [b] = itemLt a b := by
  show (itemLt a b || (!itemLt b a && false)) = itemLt a b
  simp
section
variable {prog : Program} {w : World} {A : Around} {s : Shared} {key : V → List At}
theorem cmp_ints {its : List Value} {ns : List Int} (rv : Vals (ns.map V.int) its) (hk : ∀ n, key (.int n) = [.inl n]) : SrtO.Cmp prog w A s oneType' (fun p => p.1 ∈ its) (SrtO.lt2 fun x y => ltA (key (gV x)) (key (gV y))) := by
  intro p q hp hq
  obtain ⟨v, hv, r1⟩ := vals_mem rv hp
  obtain ⟨v', hv', r2⟩ := vals_mem rv hq
  obtain ⟨n, _, rfl⟩ := List.mem_map.mp hv
  obtain ⟨n', _, rfl⟩ := List.mem_map.mp hv'
  have g1 := gV_of r1
  have g2 := gV_of r2
  obtain ⟨t, e⟩ := r1
  obtain ⟨t', e'⟩ := r2
  show wpAny _ _ (keyLt' oneType' p.1 q.1) (fun r s' => s' = _ ∧ r = ltA (key (gV p.1)) (key (gV q.1))) _ _
  rw [g1, g2, hk, hk, lt1, e, e']
  exact PySem.W.kat_lt_int ⟨rfl, rfl⟩
theorem cmp_strs {its : List Value} {ns : List Str} (rv : Vals (ns.map V.str) its) (hk : ∀ x, key (.str x) = [.inr x.cps.toList]) : SrtO.Cmp prog w A s oneType' (fun p => p.1 ∈ its) (SrtO.lt2 fun x y => ltA (key (gV x)) (key (gV y))) := by
  intro p q hp hq
  obtain ⟨v, hv, r1⟩ := vals_mem rv hp
  obtain ⟨v', hv', r2⟩ := vals_mem rv hq
  obtain ⟨n, _, rfl⟩ := List.mem_map.mp hv
  obtain ⟨n', _, rfl⟩ := List.mem_map.mp hv'
  have g1 := gV_of r1
  have g2 := gV_of r2
  obtain ⟨t, e⟩ := r1
  obtain ⟨t', e'⟩ := r2
  show wpAny _ _ (keyLt' oneType' p.1 q.1) (fun r s' => s' = _ ∧ r = ltA (key (gV p.1)) (key (gV q.1))) _ _
  rw [g1, g2, hk, hk, lt1, e, e']
  exact PySem.W.kas_lt_str ⟨rfl, rfl⟩
end
section
variable {X : Cx} {pins : List (Addr × Obj)} {σ : L2.St} {H : Hp} {s : Shared} {key : V → List At}
theorem tup_obj {a : Addr} {xs : List V} (I : Inv X pins σ H s) (h : SqT X.K H a xs) : ∃ (o : Obj) (ps : List Value) (n : Nat), s.heap.get? a = some o ∧ o.cls = .type "tuple" ∧ o.data = .seq ps.toArray n ∧ Vals xs ps := by
  obtain ⟨its, r, ⟨o, e, c, n, d⟩, _⟩ := I.tuple h
  exact ⟨o, its, n, e, c, d, r⟩
theorem cmp_tups {A : Around} {its : List Value} {us : List V} {s' : Shared} (I : Inv X pins σ H s) (kk : ∀ c o, s.heap.get? c = some o → s'.heap.get? c = some o) (hu : A.units + 64 < cLine) (rv : Vals us its)
    (ok1 : ∀ x ∈ us, ∃ a f r, x = .ref a ∧ SqT X.K H a (.str f :: r)) (ok2 : ∀ x y, x ∈ us → y ∈ us → ∃ a b xs ys, x = .ref a ∧ y = .ref b ∧ SqT X.K H a xs ∧ SqT X.K H b ys ∧ LexV X.K H xs ys (ltA (key x) (key y))) :
    SrtO.Cmp X.prog X.w A s' (tuples' true) (fun p => p.1 ∈ its) (SrtO.lt2 fun x y => ltA (key (gV x)) (key (gV y))) := by
  intro p q hp hq
  obtain ⟨v, hv, r1⟩ := vals_mem rv hp
  obtain ⟨v', hv', r2⟩ := vals_mem rv hq
  obtain ⟨a, b, xs, ys, rfl, rfl, h1, h2, h3⟩ := ok2 v v' hv hv'
  have g1 := gV_of r1
  have g2 := gV_of r2
  have e : p.1 = Value.ref a := r1
  have e' : q.1 = Value.ref b := r2
  show wpAny _ _ (keyLt' (tuples' true) p.1 q.1) (fun r s' => s' = _ ∧ r = ltA (key (gV p.1)) (key (gV q.1))) _ _
  rw [g1, g2, e, e']
  obtain ⟨o, ps, n, o1, o2, o3, o4⟩ := tup_obj I h1
  obtain ⟨o', ps', n', o1', o2', o3', o4'⟩ := tup_obj I h2
  refine PySem.W.kat_lt (kk _ _ o1) o3 (kk _ _ o1') o3' ?_
  have := katlex_of (b := true) I kk hu (s' := s') rfl 0 h3 o4 o4'
  simpa using this
theorem firsts_tup {s' : Shared} (I : Inv X pins σ H s) (kk : ∀ c o, s.heap.get? c = some o → s'.heap.get? c = some o) : ∀ {us : List V} {its : List Value}, Vals us its → (∀ x ∈ us, ∃ a f r, x = .ref a ∧ SqT X.K H a (.str f :: r)) →
    ∃ fs : List Value, PySem.W.KatTups s'.heap its fs ∧ fs.length = its.length ∧ ∀ f ∈ fs, ∃ x t, f = Value.str x t
  | _, _, .nil, _ => ⟨[], PySem.W.KatTups.nil, rfl, fun _ h => nomatch h⟩
  | _, _, .cons r t, h => by
    obtain ⟨fs, h1, h2, h3⟩ := firsts_tup I kk t fun x hx => h x (List.mem_cons_of_mem _ hx)
    obtain ⟨a, f, rr, rfl, hq⟩ := h _ (List.mem_cons_self)
    obtain ⟨o, ps, n, o1, o2, o3, o4⟩ := tup_obj I hq
    cases o4 with
    | cons q1 q2 =>
      obtain ⟨tk, e⟩ := q1
      have e2 : _ = Value.ref a := r
      subst e; subst e2
      refine ⟨Value.str f tk :: fs, PySem.W.KatTups.cons (kk _ _ o1) o2 o3 (by simp) h1, by simp [h2], fun x hx => ?_⟩
      rcases List.mem_cons.mp hx with e | e
      · exact ⟨f, tk, e⟩
      · exact h3 x e
end
set_option maxHeartbeats 1000000 in
theorem cr_sortW {X : Cx} (hu : X.A.units + 70 < cLine) : CallR X (.builtin "sorted") (rSortW X.K) := by
  intro pins s σ H vs us Q I r h
  obtain ⟨a, ws, key, rfl, hs, ok, q⟩ := h
  obtain ⟨its, rv, hl, hz⟩ := I.list hs
  obtain ⟨u, rfl, ru⟩ := vals1 r
  obtain rfl : u = Value.ref a := ru
  refine SrtO.sorted_ord (swo_ltA fun u => key (gV u)) hl.isList (by rw [← rv.length]; exact hz) (fun h2 h1 b hb kk => ?_) fun out o1 o2 => ?_
  · intro h' keep
    have kp : ∀ c o, s.heap.get? c = some o → h'.get? c = some o := fun c o e => keep c o (kk c o e).1 (kk c o e).2
    rcases ok with ok | ⟨ns, rfl, hk⟩ | ⟨ss, rfl, hk⟩ | ⟨ok1, ok2⟩
    · rw [rv.length] at ok; omega
    · exact ⟨oneType', fun Q' E' hq => by rw [kind_ints (intsAre_of rv) h2]; exact wpAny_pure hq, cmp_ints rv hk⟩
    · exact ⟨oneType', fun Q' E' hq => by rw [kind_strs (strsAre_of rv) h2]; exact wpAny_pure hq, cmp_strs rv hk⟩
    · refine ⟨tuples' true, fun Q' E' hq => ?_, cmp_tups I kp (by simp only [Around.in1_units]; omega) rv ok1 ok2⟩
      obtain ⟨fs, f1, f2, f3⟩ := firsts_tup (s' := { s with heap := h' }) I kp rv ok1
      refine PySem.W.kat_kind (T := .type "str") f1 (by omega) (fun f hm => ?_) (by rfl) ?_
      · obtain ⟨x, t, rfl⟩ := f3 f hm
        exact PySem.W.Looks.now
      · have e : (Value.type "str" != Value.type "tuple") = true := by first | decide +kernel | rfl | decide
        rw [e]
        exact hq
  · have o3 : ∀ u ∈ out, u ∈ its := fun u hu => o2.perm.mem_iff.mp hu
    obtain ⟨n, hn⟩ := sortedAll_at s.heap its out.toArray
    have hb : SrtO.Stb (fun x y => ltA (key x) (key y)) (out.map gV) ws := by
      have := SrtO.Stb.map (swo_ltA key) gV o2
      rw [vals_g rv] at this
      exact this
    refine ⟨.ref (s.heap.objs.size + 1), L2.upd H (s.heap.objs.size + 1) (.lst (out.map gV)), I.laid (t' := s.toks) (fun b o e => sortedAll_old e) (Nat.le_succ _) ⟨?_, out, n, vals_out rv o3, hn⟩, rfl, q _ _ (SrtO.srtd_map o1) hb (I.hok.fresh (Nat.le_succ _))⟩
    rw [hb.len]; exact hz
/-! ### a sort of our own -/
def ins {α : Type} (lt : α → α → Bool) (x : α) : List α → List α
  | [] => [x]
  | y :: ys => if lt y x = true then y :: ins lt x ys else x :: y :: ys
def isort {α : Type} (lt : α → α → Bool) : List α → List α
  | [] => []
  | x :: xs => ins lt x (isort lt xs)
section
variable {α β : Type} {lt : α → α → Bool}
theorem ins_stb (O : SrtO.Swo lt) (x : α) : ∀ l : List α, SrtO.Stb lt (ins lt x l) (x :: l)
  | [] => SrtO.Stb.refl _
  | y :: ys => by
    unfold ins
    split
    · rename_i h
      have h1 : SrtO.Stb lt (y :: ins lt x ys) (y :: x :: ys) := SrtO.Stb.app (SrtO.Stb.refl [y]) (ins_stb O x ys)
      have h2 : SrtO.Stb lt ([y] ++ [x]) ([x] ++ [y]) := SrtO.Stb.swap O fun a ha b hb => by simp at ha hb; subst ha; subst hb; exact h
      exact h1.trans (SrtO.Stb.app h2 (SrtO.Stb.refl ys))
    · exact SrtO.Stb.refl _
theorem ins_srtd (O : SrtO.Swo lt) (x : α) : ∀ l : List α, SrtO.Srtd lt l → SrtO.Srtd lt (ins lt x l)
  | [], _ => List.pairwise_singleton _ _
  | y :: ys, h => by
    obtain ⟨h1, h2⟩ := List.pairwise_cons.mp h
    unfold ins
    split
    · rename_i hy
      refine List.pairwise_cons.mpr ⟨fun z hz => ?_, ins_srtd O x ys h2⟩
      have := (ins_stb O x ys).perm.mem_iff.mp hz
      rcases List.mem_cons.mp this with e | e
      · subst e; exact O.asym _ _ hy
      · exact h1 z e
    · rename_i hy
      have hy : lt y x = false := by cases q : lt y x <;> simp_all
      refine List.pairwise_cons.mpr ⟨fun z hz => ?_, h⟩
      rcases List.mem_cons.mp hz with e | e
      · subst e; exact hy
      · exact O.tr x y z hy (h1 z e)
theorem isort_stb (O : SrtO.Swo lt) : ∀ l : List α, SrtO.Stb lt (isort lt l) l
  | [] => SrtO.Stb.refl _
  | x :: xs => (ins_stb O x _).trans (SrtO.Stb.app (SrtO.Stb.refl [x]) (isort_stb O xs))
theorem isort_srtd (O : SrtO.Swo lt) : ∀ l : List α, SrtO.Srtd lt (isort lt l)
  | [] => List.Pairwise.nil
  | x :: xs => ins_srtd O x _ (isort_srtd O xs)
theorem ins_map {lt' : β → β → Bool} (f : β → α) (h : ∀ x y, lt' x y = lt (f x) (f y)) (x : β) : ∀ l : List β, (ins lt' x l).map f = ins lt (f x) (l.map f)
  | [] => rfl
  | y :: ys => by
    show (if lt' y x = true then y :: ins lt' x ys else x :: y :: ys).map f = if lt (f y) (f x) = true then f y :: ins lt (f x) (ys.map f) else f x :: f y :: ys.map f
    rw [h]
    split
    · rw [List.map_cons, ins_map f h x ys]
    · rfl
theorem isort_map {lt' : β → β → Bool} (f : β → α) (h : ∀ x y, lt' x y = lt (f x) (f y)) : ∀ l : List β, (isort lt' l).map f = isort lt (l.map f)
  | [] => rfl
  | x :: xs => by
    show (ins lt' x (isort lt' xs)).map f = ins lt (f x) (isort lt (xs.map f))
    rw [ins_map f h, isort_map f h]
end
def sortBy (kw : W → List At) (ws : List W) : List W := isort (fun x y => ltA (kw x) (kw y)) ws
theorem rvs_zip {K mu H} : ∀ {ws : List W} {us : List V}, RVs K mu H ws us → (ws.zip us).map (·.1) = ws ∧ (ws.zip us).map (·.2) = us ∧ ∀ p ∈ ws.zip us, RV K mu H p.1 p.2
  | _, _, .nil => ⟨rfl, rfl, fun _ h => nomatch h⟩
  | _, _, .cons a b => by
    obtain ⟨h1, h2, h3⟩ := rvs_zip b
    refine ⟨by simp [h1], by simp [h2], fun p hp => ?_⟩
    rcases List.mem_cons.mp hp with e | e
    · subst e; exact a
    · exact h3 p e
theorem rvs_of {K mu H} : ∀ {zs : List (W × V)}, (∀ p ∈ zs, RV K mu H p.1 p.2) → RVs K mu H (zs.map (·.1)) (zs.map (·.2))
  | [], _ => .nil
  | p :: zs, h => .cons (h p (by simp)) (rvs_of fun q hq => h q (by simp [hq]))
theorem sortBy_rv {K mu H} {kw : W → List At} {key : V → List At} {ws : List W} {us out : List V} (r : RVs K mu H ws us) (hk : ∀ w v, w ∈ ws → RV K mu H w v → key v = kw w)
    (h1 : SrtO.Srtd (fun x y => ltA (key x) (key y)) out) (h2 : SrtO.Stb (fun x y => ltA (key x) (key y)) out us) : RVs K mu H (sortBy kw ws) out := by
  obtain ⟨z1, z2, z3⟩ := rvs_zip r
  -- the pairs, sorted by the value's key
  have P : SrtO.Stb (fun (x y : W × V) => ltA (key x.2) (key y.2)) (isort (fun x y => ltA (key x.2) (key y.2)) (ws.zip us)) (ws.zip us) := isort_stb (swo_ltA fun p : W × V => key p.2) _
  have S : SrtO.Srtd (fun (x y : W × V) => ltA (key x.2) (key y.2)) (isort (fun x y => ltA (key x.2) (key y.2)) (ws.zip us)) := isort_srtd (swo_ltA fun p : W × V => key p.2) _
  generalize hz : isort (fun (x y : W × V) => ltA (key x.2) (key y.2)) (ws.zip us) = zs at P S
  have mem : ∀ p ∈ zs, p ∈ ws.zip us := fun p hp => P.perm.mem_iff.mp hp
  have e1 : out = zs.map (·.2) := by
    have P' := SrtO.Stb.map (swo_ltA key) (fun p : W × V => p.2) P
    rw [z2] at P'
    have P'' : SrtO.Stb (fun x y => ltA (key x) (key y)) us (zs.map (·.2)) := ⟨P'.perm.symm, fun x => (P'.cls x).symm⟩
    exact SrtO.stb_uniq (swo_ltA key) h1 (SrtO.srtd_map S) (h2.trans P'')
  have e2 : sortBy kw ws = zs.map (·.1) := by
    have keq : ∀ p ∈ ws.zip us, key p.2 = kw p.1 := fun p hp => hk p.1 p.2 (by rw [← z1]; exact List.mem_map.mpr ⟨p, hp, rfl⟩) (z3 p hp)
    have key2 : ∀ l : List (W × V), (∀ p ∈ l, key p.2 = kw p.1) → isort (fun (x y : W × V) => ltA (key x.2) (key y.2)) l = isort (fun (x y : W × V) => ltA (kw x.1) (kw y.1)) l := by
      intro l hl
      have insq : ∀ (x : W × V) (l : List (W × V)), key x.2 = kw x.1 → (∀ p ∈ l, key p.2 = kw p.1) → ins (fun (x y : W × V) => ltA (key x.2) (key y.2)) x l = ins (fun (x y : W × V) => ltA (kw x.1) (kw y.1)) x l := by
        intro x l hx
        induction l with
        | nil => intro _; rfl
        | cons y ys ih =>
          intro hl
          unfold ins
          rw [hx, hl y (by simp), ih fun p hp => hl p (by simp [hp])]
      induction l with
      | nil => rfl
      | cons x xs ih =>
        unfold isort
        rw [ih fun p hp => hl p (by simp [hp])]
        refine insq x _ (hl x (by simp)) fun p hp => ?_
        have := (isort_stb (swo_ltA fun p : W × V => kw p.1) xs).perm.mem_iff.mp hp
        exact hl p (by simp [this])
    rw [← hz, key2 _ keq, isort_map (lt := fun x y => ltA (kw x) (kw y)) (fun p : W × V => p.1) (fun _ _ => rfl), z1]
    rfl
  rw [e1, e2]
  exact rvs_of fun p hp => z3 p (mem p hp)
/-! ### keys -/
def atmW : W → At
  | .int i => .inl i
  | .str l => .inr l
  | _ => .inl 0
def atmV : V → At
  | .int i => .inl i
  | .str x => .inr x.cps.toList
  | _ => .inl 0
def k1W : W → List At
  | .int i => [.inl i]
  | .str l => [.inr l]
  | .tup _ (f :: _) => [atmW f]
  | _ => []
def kAW : W → List At
  | .tup _ xs => xs.map atmW
  | _ => []
def k1V (H : Hp) : V → List At
  | .int i => [.inl i]
  | .str x => [.inr x.cps.toList]
  | .ref a => match H a with
    | some (.frz _ (.tup (f :: _))) => [atmV f]
    | _ => []
  | _ => []
def kAV (H : Hp) : V → List At
  | .ref a => match H a with
    | some (.frz _ (.tup vs)) => vs.map atmV
    | _ => []
  | _ => []
def isInt : W → Bool
  | .int _ => true
  | _ => false
def isStr : W → Bool
  | .str _ => true
  | _ => false
/-- a tuple that begins with a text, plain data -/
def isRow : W → Bool
  | .tup true (.str f :: r) => r.all (dat 50)
  | _ => false
def firstT : W → List Nat
  | .tup _ (.str f :: _) => f
  | _ => []
def atoms : W → Bool
  | .tup _ xs => xs.all fun x => isInt x || isStr x
  | _ => false
/-- the first place at which two rows of atoms differ holds two ints or two texts -/
def cmpOk : List W → List W → Bool
  | x :: xs, y :: ys => if eqW x y then cmpOk xs ys else (isInt x && isInt y) || (isStr x && isStr y)
  | _, _ => true
def items : W → List W
  | .tup _ xs => xs
  | _ => []
def nodupL : List (List Nat) → Bool
  | [] => true
  | x :: xs => !xs.any (fun y => y == x) && nodupL xs
def sortW (xs : List W) : Option (List W) :=
  if xs.length < 2 then some xs
  else if xs.all isInt then some (sortBy k1W xs)
  else if xs.all isStr then some (sortBy k1W xs)
  else if xs.all isRow then
    if nodupL (xs.map firstT) then some (sortBy k1W xs)
    else if xs.all atoms && xs.all (fun x => xs.all fun y => cmpOk (items x) (items y)) then some (sortBy kAW xs) else none
  else none
theorem key_eq {K mu H w v} (r : RV K mu H w v) (h : isInt w = true ∨ isStr w = true ∨ isRow w = true) : k1V H v = k1W w := by
  cases r with
  | int i => rfl
  | str l hl => rfl
  | @tupK k ws vs a o h1 h2 h3 h4 =>
    rcases h with h | h | h
    · cases h
    · cases h
    · cases h4 with
      | nil => simp [isRow] at h
      | @cons w0 v0 ws0 vs0 q1 q2 =>
        show (match H a with | some (.frz _ (.tup (f :: _))) => [atmV f] | _ => []) = [atmW w0]
        rw [h1]
        cases q1 with
        | str l hl => rfl
        | _ => simp [isRow] at h
  | tup h1 h2 h3 => simp [isInt, isStr, isRow] at h
  | ktup => simp [isInt, isStr, isRow] at h
  | _ => simp [isInt, isStr, isRow] at h
theorem atm_eq {K mu H} : ∀ {ws : List W} {vs : List V}, RVs K mu H ws vs → (ws.all fun x => isInt x || isStr x) = true → vs.map atmV = ws.map atmW
  | _, _, .nil, _ => rfl
  | _, _, .cons a b, h => by
    rw [List.all_cons, Bool.and_eq_true] at h
    rw [List.map_cons, List.map_cons, atm_eq b h.2]
    cases a with
    | int i => rfl
    | str l hl => rfl
    | _ => simp [isInt, isStr] at h
theorem keyA_eq {K mu H w v} (r : RV K mu H w v) (h : isRow w = true) (ha : atoms w = true) : kAV H v = kAW w := by
  cases r with
  | @tupK k ws vs a o h1 h2 h3 h4 =>
    show (match H a with | some (.frz _ (.tup vs)) => vs.map atmV | _ => []) = ws.map atmW
    rw [h1]
    exact atm_eq h4 ha
  | tup h1 h2 h3 => simp [isRow] at h
  | ktup => simp [isRow] at h
  | _ => simp [isRow] at h
theorem row_rv {K mu H w v} (r : RV K mu H w v) (h : isRow w = true) : ∃ (a : Addr) (l : List Nat) (ws : List W) (vs : List V), v = .ref a ∧ w = .tup true (.str l :: ws) ∧ (∀ c ∈ l, c < 128) ∧ SqT K H a (.str ⟨l.toArray⟩ :: vs) ∧ RVs K mu H ws vs ∧ ws.all (dat 50) = true := by
  cases r with
  | @tupK k ws vs a o h1 h2 h3 h4 =>
    cases k with
    | false => cases ws <;> simp [isRow] at h
    | true =>
      cases h4 with
      | nil => simp [isRow] at h
      | cons q1 q2 =>
        cases q1 with
        | str l hl => exact ⟨a, l, _, _, rfl, rfl, hl, .inl (.inr ⟨o, h1⟩), q2, by simpa [isRow] using h⟩
        | _ => simp [isRow] at h
  | tup h1 h2 h3 => simp [isRow] at h
  | ktup => simp [isRow] at h
  | _ => simp [isRow] at h
mutual
theorem eqv_self : ∀ d : PyData, d.canLay0 = true → PyData.eqv d d = true
  | .none, _ => rfl
  | .bool b, _ => by simp [PyData.eqv]
  | .int i, _ => by simp [PyData.eqv]
  | .str x, _ => by simp [PyData.eqv]
  | .list xs, h => eqvAll_self xs h
  | .tuple xs, h => eqvAll_self xs h
  | .dict _, h => by simp [PyData.canLay0] at h
theorem eqvAll_self : ∀ ds : List PyData, PyData.canLayAll0 ds = true → PyData.eqvAll ds ds = true
  | [], _ => rfl
  | d :: ds, h => by
    simp only [PyData.canLayAll0, Bool.and_eq_true] at h
    show (PyData.eqv d d && PyData.eqvAll ds ds) = true
    rw [eqv_self d h.1, eqvAll_self ds h.2]; rfl
end
theorem lex_refl {K mu H} : ∀ {ws : List W} {vs : List V}, RVs K mu H ws vs → ws.all (dat 50) = true → LexV K H vs vs false
  | _, _, .nil, _ => .nn
  | w :: _, _, .cons a b, h => by
    rw [List.all_cons, Bool.and_eq_true] at h
    obtain ⟨d1, d2, d3⟩ := dat_ok 50 h.1 a
    have sh : SeqAt.shaped (pd w) = true := by unfold SeqAt.shaped; rw [d2, decide_eq_true (by omega)]; rfl
    exact .eq d1 d1 sh sh (eqv_self _ d2) (lex_refl b h.2)
theorem str_ne {a b : List Nat} (h : a ≠ b) : (⟨a.toArray⟩ : Str) ≠ ⟨b.toArray⟩ := fun e => h (by injection e with e; simpa using congrArg Array.toList e)
theorem lex_atoms {K mu H} : ∀ {ws us : List W} {vs xs : List V}, RVs K mu H ws vs → RVs K mu H us xs → (ws.all fun x => isInt x || isStr x) = true → (us.all fun x => isInt x || isStr x) = true → cmpOk ws us = true →
    LexV K H vs xs (ltA (ws.map atmW) (us.map atmW))
  | _, _, _, _, .nil, .nil, _, _, _ => .nn
  | _, _, _, _, .nil, .cons _ _, _, _, _ => .nc
  | _, _, _, _, .cons _ _, .nil, _, _, _ => .cn
  | w :: ws, u :: us, _, _, .cons a b, .cons c d, h1, h2, h3 => by
    rw [List.all_cons, Bool.and_eq_true] at h1 h2
    unfold cmpOk at h3
    cases a with
    | int i =>
      cases c with
      | int j =>
        by_cases e : i = j
        · subst e
          have : eqW (.int i) (.int i) = true := by simp [eqW]
          rw [this, if_pos rfl] at h3
          rw [List.map_cons, List.map_cons, show ltA (atmW (.int i) :: ws.map atmW) (atmW (.int i) :: us.map atmW) = ltA (ws.map atmW) (us.map atmW) from lex_self (O := itemOrd) _ _ _]
          exact .eq (.int i) (.int i) rfl rfl (by simp [PyData.eqv]) (lex_atoms b d h1.2 h2.2 h3)
        · rw [List.map_cons, List.map_cons, show ltA (atmW (.int i) :: ws.map atmW) (atmW (.int j) :: us.map atmW) = decide (i < j) from lex_diff (O := itemOrd) (show atmW (.int i) ≠ atmW (.int j) from fun z => e (Sum.inl.inj z))]
          exact .int e
      | str l hl => simp [eqW, isInt, isStr] at h3
      | _ => simp [isInt, isStr] at h2
    | str l hl =>
      cases c with
      | str l' hl' =>
        by_cases e : l = l'
        · subst e
          have : eqW (.str l) (.str l) = true := by simp [eqW]
          rw [this, if_pos rfl] at h3
          rw [List.map_cons, List.map_cons, show ltA (atmW (.str l) :: ws.map atmW) (atmW (.str l) :: us.map atmW) = ltA (ws.map atmW) (us.map atmW) from lex_self (O := itemOrd) _ _ _]
          have sh : SeqAt.shaped (.str ⟨l.toArray⟩) = true := by unfold SeqAt.shaped; rw [show PyData.canLay0 (.str ⟨l.toArray⟩) = true from strOk_of hl]; rfl
          exact .eq (.str _) (.str _) sh sh (by simp [PyData.eqv]) (lex_atoms b d h1.2 h2.2 h3)
        · rw [List.map_cons, List.map_cons, show ltA (atmW (.str l) :: ws.map atmW) (atmW (.str l') :: us.map atmW) = decide (l < l') from lex_diff (O := itemOrd) (show atmW (.str l) ≠ atmW (.str l') from fun z => e (Sum.inr.inj z))]
          exact .str (str_ne e)
      | int j => simp [eqW, isInt, isStr] at h3
      | _ => simp [isInt, isStr] at h2
    | _ => simp [isInt, isStr] at h1
theorem nodupL_ne : ∀ {l : List (List Nat)} {i j : Nat} {x y : List Nat}, nodupL l = true → l[i]? = some x → l[j]? = some y → i ≠ j → x ≠ y
  | [], _, _, _, _, _, h, _, _ => by simp at h
  | z :: zs, i, j, x, y, h, h1, h2, hne => by
    simp only [nodupL, Bool.and_eq_true, Bool.not_eq_true'] at h
    have notin : ∀ {k : Nat} {v : List Nat}, zs[k]? = some v → v ≠ z := fun {k v} hk e => by
      subst e
      have := List.any_eq_false.mp h.1 v (List.mem_of_getElem? hk)
      simp at this
    cases i with
    | zero =>
      cases j with
      | zero => exact absurd rfl hne
      | succ j => simp at h1 h2; subst h1; exact fun e => notin h2 e.symm
    | succ i =>
      cases j with
      | zero => simp at h1 h2; subst h2; exact fun e => notin h1 e
      | succ j => simp at h1 h2; exact nodupL_ne h.2 h1 h2 (by omega)
theorem rvs_mem {K mu H} : ∀ {ws : List W} {us : List V} {v : V}, RVs K mu H ws us → v ∈ us → ∃ (i : Nat) (w : W), ws[i]? = some w ∧ us[i]? = some v ∧ RV K mu H w v
  | _, _, _, .cons a b, h => by
    rcases List.mem_cons.mp h with e | e
    · subst e; exact ⟨0, _, rfl, rfl, a⟩
    · obtain ⟨i, w, h1, h2, h3⟩ := rvs_mem b e
      exact ⟨i + 1, w, by simpa using h1, by simpa using h2, h3⟩
theorem all_ints {K mu H} : ∀ {ws : List W} {us : List V}, RVs K mu H ws us → ws.all isInt = true → ∃ ns : List Int, us = ns.map V.int
  | _, _, .nil, _ => ⟨[], rfl⟩
  | _, _, .cons a b, h => by
    rw [List.all_cons, Bool.and_eq_true] at h
    obtain ⟨ns, rfl⟩ := all_ints b h.2
    cases a with
    | int i => exact ⟨i :: ns, rfl⟩
    | _ => simp [isInt] at h
theorem all_strs {K mu H} : ∀ {ws : List W} {us : List V}, RVs K mu H ws us → ws.all isStr = true → ∃ ns : List Str, us = ns.map V.str
  | _, _, .nil, _ => ⟨[], rfl⟩
  | _, _, .cons a b, h => by
    rw [List.all_cons, Bool.and_eq_true] at h
    obtain ⟨ns, rfl⟩ := all_strs b h.2
    cases a with
    | str l hl => exact ⟨⟨l.toArray⟩ :: ns, rfl⟩
    | _ => simp [isStr] at h
def sortedW : MH → List W → Option (List W) := fun M ws => match ws with
  | [x] => (match rd M x with
    | .lst xs => sortW xs
    | _ => none)
  | _ => none
theorem all_mem {ws : List W} {f : W → Bool} (h : ws.all f = true) {i : Nat} {w : W} (e : ws[i]? = some w) : f w = true := List.all_eq_true.mp h w (List.mem_of_getElem? e)
theorem cs_sorted {K : PySem.W.Frag} : CallSL K (rSortW K) sortedW := by
  intro mu M H ws vs xs Q g r e k
  cases r with
  | nil => cases e
  | cons a b =>
    cases b with
    | cons _ _ => cases e
    | nil =>
      simp only [sortedW] at e
      have rr := a.rd g
      generalize rd M _ = y at rr e
      cases rr with
      | @lst ws us a h r =>
        simp only at e
        unfold sortW at e
        split at e
        · rename_i hz
          cases e
          refine ⟨_, _, fun _ => [], rfl, .inl (.inl h), .inl (by rw [← r.length]; exact hz), fun out p h1 h2 hp => k _ p ?_ hp⟩
          have hl : out.length = us.length := h2.len
          have hp := h2.perm
          match us, out, r, hz, hl, hp with
          | [], [], r, _, _, _ => exact r
          | [u], [o], r, _, _, hp => have := List.perm_singleton.mp hp.symm; simp at this; subst this; exact r
          | _ :: _ :: _, _, r, hz, _, _ => have := r.length; simp at this; omega
        · split at e
          · rename_i hi
            cases e
            obtain ⟨ns, hn⟩ := all_ints r hi
            refine ⟨_, _, k1V H, rfl, .inl (.inl h), .inr (.inl ⟨ns, hn, fun n => rfl⟩), fun out p h1 h2 hp => k _ p (sortBy_rv r (fun w v hw rv => key_eq rv (.inl (List.all_eq_true.mp hi w hw))) h1 h2) hp⟩
          · split at e
            · rename_i hi
              cases e
              obtain ⟨ns, hn⟩ := all_strs r hi
              refine ⟨_, _, k1V H, rfl, .inl (.inl h), .inr (.inr (.inl ⟨ns, hn, fun n => rfl⟩)), fun out p h1 h2 hp => k _ p (sortBy_rv r (fun w v hw rv => key_eq rv (.inr (.inl (List.all_eq_true.mp hi w hw)))) h1 h2) hp⟩
            · split at e
              · rename_i hr
                have rows : ∀ x ∈ us, ∃ a f rr, x = V.ref a ∧ SqT K H a (.str f :: rr) := fun x hx => by
                  obtain ⟨i, w, e1, e2, rv⟩ := rvs_mem r hx
                  obtain ⟨a, l, ws, vs, rfl, _, _, hs, _⟩ := row_rv rv (all_mem hr e1)
                  exact ⟨a, _, _, rfl, hs⟩
                split at e
                · rename_i hn
                  cases e
                  refine ⟨_, _, k1V H, rfl, .inl (.inl h), .inr (.inr (.inr ⟨rows, fun x y hx hy => ?_⟩)), fun out p h1 h2 hp => k _ p (sortBy_rv r (fun w v hw rv => key_eq rv (.inr (.inr (List.all_eq_true.mp hr w hw)))) h1 h2) hp⟩
                  obtain ⟨i, w, e1, e2, rv⟩ := rvs_mem r hx
                  obtain ⟨j, w', e1', e2', rv'⟩ := rvs_mem r hy
                  have kx := key_eq rv (.inr (.inr (all_mem hr e1)))
                  have ky := key_eq rv' (.inr (.inr (all_mem hr e1')))
                  rw [kx, ky]
                  by_cases hij : i = j
                  · subst hij
                    rw [e1] at e1'; cases e1'
                    rw [e2] at e2'; cases e2'
                    obtain ⟨a, l, ws, vs, rfl, rfl, hl, hs, rs, hd⟩ := row_rv rv (all_mem hr e1)
                    refine ⟨a, a, _, _, rfl, rfl, hs, hs, ?_⟩
                    rw [show ltA (k1W (W.tup true (W.str l :: ws))) (k1W (W.tup true (W.str l :: ws))) = false from lex_irrefl (O := itemOrd) _]
                    exact lex_refl (.cons (.str l hl) rs) (by rw [List.all_cons, hd]; rfl)
                  · obtain ⟨a, l, ws, vs, rfl, rfl, hl, hs, rs, hd⟩ := row_rv rv (all_mem hr e1)
                    obtain ⟨a', l', ws', vs', rfl, rfl, hl', hs', rs', hd'⟩ := row_rv rv' (all_mem hr e1')
                    have ne : l ≠ l' := nodupL_ne hn (i := i) (j := j) (by rw [List.getElem?_map, e1]; rfl) (by rw [List.getElem?_map, e1']; rfl) hij
                    refine ⟨a, a', _, _, rfl, rfl, hs, hs', ?_⟩
                    show LexV K H _ _ (ltA [.inr l] [.inr l'])
                    rw [lt1]
                    exact .str (str_ne ne)
                · split at e
                  · rename_i hn
                    cases e
                    rw [Bool.and_eq_true] at hn
                    refine ⟨_, _, kAV H, rfl, .inl (.inl h), .inr (.inr (.inr ⟨rows, fun x y hx hy => ?_⟩)), fun out p h1 h2 hp => k _ p (sortBy_rv r (fun w v hw rv => keyA_eq rv (List.all_eq_true.mp hr w hw) (List.all_eq_true.mp hn.1 w hw)) h1 h2) hp⟩
                    obtain ⟨i, w, e1, e2, rv⟩ := rvs_mem r hx
                    obtain ⟨j, w', e1', e2', rv'⟩ := rvs_mem r hy
                    have kx := keyA_eq rv (all_mem hr e1) (all_mem hn.1 e1)
                    have ky := keyA_eq rv' (all_mem hr e1') (all_mem hn.1 e1')
                    have hc : cmpOk (items w) (items w') = true := List.all_eq_true.mp (List.all_eq_true.mp hn.2 w (List.mem_of_getElem? e1)) w' (List.mem_of_getElem? e1')
                    rw [kx, ky]
                    obtain ⟨a, l, ws, vs, rfl, rfl, hl, hs, rs, hd⟩ := row_rv rv (all_mem hr e1)
                    obtain ⟨a', l', ws', vs', rfl, rfl, hl', hs', rs', hd'⟩ := row_rv rv' (all_mem hr e1')
                    exact ⟨a, a', _, _, rfl, rfl, hs, hs', lex_atoms (.cons (.str l hl) rs) (.cons (.str l' hl') rs') (all_mem hn.1 e1) (all_mem hn.1 e1') hc⟩
                  · cases e
              · cases e
      | _ => cases e
end Py

namespace Py
open PySem L2

/-! ## the loop of a comprehension, the list that grows set aside -/
theorem held_loop {K : PySem.W.Frag} {D : Addr} {r : Sl} {t : Tg} {c : EvB} {e : Ev} {own : List Nat} {σ : L2.St} {J : It} {ws : List W} {mu1 : Mu} {M1 : MH} {H1 : Hp} {acc0 : List W} {vs0 : List V} {Fin : Hp → Prop} {P : List W → MH → Mu → Hp → Prop}
    (hDr : D ∉ mu1.rsv) (g1 : Good K (mu1.hold D) M1 H1) (hD : H1 D = some (.lst vs0)) (ra0 : RVs K (mu1.hold D) H1 acc0 vs0) (s1 : RS K (mu1.hold D) H1 r σ) (hy : Yl K J (mu1.hold D) H1 ws)
    (hp0 : Post K mu1 (hid H1 D) P (lcGo (wipeR r own) t c e ws acc0 M1))
    (hF : ∀ (mu' : Mu) (M' : MH) (acc : List W) (vs : List V) (H' : Hp), Ext mu1 (hid H1 D) mu' (hid H' D) → Ext (mu1.hold D) H1 (mu'.hold D) H' ∨ True → Good K (mu'.hold D) M' H' → H' D = some (.lst vs) → RVs K (mu'.hold D) H' acc vs → P acc M' mu' (hid H' D) → Fin H') :
    ∃ W : Nat → Nat → Hp → Prop, (∃ m, W 0 m H1) ∧ ∀ i m H, W i m H → (J.stop i H ∧ Fin H) ∨ (J.go i H ∧ ∃ Nx : Hp → Prop, (∀ H', Nx H' → ∃ m', m' < m ∧ W (i + 1) m' H') ∧ ∀ x H', J.yld i H x H' → denG K t own x (wipe σ own) H' fun σ2 H2 => wipe σ2 own = wipe σ own ∧ denT K c σ2 H2 fun b H3 =>
      if b = true then den K e σ2 H3 fun y H4 => ∃ acc, H4 D = some (.lst acc) ∧ acc.length < sizeLine ∧ Nx (L2.upd H4 D (.lst (acc ++ [y]))) else Nx H3) := by
  refine ⟨fun i m H' => ∃ (mu' : Mu) (M' : MH) (acc : List W) (vs : List V), Ext mu1 (hid H1 D) mu' (hid H' D) ∧ ExtW (mu1.hold D) H1 (mu'.hold D) H' ∧ Good K (mu'.hold D) M' H' ∧ H' D = some (.lst vs) ∧ RVs K (mu'.hold D) H' acc vs ∧ m + i = ws.length ∧
      Post K mu' (hid H' D) P (lcGo (wipeR r own) t c e (ws.drop i) acc M'), ⟨ws.length, mu1, M1, acc0, vs0, Ext.refl, Ext.refl.toW, g1, hD, ra0, rfl, hp0⟩, ?_⟩
  rintro i m H' ⟨mu', M', acc, vs, ex, xw, gg, hDv, ra, hm, hp⟩
  have hDr' : D ∉ mu'.rsv := by rw [ex.rsv]; exact hDr
  obtain ⟨y1, y2⟩ := hy (mu'.hold D) H' M' xw gg i
  cases q : ws[i]? with
  | none =>
    have hi : ws.length ≤ i := List.getElem?_eq_none_iff.mp q
    have hi : ws.length = i := by omega
    rw [List.drop_eq_nil_of_le (by omega)] at hp
    exact .inl ⟨y1 hi, hF mu' M' acc vs H' ex (.inr trivial) gg hDv ra (hp mu' (hid H' D) Ext.refl (gg.unhold hDr'))⟩
  | some w =>
    obtain ⟨z1, z2⟩ := y2 w q
    obtain ⟨hl, hw⟩ := List.getElem?_eq_some_iff.mp q
    rw [List.drop_eq_getElem_cons hl, hw] at hp
    refine .inr ⟨z1, fun H2 => ∃ (mu' : Mu) (M' : MH) (acc : List W) (vs : List V), Ext mu1 (hid H1 D) mu' (hid H2 D) ∧ ExtW (mu1.hold D) H1 (mu'.hold D) H2 ∧ Good K (mu'.hold D) M' H2 ∧ H2 D = some (.lst vs) ∧ RVs K (mu'.hold D) H2 acc vs ∧
      Post K mu' (hid H2 D) P (lcGo (wipeR r own) t c e (ws.drop (i + 1)) acc M'),
      fun H2 ⟨mu2, M2, acc2, vs2, a1, a0, a2, a3, a4, a5⟩ => ⟨m - 1, by omega, mu2, M2, acc2, vs2, a1, a0, a2, a3, a4, by omega, a5⟩, fun x H'' yld => ?_⟩
    obtain ⟨e3, g3, rv⟩ := z2 x H'' yld
    have ex3 := ex.trans (e3.unhold hDr')
    have hp3 := Post.ext (e3.unhold hDr') hp
    have hD3 : H'' D = some (.lst vs) := by rw [e3.held D List.mem_cons_self]; exact hDv
    have xw3 := xw.trans e3.toW
    simp only [lcGo] at hp3
    cases q2 : t M' w (wipeR r own) with
    | none => rw [q2] at hp3; exact False.elim hp3
    | some r1 =>
      rw [q2] at hp3
      simp only at hp3
      refine ⟨mu'.hold D, M', wipeR r own, w, r1, g3, (s1.extW xw3).wipe own, rv, q2, fun σ2 s2 o2 => ⟨wipe_off o2, mu'.hold D, M', r1, g3, s2, ?_⟩⟩
      refine (Post.hold hDr' (Post.bind hp3)).imp fun k M2 mu2 H2 e2 g2 hk => ?_
      obtain ⟨mu3, rfl, hr3, x3, hk⟩ := hk
      have hDr3 : D ∉ mu3.rsv := by rw [hr3]; exact hDr'
      have hD2 : H2 D = some (.lst vs) := by rw [e2.held D List.mem_cons_self]; exact hD3
      cases k with
      | false =>
        rw [if_neg (by decide)] at hk ⊢
        exact ⟨mu3, M2, acc, vs, ex3.trans x3, xw3.trans e2.toW, g2, hD2, (ra.ext e3).ext e2, hk⟩
      | true =>
        rw [if_pos rfl] at hk ⊢
        refine ⟨mu3.hold D, M2, r1, g2, s2.ext e2, (Post.hold hDr3 (Post.bind hk)).imp fun y M4 mu4 H4 e4 g4 hy4 v rv4 => ?_⟩
        obtain ⟨mu5, rfl, hr5, x5, hy5⟩ := hy4
        have hD4 : H4 D = some (.lst vs) := by rw [e4.held D List.mem_cons_self]; exact hD2
        have ra4 : RVs K (mu5.hold D) H4 acc vs := ((ra.ext e3).ext e2).ext e4
        split at hy5
        · rename_i hz
          have xu : ExtW (mu5.hold D) H4 (mu5.hold D) (L2.upd H4 D (.lst (vs ++ [v]))) := by
            refine ⟨Nat.le_refl _, fun _ _ => .inl rfl, fun n a h e => ?_, fun b o h n => ?_, fun b h => ?_, fun b h => .inl h⟩
            · rw [List.getElem?_eq_none h] at e; cases e
            · rw [upd_ne (n.ne List.mem_cons_self)]; exact h
            · by_cases eb : b = D
              · subst eb; rw [upd_same]; simp
              · rw [upd_ne eb]; exact h
          refine ⟨vs, hD4, by rw [← ra4.length, line_eq]; exact hz, mu5, M4, acc ++ [y], vs ++ [v], ?_, ((xw3.trans e2.toW).trans e4.toW).trans xu, g4.held List.mem_cons_self rfl, upd_same, (ra4.append (.cons rv4 .nil)).held List.mem_cons_self, ?_⟩
          · rw [hid_upd']; exact (ex3.trans x3).trans x5
          · rw [hid_upd']; exact hy5
        · exact False.elim hy5
/-! ## two clauses -/
def lc2Go (r : Sl) (t : Tg) (c : EvB) (it1 : EvL) (own1 : List Nat) (t1 : Tg) (c1 : EvB) (e : Ev) : List W → List W → MH → R (List W)
  | [], acc, M => .ok acc M
  | w :: ws, acc, M => match t M w r with
    | none => .bad
    | some r1 => (c r1 M).bind fun k M1 => if k = true then (it1 r1 M1).bind fun ws1 M2 => (lcGo (wipeR r1 own1) t1 c1 e ws1 acc M2).bind fun acc' M3 => lc2Go r t c it1 own1 t1 c1 e ws acc' M3 else lc2Go r t c it1 own1 t1 c1 e ws acc M1
def lComp2 (own : List Nat) (it : EvL) (t : Tg) (c : EvB) (it1 : EvL) (own1 : List Nat) (t1 : Tg) (c1 : EvB) (e : Ev) : EvL := fun r M => (it r M).bind fun ws M1 => lc2Go (wipeR r own) t c it1 own1 t1 c1 e ws [] M1
theorem lc2_core' {K : PySem.W.Frag} {own own1 : List Nat} {it it1 : EvL} {t t1 : Tg} {c c1 : EvB} {e : Ev} {σ : L2.St} {H : Hp} {Q : VK} (h : denL K (lComp2 own it t c it1 own1 t1 c1 e) σ H Q) :
    tLc2 (denI K it) (denG K t own) (denT K c) (denI K it1) (denG K t1 own1) (denT K c1) (den K e) own own1 σ H Q := by
  obtain ⟨mu, M, r, g, s, h⟩ := h
  refine ⟨mu, M, r, g, s, (Post.bind h).imp fun ws M1 mu1 H1 e1 g1 h1 J hy D hD => ?_⟩
  have hDr : D ∉ mu1.rsv := fun q => g1.rsvd D q hD
  have s1 := s.ext e1
  refine ⟨fun i m H' => ∃ (mu' : Mu) (M' : MH) (acc : List W) (vs : List V), Ext mu1 H1 mu' (hid H' D) ∧ Good K (mu'.hold D) M' H' ∧ H' D = some (.lst vs) ∧ RVs K (mu'.hold D) H' acc vs ∧ m + i = ws.length ∧
      Post K mu' (hid H' D) (fun ws' _ mu2 H2 => ∀ vs p, RVs K mu2 H2 ws' vs → H2 p = none → Q (.ref p) (L2.upd H2 p (.lst vs))) (lc2Go (wipeR r own) t c it1 own1 t1 c1 e (ws.drop i) acc M'), ?_, ?_⟩
  · refine ⟨ws.length, mu1, M1, [], [], ?_, g1.hold hD rfl, upd_same, .nil, rfl, ?_⟩
    · rw [hid_upd', hid_none hD]; exact Ext.refl
    · rw [hid_upd', hid_none hD]; exact h1
  · rintro i m H' ⟨mu', M', acc, vs, ex, gg, hDv, ra, hm, hp⟩
    have hDr' : D ∉ mu'.rsv := by rw [ex.rsv]; exact hDr
    have xw : ExtW mu1 H1 (mu'.hold D) H' := ex.toW.trans (ExtW.hold (by rw [hDv]; simp))
    obtain ⟨y1, y2⟩ := hy (mu'.hold D) H' M' xw gg i
    cases q : ws[i]? with
    | none =>
      have hi : ws.length ≤ i := List.getElem?_eq_none_iff.mp q
      have hi : ws.length = i := by omega
      rw [List.drop_eq_nil_of_le (by omega)] at hp
      refine .inl ⟨y1 hi, ?_⟩
      have := hp mu' (hid H' D) Ext.refl (gg.unhold hDr') vs D ra.unhold hid_at
      rw [hid_upd hDv] at this
      exact this
    | some w =>
      obtain ⟨z1, z2⟩ := y2 w q
      obtain ⟨hl, hw⟩ := List.getElem?_eq_some_iff.mp q
      rw [List.drop_eq_getElem_cons hl, hw] at hp
      refine .inr ⟨z1, fun H2 => ∃ (mu' : Mu) (M' : MH) (acc : List W) (vs : List V), Ext mu1 H1 mu' (hid H2 D) ∧ Good K (mu'.hold D) M' H2 ∧ H2 D = some (.lst vs) ∧ RVs K (mu'.hold D) H2 acc vs ∧
        Post K mu' (hid H2 D) (fun ws' _ mu2 H2 => ∀ vs p, RVs K mu2 H2 ws' vs → H2 p = none → Q (.ref p) (L2.upd H2 p (.lst vs))) (lc2Go (wipeR r own) t c it1 own1 t1 c1 e (ws.drop (i + 1)) acc M'),
        fun H2 ⟨mu2, M2, acc2, vs2, a1, a2, a3, a4, a5⟩ => ⟨m - 1, by omega, mu2, M2, acc2, vs2, a1, a2, a3, a4, by omega, a5⟩, fun x H'' yld => ?_⟩
      obtain ⟨e3, g3, rv⟩ := z2 x H'' yld
      have ex3 : Ext mu1 H1 mu' (hid H'' D) := ex.trans (e3.unhold hDr')
      have hp3 := Post.ext (e3.unhold hDr') hp
      have hD3 : H'' D = some (.lst vs) := by rw [e3.held D List.mem_cons_self]; exact hDv
      have xw3 : ExtW mu1 H1 (mu'.hold D) H'' := ex3.toW.trans (ExtW.hold (by rw [hD3]; simp))
      simp only [lc2Go] at hp3
      cases q2 : t M' w (wipeR r own) with
      | none => rw [q2] at hp3; exact False.elim hp3
      | some r1 =>
        rw [q2] at hp3
        simp only at hp3
        refine ⟨mu'.hold D, M', wipeR r own, w, r1, g3, (s1.extW xw3).wipe own, rv, q2, fun σ2 s2 o2 => ⟨wipe_off o2, mu'.hold D, M', r1, g3, s2, ?_⟩⟩
        refine (Post.hold hDr' (Post.bind hp3)).imp fun k M2 mu2 H2 e2 g2 hk => ?_
        obtain ⟨mu3, rfl, hr3, x3, hk⟩ := hk
        have hDr3 : D ∉ mu3.rsv := by rw [hr3]; exact hDr'
        have hD2 : H2 D = some (.lst vs) := by rw [e2.held D List.mem_cons_self]; exact hD3
        cases k with
        | false =>
          rw [if_neg (by decide)] at hk ⊢
          exact ⟨mu3, M2, acc, vs, ex3.trans x3, g2, hD2, (ra.ext e3).ext e2, hk⟩
        | true =>
          rw [if_pos rfl] at hk ⊢
          refine ⟨mu3.hold D, M2, r1, g2, s2.ext e2, (Post.hold hDr3 (Post.bind hk)).imp fun ws1 M4 mu4 H4 e4 g4 hy4 J1 yl1 => ?_⟩
          obtain ⟨mu5, rfl, hr5, x5, hy5⟩ := hy4
          have hDr5 : D ∉ mu5.rsv := by rw [hr5]; exact hDr3
          have hD4 : H4 D = some (.lst vs) := by rw [e4.held D List.mem_cons_self]; exact hD2
          have ra4 : RVs K (mu5.hold D) H4 acc vs := ((ra.ext e3).ext e2).ext e4
          refine held_loop hDr5 g4 hD4 ra4 ((s2.ext e2).ext e4) yl1 (Post.bind hy5) fun mu6 M6 acc6 vs6 H6 x6 _ g6 hD6 ra6 p6 => ?_
          exact ⟨mu6, M6, acc6, vs6, (((ex3.trans x3).trans x5).trans x6), g6, hD6, ra6, p6⟩
end Py

namespace Py
open PySem L2

section
variable {X : Cx} {elt tg iter tg1 iter1 : Expr} {ifs ifs1 : List Expr} {scope : Scope} {own : List (Str × Nat)} {vs1 : List Nat} {pos spos : Pos} {it it1 : EvL} {t t1 : Tg} {c c1 : EvB} {e : Ev}
theorem sg_weak {tg : Expr} {t : Tg} {o own : List Nat} (h : PG X tg (denG X.K t o)) (hs : ∀ i ∈ o, i ∈ own := by decide) : PG X tg (denG X.K t own) :=
  PG.of h fun v σ H Q ⟨mu, M, r, w, r', g, s, rv, e, k⟩ => ⟨mu, M, r, w, r', g, s, rv, e, fun σ' s' o' => k σ' s' ⟨o'.1, fun j hj => o'.2 j fun z => hj (hs j z)⟩⟩
theorem sl_comp2 (hc : X.calm = true) (hN : X.N.Nodup) (hi : PI X tg iter (denI X.K it)) (ok : BlkOk X.N X.env.scope scope own) (hv : ∀ i ∈ vs1, i ∈ own.map (·.2))
    (hg : ∀ (s : Shared) (H : Hp) (C : Addr) (cl : List (Str × Addr)) (fp : List Addr), PG (X.blk s H scope (compEnvC scope cl C X.env) fp) tg (denG X.K t (own.map (·.2))))
    (ht : ∀ (s : Shared) (H : Hp) (C : Addr) (cl : List (Str × Addr)) (fp : List Addr), PTs (X.blk s H scope (compEnvC scope cl C X.env) fp) ifs (denT X.K c))
    (hi1 : ∀ (s : Shared) (H : Hp) (C : Addr) (cl : List (Str × Addr)) (fp : List Addr), PI (X.blk s H scope (compEnvC scope cl C X.env) fp) tg1 iter1 (denI X.K it1))
    (hg1 : ∀ (s : Shared) (H : Hp) (C : Addr) (cl : List (Str × Addr)) (fp : List Addr), PG (X.blk s H scope (compEnvC scope cl C X.env) fp) tg1 (denG X.K t1 vs1))
    (ht1 : ∀ (s : Shared) (H : Hp) (C : Addr) (cl : List (Str × Addr)) (fp : List Addr), PTs (X.blk s H scope (compEnvC scope cl C X.env) fp) ifs1 (denT X.K c1))
    (he : ∀ (s : Shared) (H : Hp) (C : Addr) (cl : List (Str × Addr)) (fp : List Addr), PE (X.blk s H scope (compEnvC scope cl C X.env) fp) elt (den X.K e)) (hs : ∀ x, foldedSetIterable iter X.env x = pure x := by intro _; rfl) (hs1 : ∀ env x, foldedSetIterable iter1 env x = pure x := by intro _ _; rfl) :
    PE X (.ListComp elt [⟨tg, iter, ifs, 0⟩, ⟨tg1, iter1, ifs1, 0⟩] scope pos) (denL X.K (lComp2 (own.map (·.2)) it t c it1 vs1 t1 c1 e)) :=
  PE.of (pe_lc2 hc hN hi ok hv hg ht hi1 hg1 ht1 he hs hs1) fun σ H Q h => lc2_core' h
theorem ss_setLc2 {i : Nat} {y : Str} {py : Pos} (hc : X.calm = true) (hN : X.N.Nodup) (hy : X.N[i]? = some y) (hyl : X.env.scope.names.lookup y = some .local)
    (hsw : swapsWith (.ListComp elt [⟨tg, iter, ifs, 0⟩, ⟨tg1, iter1, ifs1, 0⟩] scope pos) (some (.Name y py)) spos.line X.env = pure true) (hi : PI X tg iter (denI X.K it)) (ok : BlkOk X.N X.env.scope scope own) (hv : ∀ i ∈ vs1, i ∈ own.map (·.2))
    (hg : ∀ (s : Shared) (H : Hp) (C : Addr) (cl : List (Str × Addr)) (fp : List Addr), PG (X.blk s H scope (compEnvC scope cl C X.env) fp) tg (denG X.K t (own.map (·.2))))
    (ht : ∀ (s : Shared) (H : Hp) (C : Addr) (cl : List (Str × Addr)) (fp : List Addr), PTs (X.blk s H scope (compEnvC scope cl C X.env) fp) ifs (denT X.K c))
    (hi1 : ∀ (s : Shared) (H : Hp) (C : Addr) (cl : List (Str × Addr)) (fp : List Addr), PI (X.blk s H scope (compEnvC scope cl C X.env) fp) tg1 iter1 (denI X.K it1))
    (hg1 : ∀ (s : Shared) (H : Hp) (C : Addr) (cl : List (Str × Addr)) (fp : List Addr), PG (X.blk s H scope (compEnvC scope cl C X.env) fp) tg1 (denG X.K t1 vs1))
    (ht1 : ∀ (s : Shared) (H : Hp) (C : Addr) (cl : List (Str × Addr)) (fp : List Addr), PTs (X.blk s H scope (compEnvC scope cl C X.env) fp) ifs1 (denT X.K c1))
    (he : ∀ (s : Shared) (H : Hp) (C : Addr) (cl : List (Str × Addr)) (fp : List Addr), PE (X.blk s H scope (compEnvC scope cl C X.env) fp) elt (den X.K e)) (hs : ∀ x, foldedSetIterable iter X.env x = pure x := by intro _; rfl) (hs1 : ∀ env x, foldedSetIterable iter1 env x = pure x := by intro _ _; rfl) :
    PS X (.Assign [.Name y py] (.ListComp elt [⟨tg, iter, ifs, 0⟩, ⟨tg1, iter1, ifs1, 0⟩] scope pos) spos) (tAsg (denL X.K (lComp2 (own.map (·.2)) it t c it1 vs1 t1 c1 e)) (gName i)) :=
  PS.of (ps_setLc2 hc hN hy hyl hsw hi ok hv hg ht hi1 hg1 ht1 he hs hs1) fun D σ H h => lc2_core' h
end

/-! ## a, b = x, y -/
def setAll : Sl → List Nat → List W → Sl
  | r, i :: is, w :: ws => setAll (r.set i (some w)) is ws
  | r, _, _ => r
def sPar (is : List Nat) (ms : EvL) : Sx := fun r M => (ms r M).thenO fun ws M1 => if ws.length = is.length then .nx (setAll r is ws) M1 else .bad
section
variable {X : Cx} {ms : EvL} {st : Stmt}
theorem ss_par2 {i j : Nat} (h : PS X st (tPar i j (denA X.K ms))) : PS X st (denS X.K (sPar [i, j] ms)) := by
  refine PS.of h fun D σ H ⟨mu, M, r, g, s, h⟩ => ?_
  refine ⟨mu, M, r, g, s, (PostS.thenO h).imp fun ws M1 mu1 H1 e1 g1 h1 vs rs => ?_⟩
  split at h1
  · rename_i hl
    match ws, vs, rs, hl with
    | [w, w'], [v, v'], .cons a (.cons b .nil), _ => exact ⟨v, v', rfl, h1 _ mu1 H1 Ext.refl g1 (((s.ext e1).set a).set b)⟩
  · exact False.elim h1
theorem ss_par3 {i j l : Nat} (h : PS X st (fun D σ H => denA X.K ms σ H fun vs H1 => ∃ v w u, vs = [v, w, u] ∧ D.nx (((σ.set i (some v)).set j (some w)).set l (some u)) H1)) : PS X st (denS X.K (sPar [i, j, l] ms)) := by
  refine PS.of h fun D σ H ⟨mu, M, r, g, s, h⟩ => ?_
  refine ⟨mu, M, r, g, s, (PostS.thenO h).imp fun ws M1 mu1 H1 e1 g1 h1 vs rs => ?_⟩
  split at h1
  · rename_i hl
    match ws, vs, rs, hl with
    | [w, w', w''], [v, v', v''], .cons a (.cons b (.cons c .nil)), _ => exact ⟨v, v', v'', rfl, h1 _ mu1 H1 Ext.refl g1 ((((s.ext e1).set a).set b).set c)⟩
  · exact False.elim h1
end

/-! ## while -/
def whileGo (c : EvB) (body : Sx) : Nat → Sl → MH → O
  | 0, _, _ => .bad
  | n + 1, r, M => (c r M).thenO fun k M1 => if k = true then (match body r M1 with
    | .nx r2 M2 => whileGo c body n r2 M2
    | .ct r2 M2 => whileGo c body n r2 M2
    | .bk r2 M2 => .nx r2 M2
    | o => o) else .nx r M1
def sWhile (n : Nat) (c : EvB) (body : Sx) : Sx := fun r M => whileGo c body n r M
theorem while_core {K : PySem.W.Frag} {n : Nat} {c : EvB} {body : Sx} {D : Ends} {σ : L2.St} {H : Hp} (h : denS K (sWhile n c body) D σ H) : tWhile (denT K c) (denS K body) D σ H := by
  obtain ⟨mu, M, r, g, s, h⟩ := h
  refine ⟨fun m σ' H' => ∃ mu' M' r', Good K mu' M' H' ∧ RS K mu' H' r' σ' ∧ PostS K mu' H' D (whileGo c body m r' M'), ⟨n, mu, M, r, g, s, h⟩, ?_⟩
  rintro m σ' H' ⟨mu', M', r', g', s', h'⟩
  cases m with
  | zero => exact False.elim h'
  | succ m =>
    simp only [whileGo] at h'
    refine ⟨mu', M', r', g', s', (PostS.thenO h').imp fun k M1 mu1 H1 e1 g1 h1 => ?_⟩
    cases k with
    | false => rw [if_neg (by decide)] at h1 ⊢; exact h1 σ' mu1 H1 Ext.refl g1 (s'.ext e1)
    | true =>
      rw [if_pos rfl] at h1 ⊢
      refine ⟨fun σ2 H2 => ∃ mu2 M2 r2, Good K mu2 M2 H2 ∧ RS K mu2 H2 r2 σ2 ∧ PostS K mu2 H2 D (whileGo c body m r2 M2), fun σ2 H2 q => ⟨m, by omega, q⟩, mu1, M1, r', g1, s'.ext e1, ?_⟩
      cases q : body r' M1 with
      | nx r2 M2 => rw [q] at h1; exact fun σ3 mu3 H3 e4 g4 s4 => ⟨mu3, M2, r2, g4, s4, PostS.ext e4 h1⟩
      | ct r2 M2 => rw [q] at h1; exact fun σ3 mu3 H3 e4 g4 s4 => ⟨mu3, M2, r2, g4, s4, PostS.ext e4 h1⟩
      | bk r2 M2 => rw [q] at h1; exact fun σ3 mu3 H3 e4 g4 s4 => h1 σ3 mu3 H3 e4 g4 s4
      | rt w2 M2 => rw [q] at h1; exact fun σ3 mu3 H3 e4 g4 s4 => h1 σ3 mu3 H3 e4 g4 s4
      | exc c2 M2 => rw [q] at h1; exact h1
      | bad => rw [q] at h1; exact h1
theorem ss_while {X : Cx} {c : Expr} {body : List Stmt} {bc : EvB} {b : Sx} {pos : Pos} (n : Nat) (hp : PassesOwn (model X.prog X.w) X.A X.env X.xe) (hc : PT X c (denT X.K bc)) (hb : PSs X body (denS X.K b)) : PS X (.While c body [] pos) (denS X.K (sWhile n bc b)) :=
  PS.of (ps_while hp hc hb) fun D σ H h => while_core h

/-! ## calls with keywords -/
def perm {α : Type} (is : List Nat) (l : List α) : List α := is.filterMap (l[·]?)
theorem vals_perm {vs : List V} {us : List Value} (r : Vals vs us) : ∀ is : List Nat, Vals (perm is vs) (perm is us)
  | [] => .nil
  | i :: is => by
    unfold perm
    rw [List.filterMap_cons, List.filterMap_cons]
    cases q : vs[i]? with
    | none => rw [r.none_of q]; exact vals_perm r is
    | some v =>
      obtain ⟨u, h1, h2⟩ := r.get q
      rw [h1]
      exact .cons h2 (vals_perm r is)
theorem rvs_perm {K mu H} {ws : List W} {vs : List V} (r : RVs K mu H ws vs) : ∀ is : List Nat, RVs K mu H (perm is ws) (perm is vs)
  | [] => .nil
  | i :: is => by
    unfold perm
    rw [List.filterMap_cons, List.filterMap_cons]
    cases q : ws[i]? with
    | none =>
      have : vs[i]? = none := by rw [List.getElem?_eq_none_iff] at q ⊢; rw [← r.length]; exact q
      rw [this]; exact rvs_perm r is
    | some v =>
      obtain ⟨u, h1, h2⟩ := r.get q
      rw [h1]
      exact .cons h2 (rvs_perm r is)
def eCallK (f : Fn) (n m : Nat) (is : List Nat) (ms mk : EvL) : Ev := fun r M => (ms r M).bind fun ws M1 => (mk r M1).bind fun us M2 => if ws.length = n ∧ us.length = m then f (perm is (ws ++ us)) M2 else .bad
section
variable {X : Cx} {k n : Nat} {f : Addr} {fd : FuncData} {ps ks : List Str} {x : Str} {p pos kpos : Pos} {e : Expr} {es : List Expr} {kws : List Keyword} {ms mk : EvL} {m : Ev} {g : Fn} {is : List Nat} {nm : Option Str}
theorem sk_nil : PK X [] (denA X.K aNil) := PK.of pk_nil fun σ H Q ⟨mu, M, r, g, s, h⟩ => h mu H Ext.refl g [] .nil
theorem sk_cons (he : PE X e (den X.K m)) (hes : PK X kws (denA X.K ms)) : PK X (⟨nm, e, kpos⟩ :: kws) (denA X.K (aCons m ms)) := by
  refine PK.of (pk_cons he hes) fun σ H Q ⟨mu, M, r, g, s, h⟩ => ?_
  refine ⟨mu, M, r, g, s, (Post.bind h).imp fun x M1 mu1 H1 e1 g1 h1 vx rx => ?_⟩
  refine ⟨mu1, M1, r, g1, s.ext e1, (Post.bind h1).imp fun xs M2 mu2 H2 e2 g2 h2 vs rs => ?_⟩
  exact h2 mu2 H2 Ext.refl g2 _ (.cons (rx.ext e2) rs)
theorem callK_core {K : PySem.W.Frag} {ar l : Nat} {σ H Q} (hn : ∀ ws M, ws.length ≠ ar → g ws M = .bad) (h : den K (eCallK g n l is ms mk) σ H Q) : tCallN n l (spF K ar g) (fun vs zs => perm is (vs ++ zs)) E0 (denA K ms) (denA K mk) σ H Q := by
  obtain ⟨mu, M, r, gd, s, h⟩ := h
  refine ⟨mu, M, r, gd, s, (Post.bind h).imp fun ws M1 mu1 H1 e1 g1 h1 vs rs => ?_⟩
  refine ⟨mu1, M1, r, g1, s.ext e1, (Post.bind h1).imp fun us M2 mu2 H2 e2 g2 h2 zs rz => ?_⟩
  split at h2
  · rename_i hl
    have rr := rvs_perm ((rs.ext e2).append rz) is
    refine ⟨by rw [← rs.length]; exact hl.1, by rw [← rz.length]; exact hl.2, ?_⟩
    by_cases hq : (perm is (ws ++ us)).length = ar
    · exact ⟨by rw [← rr.length]; exact hq, mu2, M2, _, g2, rr, h2⟩
    · rw [hn _ M2 hq] at h2; exact False.elim h2
  · exact False.elim h2
theorem kbn_of (h : ∀ (s : Shared) (us ws : List Value), us.length = n → ws.length = ks.length → BindsTo s fd ⟨us, ks.zip ws⟩ (ps.zip (perm is (us ++ ws)))) : KBn X.K fd ps n ks (fun us ws => perm is (us ++ ws)) (fun vs zs => perm is (vs ++ zs)) :=
  ⟨fun s us ws _ h1 h2 => h s us ws h1 h2, fun r rz => vals_perm (r.append rz) is⟩
theorem sd_callK {ar : Nat} (F : FnOk X.prog X.w X.K X.mg X.base CX0 k f fd ps (spF X.K ar g)) (hn : ∀ ws M, ws.length ≠ ar → g ws M = .bad) (hr : Room k X.A) (hg : Gl X x) (hm : X.mg x = some (.ref f)) (hk : PySem.W.keepIn X.K (.ref f) = true)
    (hb : KBn X.K fd ps n ks (fun us ws => perm is (us ++ ws)) (fun vs zs => perm is (vs ++ zs)))
    (ha : PA X (e :: es) (denA X.K ms)) (hkw : PK X kws (denA X.K mk)) (hall : (backToKw pos (keywordEach kws X.env)).all (·.1.isSome) = true := by rfl) (hks : (backToKw pos (keywordEach kws X.env)).filterMap (·.1) = ks := by rfl)
    (hdb : (x == ("__debug__" : Str)) = false := by decide) (he : starEach (e :: es) X.env = (false, eval e X.env) :: starEach es X.env := by rfl)
    (hpl : ((backTo pos (starEach (e :: es) X.env)).any (·.1) || (backToKw pos (keywordEach kws X.env)).any (·.1.isNone)) = false := by rfl) :
    PE X (.Call (.Name x p) (e :: es) kws pos) (den X.K (eCallK g n ks.length is ms mk)) :=
  PE.of (pe_callN F hr hg hm hk hb pass0 ha hkw hall hks hdb he hpl) fun σ H Q h => callK_core hn h
theorem sd_callK0 {ar : Nat} (F : FnOk X.prog X.w X.K X.mg X.base CX0 k f fd ps (spF X.K ar g)) (hn : ∀ ws M, ws.length ≠ ar → g ws M = .bad) (hr : Room k X.A) (hg : Gl X x) (hm : X.mg x = some (.ref f)) (hk : PySem.W.keepIn X.K (.ref f) = true)
    (hb : KBn X.K fd ps 0 ks (fun us ws => perm is (us ++ ws)) (fun vs zs => perm is (vs ++ zs)))
    (hkw : PK X kws (denA X.K mk)) (hall : (backToKw pos (keywordEach kws X.env)).all (·.1.isSome) = true := by rfl) (hks : (backToKw pos (keywordEach kws X.env)).filterMap (·.1) = ks := by rfl)
    (hdb : (x == ("__debug__" : Str)) = false := by decide)
    (hpl : ((backTo pos (starEach [] X.env)).any (·.1) || (backToKw pos (keywordEach kws X.env)).any (·.1.isNone)) = false := by rfl) :
    PE X (.Call (.Name x p) [] kws pos) (den X.K (eCallK g 0 ks.length is aNil mk)) := by
  refine PE.of (t := tCallN 0 ks.length (spF X.K ar g) (fun vs zs => perm is (vs ++ zs)) E0 tNil (denA X.K mk)) ⟨fun pins s σ H Q I h => ?_⟩ fun σ H Q h => ?_
  · refine wpAny_Call_Name_kw (ld_glob I hg hm ?_ hdb)
    refine PySem.W.callWith_KW0 (h₀ := X.base) I.ok.mod.kin hk hall ?_ hpl
    refine thn (hkw.run pos pins s σ H _ I h) fun ws s2 ⟨zs, H2, I2, rz, l1, l2, q2⟩ => ⟨I2.kIn, ?_⟩
    rw [hks]
    exact run_fnN (us := []) (vs := []) F hr hb pass0 I2 .nil rz l1 l2 q2
  · obtain ⟨mu, M, r, gd, s, h⟩ := callK_core hn h
    exact h mu H Ext.refl gd [] .nil
end
end Py

namespace Py
open PySem L2

/-! ## short words for the printed derivations -/
theorem un70 {A : Around} {k : Nat} (hr : Room k A) : A.units + 70 < cLine := by have := hr.un; omega
theorem un65 {A : Around} {k : Nat} (hr : Room k A) : A.units + 65 < cLine := by have := hr.un; omega
theorem un64 {A : Around} {k : Nat} (hr : Room k A) : A.units + 64 < cLine := by have := hr.un; omega
theorem un1 {A : Around} {k : Nat} (hr : Room k A) : A.units + 1 < cLine := by have := hr.un; omega
/-- a def of the text -/
structure DefAt (K : PySem.W.Frag) (mg : Str → Option Value) (x : Str) (st : Stmt) (ps : List Str) where
  a : Addr
  fd : FuncData
  F : Fun K x x st a fd
  m : mg x = some (.ref a)
  b : Binds K fd ps []
section
variable {X : Cx} {k : Nat} {a b c : Expr} {ma mb mc : Ev} {pos p : Pos}
theorem v_ (i : Nat) {x : Str} (hN : X.N[i]? = some x := by rfl) (hv : Vis X.env.scope x := by first | exact Or.inl rfl | exact Or.inr (Or.inl rfl) | exact Or.inr (Or.inr rfl)) (hd : (x == ("__debug__" : Str)) = false := by decide) (hcd : (x == ("__classdict__" : Str)) = false := by decide) :
    PE X (.Name x pos) (den X.K (eVar i)) := sd_var (pe_var hN hv hd hcd)
theorem sd_eq (hr : Room k X.A) (ha : PE X a (den X.K ma)) (hb : PE X b (den X.K mb)) : PE X (.Compare a [.Eq] [b] pos) (den X.K (eOp eqO ma mb)) := sd_cmp (op_eqD (un64 hr)) os_eq ha hb (nomark _)
theorem sd_ne (hr : Room k X.A) (ha : PE X a (den X.K ma)) (hb : PE X b (den X.K mb)) : PE X (.Compare a [.NotEq] [b] pos) (den X.K (eOp neO ma mb)) := sd_cmp (op_neD (un64 hr)) os_ne ha hb (nomark _)
theorem sd_lt (ha : PE X a (den X.K ma)) (hb : PE X b (den X.K mb)) : PE X (.Compare a [.Lt] [b] pos) (den X.K (eOp ltW ma mb)) := sd_cmp (op_lt.or op_lt_str) os_cmp ha hb (nomark _)
theorem sd_le (ha : PE X a (den X.K ma)) (hb : PE X b (den X.K mb)) : PE X (.Compare a [.LtE] [b] pos) (den X.K (eOp leW ma mb)) := sd_cmp (op_le.or op_le_str) os_cmp ha hb (nomark _)
theorem sd_gt (ha : PE X a (den X.K ma)) (hb : PE X b (den X.K mb)) : PE X (.Compare a [.Gt] [b] pos) (den X.K (eOp gtW ma mb)) := sd_cmp (op_gt.or op_gt_str) os_cmp ha hb (nomark _)
theorem sd_ge (ha : PE X a (den X.K ma)) (hb : PE X b (den X.K mb)) : PE X (.Compare a [.GtE] [b] pos) (den X.K (eOp geW ma mb)) := sd_cmp (op_ge.or op_ge_str) os_cmp ha hb (nomark _)
theorem sd_in (hr : Room k X.A) (ha : PE X a (den X.K ma)) (hb : PE X b (den X.K mb)) (hm : behindInMarks .In b = false := by rfl) : PE X (.Compare a [.In] [b] pos) (den X.K (eOp inW ma mb)) := sd_cmp (or_in (un65 hr)) os_in ha hb hm
theorem sd_nin (hr : Room k X.A) (ha : PE X a (den X.K ma)) (hb : PE X b (den X.K mb)) (hm : behindInMarks .NotIn b = false := by rfl) : PE X (.Compare a [.NotIn] [b] pos) (den X.K (eOp ninW ma mb)) := sd_cmp (or_nin (un65 hr)) os_nin ha hb hm
theorem sd_is (ha : PE X a (den X.K ma)) (hb : PE X b (den X.K mb)) : PE X (.Compare a [.Is] [b] pos) (den X.K (eOp isN ma mb)) := sd_cmp op_isN os_isN ha hb (nomark _)
theorem sd_isnot (ha : PE X a (den X.K ma)) (hb : PE X b (den X.K mb)) : PE X (.Compare a [.IsNot] [b] pos) (den X.K (eOp isnN ma mb)) := sd_cmp op_notN os_isnN ha hb (nomark _)
theorem bl_eq : ∀ x y w, eqO x y = some w → ∃ k, w = .bl k := fun x y w h => by unfold eqO at h; split at h <;> cases h; exact ⟨_, rfl⟩
theorem bl_ne : ∀ x y w, neO x y = some w → ∃ k, w = .bl k := fun x y w h => by unfold neO at h; split at h <;> cases h; exact ⟨_, rfl⟩
theorem bl_cmp {p q} : ∀ x y w, cmpW p q x y = some w → ∃ k, w = .bl k := fun x y w h => by unfold cmpW at h; split at h <;> cases h <;> exact ⟨_, rfl⟩
theorem bl_in : ∀ x y w, inW x y = some w → ∃ k, w = .bl k := fun x y w h => by unfold inW at h; obtain ⟨b, _, e⟩ := Option.map_eq_some_iff.mp h; exact ⟨_, e.symm⟩
theorem bl_nin : ∀ x y w, ninW x y = some w → ∃ k, w = .bl k := fun x y w h => by unfold ninW at h; obtain ⟨b, _, e⟩ := Option.map_eq_some_iff.mp h; exact ⟨_, e.symm⟩
theorem bl_is : ∀ x y w, isN x y = some w → ∃ k, w = .bl k := fun x y w h => by unfold isN at h; split at h <;> cases h; exact ⟨_, rfl⟩
theorem bl_isn : ∀ x y w, isnN x y = some w → ∃ k, w = .bl k := fun x y w h => by unfold isnN at h; split at h <;> cases h; exact ⟨_, rfl⟩
theorem st_eq (hr : Room k X.A) (ha : PE X a (den X.K ma)) (hb : PE X b (den X.K mb)) : PT X (.Compare a [.Eq] [b] pos) (denT X.K (bT (eOp eqO ma mb))) := st_cmp (op_eqD (un64 hr)) os_eq bl_eq ha hb (nomark _)
theorem st_ne (hr : Room k X.A) (ha : PE X a (den X.K ma)) (hb : PE X b (den X.K mb)) : PT X (.Compare a [.NotEq] [b] pos) (denT X.K (bT (eOp neO ma mb))) := st_cmp (op_neD (un64 hr)) os_ne bl_ne ha hb (nomark _)
theorem st_lt (ha : PE X a (den X.K ma)) (hb : PE X b (den X.K mb)) : PT X (.Compare a [.Lt] [b] pos) (denT X.K (bT (eOp ltW ma mb))) := st_cmp (op_lt.or op_lt_str) os_cmp bl_cmp ha hb (nomark _)
theorem st_le (ha : PE X a (den X.K ma)) (hb : PE X b (den X.K mb)) : PT X (.Compare a [.LtE] [b] pos) (denT X.K (bT (eOp leW ma mb))) := st_cmp (op_le.or op_le_str) os_cmp bl_cmp ha hb (nomark _)
theorem st_gt (ha : PE X a (den X.K ma)) (hb : PE X b (den X.K mb)) : PT X (.Compare a [.Gt] [b] pos) (denT X.K (bT (eOp gtW ma mb))) := st_cmp (op_gt.or op_gt_str) os_cmp bl_cmp ha hb (nomark _)
theorem st_ge (ha : PE X a (den X.K ma)) (hb : PE X b (den X.K mb)) : PT X (.Compare a [.GtE] [b] pos) (denT X.K (bT (eOp geW ma mb))) := st_cmp (op_ge.or op_ge_str) os_cmp bl_cmp ha hb (nomark _)
theorem st_in (hr : Room k X.A) (ha : PE X a (den X.K ma)) (hb : PE X b (den X.K mb)) (hm : behindInMarks .In b = false := by rfl) : PT X (.Compare a [.In] [b] pos) (denT X.K (bT (eOp inW ma mb))) := st_cmp (or_in (un65 hr)) os_in bl_in ha hb hm
theorem st_nin (hr : Room k X.A) (ha : PE X a (den X.K ma)) (hb : PE X b (den X.K mb)) (hm : behindInMarks .NotIn b = false := by rfl) : PT X (.Compare a [.NotIn] [b] pos) (denT X.K (bT (eOp ninW ma mb))) := st_cmp (or_nin (un65 hr)) os_nin bl_nin ha hb hm
theorem st_is (ha : PE X a (den X.K ma)) (hb : PE X b (den X.K mb)) : PT X (.Compare a [.Is] [b] pos) (denT X.K (bT (eOp isN ma mb))) := st_cmp op_isN os_isN bl_is ha hb (nomark _)
theorem st_isnot (ha : PE X a (den X.K ma)) (hb : PE X b (den X.K mb)) : PT X (.Compare a [.IsNot] [b] pos) (denT X.K (bT (eOp isnN ma mb))) := st_cmp op_notN os_isnN bl_isn ha hb (nomark _)
/-! ### chains -/
def eChain (f g : W → W → Option W) (ma mb mc : Ev) : Ev := fun r M => (ma r M).bind fun x M1 => (mb r M1).bind fun y M2 => match f (rd M2 x) (rd M2 y) with
  | some (.bl true) => (mc r M2).bind fun z M3 => R.ofO (g (rd M3 y) (rd M3 z)) M3
  | some (.bl false) => .ok (.bl false) M2
  | _ => .bad
theorem chain_core {K : PySem.W.Frag} {f g : W → W → Option W} {t t' : R2} (hs : OpS K t f) (hs' : OpS K t' g) {σ H Q} (h : den K (eChain f g ma mb mc) σ H Q) : tChain t t' (den K ma) (den K mb) (den K mc) σ H Q := by
  obtain ⟨mu, M, r, gd, s, h⟩ := h
  refine ⟨mu, M, r, gd, s, (Post.bind h).imp fun x M1 mu1 H1 e1 g1 h1 vx rx => ?_⟩
  refine ⟨mu1, M1, r, g1, s.ext e1, (Post.bind h1).imp fun y M2 mu2 H2 e2 g2 h2 vy ry => ?_⟩
  cases q : f (rd M2 x) (rd M2 y) with
  | none => simp only [q] at h2; exact False.elim h2
  | some w =>
    refine hs mu2 M2 H2 _ _ vx vy w _ g2 ((rx.ext e2).rd g2) (ry.rd g2) q fun v H' e' g' rv => ?_
    cases rv with
    | bl kk =>
      refine ⟨kk, rfl, ?_⟩
      cases kk with
      | false => simp only [q] at h2; rw [if_neg (by decide)]; exact h2 mu2 H' e' g' _ (.bl _)
      | true =>
        simp only [q] at h2
        rw [if_pos rfl]
        have h2' := Post.ext e' h2
        refine ⟨mu2, M2, r, g', ((s.ext e1).ext e2).ext e', (Post.bind h2').imp fun z M3 mu3 H3 e3 g3 h3 vz rz => ?_⟩
        cases q3 : g (rd M3 y) (rd M3 z) with
        | none => rw [q3] at h3; exact False.elim h3
        | some w3 =>
          rw [q3] at h3
          exact hs' mu3 M3 H3 _ _ vy vz w3 _ g3 (((ry.ext e').ext e3).rd g3) (rz.rd g3) q3 fun v4 H4 e4 g4 rv4 => h3 mu3 H4 e4 g4 v4 rv4
    | _ => simp only [q] at h2; exact False.elim h2
end
end Py

namespace Py
open PySem PySem.Spec PyProof.Rows L2

/-! ## a def of the text, as the head tells it -/
abbrev FnP (K : PySem.W.Frag) (x : Str) (st : Stmt) (f : Addr) (fd : FuncData) : Prop := FunD K x x (defArgs st) (defBody st) (defScope st) [] [] f fd
structure DfA (K : PySem.W.Frag) (mg : Str → Option Value) (x : Str) (st : Stmt) (ps : List Str) : Type where
  a : Addr
  fd : FuncData
  F : FnP K x st a fd
  m : mg x = some (.ref a)
  b : Binds K fd ps []
/-- a def keeps the promise of its small form -/
def OkF (P : Program) (w : World) (K : PySem.W.Frag) (mg : Str → Option Value) (base : Heap) {x : Str} {st : Stmt} {ps : List Str} (D : DfA K mg x st ps) (f : Nat → Fn) : Prop :=
  ∀ d, FnOk P w K mg base CX0 d D.a D.fd ps (spF K ps.length (f d))
section
variable {P : Program} {w : World} {K : PySem.W.Frag} {mg : Str → Option Value} {base : Heap}
theorem fn_okD {x : Str} {st : Stmt} {f : Addr} {fd : FuncData} {N ps : List Str} {k : Nat} {keep : Bool} {body : Sx} (F : FnP K x st f fd) (S : FnScope N ps (defScope st))
    (hbody : ∀ (cdv : Value) (A : Around) (outer : List Env) (s : Shared) (H : Hp) (E : XK), Room k (A.deeper (PyProof.Rows.envOfC x (defScope st) s.heap.objs.size f cdv)) →
      PSs (cxOf CX0 P w K mg base N x (defScope st) f cdv A outer s H E).nox (defBody st) (denS K body)) : FnOk P w K mg base CX0 (k + 1) f fd ps (spF K ps.length (Py.fnOf ps.length N.length keep body)) := by
  refine F.ok S (fun vs H Q E h => h.1) fun cdv A outer s H vs Q E hr hsp => ⟨denS K body, PSs.nox (hbody cdv A outer s H E hr), ?_⟩
  obtain ⟨hl, mu, M, ws, g, rv, h⟩ := hsp
  have hw : ws.length = ps.length := by rw [rv.length]; exact hl
  unfold Py.fnOf at h
  rw [if_pos hw] at h
  refine ⟨mu, M, _, g, start_rs rv, ?_⟩
  rw [hw]
  cases q : body (ws.map some ++ List.replicate (N.length - ps.length) none) M with
  | rt w0 M' =>
    rw [q] at h
    intro v mu' H' x g' rv'
    obtain ⟨w2, M2, mu2, x2, g2, r2, p2⟩ := fin_ok g.len x g' rv' h
    exact p2 v r2
  | nx r0 M' =>
    rw [q] at h
    intro σ mu' H' x g' _
    obtain ⟨w2, M2, mu2, x2, g2, r2, p2⟩ := fin_ok g.len x g' (.non) h
    exact p2 .non r2
  | exc c M' => rw [q] at h; exact False.elim h
  | bk r0 M' => rw [q] at h; exact False.elim h
  | ct r0 M' => rw [q] at h; exact False.elim h
  | bad => rw [q] at h; exact False.elim h
end
/-! ## calls of the text's own defs -/
section
variable {X : Cx} {k : Nat} {x : Str} {st : Stmt} {ps : List Str} {p pos : Pos} {e : Expr} {es : List Expr} {ms mk : EvL} {g : Fn} {n : Nat} {ks : List Str} {is : List Nat} {kws : List Keyword}
theorem c_ (D : DfA X.K X.mg x st ps) (F : FnOk X.prog X.w X.K X.mg X.base CX0 k D.a D.fd ps (spF X.K ps.length g)) (hn : ∀ ws M, ws.length ≠ ps.length → g ws M = .bad) (hr : Room k X.A)
    (ha : PA X (e :: es) (denA X.K ms)) (hg : Gl X x := by rfl) (hdb : (x == ("__debug__" : Str)) = false := by decide) (he : starEach (e :: es) X.env = (false, eval e X.env) :: starEach es X.env := by rfl) (hpl : (backTo pos (starEach es X.env)).any (·.1) = false := by rfl) :
    PE X (.Call (.Name x p) (e :: es) [] pos) (den X.K (eCall g ms)) := sd_call F hn hr hg D.m D.F.kp D.b ha hdb he hpl
theorem c0_ (D : DfA X.K X.mg x st ps) (F : FnOk X.prog X.w X.K X.mg X.base CX0 k D.a D.fd ps (spF X.K ps.length g)) (hn : ∀ ws M, ws.length ≠ ps.length → g ws M = .bad) (hr : Room k X.A)
    (hg : Gl X x := by rfl) (hdb : (x == ("__debug__" : Str)) = false := by decide) : PE X (.Call (.Name x p) [] [] pos) (den X.K (eCall g aNil)) := sd_call0 F hn hr hg D.m D.F.kp D.b hdb
theorem FnP.kb {K : PySem.W.Frag} {x : Str} {st : Stmt} {f : Addr} {fd : FuncData} {ps : List Str} {n : Nat} {ks : List Str} {is : List Nat} (F : FnP K x st f fd)
    (h : ∀ (kV doc pm : Value) (an : Option Addr) (cdv ct : Value) (us ws : List Value), us.length = n → ws.length = ks.length → bindArgs (PySem.W.fnOf x x (defArgs st) (defBody st) (defScope st) .none kV doc pm an cdv ct) ⟨us, ks.zip ws⟩ = pure (ps.zip (perm is (us ++ ws)))) :
    KBn K fd ps n ks (fun us ws => perm is (us ++ ws)) (fun vs zs => perm is (vs ++ zs)) := by
  obtain ⟨oc, od, dV, kV, doc, pm, an, cdv, ct, osl, rfl, lk, hcd, hD, hK⟩ := F.ex
  rcases hD with ⟨_, rfl⟩ | ⟨e, _⟩
  · exact ⟨fun s us ws _ h1 h2 => .of_eq (h kV doc pm an cdv ct us ws h1 h2), fun r rz => vals_perm (r.append rz) is⟩
  · exact absurd rfl e
theorem ck_ (is : List Nat) (D : DfA X.K X.mg x st ps) (F : FnOk X.prog X.w X.K X.mg X.base CX0 k D.a D.fd ps (spF X.K ps.length g)) (hn : ∀ ws M, ws.length ≠ ps.length → g ws M = .bad) (hr : Room k X.A)
    (hb : KBn X.K D.fd ps n ks (fun us ws => perm is (us ++ ws)) (fun vs zs => perm is (vs ++ zs))) (ha : PA X (e :: es) (denA X.K ms)) (hkw : PK X kws (denA X.K mk)) (hg : Gl X x := by rfl)
    (hall : (backToKw pos (keywordEach kws X.env)).all (·.1.isSome) = true := by rfl) (hks : (backToKw pos (keywordEach kws X.env)).filterMap (·.1) = ks := by rfl)
    (hdb : (x == ("__debug__" : Str)) = false := by decide) (he : starEach (e :: es) X.env = (false, eval e X.env) :: starEach es X.env := by rfl)
    (hpl : ((backTo pos (starEach (e :: es) X.env)).any (·.1) || (backToKw pos (keywordEach kws X.env)).any (·.1.isNone)) = false := by rfl) :
    PE X (.Call (.Name x p) (e :: es) kws pos) (den X.K (eCallK g n ks.length is ms mk)) := sd_callK F hn hr hg D.m D.F.kp hb ha hkw hall hks hdb he hpl
theorem ck0_ (is : List Nat) (D : DfA X.K X.mg x st ps) (F : FnOk X.prog X.w X.K X.mg X.base CX0 k D.a D.fd ps (spF X.K ps.length g)) (hn : ∀ ws M, ws.length ≠ ps.length → g ws M = .bad) (hr : Room k X.A)
    (hb : KBn X.K D.fd ps 0 ks (fun us ws => perm is (us ++ ws)) (fun vs zs => perm is (vs ++ zs))) (hkw : PK X kws (denA X.K mk)) (hg : Gl X x := by rfl)
    (hall : (backToKw pos (keywordEach kws X.env)).all (·.1.isSome) = true := by rfl) (hks : (backToKw pos (keywordEach kws X.env)).filterMap (·.1) = ks := by rfl)
    (hdb : (x == ("__debug__" : Str)) = false := by decide)
    (hpl : ((backTo pos (starEach [] X.env)).any (·.1) || (backToKw pos (keywordEach kws X.env)).any (·.1.isNone)) = false := by rfl) :
    PE X (.Call (.Name x p) [] kws pos) (den X.K (eCallK g 0 ks.length is aNil mk)) := sd_callK0 F hn hr hg D.m D.F.kp hb hkw hall hks hdb hpl
end
/-! ## built-ins by name -/
section
variable {X : Cx} {k : Nat} {p p1 p2 pos : Pos} {e e2 : Expr} {es : List Expr} {m m2 : Ev} {ms : EvL}
theorem sd_len (hm : X.mg "len" = none) (h : PE X e (den X.K m)) (hg : Gl X "len" := by rfl) (he : starEach [e] X.env = (false, eval e X.env) :: starEach [] X.env := by rfl) : PE X (.Call (.Name "len" p) [e] [] pos) (den X.K (eBi (b1 lenW) (aCons m aNil))) :=
  sd_of cs_lenS (pe_callB cs_len hg hm boot_len (sa_cons h sa_nil he) (by decide) (by decide) he)
theorem sd_abs (hm : X.mg "abs" = none) (h : PE X e (den X.K m)) (hg : Gl X "abs" := by rfl) (he : starEach [e] X.env = (false, eval e X.env) :: starEach [] X.env := by rfl) : PE X (.Call (.Name "abs" p) [e] [] pos) (den X.K (eBi (b1 absW) (aCons m aNil))) :=
  sd_of cs_abs (pe_callB call_abs hg hm (by decide +kernel) (sa_cons h sa_nil he) (by decide) (by decide) he)
theorem sd_intc (hm : X.mg "int" = none) (h : PE X e (den X.K m)) (hg : Gl X "int" := by rfl) (he : starEach [e] X.env = (false, eval e X.env) :: starEach [] X.env := by rfl) : PE X (.Call (.Name "int" p) [e] [] pos) (den X.K (eBi (b1 intW) (aCons m aNil))) :=
  sd_of cs_int (pe_callTy call_int1 hg hm (by decide +kernel) (sa_cons h sa_nil he) (by decide) (by decide) he)
theorem sd_all (hc : X.calm = true) (hm : X.mg "all" = none) (h : PE X e (den X.K m)) (hg : Gl X "all" := by rfl) (he : starEach [e] X.env = (false, eval e X.env) :: starEach [] X.env := by rfl) : PE X (.Call (.Name "all" p) [e] [] pos) (den X.K (eBi (b1 allW) (aCons m aNil))) :=
  sd_of cs_all (pe_callB (cr_all hc) hg hm (by decide +kernel) (sa_cons h sa_nil he) (by decide) (by decide) he)
theorem sd_any (hc : X.calm = true) (hm : X.mg "any" = none) (h : PE X e (den X.K m)) (hg : Gl X "any" := by rfl) (he : starEach [e] X.env = (false, eval e X.env) :: starEach [] X.env := by rfl) : PE X (.Call (.Name "any" p) [e] [] pos) (den X.K (eBi (b1 anyW) (aCons m aNil))) :=
  sd_of cs_any (pe_callB (cr_any hc) hg hm (by decide +kernel) (sa_cons h sa_nil he) (by decide) (by decide) he)
theorem sd_min2 (hc : X.calm = true) (hm : X.mg "min" = none) (h : PE X e (den X.K m)) (h2 : PE X e2 (den X.K m2)) (hg : Gl X "min" := by rfl) (he : starEach [e, e2] X.env = (false, eval e X.env) :: starEach [e2] X.env := by rfl) (he2 : starEach [e2] X.env = (false, eval e2 X.env) :: starEach [] X.env := by rfl) (hpl : (backTo pos (starEach [e2] X.env)).any (·.1) = false := by rfl) :
    PE X (.Call (.Name "min" p) [e, e2] [] pos) (den X.K (eBi (b2 minI) (aCons m (aCons m2 aNil)))) :=
  sd_of cs_two (pe_callB (call_min2 hc) hg hm boot_min (sa_cons h (sa_cons h2 sa_nil he2) he) (by decide) (by decide) he hpl)
theorem sd_max2 (hc : X.calm = true) (hm : X.mg "max" = none) (h : PE X e (den X.K m)) (h2 : PE X e2 (den X.K m2)) (hg : Gl X "max" := by rfl) (he : starEach [e, e2] X.env = (false, eval e X.env) :: starEach [e2] X.env := by rfl) (he2 : starEach [e2] X.env = (false, eval e2 X.env) :: starEach [] X.env := by rfl) (hpl : (backTo pos (starEach [e2] X.env)).any (·.1) = false := by rfl) :
    PE X (.Call (.Name "max" p) [e, e2] [] pos) (den X.K (eBi (b2 maxI) (aCons m (aCons m2 aNil)))) :=
  sd_of cs_two (pe_callB (call_max2 hc) hg hm (by decide +kernel) (sa_cons h (sa_cons h2 sa_nil he2) he) (by decide) (by decide) he hpl)
theorem sl_list (hm : X.mg "list" = none) (h : PE X e (den X.K m)) (hg : Gl X "list" := by rfl) (he : starEach [e] X.env = (false, eval e X.env) :: starEach [] X.env := by rfl) : PE X (.Call (.Name "list" p) [e] [] pos) (denL X.K (lBi listW (aCons m aNil))) :=
  sl_of cs_list (pe_callTy call_list_of hg hm boot_list (sa_cons h sa_nil he) (by decide) (by decide) he)
theorem sl_sorted (hr : Room k X.A) (hm : X.mg "sorted" = none) (h : PE X e (den X.K m)) (hg : Gl X "sorted" := by rfl) (he : starEach [e] X.env = (false, eval e X.env) :: starEach [] X.env := by rfl) : PE X (.Call (.Name "sorted" p) [e] [] pos) (denL X.K (lBi sortedW (aCons m aNil))) :=
  sl_of cs_sorted (pe_callB (cr_sortW (un70 hr)) hg hm boot_sorted (sa_cons h sa_nil he) (by decide) (by decide) he)
theorem sD_dictc (hc : X.calm = true) (hm : X.mg "dict" = none) (h : PE X e (den X.K m)) (hg : Gl X "dict" := by rfl) (he : starEach [e] X.env = (false, eval e X.env) :: starEach [] X.env := by rfl) : PE X (.Call (.Name "dict" p) [e] [] pos) (denD X.K (dBi m)) :=
  sD_dict hc (pe_callTy ((cr_dictT hc).or (call_dictP hc)) hg hm (by decide +kernel) (pa_cons h pa_nil he) (by decide) (by decide) he)
/-! ### tuple(x), x a text too -/
def tuplW : W → Option W
  | .str l => if l.length ≤ line then some (.tup true (l.map fun c => .str [c])) else none
  | w => tupleW w
def rTupS (K : PySem.W.Frag) : List V → Hp → VK → Prop := fun xs H Q => rTupleK K xs H Q ∨ ∃ z : Str, xs = [.str z] ∧ z.length ≤ sizeLine ∧ ∀ l o, o.dict = none → H l = none → Q (.ref l) (L2.upd H l (.frz o (.tup (z.cps.toList.map fun c => V.str ⟨#[c]⟩))))
theorem cr_tupS (hc : X.calm = true) : CallR X (.type "tuple") (fun xs H Q => ∃ z : Str, xs = [.str z] ∧ z.length ≤ sizeLine ∧ ∀ l o, o.dict = none → H l = none → Q (.ref l) (L2.upd H l (.frz o (.tup (z.cps.toList.map fun c => V.str ⟨#[c]⟩))))) := by
  intro pins s σ H xs us Q I r h
  obtain ⟨z, rfl, hz, q⟩ := h
  obtain ⟨u, rfl, rx⟩ := vals1 r
  obtain ⟨t, rfl⟩ := rx
  refine call_tuple_str (I.ok.hd hc) z t (fun h' tk acc hk hi => ?_) hz
  have I1 : Inv X pins σ H { s with heap := h', toks := tk } := I.kept hk
  have e : acc = acc.toList.toArray := by simp
  have rv : Vals (z.cps.toList.map fun c => V.str ⟨#[c]⟩) acc.toList := by
    refine vals_of_at (by rw [List.length_map, Array.length_toList, Array.length_toList, hi.1]) fun j x u hx hu => ?_
    rw [List.getElem?_map, Array.getElem?_toList] at hx
    rw [Array.getElem?_toList] at hu
    have := hi.2 j u hu
    cases q9 : z.cps[j]? with
    | none => rw [q9] at hx; cases hx
    | some c =>
      rw [q9] at hx
      cases hx
      obtain ⟨c', u', h1, h2⟩ := this
      rw [q9] at h1
      cases h1
      exact ⟨u', h2⟩
  rw [e]
  exact ⟨.ref h'.objs.size, _, tupK_new I1 rv (by rw [rv.length, Array.length_toList, hi.1]; exact hz), rfl, q _ _ rfl (I1.hok.fresh (Nat.le_refl _))⟩
theorem rvs_chars {K : PySem.W.Frag} {mu : Mu} {H : Hp} : ∀ {l : List Nat}, (∀ c ∈ l, c < 128) → RVs K mu H (l.map fun c => W.str [c]) (l.map fun c => V.str ⟨#[c]⟩)
  | [], _ => .nil
  | c :: l, h => .cons (.str [c] fun d hd => by rw [List.mem_singleton.mp hd]; exact h c List.mem_cons_self) (rvs_chars fun d hd => h d (List.mem_cons_of_mem _ hd))
theorem cs_tupl {K : PySem.W.Frag} : CallS K (rTupS K) (b1 tuplW) := cs1 fun mu M H x v w Q g r e k => by
  cases r with
  | str l hl =>
    simp only [tuplW] at e
    split at e
    · rename_i hz
      cases e
      refine .inr ⟨_, rfl, by rw [str_len, line_eq]; exact hz, fun a o ho ha => k _ _ (Ext.upd g ha) (g.upd ha) (.newTupK g ha ho ?_)⟩
      exact rvs_chars hl
    · cases e
  | lst h r => cases e; exact .inl ⟨_, _, rfl, .inl ⟨.inl (.inl h), fun l o ho hl => k _ _ (Ext.upd g hl) (g.upd hl) (.newTupK g hl ho r)⟩⟩
  | fz h => cases e; exact .inl ⟨_, _, rfl, .inl ⟨h, fun l o ho hl => k _ _ (Ext.upd g hl) (g.upd hl) (.newTupK g hl ho (RVs.ints _))⟩⟩
  | tup h r => cases e; exact .inl ⟨_, _, rfl, .inr ⟨h.sq, k _ _ Ext.refl g (.ofTup g h r)⟩⟩
  | _ => cases e
theorem sd_tuple (hc : X.calm = true) (hm : X.mg "tuple" = none) (h : PE X e (den X.K m)) (hg : Gl X "tuple" := by rfl) (he : starEach [e] X.env = (false, eval e X.env) :: starEach [] X.env := by rfl) : PE X (.Call (.Name "tuple" p) [e] [] pos) (den X.K (eBi (b1 tuplW) (aCons m aNil))) :=
  sd_of cs_tupl (pe_callTy (cr_tupleK.or (cr_tupS hc)) hg hm boot_tuple (sa_cons h sa_nil he) (by decide) (by decide) he)
/-! ### isinstance -/
theorem ty_ {T : Ty} {n : Str} (hm : X.mg n = none) (hv : bootBuiltins n = some (.type T.nm)) (hg : Gl X n := by rfl) (hn : n ≠ "__name__" := by decide) (hd : (n == ("__debug__" : Str)) = false := by decide) : PE X (.Name n p) (tC (.ty T.nm)) := pe_bltn hg hm hv rfl hn hd
theorem sd_is1 {T : Ty} {n : Str} (hm : X.mg "isinstance" = none) (h : PE X e (den X.K m)) (hT : PE X (.Name n p1) (tC (.ty T.nm))) (hg : Gl X "isinstance" := by rfl) (he : starEach [e, .Name n p1] X.env = (false, eval e X.env) :: starEach [.Name n p1] X.env := by rfl) :
    PE X (.Call (.Name "isinstance" p) [e, .Name n p1] [] pos) (den X.K (eIsI [T] m)) :=
  sd_isi1 h hT (pe_callB call_isi hg hm boot_isinstance (pa_cons h (pa_cons hT pa_nil) he) (by decide) (by decide) he)
theorem sd_isT {ts : List Ty} {ns : List Expr} {x1 : Nat} (hm : X.mg "isinstance" = none) (h : PE X e (den X.K m)) (hT : PA X ns (tTys ts)) (hl : ts.length ≤ 100 := by decide) (hg : Gl X "isinstance" := by rfl) (he : starEach [e, .Tuple ns x1 p1] X.env = (false, eval e X.env) :: starEach [.Tuple ns x1 p1] X.env := by rfl) :
    PE X (.Call (.Name "isinstance" p) [e, .Tuple ns x1 p1] [] pos) (den X.K (eIsI ts m)) :=
  sd_isiT hl (pe_callB call_isiT hg hm boot_isinstance (pa_cons h (pa_cons (pe_tup hT) pa_nil) he) (by decide) (by decide) he)
/-! ### methods of lists -/
theorem sd_app {o : Expr} {mo ma : Ev} {apos : Pos} (ho : PE X o (den X.K mo)) (ha : PE X e (den X.K ma)) (hbase : attributeBase o "append" X.env (eval o X.env) = eval o X.env := by rfl)
    (hfew : ((backTo pos (starEach [e] X.env)).all (fun x => !x.1) && (backToKw pos (keywordEach [] X.env)).all (fun x => x.1.isSome) && decide ([e].length + ([] : List Keyword).length + (if ([] : List Keyword).isEmpty then 0 else 1) < 30)) = true := by rfl)
    (hline : (apos.endLine == pos.line) = true := by rfl) (he : starEach [e] X.env = (false, eval e X.env) :: starEach [] X.env := by rfl) : PE X (.Call (.Attribute o "append" apos) [e] [] pos) (den X.K (eApp mo ma)) :=
  sd_append ho ha (pe_bm PySem.F.plainAttrs_list PySem.F.slot_list_append PySem.F.type_list_append mt_append ho (pa_cons ha pa_nil he) hbase hfew hline he)
theorem sd_ext {o : Expr} {mo ma : Ev} {apos : Pos} (ho : PE X o (den X.K mo)) (ha : PE X e (den X.K ma)) (hbase : attributeBase o "extend" X.env (eval o X.env) = eval o X.env := by rfl)
    (hfew : ((backTo pos (starEach [e] X.env)).all (fun x => !x.1) && (backToKw pos (keywordEach [] X.env)).all (fun x => x.1.isSome) && decide ([e].length + ([] : List Keyword).length + (if ([] : List Keyword).isEmpty then 0 else 1) < 30)) = true := by rfl)
    (hline : (apos.endLine == pos.line) = true := by rfl) (he : starEach [e] X.env = (false, eval e X.env) :: starEach [] X.env := by rfl) : PE X (.Call (.Attribute o "extend" apos) [e] [] pos) (den X.K (eExt mo ma)) :=
  sd_extend ho ha (pe_bm PySem.F.plainAttrs_list PySem.F.slot_list_extend PySem.F.type_list_extend mt_extend ho (pa_cons ha pa_nil he) hbase hfew hline he)
theorem sd_pop {o : Expr} {mo ma : Ev} {apos : Pos} (ho : PE X o (den X.K mo)) (ha : PE X e (den X.K ma)) (hbase : attributeBase o "pop" X.env (eval o X.env) = eval o X.env := by rfl)
    (hfew : ((backTo pos (starEach [e] X.env)).all (fun x => !x.1) && (backToKw pos (keywordEach [] X.env)).all (fun x => x.1.isSome) && decide ([e].length + ([] : List Keyword).length + (if ([] : List Keyword).isEmpty then 0 else 1) < 30)) = true := by rfl)
    (hline : (apos.endLine == pos.line) = true := by rfl) (he : starEach [e] X.env = (false, eval e X.env) :: starEach [] X.env := by rfl) : PE X (.Call (.Attribute o "pop" apos) [e] [] pos) (den X.K (ePopAt mo ma)) :=
  sd_popAt ho ha (pe_bm PySem.F.plainAttrs_list PySem.F.slot_list_pop PySem.F.type_list_pop mt_popAt ho (pa_cons ha pa_nil he) hbase hfew hline he)
end
end Py

namespace Py
open PySem PySem.Spec PyProof.Rows L2
section
variable {X : Cx} {k : Nat} {p pos pos' : Pos} {e o i : Expr} {m mo mi mv : Ev} {ml : EvL} {x : Str}
/-! ## stores -/
theorem g_ (j : Nat) (hN : X.N.Nodup) (hi : X.N[j]? = some x := by rfl) (hx : Loc X.env.scope x := by first | exact .inl rfl | exact .inr rfl) (hf : X.fn x = true ∨ X.env.scope.names.lookup x = some .local := by first | exact .inl rfl | exact .inr rfl) : PG X (.Name x pos) (denG X.K (gN j) [j]) := sg_name (pg_name hN hi hx hf)
theorem gt2 {a b : Expr} {k0 : Nat} {t u : Tg} {o o' : List Nat} (hc : X.calm = true) (h1 : PG X a (denG X.K t o)) (h2 : PG X b (denG X.K u o')) 
    (hn : (assignEach [a, b] X.env).length = 2 := by rfl) (hst : (assignEach [a, b] X.env).findIdx? (·.1) = none := by rfl) (hs1 : (assignEach [a, b] X.env).map (·.2) = assign a X.env :: (assignEach [b] X.env).map (·.2) := by rfl) (hs2 : (assignEach [b] X.env).map (·.2) = assign b X.env :: (assignEach [] X.env).map (·.2) := by rfl) :
    PG X (.Tuple [a, b] k0 pos) (denG X.K (gT (gsC t (gsC u gs0))) (o ++ (o' ++ []))) := sg_tup hc (sgs_cons h1 (sgs_cons h2 sgs_nil hs2) hs1) (gsC_len (gsC_len fun _ _ _ _ => gs0_len)) hn hst
theorem gt3 {a b c : Expr} {k0 : Nat} {t u v : Tg} {o o' o'' : List Nat} (hc : X.calm = true) (h1 : PG X a (denG X.K t o)) (h2 : PG X b (denG X.K u o')) (h3 : PG X c (denG X.K v o''))
    (hn : (assignEach [a, b, c] X.env).length = 3 := by rfl) (hst : (assignEach [a, b, c] X.env).findIdx? (·.1) = none := by rfl) (hs1 : (assignEach [a, b, c] X.env).map (·.2) = assign a X.env :: (assignEach [b, c] X.env).map (·.2) := by rfl) (hs2 : (assignEach [b, c] X.env).map (·.2) = assign b X.env :: (assignEach [c] X.env).map (·.2) := by rfl) (hs3 : (assignEach [c] X.env).map (·.2) = assign c X.env :: (assignEach [] X.env).map (·.2) := by rfl) :
    PG X (.Tuple [a, b, c] k0 pos) (denG X.K (gT (gsC t (gsC u (gsC v gs0)))) (o ++ (o' ++ (o'' ++ [])))) := sg_tup hc (sgs_cons h1 (sgs_cons h2 (sgs_cons h3 sgs_nil hs3) hs2) hs1) (gsC_len (gsC_len (gsC_len fun _ _ _ _ => gs0_len))) hn hst
theorem set_ (j : Nat) (hN : X.N.Nodup) (he : PE X e (den X.K m)) (hi : X.N[j]? = some x := by rfl) (hx : Loc X.env.scope x := by first | exact .inl rfl | exact .inr rfl) (hs : swapsWith e (some (.Name x pos')) pos.line X.env = pure false := by rfl) (hf : X.fn x = true ∨ X.env.scope.names.lookup x = some .local := by first | exact .inl rfl | exact .inr rfl) :
    PS X (.Assign [.Name x pos'] e pos) (denS X.K (sSet j m)) := ss_set (ps_set hN hi hx he hs hf)
theorem sub_ (hr : Room k X.A) (he : PE X e (den X.K mv)) (ho : PE X o (den X.K mo)) (hi : PE X i (den X.K mi)) (hs : swapsWithSole [.Subscript o i pos'] e pos.line X.env = pure false := by rfl) (hw : swappedStores [.Subscript o i pos'] e X.env = pure none := by rfl)
    (h1 : (assignEach [.Subscript o i pos'] X.env).map (·.2) = [assign (.Subscript o i pos') X.env] := by rfl)
    (ha : ∀ v, assign (.Subscript o i pos') X.env v = (do
      let ov ← holding [v] (eval o X.env)
      let iv ← holding [v, ov] (eval i X.env)
      standAt pos'
      holding [v, ov, iv] (setItem ov iv v)
      release [v, ov, iv] []) := by intros; rfl) : PS X (.Assign [.Subscript o i pos'] e pos) (denS X.K (sSub mo mi mv)) :=
  ss_sub (un1 hr) he ho hi (ps_asg he (pg_sub ho hi (PSet.or set_list (set_dict (un1 hr))) ha) hs hw h1)
/-! ## walks -/
theorem rg1 {tg a : Expr} {ma : Ev} (hm : X.mg "range" = none) (ha : PE X a (den X.K ma)) (hg : Gl X "range" := by rfl) (hs : starEach [a] X.env = [(false, eval a X.env)] := by rfl) : PI X tg (.Call (.Name "range" p) [a] [] pos) (denI X.K (itR1 ma)) := si_range1 hg hm ha hs
theorem rg2 {tg a b : Expr} {ma mb : Ev} (hm : X.mg "range" = none) (ha : PE X a (den X.K ma)) (hb : PE X b (den X.K mb)) (hg : Gl X "range" := by rfl) (hs : starEach [a, b] X.env = [(false, eval a X.env), (false, eval b X.env)] := by rfl) (hs2 : starEach [b] X.env = [(false, eval b X.env)] := by rfl) : PI X tg (.Call (.Name "range" p) [a, b] [] pos) (denI X.K (itR2 ma mb)) := si_range2 hg hm ha hb hs hs2
theorem enu {a : Expr} {elts : List Expr} {kk : Nat} {tpos : Pos} {ma : Ev} (hm : X.mg "enumerate" = none) (ha : PE X a (den X.K ma)) (hg : Gl X "enumerate" := by rfl) (hs : starEach [a] X.env = [(false, eval a X.env)] := by rfl) : PI X (.Tuple elts kk tpos) (.Call (.Name "enumerate" p) [a] [] pos) (denI X.K (itEn ma)) := si_enum hg hm ha hs
theorem zp {a b : Expr} {elts : List Expr} {kk : Nat} {tpos : Pos} {ma mb : Ev} (hm : X.mg "zip" = none) (ha : PE X a (den X.K ma)) (hb : PE X b (den X.K mb)) (hg : Gl X "zip" := by rfl) (hs : starEach [a, b] X.env = (false, eval a X.env) :: starEach [b] X.env := by rfl) (hs2 : starEach [b] X.env = [(false, eval b X.env)] := by rfl) (hpl : (backTo pos (starEach [b] X.env)).any (·.1) = false := by rfl) : PI X (.Tuple elts kk tpos) (.Call (.Name "zip" p) [a, b] [] pos) (denI X.K (itZ ma mb)) := si_zip hg hm ha hb hs hs2 hpl
end
end Py

namespace Py
open PySem PySem.Spec PyProof.Rows L2
/-! ## tuple(zip(a, b)) -/
def zipK : List W → List W → List W
  | x :: xs, y :: ys => .tup true [x, y] :: zipK xs ys
  | _, _ => []
def eTupZ (ma mb : Ev) : Ev := fun r M => (ma r M).bind fun x M1 => (mb r M1).bind fun y M2 => match itOf (rd M2 x) with
  | some xs => (match itOf (rd M2 y) with
    | some ys => if xs.length ≤ line then .ok (.tup true (zipK xs ys)) M2 else .bad
    | none => .bad)
  | none => .bad
theorem zipK_len : ∀ xs ys : List W, (zipK xs ys).length = min xs.length ys.length
  | [], _ => by simp [zipK]
  | x :: xs, [] => by simp [zipK]
  | x :: xs, y :: ys => by rw [zipK, List.length_cons, zipK_len xs ys, List.length_cons, List.length_cons]; omega
theorem zipK_take : ∀ (xs ys : List W) (i : Nat) (x y : W), xs[i]? = some x → ys[i]? = some y → zipK (xs.take (i + 1)) (ys.take (i + 1)) = zipK (xs.take i) (ys.take i) ++ [.tup true [x, y]]
  | [], _, _, _, _, h, _ => by simp at h
  | a :: xs, [], _, _, _, _, h => by simp at h
  | a :: xs, b :: ys, 0, x, y, h1, h2 => by simp at h1 h2; subst h1; subst h2; rfl
  | a :: xs, b :: ys, i + 1, x, y, h1, h2 => by
    have := zipK_take xs ys i x y (by simpa using h1) (by simpa using h2)
    show _ :: zipK (xs.take (i + 1)) (ys.take (i + 1)) = _ :: (zipK (xs.take i) (ys.take i) ++ _)
    rw [this]
theorem zipK_all (xs ys : List W) : zipK (xs.take (min xs.length ys.length)) (ys.take (min xs.length ys.length)) = zipK xs ys := by
  induction xs generalizing ys with
  | nil => simp [zipK]
  | cons x xs ih =>
    cases ys with
    | nil => simp [zipK]
    | cons y ys =>
      rw [List.length_cons, List.length_cons, Nat.succ_min_succ, List.take_succ_cons, List.take_succ_cons, zipK, zipK, ih]
/-! ### the next pair while an earlier one is held -/
section
variable {prog : Program} {w : World} {A : Around} {E : Value → Shared → Prop} {s : Shared} {z TI TO T i1 i2 : Addr} {fp1 fp2 : List Addr} {n1 n2 i : Nat} {P1 P2 : Nat → Value → Prop} {St1 St2 : Nat → Heap → Prop} {f : Bool} {oT : Obj}
theorem zipH_item {Q : Value → Shared → Prop} (S : ZipSep2 z TI TO i1 i2 fp1 fp2) (D1 : Draws prog w A i1 fp1 n1 P1 St1) (D2 : Draws prog w A i2 fp2 n2 P2 St2)
    (hz : IsZipHeld s.heap z TI TO T f) (hT : s.heap.get? T = some oT) (hTI : IsTupOf2 s.heap TI (.ref i1) (.ref i2)) (st1 : St1 i s.heap) (st2 : St2 i s.heap) (hlt1 : i < n1) (hlt2 : i < n2)
    (hQ : ∀ x1 x2 h' tk, P1 i x1 → P2 i x2 → IsZipHeld h' z TI TO T true → St1 (i + 1) h' → St2 (i + 1) h' → IsTupOf2 h' s.heap.objs.size x1 x2 → h'.objs.size = s.heap.objs.size + 1 →
      (∀ c o, c ≠ z → c ≠ i1 → c ≠ i2 → s.heap.get? c = some o → h'.get? c = some o) → Q (.ref s.heap.objs.size) { s with heap := h', toks := tk }) :
    wpAny (model prog w) A (Builtin.«zip.__next__» ⟨[.ref z], []⟩) (fun fin s' => ∃ v, fin = .done (.ret v) ∧ Q v s') E s := by
  obtain ⟨hp, g, d, tk0, os⟩ := s
  show wpAny _ _ (field (.ref z) 2 >>= _) _ _ _
  refine wpAny_bind (wpAny_field hz rfl (x := .bool false) rfl ?_)
  show wpAny _ _ (field (.ref z) 3 >>= _) _ _ _
  refine wpAny_bind (wpAny_field hz rfl (x := .ref TI) rfl ?_)
  refine wpAny_bind (wpAny_seqItems hTI rfl ?_)
  show wpAny _ _ (Builtin.SmallTypes.ownedTupleIsFree (.ref z) >>= _) _ _ _
  refine wpAny_bind (wpAny_tupleHeld_zip hz hT fun h₁ hz₁ hs₁ => ?_)
  replace hs₁ : Heap.SameBut z hp h₁ := hs₁
  simp only [Bool.false_eq_true, if_false]
  refine wpAny_bind ?_
  rw [← Array.forIn_toList]
  simp only [List.forIn_cons, List.forIn_nil]
  refine wpAny_bind (wpAny_bind (wpAny_holding ?_))
  show wpAny _ _ (Builtin.SmallTypes.nextOf (.ref i1) >>= _) _ _ ⟨h₁, g, d, tk0, os⟩
  refine wpAny_bind (D1.item i _ _ _ hlt1 (D1.over st1 hs₁ S.zf1) fun x1 p1 tk1 hx1 sn1 hp1 => wpAny_pure ?_)
  replace hp1 : Heap.SameBut i1 h₁ p1 := hp1
  refine wpAny_pure ?_
  refine wpAny_bind (wpAny_bind (wpAny_holding ?_))
  show wpAny _ _ (Builtin.SmallTypes.nextOf (.ref i2) >>= _) _ _ ⟨p1, g, d, tk1, os⟩
  refine wpAny_bind (D2.item i _ _ _ hlt2 (D2.over (D2.over st2 hs₁ S.zf2) hp1 S.sep1_2) fun x2 p2 tk2 hx2 sn2 hp2 => wpAny_pure ?_)
  replace hp2 : Heap.SameBut i2 p1 p2 := hp2
  refine wpAny_pure (wpAny_pure ?_)
  show wpAny _ _ (newTuple [x1, x2] >>= _) _ _ ⟨p2, g, d, tk2, os⟩
  refine wpAny_bind (wpAny_newTuple ?_)
  have hsz : p2.objs.size = hp.objs.size := by rw [hp2.1, hp1.1, hs₁.1]
  have hz₃ : IsZipHeld p2 z TI TO T true := hp2.extBut _ _ S.zi2 (hp1.extBut _ _ S.zi1 hz₁)
  have hk : ∀ c o, c ≠ z → c ≠ i1 → c ≠ i2 → hp.get? c = some o → p2.get? c = some o := fun c o c1 c2 c3 e => hp2.extBut _ _ c3 (hp1.extBut _ _ c2 (hs₁.extBut _ _ c1 e))
  have j1 : St1 (i + 1) p2 := D1.over sn1 hp2 S.sep2_1
  have up : ∀ b o, p2.get? b = some o → (p2.push { cls := .type "tuple", data := .seq #[x1, x2] }).get? b = some o := fun b o e => Heap.get?_push_of_some _ e
  refine wpAny_pure ⟨_, rfl, ?_⟩
  show Q (.ref p2.objs.size) ⟨p2.push { cls := .type "tuple", data := .seq #[x1, x2] }, g, d, tk2, os⟩
  have hpp : IsTupOf2 (p2.push { cls := .type "tuple", data := .seq #[x1, x2] }) p2.objs.size x1 x2 := Heap.get?_push_size _ rfl
  have hz4 : (p2.push { cls := .type "tuple", data := .seq #[x1, x2] }).objs.size = p2.objs.size + 1 := Heap.size_push ..
  rw [hsz] at hpp hz4 ⊢
  exact hQ x1 x2 _ tk2 hx1 hx2 (up _ _ hz₃) (D1.frame _ _ _ j1 fun b _ o e => up b o e) (D2.frame _ _ _ sn2 fun b _ o e => up b o e) hpp hz4 fun c o c1 c2 c3 e => up _ _ (hk c o c1 c2 c3 e)
theorem zipH_end {Q : Fin → Shared → Prop} (S : ZipSep2 z TI TO i1 i2 fp1 fp2) (D1 : Draws prog w A i1 fp1 n1 P1 St1) (D2 : Draws prog w A i2 fp2 n2 P2 St2)
    (hz : IsZipHeld s.heap z TI TO T f) (hT : s.heap.get? T = some oT) (hTI : IsTupOf2 s.heap TI (.ref i1) (.ref i2)) (st1 : St1 i s.heap) (st2 : St2 i s.heap) (hle1 : i ≤ n1) (hle2 : i ≤ n2) (hend : i = n1 ∨ i = n2)
    (hE : ∀ h' tk e, (∀ c o, c ≠ z → c ≠ i1 → c ≠ i2 → s.heap.get? c = some o → h'.get? c = some o) → (∃ o, h'.get? e = some o ∧ o.cls = .type "StopIteration") → E (.ref e) { s with heap := h', toks := tk }) :
    wpAny (model prog w) A (Builtin.«zip.__next__» ⟨[.ref z], []⟩) Q E s := by
  obtain ⟨hp, g, d, tk0, os⟩ := s
  show wpAny _ _ (field (.ref z) 2 >>= _) _ _ _
  refine wpAny_bind (wpAny_field hz rfl (x := .bool false) rfl ?_)
  show wpAny _ _ (field (.ref z) 3 >>= _) _ _ _
  refine wpAny_bind (wpAny_field hz rfl (x := .ref TI) rfl ?_)
  refine wpAny_bind (wpAny_seqItems hTI rfl ?_)
  show wpAny _ _ (Builtin.SmallTypes.ownedTupleIsFree (.ref z) >>= _) _ _ _
  refine wpAny_bind (wpAny_tupleHeld_zip hz hT fun h₁ hz₁ hs₁ => ?_)
  replace hs₁ : Heap.SameBut z hp h₁ := hs₁
  simp only [Bool.false_eq_true, if_false]
  refine wpAny_bind ?_
  rw [← Array.forIn_toList]
  simp only [List.forIn_cons, List.forIn_nil]
  refine wpAny_bind (wpAny_bind (wpAny_holding ?_))
  show wpAny _ _ (Builtin.SmallTypes.nextOf (.ref i1) >>= _) _ _ ⟨h₁, g, d, tk0, os⟩
  by_cases hlt1 : i < n1
  · refine wpAny_bind (D1.item i _ _ _ hlt1 (D1.over st1 hs₁ S.zf1) fun x1 p1 tk1 hx1 sn1 hp1 => wpAny_pure ?_)
    replace hp1 : Heap.SameBut i1 h₁ p1 := hp1
    have hi2 : i = n2 := by omega
    refine wpAny_pure ?_
    refine wpAny_bind (wpAny_bind (wpAny_holding ?_))
    show wpAny _ _ (Builtin.SmallTypes.nextOf (.ref i2) >>= _) _ _ ⟨p1, g, d, tk1, os⟩
    refine wpAny_bind (D2.done ⟨p1, g, d, tk1, os⟩ _ _ (by rw [← hi2]; exact D2.over (D2.over st2 hs₁ S.zf2) hp1 S.sep1_2) fun q e hq he => ?_)
    replace hq : Heap.ExtBut i2 p1 q := hq
    exact hE q tk1 e (fun c o c1 c2 c3 x => hq _ _ c3 (hp1.extBut _ _ c2 (hs₁.extBut _ _ c1 x))) he
  · have hi1 : i = n1 := by omega
    refine wpAny_bind (D1.done ⟨h₁, g, d, tk0, os⟩ _ _ (by rw [← hi1]; exact D1.over st1 hs₁ S.zf1) fun q e hq he => ?_)
    replace hq : Heap.ExtBut i1 h₁ q := hq
    exact hE q tk0 e (fun c o c1 c2 c3 x => hq _ _ c2 (hs₁.extBut _ _ c1 x)) he
theorem nextH_item {Q : Option Value → Shared → Prop} (S : ZipSep2 z TI TO i1 i2 fp1 fp2) (D1 : Draws prog w A.in1 i1 fp1 n1 P1 St1) (D2 : Draws prog w A.in1 i2 fp2 n2 P2 St2)
    (hz : IsZipHeld s.heap z TI TO T f) (hT : s.heap.get? T = some oT) (hTI : IsTupOf2 s.heap TI (.ref i1) (.ref i2)) (st1 : St1 i s.heap) (st2 : St2 i s.heap) (hlt1 : i < n1) (hlt2 : i < n2)
    (hQ : ∀ x1 x2 h' tk, P1 i x1 → P2 i x2 → IsZipHeld h' z TI TO T true → St1 (i + 1) h' → St2 (i + 1) h' → IsTupOf2 h' s.heap.objs.size x1 x2 → h'.objs.size = s.heap.objs.size + 1 →
      (∀ c o, c ≠ z → c ≠ i1 → c ≠ i2 → s.heap.get? c = some o → h'.get? c = some o) → Q (some (.ref s.heap.objs.size)) { s with heap := h', toks := tk }) :
    wpAny (model prog w) A (pyNext (.ref z)) Q E s := by
  have hTy : s.TypeIs (.ref z) "zip" := ⟨_, hz, rfl⟩
  unfold pyNext
  exact wpAny_bind (wpAny_attempt (wpAny_callSpecial?_slot (name := Str.ofString "__next__") hTy F.slot_zip_next
    (wpAny_call_entry F.slot_zip_next hTy F.entry_zip_next
      (zipH_item S D1 D2 hz hT hTI st1 st2 hlt1 hlt2 fun x1 x2 h' tk y1 y2 a1 a2 a3 a4 a5 a6 => wpAny_pure (hQ x1 x2 h' tk y1 y2 a1 a2 a3 a4 a5 a6)) (F.args_zip_next_1 _))))
theorem nextH_end {Q : Option Value → Shared → Prop} (S : ZipSep2 z TI TO i1 i2 fp1 fp2) (D1 : Draws prog w A.in1 i1 fp1 n1 P1 St1) (D2 : Draws prog w A.in1 i2 fp2 n2 P2 St2)
    (hz : IsZipHeld s.heap z TI TO T f) (hT : s.heap.get? T = some oT) (hTI : IsTupOf2 s.heap TI (.ref i1) (.ref i2)) (st1 : St1 i s.heap) (st2 : St2 i s.heap) (hle1 : i ≤ n1) (hle2 : i ≤ n2) (hend : i = n1 ∨ i = n2)
    (hQ : ∀ h' tk, (∀ c o, c ≠ z → c ≠ i1 → c ≠ i2 → s.heap.get? c = some o → h'.get? c = some o) → Q none { s with heap := h', toks := tk }) : wpAny (model prog w) A (pyNext (.ref z)) Q E s := by
  have hTy : s.TypeIs (.ref z) "zip" := ⟨_, hz, rfl⟩
  unfold pyNext
  refine wpAny_bind (wpAny_attempt (wpAny_callSpecial?_slot (name := Str.ofString "__next__") hTy F.slot_zip_next
    (wpAny_call_entry F.slot_zip_next hTy F.entry_zip_next (zipH_end S D1 D2 hz hT hTI st1 st2 hle1 hle2 hend fun h' tk e hk he => ?_) (F.args_zip_next_1 _))))
  obtain ⟨o, ho, hc⟩ := he
  refine wpAny_bind (wpAny_isInstance (T := "StopIteration") (b := true) ⟨o, ho, hc⟩ isSubtype_stop ?_)
  exact wpAny_pure (hQ _ _ hk)
end
theorem zip_no_len : typeLookup (.type "zip") "__len__" = pure none := am_miss_of_fast (by decide +kernel)
theorem zip_no_hint : typeLookup (.type "zip") "__length_hint__" = pure none := am_miss_of_fast (by decide +kernel)
end Py

namespace Py
open PySem PySem.Spec PyProof.Rows L2
/-- what is walked by zip: its iterator, its items -/
structure Src (prog : Program) (w : World) (v : Value) (vs : List V) (h : Heap) : Prop where
  ex : ∃ (o : Obj) (Hc : Heap → Prop), Begins v o Hc ∧ Hc h ∧ ∀ (h' : Heap) (it : Addr), h.objs.size ≤ it → h'.get? it = some o → (∀ c u, h.get? c = some u → h'.get? c = some u) →
    ∃ (fp : List Addr) (P : Nat → Value → Prop) (St : Nat → Heap → Prop), (∀ A : Around, A.handled = none → Draws prog w A it fp vs.length P St) ∧ St 0 h' ∧ it ∈ fp ∧ (∀ b ∈ fp, b = it ∨ b < h.objs.size) ∧
      ∀ i u, P i u → i < vs.length → ∃ x, vs[i]? = some x ∧ RelV x u
theorem vals_at {vs : List V} {us : List Value} (r : Vals vs us) {i : Nat} {u : Value} (h : us[i]? = some u) : ∃ x, vs[i]? = some x ∧ RelV x u := by
  cases q : vs[i]? with
  | none =>
    rw [r.none_of q] at h; cases h
  | some x =>
    obtain ⟨u', h1, h2⟩ := r.get q
    rw [h1] at h; cases h
    exact ⟨x, rfl, h2⟩
section
variable {X : Cx} {pins : List (Addr × Obj)} {σ : L2.St} {H : Hp} {s : Shared}
theorem src_list {a : Addr} {vs : List V} (I : Inv X pins σ H s) (h : SqL X.K H a vs) : Src X.prog X.w (.ref a) vs s.heap := by
  obtain ⟨its, r, pl, hz⟩ := I.list h
  have hl := pl.isList
  have ha : a < s.heap.objs.size := by obtain ⟨o, e, _⟩ := hl; exact Heap.lt_size e
  refine ⟨_, _, begins_list a its.toArray, hl, fun h' it hit ho hk => ?_⟩
  refine ⟨[it, a], fun i v => its.toArray[i]? = some v, fun i h => h.IsListIter it a i ∧ h.IsList a its.toArray, fun A hA => by have := Draws.list (prog := X.prog) (w := X.w) hA it a (Nat.ne_of_lt (Nat.lt_of_lt_of_le ha hit)) its.toArray; rw [List.size_toArray, ← r.length] at this; exact this, ⟨⟨_, ho, rfl, rfl⟩, hl.at fun o e => hk a o e⟩, by simp, fun b hb => ?_, fun i u hu hi => vals_at r (by simpa using hu)⟩
  rcases List.mem_cons.mp hb with e | e
  · exact .inl e
  · rw [List.mem_singleton.mp e]; exact .inr ha
theorem src_tuple {a : Addr} {vs : List V} (I : Inv X pins σ H s) (h : SqT X.K H a vs) : Src X.prog X.w (.ref a) vs s.heap := by
  obtain ⟨its, r, hl, hz⟩ := I.tuple h
  have hl : s.heap.IsTuple a its.toArray := hl
  have ha : a < s.heap.objs.size := by obtain ⟨o, e, _⟩ := hl; exact Heap.lt_size e
  refine ⟨_, _, begins_tuple a its.toArray, hl, fun h' it hit ho hk => ?_⟩
  refine ⟨[it, a], fun i v => its.toArray[i]? = some v, fun i h => h.IsTupleIter it a i ∧ h.IsTuple a its.toArray, fun A hA => by have := Draws.tuple (prog := X.prog) (w := X.w) hA it a (Nat.ne_of_lt (Nat.lt_of_lt_of_le ha hit)) its.toArray; rw [List.size_toArray, ← r.length] at this; exact this, ⟨⟨_, ho, rfl, rfl⟩, hl.at fun o e => hk a o e⟩, by simp, fun b hb => ?_, fun i u hu hi => vals_at r (by simpa using hu)⟩
  rcases List.mem_cons.mp hb with e | e
  · exact .inl e
  · rw [List.mem_singleton.mp e]; exact .inr ha
theorem src_text {z : Str} {t : Tok} {vs : List V} (hv : vs = z.cps.toList.map fun c => V.str ⟨#[c]⟩) : Src X.prog X.w (.str z t) vs s.heap := by
  have hlen : vs.length = z.cps.size := by rw [hv, List.length_map, Array.length_toList]
  refine ⟨_, _, begins_text z t, trivial, fun h' it hit ho hk => ?_⟩
  refine ⟨[it], fun i v => ∃ c u, z.cps[i]? = some c ∧ v = .str ⟨#[c]⟩ u, fun i h => h.IsStrIter it (strIterType z) z t i, fun A hA => by rw [hlen]; exact Draws.text (prog := X.prog) (w := X.w) hA it z t, ⟨_, ho, rfl, rfl⟩, by simp, fun b hb => .inl (List.mem_singleton.mp hb), fun i u hu hi => ?_⟩
  obtain ⟨c, q, h1, h2⟩ := hu
  refine ⟨.str ⟨#[c]⟩, ?_, q, h2⟩
  rw [hv, List.getElem?_map, Array.getElem?_toList, h1]; rfl
end
/-! ### the pairs collected -/
def Zs (h : Heap) (z TI TO i1 i2 : Addr) : Prop := (IsZip h z TI TO .none ∧ IsTupOf2 h TO .none .none) ∨ ∃ (T : Addr) (f : Bool) (oT : Obj), IsZipHeld h z TI TO T f ∧ h.get? T = some oT ∧ T ≠ z ∧ T ≠ i1 ∧ T ≠ i2
section
variable {X : Cx} {pins : List (Addr × Obj)} {σ : L2.St} {A : Around} {S z TI TO i1 i2 : Addr} {fp1 fp2 : List Addr} {n n1 n2 : Nat} {P1 P2 : Nat → Value → Prop} {St1 St2 : Nat → Heap → Prop} {R : Result → Shared → Prop} {mu : Mu} {M : MH} {H0 : Hp} {ws us : List W} {vs1 vs2 : List V} {res : Value}
theorem zip_loop (hh : A.handled = none) (Sp : ZipSep2 z TI TO i1 i2 fp1 fp2) (D1 : ∀ A : Around, A.handled = none → Draws X.prog X.w A i1 fp1 n1 P1 St1) (D2 : ∀ A : Around, A.handled = none → Draws X.prog X.w A i2 fp2 n2 P2 St2)
    (hS1 : S ∉ fp1) (hS2 : S ∉ fp2) (hSz : S ≠ z) (hSI : S ≠ TI) (hSO : S ≠ TO) (hn : n = min n1 n2) (hnl : n ≤ sizeLine)
    (hp1 : ∀ i u, P1 i u → i < n1 → ∃ x, vs1[i]? = some x ∧ RelV x u) (hp2 : ∀ i u, P2 i u → i < n2 → ∃ x, vs2[i]? = some x ∧ RelV x u) (r1 : RVs X.K mu H0 ws vs1) (r2 : RVs X.K mu H0 us vs2) (hn1 : n1 = vs1.length) (hn2 : n2 = vs2.length) :
    ∀ (k i : Nat) (s : Shared) (H : Hp) (acc : Array Value) (c : Nat) (vs : List V), n - i = k → i ≤ n → Inv X pins σ H s → St1 i s.heap → St2 i s.heap → IsTupOf2 s.heap TI (.ref i1) (.ref i2) → Zs s.heap z TI TO i1 i2 → TO < s.heap.objs.size →
      s.heap.get? S = some { cls := .type "list", dict := none, data := .seq acc c, slots := #[] } → acc.size = i → Vals vs acc.toList → (∀ b ∈ [S, z, TO, i1, i2], FpOk X pins H b) → TI ∉ [S, z, TO, i1, i2] → Good X.K mu M H → Ext mu H0 mu H → RVs X.K mu H (zipK (ws.take i) (us.take i)) vs →
      (∀ s' H' acc' c' vs', Inv X pins σ H' s' → s'.heap.get? S = some { cls := .type "list", dict := none, data := .seq acc' c', slots := #[] } → acc'.size = n → Vals vs' acc'.toList → Good X.K mu M H' → Ext mu H0 mu H' → RVs X.K mu H' (zipK ws us) vs' → R (.ok (.ret res)) s') →
      codeAny (model X.prog X.w) A (.builtin "list.extend.loop" ⟨[.ref S, .ref z, res], []⟩) R s := by
  have hi1 : S ≠ i1 := fun e => hS1 (e ▸ Sp.mem1)
  have hi2 : S ≠ i2 := fun e => hS2 (e ▸ Sp.mem2)
  have hwl : ws.length = n1 := by rw [hn1, r1.length]
  have hul : us.length = n2 := by rw [hn2, r2.length]
  intro k
  induction k with
  | zero =>
    intro i s H acc c vs hk hi I st1 st2 hTI hZ hTOl hS ha hv hf hTn g ex rv hR
    have hin : i = n := by omega
    subst hin
    refine codeAny_builtin F.entry_extend_loop ?_
    rw [Around.under_plainId F.plain_extend_loop _]
    show wpAny _ A.in1 (pyNext (.ref z) >>= _) _ _ s
    have fin : ∀ (h' : Heap) (tk : Nat), (∀ c o, c ≠ z → c ≠ TO → c ≠ i1 → c ≠ i2 → s.heap.get? c = some o → h'.get? c = some o) → R (.ok (.ret res)) { s with heap := h', toks := tk } := fun h' tk hk' => by
      have I' : Inv X pins σ H { s with heap := h', toks := tk } := I.turnedL (ch := [z, TO, i1, i2]) (fun b o hb e => hk' b o (fun q => hb (by simp [q])) (fun q => hb (by simp [q])) (fun q => hb (by simp [q])) (fun q => hb (by simp [q])) e) fun b hb => hf b (List.mem_cons_of_mem _ hb)
      refine hR _ H acc c vs I' (hk' S _ hSz hSO hi1 hi2 hS) ha hv g ex ?_
      have : zipK (ws.take i) (us.take i) = zipK ws us := by
        rw [hn, ← hwl, ← hul]; exact zipK_all ws us
      rw [← this]; exact rv
    rcases hZ with ⟨hz, hTO⟩ | ⟨T, f, oT, hz, hT, t1, t2, t3⟩
    · exact wpAny_bind (wpAny_pyNext_zipD2_end Sp (D1 _ hh) (D2 _ hh) hz hTI hTO st1 st2 (by omega) (by omega) (by omega) fun h' tk hk' => wpAny_pure (fin h' tk hk'))
    · exact wpAny_bind (nextH_end Sp (D1 _ hh) (D2 _ hh) hz hT hTI st1 st2 (by omega) (by omega) (by omega) fun h' tk hk' => wpAny_pure (fin h' tk fun c o c1 _ c3 c4 e => hk' c o c1 c3 c4 e))
  | succ k ih =>
    intro i s H acc c vs hk hi I st1 st2 hTI hZ hTOl hS ha hv hf hTn g ex rv hR
    have hlt : i < n := by omega
    refine codeAny_builtin F.entry_extend_loop ?_
    rw [Around.under_plainId F.plain_extend_loop _]
    show wpAny _ A.in1 (pyNext (.ref z) >>= _) _ _ s
    have step : ∀ (x1 x2 : Value) (h' : Heap) (tk : Nat), P1 i x1 → P2 i x2 → Zs h' z TI TO i1 i2 → h'.objs.size = s.heap.objs.size + 1 → St1 (i + 1) h' → St2 (i + 1) h' → IsTupOf2 h' s.heap.objs.size x1 x2 →
        (∀ c o, c ≠ z → c ≠ TO → c ≠ i1 → c ≠ i2 → s.heap.get? c = some o → h'.get? c = some o) → wpAny (model X.prog X.w) A.in1 (updateSeq S (·.push (.ref s.heap.objs.size)) >>= fun _ => again (.builtin "list.extend.loop" ⟨[.ref S, .ref z, res], []⟩))
          (fun fin s' => match fin with | .done f => R (.ok f) s' | .again c' => c'.quiet = true ∧ codeAny (model X.prog X.w) A c' R s') (fun e s' => R (.error e) s') { s with heap := h', toks := tk } := fun x1 x2 h' tk y1 y2 hZ' hsz sn1 sn2 hT hk' => by
      have hS' : h'.get? S = some { cls := .type "list", dict := none, data := .seq acc c, slots := #[] } := hk' S _ hSz hSO hi1 hi2 hS
      have hSl : S < s.heap.objs.size := Heap.lt_size hS
      have oth : ∀ b o, b ≠ S → h'.get? b = some o → (h'.update S (Obj.mapSeq (·.push (.ref s.heap.objs.size)))).get? b = some o := fun b o hb e => (Heap.get?_update_other _ _ (Ne.symm hb)).trans e
      obtain ⟨v1, e1, rl1⟩ := hp1 i x1 y1 (by omega)
      obtain ⟨v2, e2, rl2⟩ := hp2 i x2 y2 (by omega)
      have hT2 := oth _ _ (Nat.ne_of_gt hSl) hT
      let ot : Obj := { cls := .type "tuple", data := .seq #[x1, x2] }
      have hTn2 : H s.heap.objs.size = none := I.hok.fresh (Nat.le_refl _)
      have new : ObjOk X.prog X.w (L2.upd H s.heap.objs.size (.frz ot (.tup [v1, v2]))) (h'.update S (Obj.mapSeq (·.push (.ref s.heap.objs.size)))) s.heap.objs.size (.frz ot (.tup [v1, v2])) :=
        ⟨hT2, by show 2 ≤ sizeLine; decide, [x1, x2], .cons rl1 (.cons rl2 .nil), ⟨_, hT2, rfl, _, rfl⟩⟩
      have I' : Inv X pins σ (L2.upd H s.heap.objs.size (.frz ot (.tup [v1, v2]))) { s with heap := h'.update S (Obj.mapSeq (·.push (.ref s.heap.objs.size))), toks := tk } :=
        I.turnedNew (t' := tk) (ch := [S, z, TO, i1, i2]) (fun b o hb e => oth b o (fun q => hb (by simp [q])) (hk' b o (fun q => hb (by simp [q])) (fun q => hb (by simp [q])) (fun q => hb (by simp [q])) (fun q => hb (by simp [q])) e)) hf (Nat.le_refl _) new
      have hwi : ∃ x, ws[i]? = some x := ⟨ws[i]'(by omega), List.getElem?_eq_getElem (by omega)⟩
      have hui : ∃ x, us[i]? = some x := ⟨us[i]'(by omega), List.getElem?_eq_getElem (by omega)⟩
      obtain ⟨wx, hwx⟩ := hwi
      obtain ⟨ux, hux⟩ := hui
      obtain ⟨v1', q1, rw1⟩ := r1.get hwx
      obtain ⟨v2', q2, rw2⟩ := r2.get hux
      rw [e1] at q1; cases q1
      rw [e2] at q2; cases q2
      have exx : Ext mu H mu (L2.upd H s.heap.objs.size (.frz ot (.tup [v1, v2]))) := Ext.upd g hTn2
      have rT : RV X.K mu (L2.upd H s.heap.objs.size (.frz ot (.tup [v1, v2]))) (.tup true [wx, ux]) (.ref s.heap.objs.size) := .newTupK g hTn2 rfl (.cons (rw1.ext ex) (.cons (rw2.ext ex) .nil))
      have fo : ∀ b ∈ [S, z, TO, i1, i2], FpOk X pins (L2.upd H s.heap.objs.size (.frz ot (.tup [v1, v2]))) b := fun b hb => by
        have q := hf b hb
        have hb' : b < s.heap.objs.size := by
          have e' : b = S ∨ b = z ∨ b = TO ∨ b = i1 ∨ b = i2 := by simpa using hb
          rcases e' with q | q | q | q | q
          · rw [q]; exact hSl
          · rw [q]; rcases hZ with ⟨hz, _⟩ | ⟨T, f, oT, hz, _, _⟩ <;> exact Heap.lt_size hz
          · rw [q]; exact hTOl
          · rw [q]; obtain ⟨o, ho⟩ := (D1 A hh).live _ _ st1; exact Heap.lt_size ho
          · rw [q]; obtain ⟨o, ho⟩ := (D2 A hh).live _ _ st2; exact Heap.lt_size ho
        refine ⟨?_, q.2⟩
        rw [upd_ne (Nat.ne_of_lt hb')]
        exact q.1
      refine wpAny_bind (wpAny_updateSeq hS' rfl (wpAny_pure ⟨plainId_quiet F.plain_extend_loop _, ?_⟩) (by rw [ha]; omega) (by show (acc.push _).size ≤ sizeLine + 1; rw [Array.size_push, ha]; omega))
      refine ih (i + 1) _ _ (acc.push (.ref s.heap.objs.size)) _ (vs ++ [.ref s.heap.objs.size]) (by omega) hlt I' ((D1 A hh).frame _ _ _ sn1 fun b hb o e => oth b o (fun q => hS1 (q ▸ hb)) e) ((D2 A hh).frame _ _ _ sn2 fun b hb o e => oth b o (fun q => hS2 (q ▸ hb)) e) ?_ ?_ (by show TO < (h'.update S _).objs.size; rw [Heap.size_after_update, hsz]; exact Nat.lt_succ_of_lt hTOl) (Heap.get?_update_self _ hS' rfl) (by rw [Array.size_push, ha]) (by rw [Array.toList_push]; exact hv.append (.cons rfl .nil)) fo hTn (g.upd hTn2) (ex.trans exx) ?_ hR
      · refine oth _ _ hSI.symm (hk' _ _ ?_ ?_ ?_ ?_ hTI)
        · exact Sp.TIz
        · exact Sp.TITO
        · exact Sp.TIi1
        · exact Sp.TIi2
      · rcases hZ' with ⟨hz, hTO⟩ | ⟨T, f, oT, hz, hT, t1, t2, t3⟩
        · exact .inl ⟨oth _ _ hSz.symm hz, oth _ _ hSO.symm hTO⟩
        · by_cases hTS : T = S
          · subst hTS
            exact .inr ⟨T, f, _, oth _ _ hSz.symm hz, Heap.get?_update_self _ hS' rfl, t1, t2, t3⟩
          · exact .inr ⟨T, f, oT, oth _ _ hSz.symm hz, oth _ _ hTS hT, t1, t2, t3⟩
      · rw [zipK_take ws us i wx ux hwx hux]
        exact (rv.ext exx).append (.cons rT .nil)
    have li1 : i1 < s.heap.objs.size := by obtain ⟨o, ho⟩ := (D1 A hh).live _ _ st1; exact Heap.lt_size ho
    have li2 : i2 < s.heap.objs.size := by obtain ⟨o, ho⟩ := (D2 A hh).live _ _ st2; exact Heap.lt_size ho
    rcases hZ with ⟨hz, hTO⟩ | ⟨T, f, oT, hz, hT, t1, t2, t3⟩
    · refine wpAny_bind (wpAny_pyNext_zipD2_item Sp (D1 _ hh) (D2 _ hh) hz hTI hTO st1 st2 (by omega) (by omega) fun x1 x2 h' tk y1 y2 b1 b2 d1 d2 b5 b6 hk' => ?_)
      exact step x1 x2 h' tk y1 y2 (.inr ⟨_, _, _, b1, b5, Nat.ne_of_gt (Heap.lt_size hz), Nat.ne_of_gt li1, Nat.ne_of_gt li2⟩) b6 d1 d2 b5 hk'
    · refine wpAny_bind (nextH_item Sp (D1 _ hh) (D2 _ hh) hz hT hTI st1 st2 (by omega) (by omega) fun x1 x2 h' tk y1 y2 b1 d1 d2 b5 b6 hk' => ?_)
      exact step x1 x2 h' tk y1 y2 (.inr ⟨T, true, oT, b1, hk' T oT t1 t2 t3 hT, t1, t2, t3⟩) b6 d1 d2 b5 (fun c o c1 _ c3 c4 e => hk' c o c1 c3 c4 e)
end
/-! ### the rule -/
theorem collect_zip {X : Cx} {pins : List (Addr × Obj)} {σ : L2.St} {A : Around} {z TI TO i1 i2 : Addr} {fp1 fp2 : List Addr} {n1 n2 : Nat} {P1 P2 : Nat → Value → Prop} {St1 St2 : Nat → Heap → Prop} {mu : Mu} {M : MH} {H0 : Hp} {ws us : List W} {vs1 vs2 : List V} {s : Shared} {E : Value → Shared → Prop} {Q : List Value → Shared → Prop}
    (hh : A.handled = none) (Sp : ZipSep2 z TI TO i1 i2 fp1 fp2) (D1 : ∀ A : Around, A.handled = none → Draws X.prog X.w A i1 fp1 n1 P1 St1) (D2 : ∀ A : Around, A.handled = none → Draws X.prog X.w A i2 fp2 n2 P2 St2)
    (hnl : min n1 n2 ≤ sizeLine) (hp1 : ∀ i u, P1 i u → i < n1 → ∃ x, vs1[i]? = some x ∧ RelV x u) (hp2 : ∀ i u, P2 i u → i < n2 → ∃ x, vs2[i]? = some x ∧ RelV x u) (r1 : RVs X.K mu H0 ws vs1) (r2 : RVs X.K mu H0 us vs2) (hn1 : n1 = vs1.length) (hn2 : n2 = vs2.length)
    (I : Inv X pins σ H0 s) (st1 : St1 0 s.heap) (st2 : St2 0 s.heap) (hTI : IsTupOf2 s.heap TI (.ref i1) (.ref i2)) (hz : IsZip s.heap z TI TO .none) (hTO : IsTupOf2 s.heap TO .none .none) (hf : ∀ b ∈ [z, TO, i1, i2], FpOk X pins H0 b) (l1 : ∀ b ∈ fp1, b < s.heap.objs.size) (l2 : ∀ b ∈ fp2, b < s.heap.objs.size) (g : Good X.K mu M H0)
    (hQ : ∀ (s' : Shared) (H' : Hp) (acc : Array Value) (vs' : List V), Inv X pins σ H' s' → acc.size = min n1 n2 → Vals vs' acc.toList → Good X.K mu M H' → Ext mu H0 mu H' → RVs X.K mu H' (zipK ws us) vs' → Q acc.toList s') : wpAny (model X.prog X.w) A (collect (.ref z)) Q E s := by
  have lz : z < s.heap.objs.size := Heap.lt_size hz
  have lTI : TI < s.heap.objs.size := Heap.lt_size hTI
  have lTO : TO < s.heap.objs.size := Heap.lt_size hTO
  have hSz : s.heap.objs.size ≠ z := Nat.ne_of_gt lz
  unfold collect
  refine wpAny_bind (wpAny_runValue (codeAny_builtin F.entry_proto_collect ?_))
  rw [Around.under_plainId F.plain_proto_collect _]
  show wpAny _ A.in1 (newList [] >>= fun l => again (.builtin "list.__iadd__" ⟨[l, .ref z], []⟩)) _ _ s
  refine wpAny_bind (wpAny_newObj_type ?_)
  refine wpAny_pure ⟨plainId_quiet F.plain_list_iadd _, codeAny_builtin F.entry_list_iadd ?_⟩
  rw [Around.under_plainId F.plain_list_iadd _]
  let hp1' := s.heap.push { cls := .type "list", data := .seq ([] : List Value).toArray }
  have up : ∀ b o, s.heap.get? b = some o → hp1'.get? b = some o := fun b o e => Heap.get?_push_of_some _ e
  have hz1 : IsZip hp1' z TI TO .none := up _ _ hz
  have hTy : ({ s with heap := hp1' } : Shared).TypeIs (.ref z) "zip" := ⟨_, hz1, rfl⟩
  show wpAny _ A.in1 (Builtin.List.listExtendWith (.ref s.heap.objs.size) (.ref z) (.ref s.heap.objs.size)) _ _ { s with heap := hp1' }
  unfold Builtin.List.listExtendWith
  refine wpAny_bind (wpAny_typeOf hTy ?_)
  have h1 : Builtin.List.listSameRef (.ref s.heap.objs.size) (.ref z) = false := by simp [Builtin.List.listSameRef, hSz]
  have h2 : (Value.type "zip" == Value.type "list") = false := by decide
  have h3 : (Value.type "zip" == Value.type "tuple") = false := by decide
  simp only [h1, h2, h3, Bool.or_false, Bool.false_eq_true, if_false]
  refine wpAny_bind (wpAny_pyIter_zip hz1 ?_)
  refine wpAny_bind (wpAny_holding ?_)
  unfold Builtin.List.listLengthHint
  refine wpAny_bind (wpAny_specialOf hTy zip_no_len ?_)
  show wpAny _ A.in1 (specialOf (Value.ref z) (Str.ofString "__length_hint__") >>= _) _ _ _
  refine wpAny_bind (wpAny_specialOf hTy zip_no_hint ?_)
  refine wpAny_pure ?_
  show wpAny _ A.in1 (rule "list.extend.makes-room" >>= fun _ => Builtin.List.listTouch (.ref s.heap.objs.size) >>= fun _ =>
    again (.builtin "list.extend.loop" ⟨[.ref s.heap.objs.size, .ref z, .ref s.heap.objs.size], []⟩)) _ _ _
  refine wpAny_bind (wpAny_rule ?_)
  have hS₁ : hp1'.get? s.heap.objs.size = some { cls := .type "list", data := .seq ([] : List Value).toArray } := Heap.get?_push_size _ rfl
  refine wpAny_bind ?_
  show wpAny _ A.in1 (updateSeq s.heap.objs.size (·.push .none) >>= fun _ => updateSeq s.heap.objs.size (·.pop)) _ _ _
  refine wpAny_bind (wpAny_updateSeq hS₁ rfl ?_)
  have hS₂ := Heap.get?_update_self (Obj.mapSeq (·.push Value.none)) hS₁ rfl
  refine wpAny_updateSeq hS₂ rfl ?_
  have hS₃ := Heap.get?_update_self (Obj.mapSeq (·.pop)) hS₂ rfl
  let hp3 := (hp1'.update s.heap.objs.size (Obj.mapSeq (·.push Value.none))).update s.heap.objs.size (Obj.mapSeq (·.pop))
  have oth : ∀ b o, s.heap.get? b = some o → hp3.get? b = some o := fun b o e => by
    have hb : s.heap.objs.size ≠ b := Nat.ne_of_gt (Heap.lt_size e)
    exact (Heap.get?_update_other _ _ hb).trans ((Heap.get?_update_other _ _ hb).trans (up _ _ e))
  have I3 : Inv X pins σ H0 { s with heap := hp3, toks := s.toks } := I.kept oth
  have sz3 : hp3.objs.size = s.heap.objs.size + 1 := by
    show ((hp1'.update _ _).update _ _).objs.size = _
    rw [Heap.size_after_update, Heap.size_after_update]; exact Heap.size_push ..
  refine wpAny_pure ⟨plainId_quiet F.plain_extend_loop _, ?_⟩
  refine zip_loop (A := A) (S := s.heap.objs.size) (n := min n1 n2) hh Sp D1 D2 (fun h => Nat.lt_irrefl _ (l1 _ h)) (fun h => Nat.lt_irrefl _ (l2 _ h)) hSz (Nat.ne_of_gt lTI) (Nat.ne_of_gt lTO) rfl hnl hp1 hp2 r1 r2 hn1 hn2 (min n1 n2) 0 { s with heap := hp3, toks := s.toks } H0 #[] _ [] rfl (Nat.zero_le _) I3
    ((D1 A hh).frame _ _ _ st1 fun b _ o e => oth b o e) ((D2 A hh).frame _ _ _ st2 fun b _ o e => oth b o e) (oth _ _ hTI) (.inl ⟨oth _ _ hz, oth _ _ hTO⟩) (by show TO < hp3.objs.size; rw [sz3]; exact Nat.lt_succ_of_lt lTO) hS₃ rfl .nil ?_ ?_ g Ext.refl .nil ?_
  · intro b hb
    rcases List.mem_cons.mp hb with e | e
    · rw [e]; exact I.fpOk (Nat.le_refl _) (I.hok.fresh (Nat.le_refl _))
    · exact hf b e
  · intro h
    have e' : TI = s.heap.objs.size ∨ TI = z ∨ TI = TO ∨ TI = i1 ∨ TI = i2 := by simpa using h
    rcases e' with q | q | q | q | q
    · exact Nat.ne_of_lt lTI q
    · exact Sp.TIz q
    · exact Sp.TITO q
    · exact Sp.TIi1 q
    · exact Sp.TIi2 q
  · intro s' H' acc' c' vs' I' hS' ha hv g' ex' rv'
    show wpAny _ A (load s.heap.objs.size >>= _) _ _ s'
    exact wpAny_bind (wpAny_load hS' (wpAny_pure (hQ s' H' acc' vs' I' ha hv g' ex' rv')))
/-- of what a walk is, by its abstract value -/
theorem src_of {X : Cx} {pins : List (Addr × Obj)} {σ : L2.St} {H : Hp} {s : Shared} {mu : Mu} {x : W} {v : V} {u : Value} {ws : List W} (I : Inv X pins σ H s) (r : RD X.K mu H x v) (rl : RelV v u) (h : itOf x = some ws) : ∃ vs, Src X.prog X.w u vs s.heap ∧ RVs X.K mu H ws vs := by
  cases r with
  | lst a b => cases h; obtain rfl : u = .ref _ := rl; exact ⟨_, src_list I (.inl (.inl a)), b⟩
  | tup a b => cases h; obtain rfl : u = .ref _ := rl; exact ⟨_, src_tuple I a.sq, b⟩
  | fz a => cases h; obtain rfl : u = .ref _ := rl; exact ⟨_, src_list I a, RVs.ints _⟩
  | str l hl => cases h; obtain ⟨t, rfl⟩ := rl; exact ⟨_, src_text rfl, rvs_chars hl⟩
  | _ => cases h
theorem sd_tupZ {X : Cx} {a b : Expr} {ma mb : Ev} {p p1 pos pos1 : Pos} (hc : X.calm = true) (hm : X.mg "tuple" = none) (hm2 : X.mg "zip" = none) (ha : PE X a (den X.K ma)) (hb : PE X b (den X.K mb)) (hg : Gl X "tuple" := by rfl) (hg2 : Gl X "zip" := by rfl)
    (na : starEach [a, b] X.env = (false, eval a X.env) :: starEach [b] X.env := by rfl) (nb : starEach [b] X.env = (false, eval b X.env) :: starEach [] X.env := by rfl) (hp : (backTo pos1 (starEach [b] X.env)).any (·.1) = false := by rfl)
    (nz : starEach [.Call (.Name "zip" p1) [a, b] [] pos1] X.env = (false, eval (.Call (.Name "zip" p1) [a, b] [] pos1) X.env) :: starEach [] X.env := by rfl) :
    PE X (.Call (.Name "tuple" p) [.Call (.Name "zip" p1) [a, b] [] pos1] [] pos) (den X.K (eTupZ ma mb)) := by
  refine ⟨fun pins s σ H Q I hden => ?_⟩
  obtain ⟨mu, M, r, g, sr, hden⟩ := hden
  refine Call_ (ld_blt I hg hm boot_tuple (PyProof.Rows.callWith_type1 (args_cons ?_ nz) nz))
  refine Call_ (ld_blt I hg2 hm2 (by decide +kernel : bootBuiltins "zip" = some (.type "zip")) (PyProof.Rows.callWith_type1 (args_cons (thn (ha.run pins s σ H _ I ⟨mu, M, r, g, sr, (Post.bind hden).imp fun x M1 mu1 H1 e1 g1 h1 v rv => (⟨mu1, M1, r, x, g1, sr.ext e1, rv, h1⟩ : ∃ mu1 M1 r' x, Good X.K mu1 M1 H1 ∧ RS X.K mu1 H1 r' σ ∧ RV X.K mu1 H1 x v ∧
      Post X.K mu1 H1 (fun w _ mu' H' => ∀ v, RV X.K mu' H' w v → Q v H') ((mb r' M1).bind fun y M2 => match itOf (rd M2 x) with
        | some xs => (match itOf (rd M2 y) with
          | some ys => if xs.length ≤ line then .ok (.tup true (zipK xs ys)) M2 else .bad
          | none => .bad)
        | none => .bad))⟩) fun u1 s1 ⟨v1, H1, I1, rl1, mu1, M1, r', x, g1, sr1, rv1, h1⟩ => ?_) na) na hp))
  refine one_arg hb I1 (R := fun v2 H2 => ∃ mu2 M2 y, Ext mu1 H1 mu2 H2 ∧ Good X.K mu2 M2 H2 ∧ RV X.K mu2 H2 y v2 ∧ Post X.K mu2 H2 (fun w _ mu' H' => ∀ v, RV X.K mu' H' w v → Q v H') (match itOf (rd M2 x) with
        | some xs => (match itOf (rd M2 y) with
          | some ys => if xs.length ≤ line then .ok (.tup true (zipK xs ys)) M2 else .bad
          | none => .bad)
        | none => .bad)) ⟨mu1, M1, r', g1, sr1, (Post.bind h1).imp fun y M2 mu2 H2 e2 g2 h2 v2 rv2 => ⟨mu2, M2, y, e2, g2, rv2, h2⟩⟩ (fun u2 s2 v2 H2 I2 rl2 ⟨mu2, M2, y, e2, g2, rv2, h2⟩ => ?_) nb
  cases q1 : itOf (rd M2 x) with
  | none => simp only [q1] at h2; exact False.elim h2
  | some xs =>
    cases q2 : itOf (rd M2 y) with
    | none => simp only [q1, q2] at h2; exact False.elim h2
    | some ys =>
      simp only [q1, q2] at h2
      split at h2
      rotate_left
      · exact False.elim h2
      rename_i hline
      obtain ⟨vs1, S1, rr1⟩ := src_of I2 ((rv1.ext e2).rd g2) rl1 q1
      obtain ⟨vs2, S2, rr2⟩ := src_of I2 (rv2.rd g2) rl2 q2
      obtain ⟨o1, Hc1, B1, hH1, f1⟩ := S1.ex
      obtain ⟨o2, Hc2, B2, hH2, f2⟩ := S2.ex
      refine zip_begins2 B1 B2 hH1 hH2 fun h' hz hTI hTO ho1 ho2 hsz hk => ?_
      obtain ⟨fp1, P1, St1, D1, st1, m1, l1, p1⟩ := f1 h' s2.heap.objs.size (Nat.le_refl _) ho1 hk
      obtain ⟨fp2, P2, St2, D2, st2, m2, l2, p2⟩ := f2 h' (s2.heap.objs.size + 1) (Nat.le_succ _) ho2 hk
      let N := s2.heap.objs.size
      have I3 : Inv X pins σ H2 { s2 with heap := h', toks := s2.toks } := I2.kept hk
      have no1 : ∀ b, N ≤ b → b ≠ N → b ∉ fp1 := fun b hb hn hm => (l1 b hm).elim hn fun q => absurd q (Nat.not_lt.mpr hb)
      have no2 : ∀ b, N ≤ b → b ≠ N + 1 → b ∉ fp2 := fun b hb hn hm => (l2 b hm).elim hn fun q => absurd q (Nat.not_lt.mpr hb)
      have Sp : ZipSep2 (N + 4) (N + 2) (N + 3) N (N + 1) fp1 fp2 := {
        TIz := (by show (_ : Nat) ≠ (_ : Nat); omega), TOz := (by show (_ : Nat) ≠ (_ : Nat); omega), TITO := (by show (_ : Nat) ≠ (_ : Nat); omega), TIi1 := (by show (_ : Nat) ≠ (_ : Nat); omega), mem1 := m1, zf1 := no1 _ (by omega) (by omega), Tf1 := no1 _ (by omega) (by omega)
        TIi2 := (by show (_ : Nat) ≠ (_ : Nat); omega), mem2 := m2, zf2 := no2 _ (by omega) (by omega), Tf2 := no2 _ (by omega) (by omega), sep1_2 := no2 _ (by omega) (by omega), sep2_1 := no1 _ (by omega) (by omega) }
      have hlen : vs1.length = xs.length := rr1.length.symm
      have hmin : min vs1.length vs2.length ≤ sizeLine := by rw [line_eq]; omega
      have fpo : ∀ b ∈ [N + 4, N + 3, N, N + 1], FpOk X pins H2 b := fun b hb => by
        have hb' : N ≤ b := by
          have e' : b = N + 4 ∨ b = N + 3 ∨ b = N ∨ b = N + 1 := by simpa using hb
          omega
        exact I2.fpOk hb' (I2.hok.fresh hb')
      refine args_nil ?_
      have hh : X.A.handled = none := I2.ok.hd hc
      refine callType_codes (Q₁ := fun obj s₁ => s₁.TypeIs obj "tuple" ∧ EP X pins σ Q obj s₁) F.called_tuple (F.typeCall_tuple_1 _) F.entry_object_init ?_ fun obj s₁ h₁ => ?_
      · refine codeAny_of_tree ?_
        show wpAny _ X.A.in1.in1 (do checkBuiltinCall "tuple.__new__" ⟨[.type "tuple", .ref (N + 4)], []⟩; again (.builtin "tuple.__new__" ⟨[.type "tuple", .ref (N + 4)], []⟩)) _ _ _
        refine wpAny_bind (wpAny_of_eq (F.newCall_tuple_1 _) (wpAny_pure ⟨plainId_quiet F.plain_tuple_new _, codeAny_builtin F.entry_tuple_new ?_⟩))
        rw [Around.under_plainId F.plain_tuple_new _]
        have hsub := sub_tuple_self
        have hinit := init_tuple_lookup
        have hmh := madeHere_tuple
        have hTI' : ({ s2 with heap := h' } : Shared).TypeIs (.ref (N + 4)) "zip" := ⟨_, hz, rfl⟩
        have coll : ∀ {A' : Around} {E : Value → Shared → Prop} {Q' : List Value → Shared → Prop}, A'.handled = none → (∀ (s' : Shared) (H' : Hp) (acc : Array Value) (vs' : List V), Inv X pins σ H' s' → acc.size = min vs1.length vs2.length → Vals vs' acc.toList → Good X.K mu2 M2 H' → Ext mu2 H2 mu2 H' → RVs X.K mu2 H' (zipK xs ys) vs' → Q' acc.toList s') →
            wpAny (model X.prog X.w) A' (collect (.ref (N + 4))) Q' E { s2 with heap := h' } := fun hA hq =>
          collect_zip hA Sp D1 D2 hmin p1 p2 rr1 rr2 rfl rfl I3 st1 st2 hTI hz hTO fpo (fun b hb => (l1 b hb).elim (fun e => by rw [e]; show N < h'.objs.size; omega) fun e => Nat.lt_of_lt_of_le e (by show s2.heap.objs.size ≤ h'.objs.size; rw [hsz]; exact Nat.le_add_right _ _)) (fun b hb => (l2 b hb).elim (fun e => by rw [e]; show N + 1 < h'.objs.size; omega) fun e => Nat.lt_of_lt_of_le e (by show s2.heap.objs.size ≤ h'.objs.size; rw [hsz]; exact Nat.le_add_right _ _)) g2 hq
        wp_walk using wpAny_typeOf hTI', coll (A' := X.A.in1.in1) hh
        intro s' H' acc vs' I' hacc hv g' ex' rv'
        show wpAny _ _ (Builtin.Tuple.tupleExact acc.toList.toArray >>= fun v => ret v) _ _ _
        unfold Builtin.Tuple.tupleExact
        refine wpAny_bind (wpAny_newObj_type ?_ (by show acc.toList.toArray.size ≤ sizeLine; rw [List.size_toArray, Array.length_toList, hacc]; exact hmin))
        refine wpAny_pure ?_
        have hz' : vs'.length ≤ sizeLine := by rw [hv.length, Array.length_toList, hacc]; exact hmin
        have hfr : H' s'.heap.objs.size = none := I'.hok.fresh (Nat.le_refl _)
        refine ⟨⟨_, Heap.get?_push_size _ rfl, rfl⟩, .ref s'.heap.objs.size, _, tupK_new I' hv hz', rfl, ?_⟩
        exact h2 mu2 _ (ex'.trans (Ext.upd g' hfr)) (g'.upd hfr) _ (.newTupK g' hfr rfl rv')
      · exact ⟨h₁.1, F.args_object_init_2 obj _, object_init_meets F.called_tuple.init.lookup F.called_tuple.made (by decide) X.prog X.w X.A.in1 _ s₁ ⟨h₁.1, rfl, h₁.2⟩⟩
end Py

namespace Py
open PySem PySem.Spec PyProof.Rows L2
/-- the law's promise from its small form -/
theorem law_end {K : PySem.W.Frag} {f : Fn} {n : Nat} (h : ∀ ns : List Int, ns.length ≤ n → f [.fz ns] [] = .ok (.bl true) []) (H : Hp) (a : Addr) (ns : List Int) (hl : ns.length ≤ n) (hO : Only H) (hS : SqL K H a (ns.map V.int)) :
    spF K 1 f [.ref a] H (fun v _ => v = .bl true) (fun _ _ _ => False) := by
  have ok : Mu.ok ⟨[], []⟩ a := ⟨by simp, by simp⟩
  refine ⟨rfl, ⟨[], []⟩, [], [.fz ns], ⟨rfl, ?_, ?_, ?_, ?_⟩, .cons ?_ .nil, ?_⟩
  · intro i j b hi; simp at hi
  · intro i c hi; simp at hi
  · intro b hb; simp at hb
  · intro b hb; simp at hb
  · rcases hS with (hS | ⟨o, hS⟩) | hS
    · rcases hO a with e | ⟨o, xs, e⟩ <;> (rw [hS] at e; cases e)
    · exact .fz hS ok
    · exact .kfz hS
  · rw [h ns hl]
    intro mu' H' _ _ v rv
    cases rv
    rfl
end Py

namespace Py.Sh
open PySem L2
def f__law_cells : Nat → Fn
  | 0 => fBad
  | d + 1 => fnOf 2 6 false (sSeq (sSet 2 (eOr (eB (lBi listW (aCons (eSl (eVar 0) pNo (pSo (eVar 1))) aNil))) (eB (lDisp (aCons (eC (.int 0)) aNil))))) (sSeq (sFor (itEn (eSl (eVar 0) (pSo (eVar 1)) (pSo (eC (.int 63))))) (gT (gsC (gN 3) (gsC (gN 4) gs0))) (sSeq (sSet 5 (eOp modW (eBi (b1 intW) (aCons (eVar 3) aNil)) (eVar 1))) (sSub (eVar 2) (eVar 5) (eOp addW (eOp ixW (eVar 2) (eVar 5)) (eOp mulW (eVar 4) (eOp addW (eVar 3) (eC (.int 2)))))))) (sRet (eVar 2))))
theorem fn_len__law_cells : ∀ d, ∀ ws M, ws.length ≠ 2 → f__law_cells d ws M = .bad
  | 0 => fBad_len
  | d + 1 => fun ws M h => by unfold f__law_cells; exact fnOf_len ws M h

def f__law_same : Nat → Fn
  | 0 => fBad
  | d + 1 => fnOf 2 5 false (sSeq (sIf (bT (eIsI [.lst, .tup] (eVar 1))) (sSeq (sIf (bOr (bT (eOp neO (eIsI [.lst] (eVar 0)) (eIsI [.lst] (eVar 1)))) (bT (eOp neO (eIsI [.tup] (eVar 0)) (eIsI [.tup] (eVar 1))))) (sRet (eC (.bl false))) sSkip) (sRet (eAnd (eOp eqO (eBi (b1 lenW) (aCons (eVar 0) aNil)) (eBi (b1 lenW) (aCons (eVar 1) aNil))) (eBi (b1 allW) (aCons (eL (lComp [2, 3] (itZ (eVar 0) (eVar 1)) (gT (gsC (gN 2) (gsC (gN 3) gs0))) bYes (eCall (f__law_same d) (aCons (eVar 2) (aCons (eVar 3) aNil))))) aNil))))) sSkip) (sSeq (sIf (bT (eIsI [.dct] (eVar 1))) (sSeq (sIf (bOr (bNot (bT (eIsI [.dct] (eVar 0)))) (bT (eOp neO (eL (lBi sortedW (aCons (eVar 0) aNil))) (eL (lBi sortedW (aCons (eVar 1) aNil)))))) (sRet (eC (.bl false))) sSkip) (sRet (eBi (b1 allW) (aCons (eL (lComp [4] (itS (eVar 1)) (gN 4) bYes (eCall (f__law_same d) (aCons (eOp ixW (eVar 0) (eVar 4)) (aCons (eOp ixW (eVar 1) (eVar 4)) aNil))))) aNil)))) sSkip) (sSeq (sIf (bOr (bT (eOp isN (eVar 1) (eC .non))) (bT (eIsI [.bl, .str] (eVar 1)))) (sRet (eAnd (eOp eqO (eVar 0) (eVar 1)) (eAnd (eOp eqO (eIsI [.bl] (eVar 0)) (eIsI [.bl] (eVar 1))) (eOp eqO (eOp isN (eVar 0) (eC .non)) (eOp isN (eVar 1) (eC .non)))))) sSkip) (sRet (eAnd (eIsI [.int] (eVar 0)) (eAnd (eNot (eIsI [.bl] (eVar 0))) (eOp eqO (eVar 0) (eVar 1))))))))
theorem fn_len__law_same : ∀ d, ∀ ws M, ws.length ≠ 2 → f__law_same d ws M = .bad
  | 0 => fBad_len
  | d + 1 => fun ws M h => by unfold f__law_same; exact fnOf_len ws M h

def f_tupled : Nat → Fn
  | 0 => fBad
  | d + 1 => fnOf 1 2 false (sRet (eIf (bT (eIsI [.lst, .tup] (eVar 0))) (eBi (b1 tuplW) (aCons (eL (lComp [1] (itS (eVar 0)) (gN 1) bYes (eCall (f_tupled d) (aCons (eVar 1) aNil)))) aNil)) (eVar 0)))
theorem fn_len_tupled : ∀ d, ∀ ws M, ws.length ≠ 1 → f_tupled d ws M = .bad
  | 0 => fBad_len
  | d + 1 => fun ws M h => by unfold f_tupled; exact fnOf_len ws M h

def f__law_take : Nat → Fn
  | 0 => fBad
  | d + 1 => fnOf 2 6 false (sSeq (sIf (bT (eOp gtW (eOp ixW (eVar 0) (eC (.int 0))) (eC (.int 0)))) (sSeq (sSet 2 (eOp modW (eBi (b1 intW) (aCons (eOp ixW (eVar 0) (eC (.int 0))) aNil)) (eVar 1))) (sSeq (sSub (eVar 0) (eC (.int 0)) (eOp fdivW (eOp ixW (eVar 0) (eC (.int 0))) (eVar 1))) (sRet (eVar 2)))) sSkip) (sSeq (sSub (eVar 0) (eC (.int 2)) (eOp addW (eOp ixW (eVar 0) (eC (.int 2))) (eC (.int 1)))) (sSeq (sSet 3 (eOp modW (eBi (b1 intW) (aCons (eOp mulW (eOp addW (eOp ixW (eVar 0) (eC (.int 1))) (eOp mulW (eC (.int 48271)) (eOp ixW (eVar 0) (eC (.int 2))))) (eOp addW (eC (.int 39373)) (eOp ixW (eVar 0) (eC (.int 2))))) aNil)) (eC (.int 2147483647)))) (sSeq (sSet 4 (eOp addW (eOp modW (eBi (b1 intW) (aCons (eVar 3) aNil)) (eC (.int 40009))) (eC (.int 7)))) (sSeq (sSet 5 (eOp modW (eBi (b1 intW) (aCons (eOp mulW (eOp addW (eOp addW (eVar 3) (eOp ixW (eVar 0) (eC (.int 2)))) (eOp fdivW (eOp ixW (eVar 0) (eC (.int 1))) (eC (.int 1000003)))) (eVar 4)) aNil)) (eC (.int 2147483629)))) (sRet (eOp modW (eBi (b1 intW) (aCons (eOp fdivW (eOp modW (eBi (b1 intW) (aCons (eOp addW (eOp mulW (eVar 5) (eC (.int 48271))) (eVar 3)) aNil)) (eC (.int 2147483587))) (eC (.int 64))) aNil)) (eVar 1))))))))
theorem fn_len__law_take : ∀ d, ∀ ws M, ws.length ≠ 2 → f__law_take d ws M = .bad
  | 0 => fBad_len
  | d + 1 => fun ws M h => by unfold f__law_take; exact fnOf_len ws M h

def f__law_pick : Nat → Fn
  | 0 => fBad
  | d + 1 => fnOf 3 6 false (sSeq (sPar [3, 4] (aCons (eB (lBi listW (aCons (eVar 1) aNil))) (aCons (eB (lDisp aNil)) aNil))) (sSeq (sFor (itR1 (eBi (b2 minI) (aCons (eVar 2) (aCons (eBi (b1 lenW) (aCons (eVar 3) aNil)) aNil)))) (gN 5) (sEx (eApp (eVar 4) (ePopAt (eVar 3) (eCall (f__law_take d) (aCons (eVar 0) (aCons (eBi (b1 lenW) (aCons (eVar 3) aNil)) aNil))))))) (sRet (eVar 4))))
theorem fn_len__law_pick : ∀ d, ∀ ws M, ws.length ≠ 3 → f__law_pick d ws M = .bad
  | 0 => fBad_len
  | d + 1 => fun ws M h => by unfold f__law_pick; exact fnOf_len ws M h

def f__law_tree : Nat → Fn
  | 0 => fBad
  | d + 1 => fnOf 3 11 false (sSeq (sSet 3 (eSl (eL (lComp [10] (itS (eC (.str [97, 98, 99, 100, 101, 102, 103, 104, 105, 106]))) (gN 10) bYes (eOp addW (eC (.str [114])) (eVar 10)))) pNo (pSo (eOp addW (eC (.int 1)) (eCall (f__law_take d) (aCons (eVar 0) (aCons (eVar 1) aNil))))))) (sSeq (sSet 4 (eCall (f__law_pick d) (aCons (eVar 0) (aCons (eVar 3) (aCons (eBi (b1 lenW) (aCons (eVar 3) aNil)) aNil))))) (sSeq (sSet 5 (eB (lDisp aNil))) (sSeq (sFor (itEn (eVar 4)) (gT (gsC (gN 6) (gsC (gN 7) gs0))) (sSeq (sSet 8 (eBi (b2 minI) (aCons (eVar 6) (aCons (eVar 2) aNil)))) (sSeq (sSet 9 (eIf (bOr (bT (eOp eqO (eVar 8) (eC (.int 0)))) (bT (eOp eqO (eCall (f__law_take d) (aCons (eVar 0) (aCons (eC (.int 7)) aNil))) (eC (.int 0))))) (eC (.int 0)) (eOp addW (eC (.int 1)) (eCall (f__law_take d) (aCons (eVar 0) (aCons (eVar 8) aNil)))))) (sEx (eApp (eVar 5) (eTup (aCons (eVar 7) (aCons (eBi (b1 tuplW) (aCons (eCall (f__law_pick d) (aCons (eVar 0) (aCons (eSl (eVar 4) pNo (pSo (eVar 6))) (aCons (eVar 9) aNil)))) aNil)) aNil)))))))) (sRet (eBi (b1 tuplW) (aCons (eL (lBi sortedW (aCons (eVar 5) aNil))) aNil)))))))
theorem fn_len__law_tree : ∀ d, ∀ ws M, ws.length ≠ 3 → f__law_tree d ws M = .bad
  | 0 => fBad_len
  | d + 1 => fun ws M h => by unfold f__law_tree; exact fnOf_len ws M h

def f__law_worth : Nat → Fn
  | 0 => fBad
  | d + 1 => fnOf 3 5 false (sRet (eBi (b1 tuplW) (aCons (eL (lComp [3, 4] (itS (eVar 1)) (gT (gsC (gN 3) (gsC (gN 4) gs0))) bYes (eTup (aCons (eVar 3) (aCons (eCall (f__law_take d) (aCons (eVar 0) (aCons (eVar 2) aNil))) aNil))))) aNil)))
theorem fn_len__law_worth : ∀ d, ∀ ws M, ws.length ≠ 3 → f__law_worth d ws M = .bad
  | 0 => fBad_len
  | d + 1 => fun ws M h => by unfold f__law_worth; exact fnOf_len ws M h

def f__law_lists : Nat → Fn
  | 0 => fBad
  | d + 1 => fnOf 1 2 false (sRet (eIf (bT (eIsI [.lst, .tup] (eVar 0))) (eL (lComp [1] (itS (eVar 0)) (gN 1) bYes (eCall (f__law_lists d) (aCons (eVar 1) aNil)))) (eVar 0)))
theorem fn_len__law_lists : ∀ d, ∀ ws M, ws.length ≠ 1 → f__law_lists d ws M = .bad
  | 0 => fBad_len
  | d + 1 => fun ws M h => by unfold f__law_lists; exact fnOf_len ws M h

def f_tells_by : Nat → Fn
  | 0 => fBad
  | d + 1 => fnOf 4 6 false (sSeq (sIf (bT (eOp eqO (eBi (b1 lenW) (aCons (eVar 2) aNil)) (eC (.int 0)))) (sRet (eC (.bl true))) sSkip) (sSeq (sSet 4 (eL (lComp [5] (itS (eVar 2)) (gN 5) bYes (eOp neO (eOp ixW (eVar 0) (eVar 5)) (eOp ixW (eVar 0) (eVar 1)))))) (sSeq (sIf (bT (eOp eqO (eVar 3) (eC (.str [102, 105, 114, 115, 116])))) (sRet (eOp ixW (eVar 4) (eC (.int 0)))) sSkip) (sRet (eIf (bT (eOp eqO (eVar 3) (eC (.str [101, 97, 99, 104])))) (eBi (b1 allW) (aCons (eVar 4) aNil)) (eBi (b1 anyW) (aCons (eVar 4) aNil)))))))
theorem fn_len_tells_by : ∀ d, ∀ ws M, ws.length ≠ 4 → f_tells_by d ws M = .bad
  | 0 => fBad_len
  | d + 1 => fun ws M h => by unfold f_tells_by; exact fnOf_len ws M h

def f_book_by : Nat → Fn
  | 0 => fBad
  | d + 1 => fnOf 3 6 false (sSeq (sSet 3 (eD (dBi (eCall (f_tupled d) (aCons (eVar 1) aNil))))) (sRet (eBi (b1 tuplW) (aCons (eL (lComp [4, 5] (itS (eCall (f_tupled d) (aCons (eVar 0) aNil))) (gT (gsC (gN 4) (gsC (gN 5) gs0))) (bT (eCall (f_tells_by d) (aCons (eVar 3) (aCons (eVar 4) (aCons (eVar 5) (aCons (eVar 2) aNil)))))) (eVar 4))) aNil))))
theorem fn_len_book_by : ∀ d, ∀ ws M, ws.length ≠ 3 → f_book_by d ws M = .bad
  | 0 => fBad_len
  | d + 1 => fun ws M h => by unfold f_book_by; exact fnOf_len ws M h

def f__law_trees : Nat → Fn
  | 0 => fBad
  | d + 1 => fnOf 0 2 false (sSeq (sSet 0 (eTup (aCons (eTup (aCons (eC (.str [97])) (aCons (eTup aNil) aNil))) (aCons (eTup (aCons (eC (.str [98])) (aCons (eTup (aCons (eC (.str [97])) aNil)) aNil))) (aCons (eTup (aCons (eC (.str [99])) (aCons (eTup (aCons (eC (.str [98])) aNil)) aNil))) (aCons (eTup (aCons (eC (.str [100])) (aCons (eTup (aCons (eC (.str [98])) aNil)) aNil))) (aCons (eTup (aCons (eC (.str [101])) (aCons (eTup (aCons (eC (.str [99])) (aCons (eC (.str [100])) aNil))) aNil))) aNil))))))) (sSeq (sSet 1 (eTup (aCons (eTup (aCons (eC (.str [97])) (aCons (eTup aNil) aNil))) (aCons (eTup (aCons (eC (.str [98])) (aCons (eTup (aCons (eC (.str [97])) aNil)) aNil))) (aCons (eTup (aCons (eC (.str [99])) (aCons (eTup (aCons (eC (.str [98])) (aCons (eC (.str [97])) aNil))) aNil))) aNil))))) (sRet (eTup (aCons (eVar 0) (aCons (eTup (aCons (eTup (aCons (eC (.str [97])) (aCons (eTup aNil) aNil))) (aCons (eTup (aCons (eC (.str [98])) (aCons (eTup (aCons (eC (.str [97])) aNil)) aNil))) aNil))) (aCons (eVar 1) (aCons (eOp addW (eSl (eVar 1) pNo (pSo (eC (.int 2)))) (eTup (aCons (eTup (aCons (eC (.str [99])) (aCons (eTup (aCons (eC (.str [97])) (aCons (eC (.str [98])) aNil))) aNil))) aNil))) aNil))))))))
theorem fn_len__law_trees : ∀ d, ∀ ws M, ws.length ≠ 0 → f__law_trees d ws M = .bad
  | 0 => fBad_len
  | d + 1 => fun ws M h => by unfold f__law_trees; exact fnOf_len ws M h
end Py.Sh

namespace Py
section
variable {r r1 r2 : Sl} {M M1 M2 M3 : MH} {w x y z : W} {ws us : List W} {m ma mb mc mo mi mv : Ev} {ms : EvL} {b bc ba bb : EvB} {k : Bool} {i n : Nat} {f : W → W → Option W} {g : W → Option W} {a c : Sx} {o : O} {res : R W}
theorem k_var (h : r[i]? = some (some w)) : eVar i r M = .ok w M := by unfold eVar; rw [h]
theorem k_c : eC w r M = .ok w M := rfl
theorem k_op (h1 : ma r M = .ok x M1) (h2 : mb r M1 = .ok y M2) (h3 : f (rd M2 x) (rd M2 y) = some w) : eOp f ma mb r M = .ok w M2 := by unfold eOp; rw [h1]; show (mb r M1).bind _ = _; rw [h2]; show R.ofO (f (rd M2 x) (rd M2 y)) M2 = _; rw [h3]; rfl
theorem k_un (h1 : ma r M = .ok x M1) (h3 : g (rd M1 x) = some w) : eUn g ma r M = .ok w M1 := by unfold eUn; rw [h1]; show R.ofO (g (rd M1 x)) M1 = _; rw [h3]; rfl
theorem k_T (h1 : m r M = .ok x M1) (h3 : truW (rd M1 x) = some k) : bT m r M = .ok k M1 := by unfold bT; rw [h1]; show R.ofO (truW (rd M1 x)) M1 = _; rw [h3]; rfl
theorem k_bNot (h : ba r M = .ok k M1) : bNot ba r M = .ok (!k) M1 := by unfold bNot; rw [h]; rfl
theorem k_bAnd_t {k2 : Bool} (h : ba r M = .ok true M1) (h2 : bb r M1 = .ok k2 M2) : bAnd ba bb r M = .ok k2 M2 := by unfold bAnd; rw [h]; exact h2
theorem k_bAnd_f (h : ba r M = .ok false M1) : bAnd ba bb r M = .ok false M1 := by unfold bAnd; rw [h]; rfl
theorem k_bOr_f {k2 : Bool} (h : ba r M = .ok false M1) (h2 : bb r M1 = .ok k2 M2) : bOr ba bb r M = .ok k2 M2 := by unfold bOr; rw [h]; exact h2
theorem k_bOr_t (h : ba r M = .ok true M1) : bOr ba bb r M = .ok true M1 := by unfold bOr; rw [h]; rfl
/-- two tests that change nothing -/
theorem k_bOr {k2 : Bool} (h : ba r M = .ok k M) (h2 : bb r M = .ok k2 M) : bOr ba bb r M = .ok (k || k2) M := by cases k with | false => exact k_bOr_f h h2 | true => exact k_bOr_t h
theorem k_bAnd {k2 : Bool} (h : ba r M = .ok k M) (h2 : bb r M = .ok k2 M) : bAnd ba bb r M = .ok (k && k2) M := by cases k with | true => exact k_bAnd_t h h2 | false => exact k_bAnd_f h
theorem k_if_t (h : bc r M = .ok true M1) (h2 : ma r M1 = res) : eIf bc ma mb r M = res := by unfold eIf; rw [h]; exact h2
theorem k_if_f (h : bc r M = .ok false M1) (h2 : mb r M1 = res) : eIf bc ma mb r M = res := by unfold eIf; rw [h]; exact h2
theorem k_and_t (h : ma r M = .ok x M1) (ht : truW (rd M1 x) = some true) (h2 : mb r M1 = res) : eAnd ma mb r M = res := by unfold eAnd; rw [h]; show (match truW (rd M1 x) with | some true => _ | some false => _ | none => _) = _; rw [ht]; exact h2
theorem k_and_f (h : ma r M = .ok x M1) (ht : truW (rd M1 x) = some false) : eAnd ma mb r M = .ok x M1 := by unfold eAnd; rw [h]; show (match truW (rd M1 x) with | some true => _ | some false => _ | none => _) = _; rw [ht]
theorem k_or_t (h : ma r M = .ok x M1) (ht : truW (rd M1 x) = some true) : eOr ma mb r M = .ok x M1 := by unfold eOr; rw [h]; show (match truW (rd M1 x) with | some true => _ | some false => _ | none => _) = _; rw [ht]
theorem k_or_f (h : ma r M = .ok x M1) (ht : truW (rd M1 x) = some false) (h2 : mb r M1 = res) : eOr ma mb r M = res := by unfold eOr; rw [h]; show (match truW (rd M1 x) with | some true => _ | some false => _ | none => _) = _; rw [ht]; exact h2
/-- bools, nothing changed -/
theorem k_orB {k2 : Bool} (h : ma r M = .ok (.bl k) M) (h2 : mb r M = .ok (.bl k2) M) : eOr ma mb r M = .ok (.bl (k || k2)) M := by cases k with | false => exact k_or_f h rfl h2 | true => exact k_or_t h rfl
theorem k_andB {k2 : Bool} (h : ma r M = .ok (.bl k) M) (h2 : mb r M = .ok (.bl k2) M) : eAnd ma mb r M = .ok (.bl (k && k2)) M := by cases k with | true => exact k_and_t h rfl h2 | false => exact k_and_f h rfl
theorem k_not (h : bT m r M = .ok k M1) : eNot m r M = .ok (.bl (!k)) M1 := by unfold eNot; rw [h]; rfl
theorem k_nil : aNil r M = .ok [] M := rfl
theorem k_cons (h : m r M = .ok x M1) (h2 : ms r M1 = .ok us M2) : aCons m ms r M = .ok (x :: us) M2 := by unfold aCons; rw [h]; show (ms r M1).bind _ = _; rw [h2]; rfl
theorem k_tup (h : ms r M = .ok us M1) (hl : us.length ≤ line) : eTup ms r M = .ok (.tup true us) M1 := by unfold eTup; rw [h]; show (if us.length ≤ line then _ else _) = _; rw [if_pos hl]
theorem k_disp (h : ms r M = .ok us M1) (hl : us.length ≤ line) : lDisp ms r M = .ok us M1 := by unfold lDisp; rw [h]; show (if us.length ≤ line then _ else _) = _; rw [if_pos hl]
theorem k_L (h : ms r M = .ok us M1) : eL ms r M = .ok (.lst us) M1 := by unfold eL; rw [h]; rfl
theorem k_B (h : ms r M = .ok us M1) (hn : noRefs us = true) : eB ms r M = .ok (.ref M1.length) (M1 ++ [.lst us]) := by unfold eB; rw [h]; show (if noRefs us = true then _ else _) = _; rw [if_pos hn]
theorem k_bi {h : MH → List W → Option W} (h1 : ms r M = .ok us M1) (h2 : h M1 us = some w) : eBi h ms r M = .ok w M1 := by unfold eBi; rw [h1]; show R.ofO (h M1 us) M1 = _; rw [h2]; rfl
theorem k_lbi {h : MH → List W → Option (List W)} (h1 : ms r M = .ok us M1) (h2 : h M1 us = some ws) : lBi h ms r M = .ok ws M1 := by unfold lBi; rw [h1]; show R.ofO (h M1 us) M1 = _; rw [h2]; rfl
theorem k_call {h : Fn} (h1 : ms r M = .ok us M1) (h2 : h us M1 = res) : eCall h ms r M = res := by unfold eCall; rw [h1]; exact h2
theorem k_isi {ts : List Ty} {t : Ty} (h1 : m r M = .ok x M1) (h2 : tyW (rd M1 x) = some t) : eIsI ts m r M = .ok (.bl (ts.any (sub t))) M1 := by unfold eIsI; rw [h1]; show (match tyW (rd M1 x) with | some t => R.ok (W.bl (ts.any (sub t))) M1 | none => .bad) = _; rw [h2]
theorem k_no : pNo r M = .ok none M := rfl
theorem k_so {j : Int} (h : m r M = .ok (.int j) M1) : pSo m r M = .ok (some j) M1 := by unfold pSo; rw [h]; rfl
theorem k_sl {lo hi : Sl → MH → R (Option Int)} {l h : Option Int} (h1 : m r M = .ok x M1) (h2 : lo r M1 = .ok l M2) (h3 : hi r M2 = .ok h M3) (h4 : slW (rd M3 x) l h = some w) : eSl m lo hi r M = .ok w M3 := by
  unfold eSl; rw [h1]; show (lo r M1).bind _ = _; rw [h2]; show (hi r M2).bind _ = _; rw [h3]; show R.ofO (slW (rd M3 x) l h) M3 = _; rw [h4]; rfl
theorem k_it (h : m r M = .ok x M1) (h2 : itOf x = some ws) : itS m r M = .ok ws M1 := by unfold itS; rw [h]; show R.ofO (itOf x) M1 = _; rw [h2]; rfl
theorem k_r1 {j : Int} (h : m r M = .ok (.int j) M1) (h2 : i62 j = true) : itR1 m r M = .ok (rngW 0 j.toNat) M1 := by unfold itR1; rw [h]; show (if i62 j = true then _ else _) = _; rw [if_pos h2]
theorem k_en (h : m r M = .ok (.lst ws) M1) : itEn m r M = .ok (enumW 0 ws) M1 := by unfold itEn; rw [h]; rfl
theorem k_zL (h : ma r M = .ok (.lst ws) M1) (h2 : mb r M1 = .ok (.lst us) M2) : itZ ma mb r M = .ok (zipW ws us) M2 := by unfold itZ; rw [h]; show (mb r M1).bind _ = _; rw [h2]; rfl
theorem k_zT {k1 k2 : Bool} (h : ma r M = .ok (.tup k1 ws) M1) (h2 : mb r M1 = .ok (.tup k2 us) M2) : itZ ma mb r M = .ok (zipW ws us) M2 := by unfold itZ; rw [h]; show (mb r M1).bind _ = _; rw [h2]; rfl
theorem k_D {md : Sl → MH → R (List W × List W)} {p : List W × List W} (h : md r M = .ok p M1) : eD md r M = .ok (.dct p.1 p.2) M1 := by unfold eD; rw [h]; rfl
theorem k_dBi {p : List W × List W} (h : m r M = .ok x M1) (h2 : dictPairs (rd M1 x) = some ws) (h3 : dictGo [] [] ws = some p) : dBi m r M = .ok p M1 := by
  unfold dBi; rw [h]; show (match dictPairs (rd M1 x) with | some ps => R.ofO (dictGo [] [] ps) M1 | none => R.bad) = _; rw [h2]; show R.ofO (dictGo [] [] ws) M1 = _; rw [h3]; rfl
/-! statements -/
theorem s_seq (h : a r M = .nx r1 M1) (h2 : c r1 M1 = o) : sSeq a c r M = o := by unfold sSeq; rw [h]; exact h2
theorem s_seqR (h : a r M = .rt w M1) : sSeq a c r M = .rt w M1 := by unfold sSeq; rw [h]
theorem s_set (h : m r M = .ok w M1) : sSet i m r M = .nx (r.set i (some w)) M1 := by unfold sSet; rw [h]; rfl
theorem s_ret (h : m r M = .ok w M1) : sRet m r M = .rt w M1 := by unfold sRet; rw [h]; rfl
theorem s_ex (h : m r M = .ok w M1) : sEx m r M = .nx r M1 := by unfold sEx; rw [h]; rfl
theorem s_skip : sSkip r M = .nx r M := rfl
theorem s_if_t (h : bc r M = .ok true M1) (h2 : a r M1 = o) : sIf bc a c r M = o := by unfold sIf; rw [h]; exact h2
theorem s_if_f (h : bc r M = .ok false M1) (h2 : c r M1 = o) : sIf bc a c r M = o := by unfold sIf; rw [h]; exact h2
theorem s_asg {t : Tg} (h : m r M = .ok w M1) (h2 : t M1 w r = some r1) : sAsg t m r M = .nx r1 M1 := by unfold sAsg; rw [h]; show (match t M1 w r with | some r1 => O.nx r1 M1 | none => .bad) = _; rw [h2]
theorem s_par {is : List Nat} (h : ms r M = .ok us M1) (h2 : us.length = is.length) : sPar is ms r M = .nx (setAll r is us) M1 := by unfold sPar; rw [h]; show (if us.length = is.length then _ else _) = _; rw [if_pos h2]
theorem s_sub {xs : List W} {j : Int} {q : Nat} (h1 : mv r M = .ok w M1) (h2 : mo r M1 = .ok (.ref n) M2) (h3 : mi r M2 = .ok (.int j) M3) (h4 : M3[n]? = some (.lst xs)) (h5 : L2.ixN xs.length j = some q) (h6 : noRef w = true) : sSub mo mi mv r M = .nx r (M3.set n (.lst (xs.set q w))) := by
  unfold sSub; rw [h1]; show (mo r M1).thenO _ = _; rw [h2]; show (mi r M2).thenO _ = _; rw [h3]; simp only [R.thenO, h4, h5, h6, if_true]
theorem s_subD {ks vs : List W} (h1 : mv r M = .ok w M1) (h2 : mo r M1 = .ok (.ref n) M2) (h3 : mi r M2 = .ok y M3) (h4 : M3[n]? = some (.dct ks vs)) (h5 : isKey y = true) (h6 : noRef w = true) (h7 : ks.length < line) : sSub mo mi mv r M = .nx r (M3.set n (.dct (putD ks vs y w).1 (putD ks vs y w).2)) := by
  unfold sSub; rw [h1]; show (mo r M1).thenO _ = _; rw [h2]; show (mi r M2).thenO _ = _; rw [h3]; simp only [R.thenO, h4, h5, h6, Bool.and_self, Bool.true_and, decide_eq_true h7, if_true]
theorem s_app {xs : List W} (h1 : mo r M = .ok (.ref n) M1) (h0 : ∃ q, M1[n]? = some (.lst q)) (h2 : ma r M1 = .ok w M2) (h3 : M2[n]? = some (.lst xs)) (h4 : xs.length < line) (h5 : noRef w = true) : eApp mo ma r M = .ok .non (M2.set n (.lst (xs ++ [w]))) := by
  obtain ⟨q, h0⟩ := h0
  unfold eApp; rw [h1]; show (if (cellL M1 (.ref n)).isSome = true then _ else _) = _
  rw [if_pos (by simp [cellL, h0]), h2]
  simp only [R.bind, cellL, h3, decide_eq_true h4, h5, Bool.and_self, if_true]
theorem s_pop {xs : List W} {j : Int} {q : Nat} (h1 : mo r M = .ok (.ref n) M1) (h0 : ∃ q, M1[n]? = some (.lst q)) (h2 : ma r M1 = .ok (.int j) M2) (h3 : M2[n]? = some (.lst xs)) (h4 : xs.length ≤ line) (h5 : L2.ixN xs.length j = some q) (h6 : xs[q]? = some w) : ePopAt mo ma r M = .ok w (M2.set n (.lst (xs.eraseIdx q))) := by
  obtain ⟨q', h0⟩ := h0
  unfold ePopAt; rw [h1]; show (if (cellL M1 (.ref n)).isSome = true then _ else _) = _
  rw [if_pos (by simp [cellL, h0]), h2]
  simp only [R.bind, cellL, h3, if_pos h4, h5, h6]
/-! a def -/
theorem k_fn {ar nn : Nat} {keep : Bool} {body : Sx} (hl : ws.length = ar) (hb : body (ws.map some ++ List.replicate (nn - ar) none) M = .rt w M1) (hf : fin keep M.length w M1 = res) : fnOf ar nn keep body ws M = res := by
  unfold fnOf; rw [if_pos hl, hb]; exact hf
theorem fin_v {keep : Bool} {L : Nat} (h : noRef w = true) : fin keep L w M = .ok w (M.take L) := by
  cases w with
  | ref n => cases h
  | _ => simp [fin, h]
theorem fin_same {keep : Bool} (h : noRef w = true) (hl : M1.length = M.length) : fin keep M.length w M1 = .ok w M1 := by
  rw [fin_v h, ← hl, List.take_length]
theorem fin_lst {L : Nat} {xs : List W} (hn : L ≤ n) (h : M[n]? = some (.lst xs)) : fin false L (.ref n) M = .ok (.lst xs) (M.take L) := by
  simp only [fin, h]; rw [if_neg (by omega)]; rfl
theorem fin_keep {L : Nat} {xs : List W} (hn : L ≤ n) (h : M[n]? = some (.lst xs)) : fin true L (.ref n) M = .ok (.ref L) (M.take L ++ [.lst xs]) := by
  simp only [fin, h]; rw [if_neg (by omega)]; rfl
/-! cells read -/
theorem rd_l {xs : List W} (h : M[n]? = some (.lst xs)) : rd M (.ref n) = .lst xs := by simp only [rd, h]
theorem rd_d {ks vs : List W} (h : M[n]? = some (.dct ks vs)) : rd M (.ref n) = .dct ks vs := by simp only [rd, h]
theorem set_at (hn : n < M.length) {v : Cell} : (M.set n v)[n]? = some v := List.getElem?_set_self hn
theorem lt_of {v : Cell} (h : M[n]? = some v) : n < M.length := (List.getElem?_eq_some_iff.mp h).1
end
inductive All2 {α β : Type} (Q : α → β → Prop) : List α → List β → Prop
  | nil : All2 Q [] []
  | cons {a : α} {b : β} {as : List α} {bs : List β} : Q a b → All2 Q as bs → All2 Q (a :: as) (b :: bs)
/-! comprehensions -/
theorem lc_pure {r : Sl} {t : Tg} {c : EvB} {e : Ev} {p : W → Bool} {g : W → W} {M : MH} : ∀ {ws acc : List W}, (∀ w ∈ ws, ∃ r1, t M w r = some r1 ∧ c r1 M = .ok (p w) M ∧ (p w = true → e r1 M = .ok (g w) M)) → acc.length + ws.length ≤ line →
    lcGo r t c e ws acc M = .ok (acc ++ (ws.filter p).map g) M
  | [], acc, _, _ => by simp [lcGo]
  | w :: ws, acc, h, hl => by
    obtain ⟨r1, h1, h2, h3⟩ := h w List.mem_cons_self
    rw [List.length_cons] at hl
    simp only [lcGo, h1, h2, R.bind]
    cases q : p w with
    | true =>
      rw [if_pos rfl, h3 q]
      simp only
      rw [if_pos (by omega), lc_pure (fun w hw => h w (List.mem_cons_of_mem _ hw)) (by simp; omega)]
      simp [List.filter_cons, q]
    | false =>
      rw [if_neg (by decide), lc_pure (fun w hw => h w (List.mem_cons_of_mem _ hw)) (by omega)]
      simp [List.filter_cons, q]
theorem k_comp {own : List Nat} {it : EvL} {t : Tg} {c : EvB} {e : Ev} {r : Sl} {M M1 : MH} {ws : List W} (p : W → Bool) (g : W → W) (hi : it r M = .ok ws M1) (h : ∀ w ∈ ws, ∃ r1, t M1 w (wipeR r own) = some r1 ∧ c r1 M1 = .ok (p w) M1 ∧ (p w = true → e r1 M1 = .ok (g w) M1)) (hl : ws.length ≤ line) :
    lComp own it t c e r M = .ok ((ws.filter p).map g) M1 := by
  unfold lComp; rw [hi]; show lcGo (wipeR r own) t c e ws [] M1 = _
  rw [lc_pure h (by simpa using hl)]; rfl
theorem k_comp1 {own : List Nat} {it : EvL} {t : Tg} {e : Ev} {r : Sl} {M M1 : MH} {ws : List W} (g : W → W) (hi : it r M = .ok ws M1) (h : ∀ w ∈ ws, ∃ r1, t M1 w (wipeR r own) = some r1 ∧ e r1 M1 = .ok (g w) M1) (hl : ws.length ≤ line) :
    lComp own it t bYes e r M = .ok (ws.map g) M1 := by
  have := k_comp (c := bYes) (fun _ => true) g hi (fun w hw => let ⟨r1, a, b⟩ := h w hw; ⟨r1, a, rfl, fun _ => b⟩) hl
  rw [this, List.filter_eq_self.mpr (fun _ _ => rfl)]
/-- with an invariant of the cells -/
theorem lc_inv {r : Sl} {t : Tg} {e : Ev} (K : Nat) (P : Nat → MH → Prop) (Q : W → W → Prop) : ∀ {ws acc : List W} {M : MH} {k : Nat}, P k M → k + ws.length ≤ K → (∀ w ∈ ws, ∀ k M, k < K → P k M → ∃ r1 y M', t M w r = some r1 ∧ e r1 M = .ok y M' ∧ P (k + 1) M' ∧ Q w y) → acc.length + ws.length ≤ line →
    ∃ ys M', lcGo r t bYes e ws acc M = .ok (acc ++ ys) M' ∧ P (k + ws.length) M' ∧ All2 Q ws ys
  | [], acc, M, k, hP, _, _, _ => ⟨[], M, by simp [lcGo], hP, .nil⟩
  | w :: ws, acc, M, k, hP, hK, h, hl => by
    rw [List.length_cons] at hl hK
    obtain ⟨r1, y, M', h1, h2, h3, h4⟩ := h w List.mem_cons_self k M (by omega) hP
    obtain ⟨ys, M2, e1, e2, e3⟩ := lc_inv K P Q (acc := acc ++ [y]) h3 (by omega) (fun w hw => h w (List.mem_cons_of_mem _ hw)) (by simp; omega)
    refine ⟨y :: ys, M2, ?_, by rw [List.length_cons]; have : k + (ws.length + 1) = k + 1 + ws.length := by omega
                                rw [this]; exact e2, .cons h4 e3⟩
    simp only [lcGo, h1, bYes, R.bind, if_true, h2]
    rw [if_pos (by omega), e1]
    simp
theorem k_compI {own : List Nat} {it : EvL} {t : Tg} {e : Ev} {r : Sl} {M M1 : MH} {ws : List W} (P : Nat → MH → Prop) (Q : W → W → Prop) (hi : it r M = .ok ws M1) (hP : P 0 M1) (h : ∀ w ∈ ws, ∀ k M, k < ws.length → P k M → ∃ r1 y M', t M w (wipeR r own) = some r1 ∧ e r1 M = .ok y M' ∧ P (k + 1) M' ∧ Q w y) (hl : ws.length ≤ line) :
    ∃ ys M', lComp own it t bYes e r M = .ok ys M' ∧ P ws.length M' ∧ All2 Q ws ys := by
  obtain ⟨ys, M', a, b, c⟩ := lc_inv (r := wipeR r own) (t := t) (e := e) ws.length P Q (acc := []) hP (by omega) h (by simpa using hl)
  rw [Nat.zero_add] at b
  exact ⟨ys, M', by unfold lComp; rw [hi]; exact a, b, c⟩
/-! loops -/
theorem loop_inv {t : Tg} {body : Sx} (P : Nat → Sl → MH → Prop) : ∀ {ws : List W} {k : Nat} {r : Sl} {M : MH}, P k r M → (∀ j w, ws[j]? = some w → ∀ r M, P (k + j) r M → ∃ r1 r2 M2, t M w r = some r1 ∧ body r1 M = .nx r2 M2 ∧ P (k + j + 1) r2 M2) →
    ∃ r2 M2, loopS t body ws r M = .nx r2 M2 ∧ P (k + ws.length) r2 M2
  | [], k, r, M, hP, _ => ⟨r, M, rfl, hP⟩
  | w :: ws, k, r, M, hP, h => by
    obtain ⟨r1, r2, M2, h1, h2, h3⟩ := h 0 w rfl r M hP
    obtain ⟨r3, M3, e1, e2⟩ := loop_inv P (ws := ws) (k := k + 1) h3 fun j w hj r M hp => by
      have := h (j + 1) w (by simpa using hj) r M (by rw [show k + (j + 1) = k + 1 + j by omega]; exact hp)
      rw [show k + 1 + j + 1 = k + (j + 1) + 1 by omega]
      exact this
    refine ⟨r3, M3, ?_, by rw [List.length_cons, show k + (ws.length + 1) = k + 1 + ws.length by omega]; exact e2⟩
    simp only [loopS, h1, h2]
    exact e1
theorem loop_cons {t : Tg} {body : Sx} {w : W} {ws : List W} {r r1 r2 : Sl} {M M2 : MH} {o : O} (h1 : t M w r = some r1) (h2 : body r1 M = .nx r2 M2) (h3 : loopS t body ws r2 M2 = o) : loopS t body (w :: ws) r M = o := by
  simp only [loopS, h1, h2]; exact h3
theorem loop_nil {t : Tg} {body : Sx} {r : Sl} {M : MH} : loopS t body [] r M = .nx r M := rfl
theorem s_for {it : EvL} {t : Tg} {body : Sx} {r : Sl} {M M1 : MH} {ws : List W} {o : O} (hi : it r M = .ok ws M1) (h : loopS t body ws r M1 = o) : sFor it t body r M = o := by unfold sFor; rw [hi]; exact h
end Py

namespace Py
section
variable {M : MH} {n : Nat} {xs : List W} {w : W} {i j : Int} {a b : List Nat}
theorem l_add : addW (.int i) (.int j) = some (.int (i + j)) := rfl
theorem l_sub : subW (.int i) (.int j) = some (.int (i - j)) := rfl
theorem l_mul (h : mulC i j = true) : mulW (.int i) (.int j) = some (.int (i * j)) := by simp [mulW, mulI, iOp, h]
theorem l_mod (h : 0 < j) : modW (.int i) (.int j) = some (.int (i % j)) := by simp [modW, iOp, modC, h]
theorem l_fdiv (h : 0 < j) (h2 : j < 1073741824) : fdivW (.int i) (.int j) = some (.int (i / j)) := by simp [fdivW, iOp, fdivC, h, h2]
theorem l_ixr (h : M[n]? = some (.lst xs)) (h2 : atW xs j = some w) : ixW (rd M (.ref n)) (.int j) = some w := by rw [rd_l h]; exact h2
theorem mulC_r (h : -big < j) (h2 : j < big) : mulC i j = true := by simp [mulC, h, h2]
theorem mulC_l (h : -big < i) (h2 : i < big) : mulC i j = true := by simp [mulC, h, h2]
end
open Sh
/-- a tin: three numbers, the last one at most c -/
def TinC (c : Nat) (x : Cell) : Prop := ∃ a b k : Int, x = .lst [.int a, .int b, .int k] ∧ 0 ≤ k ∧ k ≤ c
theorem TinC.mono {c c' : Nat} {x : Cell} (h : TinC c x) (hc : c ≤ c') : TinC c' x := by
  obtain ⟨a, b, k, e, h0, h1⟩ := h
  exact ⟨a, b, k, e, h0, by omega⟩
def far : Nat := 1000000000000
theorem take_ok {d n c : Nat} {t : Int} {M : MH} {x : Cell} (hx : M[n]? = some x) (hc : TinC c x) (hb : c < far) (ht : 0 < t) (ht2 : t < 1000000) :
    ∃ r y, f__law_take (d + 1) [.ref n, .int t] M = .ok (.int r) (M.set n y) ∧ 0 ≤ r ∧ r < t ∧ TinC (c + 1) y := by
  obtain ⟨a, b, k, rfl, h0, h1⟩ := hc
  have hn := lt_of hx
  unfold far at hb
  by_cases ha : 0 < a
  · refine ⟨a % t, .lst [.int (a / t), .int b, .int k], ?_, Int.emod_nonneg _ (by omega), Int.emod_lt_of_pos _ ht, a / t, b, k, rfl, h0, by omega⟩
    unfold f__law_take
    refine k_fn (w := .int (a % t)) (M1 := M.set n (.lst [.int (a / t), .int b, .int k])) rfl ?_ (fin_same rfl (by simp))
    refine s_seqR (s_if_t (M1 := M) ?_ ?_)
    · refine k_T (x := .bl true) (k_op (k_op (k_var rfl) k_c (l_ixr hx rfl)) k_c ?_) rfl
      show some (W.bl (decide (0 < a))) = _
      rw [decide_eq_true ha]
    · refine s_seq (s_set (k_op (k_bi (k_cons (k_op (k_var rfl) k_c (l_ixr hx rfl)) k_nil) rfl) (k_var rfl) (l_mod ht))) ?_
      refine s_seq (s_sub (k_op (k_op (k_var rfl) k_c (l_ixr hx rfl)) (k_var rfl) (l_fdiv ht (by omega))) (k_var rfl) k_c hx rfl rfl) ?_
      exact s_ret (k_var rfl)
  · let k1 : Int := k + 1
    let once : Int := ((b + 48271 * k1) * (39373 + k1)) % 2147483647
    let fr : Int := once % 40009 + 7
    let twice : Int := ((once + k1 + b / 1000003) * fr) % 2147483629
    have hx2 : (M.set n (.lst [.int a, .int b, .int k1]))[n]? = some (.lst [.int a, .int b, .int k1]) := set_at hn
    have hfr : 7 ≤ fr ∧ fr < 50000 := by
      have := Int.emod_nonneg once (b := 40009) (by omega)
      have := Int.emod_lt_of_pos once (b := 40009) (by omega)
      show 7 ≤ once % 40009 + 7 ∧ once % 40009 + 7 < 50000
      omega
    have hk : 0 ≤ k1 ∧ k1 ≤ 1000000000001 := by show 0 ≤ k + 1 ∧ k + 1 ≤ 1000000000001; omega
    refine ⟨((twice * 48271 + once) % 2147483587 / 64) % t, .lst [.int a, .int b, .int k1], ?_, Int.emod_nonneg _ (by omega), Int.emod_lt_of_pos _ ht, a, b, k1, rfl, hk.1, by show k + 1 ≤ ((c + 1 : Nat) : Int); omega⟩
    unfold f__law_take
    refine k_fn (M1 := M.set n (.lst [.int a, .int b, .int k1])) rfl ?_ (fin_same rfl (by simp))
    refine s_seq (s_if_f (M1 := M) ?_ s_skip) ?_
    · refine k_T (x := .bl false) (k_op (k_op (k_var rfl) k_c (l_ixr hx rfl)) k_c ?_) rfl
      show some (W.bl (decide (0 < a))) = _
      rw [decide_eq_false ha]
    refine s_seq (s_sub (k_op (k_op (k_var rfl) k_c (l_ixr hx rfl)) k_c l_add) (k_var rfl) k_c hx rfl rfl) ?_
    refine s_seq (s_set (k_op (k_bi (k_cons (k_op (k_op (k_op (k_var rfl) k_c (l_ixr hx2 rfl)) (k_op k_c (k_op (k_var rfl) k_c (l_ixr hx2 rfl)) (l_mul (mulC_l (by decide) (by decide)))) l_add) (k_op k_c (k_op (k_var rfl) k_c (l_ixr hx2 rfl)) l_add) (l_mul (mulC_r (by unfold big; omega) (by unfold big; omega)))) k_nil) rfl) k_c (l_mod (by decide)))) ?_
    refine s_seq (s_set (k_op (k_op (k_bi (k_cons (k_var rfl) k_nil) rfl) k_c (l_mod (by decide))) k_c l_add)) ?_
    refine s_seq (s_set (k_op (k_bi (k_cons (k_op (k_op (k_op (k_var rfl) (k_op (k_var rfl) k_c (l_ixr hx2 rfl)) l_add) (k_op (k_op (k_var rfl) k_c (l_ixr hx2 rfl)) k_c (l_fdiv (by decide) (by decide))) l_add) (k_var rfl) (l_mul (mulC_r (by unfold big; omega) (by unfold big; omega)))) k_nil) rfl) k_c (l_mod (by decide)))) ?_
    exact s_ret (k_op (k_bi (k_cons (k_op (k_op (k_bi (k_cons (k_op (k_op (k_var rfl) k_c (l_mul (mulC_r (by decide) (by decide)))) (k_var rfl) l_add) k_nil) rfl) k_c (l_mod (by decide))) k_c (l_fdiv (by decide) (by decide))) k_nil) rfl) (k_var rfl) (l_mod ht))
/-! cells behind one another -/
section
variable {A : MH} {u v u' : Cell} {t : MH} {L n : Nat}
theorem at0 (h : A.length = L) : (A ++ u :: t)[L]? = some u := by subst h; simp
theorem at1 (h : A.length = L) : (A ++ u :: v :: t)[L + 1]? = some v := by subst h; simp
theorem put0 (h : A.length = L) : (A ++ u :: t).set L u' = A ++ u' :: t := by subst h; simp
theorem put1 (h : A.length = L) : (A ++ u :: v :: t).set (L + 1) u' = A ++ u :: u' :: t := by subst h; simp
theorem atL (h : n < A.length) : (A ++ t)[n]? = A[n]? := List.getElem?_append_left h
theorem putL (h : n < A.length) : (A ++ t).set n u' = A.set n u' ++ t := by rw [List.set_append_left _ _ h]
end
theorem ixN_lt {n : Nat} {i : Int} (h : 0 ≤ i) (h2 : i < n) : L2.ixN n i = some i.toNat := by unfold L2.ixN; rw [if_pos h, if_pos h2]
theorem min_nn {i j : Int} (h : 0 ≤ i) (h2 : 0 ≤ j) : minI i j = ((min i.toNat j.toNat : Nat) : Int) := by unfold minI; split <;> omega
theorem noRefs_get {xs : List W} (h : noRefs xs = true) {i : Nat} {w : W} (e : xs[i]? = some w) : noRef w = true := by
  rw [noRefs_all] at h
  exact List.all_eq_true.mp h w (List.mem_of_getElem? e)
theorem erase_perm {α : Type} : ∀ {xs : List α} {i : Nat} {w : α}, xs[i]? = some w → (w :: xs.eraseIdx i).Perm xs
  | x :: xs, 0, w, e => by cases e; exact .refl _
  | x :: xs, i + 1, w, e => by
    rw [List.eraseIdx_cons_succ]
    exact (List.Perm.swap x w _).trans (.cons x (erase_perm (by simpa using e)))
theorem rng_get {n j : Nat} {w : W} {lo : Int} (h : (rngW lo n)[j]? = some w) : w = .int (lo + (j : Int)) ∧ j < n := by
  unfold rngW at h
  rw [List.getElem?_map] at h
  obtain ⟨a, h1, h2⟩ := Option.map_eq_some_iff.mp h
  obtain ⟨h3, h4⟩ := List.getElem?_eq_some_iff.mp h1
  rw [List.getElem_range] at h4
  subst h4
  exact ⟨h2.symm, by simpa using h3⟩
theorem rng_len {n : Nat} {lo : Int} : (rngW lo n).length = n := by simp [rngW]
theorem set_same {M : MH} {n : Nat} {x : Cell} (h : M[n]? = some x) : M.set n x = M := by
  obtain ⟨h1, h2⟩ := List.getElem?_eq_some_iff.mp h
  rw [← h2, List.set_getElem_self]
def seqOf : W → Option (List W)
  | .lst xs => some xs
  | .tup _ xs => some xs
  | _ => none
theorem pick_ok {d n c : Nat} {s : Int} {M : MH} {x : Cell} {pool : W} {ps : List W} (hx : M[n]? = some x) (hc : TinC c x) (hp : seqOf pool = some ps) (hn : noRefs ps = true) (hl : ps.length ≤ 1000) (hs : 0 ≤ s) (hb : c + ps.length < far) :
    ∃ ys zs y, f__law_pick (d + 2) [.ref n, pool, .int s] M = .ok (.lst ys) (M.set n y) ∧ (ys ++ zs).Perm ps ∧ ys.length = min s.toNat ps.length ∧ TinC (c + ps.length) y := by
  have hnl := lt_of hx
  have key : ∃ r2 M2, loopS (gN 5) (sEx (eApp (eVar 4) (ePopAt (eVar 3) (eCall (f__law_take (d + 1)) (aCons (eVar 0) (aCons (eBi (b1 lenW) (aCons (eVar 3) aNil)) aNil)))))) (rngW 0 (min s.toNat ps.length)) [some (.ref n), some pool, some (.int s), some (.ref M.length), some (.ref (M.length + 1)), none] (M ++ [.lst ps, .lst []]) = .nx r2 M2 ∧
      ∃ ys zs y v, r2 = [some (.ref n), some pool, some (.int s), some (.ref M.length), some (.ref (M.length + 1)), v] ∧ M2 = M.set n y ++ [.lst zs, .lst ys] ∧ (ys ++ zs).Perm ps ∧ ys.length = 0 + (rngW 0 (min s.toNat ps.length)).length ∧ TinC (c + (0 + (rngW 0 (min s.toNat ps.length)).length)) y := by
    refine loop_inv (fun k r2 M2 => ∃ ys zs y v, r2 = [some (.ref n), some pool, some (.int s), some (.ref M.length), some (.ref (M.length + 1)), v] ∧ M2 = M.set n y ++ [.lst zs, .lst ys] ∧ (ys ++ zs).Perm ps ∧ ys.length = k ∧ TinC (c + k) y) (k := 0) ⟨[], ps, x, none, rfl, ?_, .refl _, rfl, hc⟩ ?_
    · rw [set_same hx]
    · rintro j w hj r2 M2 ⟨ys, zs, y, v, rfl, rfl, hpm, hyl, hty⟩
      obtain ⟨_, hj⟩ := rng_get hj
      have hpl := hpm.length_eq
      rw [List.length_append] at hpl
      have hA : (M.set n y).length = M.length := by simp
      have hz : zs.length ≠ 0 := by omega
      obtain ⟨q, y2, e1, e2, e3, e4⟩ := take_ok (d := d) (n := n) (c := c + (0 + j)) (t := (zs.length : Int)) (M := M.set n y ++ [.lst zs, .lst ys]) (x := y) (by rw [atL (by rw [hA]; exact hnl), List.getElem?_set_self hnl]) hty (by omega) (by omega) (by omega)
      rw [putL (by rw [hA]; exact hnl), List.set_set] at e1
      have hA2 : (M.set n y2).length = M.length := by simp
      have hq : q.toNat < zs.length := by omega
      refine ⟨_, _, _, rfl, s_ex (s_app (xs := ys) (k_var rfl) ⟨_, at1 hA⟩ (s_pop (k_var rfl) ⟨_, at0 hA⟩ (k_call (k_cons (k_var rfl) (k_cons (k_bi (k_cons (k_var rfl) k_nil) ?_) k_nil)) e1) (at0 hA2) ?_ (ixN_lt e2 e3) (List.getElem?_eq_getElem hq)) ?_ ?_ ?_), ?_⟩
      · show lenW (rd _ (.ref M.length)) = _
        rw [rd_l (at0 hA)]; rfl
      · unfold line; omega
      · rw [put0 hA2]; exact at1 hA2
      · unfold line; omega
      · have nz : noRefs (ys ++ zs) = true := by
          rw [noRefs_all] at hn ⊢
          exact List.all_eq_true.mpr fun w hw => List.all_eq_true.mp hn w (hpm.mem_iff.mp hw)
        rw [noRefs_append, Bool.and_eq_true] at nz
        exact noRefs_get nz.2 (List.getElem?_eq_getElem hq)
      · refine ⟨ys ++ [zs[q.toNat]], zs.eraseIdx q.toNat, y2, _, rfl, ?_, ?_, ?_, e4⟩
        · rw [put0 hA2, put1 hA2]
        · rw [List.append_assoc]
          exact (List.Perm.append_left ys (erase_perm (List.getElem?_eq_getElem hq))).trans hpm
        · rw [List.length_append, hyl]; simp
  obtain ⟨r2, M2, e, ys, zs, y, v, rfl, rfl, hpm, hyl, hty⟩ := key
  rw [rng_len, Nat.zero_add] at hyl hty
  refine ⟨ys, zs, y, ?_, hpm, hyl, hty.mono (by omega)⟩
  unfold f__law_pick
  have hA : (M.set n y).length = M.length := by simp
  refine k_fn (w := .ref (M.length + 1)) (M1 := M.set n y ++ [.lst zs, .lst ys]) rfl ?_ ?_
  · refine s_seq (s_par (k_cons (k_B (k_lbi (k_cons (k_var rfl) k_nil) ?_) hn) (k_cons (k_B (k_disp k_nil (by decide)) rfl) k_nil)) rfl) ?_
    · cases pool with
      | lst a => cases hp; rfl
      | tup k a => cases hp; rfl
      | _ => cases hp
    · refine s_seq (r1 := [some (.ref n), some pool, some (.int s), some (.ref M.length), some (.ref (M.length + 1)), v]) (M1 := M.set n y ++ [.lst zs, .lst ys]) (s_for (k_r1 (k_bi (k_cons (k_var rfl) (k_cons (k_bi (w := .int ps.length) (k_cons (k_var rfl) k_nil) ?_) k_nil)) rfl) ?_) ?_) ?_
      · show lenW (rd _ (.ref M.length)) = _
        rw [List.append_assoc]
        show lenW (rd (M ++ .lst ps :: [.lst []]) (.ref M.length)) = _
        rw [rd_l (at0 rfl)]; rfl
      · rw [min_nn hs (by omega)]
        simp only [i62, Bool.and_eq_true, decide_eq_true_eq]
        omega
      · rw [min_nn hs (by omega), Int.toNat_natCast, Int.toNat_natCast]
        rw [List.append_assoc, List.length_append]
        exact e
      · exact s_ret (k_var rfl)
  · rw [fin_lst (xs := ys) (by omega) (at1 hA)]
    rw [List.take_left' hA]
end Py

namespace Py
open Sh
/-! ## graphs: rows of a name and its parents -/
abbrev Nm := List Nat
abbrev Gr := List (Nm × List Nm)
def wS (n : Nm) : W := .str n
def wRow (p : Nm × List Nm) : W := .tup true [.str p.1, .tup true (p.2.map wS)]
def wG (G : Gr) : W := .tup true (G.map wRow)
def nmz (m : Nat) : List Nm := (List.range m).map fun i => [114, 97 + i]
def unS : W → Nm
  | .str l => l
  | _ => []
theorem unS_map : ∀ (l : List Nm), (l.map wS).map unS = l
  | [] => rfl
  | x :: xs => by rw [List.map_cons, List.map_cons, unS_map xs]; rfl
theorem of_perm {ys : List W} {l : List Nm} (h : ys.Perm (l.map wS)) : ∃ T : List Nm, ys = T.map wS ∧ T.Perm l := by
  refine ⟨ys.map unS, ?_, by have := h.map unS; rwa [unS_map] at this⟩
  have : ∀ y ∈ ys, wS (unS y) = y := fun y hy => by
    have := h.mem_iff.mp hy
    obtain ⟨x, _, rfl⟩ := List.mem_map.mp this
    rfl
  rw [List.map_map]
  symm
  conv => rhs; rw [← List.map_id ys]
  exact List.map_congr_left this
/-- the part of a perm -/
theorem of_part {ys zs : List W} {l : List Nm} (h : (ys ++ zs).Perm (l.map wS)) : ∃ T U : List Nm, ys = T.map wS ∧ (T ++ U).Perm l := by
  obtain ⟨T, e, p⟩ := of_perm h
  refine ⟨T.take ys.length, T.drop ys.length, ?_, by rw [List.take_append_drop]; exact p⟩
  have := congrArg (List.take ys.length) e
  rw [List.take_left, ← List.map_take] at this
  exact this
theorem noRefs_S (l : List Nm) : noRefs (l.map wS) = true := by rw [noRefs_all]; exact List.all_eq_true.mpr fun w hw => by obtain ⟨x, _, rfl⟩ := List.mem_map.mp hw; rfl
theorem cut_take {α : Type} {xs : List α} {j : Int} (h : 0 ≤ j) : cutW xs none (some j) = xs.take j.toNat := by
  unfold cutW
  have e : HT.sIx xs.length xs.length (some j) = min j.toNat xs.length := by
    have := HT.sIx_nat xs.length xs.length j.toNat
    rwa [Int.toNat_of_nonneg h] at this
  rw [HT.sIx_none, e, Nat.sub_zero, List.drop_zero]
  rcases Nat.le_total j.toNat xs.length with q | q
  · rw [Nat.min_eq_left q]
  · rw [Nat.min_eq_right q, List.take_length, List.take_of_length_le q]
/-! ### sorting rows by names -/
def ltN (a b : Nm) : Bool := decide (a < b)
theorem ltN_eq (a b : Nm) : PyProof.Rows.itemLt (.inr a) (.inr b) = ltN a b := rfl
def sortG (G : Gr) : Gr := isort (fun a b => ltN a.1 b.1) G
theorem nodupL_of : ∀ {l : List Nm}, l.Nodup → nodupL l = true
  | [], _ => rfl
  | x :: xs, h => by
    obtain ⟨h1, h2⟩ := List.nodup_cons.mp h
    simp only [nodupL, nodupL_of h2, Bool.and_true, Bool.not_eq_true']
    rw [Bool.eq_false_iff]
    intro q
    obtain ⟨y, hy, e⟩ := List.any_eq_true.mp q
    rw [beq_iff_eq] at e
    exact h1 (e ▸ hy)
theorem dat_S {k : Nat} (l : List Nm) : (l.map wS).all (dat k) = true := List.all_eq_true.mpr fun w hw => by obtain ⟨x, _, rfl⟩ := List.mem_map.mp hw; cases k <;> rfl
theorem isRow_row (p : Nm × List Nm) : isRow (wRow p) = true := by
  show ([W.tup true (p.2.map wS)].all (dat 50)) = true
  rw [List.all_cons, List.all_nil, Bool.and_true]
  exact dat_S _
theorem sort_rows {G : Gr} (h : (G.map (·.1)).Nodup) : sortW (G.map wRow) = some ((sortG G).map wRow) := by
  unfold sortW
  by_cases hl : (G.map wRow).length < 2
  · rw [if_pos hl]
    match G, hl with
    | [], _ => rfl
    | [x], _ => rfl
    | _ :: _ :: _, hl => simp at hl; omega
  · rw [if_neg hl]
    have e1 : (G.map wRow).all isInt = false := by
      match G, hl with
      | x :: y, _ => rfl
      | [], hl => simp at hl
    have e2 : (G.map wRow).all isStr = false := by
      match G, hl with
      | x :: y, _ => rfl
      | [], hl => simp at hl
    have e3 : (G.map wRow).all isRow = true := List.all_eq_true.mpr fun w hw => by obtain ⟨x, _, rfl⟩ := List.mem_map.mp hw; exact isRow_row x
    have e4 : (G.map wRow).map firstT = G.map (·.1) := by rw [List.map_map]; rfl
    rw [e1, e2, e3, e4, nodupL_of h]
    simp only [Bool.false_eq_true, if_false, if_true]
    unfold sortBy sortG
    rw [isort_map (lt := fun x y => ltA (k1W x) (k1W y)) wRow fun x y => by show ltN x.1 y.1 = ltA [.inr x.1] [.inr y.1]; rw [lt1, ltN_eq]]
/-! ### a drawn tree -/
def far2 : Nat := 900000000000
/-- the rows of a drawn tree ahead of their sorting: names as drawn, parents out of those ahead -/
def Drawn (heads : Nat) (T : List Nm) (G : Gr) : Prop := G.map (·.1) = T ∧ ∀ (i : Nat) (p : Nm × List Nm), G[i]? = some p → p.2.length ≤ heads ∧ ∃ zs, (p.2 ++ zs).Perm (T.take i)
theorem eqI (i j : Int) : eqO (.int i) (.int j) = some (.bl (i == j)) := rfl
theorem wide_ok {d n c : Nat} {top : Int} {M : MH} {y : Cell} {r : Sl} (hy : M[n]? = some y) (hc : TinC c y) (hb : c + 2 < far) (h0 : 0 ≤ top) (h1 : top < 1000000) (e0 : r[0]? = some (some (.ref n))) (e8 : r[8]? = some (some (.int top))) :
    ∃ w y2, eIf (bOr (bT (eOp eqO (eVar 8) (eC (.int 0)))) (bT (eOp eqO (eCall (f__law_take (d + 1)) (aCons (eVar 0) (aCons (eC (.int 7)) aNil))) (eC (.int 0))))) (eC (.int 0)) (eOp addW (eC (.int 1)) (eCall (f__law_take (d + 1)) (aCons (eVar 0) (aCons (eVar 8) aNil)))) r M = .ok (.int w) (M.set n y2) ∧ 0 ≤ w ∧ w ≤ top ∧ TinC (c + 2) y2 := by
  by_cases ht : top = 0
  · subst ht
    exact ⟨0, y, by rw [set_same hy]; exact k_if_t (k_bOr_t (k_T (k_op (k_var e8) k_c (eqI _ _)) rfl)) k_c, Int.le_refl _, Int.le_refl _, hc.mono (by omega)⟩
  · have hn := lt_of hy
    obtain ⟨q, y1, t1, t2, t3, t4⟩ := take_ok (d := d) (t := 7) hy hc (by omega) (by decide) (by decide)
    have f1 : bT (eOp eqO (eVar 8) (eC (.int 0))) r M = .ok false M := k_T (x := .bl false) (k_op (k_var e8) k_c (by rw [show rd M (.int top) = .int top from rfl, show rd M (.int 0) = .int 0 from rfl, eqI, beq_false_of_ne ht])) rfl
    by_cases hq : q = 0
    · subst hq
      exact ⟨0, y1, k_if_t (k_bOr_f f1 (k_T (k_op (k_call (k_cons (k_var e0) (k_cons k_c k_nil)) t1) k_c (eqI _ _)) rfl)) k_c, Int.le_refl _, h0, t4.mono (by omega)⟩
    · obtain ⟨q2, y2, s1, s2, s3, s4⟩ := take_ok (d := d) (t := top) (M := M.set n y1) (set_at hn) t4 (by omega) (by omega) (by omega)
      rw [List.set_set] at s1
      refine ⟨1 + q2, y2, k_if_f (k_bOr_f f1 (k_T (x := .bl false) (k_op (k_call (k_cons (k_var e0) (k_cons k_c k_nil)) t1) k_c ?_) rfl)) (k_op k_c (k_call (k_cons (k_var e0) (k_cons (k_var e8) k_nil)) s1) l_add), by omega, by omega, s4⟩
      show eqO (.int q) (.int 0) = _
      rw [eqI, beq_false_of_ne hq]
theorem noRef_row (p : Nm × List Nm) : noRef (wRow p) = true := by
  show (noRef (.str p.1) && (noRef (.tup true (p.2.map wS)) && true)) = true
  rw [Bool.and_true]
  exact noRefs_S _
theorem tree_ok {d n c : Nat} {many heads : Int} {M : MH} {x : Cell} (hx : M[n]? = some x) (hc : TinC c x) (hm : 0 < many) (hm2 : many ≤ 10) (hh : 0 ≤ heads) (hh2 : heads ≤ 10) (hb : c + 1000 < far) :
    ∃ (m : Nat) (T : List Nm) (G : Gr) (y : Cell), f__law_tree (d + 3) [.ref n, .int many, .int heads] M = .ok (wG (sortG G)) (M.set n y) ∧ 1 ≤ m ∧ m ≤ many.toNat ∧ T.Perm (nmz m) ∧ Drawn heads.toNat T G ∧ TinC (c + 1000) y := by
  have hnl := lt_of hx
  obtain ⟨q, y1, t1, t2, t3, t4⟩ := take_ok (d := d + 1) (t := many) hx hc (by omega) hm (by omega)
  let m : Nat := (1 + q).toNat
  have hm0 : 1 ≤ m ∧ m ≤ many.toNat ∧ m ≤ 10 := by show 1 ≤ (1 + q).toNat ∧ (1 + q).toNat ≤ many.toNat ∧ (1 + q).toNat ≤ 10; omega
  have hst : (nmz 10).take m = nmz m := by
    unfold nmz
    rw [← List.map_take, List.take_range, Nat.min_eq_left hm0.2.2]
  have hlm : (nmz m).length = m := by simp [nmz]
  have hx1 : (M.set n y1)[n]? = some y1 := set_at hnl
  obtain ⟨ys, zs, y2, p1, p2, p3, p4⟩ := pick_ok (d := d) (s := (m : Int)) (pool := .lst ((nmz m).map wS)) hx1 t4 rfl (noRefs_S _) (by rw [List.length_map, hlm]; omega) (by omega) (by rw [List.length_map, hlm]; omega)
  rw [List.set_set] at p1
  rw [List.length_map, hlm] at p3 p4
  rw [Int.toNat_natCast, Nat.min_self] at p3
  obtain rfl : zs = [] := by
    have := p2.length_eq
    rw [List.length_append, List.length_map, hlm] at this
    exact List.eq_nil_of_length_eq_zero (by omega)
  rw [List.append_nil] at p2
  obtain ⟨T, rfl, hT⟩ := of_perm p2
  rw [List.length_map] at p3
  let r0 : Sl := [some (.ref n), some (.int many), some (.int heads), some (.lst ((nmz m).map wS)), some (.lst (T.map wS)), some (.ref M.length)]
  have key : ∃ r2 M2, loopS (gT (gsC (gN 6) (gsC (gN 7) gs0))) (sSeq (sSet 8 (eBi (b2 minI) (aCons (eVar 6) (aCons (eVar 2) aNil)))) (sSeq (sSet 9 (eIf (bOr (bT (eOp eqO (eVar 8) (eC (.int 0)))) (bT (eOp eqO (eCall (f__law_take (d + 2)) (aCons (eVar 0) (aCons (eC (.int 7)) aNil))) (eC (.int 0))))) (eC (.int 0)) (eOp addW (eC (.int 1)) (eCall (f__law_take (d + 2)) (aCons (eVar 0) (aCons (eVar 8) aNil)))))) (sEx (eApp (eVar 5) (eTup (aCons (eVar 7) (aCons (eBi (b1 tuplW) (aCons (eCall (f__law_pick (d + 2)) (aCons (eVar 0) (aCons (eSl (eVar 4) pNo (pSo (eVar 6))) (aCons (eVar 9) aNil)))) aNil)) aNil))))))) (enumW 0 (T.map wS)) (r0 ++ [none, none, none, none, none]) (M.set n y2 ++ [.lst []]) = .nx r2 M2 ∧
      ∃ G y v6 v7 v8 v9, r2 = r0 ++ [v6, v7, v8, v9, none] ∧ M2 = M.set n y ++ [.lst (G.map wRow)] ∧ Drawn heads.toNat (T.take (0 + (enumW 0 (T.map wS)).length)) G ∧ TinC (c + 1 + m + 12 * (0 + (enumW 0 (T.map wS)).length)) y := by
    refine loop_inv (fun k r2 M2 => ∃ G y v6 v7 v8 v9, r2 = r0 ++ [v6, v7, v8, v9, none] ∧ M2 = M.set n y ++ [.lst (G.map wRow)] ∧ Drawn heads.toNat (T.take k) G ∧ TinC (c + 1 + m + 12 * k) y) (k := 0) ⟨[], y2, none, none, none, none, rfl, rfl, ⟨rfl, by simp⟩, p4⟩ ?_
    rintro j w hj r2 M2 ⟨G, y, v6, v7, v8, v9, rfl, rfl, hG, hty⟩
    rw [enumW_get, List.getElem?_map] at hj
    cases qj : T[j]? with
    | none => rw [qj] at hj; cases hj
    | some nm =>
      rw [qj] at hj
      cases hj
      have hjl : j < T.length := (List.getElem?_eq_some_iff.mp qj).1
      rw [Nat.zero_add] at hG hty ⊢
      have hA : (M.set n y).length = M.length := by simp
      obtain ⟨wd, y3, w1, w2, w3, w4⟩ := wide_ok (d := d + 1) (top := minI (j : Int) heads) (r := r0 ++ [some (.int (j : Int)), some (wS nm), some (.int (minI (j : Int) heads)), v9, none]) (M := M.set n y ++ [.lst (G.map wRow)]) (n := n) (c := c + 1 + m + 12 * j) (y := y)
        (by rw [atL (by rw [hA]; exact hnl), List.getElem?_set_self hnl]) hty (by omega) (by rw [min_nn (by omega) hh]; omega) (by rw [min_nn (by omega) hh]; omega) rfl rfl
      rw [putL (by rw [hA]; exact hnl), List.set_set] at w1
      rw [min_nn (by omega) hh, Int.toNat_natCast] at w3
      have hA3 : (M.set n y3).length = M.length := by simp
      obtain ⟨ys, zs, y4, q1, q2, q3, q4⟩ := pick_ok (d := d) (s := wd) (pool := .lst ((T.take j).map wS)) (ps := (T.take j).map wS) (M := M.set n y3 ++ [.lst (G.map wRow)]) (n := n) (x := y3) (by rw [atL (by rw [hA3]; exact hnl), List.getElem?_set_self hnl]) w4 rfl (noRefs_S _)
        (by rw [List.length_map, List.length_take]; omega) w2 (by rw [List.length_map, List.length_take]; omega)
      rw [putL (by rw [hA3]; exact hnl), List.set_set] at q1
      obtain ⟨P, U, rfl, hP⟩ := of_part q2
      rw [List.length_map] at q3
      rw [List.length_map, List.length_take] at q4 q3
      have hA4 : (M.set n y4).length = M.length := by simp
      refine ⟨r0 ++ [some (.int (j : Int)), some (wS nm), v8, v9, none], r0 ++ [some (.int (j : Int)), some (wS nm), some (.int (minI (j : Int) heads)), some (.int wd), none], (M.set n y4 ++ [Cell.lst (G.map wRow)]).set M.length (Cell.lst (G.map wRow ++ [wRow (nm, P)])), by simp [gT, gsC, gN, gs0, rd, r0], ?_, ?_⟩
      · refine s_seq (s_set (k_bi (k_cons (k_var rfl) (k_cons (k_var rfl) k_nil)) rfl)) ?_
        refine s_seq (s_set w1) ?_
        refine s_ex (s_app (n := M.length) (xs := G.map wRow) (k_var rfl) ⟨_, at0 hA3⟩ (k_tup (k_cons (k_var rfl) (k_cons (k_bi (k_cons (k_call (k_cons (k_var rfl) (k_cons (k_sl (k_var rfl) k_no (k_so (k_var rfl)) ?_) (k_cons (k_var rfl) k_nil))) q1) k_nil) rfl) k_nil)) (show 2 ≤ line by decide)) (at0 hA4) ?_ (noRef_row (nm, P)))
        · show some (W.lst (cutW (T.map wS) none (some (j : Int)))) = _
          rw [cut_take (by omega), Int.toNat_natCast, List.map_take]
        · rw [List.length_map]
          have := congrArg List.length hG.1
          rw [List.length_map, List.length_take] at this
          unfold line; omega
      · refine ⟨G ++ [(nm, P)], y4, _, _, _, _, rfl, ?_, ⟨?_, ?_⟩, q4.mono (by omega)⟩
        · rw [put0 hA4, List.map_append]; rfl
        · rw [List.map_append, hG.1, List.take_succ, qj]; rfl
        · intro i p hi
          have hGl : G.length = j := by
            have := congrArg List.length hG.1
            rw [List.length_map, List.length_take] at this
            omega
          by_cases hij : i < G.length
          · rw [List.getElem?_append_left hij] at hi
            obtain ⟨z1, z2⟩ := hG.2 i p hi
            refine ⟨z1, ?_⟩
            rw [List.take_take] at z2 ⊢
            rw [Nat.min_eq_left (by omega)] at z2 ⊢
            exact z2
          · rw [List.getElem?_append_right (by omega)] at hi
            cases qi : i - G.length with
            | succ z => rw [qi] at hi; simp at hi
            | zero =>
              rw [qi] at hi
              cases hi
              obtain rfl : i = j := by omega
              refine ⟨by show P.length ≤ _; omega, U, ?_⟩
              rw [List.take_take, Nat.min_eq_left (by omega)]
              exact hP
  obtain ⟨r2, M2, e, G, y, v6, v7, v8, v9, rfl, rfl, hG, hty⟩ := key
  rw [enumW_len, List.length_map, Nat.zero_add] at hG hty
  rw [List.take_length] at hG
  have hA : (M.set n y).length = M.length := by simp
  have hnd : (G.map (·.1)).Nodup := by
    rw [hG.1]
    refine hT.nodup_iff.mpr ?_
    unfold nmz
    rw [List.nodup_iff_pairwise_ne]
    exact List.pairwise_map.mpr (List.nodup_range.imp fun h e => h (by injection e with _ e; injection e with e; omega))
  refine ⟨m, T, G, y, ?_, hm0.1, hm0.2.1, hT, hG, hty.mono (by omega)⟩
  unfold f__law_tree
  refine k_fn (w := wG (sortG G)) (M1 := M.set n y ++ [.lst (G.map wRow)]) rfl ?_ ?_
  · refine s_seq (s_set (w := .lst ((nmz m).map wS)) (k_sl (x := .lst ((nmz 10).map wS)) (k_L ?_) k_no (k_so (k_op k_c (k_call (k_cons (k_var rfl) (k_cons (k_var rfl) k_nil)) t1) l_add)) ?_)) ?_
    · rfl
    · show some (W.lst (cutW ((nmz 10).map wS) none (some (1 + q)))) = _
      rw [cut_take (by omega), ← List.map_take, hst]
    refine s_seq (s_set (k_call (k_cons (k_var rfl) (k_cons (k_var rfl) (k_cons (k_bi (k_cons (k_var rfl) k_nil) ?_) k_nil))) p1)) ?_
    · show some (W.int (((nmz m).map wS).length : Int)) = _
      rw [List.length_map, hlm]
    refine s_seq (s_set (k_B (k_disp k_nil (by decide)) rfl)) ?_
    have hl2 : (M.set n y2).length = M.length := by simp
    rw [hl2]
    refine s_seq (r1 := r0 ++ [v6, v7, v8, v9, none]) (M1 := M.set n y ++ [.lst (G.map wRow)]) (s_for (ws := enumW 0 (T.map wS)) (M1 := M.set n y2 ++ [.lst []]) (k_en (k_var rfl)) ?_) ?_
    · exact e
    refine s_ret (k_bi (k_cons (k_L (k_lbi (ws := (sortG G).map wRow) (k_cons (k_var rfl) k_nil) ?_)) k_nil) rfl)
    show (match rd _ (.ref M.length) with | .lst xs => sortW xs | _ => none) = _
    rw [rd_l (at0 hA)]
    exact sort_rows hnd
  · rw [fin_v (by show noRefs ((sortG G).map wRow) = true; rw [noRefs_all]; exact List.all_eq_true.mpr fun w hw => by obtain ⟨x, _, rfl⟩ := List.mem_map.mp hw; exact noRef_row x)]
    rw [List.take_left' hA]
end Py

namespace Py
open Sh
/-! ## sorted lists are the same -/
section
variable {α : Type} {lt : α → α → Bool}
theorem ins_perm (x : α) : ∀ l : List α, (ins lt x l).Perm (x :: l)
  | [] => .refl _
  | y :: ys => by
    unfold ins
    split
    · exact (List.Perm.cons y (ins_perm x ys)).trans (.swap x y ys)
    · exact .refl _
theorem isort_perm : ∀ l : List α, (isort lt l).Perm l
  | [] => .refl _
  | x :: xs => (ins_perm x _).trans (.cons x (isort_perm xs))
theorem sorted_eq (anti : ∀ a b, lt a b = false → lt b a = false → a = b) : ∀ {l1 l2 : List α}, l1.Pairwise (fun a b => lt b a = false) → l2.Pairwise (fun a b => lt b a = false) → l1.Perm l2 → l1 = l2
  | [], l2, _, _, p => p.nil_eq
  | a :: l1, [], _, _, p => absurd p.length_eq (by simp)
  | a :: l1, b :: l2, h1, h2, p => by
    obtain ⟨a1, a2⟩ := List.pairwise_cons.mp h1
    obtain ⟨b1, b2⟩ := List.pairwise_cons.mp h2
    have e : a = b := by
      have ha := p.mem_iff.mp (List.mem_cons_self (a := a) (l := l1))
      have hb := p.mem_iff.mpr (List.mem_cons_self (a := b) (l := l2))
      rcases List.mem_cons.mp ha with q | q
      · exact q
      · rcases List.mem_cons.mp hb with q2 | q2
        · exact q2.symm
        · exact anti a b (a1 b q2 |> fun h => by
            exact (b1 a q)) (a1 b q2)
    subst e
    rw [sorted_eq anti a2 b2 (List.Perm.cons_inv p)]
end
theorem ltN_anti (a b : Nm) (h1 : ltN a b = false) (h2 : ltN b a = false) : a = b := by
  unfold ltN at h1 h2
  rw [decide_eq_false_iff_not] at h1 h2
  exact List.le_antisymm h2 h1
theorem swoN : SrtO.Swo ltN := by
  have := swo_ltA (fun a : Nm => [Sum.inr a])
  have e : (fun x y : Nm => ltA [Sum.inr x] [Sum.inr y]) = ltN := by funext x y; rw [lt1]; rfl
  rw [e] at this
  exact this
theorem nmz_sorted (m : Nat) : (nmz m).Pairwise (fun a b => ltN b a = false) := by
  unfold nmz
  refine List.pairwise_map.mpr (List.pairwise_lt_range.imp fun {i j} h => ?_)
  unfold ltN
  rw [decide_eq_false_iff_not]
  intro q
  rcases List.cons_lt_cons_iff.mp q with z | ⟨_, z⟩
  · omega
  · rcases List.cons_lt_cons_iff.mp z with z | ⟨_, z⟩
    · omega
    · simp at z
theorem isort_nmz {T : List Nm} {m : Nat} (h : T.Perm (nmz m)) : isort ltN T = nmz m :=
  sorted_eq ltN_anti (isort_srtd swoN T) (nmz_sorted m) ((isort_perm T).trans h)
theorem sortG_names {G : Gr} {m : Nat} (h : (G.map (·.1)).Perm (nmz m)) : (sortG G).map (·.1) = nmz m := by
  unfold sortG
  rw [isort_map (lt := ltN) (lt' := fun a b : Nm × List Nm => ltN a.1 b.1) (fun p => p.1) fun x y => rfl]
  exact isort_nmz h
theorem nmz_nodup (m : Nat) : (nmz m).Nodup := by
  unfold nmz
  rw [List.nodup_iff_pairwise_ne]
  exact List.pairwise_map.mpr (List.nodup_range.imp fun h e => h (by injection e with _ e; injection e with e; omega))
/-- a graph as the laws draw it -/
structure Fine (many heads : Nat) (G : Gr) : Prop where
  ex : ∃ (m : Nat) (T : List Nm), 1 ≤ m ∧ m ≤ many ∧ G.map (·.1) = nmz m ∧ T.Perm (nmz m) ∧ ∀ p ∈ G, ∃ i, T[i]? = some p.1 ∧ p.2.length ≤ heads ∧ ∃ zs, (p.2 ++ zs).Perm (T.take i)
theorem Drawn.fine {heads m many : Nat} {T : List Nm} {G : Gr} (h : Drawn heads T G) (hT : T.Perm (nmz m)) (h1 : 1 ≤ m) (h2 : m ≤ many) : Fine many heads (sortG G) := by
  refine ⟨m, T, h1, h2, sortG_names (by rw [h.1]; exact hT), hT, fun p hp => ?_⟩
  have hp := (isort_perm G).mem_iff.mp hp
  obtain ⟨i, hi⟩ := List.mem_iff_getElem?.mp hp
  obtain ⟨a, b⟩ := h.2 i p hi
  refine ⟨i, ?_, a, b⟩
  have := congrArg (fun l => l[i]?) h.1
  simp only [List.getElem?_map, hi, Option.map_some] at this
  exact this.symm
theorem tree_fine {d n c : Nat} {many heads : Int} {M : MH} {x : Cell} (hx : M[n]? = some x) (hc : TinC c x) (hm : 0 < many) (hm2 : many ≤ 10) (hh : 0 ≤ heads) (hh2 : heads ≤ 10) (hb : c + 1000 < far) :
    ∃ (G : Gr) (y : Cell), f__law_tree (d + 3) [.ref n, .int many, .int heads] M = .ok (wG G) (M.set n y) ∧ Fine many.toNat heads.toNat G ∧ TinC (c + 1000) y := by
  obtain ⟨m, T, G, y, e, h1, h2, hT, hD, ht⟩ := tree_ok (d := d) hx hc hm hm2 hh hh2 hb
  exact ⟨sortG G, y, e, hD.fine hT h1 h2, ht⟩
/-! ## numbers of the releases -/
def wVal (p : Nm × Int) : W := .tup true [.str p.1, .int p.2]
def wV (V : List (Nm × Int)) : W := .tup true (V.map wVal)
theorem noRefs_V (V : List (Nm × Int)) : noRefs (V.map wVal) = true := by rw [noRefs_all]; exact List.all_eq_true.mpr fun w hw => by obtain ⟨x, _, rfl⟩ := List.mem_map.mp hw; rfl
theorem noRefs_G (G : Gr) : noRefs (G.map wRow) = true := by rw [noRefs_all]; exact List.all_eq_true.mpr fun w hw => by obtain ⟨x, _, rfl⟩ := List.mem_map.mp hw; exact noRef_row x
theorem All2.vals {most : Int} : ∀ {G : Gr} {ys : List W}, All2 (fun w y => ∃ (p : Nm × List Nm) (v : Int), w = wRow p ∧ y = wVal (p.1, v) ∧ 0 ≤ v ∧ v < most) (G.map wRow) ys → ∃ V : List (Nm × Int), ys = V.map wVal ∧ V.map (·.1) = G.map (·.1) ∧ ∀ p ∈ V, 0 ≤ p.2 ∧ p.2 < most
  | [], _, .nil => ⟨[], rfl, rfl, by simp⟩
  | g :: G, _, .cons a b => by
    obtain ⟨p, v, e, rfl, h0, h1⟩ := a
    have e2 : p.1 = g.1 := by
      have := congrArg firstT e
      exact this.symm
    obtain ⟨V, rfl, h3, h4⟩ := All2.vals b
    refine ⟨(p.1, v) :: V, rfl, by rw [List.map_cons, List.map_cons, h3, e2], fun q hq => ?_⟩
    rcases List.mem_cons.mp hq with z | z
    · subst z; exact ⟨h0, h1⟩
    · exact h4 q z
theorem worth_ok {d n c : Nat} {most : Int} {M : MH} {x : Cell} {G : Gr} (hx : M[n]? = some x) (hc : TinC c x) (hG : G.length ≤ 100) (h0 : 0 < most) (h1 : most < 1000000) (hb : c + 100 < far) :
    ∃ (V : List (Nm × Int)) (y : Cell), f__law_worth (d + 2) [.ref n, wG G, .int most] M = .ok (wV V) (M.set n y) ∧ V.map (·.1) = G.map (·.1) ∧ (∀ p ∈ V, 0 ≤ p.2 ∧ p.2 < most) ∧ TinC (c + 100) y := by
  have hnl := lt_of hx
  obtain ⟨ys, M', e, ⟨y, hM, ht⟩, ha⟩ := k_compI (own := [3, 4]) (it := itS (eVar 1)) (t := gT (gsC (gN 3) (gsC (gN 4) gs0))) (e := eTup (aCons (eVar 3) (aCons (eCall (f__law_take (d + 1)) (aCons (eVar 0) (aCons (eVar 2) aNil))) aNil))) (r := [some (.ref n), some (wG G), some (.int most), none, none]) (M := M) (M1 := M) (ws := G.map wRow)
    (fun k M2 => ∃ y, M2 = M.set n y ∧ TinC (c + k) y) (fun w y => ∃ (p : Nm × List Nm) (v : Int), w = wRow p ∧ y = wVal (p.1, v) ∧ 0 ≤ v ∧ v < most) (k_it (k_var rfl) rfl) ⟨x, (set_same hx).symm, hc⟩ (fun w hw k M2 hk hP => by
      obtain ⟨y, rfl, ht⟩ := hP
      obtain ⟨p, _, rfl⟩ := List.mem_map.mp hw
      rw [List.length_map] at hk
      · obtain ⟨q, y2, t1, t2, t3, t4⟩ := take_ok (d := d) (t := most) (M := M.set n y) (set_at hnl) ht (by omega) h0 h1
        rw [List.set_set] at t1
        exact ⟨[some (.ref n), some (wG G), some (.int most), some (.str p.1), some (.tup true (p.2.map wS))], wVal (p.1, q), M.set n y2, rfl, k_tup (k_cons (k_var rfl) (k_cons (k_call (k_cons (k_var rfl) (k_cons (k_var rfl) k_nil)) t1) k_nil)) (show 2 ≤ line by decide), ⟨y2, rfl, t4⟩, p, q, rfl, rfl, t2, t3⟩) (by rw [List.length_map]; unfold line; omega)
  obtain ⟨V, rfl, h3, h4⟩ := All2.vals ha
  rw [List.length_map] at ht
  refine ⟨V, y, ?_, h3, h4, ht.mono (by omega)⟩
  subst hM
  unfold f__law_worth
  refine k_fn (w := wV V) (M1 := M.set n y) rfl (s_ret (k_bi (k_cons (k_L e) k_nil) rfl)) (fin_same (noRefs_V V) (by simp))
end Py

namespace Py
open Sh
/-! ## plain data, small -/
def okd : Nat → W → Bool
  | _, .non => true
  | _, .bl _ => true
  | _, .int _ => true
  | _, .str _ => true
  | n + 1, .tup _ xs => decide (xs.length ≤ 10000) && xs.all (okd n)
  | n + 1, .lst xs => decide (xs.length ≤ 10000) && xs.all (okd n)
  | _, _ => false
theorem okd_all {n : Nat} {xs : List W} (h : xs.all (okd n) = true) {w : W} (hw : w ∈ xs) : okd n w = true := List.all_eq_true.mp h w hw
mutual
def tupd : W → W
  | .lst xs => .tup true (tupds xs)
  | .tup _ xs => .tup true (tupds xs)
  | w => w
def tupds : List W → List W
  | [] => []
  | x :: xs => tupd x :: tupds xs
end
mutual
def lstd : W → W
  | .lst xs => .lst (lstds xs)
  | .tup _ xs => .lst (lstds xs)
  | w => w
def lstds : List W → List W
  | [] => []
  | x :: xs => lstd x :: lstds xs
end
theorem tupds_map : ∀ xs : List W, tupds xs = xs.map tupd
  | [] => rfl
  | x :: xs => by rw [tupds, tupds_map xs]; rfl
theorem lstds_map : ∀ xs : List W, lstds xs = xs.map lstd
  | [] => rfl
  | x :: xs => by rw [lstds, lstds_map xs]; rfl
theorem okd_noRef : ∀ (n : Nat) (w : W), okd n w = true → noRef w = true
  | _, .non, _ => rfl
  | _, .bl _, _ => rfl
  | _, .int _, _ => rfl
  | _, .str _, _ => rfl
  | n + 1, .tup _ xs, h => by
    simp only [okd, Bool.and_eq_true] at h
    show noRefs xs = true
    rw [noRefs_all]
    exact List.all_eq_true.mpr fun w hw => okd_noRef n w (okd_all h.2 hw)
  | n + 1, .lst xs, h => by
    simp only [okd, Bool.and_eq_true] at h
    show noRefs xs = true
    rw [noRefs_all]
    exact List.all_eq_true.mpr fun w hw => okd_noRef n w (okd_all h.2 hw)
  | n, .dct _ _, h => by cases n <;> cases h
  | n, .fz _, h => by cases n <;> cases h
  | n, .ref _, h => by cases n <;> cases h
theorem okd_tupd : ∀ (n : Nat) (w : W), okd n w = true → okd n (tupd w) = true
  | _, .non, h => h
  | _, .bl _, h => h
  | _, .int _, h => h
  | _, .str _, h => h
  | n + 1, .tup _ xs, h => by
    simp only [okd, Bool.and_eq_true, tupd, tupds_map, List.length_map] at h ⊢
    refine ⟨h.1, List.all_eq_true.mpr fun w hw => ?_⟩
    obtain ⟨x, hx, rfl⟩ := List.mem_map.mp hw
    exact okd_tupd n x (okd_all h.2 hx)
  | n + 1, .lst xs, h => by
    simp only [okd, Bool.and_eq_true, tupd, tupds_map, List.length_map] at h ⊢
    refine ⟨h.1, List.all_eq_true.mpr fun w hw => ?_⟩
    obtain ⟨x, hx, rfl⟩ := List.mem_map.mp hw
    exact okd_tupd n x (okd_all h.2 hx)
  | n, .dct _ _, h => by cases n <;> cases h
  | n, .fz _, h => by cases n <;> cases h
  | n, .ref _, h => by cases n <;> cases h
theorem okd_lstd : ∀ (n : Nat) (w : W), okd n w = true → okd n (lstd w) = true
  | _, .non, h => h
  | _, .bl _, h => h
  | _, .int _, h => h
  | _, .str _, h => h
  | n + 1, .tup _ xs, h => by
    simp only [okd, Bool.and_eq_true, lstd, lstds_map, List.length_map] at h ⊢
    refine ⟨h.1, List.all_eq_true.mpr fun w hw => ?_⟩
    obtain ⟨x, hx, rfl⟩ := List.mem_map.mp hw
    exact okd_lstd n x (okd_all h.2 hx)
  | n + 1, .lst xs, h => by
    simp only [okd, Bool.and_eq_true, lstd, lstds_map, List.length_map] at h ⊢
    refine ⟨h.1, List.all_eq_true.mpr fun w hw => ?_⟩
    obtain ⟨x, hx, rfl⟩ := List.mem_map.mp hw
    exact okd_lstd n x (okd_all h.2 hx)
  | n, .dct _ _, h => by cases n <;> cases h
  | n, .fz _, h => by cases n <;> cases h
  | n, .ref _, h => by cases n <;> cases h
theorem tupled_ok : ∀ (n : Nat) {d : Nat} {M : MH} (w : W), okd n w = true → f_tupled (d + n + 1) [w] M = .ok (tupd w) M := by
  intro n
  induction n with
  | zero =>
    intro d M w h
    unfold f_tupled
    cases w with
    | non => exact k_fn (w := .non) rfl (s_ret (k_if_f (M1 := M) rfl (k_var rfl))) (fin_same rfl rfl)
    | bl b => exact k_fn (w := .bl b) rfl (s_ret (k_if_f (M1 := M) rfl (k_var rfl))) (fin_same rfl rfl)
    | int b => exact k_fn (w := .int b) rfl (s_ret (k_if_f (M1 := M) rfl (k_var rfl))) (fin_same rfl rfl)
    | str b => exact k_fn (w := .str b) rfl (s_ret (k_if_f (M1 := M) rfl (k_var rfl))) (fin_same rfl rfl)
    | _ => cases h
  | succ n ih =>
    intro d M w h
    have go : ∀ xs : List W, (decide (xs.length ≤ 10000) && xs.all (okd n)) = true → noRefs (tupds xs) = true := fun xs h => by
      rw [Bool.and_eq_true] at h
      rw [tupds_map, noRefs_all]
      refine List.all_eq_true.mpr fun w hw => ?_
      obtain ⟨x, hx, rfl⟩ := List.mem_map.mp hw
      exact okd_noRef n _ (okd_tupd n x (okd_all h.2 hx))
    have cmp : ∀ (xs : List W) (u : W), itOf u = some xs → (decide (xs.length ≤ 10000) && xs.all (okd n)) = true → lComp [1] (itS (eVar 0)) (gN 1) bYes (eCall (f_tupled (d + (n + 1))) (aCons (eVar 1) aNil)) [some u, none] M = .ok (tupds xs) M := fun xs u hu h => by
      rw [Bool.and_eq_true] at h
      rw [tupds_map]
      refine k_comp1 tupd (k_it (k_var rfl) hu) (fun w hw => ⟨[some u, some w], rfl, k_call (k_cons (k_var rfl) k_nil) ?_⟩) (by have := of_decide_eq_true h.1; unfold line; omega)
      exact ih w (okd_all h.2 hw)
    unfold f_tupled
    cases w with
    | non => exact k_fn (w := .non) rfl (s_ret (k_if_f (M1 := M) rfl (k_var rfl))) (fin_same rfl rfl)
    | bl b => exact k_fn (w := .bl b) rfl (s_ret (k_if_f (M1 := M) rfl (k_var rfl))) (fin_same rfl rfl)
    | int b => exact k_fn (w := .int b) rfl (s_ret (k_if_f (M1 := M) rfl (k_var rfl))) (fin_same rfl rfl)
    | str b => exact k_fn (w := .str b) rfl (s_ret (k_if_f (M1 := M) rfl (k_var rfl))) (fin_same rfl rfl)
    | tup k xs => exact k_fn (w := .tup true (tupds xs)) (M1 := M) rfl (s_ret (k_if_t (M1 := M) rfl (k_bi (k_cons (k_L (cmp xs _ rfl h)) k_nil) rfl))) (fin_same (go xs h) rfl)
    | lst xs => exact k_fn (w := .tup true (tupds xs)) (M1 := M) rfl (s_ret (k_if_t (M1 := M) rfl (k_bi (k_cons (k_L (cmp xs _ rfl h)) k_nil) rfl))) (fin_same (go xs h) rfl)
    | _ => cases h
theorem lists_ok : ∀ (n : Nat) {d : Nat} {M : MH} (w : W), okd n w = true → f__law_lists (d + n + 1) [w] M = .ok (lstd w) M := by
  intro n
  induction n with
  | zero =>
    intro d M w h
    unfold f__law_lists
    cases w with
    | non => exact k_fn (w := .non) rfl (s_ret (k_if_f (M1 := M) rfl (k_var rfl))) (fin_same rfl rfl)
    | bl b => exact k_fn (w := .bl b) rfl (s_ret (k_if_f (M1 := M) rfl (k_var rfl))) (fin_same rfl rfl)
    | int b => exact k_fn (w := .int b) rfl (s_ret (k_if_f (M1 := M) rfl (k_var rfl))) (fin_same rfl rfl)
    | str b => exact k_fn (w := .str b) rfl (s_ret (k_if_f (M1 := M) rfl (k_var rfl))) (fin_same rfl rfl)
    | _ => cases h
  | succ n ih =>
    intro d M w h
    have go : ∀ xs : List W, (decide (xs.length ≤ 10000) && xs.all (okd n)) = true → noRefs (lstds xs) = true := fun xs h => by
      rw [Bool.and_eq_true] at h
      rw [lstds_map, noRefs_all]
      refine List.all_eq_true.mpr fun w hw => ?_
      obtain ⟨x, hx, rfl⟩ := List.mem_map.mp hw
      exact okd_noRef n _ (okd_lstd n x (okd_all h.2 hx))
    have cmp : ∀ (xs : List W) (u : W), itOf u = some xs → (decide (xs.length ≤ 10000) && xs.all (okd n)) = true → lComp [1] (itS (eVar 0)) (gN 1) bYes (eCall (f__law_lists (d + (n + 1))) (aCons (eVar 1) aNil)) [some u, none] M = .ok (lstds xs) M := fun xs u hu h => by
      rw [Bool.and_eq_true] at h
      rw [lstds_map]
      refine k_comp1 lstd (k_it (k_var rfl) hu) (fun w hw => ⟨[some u, some w], rfl, k_call (k_cons (k_var rfl) k_nil) ?_⟩) (by have := of_decide_eq_true h.1; unfold line; omega)
      exact ih w (okd_all h.2 hw)
    unfold f__law_lists
    cases w with
    | non => exact k_fn (w := .non) rfl (s_ret (k_if_f (M1 := M) rfl (k_var rfl))) (fin_same rfl rfl)
    | bl b => exact k_fn (w := .bl b) rfl (s_ret (k_if_f (M1 := M) rfl (k_var rfl))) (fin_same rfl rfl)
    | int b => exact k_fn (w := .int b) rfl (s_ret (k_if_f (M1 := M) rfl (k_var rfl))) (fin_same rfl rfl)
    | str b => exact k_fn (w := .str b) rfl (s_ret (k_if_f (M1 := M) rfl (k_var rfl))) (fin_same rfl rfl)
    | tup k xs => exact k_fn (w := .lst (lstds xs)) (M1 := M) rfl (s_ret (k_if_t (M1 := M) rfl (k_L (cmp xs _ rfl h)))) (fin_same (go xs h) rfl)
    | lst xs => exact k_fn (w := .lst (lstds xs)) (M1 := M) rfl (s_ret (k_if_t (M1 := M) rfl (k_L (cmp xs _ rfl h)))) (fin_same (go xs h) rfl)
    | _ => cases h
/-! ## the law's own equality -/
/-- the same, but for the tuples' flags -/
inductive Sim : W → W → Prop
  | non : Sim .non .non
  | bl (b : Bool) : Sim (.bl b) (.bl b)
  | int (i : Int) : Sim (.int i) (.int i)
  | str (l : List Nat) : Sim (.str l) (.str l)
  | lst {xs ys : List W} : xs.length = ys.length → (∀ (i : Nat) (x y : W), xs[i]? = some x → ys[i]? = some y → Sim x y) → Sim (.lst xs) (.lst ys)
  | tup {j k : Bool} {xs ys : List W} : xs.length = ys.length → (∀ (i : Nat) (x y : W), xs[i]? = some x → ys[i]? = some y → Sim x y) → Sim (.tup j xs) (.tup k ys)
theorem Sim.refl : ∀ (n : Nat) (w : W), okd n w = true → Sim w w
  | _, .non, _ => .non
  | _, .bl b, _ => .bl b
  | _, .int b, _ => .int b
  | _, .str b, _ => .str b
  | n + 1, .tup _ xs, h => .tup rfl fun i x y hx hy => by
    rw [hx] at hy; cases hy
    simp only [okd, Bool.and_eq_true] at h
    exact Sim.refl n x (okd_all h.2 (List.mem_of_getElem? hx))
  | n + 1, .lst xs, h => .lst rfl fun i x y hx hy => by
    rw [hx] at hy; cases hy
    simp only [okd, Bool.and_eq_true] at h
    exact Sim.refl n x (okd_all h.2 (List.mem_of_getElem? hx))
  | n, .dct _ _, h => by cases n <;> cases h
  | n, .fz _, h => by cases n <;> cases h
  | n, .ref _, h => by cases n <;> cases h
theorem all_true (l : List W) : allW (.lst (l.map fun _ => W.bl true)) = some (.bl true) := by
  have h : ∀ l : List W, bls (l.map fun _ => W.bl true) = some (l.map fun _ => true) := fun l => by
    induction l with
    | nil => rfl
    | cons x xs ih => rw [List.map_cons, bls, ih]; rfl
  simp only [allW, h, Option.map_some]
  congr 2
  induction l with
  | nil => rfl
  | cons x xs ih => exact ih
theorem same_leaf {d : Nat} {M : MH} {a b : W} (h : Sim a b) (hl : ∀ xs, b ≠ .lst xs) (ht : ∀ k xs, b ≠ .tup k xs) : f__law_same (d + 1) [a, b] M = .ok (.bl true) M := by
  unfold f__law_same
  cases h with
  | non => exact k_fn (w := .bl true) (M1 := M) rfl rfl (fin_same rfl rfl)
  | bl b => cases b <;> exact k_fn (w := .bl true) (M1 := M) rfl rfl (fin_same rfl rfl)
  | int b =>
    refine k_fn (w := .bl true) (M1 := M) rfl ?_ (fin_same rfl rfl)
    refine s_seq (s_if_f (M1 := M) rfl s_skip) (s_seq (s_if_f (M1 := M) rfl s_skip) (s_seq (s_if_f (M1 := M) rfl s_skip) (s_ret ?_)))
    refine k_and_t (M1 := M) (x := .bl true) rfl rfl (k_and_t (M1 := M) (x := .bl true) rfl rfl (k_op (k_var rfl) (k_var rfl) ?_))
    show eqO (.int b) (.int b) = _
    rw [eqI, beq_self_eq_true]
  | str b =>
    refine k_fn (w := .bl true) (M1 := M) rfl ?_ (fin_same rfl rfl)
    refine s_seq (s_if_f (M1 := M) rfl s_skip) (s_seq (s_if_f (M1 := M) rfl s_skip) (s_seqR (s_if_t (M1 := M) rfl (s_ret ?_))))
    refine k_and_t (M1 := M) (x := .bl true) (k_op (k_var rfl) (k_var rfl) ?_) rfl rfl
    show some (W.bl (b == b)) = _
    rw [beq_self_eq_true]
  | lst _ _ => exact absurd rfl (hl _)
  | tup _ _ => exact absurd rfl (ht _ _)
theorem same_ok : ∀ (n : Nat) {d : Nat} {M : MH} {a b : W}, Sim a b → okd n a = true → f__law_same (d + n + 1) [a, b] M = .ok (.bl true) M := by
  intro n
  induction n with
  | zero =>
    intro d M a b h ha
    cases h with
    | lst _ _ => cases ha
    | tup _ _ => cases ha
    | non => exact same_leaf .non (by intros; simp) (by intros; simp)
    | bl b => exact same_leaf (.bl b) (by intros; simp) (by intros; simp)
    | int b => exact same_leaf (.int b) (by intros; simp) (by intros; simp)
    | str b => exact same_leaf (.str b) (by intros; simp) (by intros; simp)
  | succ n ih =>
    intro d M a b h ha
    cases h with
    | non => exact same_leaf .non (by intros; simp) (by intros; simp)
    | bl b => exact same_leaf (.bl b) (by intros; simp) (by intros; simp)
    | int b => exact same_leaf (.int b) (by intros; simp) (by intros; simp)
    | str b => exact same_leaf (.str b) (by intros; simp) (by intros; simp)
    | @lst xs ys hl hs =>
      simp only [okd, Bool.and_eq_true] at ha
      have hz := of_decide_eq_true ha.1
      have cmp : lComp [2, 3] (itZ (eVar 0) (eVar 1)) (gT (gsC (gN 2) (gsC (gN 3) gs0))) bYes (eCall (f__law_same (d + (n + 1))) (aCons (eVar 2) (aCons (eVar 3) aNil))) [some (.lst xs), some (.lst ys), none, none, none] M = .ok ((zipW xs ys).map fun _ => W.bl true) M := by
        refine k_comp1 _ (k_zL (k_var rfl) (k_var rfl)) (fun w hw => ?_) (by rw [zipW_len]; unfold line; omega)
        obtain ⟨i, hi⟩ := List.mem_iff_getElem?.mp hw
        rw [zipW_get] at hi
        cases q : xs[i]? with
        | none => rw [q] at hi; cases hi
        | some x =>
          cases q2 : ys[i]? with
          | none => rw [q, q2] at hi; cases hi
          | some y =>
            rw [q, q2] at hi; cases hi
            exact ⟨[some (.lst xs), some (.lst ys), some x, some y, none], rfl, k_call (k_cons (k_var rfl) (k_cons (k_var rfl) k_nil)) (ih (hs i x y q q2) (okd_all ha.2 (List.mem_of_getElem? q)))⟩
      unfold f__law_same
      refine k_fn (w := .bl true) (M1 := M) rfl ?_ (fin_same rfl rfl)
      refine s_seqR (s_if_t (M1 := M) rfl (s_seq (s_if_f (M1 := M) rfl s_skip) (s_ret ?_)))
      refine k_and_t (M1 := M) (x := .bl true) (k_op (k_bi (k_cons (k_var rfl) k_nil) rfl) (k_bi (k_cons (k_var rfl) k_nil) rfl) ?_) rfl (k_bi (k_cons (k_L cmp) k_nil) (all_true _))
      show eqO (.int (xs.length : Int)) (.int (ys.length : Int)) = _
      rw [hl, eqI, beq_self_eq_true]
    | @tup j k xs ys hl hs =>
      simp only [okd, Bool.and_eq_true] at ha
      have hz := of_decide_eq_true ha.1
      have cmp : lComp [2, 3] (itZ (eVar 0) (eVar 1)) (gT (gsC (gN 2) (gsC (gN 3) gs0))) bYes (eCall (f__law_same (d + (n + 1))) (aCons (eVar 2) (aCons (eVar 3) aNil))) [some (.tup j xs), some (.tup k ys), none, none, none] M = .ok ((zipW xs ys).map fun _ => W.bl true) M := by
        refine k_comp1 _ (k_zT (k_var rfl) (k_var rfl)) (fun w hw => ?_) (by rw [zipW_len]; unfold line; omega)
        obtain ⟨i, hi⟩ := List.mem_iff_getElem?.mp hw
        rw [zipW_get] at hi
        cases q : xs[i]? with
        | none => rw [q] at hi; cases hi
        | some x =>
          cases q2 : ys[i]? with
          | none => rw [q, q2] at hi; cases hi
          | some y =>
            rw [q, q2] at hi; cases hi
            exact ⟨[some (.tup j xs), some (.tup k ys), some x, some y, none], rfl, k_call (k_cons (k_var rfl) (k_cons (k_var rfl) k_nil)) (ih (hs i x y q q2) (okd_all ha.2 (List.mem_of_getElem? q)))⟩
      unfold f__law_same
      refine k_fn (w := .bl true) (M1 := M) rfl ?_ (fin_same rfl rfl)
      refine s_seqR (s_if_t (M1 := M) rfl (s_seq (s_if_f (M1 := M) rfl s_skip) (s_ret ?_)))
      refine k_and_t (M1 := M) (x := .bl true) (k_op (k_bi (k_cons (k_var rfl) k_nil) rfl) (k_bi (k_cons (k_var rfl) k_nil) rfl) ?_) rfl (k_bi (k_cons (k_L cmp) k_nil) (all_true _))
      show eqO (.int (xs.length : Int)) (.int (ys.length : Int)) = _
      rw [hl, eqI, beq_self_eq_true]
theorem same_refl {n d : Nat} {M : MH} {a : W} (h : okd n a = true) : f__law_same (d + n + 1) [a, a] M = .ok (.bl true) M := same_ok n (Sim.refl n a h) h
end Py

namespace Py
open Sh
/-! ## the script's cells -/
def wI (i : Int) : W := .int i
theorem noRefs_I (l : List Int) : noRefs (l.map wI) = true := by rw [noRefs_all]; exact List.all_eq_true.mpr fun w hw => by obtain ⟨x, _, rfl⟩ := List.mem_map.mp hw; rfl
theorem cut_drop {α : Type} {xs : List α} {i j : Int} (h : 0 ≤ i) (hj : 0 ≤ j) : cutW xs (some i) (some j) = (xs.take j.toNat).drop i.toNat := by
  unfold cutW
  have e : ∀ (d : Nat) (k : Int), 0 ≤ k → HT.sIx xs.length d (some k) = min k.toNat xs.length := fun d k hk => by
    have := HT.sIx_nat xs.length d k.toNat
    rwa [Int.toNat_of_nonneg hk] at this
  rw [e _ i h, e _ j hj, List.drop_take]
  rcases Nat.le_total i.toNat xs.length with q | q
  · rw [Nat.min_eq_left q]
    rcases Nat.le_total j.toNat xs.length with q2 | q2
    · rw [Nat.min_eq_left q2]
    · rw [Nat.min_eq_right q2]
      rw [List.take_of_length_le (by rw [List.length_drop]; exact Nat.le_refl _), List.take_of_length_le (by rw [List.length_drop]; omega)]
  · rw [Nat.min_eq_right q, List.drop_eq_nil_of_le q, List.drop_eq_nil_of_le (Nat.le_refl _)]
    simp
theorem cells_ok {d : Nat} {ns : List Int} {most : Int} {M : MH} (hm : 0 < most) (hm2 : most ≤ 10) (hl : ns.length ≤ 63) :
    ∃ zs : List Int, f__law_cells (d + 1) [.fz ns, .int most] M = .ok (.lst (zs.map wI)) M ∧ 1 ≤ zs.length ∧ zs.length ≤ most.toNat := by
  let z0 : List Int := if ns.take most.toNat = [] then [0] else ns.take most.toNat
  have hz0 : 1 ≤ z0.length ∧ z0.length ≤ most.toNat ∧ (most.toNat < ns.length → z0.length = most.toNat) := by
    show 1 ≤ (if ns.take most.toNat = [] then [0] else ns.take most.toNat).length ∧ _
    by_cases h : ns.take most.toNat = []
    · have e : z0 = [0] := if_pos h
      rw [if_pos h, e]
      have h0 : ns.length = 0 := by
        have := congrArg List.length h
        rw [List.length_take, List.length_nil] at this
        omega
      refine ⟨by simp, by simp; omega, fun q => by omega⟩
    · have e : z0 = ns.take most.toNat := if_neg h
      rw [if_neg h, e]
      have : (ns.take most.toNat).length ≠ 0 := fun q => h (List.eq_nil_of_length_eq_zero q)
      rw [List.length_take] at this ⊢
      refine ⟨by omega, by omega, fun q => by omega⟩
  have init : ∃ M0, (eOr (eB (lBi listW (aCons (eSl (eVar 0) pNo (pSo (eVar 1))) aNil))) (eB (lDisp (aCons (eC (.int 0)) aNil)))) [some (.fz ns), some (.int most), none, none, none, none] M = .ok (.ref (M ++ M0).length) (M ++ M0 ++ [Cell.lst (z0.map wI)]) := by
    have e1 : eB (lBi listW (aCons (eSl (eVar 0) pNo (pSo (eVar 1))) aNil)) [some (.fz ns), some (.int most), none, none, none, none] M = .ok (.ref M.length) (M ++ [.lst ((ns.take most.toNat).map wI)]) := by
      refine k_B (k_lbi (k_cons (k_sl (k_var rfl) k_no (k_so (k_var rfl)) rfl) k_nil) ?_) (noRefs_I _)
      show some ((cutW ns none (some most)).map W.int) = _
      rw [cut_take (by omega)]; rfl
    by_cases h : ns.take most.toNat = []
    · have e : z0 = [0] := if_pos h
      rw [h] at e1
      refine ⟨[.lst []], ?_⟩
      rw [e]
      refine k_or_f e1 ?_ (k_B (k_disp (k_cons k_c k_nil) (by decide)) rfl)
      rw [rd_l (at0 rfl)]; rfl
    · have e : z0 = ns.take most.toNat := if_neg h
      refine ⟨[], ?_⟩
      rw [e, List.append_nil]
      refine k_or_t e1 ?_
      rw [rd_l (at0 rfl)]
      show some (!((ns.take most.toNat).map wI).isEmpty) = some true
      cases q : ns.take most.toNat with
      | nil => exact absurd q h
      | cons a b => rfl
  obtain ⟨M0, init⟩ := init
  have hrest : cutW ns (some most) (some 63) = ns.drop most.toNat := by
    rw [cut_drop (by omega) (by decide), List.take_of_length_le (by show ns.length ≤ 63; exact hl)]
  have key : ∃ r2 M2, loopS (gT (gsC (gN 3) (gsC (gN 4) gs0))) (sSeq (sSet 5 (eOp modW (eBi (b1 intW) (aCons (eVar 3) aNil)) (eVar 1))) (sSub (eVar 2) (eVar 5) (eOp addW (eOp ixW (eVar 2) (eVar 5)) (eOp mulW (eVar 4) (eOp addW (eVar 3) (eC (.int 2))))))) (enumW 0 ((ns.drop most.toNat).map wI)) [some (.fz ns), some (.int most), some (.ref (M ++ M0).length), none, none, none] (M ++ M0 ++ [Cell.lst (z0.map wI)]) = .nx r2 M2 ∧
      ∃ (zs : List Int) (v3 v4 v5 : Option W), r2 = [some (.fz ns), some (.int most), some (.ref (M ++ M0).length), v3, v4, v5] ∧ M2 = M ++ M0 ++ [Cell.lst (zs.map wI)] ∧ zs.length = z0.length := by
    refine loop_inv (fun k r2 M2 => ∃ (zs : List Int) (v3 v4 v5 : Option W), r2 = [some (.fz ns), some (.int most), some (.ref (M ++ M0).length), v3, v4, v5] ∧ M2 = M ++ M0 ++ [Cell.lst (zs.map wI)] ∧ zs.length = z0.length) (k := 0) ⟨z0, none, none, none, rfl, rfl, rfl⟩ ?_
    rintro j w hj r2 M2 ⟨zs, v3, v4, v5, rfl, rfl, hz⟩
    rw [enumW_get, List.getElem?_map] at hj
    cases qj : (ns.drop most.toNat)[j]? with
    | none => rw [qj] at hj; cases hj
    | some g =>
      rw [qj] at hj
      cases hj
      have hjl := (List.getElem?_eq_some_iff.mp qj).1
      rw [List.length_drop] at hjl
      have hzl : zs.length = most.toNat := by rw [hz]; exact hz0.2.2 (by omega)
      have hmod : 0 ≤ ((0 + j : Nat) : Int) % most ∧ ((0 + j : Nat) : Int) % most < most := ⟨Int.emod_nonneg _ (by omega), Int.emod_lt_of_pos _ hm⟩
      let q : Nat := (((0 + j : Nat) : Int) % most).toNat
      have hq : q < zs.length := by show (((0 + j : Nat) : Int) % most).toNat < zs.length; omega
      have hix : L2.ixN (zs.map wI).length (((0 + j : Nat) : Int) % most) = some q := ixN_lt hmod.1 (by rw [List.length_map]; omega)
      have hget : (zs.map wI)[q]? = some (wI zs[q]) := by rw [List.getElem?_map, List.getElem?_eq_getElem hq]; rfl
      refine ⟨_, _, _, rfl, s_seq (s_set (k_op (k_bi (k_cons (k_var rfl) k_nil) rfl) (k_var rfl) (l_mod hm))) (s_sub (xs := zs.map wI) (q := q) (w := .int (zs[q] + g * (((0 + j : Nat) : Int) + 2))) (k_op (x := .int zs[q]) (k_op (w := .int zs[q]) (k_var rfl) (k_var rfl) (l_ixr (xs := zs.map wI) (at0 rfl) ?_)) (k_op (k_var rfl) (k_op (k_var rfl) k_c l_add) (l_mul (mulC_r ?_ ?_))) l_add) (k_var rfl) (k_var rfl) (at0 rfl) hix rfl), ?_⟩
      · unfold atW; rw [hix]; exact hget
      · unfold big; omega
      · unfold big; omega
      · refine ⟨zs.set q (zs[q] + g * (((0 + j : Nat) : Int) + 2)), _, _, _, rfl, ?_, by rw [List.length_set]; exact hz⟩
        rw [put0 rfl, List.map_set]; rfl
  obtain ⟨r2, M2, e, zs, v3, v4, v5, rfl, rfl, hz⟩ := key
  refine ⟨zs, ?_, by omega, by omega⟩
  unfold f__law_cells
  refine k_fn (w := .ref (M ++ M0).length) (M1 := M ++ M0 ++ [Cell.lst (zs.map wI)]) rfl ?_ ?_
  · refine s_seq (s_set init) (s_seq (r1 := [some (.fz ns), some (.int most), some (.ref (M ++ M0).length), v3, v4, v5]) (M1 := M ++ M0 ++ [Cell.lst (zs.map wI)]) (s_for (ws := enumW 0 ((ns.drop most.toNat).map wI)) (M1 := M ++ M0 ++ [Cell.lst (z0.map wI)]) (k_en (k_sl (k_var rfl) (k_so (k_var rfl)) (k_so k_c) ?_)) e) (s_ret (k_var rfl)))
    show some (W.lst ((cutW ns (some most) (some 63)).map W.int)) = _
    rw [hrest]; rfl
  · rw [fin_lst (by rw [List.length_append]; omega) (at0 rfl), List.append_assoc, List.take_left]
/-! ## the round over the cells -/
theorem all_bl {ys : List W} (h : ∀ y ∈ ys, y = W.bl true) : allW (.lst ys) = some (.bl true) := by
  have : ys = ys.map fun _ => W.bl true := by
    conv => lhs; rw [← List.map_id ys]
    exact List.map_congr_left fun y hy => h y hy
  rw [this]; exact all_true _
theorem All2.right {α β : Type} {Q : α → β → Prop} : ∀ {as : List α} {bs : List β}, All2 Q as bs → ∀ b ∈ bs, ∃ a ∈ as, Q a b
  | _, _, .nil, b, hb => by simp at hb
  | _, _, .cons h t, b, hb => by
    rcases List.mem_cons.mp hb with e | e
    · subst e; exact ⟨_, List.mem_cons_self, h⟩
    · obtain ⟨a, ha, q⟩ := All2.right t b e
      exact ⟨a, List.mem_cons_of_mem _ ha, q⟩
/-- so many cases, each one right -/
theorem rounds_ok {own : Nat} {f : Fn} {r : Sl} {n c K step : Nat} {M : MH} {x : Cell} (hx : M[n]? = some x) (hc : TinC c x) (hK : K ≤ 1000) (e0 : ∀ w, ((wipeR r [own]).set own (some w))[0]? = some (some (.ref n)))
    (h : ∀ k M x, k < K → M[n]? = some x → TinC (c + step * k) x → ∃ y, f [.ref n] M = .ok (.bl true) (M.set n y) ∧ TinC (c + step * k + step) y) :
    ∃ y, eBi (b1 allW) (aCons (eL (lComp [own] (itR1 (eC (.int (K : Int)))) (gN own) bYes (eCall f (aCons (eVar 0) aNil)))) aNil) r M = .ok (.bl true) (M.set n y) ∧ TinC (c + step * K) y := by
  have hnl := lt_of hx
  obtain ⟨ys, M', e, ⟨y, rfl, ht⟩, ha⟩ := k_compI (own := [own]) (it := itR1 (eC (.int (K : Int)))) (t := gN own) (e := eCall f (aCons (eVar 0) aNil)) (r := r) (M := M) (M1 := M) (ws := rngW 0 K)
    (fun k M2 => ∃ y, M2 = M.set n y ∧ TinC (c + step * k) y) (fun _ y => y = W.bl true) (by rw [show rngW 0 K = rngW 0 ((K : Int)).toNat by rw [Int.toNat_natCast]]; exact k_r1 k_c (by simp only [i62, Bool.and_eq_true, decide_eq_true_eq]; omega)) ⟨x, (set_same hx).symm, by rw [Nat.mul_zero]; exact hc⟩ (fun w hw k M2 hk hP => by
      obtain ⟨y, rfl, ht⟩ := hP
      rw [rng_len] at hk
      obtain ⟨y2, t1, t2⟩ := h k (M.set n y) y hk (set_at hnl) ht
      rw [List.set_set] at t1
      exact ⟨_, .bl true, M.set n y2, rfl, k_call (k_cons (k_var (e0 w)) k_nil) t1, ⟨y2, rfl, by rw [Nat.mul_succ, ← Nat.add_assoc]; exact t2⟩, rfl⟩) (by rw [rng_len]; unfold line; omega)
  rw [rng_len] at ht
  refine ⟨y, k_bi (k_cons (k_L e) k_nil) (all_bl fun y hy => ?_), ht⟩
  obtain ⟨_, _, q⟩ := All2.right ha y hy
  exact q
end Py

namespace Py
open Sh
/-! ## tables of numbers -/
abbrev Vl := List (Nm × Int)
def vK (V : Vl) : List W := V.map fun p => wS p.1
def vV (V : Vl) : List W := V.map fun p => wI p.2
theorem keyEq_S (a b : Nm) : keyEq (wS a) (wS b) = (a == b) := rfl
theorem has_vK {V : Vl} {n : Nm} (h : n ∉ V.map (·.1)) : has (vK V) (wS n) = false := by
  rw [Bool.eq_false_iff]
  intro q
  obtain ⟨w, hw, e⟩ := List.any_eq_true.mp q
  obtain ⟨p, hp, rfl⟩ := List.mem_map.mp hw
  rw [keyEq_S, beq_iff_eq] at e
  exact h (List.mem_map.mpr ⟨p, hp, e⟩)
theorem dictGo_V : ∀ {V A : Vl}, ((A ++ V).map (·.1)).Nodup → dictGo (vK A) (vV A) (V.map wVal) = some (vK (A ++ V), vV (A ++ V))
  | [], A, _ => by simp [dictGo]
  | p :: V, A, h => by
    have hn : p.1 ∉ A.map (·.1) := by
      rw [List.map_append, List.map_cons] at h
      intro q
      exact (List.nodup_append.mp h).2.2 p.1 q p.1 List.mem_cons_self rfl
    show dictGo (putD (vK A) (vV A) (wS p.1) (wI p.2)).1 (putD (vK A) (vV A) (wS p.1) (wI p.2)).2 (V.map wVal) = _
    unfold putD
    rw [has_vK hn]
    have := dictGo_V (V := V) (A := A ++ [p]) (by rw [List.append_assoc]; exact h)
    rw [List.append_assoc] at this
    rw [← show vK (A ++ [p]) = vK A ++ [wS p.1] by simp [vK], ← show vV (A ++ [p]) = vV A ++ [wI p.2] by simp [vV]]
    exact this
theorem dict_V {V : Vl} (h : (V.map (·.1)).Nodup) : dictGo [] [] (V.map wVal) = some (vK V, vV V) := dictGo_V (A := []) h
def val (V : Vl) (n : Nm) : Int := (V.lookup n).getD 0
theorem look_V : ∀ {V : Vl} {n : Nm}, n ∈ V.map (·.1) → look (vK V) (vV V) (wS n) = some (wI (val V n))
  | [], n, h => by simp at h
  | p :: V, n, h => by
    show (if keyEq (wS p.1) (wS n) then some (wI p.2) else look (vK V) (vV V) (wS n)) = _
    rw [keyEq_S]
    unfold val
    rw [show (p :: V) = (p.1, p.2) :: V from rfl, List.lookup_cons]
    by_cases q : p.1 = n
    · subst q; simp
    · have q2 : (n == p.1) = false := beq_false_of_ne (Ne.symm q)
      rw [beq_false_of_ne q, q2]
      rw [List.map_cons] at h
      exact look_V ((List.mem_cons.mp h).resolve_left (Ne.symm q))
/-! ## rules -/
def rFirst : Nm := [102, 105, 114, 115, 116]
def rEach : Nm := [101, 97, 99, 104]
def rSome : Nm := [115, 111, 109, 101]
def unl (V : Vl) (n p : Nm) : Bool := !(val V p == val V n)
def tells (V : Vl) (rule : Nm) (x : Nm × List Nm) : Bool := match x.2 with
  | [] => true
  | p :: _ => if rule = rFirst then unl V x.1 p else if rule = rEach then x.2.all (unl V x.1) else x.2.any (unl V x.1)
theorem neI (i j : Int) : neO (.int i) (.int j) = some (.bl (!(i == j))) := rfl
theorem eqS (a b : Nm) : eqO (.str a) (.str b) = some (.bl (a == b)) := rfl
theorem bls_map : ∀ l : List Bool, bls (l.map W.bl) = some l
  | [] => rfl
  | x :: xs => by rw [List.map_cons, bls, bls_map xs]; rfl
theorem all_B (l : List Bool) : allW (.lst (l.map W.bl)) = some (.bl (l.all id)) := by simp [allW, bls_map]
theorem any_B (l : List Bool) : anyW (.lst (l.map W.bl)) = some (.bl (l.any id)) := by simp [anyW, bls_map]
theorem ix_V {V : Vl} {n : Nm} (h : n ∈ V.map (·.1)) : ixW (.dct (vK V) (vV V)) (wS n) = some (wI (val V n)) := look_V h
theorem at_0 {x : W} {xs : List W} : atW (x :: xs) 0 = some x := by
  unfold atW
  rw [ixN_lt (Int.le_refl 0) (by rw [List.length_cons]; omega)]
  rfl
theorem tells_by_ok {d : Nat} {M : MH} {V : Vl} {n : Nm} {ps : List Nm} {k : Bool} {rule : Nm} (hn : n ∈ V.map (·.1)) (hp : ∀ p ∈ ps, p ∈ V.map (·.1)) (hl : ps.length ≤ 10000) :
    f_tells_by (d + 1) [.dct (vK V) (vV V), wS n, .tup k (ps.map wS), wS rule] M = .ok (.bl (tells V rule (n, ps))) M := by
  unfold f_tells_by
  cases ps with
  | nil => exact k_fn (w := .bl true) (M1 := M) rfl (s_seqR (s_if_t (M1 := M) rfl (s_ret k_c))) (fin_same rfl rfl)
  | cons q qs =>
    have cmp : lComp [5] (itS (eVar 2)) (gN 5) bYes (eOp neO (eOp ixW (eVar 0) (eVar 5)) (eOp ixW (eVar 0) (eVar 1))) [some (.dct (vK V) (vV V)), some (wS n), some (.tup k ((q :: qs).map wS)), some (wS rule), none, none] M = .ok (((q :: qs).map (unl V n)).map W.bl) M := by
      rw [k_comp1 (fun w => .bl (unl V n (unS w))) (k_it (k_var rfl) rfl) (fun w hw => ?_) (by rw [List.length_map]; unfold line; omega), List.map_map, List.map_map]
      · rfl
      · obtain ⟨p, hp2, rfl⟩ := List.mem_map.mp hw
        exact ⟨[some (.dct (vK V) (vV V)), some (wS n), some (.tup k ((q :: qs).map wS)), some (wS rule), none, some (wS p)], rfl, k_op (k_op (k_var rfl) (k_var rfl) (ix_V (hp p hp2))) (k_op (k_var rfl) (k_var rfl) (ix_V hn)) (neI _ _)⟩
    refine k_fn (w := .bl (tells V rule (n, q :: qs))) (M1 := M) rfl ?_ (fin_same rfl rfl)
    refine s_seq (s_if_f (M1 := M) (k_T (x := .bl false) (k_op (k_bi (k_cons (k_var rfl) k_nil) rfl) k_c ?_) rfl) s_skip) (s_seq (s_set (k_L cmp)) ?_)
    · show eqO (.int (((q :: qs).map wS).length : Int)) (.int 0) = _
      rw [eqI]
      congr 1
    by_cases h1 : rule = rFirst
    · refine s_seqR (s_if_t (M1 := M) (k_T (x := .bl true) (k_op (k_var rfl) k_c ?_) rfl) (s_ret (k_op (k_var rfl) k_c ?_)))
      · show eqO (.str rule) (.str rFirst) = _
        rw [eqS, h1, beq_self_eq_true]
      · show atW (W.bl (unl V n q) :: (qs.map (unl V n)).map W.bl) 0 = some (W.bl (if rule = rFirst then unl V n q else if rule = rEach then (q :: qs).all (unl V n) else (q :: qs).any (unl V n)))
        rw [at_0, if_pos h1]
    · refine s_seq (s_if_f (M1 := M) (k_T (x := .bl false) (k_op (k_var rfl) k_c ?_) rfl) s_skip) (s_ret ?_)
      · show eqO (.str rule) (.str rFirst) = _
        rw [eqS, beq_false_of_ne h1]
      · by_cases h2 : rule = rEach
        · refine k_if_t (M1 := M) (k_T (x := .bl true) (k_op (k_var rfl) k_c ?_) rfl) (k_bi (k_cons (k_var rfl) k_nil) ?_)
          · show eqO (.str rule) (.str rEach) = _
            rw [eqS, h2, beq_self_eq_true]
          · show allW (.lst (((q :: qs).map (unl V n)).map W.bl)) = some (W.bl (if rule = rFirst then _ else if rule = rEach then (q :: qs).all (unl V n) else _))
            rw [all_B, if_neg h1, if_pos h2, List.all_map]; rfl
        · refine k_if_f (M1 := M) (k_T (x := .bl false) (k_op (k_var rfl) k_c ?_) rfl) (k_bi (k_cons (k_var rfl) k_nil) ?_)
          · show eqO (.str rule) (.str rEach) = _
            rw [eqS, beq_false_of_ne h2]
          · show anyW (.lst (((q :: qs).map (unl V n)).map W.bl)) = some (W.bl (if rule = rFirst then _ else if rule = rEach then _ else (q :: qs).any (unl V n)))
            rw [any_B, if_neg h1, if_neg h2, List.any_map]; rfl
/-- a graph with numbers -/
structure GV (G : Gr) (V : Vl) : Prop where
  nd : (V.map (·.1)).Nodup
  gl : G.length ≤ 1000
  vl : V.length ≤ 1000
  mem : ∀ x ∈ G, x.1 ∈ V.map (·.1) ∧ x.2.length ≤ 1000 ∧ ∀ p ∈ x.2, p ∈ V.map (·.1)
theorem okd_row {x : Nm × List Nm} (h : x.2.length ≤ 1000) : okd 2 (wRow x) = true := by
  show (decide (2 ≤ 10000) && (okd 1 (.str x.1) && (okd 1 (.tup true (x.2.map wS)) && true))) = true
  rw [Bool.and_true, show okd 1 (.str x.1) = true from rfl]
  show (true && (true && (decide ((x.2.map wS).length ≤ 10000) && (x.2.map wS).all (okd 0)))) = true
  rw [List.length_map, decide_eq_true (by omega), List.all_eq_true.mpr fun w hw => by obtain ⟨y, _, rfl⟩ := List.mem_map.mp hw; rfl]
  rfl
theorem GV.okG {G : Gr} {V : Vl} (h : GV G V) : okd 3 (wG G) = true := by
  show (decide ((G.map wRow).length ≤ 10000) && (G.map wRow).all (okd 2)) = true
  rw [List.length_map, decide_eq_true (by have := h.gl; omega), List.all_eq_true.mpr fun w hw => by obtain ⟨x, hx, rfl⟩ := List.mem_map.mp hw; exact okd_row (h.mem x hx).2.1]
  rfl
theorem GV.okV {G : Gr} {V : Vl} (h : GV G V) : okd 3 (wV V) = true := by
  show (decide ((V.map wVal).length ≤ 10000) && (V.map wVal).all (okd 2)) = true
  rw [List.length_map, decide_eq_true (by have := h.vl; omega), List.all_eq_true.mpr fun w hw => by obtain ⟨x, hx, rfl⟩ := List.mem_map.mp hw; rfl]
  rfl
theorem tupd_S : ∀ l : List Nm, tupds (l.map wS) = l.map wS
  | [] => rfl
  | x :: xs => by rw [List.map_cons, tupds, tupd_S xs]; rfl
theorem tupd_G (G : Gr) : tupd (wG G) = wG G := by
  show W.tup true (tupds (G.map wRow)) = _
  rw [tupds_map, List.map_map]
  unfold wG
  congr 1
  refine List.map_congr_left fun x _ => ?_
  show W.tup true [.str x.1, .tup true (tupds (x.2.map wS))] = _
  rw [tupd_S]; rfl
theorem tupd_V (V : Vl) : tupd (wV V) = wV V := by
  show W.tup true (tupds (V.map wVal)) = _
  rw [tupds_map, List.map_map]; rfl
mutual
theorem tupd_lstd : ∀ w : W, tupd (lstd w) = tupd w
  | .lst xs => by rw [lstd, tupd, tupd, tupds_lstds xs]
  | .tup k xs => by rw [lstd, tupd, tupd, tupds_lstds xs]
  | .non => rfl
  | .bl _ => rfl
  | .int _ => rfl
  | .str _ => rfl
  | .dct _ _ => rfl
  | .fz _ => rfl
  | .ref _ => rfl
theorem tupds_lstds : ∀ ws : List W, tupds (lstds ws) = tupds ws
  | [] => rfl
  | w :: ws => by rw [lstds, tupds, tupds, tupd_lstd w, tupds_lstds ws]
end
/-- the book by a rule -/
def bookBy (G : Gr) (V : Vl) (rule : Nm) : List Nm := (G.filter (tells V rule)).map (·.1)
def wB (B : List Nm) : W := .tup true (B.map wS)
theorem noRef_B (B : List Nm) : noRef (wB B) = true := noRefs_S B
theorem book_by_ok {d : Nat} {M : MH} {G : Gr} {V : Vl} {g v : W} {rule : Nm} (h : GV G V) (hg : tupd g = wG G) (hv : tupd v = wV V) (og : okd 3 g = true) (ov : okd 3 v = true) :
    f_book_by (d + 5) [g, v, wS rule] M = .ok (wB (bookBy G V rule)) M := by
  have t1 : f_tupled (d + 4) [v] M = .ok (wV V) M := by rw [tupled_ok 3 (d := d) v ov, hv]
  have t2 : f_tupled (d + 4) [g] M = .ok (wG G) M := by rw [tupled_ok 3 (d := d) g og, hg]
  have cmp : lComp [4, 5] (itS (eCall (f_tupled (d + 4)) (aCons (eVar 0) aNil))) (gT (gsC (gN 4) (gsC (gN 5) gs0))) (bT (eCall (f_tells_by (d + 4)) (aCons (eVar 3) (aCons (eVar 4) (aCons (eVar 5) (aCons (eVar 2) aNil)))))) (eVar 4) [some g, some v, some (wS rule), some (.dct (vK V) (vV V)), none, none] M = .ok ((bookBy G V rule).map wS) M := by
    rw [k_comp (fun w => match w with | .tup _ [.str n, .tup _ ps] => tells V rule (n, ps.map unS) | _ => false) (fun w => wS (firstT w)) (k_it (k_call (k_cons (k_var rfl) k_nil) t2) rfl) (fun w hw => ?_) (by rw [List.length_map]; have := h.gl; unfold line; omega)]
    · congr 1
      unfold bookBy
      rw [List.filter_map, List.map_map, List.map_map]
      congr 1
      refine List.filter_congr fun x _ => ?_
      show tells V rule (x.1, (x.2.map wS).map unS) = tells V rule x
      rw [unS_map]
    · obtain ⟨x, hx, rfl⟩ := List.mem_map.mp hw
      obtain ⟨m1, m2, m3⟩ := h.mem x hx
      refine ⟨[some g, some v, some (wS rule), some (.dct (vK V) (vV V)), some (wS x.1), some (.tup true (x.2.map wS))], rfl, ?_, fun _ => k_var rfl⟩
      refine k_T (k_call (k_cons (k_var rfl) (k_cons (k_var rfl) (k_cons (k_var rfl) (k_cons (k_var rfl) k_nil)))) (tells_by_ok m1 m3 (by omega))) ?_
      show some (tells V rule (x.1, x.2)) = some (tells V rule (x.1, (x.2.map wS).map unS))
      rw [unS_map]
  unfold f_book_by
  refine k_fn (w := wB (bookBy G V rule)) (M1 := M) rfl ?_ (fin_same (noRef_B _) rfl)
  exact s_seq (s_set (k_D (k_dBi (k_call (k_cons (k_var rfl) k_nil) t1) rfl (dict_V h.nd)))) (s_ret (k_bi (k_cons (k_L cmp) k_nil) rfl))
end Py

namespace Py.K16
open PySem L2 Py.Sh
def f__law_hand_right : Nat → Fn
  | 0 => fBad
  | d + 1 => fnOf 0 15 false (sSeq (sAsg (gT (gsC (gN 0) (gsC (gN 1) (gsC (gN 2) (gsC (gN 3) gs0))))) (eCall (f__law_trees d) aNil)) (sSeq (sSet 4 (eL (lDisp (aCons (eTup (aCons (eC (.int 0)) (aCons (eC (.int 1)) (aCons (eC (.int 1)) (aCons (eC (.int 0)) (aCons (eC (.int 0)) aNil)))))) (aCons (eTup (aCons (eC (.int 0)) (aCons (eC (.int 1)) (aCons (eC (.int 1)) (aCons (eC (.int 0)) (aCons (eC (.int 1)) aNil)))))) (aCons (eTup (aCons (eC (.int 0)) (aCons (eC (.int 0)) (aCons (eC (.int 0)) (aCons (eC (.int 0)) (aCons (eC (.int 0)) aNil)))))) (aCons (eTup (aCons (eC (.int 5)) (aCons (eC (.int 5)) (aCons (eC (.int 5)) (aCons (eC (.int 5)) (aCons (eC (.int 6)) aNil)))))) (aCons (eTup (aCons (eC (.int 0)) (aCons (eC (.int 1)) (aCons (eC (.int 2)) (aCons (eC (.int 3)) (aCons (eC (.int 4)) aNil)))))) aNil)))))))) (sSeq (sSet 5 (eL (lComp [13] (itS (eVar 4)) (gN 13) bYes (eTupZ (eC (.str [97, 98, 99, 100, 101])) (eVar 13))))) (sSeq (sSet 6 (eB (lComp [13] (itS (eVar 5)) (gN 13) bYes (eL (lComp [14] (itS (eTup (aCons (eC (.str [115, 111, 109, 101])) (aCons (eC (.str [101, 97, 99, 104])) (aCons (eC (.str [102, 105, 114, 115, 116])) aNil))))) (gN 14) bYes (eCall (f_book_by d) (aCons (eVar 0) (aCons (eVar 13) (aCons (eVar 14) aNil))))))))) (sSeq (sSet 7 (eB (lDisp (aCons (eL (lDisp (aCons (eTup (aCons (eC (.str [97])) (aCons (eC (.str [98])) (aCons (eC (.str [100])) (aCons (eC (.str [101])) aNil))))) (aCons (eTup (aCons (eC (.str [97])) (aCons (eC (.str [98])) (aCons (eC (.str [100])) aNil)))) (aCons (eTup (aCons (eC (.str [97])) (aCons (eC (.str [98])) (aCons (eC (.str [100])) (aCons (eC (.str [101])) aNil))))) aNil))))) aNil)))) (sSeq (sSet 7 (eB (lAdd (eVar 7) (eL (lDisp (aCons (eL (lDisp (aCons (eTup (aCons (eC (.str [97])) (aCons (eC (.str [98])) (aCons (eC (.str [100])) (aCons (eC (.str [101])) aNil))))) (aCons (eTup (aCons (eC (.str [97])) (aCons (eC (.str [98])) (aCons (eC (.str [100])) aNil)))) (aCons (eTup (aCons (eC (.str [97])) (aCons (eC (.str [98])) (aCons (eC (.str [100])) aNil)))) aNil))))) (aCons (eOp mulW (eL (lDisp (aCons (eTup (aCons (eC (.str [97])) aNil)) aNil))) (eC (.int 3))) aNil))))))) (sSeq (sSet 7 (eB (lAdd (eVar 7) (eL (lDisp (aCons (eOp mulW (eL (lDisp (aCons (eTup (aCons (eC (.str [97])) (aCons (eC (.str [101])) aNil))) aNil))) (eC (.int 3))) (aCons (eOp mulW (eL (lDisp (aCons (eBi (b1 tuplW) (aCons (eC (.str [97, 98, 99, 100, 101])) aNil)) aNil))) (eC (.int 3))) aNil))))))) (sSeq (sSet 8 (eTup (aCons (eTup (aCons (eC (.str [97])) (aCons (eC (.int 0)) aNil))) (aCons (eTup (aCons (eC (.str [98])) (aCons (eC (.int 1)) aNil))) (aCons (eTup (aCons (eC (.str [99])) (aCons (eC (.int 0)) aNil))) aNil))))) (sSeq (sSet 6 (eB (lAdd (eVar 6) (eL (lComp [13] (itS (eTup (aCons (eVar 2) (aCons (eVar 3) aNil)))) (gN 13) bYes (eL (lComp [14] (itS (eTup (aCons (eC (.str [115, 111, 109, 101])) (aCons (eC (.str [101, 97, 99, 104])) (aCons (eC (.str [102, 105, 114, 115, 116])) aNil))))) (gN 14) bYes (eCall (f_book_by d) (aCons (eVar 13) (aCons (eVar 8) (aCons (eVar 14) aNil))))))))))) (sSeq (sSet 7 (eB (lAdd (eVar 7) (eL (lDisp (aCons (eL (lDisp (aCons (eTup (aCons (eC (.str [97])) (aCons (eC (.str [98])) (aCons (eC (.str [99])) aNil)))) (aCons (eTup (aCons (eC (.str [97])) (aCons (eC (.str [98])) aNil))) (aCons (eTup (aCons (eC (.str [97])) (aCons (eC (.str [98])) (aCons (eC (.str [99])) aNil)))) aNil))))) (aCons (eL (lDisp (aCons (eTup (aCons (eC (.str [97])) (aCons (eC (.str [98])) (aCons (eC (.str [99])) aNil)))) (aCons (eTup (aCons (eC (.str [97])) (aCons (eC (.str [98])) aNil))) (aCons (eTup (aCons (eC (.str [97])) (aCons (eC (.str [98])) aNil))) aNil))))) aNil))))))) (sSeq (sSet 9 (eOp powW (eC (.int 10)) (eC (.int 40)))) (sSeq (sSet 6 (eB (lAdd (eVar 6) (eL (lDisp (aCons (eCall (f_book_by d) (aCons (eVar 1) (aCons (eTup (aCons (eTup (aCons (eC (.str [97])) (aCons (eVar 9) aNil))) (aCons (eTup (aCons (eC (.str [98])) (aCons (eUn negW (eVar 9)) aNil))) aNil))) (aCons (eC (.str [101, 97, 99, 104])) aNil)))) aNil)))))) (sSeq (sSet 6 (eB (lAdd (eVar 6) (eL (lDisp (aCons (eCall (f_book_by d) (aCons (eVar 1) (aCons (eTup (aCons (eTup (aCons (eC (.str [97])) (aCons (eVar 9) aNil))) (aCons (eTup (aCons (eC (.str [98])) (aCons (eVar 9) aNil))) aNil))) (aCons (eC (.str [102, 105, 114, 115, 116])) aNil)))) aNil)))))) (sSeq (sSet 7 (eB (lAdd (eVar 7) (eL (lDisp (aCons (eTup (aCons (eC (.str [97])) (aCons (eC (.str [98])) aNil))) (aCons (eTup (aCons (eC (.str [97])) aNil)) aNil))))))) (sSeq (sSet 4 (eOp addW (eL (lComp [13] (itS (eC (.str [97, 98, 99, 100]))) (gN 13) bYes (eTup (aCons (eVar 13) (aCons (eTup aNil) aNil))))) (eL (lComp [13] (itS (eC (.str [101, 102, 103, 104]))) (gN 13) bYes (eTup (aCons (eVar 13) (aCons (eTup (aCons (eC (.str [100])) (aCons (eC (.str [97])) (aCons (eC (.str [99])) (aCons (eC (.str [98])) aNil))))) aNil))))))) (sSeq (sSet 10 (eBi (b1 tuplW) (aCons (eOp addW (eVar 4) (eL (lDisp (aCons (eTup (aCons (eC (.str [105])) (aCons (eTup (aCons (eC (.str [104])) aNil)) aNil))) (aCons (eTup (aCons (eC (.str [106])) (aCons (eTup (aCons (eC (.str [105])) (aCons (eC (.str [97])) aNil))) aNil))) aNil))))) aNil))) (sSeq (sSet 11 (eTupZ (eC (.str [97, 98, 99, 100, 101, 102, 103, 104, 105, 106])) (eTup (aCons (eC (.int 1)) (aCons (eC (.int 1)) (aCons (eC (.int 1)) (aCons (eC (.int 0)) (aCons (eC (.int 0)) (aCons (eC (.int 1)) (aCons (eC (.int 2)) (aCons (eC (.int 1)) (aCons (eC (.int 1)) (aCons (eC (.int 0)) aNil))))))))))))) (sSeq (sEx (eApp (eVar 6) (eL (lComp [14] (itS (eTup (aCons (eC (.str [115, 111, 109, 101])) (aCons (eC (.str [101, 97, 99, 104])) (aCons (eC (.str [102, 105, 114, 115, 116])) aNil))))) (gN 14) bYes (eCall (f_book_by d) (aCons (eVar 10) (aCons (eVar 11) (aCons (eVar 14) aNil)))))))) (sSeq (sEx (eApp (eVar 7) (eL (lDisp (aCons (eBi (b1 tuplW) (aCons (eC (.str [97, 98, 99, 100, 101, 102, 103, 104, 106])) aNil)) (aCons (eBi (b1 tuplW) (aCons (eC (.str [97, 98, 99, 100, 103, 106])) aNil)) (aCons (eBi (b1 tuplW) (aCons (eC (.str [97, 98, 99, 100, 102, 103, 104, 106])) aNil)) aNil))))))) (sSeq (sSet 12 (eL (lDisp (aCons (eCall (f__law_lists d) (aCons (eVar 0) aNil)) (aCons (eCall (f__law_lists d) (aCons (eOp ixW (eVar 5) (eC (.int 0))) aNil)) aNil))))) (sSeq (sSet 6 (eB (lAdd (eVar 6) (eL (lDisp (aCons (eCallK (f_book_by d) 0 3 [2, 1, 0] aNil (aCons (eC (.str [115, 111, 109, 101])) (aCons (eOp ixW (eVar 12) (eC (.int 1))) (aCons (eOp ixW (eVar 12) (eC (.int 0))) aNil)))) (aCons (eVar 12) aNil))))))) (sSeq (sSet 6 (eB (lAdd (eVar 6) (eL (lDisp (aCons (eCall (f_book_by d) (aCons (eTup (aCons (eTup (aCons (eC (.str [97])) (aCons (eTup aNil) aNil))) (aCons (eL (lDisp (aCons (eC (.str [98])) (aCons (eL (lDisp (aCons (eC (.str [97])) aNil))) aNil)))) aNil))) (aCons (eTup (aCons (eL (lDisp (aCons (eC (.str [97])) (aCons (eC (.int 0)) aNil)))) (aCons (eTup (aCons (eC (.str [98])) (aCons (eC (.int 1)) aNil))) aNil))) (aCons (eC (.str [115, 111, 109, 101])) aNil)))) aNil)))))) (sSeq (sFrz 6) (sRet (eCall (f__law_same d) (aCons (eVar 6) (aCons (eOp addW (eVar 7) (eL (lDisp (aCons (eTup (aCons (eC (.str [97])) (aCons (eC (.str [98])) (aCons (eC (.str [100])) (aCons (eC (.str [101])) aNil))))) (aCons (eL (lDisp (aCons (eCall (f__law_lists d) (aCons (eVar 0) aNil)) (aCons (eCall (f__law_lists d) (aCons (eOp ixW (eVar 5) (eC (.int 0))) aNil)) aNil)))) (aCons (eTup (aCons (eC (.str [97])) (aCons (eC (.str [98])) aNil))) aNil)))))) aNil)))))))))))))))))))))))))))
theorem fn_len__law_hand_right : ∀ d, ∀ ws M, ws.length ≠ 0 → f__law_hand_right d ws M = .bad
  | 0 => fBad_len
  | d + 1 => fun ws M h => by unfold f__law_hand_right; exact fnOf_len ws M h

def f__law_by : Nat → Fn
  | 0 => fBad
  | d + 1 => fnOf 3 10 false (sSeq (sAsg (gT (gsC (gN 3) (gsC (gN 4) gs0))) (eTup (aCons (eD (dBi (eVar 1))) (aCons (eL (lDisp aNil)) aNil)))) (sSeq (sFor (itS (eVar 0)) (gT (gsC (gN 5) (gsC (gN 6) gs0))) (sSeq (sSet 7 (eL (lComp [9] (itS (eVar 6)) (gN 9) (bT (eOp neO (eOp ixW (eVar 3) (eVar 9)) (eOp ixW (eVar 3) (eVar 5)))) (eVar 9)))) (sSeq (sIf (bT (eOp eqO (eVar 2) (eC (.str [115, 111, 109, 101])))) (sSet 8 (eOr (eOp eqO (eVar 6) (eTup aNil)) (eOp neO (eVar 7) (eL (lDisp aNil))))) (sIf (bT (eOp eqO (eVar 2) (eC (.str [101, 97, 99, 104])))) (sSet 8 (eOp eqO (eBi (b1 lenW) (aCons (eVar 7) aNil)) (eBi (b1 lenW) (aCons (eVar 6) aNil)))) (sSet 8 (eOr (eOp eqO (eVar 6) (eTup aNil)) (eOp inW (eOp ixW (eVar 6) (eC (.int 0))) (eVar 7)))))) (sSet 4 (eOp addW (eVar 4) (eOp mulW (eL (lDisp (aCons (eVar 5) aNil))) (eBi (b1 intW) (aCons (eVar 8) aNil)))))))) (sRet (eBi (b1 tuplW) (aCons (eVar 4) aNil)))))
theorem fn_len__law_by : ∀ d, ∀ ws M, ws.length ≠ 3 → f__law_by d ws M = .bad
  | 0 => fBad_len
  | d + 1 => fun ws M h => by unfold f__law_by; exact fnOf_len ws M h

def f__law_case_right : Nat → Fn
  | 0 => fBad
  | d + 1 => fnOf 1 6 false (sSeq (sSet 1 (eCall (f__law_tree d) (aCons (eVar 0) (aCons (eC (.int 7)) (aCons (eC (.int 3)) aNil))))) (sSeq (sSet 2 (eCall (f__law_worth d) (aCons (eVar 0) (aCons (eVar 1) (aCons (eC (.int 3)) aNil))))) (sSeq (sFor (itS (eTup (aCons (eC (.str [101, 97, 99, 104])) (aCons (eC (.str [102, 105, 114, 115, 116])) (aCons (eC (.str [115, 111, 109, 101])) aNil))))) (gN 3) (sSeq (sSet 4 (eCall (f__law_by d) (aCons (eVar 1) (aCons (eVar 2) (aCons (eVar 3) aNil))))) (sSeq (sSet 5 (eL (lDisp (aCons (eCall (f_book_by d) (aCons (eVar 1) (aCons (eVar 2) (aCons (eVar 3) aNil)))) (aCons (eCall (f_book_by d) (aCons (eCall (f__law_lists d) (aCons (eVar 1) aNil)) (aCons (eCall (f__law_lists d) (aCons (eVar 2) aNil)) (aCons (eVar 3) aNil)))) aNil))))) (sIf (bNot (bT (eCall (f__law_same d) (aCons (eVar 5) (aCons (eL (lDisp (aCons (eVar 4) (aCons (eVar 4) aNil)))) aNil))))) (sRet (eC (.bl false))) sSkip)))) (sRet (eC (.bl true))))))
theorem fn_len__law_case_right : ∀ d, ∀ ws M, ws.length ≠ 1 → f__law_case_right d ws M = .bad
  | 0 => fBad_len
  | d + 1 => fun ws M h => by unfold f__law_case_right; exact fnOf_len ws M h

def f__law_right : Nat → Fn
  | 0 => fBad
  | d + 1 => fnOf 1 2 false (sRet (eBi (b1 allW) (aCons (eL (lComp [1] (itR1 (eC (.int 30))) (gN 1) bYes (eCall (f__law_case_right d) (aCons (eVar 0) aNil)))) aNil)))
theorem fn_len__law_right : ∀ d, ∀ ws M, ws.length ≠ 1 → f__law_right d ws M = .bad
  | 0 => fBad_len
  | d + 1 => fun ws M h => by unfold f__law_right; exact fnOf_len ws M h

def f__law_box : Nat → Fn
  | 0 => fBad
  | d + 1 => fnOf 2 3 true (sSeq (sSet 2 (eIf (bT (eOp ltW (eVar 1) (eBi (b1 lenW) (aCons (eVar 0) aNil)))) (eOp ixW (eVar 0) (eVar 1)) (eC (.int 0)))) (sRet (eB (lDisp (aCons (eOp mulW (eBi (b1 absW) (aCons (eVar 2) aNil)) (eBi (b1 intW) (aCons (eOp geW (eBi (b1 absW) (aCons (eVar 2) aNil)) (eOp powW (eC (.int 10)) (eC (.int 18)))) aNil))) (aCons (eOp addW (eOp addW (eOp modW (eBi (b1 intW) (aCons (eVar 2) aNil)) (eC (.int 2305843009213693951))) (eOp mulW (eC (.int 39373)) (eVar 1))) (eC (.int 1199))) (aCons (eC (.int 0)) aNil)))))))
theorem fn_len__law_box : ∀ d, ∀ ws M, ws.length ≠ 2 → f__law_box d ws M = .bad
  | 0 => fBad_len
  | d + 1 => fun ws M h => by unfold f__law_box; exact fnOf_len ws M h

def f_law : Nat → Fn
  | 0 => fBad
  | d + 1 => fnOf 1 3 false (sSeq (sIf (bNot (bT (eCall (f__law_hand_right d) aNil))) (sRet (eC (.bl false))) sSkip) (sSeq (sSet 1 (eCall (f__law_cells d) (aCons (eVar 0) (aCons (eC (.int 3)) aNil)))) (sRet (eBi (b1 allW) (aCons (eL (lComp [2] (itR1 (eBi (b1 lenW) (aCons (eVar 1) aNil))) (gN 2) bYes (eCall (f__law_right d) (aCons (eCall (f__law_box d) (aCons (eVar 1) (aCons (eVar 2) aNil))) aNil)))) aNil)))))
theorem fn_len_law : ∀ d, ∀ ws M, ws.length ≠ 1 → f_law d ws M = .bad
  | 0 => fBad_len
  | d + 1 => fun ws M h => by unfold f_law; exact fnOf_len ws M h
end Py.K16

namespace Py.K16
open Py Py.Sh
theorem eqT0 {k : Bool} (ps : List Nm) : eqO (.tup k (ps.map wS)) (.tup true []) = some (.bl ps.isEmpty) := by
  unfold eqO
  rw [show dat 60 (.tup k (ps.map wS)) = true from dat_S ps, show dat 60 (.tup true []) = true from rfl]
  cases ps <;> rfl
theorem neL0 (ps : List Nm) : neO (.lst (ps.map wS)) (.lst []) = some (.bl (!ps.isEmpty)) := by
  unfold neO
  rw [show dat 60 (.lst (ps.map wS)) = true from dat_S ps, show dat 60 (.lst []) = true from rfl]
  cases ps <;> rfl
theorem in_S {x : Nm} {l : List Nm} : inW (wS x) (.lst (l.map wS)) = some (.bl (l.any fun y => y == x)) := by
  unfold inW inB
  have : (l.map wS).all flat = true := List.all_eq_true.mpr fun w hw => by obtain ⟨y, _, rfl⟩ := List.mem_map.mp hw; rfl
  simp only [this, show flat (wS x) = true from rfl, Bool.and_self, if_true, Option.map_some, List.any_map]
  rfl
theorem any_filter {p : Nm → Bool} {q : Nm} {qs : List Nm} : (((q :: qs).filter p).any fun y => y == q) = p q := by
  by_cases h : p q = true
  · rw [h]
    exact List.any_eq_true.mpr ⟨q, List.mem_filter.mpr ⟨List.mem_cons_self, h⟩, by simp⟩
  · have h : p q = false := by simpa using h
    rw [h, Bool.eq_false_iff]
    intro z
    obtain ⟨y, hy, e⟩ := List.any_eq_true.mp z
    rw [beq_iff_eq] at e
    subst e
    rw [(List.mem_filter.mp hy).2] at h
    cases h
theorem len_filter {p : Nm → Bool} (l : List Nm) : ((l.filter p).length == l.length) = l.all p := by
  by_cases h : l.all p = true
  · rw [h, List.filter_eq_self.mpr (List.all_eq_true.mp h), beq_self_eq_true]
  · have h' : l.all p = false := by simpa using h
    rw [h', beq_eq_false_iff_ne]
    intro e
    apply h
    exact List.all_eq_true.mpr (List.filter_eq_self.mp (List.filter_sublist.eq_of_length e))
theorem empty_filter {p : Nm → Bool} (l : List Nm) : (!(l.filter p).isEmpty) = l.any p := by
  induction l with
  | nil => rfl
  | cons x xs ih =>
    rw [List.filter_cons, List.any_cons]
    split
    · rename_i h; rw [h]; rfl
    · rename_i h; rw [ih]; simp [h]
abbrev Rule (w : Nm) : Prop := w = rEach ∨ w = rFirst ∨ w = rSome
def isSo (V : Vl) (rule : Nm) (x : Nm × List Nm) : Bool := if rule = rSome then x.2.isEmpty || !(x.2.filter (unl V x.1)).isEmpty else if rule = rEach then (x.2.filter (unl V x.1)).length == x.2.length else match x.2 with
  | [] => true
  | q :: _ => (x.2.filter (unl V x.1)).any fun y => y == q
theorem isSo_tells {V : Vl} {rule : Nm} (hr : Rule rule) (x : Nm × List Nm) : isSo V rule x = tells V rule x := by
  obtain ⟨n, ps⟩ := x
  unfold isSo tells
  rcases hr with rfl | rfl | rfl
  · rw [if_neg (by decide), if_pos rfl]
    cases ps with
    | nil => rfl
    | cons q qs => simp only [if_neg (show rEach ≠ rFirst by decide)]; exact len_filter _
  · rw [if_neg (by decide), if_neg (by decide)]
    cases ps with
    | nil => rfl
    | cons q qs => exact any_filter
  · rw [if_pos rfl]
    cases ps with
    | nil => rfl
    | cons q qs => simp only [if_neg (show rSome ≠ rFirst by decide), if_neg (show rSome ≠ rEach by decide)]; exact empty_filter _
theorem addL {a b : List W} (h : a.length + b.length ≤ line) : addW (.lst a) (.lst b) = some (.lst (a ++ b)) := by simp [addW, h]
theorem bool_mul {k : Bool} {w : W} : mulW (.lst [w]) (.int (if k then 1 else 0)) = some (.lst (if k then [w] else [])) := by cases k <;> rfl
theorem by_ok {d : Nat} {M : MH} {G : Gr} {V : Vl} {rule : Nm} (h : GV G V) (hr : Rule rule) : f__law_by (d + 1) [wG G, wV V, wS rule] M = .ok (wB (bookBy G V rule)) M := by
  have key : ∃ r2 M2, loopS (gT (gsC (gN 5) (gsC (gN 6) gs0))) (sSeq (sSet 7 (eL (lComp [9] (itS (eVar 6)) (gN 9) (bT (eOp neO (eOp ixW (eVar 3) (eVar 9)) (eOp ixW (eVar 3) (eVar 5)))) (eVar 9)))) (sSeq (sIf (bT (eOp eqO (eVar 2) (eC (.str [115, 111, 109, 101])))) (sSet 8 (eOr (eOp eqO (eVar 6) (eTup aNil)) (eOp neO (eVar 7) (eL (lDisp aNil))))) (sIf (bT (eOp eqO (eVar 2) (eC (.str [101, 97, 99, 104])))) (sSet 8 (eOp eqO (eBi (b1 lenW) (aCons (eVar 7) aNil)) (eBi (b1 lenW) (aCons (eVar 6) aNil)))) (sSet 8 (eOr (eOp eqO (eVar 6) (eTup aNil)) (eOp inW (eOp ixW (eVar 6) (eC (.int 0))) (eVar 7)))))) (sSet 4 (eOp addW (eVar 4) (eOp mulW (eL (lDisp (aCons (eVar 5) aNil))) (eBi (b1 intW) (aCons (eVar 8) aNil))))))) (G.map wRow) [some (wG G), some (wV V), some (wS rule), some (.dct (vK V) (vV V)), some (.lst []), none, none, none, none, none] M = .nx r2 M2 ∧
      ∃ v5 v6 v7 v8 : Option W, r2 = [some (wG G), some (wV V), some (wS rule), some (.dct (vK V) (vV V)), some (.lst ((bookBy (G.take (0 + (G.map wRow).length)) V rule).map wS)), v5, v6, v7, v8, none] ∧ M2 = M := by
    refine loop_inv (fun k r2 M2 => ∃ v5 v6 v7 v8 : Option W, r2 = [some (wG G), some (wV V), some (wS rule), some (.dct (vK V) (vV V)), some (.lst ((bookBy (G.take k) V rule).map wS)), v5, v6, v7, v8, none] ∧ M2 = M) (k := 0) ⟨none, none, none, none, rfl, rfl⟩ ?_
    rintro j w hj r2 M2 ⟨v5, v6, v7, v8, rfl, rfl⟩
    rw [List.getElem?_map] at hj
    cases qj : G[j]? with
    | none => rw [qj] at hj; cases hj
    | some x =>
      rw [qj] at hj
      cases hj
      obtain ⟨m1, m2, m3⟩ := h.mem x (List.mem_of_getElem? qj)
      let B := (bookBy (G.take (0 + j)) V rule).map wS
      let F := x.2.filter (unl V x.1)
      have cmp : lComp [9] (itS (eVar 6)) (gN 9) (bT (eOp neO (eOp ixW (eVar 3) (eVar 9)) (eOp ixW (eVar 3) (eVar 5)))) (eVar 9) [some (wG G), some (wV V), some (wS rule), some (.dct (vK V) (vV V)), some (.lst B), some (wS x.1), some (.tup true (x.2.map wS)), v7, v8, none] M2 = .ok (F.map wS) M2 := by
        rw [k_comp (fun w => unl V x.1 (unS w)) (fun w => w) (k_it (k_var rfl) rfl) (fun w hw => ?_) (by rw [List.length_map]; unfold line; omega)]
        · rw [List.map_id', List.filter_map]; rfl
        · obtain ⟨p, hp, rfl⟩ := List.mem_map.mp hw
          exact ⟨[some (wG G), some (wV V), some (wS rule), some (.dct (vK V) (vV V)), some (.lst B), some (wS x.1), some (.tup true (x.2.map wS)), v7, v8, some (wS p)], rfl, k_T (k_op (k_op (k_var rfl) (k_var rfl) (ix_V (m3 p hp))) (k_op (k_var rfl) (k_var rfl) (ix_V m1)) (neI _ _)) rfl, fun _ => k_var rfl⟩
      have is : sIf (bT (eOp eqO (eVar 2) (eC (.str [115, 111, 109, 101])))) (sSet 8 (eOr (eOp eqO (eVar 6) (eTup aNil)) (eOp neO (eVar 7) (eL (lDisp aNil))))) (sIf (bT (eOp eqO (eVar 2) (eC (.str [101, 97, 99, 104])))) (sSet 8 (eOp eqO (eBi (b1 lenW) (aCons (eVar 7) aNil)) (eBi (b1 lenW) (aCons (eVar 6) aNil)))) (sSet 8 (eOr (eOp eqO (eVar 6) (eTup aNil)) (eOp inW (eOp ixW (eVar 6) (eC (.int 0))) (eVar 7))))) [some (wG G), some (wV V), some (wS rule), some (.dct (vK V) (vV V)), some (.lst B), some (wS x.1), some (.tup true (x.2.map wS)), some (.lst (F.map wS)), v8, none] M2 =
          .nx [some (wG G), some (wV V), some (wS rule), some (.dct (vK V) (vV V)), some (.lst B), some (wS x.1), some (.tup true (x.2.map wS)), some (.lst (F.map wS)), some (.bl (tells V rule x)), none] M2 := by
        rw [← isSo_tells hr]
        unfold isSo
        rcases hr with rfl | rfl | rfl
        · refine s_if_f (M1 := M2) rfl (s_if_t (M1 := M2) rfl (s_set (w := .bl (F.length == x.2.length)) (k_op (k_bi (k_cons (k_var rfl) k_nil) rfl) (k_bi (k_cons (k_var rfl) k_nil) rfl) ?_)))
          show eqO (.int ((F.map wS).length : Int)) (.int ((x.2.map wS).length : Int)) = _
          rw [eqI, List.length_map, List.length_map]
          congr 2
          rw [Bool.eq_iff_iff, beq_iff_eq, beq_iff_eq]
          omega
        · rw [if_neg (by decide), if_neg (by decide)]
          refine s_if_f (M1 := M2) rfl (s_if_f (M1 := M2) rfl (s_set (w := .bl (match x.2 with | [] => true | q :: _ => F.any fun y => y == q)) ?_))
          cases hx : x.2 with
          | nil => exact k_or_t (x := .bl true) (k_op (k_var rfl) (k_tup k_nil (by decide)) (eqT0 [])) rfl
          | cons q qs =>
            refine k_or_f (x := .bl false) (k_op (k_var rfl) (k_tup k_nil (by decide)) (eqT0 (q :: qs))) rfl (k_op (k_op (k_var rfl) k_c at_0) (k_var rfl) in_S)
        · rw [if_pos rfl]
          refine s_if_t (M1 := M2) rfl (s_set (w := .bl (x.2.isEmpty || !F.isEmpty)) ?_)
          exact k_orB (k_op (k_var rfl) (k_tup k_nil (by decide)) (eqT0 _)) (k_op (k_var rfl) (k_L (k_disp k_nil (by decide))) (neL0 _))
      refine ⟨_, [some (wG G), some (wV V), some (wS rule), some (.dct (vK V) (vV V)), some (.lst ((bookBy (G.take (0 + j + 1)) V rule).map wS)), some (wS x.1), some (.tup true (x.2.map wS)), some (.lst (F.map wS)), some (.bl (tells V rule x)), none], M2, rfl, s_seq (s_set (k_L cmp)) (s_seq is (s_set (k_op (k_var rfl) (k_op (k_L (k_disp (k_cons (k_var rfl) k_nil) (show 1 ≤ line by decide))) (k_bi (k_cons (k_var rfl) k_nil) rfl) bool_mul) ?_))), ⟨_, _, _, _, rfl, rfl⟩⟩
      show addW (.lst B) (.lst (if tells V rule x then [wS x.1] else [])) = _
      have hBl : B.length ≤ 1000 := by
        show ((((G.take (0 + j)).filter (tells V rule)).map (·.1)).map wS).length ≤ 1000
        rw [List.length_map, List.length_map]
        have := List.length_filter_le (tells V rule) (G.take (0 + j))
        rw [List.length_take] at this
        have := h.gl
        omega
      rw [addL (by split <;> simp [line] <;> omega)]
      congr 2
      unfold bookBy
      rw [Nat.zero_add, List.take_succ, qj, List.filter_append, List.map_append, List.map_append]
      congr 1
      · show ((bookBy (G.take (0 + j)) V rule).map wS) = _
        rw [Nat.zero_add]; rfl
      · simp only [Option.toList, List.filter_cons, List.filter_nil]
        split <;> rfl
  obtain ⟨r2, M2, e, v5, v6, v7, v8, rfl, rfl⟩ := key
  rw [List.length_map, Nat.zero_add, List.take_length] at e
  unfold f__law_by
  refine k_fn (w := wB (bookBy G V rule)) (M1 := M2) rfl ?_ (fin_same (noRef_B _) rfl)
  refine s_seq (s_asg (k_tup (k_cons (k_D (k_dBi (k_var rfl) rfl (dict_V h.nd))) (k_cons (k_L (k_disp k_nil (by decide))) k_nil)) (show 2 ≤ line by decide)) rfl) (s_seq (s_for (k_it (k_var rfl) rfl) e) (s_ret (k_bi (k_cons (k_var rfl) k_nil) rfl)))
theorem Fine.gv {many heads : Nat} {G : Gr} {V : Vl} (h : Fine many heads G) (hm : many ≤ 100) (hh : heads ≤ 100) (hV : V.map (·.1) = G.map (·.1)) : GV G V := by
  obtain ⟨m, T, h1, h2, h3, h4, h5⟩ := h.ex
  have hl : G.length = m := by have := congrArg List.length h3; simpa [nmz] using this
  refine ⟨by rw [hV, h3]; exact nmz_nodup m, by omega, by have := congrArg List.length hV; rw [List.length_map, List.length_map] at this; omega, fun x hx => ?_⟩
  obtain ⟨i, a, b, zs, c⟩ := h5 x hx
  refine ⟨by rw [hV]; exact List.mem_map.mpr ⟨x, hx, rfl⟩, by omega, fun p hp => ?_⟩
  rw [hV, h3]
  exact h4.mem_iff.mp (List.mem_of_mem_take (c.mem_iff.mp (List.mem_append_left _ hp)))
theorem case_ok {d n c : Nat} {M : MH} {x : Cell} (hx : M[n]? = some x) (hc : TinC c x) (hb : c + 2000 < far) : ∃ y, f__law_case_right (d + 6) [.ref n] M = .ok (.bl true) (M.set n y) ∧ TinC (c + 2000) y := by
  have hnl := lt_of hx
  obtain ⟨G, y1, e1, hF, ht1⟩ := tree_fine (d := d + 2) (many := 7) (heads := 3) hx hc (by decide) (by decide) (by decide) (by decide) (by omega)
  obtain ⟨m, T, q1, q2, q3, q4, q5⟩ := hF.ex
  have hl : G.length = m := by have := congrArg List.length q3; simpa [nmz] using this
  have q2 : m ≤ 7 := q2
  obtain ⟨V, y2, e2, hV, hv, ht2⟩ := worth_ok (d := d + 3) (most := 3) (M := M.set n y1) (G := G) (set_at hnl) ht1 (by omega) (by decide) (by decide) (by omega)
  rw [List.set_set] at e2
  have h : GV G V := Fine.gv hF (by decide) (by decide) hV
  refine ⟨y2, ?_, ht2.mono (by omega)⟩
  let r0 : Sl := [some (.ref n), some (wG G), some (wV V)]
  have body : ∀ (rule : Nm) (v3 v4 v5 : Option W), Rule rule → ∃ v4' v5' : Option W, sSeq (sSet 4 (eCall (f__law_by (d + 5)) (aCons (eVar 1) (aCons (eVar 2) (aCons (eVar 3) aNil))))) (sSeq (sSet 5 (eL (lDisp (aCons (eCall (f_book_by (d + 5)) (aCons (eVar 1) (aCons (eVar 2) (aCons (eVar 3) aNil)))) (aCons (eCall (f_book_by (d + 5)) (aCons (eCall (f__law_lists (d + 5)) (aCons (eVar 1) aNil)) (aCons (eCall (f__law_lists (d + 5)) (aCons (eVar 2) aNil)) (aCons (eVar 3) aNil)))) aNil))))) (sIf (bNot (bT (eCall (f__law_same (d + 5)) (aCons (eVar 5) (aCons (eL (lDisp (aCons (eVar 4) (aCons (eVar 4) aNil)))) aNil))))) (sRet (eC (.bl false))) sSkip)) [some (.ref n), some (wG G), some (wV V), some (wS rule), v4, v5] (M.set n y2) = .nx [some (.ref n), some (wG G), some (wV V), some (wS rule), v4', v5'] (M.set n y2) := by
    intro rule v3 v4 v5 hr
    have b1 : f__law_by (d + 5) [wG G, wV V, wS rule] (M.set n y2) = .ok (wB (bookBy G V rule)) (M.set n y2) := by_ok h hr
    have b2 : f_book_by (d + 5) [wG G, wV V, wS rule] (M.set n y2) = .ok (wB (bookBy G V rule)) (M.set n y2) := book_by_ok h (tupd_G G) (tupd_V V) h.okG h.okV
    have b3 : f_book_by (d + 5) [lstd (wG G), lstd (wV V), wS rule] (M.set n y2) = .ok (wB (bookBy G V rule)) (M.set n y2) := book_by_ok h (by rw [tupd_lstd, tupd_G]) (by rw [tupd_lstd, tupd_V]) (okd_lstd 3 _ h.okG) (okd_lstd 3 _ h.okV)
    have l1 : f__law_lists (d + 5) [wG G] (M.set n y2) = .ok (lstd (wG G)) (M.set n y2) := lists_ok 3 (d := d + 1) _ h.okG
    have l2 : f__law_lists (d + 5) [wV V] (M.set n y2) = .ok (lstd (wV V)) (M.set n y2) := lists_ok 3 (d := d + 1) _ h.okV
    have hB : okd 1 (wB (bookBy G V rule)) = true := by
      show (decide (((bookBy G V rule).map wS).length ≤ 10000) && ((bookBy G V rule).map wS).all (okd 0)) = true
      have : (bookBy G V rule).length ≤ 1000 := by
        unfold bookBy
        rw [List.length_map]
        have := List.length_filter_le (tells V rule) G
        have := h.gl
        omega
      rw [List.length_map, decide_eq_true (by omega), List.all_eq_true.mpr fun w hw => by obtain ⟨y, _, rfl⟩ := List.mem_map.mp hw; rfl]
      rfl
    have sm : f__law_same (d + 5) [.lst [wB (bookBy G V rule), wB (bookBy G V rule)], .lst [wB (bookBy G V rule), wB (bookBy G V rule)]] (M.set n y2) = .ok (.bl true) (M.set n y2) := same_refl (n := 2) (d := d + 2) (by
      show (decide (2 ≤ 10000) && (okd 1 (wB (bookBy G V rule)) && (okd 1 (wB (bookBy G V rule)) && true))) = true
      rw [hB]; rfl)
    exact ⟨_, _, s_seq (s_set (k_call (k_cons (k_var rfl) (k_cons (k_var rfl) (k_cons (k_var rfl) k_nil))) b1)) (s_seq (s_set (k_L (k_disp (k_cons (k_call (k_cons (k_var rfl) (k_cons (k_var rfl) (k_cons (k_var rfl) k_nil))) b2) (k_cons (k_call (k_cons (k_call (k_cons (k_var rfl) k_nil) l1) (k_cons (k_call (k_cons (k_var rfl) k_nil) l2) (k_cons (k_var rfl) k_nil))) b3) k_nil)) (show 2 ≤ line by decide)))) (s_if_f (M1 := M.set n y2) (k_bNot (k := true) (k_T (k_call (k_cons (k_var rfl) (k_cons (k_L (k_disp (k_cons (k_var rfl) (k_cons (k_var rfl) k_nil)) (show 2 ≤ line by decide))) k_nil)) sm) rfl)) s_skip))⟩
  obtain ⟨a4, a5, w1⟩ := body rEach none none none (.inl rfl)
  obtain ⟨b4, b5, w2⟩ := body rFirst (some (wS rEach)) a4 a5 (.inr (.inl rfl))
  obtain ⟨c4, c5, w3⟩ := body rSome (some (wS rFirst)) b4 b5 (.inr (.inr rfl))
  unfold f__law_case_right
  refine k_fn (w := .bl true) (M1 := M.set n y2) rfl ?_ (fin_same rfl (by simp))
  refine s_seq (s_set (k_call (k_cons (k_var rfl) (k_cons k_c (k_cons k_c k_nil))) e1)) (s_seq (s_set (k_call (k_cons (k_var rfl) (k_cons (k_var rfl) (k_cons k_c k_nil))) e2)) (s_seq (r1 := [some (.ref n), some (wG G), some (wV V), some (wS rSome), c4, c5]) (M1 := M.set n y2) (s_for (ws := [wS rEach, wS rFirst, wS rSome]) (M1 := M.set n y2) (k_it (k_tup (k_cons k_c (k_cons k_c (k_cons k_c k_nil))) (show 3 ≤ line by decide)) rfl) ?_) (s_ret k_c)))
  exact loop_cons rfl w1 (loop_cons rfl w2 (loop_cons rfl w3 loop_nil))
theorem right_ok {d n c : Nat} {M : MH} {x : Cell} (hx : M[n]? = some x) (hc : TinC c x) (hb : c + 60000 < far) : ∃ y, f__law_right (d + 7) [.ref n] M = .ok (.bl true) (M.set n y) := by
  obtain ⟨y, e, _⟩ := rounds_ok (own := 1) (f := f__law_case_right (d + 6)) (r := [some (.ref n), none]) (K := 30) (step := 2000) hx hc (by decide) (fun w => rfl) (fun k M x hk hx hc => case_ok hx hc (by omega))
  refine ⟨y, ?_⟩
  unfold f__law_right
  exact k_fn (w := .bl true) (M1 := M.set n y) rfl (s_ret e) (fin_same rfl (by simp))
theorem box_ok {d k : Nat} {zs : List Int} {M : MH} (hk : k < zs.length) (hl : zs.length ≤ 10) : ∃ x, f__law_box (d + 1) [.lst (zs.map wI), .int (k : Int)] M = .ok (.ref M.length) (M ++ [x]) ∧ TinC 0 x := by
  have e1 : eIf (bT (eOp ltW (eVar 1) (eBi (b1 lenW) (aCons (eVar 0) aNil)))) (eOp ixW (eVar 0) (eVar 1)) (eC (.int 0)) [some (.lst (zs.map wI)), some (.int (k : Int)), none] M = .ok (.int zs[k]) M := by
    refine k_if_t (M1 := M) (k_T (x := .bl true) (k_op (k_var rfl) (k_bi (k_cons (k_var rfl) k_nil) rfl) ?_) rfl) (k_op (k_var rfl) (k_var rfl) ?_)
    · show some (W.bl (decide ((k : Int) < ((zs.map wI).length : Int)))) = _
      rw [List.length_map, decide_eq_true (by omega)]
    · show atW (zs.map wI) (k : Int) = _
      unfold atW
      rw [ixN_lt (by omega) (by rw [List.length_map]; omega), Int.toNat_natCast]
      show (zs.map wI)[k]? = _
      rw [List.getElem?_map, List.getElem?_eq_getElem hk]; rfl
  let v := zs[k]
  have ab : absW (.int v) = some (.int (if v < 0 then -v else v)) := rfl
  have hb : ∀ t : Bool, -big < (if t then 1 else 0 : Int) ∧ (if t then 1 else 0 : Int) < big := fun t => by cases t <;> decide
  obtain ⟨a, b, e2⟩ : ∃ a b : Int, (lDisp (aCons (eOp mulW (eBi (b1 absW) (aCons (eVar 2) aNil)) (eBi (b1 intW) (aCons (eOp geW (eBi (b1 absW) (aCons (eVar 2) aNil)) (eOp powW (eC (.int 10)) (eC (.int 18)))) aNil))) (aCons (eOp addW (eOp addW (eOp modW (eBi (b1 intW) (aCons (eVar 2) aNil)) (eC (.int 2305843009213693951))) (eOp mulW (eC (.int 39373)) (eVar 1))) (eC (.int 1199))) (aCons (eC (.int 0)) aNil)))) [some (.lst (zs.map wI)), some (.int (k : Int)), some (.int zs[k])] M = .ok [.int a, .int b, .int 0] M :=
    ⟨_, _, k_disp (k_cons (k_op (k_bi (k_cons (k_var rfl) k_nil) ab) (k_bi (k_cons (k_op (k_bi (k_cons (k_var rfl) k_nil) ab) (k_op k_c k_c rfl) rfl) k_nil) rfl) (l_mul (mulC_r (hb _).1 (hb _).2))) (k_cons (k_op (k_op (k_op (k_bi (k_cons (k_var rfl) k_nil) rfl) k_c (l_mod (by decide))) (k_op k_c (k_var rfl) (l_mul (mulC_l (by decide) (by decide)))) l_add) k_c (by exact l_add)) (k_cons k_c k_nil))) (show 3 ≤ line by decide)⟩
  refine ⟨.lst [.int a, .int b, .int 0], ?_, ⟨a, b, 0, rfl, Int.le_refl _, Int.le_refl _⟩⟩
  unfold f__law_box
  refine k_fn (M1 := M ++ [Cell.lst [.int a, .int b, .int 0]]) rfl (s_seq (s_set e1) (s_ret (k_B e2 rfl))) ?_
  rw [fin_keep (Nat.le_refl _) (at0 rfl), List.take_left]
theorem hand_ok : f__law_hand_right 7 [] [] = .ok (.bl true) [] := by kernel_rfl
theorem law_true : ∀ ns : List Int, ns.length ≤ 63 → f_law 8 [.fz ns] [] = .ok (.bl true) [] := by
  intro ns hl
  obtain ⟨zs, e, z1, z2⟩ := cells_ok (d := 6) (most := 3) (M := []) (by decide) (by decide) hl
  have z2 : zs.length ≤ 3 := z2
  obtain ⟨ys, M', e2, _, ha⟩ := k_compI (own := [2]) (it := itR1 (eBi (b1 lenW) (aCons (eVar 1) aNil))) (t := gN 2) (e := eCall (f__law_right 7) (aCons (eCall (f__law_box 7) (aCons (eVar 1) (aCons (eVar 2) aNil))) aNil)) (r := [some (.fz ns), some (.lst (zs.map wI)), none]) (M := []) (M1 := []) (ws := rngW 0 zs.length)
    (fun _ _ => True) (fun _ y => y = W.bl true) (by
      have := k_r1 (m := eBi (b1 lenW) (aCons (eVar 1) aNil)) (r := [some (.fz ns), some (.lst (zs.map wI)), none]) (M := []) (j := (zs.length : Int)) (M1 := []) (k_bi (k_cons (k_var rfl) k_nil) (by show some (W.int ((zs.map wI).length : Int)) = _; rw [List.length_map])) (by simp only [i62, Bool.and_eq_true, decide_eq_true_eq]; omega)
      rwa [Int.toNat_natCast] at this) trivial (fun w hw k M2 hk _ => by
      obtain ⟨j, hj⟩ := List.mem_iff_getElem?.mp hw
      obtain ⟨rfl, hjl⟩ := rng_get hj
      obtain ⟨x, b1, b2⟩ := box_ok (d := 6) (k := j) (zs := zs) (M := M2) hjl (by omega)
      obtain ⟨y, c1⟩ := right_ok (d := 0) (n := M2.length) (c := 0) (M := M2 ++ [x]) (at0 rfl) b2 (by unfold far; omega)
      exact ⟨[some (.fz ns), some (.lst (zs.map wI)), some (.int (0 + (j : Int)))], .bl true, _, rfl, k_call (k_cons (k_call (k_cons (k_var rfl) (k_cons (k_var rfl) k_nil)) (by rw [Int.zero_add]; exact b1)) k_nil) c1, trivial, rfl⟩) (by rw [rng_len]; unfold line; omega)
  unfold f_law
  refine k_fn (w := .bl true) (M1 := M') rfl (s_seq (s_if_f (M1 := []) (k_bNot (k := true) (k_T (k_call k_nil hand_ok) rfl)) s_skip) (s_seq (s_set (k_call (k_cons (k_var rfl) (k_cons k_c k_nil)) e)) (s_ret (k_bi (k_cons (k_L e2) k_nil) (all_bl fun y hy => ?_))))) ?_
  · obtain ⟨_, _, q⟩ := All2.right ha y hy
    exact q
  · rw [fin_v rfl]; rfl
end Py.K16

namespace Py.K16
open PySem PySem.Spec PyProof.Rows L2 Py.Sh
def topS (i : Nat) : Stmt := PySem.Challenge.pw_lasttellers_k16_who_tells_by_a_rule.main.body.getD i (.Pass ⟨0, 0, 0, 0⟩)
abbrev s__law_cells : Stmt := topS 8
theorem sc__law_cells : FnScope ["_law_script", "_law_most", "_law_cells_here", "_law_k", "_law_great_so", "_law_at_so"] ["_law_script", "_law_most"] (defScope s__law_cells) := ⟨rfl, rfl, rfl, by decide +kernel, rfl, by decide +kernel, by decide +kernel⟩
abbrev s__law_trees : Stmt := topS 14
theorem sc__law_trees : FnScope ["_law_meet", "_law_skip"] [] (defScope s__law_trees) := ⟨rfl, rfl, rfl, by decide +kernel, rfl, by decide +kernel, by decide +kernel⟩
abbrev s__law_same : Stmt := topS 11
theorem sc__law_same : FnScope ["_law_got", "_law_due", "_law_mine", "_law_its", "_law_lot_so"] ["_law_got", "_law_due"] (defScope s__law_same) := ⟨rfl, rfl, rfl, by decide +kernel, rfl, by decide +kernel, by decide +kernel⟩
abbrev s__law_lists : Stmt := topS 10
theorem sc__law_lists : FnScope ["_law_matter", "_law_bit"] ["_law_matter"] (defScope s__law_lists) := ⟨rfl, rfl, rfl, by decide +kernel, rfl, by decide +kernel, by decide +kernel⟩
abbrev s_tupled : Stmt := topS 1
theorem sc_tupled : FnScope ["thing", "part"] ["thing"] (defScope s_tupled) := ⟨rfl, rfl, rfl, by decide +kernel, rfl, by decide +kernel, by decide +kernel⟩
abbrev s_tells_by : Stmt := topS 3
theorem sc_tells_by : FnScope ["table", "name", "parents", "rule", "unlike", "own"] ["table", "name", "parents", "rule"] (defScope s_tells_by) := ⟨rfl, rfl, rfl, by decide +kernel, rfl, by decide +kernel, by decide +kernel⟩
abbrev s_book_by : Stmt := topS 4
theorem sc_book_by : FnScope ["graph", "values", "rule", "table", "name", "parents"] ["graph", "values", "rule"] (defScope s_book_by) := ⟨rfl, rfl, rfl, by decide +kernel, rfl, by decide +kernel, by decide +kernel⟩
abbrev s__law_hand_right : Stmt := topS 16
theorem sc__law_hand_right : FnScope ["_law_meet", "_law_line", "_law_skip", "_law_turned", "_law_rows_so", "_law_values_so", "_law_got", "_law_due", "_law_worth_here", "_law_far", "_law_ten", "_law_many", "_law_soft", "_law_own", "_law_word"] [] (defScope s__law_hand_right) := ⟨rfl, rfl, rfl, by decide +kernel, rfl, by decide +kernel, by decide +kernel⟩
abbrev s__law_take : Stmt := topS 7
theorem sc__law_take : FnScope ["_law_tin", "_law_top_so", "_law_digit_so", "_law_once", "_law_far", "_law_twice"] ["_law_tin", "_law_top_so"] (defScope s__law_take) := ⟨rfl, rfl, rfl, by decide +kernel, rfl, by decide +kernel, by decide +kernel⟩
abbrev s__law_pick : Stmt := topS 9
theorem sc__law_pick : FnScope ["_law_tin", "_law_pool", "_law_size_so", "_law_rest", "_law_some", "_law_turn"] ["_law_tin", "_law_pool", "_law_size_so"] (defScope s__law_pick) := ⟨rfl, rfl, rfl, by decide +kernel, rfl, by decide +kernel, by decide +kernel⟩
abbrev s__law_tree : Stmt := topS 12
theorem sc__law_tree : FnScope ["_law_tin", "_law_many", "_law_heads", "_law_steps", "_law_turn_so", "_law_rows_so", "_law_k", "_law_step", "_law_top", "_law_wide", "_law_letter"] ["_law_tin", "_law_many", "_law_heads"] (defScope s__law_tree) := ⟨rfl, rfl, rfl, by decide +kernel, rfl, by decide +kernel, by decide +kernel⟩
abbrev s__law_worth : Stmt := topS 13
theorem sc__law_worth : FnScope ["_law_tin", "_law_tree_so", "_law_most", "_law_step", "_law_heads"] ["_law_tin", "_law_tree_so", "_law_most"] (defScope s__law_worth) := ⟨rfl, rfl, rfl, by decide +kernel, rfl, by decide +kernel, by decide +kernel⟩
abbrev s__law_by : Stmt := topS 15
theorem sc__law_by : FnScope ["_law_tree_so", "_law_worth_here", "_law_word", "_law_table", "_law_found", "_law_step", "_law_heads", "_law_unlike", "_law_is_so", "_law_own"] ["_law_tree_so", "_law_worth_here", "_law_word"] (defScope s__law_by) := ⟨rfl, rfl, rfl, by decide +kernel, rfl, by decide +kernel, by decide +kernel⟩
abbrev s__law_case_right : Stmt := topS 17
theorem sc__law_case_right : FnScope ["_law_tin", "_law_tree_so", "_law_worth_here", "_law_word", "_law_due", "_law_got"] ["_law_tin"] (defScope s__law_case_right) := ⟨rfl, rfl, rfl, by decide +kernel, rfl, by decide +kernel, by decide +kernel⟩
abbrev s__law_right : Stmt := topS 18
theorem sc__law_right : FnScope ["_law_tin", "_law_turn"] ["_law_tin"] (defScope s__law_right) := ⟨rfl, rfl, rfl, by decide +kernel, rfl, by decide +kernel, by decide +kernel⟩
abbrev s__law_box : Stmt := topS 6
theorem sc__law_box : FnScope ["_law_script", "_law_k", "_law_great_so"] ["_law_script", "_law_k"] (defScope s__law_box) := ⟨rfl, rfl, rfl, by decide +kernel, rfl, by decide +kernel, by decide +kernel⟩
abbrev s_law : Stmt := topS 19
theorem sc_law : FnScope ["_law_script", "_law_cells_here", "_law_k"] ["_law_script"] (defScope s_law) := ⟨rfl, rfl, rfl, by decide +kernel, rfl, by decide +kernel, by decide +kernel⟩
structure LawC (K : PySem.W.Frag) (mg : Str → Option Value) where
  d__law_cells : DfA K mg "_law_cells" s__law_cells ["_law_script", "_law_most"]
  d__law_trees : DfA K mg "_law_trees" s__law_trees []
  d__law_same : DfA K mg "_law_same" s__law_same ["_law_got", "_law_due"]
  d__law_lists : DfA K mg "_law_lists" s__law_lists ["_law_matter"]
  d_tupled : DfA K mg "tupled" s_tupled ["thing"]
  d_tells_by : DfA K mg "tells_by" s_tells_by ["table", "name", "parents", "rule"]
  d_book_by : DfA K mg "book_by" s_book_by ["graph", "values", "rule"]
  d__law_hand_right : DfA K mg "_law_hand_right" s__law_hand_right []
  d__law_take : DfA K mg "_law_take" s__law_take ["_law_tin", "_law_top_so"]
  d__law_pick : DfA K mg "_law_pick" s__law_pick ["_law_tin", "_law_pool", "_law_size_so"]
  d__law_tree : DfA K mg "_law_tree" s__law_tree ["_law_tin", "_law_many", "_law_heads"]
  d__law_worth : DfA K mg "_law_worth" s__law_worth ["_law_tin", "_law_tree_so", "_law_most"]
  d__law_by : DfA K mg "_law_by" s__law_by ["_law_tree_so", "_law_worth_here", "_law_word"]
  d__law_case_right : DfA K mg "_law_case_right" s__law_case_right ["_law_tin"]
  d__law_right : DfA K mg "_law_right" s__law_right ["_law_tin"]
  d__law_box : DfA K mg "_law_box" s__law_box ["_law_script", "_law_k"]
  d_law : DfA K mg "law" s_law ["_law_script"]
  m_abs : mg "abs" = none
  m_all : mg "all" = none
  m_any : mg "any" = none
  m_bool : mg "bool" = none
  m_dict : mg "dict" = none
  m_enumerate : mg "enumerate" = none
  m_int : mg "int" = none
  m_isinstance : mg "isinstance" = none
  m_len : mg "len" = none
  m_list : mg "list" = none
  m_min : mg "min" = none
  m_range : mg "range" = none
  m_sorted : mg "sorted" = none
  m_str : mg "str" = none
  m_tuple : mg "tuple" = none
  m_zip : mg "zip" = none
theorem kb_book_by_0_rule_values_graph {K : PySem.W.Frag} {mg : Str → Option Value} (L : LawC K mg) : KBn K L.d_book_by.fd ["graph", "values", "rule"] 0 ["rule", "values", "graph"] (fun us ws => perm [2, 1, 0] (us ++ ws)) (fun vs zs => perm [2, 1, 0] (vs ++ zs)) :=
  FnP.kb L.d_book_by.F fun _ _ _ _ _ _ us ws h1 h2 => match us, ws, h1, h2 with | [], [_, _, _], _, _ => rfl

theorem ok__law_cells {P : Program} {w : World} {K : PySem.W.Frag} {mg : Str → Option Value} {base : Heap} (L : LawC K mg) : OkF P w K mg base L.d__law_cells f__law_cells
  | 0 => fn_bad
  | d + 1 => fn_okD (keep := false) L.d__law_cells.F sc__law_cells fun cdv A outer s H E hr =>
    (ss_cons (set_ 2 (sc__law_cells).nd (sd_or (sd_B (sl_list L.m_list (sd_slice (v_ 0) so_none (so_some (v_ 1))))) (sd_or1 (sd_B (sl_lst (sa_cons sd_int sa_nil))))))
    (ss_cons (ss_for PassesOwn.never rfl (enu L.m_enumerate (sd_slice (v_ 0) (so_some (v_ 1)) (so_some sd_int))) (gt2 rfl (g_ 3 (sc__law_cells).nd) (g_ 4 (sc__law_cells).nd)) (ss_cons (set_ 5 (sc__law_cells).nd (sd_mod (sd_intc L.m_int (v_ 3)) (v_ 1)))
    (ss_one (sub_ hr (sd_add (sd_ix (un1 hr) (v_ 2) (v_ 5)) (sd_mul (v_ 4) (sd_add (v_ 3) sd_int))) (v_ 2) (v_ 5)))))
    (ss_one (ss_ret (v_ 2)))))

theorem ok__law_trees {P : Program} {w : World} {K : PySem.W.Frag} {mg : Str → Option Value} {base : Heap} (L : LawC K mg) : OkF P w K mg base L.d__law_trees f__law_trees
  | 0 => fn_bad
  | d + 1 => fn_okD (keep := false) L.d__law_trees.F sc__law_trees fun cdv A outer s H E hr =>
    (ss_cons (set_ 0 (sc__law_trees).nd (sd_tup (sa_cons (sd_tup (sa_cons (sd_str (l := [97])) (sa_cons (sd_tup sa_nil) sa_nil))) (sa_cons (sd_tup (sa_cons (sd_str (l := [98])) (sa_cons (sd_tup (sa_cons (sd_str (l := [97])) sa_nil)) sa_nil))) (sa_cons (sd_tup (sa_cons (sd_str (l := [99])) (sa_cons (sd_tup (sa_cons (sd_str (l := [98])) sa_nil)) sa_nil))) (sa_cons (sd_tup (sa_cons (sd_str (l := [100])) (sa_cons (sd_tup (sa_cons (sd_str (l := [98])) sa_nil)) sa_nil))) (sa_cons (sd_tup (sa_cons (sd_str (l := [101])) (sa_cons (sd_tup (sa_cons (sd_str (l := [99])) (sa_cons (sd_str (l := [100])) sa_nil))) sa_nil))) sa_nil)))))))
    (ss_cons (set_ 1 (sc__law_trees).nd (sd_tup (sa_cons (sd_tup (sa_cons (sd_str (l := [97])) (sa_cons (sd_tup sa_nil) sa_nil))) (sa_cons (sd_tup (sa_cons (sd_str (l := [98])) (sa_cons (sd_tup (sa_cons (sd_str (l := [97])) sa_nil)) sa_nil))) (sa_cons (sd_tup (sa_cons (sd_str (l := [99])) (sa_cons (sd_tup (sa_cons (sd_str (l := [98])) (sa_cons (sd_str (l := [97])) sa_nil))) sa_nil))) sa_nil)))))
    (ss_one (ss_ret (sd_tup (sa_cons (v_ 0) (sa_cons (sd_tup (sa_cons (sd_tup (sa_cons (sd_str (l := [97])) (sa_cons (sd_tup sa_nil) sa_nil))) (sa_cons (sd_tup (sa_cons (sd_str (l := [98])) (sa_cons (sd_tup (sa_cons (sd_str (l := [97])) sa_nil)) sa_nil))) sa_nil))) (sa_cons (v_ 1) (sa_cons (sd_add (sd_slice (v_ 1) so_none (so_some sd_int)) (sd_tup (sa_cons (sd_tup (sa_cons (sd_str (l := [99])) (sa_cons (sd_tup (sa_cons (sd_str (l := [97])) (sa_cons (sd_str (l := [98])) sa_nil))) sa_nil))) sa_nil))) sa_nil)))))))))

theorem ok__law_same {P : Program} {w : World} {K : PySem.W.Frag} {mg : Str → Option Value} {base : Heap} (L : LawC K mg) : OkF P w K mg base L.d__law_same f__law_same
  | 0 => fn_bad
  | d + 1 => fn_okD (keep := false) L.d__law_same.F sc__law_same fun cdv A outer s H E hr =>
    (ss_cons (ss_if (st_truth (sd_isT (ts := [.lst, .tup]) L.m_isinstance (v_ 1) (pty_cons (ty_ (T := .lst) L.m_list (by decide +kernel)) (pty_cons (ty_ (T := .tup) L.m_tuple (by decide +kernel)) pty_nil)))) (ss_cons (ss_if (PW.pt (sw_or (st_ne hr (sd_is1 L.m_isinstance (v_ 0) (ty_ (T := .lst) L.m_list (by decide +kernel))) (sd_is1 L.m_isinstance (v_ 1) (ty_ (T := .lst) L.m_list (by decide +kernel)))) (sw_or1 (st_ne hr (sd_is1 L.m_isinstance (v_ 0) (ty_ (T := .tup) L.m_tuple (by decide +kernel))) (sd_is1 L.m_isinstance (v_ 1) (ty_ (T := .tup) L.m_tuple (by decide +kernel))))))) (ss_one (ss_ret sd_bl)) ss_nil)
    (ss_one (ss_ret (sd_and (sd_eq hr (sd_len L.m_len (v_ 0)) (sd_len L.m_len (v_ 1))) (sd_and1 (sd_all rfl L.m_all (sd_L (sl_comp (own := [("_law_mine", 2), ("_law_its", 3)]) rfl (sc__law_same).nd (zp L.m_zip (v_ 0) (v_ 1)) (blkOk_by (by kernel_rfl)) (fun _ _ _ _ _ => sg_weak (gt2 rfl (g_ 2 (sc__law_same).nd) (g_ 3 (sc__law_same).nd))) (fun _ _ _ _ _ => sts_nil) (fun _ _ _ _ _ => (c_ L.d__law_same (ok__law_same L d) (fn_len__law_same d) hr (sa_cons (v_ 2) (sa_cons (v_ 3) sa_nil)))))))))))) ss_nil)
    (ss_cons (ss_if (st_truth (sd_is1 L.m_isinstance (v_ 1) (ty_ (T := .dct) L.m_dict (by decide +kernel)))) (ss_cons (ss_if (PW.pt (sw_or (st_not (st_truth (sd_is1 L.m_isinstance (v_ 0) (ty_ (T := .dct) L.m_dict (by decide +kernel))))) (sw_or1 (st_ne hr (sd_L (sl_sorted hr L.m_sorted (v_ 0))) (sd_L (sl_sorted hr L.m_sorted (v_ 1))))))) (ss_one (ss_ret sd_bl)) ss_nil)
    (ss_one (ss_ret (sd_all rfl L.m_all (sd_L (sl_comp (own := [("_law_lot_so", 4)]) rfl (sc__law_same).nd (si_seq (v_ 1)) (blkOk_by (by kernel_rfl)) (fun _ _ _ _ _ => sg_weak (g_ 4 (sc__law_same).nd)) (fun _ _ _ _ _ => sts_nil) (fun _ _ _ _ _ => (c_ L.d__law_same (ok__law_same L d) (fn_len__law_same d) hr (sa_cons (sd_ix (un1 hr) (v_ 0) (v_ 4)) (sa_cons (sd_ix (un1 hr) (v_ 1) (v_ 4)) sa_nil)))))))))) ss_nil)
    (ss_cons (ss_if (PW.pt (sw_or (st_is (v_ 1) sd_non) (sw_or1 (st_truth (sd_isT (ts := [.bl, .str]) L.m_isinstance (v_ 1) (pty_cons (ty_ (T := .bl) L.m_bool (by decide +kernel)) (pty_cons (ty_ (T := .str) L.m_str (by decide +kernel)) pty_nil))))))) (ss_one (ss_ret (sd_and (sd_eq hr (v_ 0) (v_ 1)) (sd_and (sd_eq hr (sd_is1 L.m_isinstance (v_ 0) (ty_ (T := .bl) L.m_bool (by decide +kernel))) (sd_is1 L.m_isinstance (v_ 1) (ty_ (T := .bl) L.m_bool (by decide +kernel)))) (sd_and1 (sd_eq hr (sd_is (v_ 0) sd_non) (sd_is (v_ 1) sd_non))))))) ss_nil)
    (ss_one (ss_ret (sd_and (sd_is1 L.m_isinstance (v_ 0) (ty_ (T := .int) L.m_int (by decide +kernel))) (sd_and (sd_not (sd_is1 L.m_isinstance (v_ 0) (ty_ (T := .bl) L.m_bool (by decide +kernel)))) (sd_and1 (sd_eq hr (v_ 0) (v_ 1))))))))))

theorem ok__law_lists {P : Program} {w : World} {K : PySem.W.Frag} {mg : Str → Option Value} {base : Heap} (L : LawC K mg) : OkF P w K mg base L.d__law_lists f__law_lists
  | 0 => fn_bad
  | d + 1 => fn_okD (keep := false) L.d__law_lists.F sc__law_lists fun cdv A outer s H E hr =>
    (ss_one (ss_ret (sd_if (st_truth (sd_isT (ts := [.lst, .tup]) L.m_isinstance (v_ 0) (pty_cons (ty_ (T := .lst) L.m_list (by decide +kernel)) (pty_cons (ty_ (T := .tup) L.m_tuple (by decide +kernel)) pty_nil)))) (sd_L (sl_comp (own := [("_law_bit", 1)]) rfl (sc__law_lists).nd (si_seq (v_ 0)) (blkOk_by (by kernel_rfl)) (fun _ _ _ _ _ => sg_weak (g_ 1 (sc__law_lists).nd)) (fun _ _ _ _ _ => sts_nil) (fun _ _ _ _ _ => (c_ L.d__law_lists (ok__law_lists L d) (fn_len__law_lists d) hr (sa_cons (v_ 1) sa_nil))))) (v_ 0))))

theorem ok_tupled {P : Program} {w : World} {K : PySem.W.Frag} {mg : Str → Option Value} {base : Heap} (L : LawC K mg) : OkF P w K mg base L.d_tupled f_tupled
  | 0 => fn_bad
  | d + 1 => fn_okD (keep := false) L.d_tupled.F sc_tupled fun cdv A outer s H E hr =>
    (ss_one (ss_ret (sd_if (st_truth (sd_isT (ts := [.lst, .tup]) L.m_isinstance (v_ 0) (pty_cons (ty_ (T := .lst) L.m_list (by decide +kernel)) (pty_cons (ty_ (T := .tup) L.m_tuple (by decide +kernel)) pty_nil)))) (sd_tuple rfl L.m_tuple (sd_L (sl_comp (own := [("part", 1)]) rfl (sc_tupled).nd (si_seq (v_ 0)) (blkOk_by (by kernel_rfl)) (fun _ _ _ _ _ => sg_weak (g_ 1 (sc_tupled).nd)) (fun _ _ _ _ _ => sts_nil) (fun _ _ _ _ _ => (c_ L.d_tupled (ok_tupled L d) (fn_len_tupled d) hr (sa_cons (v_ 1) sa_nil)))))) (v_ 0))))

theorem ok_tells_by {P : Program} {w : World} {K : PySem.W.Frag} {mg : Str → Option Value} {base : Heap} (L : LawC K mg) : OkF P w K mg base L.d_tells_by f_tells_by
  | 0 => fn_bad
  | d + 1 => fn_okD (keep := false) L.d_tells_by.F sc_tells_by fun cdv A outer s H E hr =>
    (ss_cons (ss_if (st_eq hr (sd_len L.m_len (v_ 2)) sd_int) (ss_one (ss_ret sd_bl)) ss_nil)
    (ss_cons (PSL (ss_setLc (i := 4) (own := [("own", 5)]) rfl (sc_tells_by).nd rfl rfl (sw_true rfl rfl rfl (by decide +kernel)) (si_seq (v_ 2)) (blkOk_by (by kernel_rfl)) (fun _ _ _ _ _ => sg_weak (g_ 5 (sc_tells_by).nd)) (fun _ _ _ _ _ => sts_nil) (fun _ _ _ _ _ => (sd_ne hr (sd_ix (un1 hr) (v_ 0) (v_ 5)) (sd_ix (un1 hr) (v_ 0) (v_ 1))))))
    (ss_cons (ss_if (st_eq hr (v_ 3) (sd_str (l := [102, 105, 114, 115, 116]))) (ss_one (ss_ret (sd_ix (un1 hr) (v_ 4) sd_int))) ss_nil)
    (ss_one (ss_ret (sd_if (st_eq hr (v_ 3) (sd_str (l := [101, 97, 99, 104]))) (sd_all rfl L.m_all (v_ 4)) (sd_any rfl L.m_any (v_ 4))))))))

theorem ok_book_by {P : Program} {w : World} {K : PySem.W.Frag} {mg : Str → Option Value} {base : Heap} (L : LawC K mg) : OkF P w K mg base L.d_book_by f_book_by
  | 0 => fn_bad
  | d + 1 => fn_okD (keep := false) L.d_book_by.F sc_book_by fun cdv A outer s H E hr =>
    (ss_cons (set_ 3 (sc_book_by).nd (sd_D (sD_dictc rfl L.m_dict (c_ L.d_tupled (ok_tupled L d) (fn_len_tupled d) hr (sa_cons (v_ 1) sa_nil)))))
    (ss_one (ss_ret (sd_tuple rfl L.m_tuple (sd_L (sl_comp (own := [("name", 4), ("parents", 5)]) rfl (sc_book_by).nd (si_seq (c_ L.d_tupled (ok_tupled L d) (fn_len_tupled d) hr (sa_cons (v_ 0) sa_nil))) (blkOk_by (by kernel_rfl)) (fun _ _ _ _ _ => sg_weak (gt2 rfl (g_ 4 (sc_book_by).nd) (g_ 5 (sc_book_by).nd))) (fun _ _ _ _ _ => (sts_one (st_truth (c_ L.d_tells_by (ok_tells_by L d) (fn_len_tells_by d) hr (sa_cons (v_ 3) (sa_cons (v_ 4) (sa_cons (v_ 5) (sa_cons (v_ 2) sa_nil)))))))) (fun _ _ _ _ _ => (v_ 4))))))))

theorem ok__law_hand_right {P : Program} {w : World} {K : PySem.W.Frag} {mg : Str → Option Value} {base : Heap} (L : LawC K mg) : OkF P w K mg base L.d__law_hand_right f__law_hand_right
  | 0 => fn_bad
  | d + 1 => fn_okD (keep := false) L.d__law_hand_right.F sc__law_hand_right fun cdv A outer s H E hr =>
    (ss_cons (ss_asg (c0_ L.d__law_trees (ok__law_trees L d) (fn_len__law_trees d) hr) (sg_tup rfl (sgs_cons (g_ 0 (sc__law_hand_right).nd) (sgs_cons (g_ 1 (sc__law_hand_right).nd) (sgs_cons (g_ 2 (sc__law_hand_right).nd) (sgs_cons (g_ 3 (sc__law_hand_right).nd) sgs_nil)))) (gsC_len (gsC_len (gsC_len (gsC_len (fun _ _ _ _ => gs0_len)))))))
    (ss_cons (set_ 4 (sc__law_hand_right).nd (sd_L (sl_lst (sa_cons (sd_tup (sa_cons sd_int (sa_cons sd_int (sa_cons sd_int (sa_cons sd_int (sa_cons sd_int sa_nil)))))) (sa_cons (sd_tup (sa_cons sd_int (sa_cons sd_int (sa_cons sd_int (sa_cons sd_int (sa_cons sd_int sa_nil)))))) (sa_cons (sd_tup (sa_cons sd_int (sa_cons sd_int (sa_cons sd_int (sa_cons sd_int (sa_cons sd_int sa_nil)))))) (sa_cons (sd_tup (sa_cons sd_int (sa_cons sd_int (sa_cons sd_int (sa_cons sd_int (sa_cons sd_int sa_nil)))))) (sa_cons (sd_tup (sa_cons sd_int (sa_cons sd_int (sa_cons sd_int (sa_cons sd_int (sa_cons sd_int sa_nil)))))) sa_nil))))))))
    (ss_cons (PSL (ss_setLc (i := 5) (own := [("_law_own", 13)]) rfl (sc__law_hand_right).nd rfl rfl (sw_true rfl rfl rfl (by decide +kernel)) (si_seq (v_ 4)) (blkOk_by (by kernel_rfl)) (fun _ _ _ _ _ => sg_weak (g_ 13 (sc__law_hand_right).nd)) (fun _ _ _ _ _ => sts_nil) (fun _ _ _ _ _ => (sd_tupZ rfl L.m_tuple L.m_zip (sd_str (l := [97, 98, 99, 100, 101])) (v_ 13)))))
    (ss_cons (PSB (ss_setLc (i := 6) (own := [("_law_own", 13)]) rfl (sc__law_hand_right).nd rfl rfl (sw_true rfl rfl rfl (by decide +kernel)) (si_seq (v_ 5)) (blkOk_by (by kernel_rfl)) (fun _ _ _ _ _ => sg_weak (g_ 13 (sc__law_hand_right).nd)) (fun _ _ _ _ _ => sts_nil) (fun _ _ _ _ _ => (sd_L (sl_comp (own := [("_law_word", 14)]) rfl (sc__law_hand_right).nd (si_seq (sd_tup (sa_cons (sd_str (l := [115, 111, 109, 101])) (sa_cons (sd_str (l := [101, 97, 99, 104])) (sa_cons (sd_str (l := [102, 105, 114, 115, 116])) sa_nil))))) (blkOk_by (by kernel_rfl)) (fun _ _ _ _ _ => sg_weak (g_ 14 (sc__law_hand_right).nd)) (fun _ _ _ _ _ => sts_nil) (fun _ _ _ _ _ => (c_ L.d_book_by (ok_book_by L d) (fn_len_book_by d) hr (sa_cons (v_ 0) (sa_cons (v_ 13) (sa_cons (v_ 14) sa_nil))))))))))
    (ss_cons (set_ 7 (sc__law_hand_right).nd (sd_B (sl_lst (sa_cons (sd_L (sl_lst (sa_cons (sd_tup (sa_cons (sd_str (l := [97])) (sa_cons (sd_str (l := [98])) (sa_cons (sd_str (l := [100])) (sa_cons (sd_str (l := [101])) sa_nil))))) (sa_cons (sd_tup (sa_cons (sd_str (l := [97])) (sa_cons (sd_str (l := [98])) (sa_cons (sd_str (l := [100])) sa_nil)))) (sa_cons (sd_tup (sa_cons (sd_str (l := [97])) (sa_cons (sd_str (l := [98])) (sa_cons (sd_str (l := [100])) (sa_cons (sd_str (l := [101])) sa_nil))))) sa_nil))))) sa_nil))))
    (ss_cons (set_ 7 (sc__law_hand_right).nd (sd_B (sl_add (v_ 7) (sd_L (sl_lst (sa_cons (sd_L (sl_lst (sa_cons (sd_tup (sa_cons (sd_str (l := [97])) (sa_cons (sd_str (l := [98])) (sa_cons (sd_str (l := [100])) (sa_cons (sd_str (l := [101])) sa_nil))))) (sa_cons (sd_tup (sa_cons (sd_str (l := [97])) (sa_cons (sd_str (l := [98])) (sa_cons (sd_str (l := [100])) sa_nil)))) (sa_cons (sd_tup (sa_cons (sd_str (l := [97])) (sa_cons (sd_str (l := [98])) (sa_cons (sd_str (l := [100])) sa_nil)))) sa_nil))))) (sa_cons (sd_mul (sd_L (sl_lst (sa_cons (sd_tup (sa_cons (sd_str (l := [97])) sa_nil)) sa_nil))) sd_int) sa_nil)))))))
    (ss_cons (set_ 7 (sc__law_hand_right).nd (sd_B (sl_add (v_ 7) (sd_L (sl_lst (sa_cons (sd_mul (sd_L (sl_lst (sa_cons (sd_tup (sa_cons (sd_str (l := [97])) (sa_cons (sd_str (l := [101])) sa_nil))) sa_nil))) sd_int) (sa_cons (sd_mul (sd_L (sl_lst (sa_cons (sd_tuple rfl L.m_tuple (sd_str (l := [97, 98, 99, 100, 101]))) sa_nil))) sd_int) sa_nil)))))))
    (ss_cons (set_ 8 (sc__law_hand_right).nd (sd_tup (sa_cons (sd_tup (sa_cons (sd_str (l := [97])) (sa_cons sd_int sa_nil))) (sa_cons (sd_tup (sa_cons (sd_str (l := [98])) (sa_cons sd_int sa_nil))) (sa_cons (sd_tup (sa_cons (sd_str (l := [99])) (sa_cons sd_int sa_nil))) sa_nil)))))
    (ss_cons (set_ 6 (sc__law_hand_right).nd (sd_B (sl_add (v_ 6) (sd_L (sl_comp (own := [("_law_own", 13)]) rfl (sc__law_hand_right).nd (si_seq (sd_tup (sa_cons (v_ 2) (sa_cons (v_ 3) sa_nil)))) (blkOk_by (by kernel_rfl)) (fun _ _ _ _ _ => sg_weak (g_ 13 (sc__law_hand_right).nd)) (fun _ _ _ _ _ => sts_nil) (fun _ _ _ _ _ => (sd_L (sl_comp (own := [("_law_word", 14)]) rfl (sc__law_hand_right).nd (si_seq (sd_tup (sa_cons (sd_str (l := [115, 111, 109, 101])) (sa_cons (sd_str (l := [101, 97, 99, 104])) (sa_cons (sd_str (l := [102, 105, 114, 115, 116])) sa_nil))))) (blkOk_by (by kernel_rfl)) (fun _ _ _ _ _ => sg_weak (g_ 14 (sc__law_hand_right).nd)) (fun _ _ _ _ _ => sts_nil) (fun _ _ _ _ _ => (c_ L.d_book_by (ok_book_by L d) (fn_len_book_by d) hr (sa_cons (v_ 13) (sa_cons (v_ 8) (sa_cons (v_ 14) sa_nil)))))))))))))
    (ss_cons (set_ 7 (sc__law_hand_right).nd (sd_B (sl_add (v_ 7) (sd_L (sl_lst (sa_cons (sd_L (sl_lst (sa_cons (sd_tup (sa_cons (sd_str (l := [97])) (sa_cons (sd_str (l := [98])) (sa_cons (sd_str (l := [99])) sa_nil)))) (sa_cons (sd_tup (sa_cons (sd_str (l := [97])) (sa_cons (sd_str (l := [98])) sa_nil))) (sa_cons (sd_tup (sa_cons (sd_str (l := [97])) (sa_cons (sd_str (l := [98])) (sa_cons (sd_str (l := [99])) sa_nil)))) sa_nil))))) (sa_cons (sd_L (sl_lst (sa_cons (sd_tup (sa_cons (sd_str (l := [97])) (sa_cons (sd_str (l := [98])) (sa_cons (sd_str (l := [99])) sa_nil)))) (sa_cons (sd_tup (sa_cons (sd_str (l := [97])) (sa_cons (sd_str (l := [98])) sa_nil))) (sa_cons (sd_tup (sa_cons (sd_str (l := [97])) (sa_cons (sd_str (l := [98])) sa_nil))) sa_nil))))) sa_nil)))))))
    (ss_cons (set_ 9 (sc__law_hand_right).nd (sd_pow sd_int sd_int))
    (ss_cons (set_ 6 (sc__law_hand_right).nd (sd_B (sl_add (v_ 6) (sd_L (sl_lst (sa_cons (c_ L.d_book_by (ok_book_by L d) (fn_len_book_by d) hr (sa_cons (v_ 1) (sa_cons (sd_tup (sa_cons (sd_tup (sa_cons (sd_str (l := [97])) (sa_cons (v_ 9) sa_nil))) (sa_cons (sd_tup (sa_cons (sd_str (l := [98])) (sa_cons (sd_neg (v_ 9)) sa_nil))) sa_nil))) (sa_cons (sd_str (l := [101, 97, 99, 104])) sa_nil)))) sa_nil))))))
    (ss_cons (set_ 6 (sc__law_hand_right).nd (sd_B (sl_add (v_ 6) (sd_L (sl_lst (sa_cons (c_ L.d_book_by (ok_book_by L d) (fn_len_book_by d) hr (sa_cons (v_ 1) (sa_cons (sd_tup (sa_cons (sd_tup (sa_cons (sd_str (l := [97])) (sa_cons (v_ 9) sa_nil))) (sa_cons (sd_tup (sa_cons (sd_str (l := [98])) (sa_cons (v_ 9) sa_nil))) sa_nil))) (sa_cons (sd_str (l := [102, 105, 114, 115, 116])) sa_nil)))) sa_nil))))))
    (ss_cons (set_ 7 (sc__law_hand_right).nd (sd_B (sl_add (v_ 7) (sd_L (sl_lst (sa_cons (sd_tup (sa_cons (sd_str (l := [97])) (sa_cons (sd_str (l := [98])) sa_nil))) (sa_cons (sd_tup (sa_cons (sd_str (l := [97])) sa_nil)) sa_nil)))))))
    (ss_cons (set_ 4 (sc__law_hand_right).nd (sd_add (sd_L (sl_comp (own := [("_law_own", 13)]) rfl (sc__law_hand_right).nd (si_seq (sd_str (l := [97, 98, 99, 100]))) (blkOk_by (by kernel_rfl)) (fun _ _ _ _ _ => sg_weak (g_ 13 (sc__law_hand_right).nd)) (fun _ _ _ _ _ => sts_nil) (fun _ _ _ _ _ => (sd_tup (sa_cons (v_ 13) (sa_cons (sd_tup sa_nil) sa_nil)))))) (sd_L (sl_comp (own := [("_law_own", 13)]) rfl (sc__law_hand_right).nd (si_seq (sd_str (l := [101, 102, 103, 104]))) (blkOk_by (by kernel_rfl)) (fun _ _ _ _ _ => sg_weak (g_ 13 (sc__law_hand_right).nd)) (fun _ _ _ _ _ => sts_nil) (fun _ _ _ _ _ => (sd_tup (sa_cons (v_ 13) (sa_cons (sd_tup (sa_cons (sd_str (l := [100])) (sa_cons (sd_str (l := [97])) (sa_cons (sd_str (l := [99])) (sa_cons (sd_str (l := [98])) sa_nil))))) sa_nil))))))))
    (ss_cons (set_ 10 (sc__law_hand_right).nd (sd_tuple rfl L.m_tuple (sd_add (v_ 4) (sd_L (sl_lst (sa_cons (sd_tup (sa_cons (sd_str (l := [105])) (sa_cons (sd_tup (sa_cons (sd_str (l := [104])) sa_nil)) sa_nil))) (sa_cons (sd_tup (sa_cons (sd_str (l := [106])) (sa_cons (sd_tup (sa_cons (sd_str (l := [105])) (sa_cons (sd_str (l := [97])) sa_nil))) sa_nil))) sa_nil)))))))
    (ss_cons (set_ 11 (sc__law_hand_right).nd (sd_tupZ rfl L.m_tuple L.m_zip (sd_str (l := [97, 98, 99, 100, 101, 102, 103, 104, 105, 106])) (sd_tup (sa_cons sd_int (sa_cons sd_int (sa_cons sd_int (sa_cons sd_int (sa_cons sd_int (sa_cons sd_int (sa_cons sd_int (sa_cons sd_int (sa_cons sd_int (sa_cons sd_int sa_nil)))))))))))))
    (ss_cons (ss_ex (sd_app (v_ 6) (sd_L (sl_comp (own := [("_law_word", 14)]) rfl (sc__law_hand_right).nd (si_seq (sd_tup (sa_cons (sd_str (l := [115, 111, 109, 101])) (sa_cons (sd_str (l := [101, 97, 99, 104])) (sa_cons (sd_str (l := [102, 105, 114, 115, 116])) sa_nil))))) (blkOk_by (by kernel_rfl)) (fun _ _ _ _ _ => sg_weak (g_ 14 (sc__law_hand_right).nd)) (fun _ _ _ _ _ => sts_nil) (fun _ _ _ _ _ => (c_ L.d_book_by (ok_book_by L d) (fn_len_book_by d) hr (sa_cons (v_ 10) (sa_cons (v_ 11) (sa_cons (v_ 14) sa_nil)))))))))
    (ss_cons (ss_ex (sd_app (v_ 7) (sd_L (sl_lst (sa_cons (sd_tuple rfl L.m_tuple (sd_str (l := [97, 98, 99, 100, 101, 102, 103, 104, 106]))) (sa_cons (sd_tuple rfl L.m_tuple (sd_str (l := [97, 98, 99, 100, 103, 106]))) (sa_cons (sd_tuple rfl L.m_tuple (sd_str (l := [97, 98, 99, 100, 102, 103, 104, 106]))) sa_nil)))))))
    (ss_cons (set_ 12 (sc__law_hand_right).nd (sd_L (sl_lst (sa_cons (c_ L.d__law_lists (ok__law_lists L d) (fn_len__law_lists d) hr (sa_cons (v_ 0) sa_nil)) (sa_cons (c_ L.d__law_lists (ok__law_lists L d) (fn_len__law_lists d) hr (sa_cons (sd_ix (un1 hr) (v_ 5) sd_int) sa_nil)) sa_nil)))))
    (ss_cons (set_ 6 (sc__law_hand_right).nd (sd_B (sl_add (v_ 6) (sd_L (sl_lst (sa_cons (ck0_ (ks := ["rule", "values", "graph"]) [2, 1, 0] L.d_book_by (ok_book_by L d) (fn_len_book_by d) hr (kb_book_by_0_rule_values_graph L) (sk_cons (sd_str (l := [115, 111, 109, 101])) (sk_cons (sd_ix (un1 hr) (v_ 12) sd_int) (sk_cons (sd_ix (un1 hr) (v_ 12) sd_int) sk_nil)))) (sa_cons (v_ 12) sa_nil)))))))
    (ss_cons (set_ 6 (sc__law_hand_right).nd (sd_B (sl_add (v_ 6) (sd_L (sl_lst (sa_cons (c_ L.d_book_by (ok_book_by L d) (fn_len_book_by d) hr (sa_cons (sd_tup (sa_cons (sd_tup (sa_cons (sd_str (l := [97])) (sa_cons (sd_tup sa_nil) sa_nil))) (sa_cons (sd_L (sl_lst (sa_cons (sd_str (l := [98])) (sa_cons (sd_L (sl_lst (sa_cons (sd_str (l := [97])) sa_nil))) sa_nil)))) sa_nil))) (sa_cons (sd_tup (sa_cons (sd_L (sl_lst (sa_cons (sd_str (l := [97])) (sa_cons sd_int sa_nil)))) (sa_cons (sd_tup (sa_cons (sd_str (l := [98])) (sa_cons sd_int sa_nil))) sa_nil))) (sa_cons (sd_str (l := [115, 111, 109, 101])) sa_nil)))) sa_nil))))))
    (ss_one (ss_frz (i := 6) (ss_ret (c_ L.d__law_same (ok__law_same L d) (fn_len__law_same d) hr (sa_cons (v_ 6) (sa_cons (sd_add (v_ 7) (sd_L (sl_lst (sa_cons (sd_tup (sa_cons (sd_str (l := [97])) (sa_cons (sd_str (l := [98])) (sa_cons (sd_str (l := [100])) (sa_cons (sd_str (l := [101])) sa_nil))))) (sa_cons (sd_L (sl_lst (sa_cons (c_ L.d__law_lists (ok__law_lists L d) (fn_len__law_lists d) hr (sa_cons (v_ 0) sa_nil)) (sa_cons (c_ L.d__law_lists (ok__law_lists L d) (fn_len__law_lists d) hr (sa_cons (sd_ix (un1 hr) (v_ 5) sd_int) sa_nil)) sa_nil)))) (sa_cons (sd_tup (sa_cons (sd_str (l := [97])) (sa_cons (sd_str (l := [98])) sa_nil))) sa_nil)))))) sa_nil))))))))))))))))))))))))))))

theorem ok__law_take {P : Program} {w : World} {K : PySem.W.Frag} {mg : Str → Option Value} {base : Heap} (L : LawC K mg) : OkF P w K mg base L.d__law_take f__law_take
  | 0 => fn_bad
  | d + 1 => fn_okD (keep := false) L.d__law_take.F sc__law_take fun cdv A outer s H E hr =>
    (ss_cons (ss_if (st_gt (sd_ix (un1 hr) (v_ 0) sd_int) sd_int) (ss_cons (set_ 2 (sc__law_take).nd (sd_mod (sd_intc L.m_int (sd_ix (un1 hr) (v_ 0) sd_int)) (v_ 1)))
    (ss_cons (sub_ hr (sd_fdiv (sd_ix (un1 hr) (v_ 0) sd_int) (v_ 1)) (v_ 0) sd_int)
    (ss_one (ss_ret (v_ 2))))) ss_nil)
    (ss_cons (sub_ hr (sd_add (sd_ix (un1 hr) (v_ 0) sd_int) sd_int) (v_ 0) sd_int)
    (ss_cons (set_ 3 (sc__law_take).nd (sd_mod (sd_intc L.m_int (sd_mul (sd_add (sd_ix (un1 hr) (v_ 0) sd_int) (sd_mul sd_int (sd_ix (un1 hr) (v_ 0) sd_int))) (sd_add sd_int (sd_ix (un1 hr) (v_ 0) sd_int)))) sd_int))
    (ss_cons (set_ 4 (sc__law_take).nd (sd_add (sd_mod (sd_intc L.m_int (v_ 3)) sd_int) sd_int))
    (ss_cons (set_ 5 (sc__law_take).nd (sd_mod (sd_intc L.m_int (sd_mul (sd_add (sd_add (v_ 3) (sd_ix (un1 hr) (v_ 0) sd_int)) (sd_fdiv (sd_ix (un1 hr) (v_ 0) sd_int) sd_int)) (v_ 4))) sd_int))
    (ss_one (ss_ret (sd_mod (sd_intc L.m_int (sd_fdiv (sd_mod (sd_intc L.m_int (sd_add (sd_mul (v_ 5) sd_int) (v_ 3))) sd_int) sd_int)) (v_ 1)))))))))

theorem ok__law_pick {P : Program} {w : World} {K : PySem.W.Frag} {mg : Str → Option Value} {base : Heap} (L : LawC K mg) : OkF P w K mg base L.d__law_pick f__law_pick
  | 0 => fn_bad
  | d + 1 => fn_okD (keep := false) L.d__law_pick.F sc__law_pick fun cdv A outer s H E hr =>
    (ss_cons (ss_par2 (ps_par (i := 3) (j := 4) rfl (sc__law_pick).nd rfl rfl (by decide) rfl rfl (sa_cons (sd_B (sl_list L.m_list (v_ 1))) (sa_cons (sd_B (sl_lst sa_nil)) sa_nil)) rfl))
    (ss_cons (ss_for PassesOwn.never rfl (rg1 L.m_range (sd_min2 rfl L.m_min (v_ 2) (sd_len L.m_len (v_ 3)))) (g_ 5 (sc__law_pick).nd) (ss_one (ss_ex (sd_app (v_ 4) (sd_pop (v_ 3) (c_ L.d__law_take (ok__law_take L d) (fn_len__law_take d) hr (sa_cons (v_ 0) (sa_cons (sd_len L.m_len (v_ 3)) sa_nil))))))))
    (ss_one (ss_ret (v_ 4)))))

theorem ok__law_tree {P : Program} {w : World} {K : PySem.W.Frag} {mg : Str → Option Value} {base : Heap} (L : LawC K mg) : OkF P w K mg base L.d__law_tree f__law_tree
  | 0 => fn_bad
  | d + 1 => fn_okD (keep := false) L.d__law_tree.F sc__law_tree fun cdv A outer s H E hr =>
    (ss_cons (set_ 3 (sc__law_tree).nd (sd_slice (sd_L (sl_comp (own := [("_law_letter", 10)]) rfl (sc__law_tree).nd (si_seq (sd_str (l := [97, 98, 99, 100, 101, 102, 103, 104, 105, 106]))) (blkOk_by (by kernel_rfl)) (fun _ _ _ _ _ => sg_weak (g_ 10 (sc__law_tree).nd)) (fun _ _ _ _ _ => sts_nil) (fun _ _ _ _ _ => (sd_add (sd_str (l := [114])) (v_ 10))))) so_none (so_some (sd_add sd_int (c_ L.d__law_take (ok__law_take L d) (fn_len__law_take d) hr (sa_cons (v_ 0) (sa_cons (v_ 1) sa_nil)))))))
    (ss_cons (set_ 4 (sc__law_tree).nd (c_ L.d__law_pick (ok__law_pick L d) (fn_len__law_pick d) hr (sa_cons (v_ 0) (sa_cons (v_ 3) (sa_cons (sd_len L.m_len (v_ 3)) sa_nil)))))
    (ss_cons (set_ 5 (sc__law_tree).nd (sd_B (sl_lst sa_nil)))
    (ss_cons (ss_for PassesOwn.never rfl (enu L.m_enumerate (v_ 4)) (gt2 rfl (g_ 6 (sc__law_tree).nd) (g_ 7 (sc__law_tree).nd)) (ss_cons (set_ 8 (sc__law_tree).nd (sd_min2 rfl L.m_min (v_ 6) (v_ 2)))
    (ss_cons (set_ 9 (sc__law_tree).nd (sd_if (PW.pt (sw_or (st_eq hr (v_ 8) sd_int) (sw_or1 (st_eq hr (c_ L.d__law_take (ok__law_take L d) (fn_len__law_take d) hr (sa_cons (v_ 0) (sa_cons sd_int sa_nil))) sd_int)))) sd_int (sd_add sd_int (c_ L.d__law_take (ok__law_take L d) (fn_len__law_take d) hr (sa_cons (v_ 0) (sa_cons (v_ 8) sa_nil))))))
    (ss_one (ss_ex (sd_app (v_ 5) (sd_tup (sa_cons (v_ 7) (sa_cons (sd_tuple rfl L.m_tuple (c_ L.d__law_pick (ok__law_pick L d) (fn_len__law_pick d) hr (sa_cons (v_ 0) (sa_cons (sd_slice (v_ 4) so_none (so_some (v_ 6))) (sa_cons (v_ 9) sa_nil))))) sa_nil)))))))))
    (ss_one (ss_ret (sd_tuple rfl L.m_tuple (sd_L (sl_sorted hr L.m_sorted (v_ 5))))))))))

theorem ok__law_worth {P : Program} {w : World} {K : PySem.W.Frag} {mg : Str → Option Value} {base : Heap} (L : LawC K mg) : OkF P w K mg base L.d__law_worth f__law_worth
  | 0 => fn_bad
  | d + 1 => fn_okD (keep := false) L.d__law_worth.F sc__law_worth fun cdv A outer s H E hr =>
    (ss_one (ss_ret (sd_tuple rfl L.m_tuple (sd_L (sl_comp (own := [("_law_step", 3), ("_law_heads", 4)]) rfl (sc__law_worth).nd (si_seq (v_ 1)) (blkOk_by (by kernel_rfl)) (fun _ _ _ _ _ => sg_weak (gt2 rfl (g_ 3 (sc__law_worth).nd) (g_ 4 (sc__law_worth).nd))) (fun _ _ _ _ _ => sts_nil) (fun _ _ _ _ _ => (sd_tup (sa_cons (v_ 3) (sa_cons (c_ L.d__law_take (ok__law_take L d) (fn_len__law_take d) hr (sa_cons (v_ 0) (sa_cons (v_ 2) sa_nil))) sa_nil)))))))))

theorem ok__law_by {P : Program} {w : World} {K : PySem.W.Frag} {mg : Str → Option Value} {base : Heap} (L : LawC K mg) : OkF P w K mg base L.d__law_by f__law_by
  | 0 => fn_bad
  | d + 1 => fn_okD (keep := false) L.d__law_by.F sc__law_by fun cdv A outer s H E hr =>
    (ss_cons (ss_asg (sd_tup (sa_cons (sd_D (sD_dictc rfl L.m_dict (v_ 1))) (sa_cons (sd_L (sl_lst sa_nil)) sa_nil))) (gt2 rfl (g_ 3 (sc__law_by).nd) (g_ 4 (sc__law_by).nd)))
    (ss_cons (ss_for PassesOwn.never rfl (si_seq (v_ 0)) (gt2 rfl (g_ 5 (sc__law_by).nd) (g_ 6 (sc__law_by).nd)) (ss_cons (PSL (ss_setLc (i := 7) (own := [("_law_own", 9)]) rfl (sc__law_by).nd rfl rfl (sw_true rfl rfl rfl (by decide +kernel)) (si_seq (v_ 6)) (blkOk_by (by kernel_rfl)) (fun _ _ _ _ _ => sg_weak (g_ 9 (sc__law_by).nd)) (fun _ _ _ _ _ => (sts_one (st_ne hr (sd_ix (un1 hr) (v_ 3) (v_ 9)) (sd_ix (un1 hr) (v_ 3) (v_ 5))))) (fun _ _ _ _ _ => (v_ 9))))
    (ss_cons (ss_if (st_eq hr (v_ 2) (sd_str (l := [115, 111, 109, 101]))) (ss_one (set_ 8 (sc__law_by).nd (sd_or (sd_eq hr (v_ 6) (sd_tup sa_nil)) (sd_or1 (sd_ne hr (v_ 7) (sd_L (sl_lst sa_nil))))))) (ss_one (ss_if (st_eq hr (v_ 2) (sd_str (l := [101, 97, 99, 104]))) (ss_one (set_ 8 (sc__law_by).nd (sd_eq hr (sd_len L.m_len (v_ 7)) (sd_len L.m_len (v_ 6))))) (ss_one (set_ 8 (sc__law_by).nd (sd_or (sd_eq hr (v_ 6) (sd_tup sa_nil)) (sd_or1 (sd_in hr (sd_ix (un1 hr) (v_ 6) sd_int) (v_ 7)))))))))
    (ss_one (set_ 4 (sc__law_by).nd (sd_add (v_ 4) (sd_mul (sd_L (sl_lst (sa_cons (v_ 5) sa_nil))) (sd_intc L.m_int (v_ 8)))))))))
    (ss_one (ss_ret (sd_tuple rfl L.m_tuple (v_ 4))))))

theorem ok__law_case_right {P : Program} {w : World} {K : PySem.W.Frag} {mg : Str → Option Value} {base : Heap} (L : LawC K mg) : OkF P w K mg base L.d__law_case_right f__law_case_right
  | 0 => fn_bad
  | d + 1 => fn_okD (keep := false) L.d__law_case_right.F sc__law_case_right fun cdv A outer s H E hr =>
    (ss_cons (set_ 1 (sc__law_case_right).nd (c_ L.d__law_tree (ok__law_tree L d) (fn_len__law_tree d) hr (sa_cons (v_ 0) (sa_cons sd_int (sa_cons sd_int sa_nil)))))
    (ss_cons (set_ 2 (sc__law_case_right).nd (c_ L.d__law_worth (ok__law_worth L d) (fn_len__law_worth d) hr (sa_cons (v_ 0) (sa_cons (v_ 1) (sa_cons sd_int sa_nil)))))
    (ss_cons (ss_for PassesOwn.never rfl (si_seq (sd_tup (sa_cons (sd_str (l := [101, 97, 99, 104])) (sa_cons (sd_str (l := [102, 105, 114, 115, 116])) (sa_cons (sd_str (l := [115, 111, 109, 101])) sa_nil))))) (g_ 3 (sc__law_case_right).nd) (ss_cons (set_ 4 (sc__law_case_right).nd (c_ L.d__law_by (ok__law_by L d) (fn_len__law_by d) hr (sa_cons (v_ 1) (sa_cons (v_ 2) (sa_cons (v_ 3) sa_nil)))))
    (ss_cons (set_ 5 (sc__law_case_right).nd (sd_L (sl_lst (sa_cons (c_ L.d_book_by (ok_book_by L d) (fn_len_book_by d) hr (sa_cons (v_ 1) (sa_cons (v_ 2) (sa_cons (v_ 3) sa_nil)))) (sa_cons (c_ L.d_book_by (ok_book_by L d) (fn_len_book_by d) hr (sa_cons (c_ L.d__law_lists (ok__law_lists L d) (fn_len__law_lists d) hr (sa_cons (v_ 1) sa_nil)) (sa_cons (c_ L.d__law_lists (ok__law_lists L d) (fn_len__law_lists d) hr (sa_cons (v_ 2) sa_nil)) (sa_cons (v_ 3) sa_nil)))) sa_nil)))))
    (ss_one (ss_if (st_not (st_truth (c_ L.d__law_same (ok__law_same L d) (fn_len__law_same d) hr (sa_cons (v_ 5) (sa_cons (sd_L (sl_lst (sa_cons (v_ 4) (sa_cons (v_ 4) sa_nil)))) sa_nil))))) (ss_one (ss_ret sd_bl)) ss_nil)))))
    (ss_one (ss_ret sd_bl)))))

theorem ok__law_right {P : Program} {w : World} {K : PySem.W.Frag} {mg : Str → Option Value} {base : Heap} (L : LawC K mg) : OkF P w K mg base L.d__law_right f__law_right
  | 0 => fn_bad
  | d + 1 => fn_okD (keep := false) L.d__law_right.F sc__law_right fun cdv A outer s H E hr =>
    (ss_one (ss_ret (sd_all rfl L.m_all (sd_L (sl_comp (own := [("_law_turn", 1)]) rfl (sc__law_right).nd (rg1 L.m_range sd_int) (blkOk_by (by kernel_rfl)) (fun _ _ _ _ _ => sg_weak (g_ 1 (sc__law_right).nd)) (fun _ _ _ _ _ => sts_nil) (fun _ _ _ _ _ => (c_ L.d__law_case_right (ok__law_case_right L d) (fn_len__law_case_right d) hr (sa_cons (v_ 0) sa_nil))))))))

theorem ok__law_box {P : Program} {w : World} {K : PySem.W.Frag} {mg : Str → Option Value} {base : Heap} (L : LawC K mg) : OkF P w K mg base L.d__law_box f__law_box
  | 0 => fn_bad
  | d + 1 => fn_okD (keep := true) L.d__law_box.F sc__law_box fun cdv A outer s H E hr =>
    (ss_cons (set_ 2 (sc__law_box).nd (sd_if (st_lt (v_ 1) (sd_len L.m_len (v_ 0))) (sd_ix (un1 hr) (v_ 0) (v_ 1)) sd_int))
    (ss_one (ss_ret (sd_B (sl_lst (sa_cons (sd_mul (sd_abs L.m_abs (v_ 2)) (sd_intc L.m_int (sd_ge (sd_abs L.m_abs (v_ 2)) (sd_pow sd_int sd_int)))) (sa_cons (sd_add (sd_add (sd_mod (sd_intc L.m_int (v_ 2)) sd_int) (sd_mul sd_int (v_ 1))) sd_int) (sa_cons sd_int sa_nil))))))))

theorem ok_law {P : Program} {w : World} {K : PySem.W.Frag} {mg : Str → Option Value} {base : Heap} (L : LawC K mg) : OkF P w K mg base L.d_law f_law
  | 0 => fn_bad
  | d + 1 => fn_okD (keep := false) L.d_law.F sc_law fun cdv A outer s H E hr =>
    (ss_cons (ss_if (st_not (st_truth (c0_ L.d__law_hand_right (ok__law_hand_right L d) (fn_len__law_hand_right d) hr))) (ss_one (ss_ret sd_bl)) ss_nil)
    (ss_cons (set_ 1 (sc_law).nd (c_ L.d__law_cells (ok__law_cells L d) (fn_len__law_cells d) hr (sa_cons (v_ 0) (sa_cons sd_int sa_nil))))
    (ss_one (ss_ret (sd_all rfl L.m_all (sd_L (sl_comp (own := [("_law_k", 2)]) rfl (sc_law).nd (rg1 L.m_range (sd_len L.m_len (v_ 1))) (blkOk_by (by kernel_rfl)) (fun _ _ _ _ _ => sg_weak (g_ 2 (sc_law).nd)) (fun _ _ _ _ _ => sts_nil) (fun _ _ _ _ _ => (c_ L.d__law_right (ok__law_right L d) (fn_len__law_right d) hr (sa_cons (c_ L.d__law_box (ok__law_box L d) (fn_len__law_box d) hr (sa_cons (v_ 1) (sa_cons (v_ 2) sa_nil))) sa_nil))))))))))
end Py.K16

namespace Py.K16
open PySem PySem.Spec PyProof.Rows L2
abbrev R : PySem.W.OpenRow := PySem.W.OpenLaw.row PySem.Challenge.rw_lasttellers_k16_who_tells_by_a_rule
def dd__law_cells : He.DefD := ⟨("_law_cells", none), "_law_cells", "_law_cells", defArgs s__law_cells, defBody s__law_cells, defScope s__law_cells, [], []⟩
def dd__law_trees : He.DefD := ⟨("_law_trees", none), "_law_trees", "_law_trees", defArgs s__law_trees, defBody s__law_trees, defScope s__law_trees, [], []⟩
def dd__law_same : He.DefD := ⟨("_law_same", none), "_law_same", "_law_same", defArgs s__law_same, defBody s__law_same, defScope s__law_same, [], []⟩
def dd__law_lists : He.DefD := ⟨("_law_lists", none), "_law_lists", "_law_lists", defArgs s__law_lists, defBody s__law_lists, defScope s__law_lists, [], []⟩
def dd_tupled : He.DefD := ⟨("tupled", none), "tupled", "tupled", defArgs s_tupled, defBody s_tupled, defScope s_tupled, [], []⟩
def dd_tells_by : He.DefD := ⟨("tells_by", none), "tells_by", "tells_by", defArgs s_tells_by, defBody s_tells_by, defScope s_tells_by, [], []⟩
def dd_book_by : He.DefD := ⟨("book_by", none), "book_by", "book_by", defArgs s_book_by, defBody s_book_by, defScope s_book_by, [], []⟩
def dd__law_hand_right : He.DefD := ⟨("_law_hand_right", none), "_law_hand_right", "_law_hand_right", defArgs s__law_hand_right, defBody s__law_hand_right, defScope s__law_hand_right, [], []⟩
def dd__law_take : He.DefD := ⟨("_law_take", none), "_law_take", "_law_take", defArgs s__law_take, defBody s__law_take, defScope s__law_take, [], []⟩
def dd__law_pick : He.DefD := ⟨("_law_pick", none), "_law_pick", "_law_pick", defArgs s__law_pick, defBody s__law_pick, defScope s__law_pick, [], []⟩
def dd__law_tree : He.DefD := ⟨("_law_tree", none), "_law_tree", "_law_tree", defArgs s__law_tree, defBody s__law_tree, defScope s__law_tree, [], []⟩
def dd__law_worth : He.DefD := ⟨("_law_worth", none), "_law_worth", "_law_worth", defArgs s__law_worth, defBody s__law_worth, defScope s__law_worth, [], []⟩
def dd__law_by : He.DefD := ⟨("_law_by", none), "_law_by", "_law_by", defArgs s__law_by, defBody s__law_by, defScope s__law_by, [], []⟩
def dd__law_case_right : He.DefD := ⟨("_law_case_right", none), "_law_case_right", "_law_case_right", defArgs s__law_case_right, defBody s__law_case_right, defScope s__law_case_right, [], []⟩
def dd__law_right : He.DefD := ⟨("_law_right", none), "_law_right", "_law_right", defArgs s__law_right, defBody s__law_right, defScope s__law_right, [], []⟩
def dd__law_box : He.DefD := ⟨("_law_box", none), "_law_box", "_law_box", defArgs s__law_box, defBody s__law_box, defScope s__law_box, [], []⟩
def dd_law : He.DefD := ⟨("law", none), "law", "law", defArgs s_law, defBody s_law, defScope s_law, [], []⟩
def fnl : List He.DefD := [dd__law_cells, dd__law_trees, dd__law_same, dd__law_lists, dd_tupled, dd_tells_by, dd_book_by, dd__law_hand_right, dd__law_take, dd__law_pick, dd__law_tree, dd__law_worth, dd__law_by, dd__law_case_right, dd__law_right, dd__law_box, dd_law]
def fal : List He.Fa := [.glo "_law_cells", .glo "_law_trees", .glo "_law_same", .glo "_law_lists", .glo "tupled", .glo "tells_by", .glo "book_by", .glo "_law_hand_right", .glo "_law_take", .glo "_law_pick", .glo "_law_tree", .glo "_law_worth", .glo "_law_by", .glo "_law_case_right", .glo "_law_right", .glo "_law_box", .glo "law", .free "abs", .free "all", .free "any", .free "bool", .free "dict", .free "enumerate", .free "int", .free "isinstance", .free "len", .free "list", .free "min", .free "range", .free "sorted", .free "str", .free "tuple", .free "zip"]
def nm0 : List PySem.Str := ["tupled", "tells_by", "book_by", "_law_box", "_law_take", "_law_cells", "_law_pick", "_law_lists", "_law_same", "_law_tree", "_law_worth", "_law_trees", "_law_by", "_law_hand_right", "_law_case_right", "_law_right"]
def nms : List PySem.Str := nm0
abbrev hk : PySem.W.Hook := He.hookD 4 fal fnl
def ob (s : PySem.W.SharedT) : He.AlD := He.obsDG 4 fal fnl (HandSHeadRun.getT s)
theorem ob_eq (s : PySem.W.SharedT) : ob s = hk.obs s.abs := He.obsDG_eq (HandSHeadRun.getT_eq s)
theorem run (w : World) : HandSHeadRun.RunEq R (PySem.W.view R.prog [19]) hk ob 3000 nms w := by
  intro os
  kernel_rfl
theorem facts {K : PySem.W.Frag} {h : Heap} {mg : Str → Option Value} {f : Addr} (X : K.In h) (G : h.Ns mainGlobals mg) (hfa : mg ("law" : Str) = some (.ref f)) (c : He.SaysD fal fnl K) :
    ∃ (L : LawC K mg), L.d_law.a = f ∧ ∀ (s : Shared) (v : Value), BindsTo s L.d_law.fd ⟨[v], []⟩ [("_law_script", v)] := by
  obtain ⟨fd0, F0⟩ := c.def_ 0 (d := dd__law_cells) rfl
  obtain ⟨fd1, F1⟩ := c.def_ 1 (d := dd__law_trees) rfl
  obtain ⟨fd2, F2⟩ := c.def_ 2 (d := dd__law_same) rfl
  obtain ⟨fd3, F3⟩ := c.def_ 3 (d := dd__law_lists) rfl
  obtain ⟨fd4, F4⟩ := c.def_ 4 (d := dd_tupled) rfl
  obtain ⟨fd5, F5⟩ := c.def_ 5 (d := dd_tells_by) rfl
  obtain ⟨fd6, F6⟩ := c.def_ 6 (d := dd_book_by) rfl
  obtain ⟨fd7, F7⟩ := c.def_ 7 (d := dd__law_hand_right) rfl
  obtain ⟨fd8, F8⟩ := c.def_ 8 (d := dd__law_take) rfl
  obtain ⟨fd9, F9⟩ := c.def_ 9 (d := dd__law_pick) rfl
  obtain ⟨fd10, F10⟩ := c.def_ 10 (d := dd__law_tree) rfl
  obtain ⟨fd11, F11⟩ := c.def_ 11 (d := dd__law_worth) rfl
  obtain ⟨fd12, F12⟩ := c.def_ 12 (d := dd__law_by) rfl
  obtain ⟨fd13, F13⟩ := c.def_ 13 (d := dd__law_case_right) rfl
  obtain ⟨fd14, F14⟩ := c.def_ 14 (d := dd__law_right) rfl
  obtain ⟨fd15, F15⟩ := c.def_ 15 (d := dd__law_box) rfl
  obtain ⟨fd16, F16⟩ := c.def_ 16 (d := dd_law) rfl
  have e := hfa.symm.trans (He.glo_ok X G (c.fact 16 (f := .glo "law") rfl))
  cases e
  have b := FunD.bindsA (ps := ["_law_script"]) F16 fun _ _ _ _ _ _ us hl => match us, hl with | [_], _ => rfl
  exact ⟨⟨⟨_, fd0, F0, He.glo_ok X G (c.fact 0 (f := .glo "_law_cells") rfl), FunD.bindsN F0 fun _ _ _ _ _ _ us hl => match us, hl with | [_, _], _ => rfl⟩,
    ⟨_, fd1, F1, He.glo_ok X G (c.fact 1 (f := .glo "_law_trees") rfl), FunD.bindsN F1 fun _ _ _ _ _ _ us hl => match us, hl with | [], _ => rfl⟩,
    ⟨_, fd2, F2, He.glo_ok X G (c.fact 2 (f := .glo "_law_same") rfl), FunD.bindsN F2 fun _ _ _ _ _ _ us hl => match us, hl with | [_, _], _ => rfl⟩,
    ⟨_, fd3, F3, He.glo_ok X G (c.fact 3 (f := .glo "_law_lists") rfl), FunD.bindsN F3 fun _ _ _ _ _ _ us hl => match us, hl with | [_], _ => rfl⟩,
    ⟨_, fd4, F4, He.glo_ok X G (c.fact 4 (f := .glo "tupled") rfl), FunD.bindsN F4 fun _ _ _ _ _ _ us hl => match us, hl with | [_], _ => rfl⟩,
    ⟨_, fd5, F5, He.glo_ok X G (c.fact 5 (f := .glo "tells_by") rfl), FunD.bindsN F5 fun _ _ _ _ _ _ us hl => match us, hl with | [_, _, _, _], _ => rfl⟩,
    ⟨_, fd6, F6, He.glo_ok X G (c.fact 6 (f := .glo "book_by") rfl), FunD.bindsN F6 fun _ _ _ _ _ _ us hl => match us, hl with | [_, _, _], _ => rfl⟩,
    ⟨_, fd7, F7, He.glo_ok X G (c.fact 7 (f := .glo "_law_hand_right") rfl), FunD.bindsN F7 fun _ _ _ _ _ _ us hl => match us, hl with | [], _ => rfl⟩,
    ⟨_, fd8, F8, He.glo_ok X G (c.fact 8 (f := .glo "_law_take") rfl), FunD.bindsN F8 fun _ _ _ _ _ _ us hl => match us, hl with | [_, _], _ => rfl⟩,
    ⟨_, fd9, F9, He.glo_ok X G (c.fact 9 (f := .glo "_law_pick") rfl), FunD.bindsN F9 fun _ _ _ _ _ _ us hl => match us, hl with | [_, _, _], _ => rfl⟩,
    ⟨_, fd10, F10, He.glo_ok X G (c.fact 10 (f := .glo "_law_tree") rfl), FunD.bindsN F10 fun _ _ _ _ _ _ us hl => match us, hl with | [_, _, _], _ => rfl⟩,
    ⟨_, fd11, F11, He.glo_ok X G (c.fact 11 (f := .glo "_law_worth") rfl), FunD.bindsN F11 fun _ _ _ _ _ _ us hl => match us, hl with | [_, _, _], _ => rfl⟩,
    ⟨_, fd12, F12, He.glo_ok X G (c.fact 12 (f := .glo "_law_by") rfl), FunD.bindsN F12 fun _ _ _ _ _ _ us hl => match us, hl with | [_, _, _], _ => rfl⟩,
    ⟨_, fd13, F13, He.glo_ok X G (c.fact 13 (f := .glo "_law_case_right") rfl), FunD.bindsN F13 fun _ _ _ _ _ _ us hl => match us, hl with | [_], _ => rfl⟩,
    ⟨_, fd14, F14, He.glo_ok X G (c.fact 14 (f := .glo "_law_right") rfl), FunD.bindsN F14 fun _ _ _ _ _ _ us hl => match us, hl with | [_], _ => rfl⟩,
    ⟨_, fd15, F15, He.glo_ok X G (c.fact 15 (f := .glo "_law_box") rfl), FunD.bindsN F15 fun _ _ _ _ _ _ us hl => match us, hl with | [_, _], _ => rfl⟩,
    ⟨_, fd16, F16, He.glo_ok X G (c.fact 16 (f := .glo "law") rfl), FunD.bindsN F16 fun _ _ _ _ _ _ us hl => match us, hl with | [_], _ => rfl⟩,
    He.free_ok X G (c.fact 17 (f := .free "abs") rfl),
    He.free_ok X G (c.fact 18 (f := .free "all") rfl),
    He.free_ok X G (c.fact 19 (f := .free "any") rfl),
    He.free_ok X G (c.fact 20 (f := .free "bool") rfl),
    He.free_ok X G (c.fact 21 (f := .free "dict") rfl),
    He.free_ok X G (c.fact 22 (f := .free "enumerate") rfl),
    He.free_ok X G (c.fact 23 (f := .free "int") rfl),
    He.free_ok X G (c.fact 24 (f := .free "isinstance") rfl),
    He.free_ok X G (c.fact 25 (f := .free "len") rfl),
    He.free_ok X G (c.fact 26 (f := .free "list") rfl),
    He.free_ok X G (c.fact 27 (f := .free "min") rfl),
    He.free_ok X G (c.fact 28 (f := .free "range") rfl),
    He.free_ok X G (c.fact 29 (f := .free "sorted") rfl),
    He.free_ok X G (c.fact 30 (f := .free "str") rfl),
    He.free_ok X G (c.fact 31 (f := .free "tuple") rfl),
    He.free_ok X G (c.fact 32 (f := .free "zip") rfl)⟩, rfl, fun s v => b s [v] rfl⟩
end Py.K16

open PySem PySem.W PySem.Calls PyProof.Rows
theorem PySem.Challenge.cw_lasttellers_k16_who_tells_by_a_rule_holds : PySem.Challenge.rw_lasttellers_k16_who_tells_by_a_rule.Holds := by
  w_on; o_law
  refine HandSHeadRun.head_any (r := OpenLaw.row PySem.Challenge.rw_lasttellers_k16_who_tells_by_a_rule) (q := view (OpenLaw.row PySem.Challenge.rw_lasttellers_k16_who_tells_by_a_rule).prog [19]) (H := Py.K16.hk) (ob := Py.K16.ob) (M := 3000) (loose := Py.K16.nms) (d := HandSHeadRun.topDef (OpenLaw.row PySem.Challenge.rw_lasttellers_k16_who_tells_by_a_rule).prog 19) (kwd := []) Py.K16.ob_eq
    (by kernel_rfl) (fun s => by kernel_rfl) Py.K16.run (by kernel_rfl) (by kernel_rfl) (by kernel_rfl) (by rfl) (by first | assumption | decide +kernel) (by decide +kernel) ⟨rfl, rfl, rfl, rfl, rfl, by decide +kernel⟩ ?hw ?hc
  case hw => w_witness2
  case hc =>
    refine L2.walk_ofE (l := PySem.Challenge.rw_lasttellers_k16_who_tells_by_a_rule) (n := 63) (k := 8) (x := "_law_script") (CX := L2.CX0) rfl (by decide) (by kernel_rfl) ⟨rfl, by decide, by decide⟩ ?F (fun _ _ _ _ z => z)
    intro w mg fa h Y G hmg0
    obtain ⟨K, KX, c⟩ := Y
    have hmg : mg ("law" : PySem.Str) = some (.ref fa) := by
      have e : (HandSHeadRun.topDef (OpenLaw.row PySem.Challenge.rw_lasttellers_k16_who_tells_by_a_rule).prog 19).name = ("law" : PySem.Str) := by kernel_rfl
      rw [← e]
      exact hmg0
    obtain ⟨L, hf, hb⟩ := Py.K16.facts KX G hmg c
    subst hf
    exact ⟨K, L.d_law.fd, Py.spF K 1 (Py.K16.f_law 8), KX, hb, fun H a ns hl hO hS => Py.law_end Py.K16.law_true H a ns hl hO hS, fun base _ _ => Py.K16.ok_law L 8⟩

