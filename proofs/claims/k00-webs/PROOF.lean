import PyProof.Rows.All
import Wide.All
import OpenK.AllK
import Wide.FinOn
import HandS.ForMost
import HandS.ForExc
import HandS.Walk
import HandS.Lambda
import HandS.Nested
import HandS.IsInst
import HandS.TupAny
import HandS.TupLe
import HandS.Conv
import HandS.Style
import HandS.Deep
import HandS.CallSlots
import HandS.Zip
import HandS.ExcInit
import HandS.Defaults
import HandS.ExcField
import HandS.TryMany
import HandS.More
import KE.GoesMore
import HandS.Sort
import HandS.TupMul
import PyProof.ReprRoads
import HandS.HeadHook4
import HandS.HeadWalk
import HandS.CallLocal
import HandS.Head2
import HandS.SortInts
import KE.KTupSum
import HandS.Text
import PySem.Challenge.RW_boxesclosed_k00_webs
set_option Elab.async false
set_option linter.all false
set_option maxRecDepth 100000
namespace DL
open PySem PySem.Spec L2
/-- plain data -/
inductive D where
  | non | bl (b : Bool) | int (i : Int) | str (x : Str)
  | lst (xs : List D) | tup (xs : List D) | dic
  | web (n : Int) (ss : List (Int × Int))
  | row (a : Addr) | fn (x : String)
/-- a lambda's words (NF: its body there is not looked at), its body -/
abbrev LamF := Addr → NdefX.NF × Expr
/-- what is fixed through a law -/
structure Ctx where
  K : PySem.W.Frag
  web : Addr
  cls : String → Addr
  fnA : String → Addr
  val : Int → List (Int × Int) → List Int → Int
  /-- what a table that is not one's own keeps; the tables that are one's own -/
  dv : List Int → Int
  own : List (Addr × (List Int → Int))
  /-- what one's memo keeps -/
  cn : List Int → Int
  /-- the names that stand for lambdas -/
  lam : String → Option LamF
  tabs : List (Addr × Str)
  scr : Addr
  cells : List Int
def hide (A : List Addr) (H : Hp) : Hp := fun a => if a ∈ A then none else H a
theorem hide_in {A : List Addr} {H : Hp} {a : Addr} (h : a ∈ A) : hide A H a = none := if_pos h
theorem hide_out {A : List Addr} {H : Hp} {a : Addr} (h : a ∉ A) : hide A H a = H a := if_neg h
theorem hide_some {A : List Addr} {H : Hp} {a : Addr} {o : HO} (h : hide A H a = some o) : a ∉ A ∧ H a = some o := by
  by_cases q : a ∈ A
  · rw [hide_in q] at h; cases h
  · rw [hide_out q] at h; exact ⟨q, h⟩
theorem hide_nil {H : Hp} : hide [] H = H := by funext a; exact if_neg (by simp)
abbrev webF (n : Int) (t q : Addr) : List (Str × V) := [(("coins" : Str), V.int n), (("strings" : Str), V.ref t), (("worths" : Str), V.ref q)]
/-- a rising list of small numbers -/
def StI (st : List Int) : Prop := st.Pairwise (· < ·) ∧ ∀ k ∈ st, 0 ≤ k ∧ k < 12
def Ctx.tv (Γ : Ctx) (b : Addr) (st : List Int) : Int := match Γ.own.lookup b with
  | some f => f st
  | none => Γ.dv st
def TabOk (Γ : Ctx) (b : Addr) (kvs : List (List Key × V)) : Prop := (kvs.map (·.1)).Nodup ∧ ∀ p ∈ kvs, ∃ st : List Int, StI st ∧ p.1 = st.map Sum.inl ∧ p.2 = .int (Γ.tv b st)
/-- a web's table is nobody's own -/
def WebTab (Γ : Ctx) (b : Addr) (kvs : List (List Key × V)) : Prop := TabOk Γ b kvs ∧ Γ.own.lookup b = none
/-- the tuples of pairs -/
def PairsR (H : Hp) : List (Int × Int) → List V → Prop
  | [], [] => True
  | p :: ps, v :: vs => (∃ a, v = .ref a ∧ H a = some (.tup [.int p.1, .int p.2])) ∧ PairsR H ps vs
  | _, _ => False
/-- the object at f is the lambda F with the body e -/
def LamO (f : Addr) (F : NdefX.NF) (e : Expr) : HO := .ext fun h => ∃ (od : Option Addr) (sl : Array (Option Value)) (pm ctv : Value), h.get? f = some (⟨.type "function", od, .func (PySem.W.kla_fn F.name F.qual F.params e F.scope F.cl pm (.ref F.c) ctv), sl⟩ : Obj)
def LamR (m : LamF) (H : Hp) (v : V) : Prop := ∃ f c', v = .ref f ∧ H f = some (LamO f (m c').1 (m c').2) ∧ H (m c').1.c = some (LamX.CodeO (m c').1.c (m c').1.qual)
def FnR (Γ : Ctx) (H : Hp) (x : String) (v : V) : Prop := match Γ.lam x with
  | none => v = .ref (Γ.fnA x)
  | some m => LamR m H v
mutual
def Rep (Γ : Ctx) (H : Hp) : D → V → Prop
  | .non, v => v = .non
  | .bl b, v => v = .bl b
  | .int i, v => v = .int i
  | .str x, v => v = .str x
  | .lst ds, v => ∃ a xs, v = .ref a ∧ H a = some (.lst xs) ∧ RepL Γ H ds xs
  | .tup ds, v => ∃ a xs, v = .ref a ∧ H a = some (.tup xs) ∧ RepL Γ H ds xs
  | .dic, v => ∃ a, v = .ref a ∧ H a = some (.dK [])
  | .web n ss, v => ∃ a dx t q xs kvs, v = .ref a ∧ H a = some (.ins Γ.web dx (webF n t q)) ∧ H t = some (.tup xs) ∧ PairsR H ss xs ∧ H q = some (.dT kvs) ∧ WebTab Γ q kvs
  | .row p, v => v = .ref p
  | .fn x, v => FnR Γ H x v
def RepL (Γ : Ctx) (H : Hp) : List D → List V → Prop
  | [], vs => vs = []
  | d :: ds, vs => ∃ v ws, vs = v :: ws ∧ Rep Γ H d v ∧ RepL Γ H ds ws
end
theorem Rep_lst {Γ : Ctx} {H : Hp} {ds : List D} {v : V} : Rep Γ H (.lst ds) v ↔ ∃ a xs, v = .ref a ∧ H a = some (.lst xs) ∧ RepL Γ H ds xs := by rw [Rep]
theorem Rep_tup {Γ : Ctx} {H : Hp} {ds : List D} {v : V} : Rep Γ H (.tup ds) v ↔ ∃ a xs, v = .ref a ∧ H a = some (.tup xs) ∧ RepL Γ H ds xs := by rw [Rep]
theorem RepL_nil {Γ : Ctx} {H : Hp} {vs : List V} : RepL Γ H [] vs ↔ vs = [] := by rw [RepL]
theorem RepL_cons {Γ : Ctx} {H : Hp} {d : D} {ds : List D} {vs : List V} : RepL Γ H (d :: ds) vs ↔ ∃ v ws, vs = v :: ws ∧ Rep Γ H d v ∧ RepL Γ H ds ws := by rw [RepL]
theorem RepL.length {Γ : Ctx} {H : Hp} : ∀ {ds : List D} {vs : List V}, RepL Γ H ds vs → vs.length = ds.length
  | [], vs, h => by rw [RepL_nil] at h; rw [h]; rfl
  | d :: ds, vs, h => by
    rw [RepL_cons] at h
    obtain ⟨v, ws, rfl, _, h⟩ := h
    simp [RepL.length h]
/-! ### the heap grows -/
/-- what can be hidden: all but what is known by a property -/
def nx : HO → Bool
  | .ext _ => false
  | _ => true
def stays : HO → Bool
  | .dT _ => false
  | .tbl _ => false
  | _ => true
/-- all that was tracked outside A stays; kept tables may grow -/
structure Ext (Γ : Ctx) (A : List Addr) (H H' : Hp) : Prop where
  st : ∀ b o, b ∉ A → H b = some o → stays o = true → H' b = some o
  ca : ∀ b kvs, b ∉ A → H b = some (.dT kvs) → ∃ kvs', H' b = some (.dT kvs') ∧ (TabOk Γ b kvs → TabOk Γ b kvs')
  al : ∀ b o, H b = some o → ∃ o', H' b = some o' ∧ (nx o = true → nx o' = true)
theorem Ext.refl {Γ : Ctx} {A : List Addr} {H : Hp} : Ext Γ A H H := ⟨fun _ _ _ h _ => h, fun _ kvs _ h => ⟨kvs, h, fun c => c⟩, fun _ o h => ⟨o, h, id⟩⟩
theorem Ext.trans {Γ : Ctx} {A : List Addr} {H H1 H2 : Hp} (a : Ext Γ A H H1) (b : Ext Γ A H1 H2) : Ext Γ A H H2 :=
  ⟨fun c o n h s => b.st c o n (a.st c o n h s) s, fun c kvs n h => by
    obtain ⟨k1, e1, f1⟩ := a.ca c kvs n h
    obtain ⟨k2, e2, f2⟩ := b.ca c k1 n e1
    exact ⟨k2, e2, fun q => f2 (f1 q)⟩, fun c o h => by
    obtain ⟨o1, h1, n1⟩ := a.al c o h
    obtain ⟨o2, h2, n2⟩ := b.al c o1 h1
    exact ⟨o2, h2, fun z => n2 (n1 z)⟩⟩
theorem Ext.mono {Γ : Ctx} {A B : List Addr} {H H' : Hp} (e : Ext Γ A H H') (h : ∀ a ∈ A, a ∈ B) : Ext Γ B H H' :=
  ⟨fun b o n => e.st b o fun z => n (h b z), fun b k n => e.ca b k fun z => n (h b z), e.al⟩
theorem Ext.of {Γ : Ctx} {A : List Addr} {H H' : Hp} (e : ∀ b o, H b = some o → H' b = some o) : Ext Γ A H H' :=
  ⟨fun b o _ h _ => e b o h, fun b k _ h => ⟨k, e _ _ h, fun c => c⟩, fun b o h => ⟨o, e b o h, id⟩⟩
theorem Ext.free {Γ : Ctx} {A : List Addr} {H H' : Hp} (e : Ext Γ A H H') {b : Addr} (h : H' b = none) : H b = none := by
  cases q : H b with
  | none => rfl
  | some o =>
    obtain ⟨o', z, _⟩ := e.al b o q
    rw [h] at z; cases z
theorem Ext.new {Γ : Ctx} {A : List Addr} {H : Hp} {p : Addr} {o : HO} (h : H p = none) : Ext Γ A H (upd H p o) := Ext.of fun b u q => by rw [upd_ne (ne_of_none q h)]; exact q
theorem PairsR.imp {H H' : Hp} (e : ∀ a xs, H a = some (.tup xs) → H' a = some (.tup xs)) : ∀ {ps : List (Int × Int)} {vs : List V}, PairsR H ps vs → PairsR H' ps vs
  | [], [], _ => trivial
  | p :: ps, v :: vs, h => by
    obtain ⟨⟨a, e1, e2⟩, h2⟩ := h
    exact ⟨⟨a, e1, e _ _ e2⟩, h2.imp e⟩
  | [], _ :: _, h => h.elim
  | _ :: _, [], h => h.elim
/-- what a representation leans on -/
structure Keeps (Γ : Ctx) (H H' : Hp) : Prop where
  lst : ∀ a xs, H a = some (.lst xs) → H' a = some (.lst xs)
  tup : ∀ a xs, H a = some (.tup xs) → H' a = some (.tup xs)
  dic : ∀ a kvs, H a = some (.dK kvs) → H' a = some (.dK kvs)
  ins : ∀ a C dx fs, H a = some (.ins C dx fs) → H' a = some (.ins C dx fs)
  ca : ∀ b kvs, H b = some (.dT kvs) → ∃ kvs', H' b = some (.dT kvs') ∧ (TabOk Γ b kvs → TabOk Γ b kvs')
  ext : ∀ a φ, H a = some (.ext φ) → H' a = some (.ext φ)
theorem FnR.keep {Γ : Ctx} {H H' : Hp} (k : Keeps Γ H H') {x : String} {v : V} (h : FnR Γ H x v) : FnR Γ H' x v := by
  unfold FnR at h ⊢
  split
  · rename_i e
    rw [e] at h
    exact h
  · rename_i m e
    rw [e] at h
    obtain ⟨f, c', h1, h2, h3⟩ := h
    exact ⟨f, c', h1, k.ext _ _ h2, k.ext _ _ h3⟩
mutual
theorem Rep.keep {Γ : Ctx} {H H' : Hp} (k : Keeps Γ H H') : ∀ (d : D) {v : V}, Rep Γ H d v → Rep Γ H' d v
  | .non, _, h => by rw [Rep] at h ⊢; exact h
  | .bl _, _, h => by rw [Rep] at h ⊢; exact h
  | .int _, _, h => by rw [Rep] at h ⊢; exact h
  | .str _, _, h => by rw [Rep] at h ⊢; exact h
  | .lst ds, _, h => by
    rw [Rep_lst] at h ⊢
    obtain ⟨a, xs, e, e1, h⟩ := h
    exact ⟨a, xs, e, k.lst _ _ e1, RepL.keep k ds h⟩
  | .tup ds, _, h => by
    rw [Rep_tup] at h ⊢
    obtain ⟨a, xs, e, e1, h⟩ := h
    exact ⟨a, xs, e, k.tup _ _ e1, RepL.keep k ds h⟩
  | .dic, _, h => by
    rw [Rep] at h ⊢
    obtain ⟨a, e, e1⟩ := h
    exact ⟨a, e, k.dic _ _ e1⟩
  | .web n ss, _, h => by
    rw [Rep] at h ⊢
    obtain ⟨a, dx, t, q, xs, kvs, e, e1, e2, e3, e4, e5⟩ := h
    obtain ⟨kvs', e6, e7⟩ := k.ca _ _ e4
    exact ⟨a, dx, t, q, xs, kvs', e, k.ins _ _ _ _ e1, k.tup _ _ e2, e3.imp k.tup, e6, e7 e5.1, e5.2⟩
  | .row _, _, h => by rw [Rep] at h ⊢; exact h
  | .fn _, _, h => by rw [Rep] at h ⊢; exact h.keep k
theorem RepL.keep {Γ : Ctx} {H H' : Hp} (k : Keeps Γ H H') : ∀ (ds : List D) {vs : List V}, RepL Γ H ds vs → RepL Γ H' ds vs
  | [], _, h => by rw [RepL_nil] at h ⊢; exact h
  | d :: ds, _, h => by
    rw [RepL_cons] at h ⊢
    obtain ⟨v, ws, e, h1, h2⟩ := h
    exact ⟨v, ws, e, Rep.keep k d h1, RepL.keep k ds h2⟩
end
theorem Keeps.of {Γ : Ctx} {H H' : Hp} (e : ∀ b o, H b = some o → H' b = some o) : Keeps Γ H H' :=
  ⟨fun _ _ => e _ _, fun _ _ => e _ _, fun _ _ => e _ _, fun _ _ _ _ => e _ _, fun _ k h => ⟨k, e _ _ h, fun c => c⟩, fun _ _ => e _ _⟩
theorem Ext.keeps {Γ : Ctx} {A B : List Addr} {H H' : Hp} (e : Ext Γ B H H') (hb : ∀ a ∈ B, a ∈ A) : Keeps Γ (hide A H) (hide A H') := by
  have go : ∀ b o, hide A H b = some o → stays o = true → hide A H' b = some o := fun b o h s => by
    obtain ⟨n, h⟩ := hide_some h
    rw [hide_out n]
    exact e.st b o (fun z => n (hb b z)) h s
  refine ⟨fun _ _ h => go _ _ h rfl, fun _ _ h => go _ _ h rfl, fun _ _ h => go _ _ h rfl, fun _ _ _ _ h => go _ _ h rfl, fun b k h => ?_, fun _ _ h => go _ _ h rfl⟩
  obtain ⟨n, h⟩ := hide_some h
  rw [hide_out n]
  exact e.ca b k (fun z => n (hb b z)) h
theorem hide_keeps {Γ : Ctx} {A B : List Addr} {H : Hp} (h : ∀ a ∈ A, a ∈ B) : Keeps Γ (hide B H) (hide A H) := Keeps.of fun b o q => by
  obtain ⟨n, q⟩ := hide_some q
  rw [hide_out fun z => n (h b z)]
  exact q
theorem hide_upd {A : List Addr} {H : Hp} {p : Addr} {o : HO} (h : p ∈ A) : hide A (upd H p o) = hide A H := by
  funext b
  by_cases q : b ∈ A
  · rw [hide_in q, hide_in q]
  · rw [hide_out q, hide_out q, upd_ne (fun z => q (by rw [z]; exact h))]
/-- a new address needs not be seen -/
theorem hide_new {Γ : Ctx} {A : List Addr} {H : Hp} {p : Addr} (h : H p = none) : Keeps Γ (hide A H) (hide (p :: A) H) := Keeps.of fun b o q => by
  obtain ⟨n, q⟩ := hide_some q
  rw [hide_out (fun z => by
    rcases List.mem_cons.mp z with z | z
    · rw [z, h] at q; cases q
    · exact n z)]
  exact q
theorem RepL.get {Γ : Ctx} {H : Hp} : ∀ {ds : List D} {vs : List V} {i : Nat} {d : D}, RepL Γ H ds vs → ds[i]? = some d → ∃ v, vs[i]? = some v ∧ Rep Γ H d v
  | [], _, _, _, _, e => by simp at e
  | d :: ds, _, 0, _, h, e => by
    rw [RepL_cons] at h
    obtain ⟨v, ws, rfl, h1, _⟩ := h
    simp at e; subst e
    exact ⟨v, rfl, h1⟩
  | d :: ds, _, i + 1, _, h, e => by
    rw [RepL_cons] at h
    obtain ⟨v, ws, rfl, _, h2⟩ := h
    obtain ⟨v', e1, e2⟩ := RepL.get h2 (i := i) (by simpa using e)
    exact ⟨v', by simpa using e1, e2⟩
theorem RepL.getV {Γ : Ctx} {H : Hp} : ∀ {ds : List D} {vs : List V} {i : Nat} {v : V}, RepL Γ H ds vs → vs[i]? = some v → ∃ d, ds[i]? = some d ∧ Rep Γ H d v
  | [], _, _, _, h, e => by rw [RepL_nil] at h; rw [h] at e; simp at e
  | d :: ds, _, 0, _, h, e => by
    rw [RepL_cons] at h
    obtain ⟨v, ws, rfl, h1, _⟩ := h
    simp at e; subst e
    exact ⟨d, rfl, h1⟩
  | d :: ds, _, i + 1, _, h, e => by
    rw [RepL_cons] at h
    obtain ⟨v, ws, rfl, _, h2⟩ := h
    obtain ⟨v', e1, e2⟩ := RepL.getV h2 (i := i) (by simpa using e)
    exact ⟨v', by simpa using e1, e2⟩
theorem RepL.append {Γ : Ctx} {H : Hp} : ∀ {ds es : List D} {vs ws : List V}, RepL Γ H ds vs → RepL Γ H es ws → RepL Γ H (ds ++ es) (vs ++ ws)
  | [], _, _, _, h, k => by rw [RepL_nil] at h; rw [h]; exact k
  | d :: ds, _, _, _, h, k => by
    rw [RepL_cons] at h
    obtain ⟨v, ws, rfl, h1, h2⟩ := h
    show RepL Γ H (d :: (ds ++ _)) (v :: (ws ++ _))
    rw [RepL_cons]
    exact ⟨v, _, rfl, h1, RepL.append h2 k⟩
theorem RepL.one {Γ : Ctx} {H : Hp} {d : D} {v : V} (h : Rep Γ H d v) : RepL Γ H [d] [v] := RepL_cons.mpr ⟨v, [], rfl, h, RepL_nil.mpr rfl⟩
theorem RepL.drop {Γ : Ctx} {H : Hp} : ∀ {ds : List D} {vs : List V} (n : Nat), RepL Γ H ds vs → RepL Γ H (ds.drop n) (vs.drop n)
  | _, _, 0, h => h
  | [], _, _ + 1, h => by rw [RepL_nil] at h; rw [h]; simp [RepL_nil]
  | d :: ds, _, n + 1, h => by
    rw [RepL_cons] at h
    obtain ⟨v, ws, rfl, _, h2⟩ := h
    simpa using RepL.drop n h2
theorem RepL.take {Γ : Ctx} {H : Hp} : ∀ {ds : List D} {vs : List V} (n : Nat), RepL Γ H ds vs → RepL Γ H (ds.take n) (vs.take n)
  | _, _, 0, _ => by simp [RepL_nil]
  | [], _, _ + 1, h => by rw [RepL_nil] at h; rw [h]; simp [RepL_nil]
  | d :: ds, _, n + 1, h => by
    rw [RepL_cons] at h
    obtain ⟨v, ws, rfl, h1, h2⟩ := h
    show RepL Γ H (d :: ds.take n) (v :: ws.take n)
    rw [RepL_cons]
    exact ⟨v, _, rfl, h1, RepL.take n h2⟩
theorem RepL.set {Γ : Ctx} {H : Hp} {d : D} {v : V} (r : Rep Γ H d v) : ∀ {ds : List D} {vs : List V} (n : Nat), RepL Γ H ds vs → RepL Γ H (ds.set n d) (vs.set n v)
  | [], _, n, h => by rw [RepL_nil] at h; rw [h]; simp [RepL_nil]
  | e :: ds, _, 0, h => by
    rw [RepL_cons] at h
    obtain ⟨w, ws, rfl, h1, h2⟩ := h
    show RepL Γ H (d :: ds) (v :: ws)
    rw [RepL_cons]
    exact ⟨v, _, rfl, r, h2⟩
  | e :: ds, _, n + 1, h => by
    rw [RepL_cons] at h
    obtain ⟨w, ws, rfl, h1, h2⟩ := h
    show RepL Γ H (e :: ds.set n d) (w :: ws.set n v)
    rw [RepL_cons]
    exact ⟨w, _, rfl, h1, RepL.set r n h2⟩
end DL

set_option Elab.async false
set_option linter.all false
set_option maxRecDepth 100000
namespace DL
open PySem PySem.Spec L2
/-! ### draws -/
structure Rw where
  addr : Addr
  idx : Int
  mix : Int
  carry : Int
def rAddr : Option Rw → List Addr
  | none => []
  | some r => [r.addr]
/-- the tables that are one's own -/
def OwnOk (Γ : Ctx) (H : Hp) : Prop := ∀ p ∈ Γ.own, ∃ kvs, H p.1 = some (.dT kvs) ∧ TabOk Γ p.1 kvs
theorem OwnOk.keep {Γ : Ctx} {H H' : Hp} (h : OwnOk Γ H) (e : ∀ b kvs, H b = some (.dT kvs) → H' b = some (.dT kvs)) : OwnOk Γ H' := fun p hp => by
  obtain ⟨kvs, h1, h2⟩ := h p hp
  exact ⟨kvs, e _ _ h1, h2⟩
theorem lookup_none' {α : Type} {q : Addr} : ∀ {l : List (Addr × α)}, (∀ p ∈ l, p.1 ≠ q) → l.lookup q = none
  | [], _ => rfl
  | p :: r, h => by
    have e : (q == p.1) = false := by
      rw [beq_eq_false_iff_ne]
      exact fun z => h p List.mem_cons_self z.symm
    obtain ⟨p1, p2⟩ := p
    simp only [List.lookup, e]
    exact lookup_none' fun p hp => h p (List.mem_cons_of_mem _ hp)
def RowOk (Γ : Ctx) (H : Hp) (R : Option Rw) : Prop :=
  (LamX.Tabs Γ.tabs H ∧ OwnOk Γ H) ∧ match R with
    | none => True
    | some r => H r.addr = some (.lst [.ref Γ.scr, .int r.idx, .int r.mix, .int r.carry])
theorem SqL.grow {K : PySem.W.Frag} {H H' : Hp} {a : Addr} {xs : List V} (e : ∀ b o, H b = some o → H' b = some o) (h : SqL K H a xs) : SqL K H' a xs := by
  rcases h with (h | ⟨o, h⟩) | h
  · exact .inl (.inl (e _ _ h))
  · exact .inl (.inr ⟨o, e _ _ h⟩)
  · exact .inr h
theorem RowOk.grow {Γ : Ctx} {H H' : Hp} {R : Option Rw} (e : ∀ b o, H b = some o → H' b = some o) (h : RowOk Γ H R) : RowOk Γ H' R := by
  obtain ⟨⟨h1, h0⟩, h2⟩ := h
  refine ⟨⟨h1.ext e, h0.keep fun b k => e b _⟩, ?_⟩
  cases R with
  | none => trivial
  | some r => exact e _ _ h2
/-- a tracked list that is not the row is changed -/
theorem RowOk.upd {Γ : Ctx} {H : Hp} {R : Option Rw} {p : Addr} {xs ys : List V} (h : RowOk Γ H R) (hp : H p = some (.lst xs)) (n : p ∉ rAddr R) : RowOk Γ (upd H p (.lst ys)) R := by
  obtain ⟨⟨h1, h0⟩, h2⟩ := h
  refine ⟨⟨fun q hq => ?_, h0.keep fun b k hb => by rw [upd_ne (ne_of hb hp (by intro z; cases z))]; exact hb⟩, ?_⟩
  · obtain ⟨ps, a1, a2, a3⟩ := h1 q hq
    refine ⟨ps, by rw [upd_ne (ne_of a1 hp (by intro z; cases z))]; exact a1, a2, fun pos cv hc => ?_⟩
    obtain ⟨c, e1, e2⟩ := a3 pos cv hc
    refine ⟨c, e1, ?_⟩
    rw [upd_ne (ne_of e2 hp (by unfold LamX.CodeO; intro z; cases z))]
    exact e2
  · cases R with
    | none => trivial
    | some r =>
      show L2.upd H p (.lst ys) r.addr = _
      rw [upd_ne (fun z => n (by rw [← z]; exact List.mem_cons_self))]
      exact h2
/-- a new object -/
theorem RowOk.new {Γ : Ctx} {H : Hp} {R : Option Rw} {p : Addr} {o : HO} (h : RowOk Γ H R) (hp : H p = none) : RowOk Γ (L2.upd H p o) R := h.grow fun b u q => by rw [upd_ne (ne_of_none q hp)]; exact q
theorem own_none {Γ : Ctx} {H : Hp} {R : Option Rw} {q : Addr} (h : RowOk Γ H R) (hq : H q = none) : Γ.own.lookup q = none := lookup_none' fun p hp e => by
  obtain ⟨kvs, h1, _⟩ := h.1.2 p hp
  rw [e, hq] at h1
  cases h1
/-! ### outcomes -/
inductive Out (α : Type) where
  | ok (a : α) (R : Option Rw)
  | exn (c : String) (d : D) (R : Option Rw)
  | stuck
def M (α : Type) : Type := Option Rw → Out α
def M.stuck {α : Type} : M α := fun _ => .stuck
def M.lift {α : Type} : Option α → M α
  | some a => fun R => .ok a R
  | none => fun _ => .stuck
def M.raise {α : Type} (c : String) (d : D) : M α := fun R => .exn c d R
def M.bnd {α β : Type} (m : M α) (f : α → M β) : M β := fun R => match m R with
  | .ok a R' => f a R'
  | .exn c d R' => .exn c d R'
  | .stuck => .stuck
instance : Monad M where
  pure a := fun R => .ok a R
  bind := M.bnd
theorem pure_run {α : Type} (a : α) (R : Option Rw) : (pure a : M α) R = .ok a R := rfl
theorem bind_run {α β : Type} (m : M α) (f : α → M β) (R : Option Rw) : (m >>= f) R = match m R with
  | .ok a R' => f a R'
  | .exn c d R' => .exn c d R'
  | .stuck => .stuck := rfl
theorem M.pure_bind {α β : Type} (a : α) (f : α → M β) : (pure a >>= f) = f a := rfl
theorem M.bind_pure {α : Type} (m : M α) : (m >>= fun a => pure a) = m := by
  funext R
  rw [bind_run]
  cases m R <;> rfl
theorem M.assoc {α β γ : Type} (m : M α) (f : α → M β) (g : β → M γ) : ((m >>= f) >>= g) = m >>= fun a => f a >>= g := by
  funext R
  simp only [bind_run]
  cases m R <;> rfl
theorem M.lift_some {α : Type} (a : α) : (M.lift (some a) : M α) = pure a := rfl
theorem M.lift_none {α : Type} : (M.lift none : M α) = M.stuck := rfl
theorem M.stuck_bind {α β : Type} (f : α → M β) : ((M.stuck : M α) >>= f) = M.stuck := rfl
theorem M.raise_bind {α β : Type} (c : String) (d : D) (f : α → M β) : ((M.raise c d : M α) >>= f) = M.raise c d := rfl
instance : LawfulMonad M := LawfulMonad.mk' (m := M) (id_map := fun x => M.bind_pure x) (pure_bind := fun a f => rfl) (bind_assoc := fun m f g => M.assoc m f g)
def Out.run {α : Type} (o : Out α) (Qk : α → Option Rw → Prop) (Qe : String → D → Option Rw → Prop) : Prop := match o with
  | .ok a R => Qk a R
  | .exn c d R => Qe c d R
  | .stuck => False
theorem run_bind {α β : Type} {m : M α} {f : α → M β} {R : Option Rw} {Qk : β → Option Rw → Prop} {Qe : String → D → Option Rw → Prop} :
    ((m >>= f) R).run Qk Qe ↔ (m R).run (fun a R' => (f a R').run Qk Qe) Qe := by
  rw [bind_run]
  cases m R <;> rfl
theorem Out.run_mono {α : Type} {o : Out α} {Qk Qk' : α → Option Rw → Prop} {Qe Qe' : String → D → Option Rw → Prop} (h : o.run Qk Qe) (hk : ∀ a R, o = .ok a R → Qk a R → Qk' a R) (he : ∀ c d R, o = .exn c d R → Qe c d R → Qe' c d R) : o.run Qk' Qe' := by
  cases o with
  | ok a R => exact hk a R rfl h
  | exn c d R => exact he c d R rfl h
  | stuck => exact h
/-! ### slots -/
inductive SD where
  | none
  | dat (d : D)
  | own (xs : List D)
abbrev SEnv := List SD
inductive SlotsR (Γ : Ctx) (Hh H : Hp) : St → SEnv → List Addr → Prop
  | nil : SlotsR Γ Hh H [] [] []
  | none {x : Option V} {σ : St} {δ : SEnv} {P : List Addr} : SlotsR Γ Hh H σ δ P → SlotsR Γ Hh H (x :: σ) (.none :: δ) P
  | dat {v : V} {d : D} {σ : St} {δ : SEnv} {P : List Addr} : Rep Γ Hh d v → SlotsR Γ Hh H σ δ P → SlotsR Γ Hh H (some v :: σ) (.dat d :: δ) P
  | own {p : Addr} {vs : List V} {ds : List D} {σ : St} {δ : SEnv} {P : List Addr} : H p = some (.lst vs) → RepL Γ Hh ds vs → SlotsR Γ Hh H σ δ P → SlotsR Γ Hh H (some (.ref p) :: σ) (.own ds :: δ) (p :: P)
theorem SlotsR.length {Γ : Ctx} {Hh H : Hp} {σ : St} {δ : SEnv} {P : List Addr} (h : SlotsR Γ Hh H σ δ P) : σ.length = δ.length := by
  induction h with
  | nil => rfl
  | none _ ih => simp [ih]
  | dat _ _ ih => simp [ih]
  | own _ _ _ ih => simp [ih]
theorem SlotsR.get {Γ : Ctx} {Hh H : Hp} {σ : St} {δ : SEnv} {P : List Addr} (h : SlotsR Γ Hh H σ δ P) : ∀ {i : Nat} {d : D}, δ[i]? = some (.dat d) → ∃ v, σ[i]? = some (some v) ∧ Rep Γ Hh d v := by
  induction h with
  | nil => intro i d e; simp at e
  | none _ ih =>
    intro i d e
    cases i with
    | zero => simp at e
    | succ i => simpa using ih (i := i) (d := d) (by simpa using e)
  | dat r _ ih =>
    intro i d e
    cases i with
    | zero => simp at e; subst e; exact ⟨_, rfl, r⟩
    | succ i => simpa using ih (i := i) (d := d) (by simpa using e)
  | own _ _ _ ih =>
    intro i d e
    cases i with
    | zero => simp at e
    | succ i => simpa using ih (i := i) (d := d) (by simpa using e)
theorem SlotsR.getOwn {Γ : Ctx} {Hh H : Hp} {σ : St} {δ : SEnv} {P : List Addr} (h : SlotsR Γ Hh H σ δ P) : ∀ {i : Nat} {ds : List D}, δ[i]? = some (.own ds) → ∃ p vs, σ[i]? = some (some (.ref p)) ∧ H p = some (.lst vs) ∧ RepL Γ Hh ds vs ∧ p ∈ P := by
  induction h with
  | nil => intro i d e; simp at e
  | none _ ih =>
    intro i d e
    cases i with
    | zero => simp at e
    | succ i => simpa using ih (i := i) (ds := d) (by simpa using e)
  | dat r _ ih =>
    intro i d e
    cases i with
    | zero => simp at e
    | succ i => simpa using ih (i := i) (ds := d) (by simpa using e)
  | @own p vs ds σ δ P h1 h2 _ ih =>
    intro i d e
    cases i with
    | zero => simp at e; subst e; exact ⟨p, vs, rfl, h1, h2, List.mem_cons_self⟩
    | succ i =>
      obtain ⟨p', vs', e1, e2, e3, e4⟩ := ih (i := i) (ds := d) (by simpa using e)
      exact ⟨p', vs', by simpa using e1, e2, e3, List.mem_cons_of_mem _ e4⟩
/-- the heap moves: the seen part is kept, the owned lists stand -/
theorem SlotsR.keep {Γ : Ctx} {Hh H Hh' H' : Hp} (k : Keeps Γ Hh Hh') {σ : St} {δ : SEnv} {P : List Addr} (h : SlotsR Γ Hh H σ δ P) (ho : ∀ p ∈ P, ∀ vs, H p = some (.lst vs) → H' p = some (.lst vs)) : SlotsR Γ Hh' H' σ δ P := by
  induction h with
  | nil => exact .nil
  | none _ ih => exact .none (ih ho)
  | dat r _ ih => exact .dat (Rep.keep k _ r) (ih ho)
  | own h1 h2 _ ih => exact .own (ho _ List.mem_cons_self _ h1) (RepL.keep k _ h2) (ih fun p hp => ho p (List.mem_cons_of_mem _ hp))
/-- slot i holds d from now on; an owned list that stood there is let go -/
theorem SlotsR.set {Γ : Ctx} {Hh H : Hp} {v : V} {d : D} (r : Rep Γ Hh d v) {σ : St} {δ : SEnv} {P : List Addr} (h : SlotsR Γ Hh H σ δ P) : ∀ (i : Nat), ∃ P', SlotsR Γ Hh H (σ.set i (some v)) (δ.set i (.dat d)) P' ∧ P'.Sublist P := by
  induction h with
  | nil => intro i; exact ⟨[], by simpa using SlotsR.nil, .refl _⟩
  | none h ih =>
    intro i
    cases i with
    | zero => exact ⟨_, .dat r h, .refl _⟩
    | succ i => obtain ⟨P', h1, h2⟩ := ih i; exact ⟨P', .none h1, h2⟩
  | dat r' h ih =>
    intro i
    cases i with
    | zero => exact ⟨_, .dat r h, .refl _⟩
    | succ i => obtain ⟨P', h1, h2⟩ := ih i; exact ⟨P', .dat r' h1, h2⟩
  | own e r' h ih =>
    intro i
    cases i with
    | zero => exact ⟨_, .dat r h, List.sublist_cons_self _ _⟩
    | succ i => obtain ⟨P', h1, h2⟩ := ih i; exact ⟨_, .own e r' h1, h2.cons_cons _⟩
theorem SlotsR.wipe1 {Γ : Ctx} {Hh H : Hp} {σ : St} {δ : SEnv} {P : List Addr} (h : SlotsR Γ Hh H σ δ P) : ∀ (i : Nat), ∃ P', SlotsR Γ Hh H (σ.set i Option.none) (δ.set i .none) P' ∧ P'.Sublist P := by
  induction h with
  | nil => intro i; exact ⟨[], by simpa using SlotsR.nil, .refl _⟩
  | none h ih =>
    intro i
    cases i with
    | zero => exact ⟨_, .none h, .refl _⟩
    | succ i => obtain ⟨P', h1, h2⟩ := ih i; exact ⟨P', .none h1, h2⟩
  | dat r' h ih =>
    intro i
    cases i with
    | zero => exact ⟨_, .none h, .refl _⟩
    | succ i => obtain ⟨P', h1, h2⟩ := ih i; exact ⟨P', .dat r' h1, h2⟩
  | own e r' h ih =>
    intro i
    cases i with
    | zero => exact ⟨_, .none h, List.sublist_cons_self _ _⟩
    | succ i => obtain ⟨P', h1, h2⟩ := ih i; exact ⟨_, .own e r' h1, h2.cons_cons _⟩
/-- fewer addresses are hidden -/
theorem SlotsR.sub {Γ : Ctx} {H : Hp} {A P P' : List Addr} {σ : St} {δ : SEnv} {Q : List Addr} (h : SlotsR Γ (hide (A ++ P) H) H σ δ Q) (s : ∀ a ∈ P', a ∈ P) : SlotsR Γ (hide (A ++ P') H) H σ δ Q :=
  h.keep (hide_keeps fun a ha => by
    rcases List.mem_append.mp ha with z | z
    · exact List.mem_append_left _ z
    · exact List.mem_append_right _ (s a z)) fun _ _ _ e => e
/-! ### the state -/
/-- the script is one of the module's own objects -/
def ScrK (Γ : Ctx) : Prop := SqL Γ.K (fun _ => none) Γ.scr (Γ.cells.map V.int)
structure RepS (Γ : Ctx) (H0 : Hp) (A B P : List Addr) (R : Option Rw) (H : Hp) (σ : St) (δ : SEnv) : Prop where
  row : RowOk Γ H R
  ra : ∀ a ∈ rAddr R, a ∈ A
  ba : ∀ a ∈ B, a ∈ A
  rb : ∀ a ∈ rAddr R, a ∈ B
  al : ∀ a ∈ A, ∃ o, H a = some o ∧ nx o = true
  sc : SqL Γ.K H0 Γ.scr (Γ.cells.map V.int)
  sb : Γ.scr ∈ B → ScrK Γ
  ext : Ext Γ B H0 H
  own : ∀ p ∈ P, H0 p = none ∧ p ∉ A ∧ ∃ xs, H p = some (.lst xs)
  nd : P.Nodup
  slots : SlotsR Γ (hide (A ++ P) H) H σ δ P
/-- a step's frame -/
structure Mv (Γ : Ctx) (B : List Addr) (R R' : Option Rw) (H H' : Hp) : Prop where
  ext : Ext Γ B H H'
  row : RowOk Γ H' R'
  adr : rAddr R' = rAddr R
theorem Mv.refl {Γ : Ctx} {B : List Addr} {R : Option Rw} {H : Hp} (h : RowOk Γ H R) : Mv Γ B R R H H := ⟨.refl, h, rfl⟩
theorem Mv.trans {Γ : Ctx} {B : List Addr} {R R1 R2 : Option Rw} {H H1 H2 : Hp} (a : Mv Γ B R R1 H H1) (b : Mv Γ B R1 R2 H1 H2) : Mv Γ B R R2 H H2 := ⟨a.ext.trans b.ext, b.row, b.adr.trans a.adr⟩
theorem Mv.grow {Γ : Ctx} {B : List Addr} {R : Option Rw} {H H' : Hp} (h : RowOk Γ H R) (e : ∀ b o, H b = some o → H' b = some o) : Mv Γ B R R H H' := ⟨.of e, h.grow e, rfl⟩
section
variable {Γ : Ctx} {H0 H H' : Hp} {A B P : List Addr} {R R' : Option Rw} {σ : St} {δ : SEnv}
theorem RepS.bap (S : RepS Γ H0 A B P R H σ δ) : ∀ a ∈ B, a ∈ A ++ P := fun a h => List.mem_append_left _ (S.ba a h)
theorem Ext.sql {Γ : Ctx} {K : PySem.W.Frag} {B : List Addr} {H H' : Hp} {a : Addr} {xs : List V} (e : Ext Γ B H H') (m : a ∈ B → SqL K (fun _ => none) a xs) (h : SqL K H a xs) : SqL K H' a xs := by
  by_cases n : a ∈ B
  · rcases m n with (h | ⟨o, h⟩) | h
    · cases h
    · cases h
    · exact .inr h
  rcases h with (h | ⟨o, h⟩) | h
  · exact .inl (.inl (e.st _ _ n h rfl))
  · exact .inl (.inr ⟨o, e.st _ _ n h rfl⟩)
  · exact .inr h
theorem RepS.scr (S : RepS Γ H0 A B P R H σ δ) : SqL Γ.K H Γ.scr (Γ.cells.map V.int) := S.ext.sql S.sb S.sc
theorem RepS.all (S : RepS Γ H0 A B P R H σ δ) : ∀ a ∈ A ++ P, ∃ o, H a = some o ∧ nx o = true := fun a ha => by
  rcases List.mem_append.mp ha with z | z
  · exact S.al a z
  · obtain ⟨_, _, xs, e⟩ := S.own a z
    exact ⟨_, e, rfl⟩
theorem RepS.keeps (S : RepS Γ H0 A B P R H σ δ) (m : Mv Γ B R R' H H') : Keeps Γ (hide (A ++ P) H) (hide (A ++ P) H') := m.ext.keeps S.bap
theorem RepS.move (S : RepS Γ H0 A B P R H σ δ) (m : Mv Γ B R R' H H') : RepS Γ H0 A B P R' H' σ δ where
  row := m.row
  ra := by rw [m.adr]; exact S.ra
  ba := S.ba
  rb := by rw [m.adr]; exact S.rb
  al := fun a ha => by
    obtain ⟨o, h, n⟩ := S.al a ha
    obtain ⟨o', h', n'⟩ := m.ext.al a o h
    exact ⟨o', h', n' n⟩
  sc := S.sc
  sb := S.sb
  ext := S.ext.trans m.ext
  own := fun p hp => by
    obtain ⟨h1, h2, xs, h3⟩ := S.own p hp
    exact ⟨h1, h2, xs, m.ext.st p _ (fun z => h2 (S.ba p z)) h3 rfl⟩
  nd := S.nd
  slots := S.slots.keep (S.keeps m) fun p hp vs e => m.ext.st p _ (fun z => (S.own p hp).2.1 (S.ba p z)) e rfl
end
/-! ### readings over data -/
def tG {α β : Type} (Γ : Ctx) (W : WX) (rep : Hp → α → β → Prop) (f : SEnv → M α) : St → Hp → (β → Hp → Prop) → Prop := fun σ H Q =>
  ∃ H0 A B P R δ, RepS Γ H0 A B P R H σ δ ∧ (f δ R).run
    (fun a R' => ∀ b H', Mv Γ B R R' H H' → rep (hide (A ++ P) H') a b → Q b H')
    (fun c d R' => ∀ v dx H', Mv Γ B R R' H H' → H' dx = some (.xd [(("value" : Str), v)]) → Rep Γ (hide (A ++ P) H') d v → W (.ref (Γ.cls c)) (some dx) σ H')
abbrev tD (Γ : Ctx) (W : WX) (f : SEnv → M D) : TE := tG Γ W (Rep Γ) f
def repB : Hp → Bool → Bool → Prop := fun _ b c => b = c
abbrev tB (Γ : Ctx) (W : WX) (f : SEnv → M Bool) : TT := tG Γ W repB f
abbrev tL (Γ : Ctx) (W : WX) (f : SEnv → M (List D)) : TA := tG Γ W (RepL Γ) f
theorem _root_.L2.PE.imp {X : Cx} {e : Expr} {t t' : TE} (h : PE X e t) (i : ∀ σ H Q, t' σ H Q → t σ H Q) : PE X e t' := ⟨fun pins s σ H Q I q => h.run pins s σ H Q I (i σ H Q q)⟩
theorem _root_.L2.PT.imp {X : Cx} {e : Expr} {t t' : TT} (h : PT X e t) (i : ∀ σ H Q, t' σ H Q → t σ H Q) : PT X e t' := ⟨fun pins s σ H Q I q => h.run pins s σ H Q I (i σ H Q q)⟩
theorem _root_.L2.PW.imp {X : Cx} {e : Expr} {t t' : TT} (h : PW X e t) (i : ∀ σ H Q, t' σ H Q → t σ H Q) : PW X e t' := ⟨fun wh pins s σ H Q I q => h.run wh pins s σ H Q I (i σ H Q q)⟩
theorem _root_.L2.PA.imp {X : Cx} {e : List Expr} {t t' : TA} (h : PA X e t) (i : ∀ σ H Q, t' σ H Q → t σ H Q) : PA X e t' := ⟨fun pos pins s σ H Q I q => h.run pos pins s σ H Q I (i σ H Q q)⟩
theorem _root_.L2.PS.imp {X : Cx} {e : Stmt} {t t' : TS} (h : PS X e t) (i : ∀ D σ H, t' D σ H → t D σ H) : PS X e t' := ⟨fun pins s σ H D I q => h.run pins s σ H D I (i D σ H q)⟩
theorem _root_.L2.PSs.imp {X : Cx} {e : List Stmt} {t t' : TS} (h : PSs X e t) (i : ∀ D σ H, t' D σ H → t D σ H) : PSs X e t' := ⟨fun pins s σ H D I q => h.run pins s σ H D I (i D σ H q)⟩
section
variable {Γ : Ctx} {W : WX} {α β γ α' β' : Type} {rep : Hp → α → β → Prop} {rep' : Hp → α' → β' → Prop}
/-- one after another -/
theorem tG_bind {f : SEnv → M α} {g : α → SEnv → M α'} {σ : St} {H : Hp} {Q : β' → Hp → Prop} {t : β → St → Hp → (β' → Hp → Prop) → Prop}
    (h : tG Γ W rep' (fun δ => f δ >>= fun a => g a δ) σ H Q)
    (k : ∀ a b H0 A B P R H1 δ, RepS Γ H0 A B P R H1 σ δ → rep (hide (A ++ P) H1) a b → (g a δ R).run
        (fun a' R' => ∀ b' H', Mv Γ B R R' H1 H' → rep' (hide (A ++ P) H') a' b' → Q b' H')
        (fun c d R' => ∀ v dx H', Mv Γ B R R' H1 H' → H' dx = some (.xd [(("value" : Str), v)]) → Rep Γ (hide (A ++ P) H') d v → W (.ref (Γ.cls c)) (some dx) σ H') → t b σ H1 Q) :
    tG Γ W rep f σ H fun b H1 => t b σ H1 Q := by
  obtain ⟨H0, A, B, P, R, δ, S, h⟩ := h
  refine ⟨H0, A, B, P, R, δ, S, ?_⟩
  refine Out.run_mono (run_bind.mp h) (fun a R1 _ q b H1 m r => ?_) fun c d R1 _ q => q
  refine k a b H0 A B P R1 H1 δ (S.move m) r (Out.run_mono q (fun a' R2 _ q2 b' H2 m2 r2 => q2 b' H2 (m.trans m2) r2) fun c d R2 _ q2 v dx H2 m2 => q2 v dx H2 (m.trans m2))
theorem tG_pure {a : α} {σ : St} {H : Hp} {Q : β → Hp → Prop} {R : Option Rw} {H0 : Hp} {A B P : List Addr} {δ : SEnv} {b : β} (S : RepS Γ H0 A B P R H σ δ)
    (h : (pure a : M α) R |>.run (fun a R' => ∀ b H', Mv Γ B R R' H H' → rep (hide (A ++ P) H') a b → Q b H') (fun c d R' => ∀ v dx H', Mv Γ B R R' H H' → H' dx = some (.xd [(("value" : Str), v)]) → Rep Γ (hide (A ++ P) H') d v → W (.ref (Γ.cls c)) (some dx) σ H'))
    (r : rep (hide (A ++ P) H) a b) : Q b H := h b H (.refl S.row) r
end
end DL

set_option Elab.async false
set_option linter.all false
set_option maxRecDepth 100000
namespace DL
open PySem PySem.Spec L2
abbrev Grow (H H' : Hp) : Prop := ∀ b o, H b = some o → H' b = some o
abbrev KK {α β : Type} (Γ : Ctx) (B A P : List Addr) (rep : Hp → α → β → Prop) (R : Option Rw) (H : Hp) (Q : β → Hp → Prop) : α → Option Rw → Prop := fun a R' => ∀ b H', Mv Γ B R R' H H' → rep (hide (A ++ P) H') a b → Q b H'
abbrev KE (Γ : Ctx) (W : WX) (B A P : List Addr) (σ : St) (R : Option Rw) (H : Hp) : String → D → Option Rw → Prop := fun c d R' => ∀ v dx H', Mv Γ B R R' H H' → H' dx = some (.xd [(("value" : Str), v)]) → Rep Γ (hide (A ++ P) H') d v → W (.ref (Γ.cls c)) (some dx) σ H'
section
variable {Γ : Ctx} {W : WX} {α β α' β' : Type} {rep : Hp → α → β → Prop} {rep' : Hp → α' → β' → Prop} {H0 H : Hp} {A B P : List Addr} {R : Option Rw} {σ : St} {δ : SEnv}
theorem go {f : M α} {g : α → M α'} {Q : β' → Hp → Prop} {t : β → Hp → Prop} (S : RepS Γ H0 A B P R H σ δ) (h : ((f >>= g) R).run (KK Γ B A P rep' R H Q) (KE Γ W B A P σ R H))
    (k : ∀ a b R1 H1, Mv Γ B R R1 H H1 → rep (hide (A ++ P) H1) a b → RepS Γ H0 A B P R1 H1 σ δ → (g a R1).run (KK Γ B A P rep' R1 H1 Q) (KE Γ W B A P σ R1 H1) → t b H1) :
    (f R).run (KK Γ B A P rep R H t) (KE Γ W B A P σ R H) :=
  Out.run_mono (run_bind.mp h) (fun a R1 _ q b H1 m r => k a b R1 H1 m r (S.move m) (Out.run_mono q (fun a' R2 _ q2 b' H2 m2 r2 => q2 b' H2 (m.trans m2) r2) fun c d R2 _ q2 v dx H2 m2 => q2 v dx H2 (m.trans m2))) fun c d R1 _ q => q
theorem lift_out {o : Option α} {Q : β → Hp → Prop} {E : String → D → Option Rw → Prop} (S : RepS Γ H0 A B P R H σ δ) (h : (M.lift o R).run (KK Γ B A P rep R H Q) E) : ∃ d, o = some d ∧ ∀ v H', Grow H H' → rep (hide (A ++ P) H') d v → Q v H' := by
  cases o with
  | none => exact h.elim
  | some d => exact ⟨d, rfl, fun v H' g r => h v H' (.grow S.row g) r⟩
end
/-! ### operations by data -/
abbrev All (A : List Addr) (H : Hp) : Prop := ∀ p ∈ A, ∃ o, H p = some o ∧ nx o = true
def OpD (Γ : Ctx) (r : R2) (f : D → D → Option D) : Prop := ∀ (A : List Addr) (H : Hp) (x y : V) (a b d : D) (Q : VK), All A H → Rep Γ (hide A H) a x → Rep Γ (hide A H) b y → f a b = some d → (∀ v H', Grow H H' → Rep Γ (hide A H') d v → Q v H') → r x y H Q
def UnD (Γ : Ctx) (r : V → Hp → VK → Prop) (f : D → Option D) : Prop := ∀ (A : List Addr) (H : Hp) (x : V) (a d : D) (Q : VK), All A H → Rep Γ (hide A H) a x → f a = some d → (∀ v H', Grow H H' → Rep Γ (hide A H') d v → Q v H') → r x H Q
def CallD (Γ : Ctx) (r : List V → Hp → VK → Prop) (f : List D → Option D) : Prop := ∀ (A : List Addr) (H : Hp) (xs : List V) (as : List D) (d : D) (Q : VK), All A H → RepL Γ (hide A H) as xs → f as = some d → (∀ v H', Grow H H' → Rep Γ (hide A H') d v → Q v H') → r xs H Q
def MtD (Γ : Ctx) (T : String) (r : V → List V → Hp → VK → Prop) (f : D → List D → Option D) : Prop := ∀ (A : List Addr) (H : Hp) (x : V) (xs : List V) (a : D) (as : List D) (d : D) (Q : VK), All A H → Rep Γ (hide A H) a x → RepL Γ (hide A H) as xs → f a as = some d → (∀ v H', Grow H H' → Rep Γ (hide A H') d v → Q v H') → r x xs H Q
theorem all_out {A : List Addr} {H : Hp} {p : Addr} (h : All A H) (n : H p = none) : p ∉ A := fun z => by
  obtain ⟨o, e, _⟩ := h p z
  rw [n] at e; cases e
theorem Grow.keeps {Γ : Ctx} {A : List Addr} {H H' : Hp} (g : Grow H H') : Keeps Γ (hide A H) (hide A H') := Keeps.of fun b o q => by
  obtain ⟨n, q⟩ := hide_some q
  rw [hide_out n]
  exact g _ _ q
theorem grow_new {H : Hp} {p : Addr} {o : HO} (h : H p = none) : Grow H (upd H p o) := fun b u q => by rw [upd_ne (ne_of_none q h)]; exact q
theorem Rep.of_int {Γ : Ctx} {H : Hp} {i : Int} : Rep Γ H (.int i) (.int i) := by rw [Rep]
theorem Rep.of_bl {Γ : Ctx} {H : Hp} {b : Bool} : Rep Γ H (.bl b) (.bl b) := by rw [Rep]
theorem Rep.of_str {Γ : Ctx} {H : Hp} {x : Str} : Rep Γ H (.str x) (.str x) := by rw [Rep]
theorem Rep.of_non {Γ : Ctx} {H : Hp} : Rep Γ H .non .non := by rw [Rep]
theorem Rep.of_fn {Γ : Ctx} {H : Hp} {x : String} (hl : Γ.lam x = none) : Rep Γ H (.fn x) (.ref (Γ.fnA x)) := by
  rw [Rep]
  unfold FnR
  rw [hl]
theorem Rep.int_eq {Γ : Ctx} {H : Hp} {i : Int} {v : V} (h : Rep Γ H (.int i) v) : v = .int i := by rw [Rep] at h; exact h
theorem Rep.bl_eq {Γ : Ctx} {H : Hp} {b : Bool} {v : V} (h : Rep Γ H (.bl b) v) : v = .bl b := by rw [Rep] at h; exact h
theorem Rep.str_eq {Γ : Ctx} {H : Hp} {x : Str} {v : V} (h : Rep Γ H (.str x) v) : v = .str x := by rw [Rep] at h; exact h
theorem Rep.non_eq {Γ : Ctx} {H : Hp} {v : V} (h : Rep Γ H .non v) : v = .non := by rw [Rep] at h; exact h
theorem Rep.lst_at {Γ : Ctx} {A : List Addr} {H : Hp} {ds : List D} {v : V} (h : Rep Γ (hide A H) (.lst ds) v) : ∃ a xs, v = .ref a ∧ H a = some (.lst xs) ∧ RepL Γ (hide A H) ds xs ∧ a ∉ A := by
  rw [Rep_lst] at h
  obtain ⟨a, xs, e, e1, h⟩ := h
  obtain ⟨n, e1⟩ := hide_some e1
  exact ⟨a, xs, e, e1, h, n⟩
theorem Rep.tup_at {Γ : Ctx} {A : List Addr} {H : Hp} {ds : List D} {v : V} (h : Rep Γ (hide A H) (.tup ds) v) : ∃ a xs, v = .ref a ∧ H a = some (.tup xs) ∧ RepL Γ (hide A H) ds xs ∧ a ∉ A := by
  rw [Rep_tup] at h
  obtain ⟨a, xs, e, e1, h⟩ := h
  obtain ⟨n, e1⟩ := hide_some e1
  exact ⟨a, xs, e, e1, h, n⟩
/-- a new list, a new tuple -/
theorem Rep.new_lst {Γ : Ctx} {A : List Addr} {H : Hp} {ds : List D} {xs : List V} {p : Addr} (al : All A H) (h : H p = none) (r : RepL Γ (hide A H) ds xs) : Rep Γ (hide A (upd H p (.lst xs))) (.lst ds) (.ref p) :=
  Rep_lst.mpr ⟨p, xs, rfl, by rw [hide_out (all_out al h), upd_same], RepL.keep (Grow.keeps (grow_new h)) _ r⟩
theorem Rep.new_tup {Γ : Ctx} {A : List Addr} {H : Hp} {ds : List D} {xs : List V} {p : Addr} (al : All A H) (h : H p = none) (r : RepL Γ (hide A H) ds xs) : Rep Γ (hide A (upd H p (.tup xs))) (.tup ds) (.ref p) :=
  Rep_tup.mpr ⟨p, xs, rfl, by rw [hide_out (all_out al h), upd_same], RepL.keep (Grow.keeps (grow_new h)) _ r⟩
section
variable {Γ : Ctx} {W : WX} {X : Cx} {e a b c : Expr} {es : List Expr} {fe fa fb fc : SEnv → M D} {ft fu : SEnv → M Bool} {fs : SEnv → M (List D)} {pos : Pos}
/-! ### names, constants -/
def dVar (i : Nat) : SEnv → M D := fun δ => match δ[i]? with
  | some (.dat d) => pure d
  | _ => M.stuck
theorem pd_var {i : Nat} (h : PE X e (tVar i)) : PE X e (tD Γ W (dVar i)) := h.imp fun σ H Q h => by
  obtain ⟨H0, A, B, P, R, δ, S, h⟩ := h
  unfold dVar at h
  cases q : δ[i]? with
  | none => rw [q] at h; exact h.elim
  | some s =>
    rw [q] at h
    cases s with
    | none => exact h.elim
    | own _ => exact h.elim
    | dat d =>
      obtain ⟨v, e1, e2⟩ := S.slots.get q
      exact ⟨v, e1, h v H (.refl S.row) e2⟩
theorem pd_c {v : V} {d : D} (h : PE X e (tC v)) (r : ∀ Γ H, Rep Γ H d v) : PE X e (tD Γ W fun _ => pure d) := h.imp fun σ H Q h => by
  obtain ⟨H0, A, B, P, R, δ, S, h⟩ := h
  exact h v H (.refl S.row) (r _ _)
theorem pd_int {i : Int} (h : PE X e (tC (.int i))) : PE X e (tD Γ W fun _ => pure (.int i)) := pd_c h fun _ _ => Rep.of_int
theorem pd_str {x : Str} (h : PE X e (tC (.str x))) : PE X e (tD Γ W fun _ => pure (.str x)) := pd_c h fun _ _ => Rep.of_str
theorem pd_bl {x : Bool} (h : PE X e (tC (.bl x))) : PE X e (tD Γ W fun _ => pure (.bl x)) := pd_c h fun _ _ => Rep.of_bl
theorem pd_non (h : PE X e (tC .non)) : PE X e (tD Γ W fun _ => pure .non) := pd_c h fun _ _ => Rep.of_non
theorem pd_fn {x : String} (hl : Γ.lam x = none) (h : PE X e (tC (.ref (Γ.fnA x)))) : PE X e (tD Γ W fun _ => pure (.fn x)) := h.imp fun σ H Q h => by
  obtain ⟨H0, A, B, P, R, δ, S, h⟩ := h
  exact h (.ref (Γ.fnA x)) H (.refl S.row) (Rep.of_fn hl)
/-! ### operators, comparisons -/
def d2 (f : D → D → Option D) (fa fb : SEnv → M D) : SEnv → M D := fun δ => fa δ >>= fun x => fb δ >>= fun y => M.lift (f x y)
def d1 (f : D → Option D) (fa : SEnv → M D) : SEnv → M D := fun δ => fa δ >>= fun x => M.lift (f x)
theorem op_imp {r : R2} {f : D → D → Option D} (hr : OpD Γ r f) {σ : St} {H : Hp} {Q : VK} (h : tD Γ W (d2 f fa fb) σ H Q) : tOp r (tD Γ W fa) (tD Γ W fb) σ H Q := by
  obtain ⟨H0, A, B, P, R, δ, S, h⟩ := h
  refine ⟨H0, A, B, P, R, δ, S, go S h fun x vx R1 H1 m1 r1 S1 h1 => ⟨H0, A, B, P, R1, δ, S1, go S1 h1 fun y vy R2 H2 m2 r2 S2 h2 => ?_⟩⟩
  obtain ⟨d, e, q⟩ := lift_out S2 h2
  exact hr _ H2 vx vy x y d Q S2.all (Rep.keep (S1.keeps m2) _ r1) r2 e q
theorem un_imp {r : V → Hp → VK → Prop} {f : D → Option D} (hr : UnD Γ r f) {σ : St} {H : Hp} {Q : VK} (h : tD Γ W (d1 f fa) σ H Q) : tUn r (tD Γ W fa) σ H Q := by
  obtain ⟨H0, A, B, P, R, δ, S, h⟩ := h
  refine ⟨H0, A, B, P, R, δ, S, go S h fun x vx R1 H1 m1 r1 S1 h1 => ?_⟩
  obtain ⟨d, e, q⟩ := lift_out S1 h1
  exact hr _ H1 vx x d Q S1.all r1 e q
theorem pd_op {op : Operator} {r : R2} {f : D → D → Option D} (ho : OpR X (binaryOp op) r) (hr : OpD Γ r f) (ha : PE X a (tD Γ W fa)) (hb : PE X b (tD Γ W fb)) : PE X (.BinOp a op b pos) (tD Γ W (d2 f fa fb)) :=
  (pe_op ho ha hb).imp fun _ _ _ h => op_imp hr h
theorem pd_un {op : UnaryOp} {r : V → Hp → VK → Prop} {f : D → Option D} (ho : UnR X (unaryOp op) r) (hr : UnD Γ r f) (ha : PE X a (tD Γ W fa)) : PE X (.UnaryOp op a pos) (tD Γ W (d1 f fa)) :=
  (pe_un ho ha).imp fun _ _ _ h => un_imp hr h
theorem pd_cmp {op : CmpOp} {r : R2} {f : D → D → Option D} (ho : OpR X (compareOp op) r) (hr : OpD Γ r f) (ha : PE X a (tD Γ W fa)) (hb : PE X b (tD Γ W fb)) (hm : behindInMarks op b = false) : PE X (.Compare a [op] [b] pos) (tD Γ W (d2 f fa fb)) :=
  (pe_cmpR ho ha hb hm).imp fun _ _ _ h => op_imp hr h
def asB : D → Option Bool
  | .bl b => some b
  | _ => none
def dB (f : SEnv → M D) : SEnv → M Bool := fun δ => f δ >>= fun x => M.lift (asB x)
theorem asB_eq {d : D} {k : Bool} (h : asB d = some k) : d = .bl k := by
  cases d <;> simp [asB] at h
  rw [h]
/-- a value that is a bool, as a test -/
theorem test_imp {σ : St} {H : Hp} {Q : Bool → Hp → Prop} (h : tB Γ W (dB fe) σ H Q) : tTest (tD Γ W fe) σ H Q := by
  obtain ⟨H0, A, B, P, R, δ, S, h⟩ := h
  refine ⟨H0, A, B, P, R, δ, S, go S h fun x vx R1 H1 m1 r1 S1 h1 => ?_⟩
  obtain ⟨k, e, q⟩ := lift_out S1 h1
  rw [asB_eq e] at r1
  exact ⟨k, r1.bl_eq, q k H1 (fun _ _ z => z) rfl⟩
theorem pt_imp2 {op : CmpOp} {r : R2} {f : D → D → Option D} (hr : OpD Γ r f) {σ : St} {H : Hp} {Q : Bool → Hp → Prop} (h : tB Γ W (dB (d2 f fa fb)) σ H Q) : tTest (tOp r (tD Γ W fa) (tD Γ W fb)) σ H Q := by
  have h1 := test_imp h
  exact op_imp hr h1
theorem pdt_cmp {op : CmpOp} {r : R2} {f : D → D → Option D} (ho : OpR X (compareOp op) r) (hr : OpD Γ r f) (ha : PE X a (tD Γ W fa)) (hb : PE X b (tD Γ W fb)) (hm : behindInMarks op b = false) : PT X (.Compare a [op] [b] pos) (tB Γ W (dB (d2 f fa fb))) :=
  (pt_cmpR ho ha hb hm).imp fun _ _ _ h => op_imp hr (test_imp h)
def dChain (f g : D → D → Option D) (fa fb fc : SEnv → M D) : SEnv → M D := fun δ => fa δ >>= fun x => fb δ >>= fun y => M.lift (f x y) >>= fun z => M.lift (asB z) >>= fun k => if k = true then fc δ >>= fun w => M.lift (g y w) else pure (.bl false)
theorem lift_bind {α β : Type} {o : Option α} {g : α → M β} {R : Option Rw} {Qk : β → Option Rw → Prop} {Qe : String → D → Option Rw → Prop} (h : ((M.lift o >>= g) R).run Qk Qe) : ∃ a, o = some a ∧ (g a R).run Qk Qe := by
  cases o with
  | none => exact h.elim
  | some a => exact ⟨a, rfl, h⟩
theorem chain_imp {r r' : R2} {f g : D → D → Option D} (hr : OpD Γ r f) (hr' : OpD Γ r' g) {σ : St} {H : Hp} {Q : VK} (h : tD Γ W (dChain f g fa fb fc) σ H Q) : tChain r r' (tD Γ W fa) (tD Γ W fb) (tD Γ W fc) σ H Q := by
  obtain ⟨H0, A, B, P, R, δ, S, h⟩ := h
  refine ⟨H0, A, B, P, R, δ, S, go S h fun x vx R1 H1 m1 r1 S1 h1 => ⟨H0, A, B, P, R1, δ, S1, go S1 h1 fun y vy R2 H2 m2 r2 S2 h2 => ?_⟩⟩
  obtain ⟨d, e, h3⟩ := lift_bind h2
  obtain ⟨k, e2, h4⟩ := lift_bind h3
  refine hr _ H2 vx vy x y d _ S2.all (Rep.keep (S1.keeps m2) _ r1) r2 e fun v H3 g3 r3 => ?_
  have m3 : Mv Γ B R2 R2 H2 H3 := .grow S2.row g3
  have S3 := S2.move m3
  rw [asB_eq e2] at r3
  refine ⟨k, r3.bl_eq, ?_⟩
  cases k with
  | false =>
    rw [if_neg Bool.false_ne_true] at h4 ⊢
    exact h4 (.bl false) H3 m3 Rep.of_bl
  | true =>
    rw [if_pos rfl] at h4 ⊢
    refine ⟨H0, A, B, P, R2, δ, S3, go S3 (Out.run_mono h4 (fun a' R4 _ q2 b' H4 m4 r4 => q2 b' H4 (m3.trans m4) r4) fun c d R4 _ q2 v dx H4 m4 => q2 v dx H4 (m3.trans m4)) fun w vw R4 H4 m4 r4 S4 h5 => ?_⟩
    obtain ⟨d2, e4, q⟩ := lift_out S4 h5
    exact hr' _ H4 vy vw y w d2 Q S4.all (Rep.keep (S3.keeps m4) _ (Rep.keep (Grow.keeps g3) _ r2)) r4 e4 q
theorem pd_chain {op op' : CmpOp} {r r' : R2} {f g : D → D → Option D} (ho : OpR X (compareOp op) r) (hr : OpD Γ r f) (ho' : OpR X (compareOp op') r') (hr' : OpD Γ r' g) (ha : PE X a (tD Γ W fa)) (hb : PE X b (tD Γ W fb)) (hc : PE X c (tD Γ W fc))
    (hm : lastMarks [op, op'] [b, c] = false := by with_unfolding_all rfl) : PE X (.Compare a [op, op'] [b, c] pos) (tD Γ W (dChain f g fa fb fc)) := (pe_chain ho ho' ha hb hc hm).imp fun _ _ _ h => chain_imp hr hr' h
theorem pdt_chain {op op' : CmpOp} {r r' : R2} {f g : D → D → Option D} (ho : OpR X (compareOp op) r) (hr : OpD Γ r f) (ho' : OpR X (compareOp op') r') (hr' : OpD Γ r' g) (ha : PE X a (tD Γ W fa)) (hb : PE X b (tD Γ W fb)) (hc : PE X c (tD Γ W fc))
    (hm : lastMarks [op, op'] [b, c] = false := by with_unfolding_all rfl) : PT X (.Compare a [op, op'] [b, c] pos) (tB Γ W (dB (dChain f g fa fb fc))) := (pt_chain ho ho' ha hb hc hm).imp fun _ _ _ h => chain_imp hr hr' (test_imp h)
/-! ### truth -/
def truD : D → Option Bool
  | .non => some false
  | .bl b => some b
  | .int i => some (i != 0)
  | .str x => if x.length ≤ sizeLine then some ((x.length : Int) != 0) else none
  | .lst ds => some (!ds.isEmpty)
  | .tup ds => some (!ds.isEmpty)
  | .dic => some false
  | _ => none
theorem isEmptyR {Γ : Ctx} {H : Hp} {ds : List D} {xs : List V} (r : RepL Γ H ds xs) : xs.isEmpty = ds.isEmpty := by
  have h := r.length
  cases ds <;> cases xs <;> simp at h <;> rfl
theorem tru_ok {K : PySem.W.Frag} {A : List Addr} {H : Hp} {d : D} {v : V} {k : Bool} (r : Rep Γ (hide A H) d v) (e : truD d = some k) : TruV K v H k := by
  cases d with
  | non => rw [r.non_eq]; exact (Option.some.inj e).symm
  | bl b => rw [r.bl_eq]; exact (Option.some.inj e).symm
  | int i => rw [r.int_eq]; exact (Option.some.inj e).symm
  | str x =>
    rw [r.str_eq]
    simp only [truD] at e
    split at e
    · exact ⟨by assumption, (Option.some.inj e).symm⟩
    · cases e
  | lst ds =>
    obtain ⟨p, xs, rfl, h1, h2, _⟩ := r.lst_at
    exact .inl ⟨xs, SqL.of h1, by rw [isEmptyR h2]; exact (Option.some.inj e).symm⟩
  | tup ds =>
    obtain ⟨p, xs, rfl, h1, h2, _⟩ := r.tup_at
    exact .inr (.inl ⟨xs, SqT.of h1, by rw [isEmptyR h2]; exact (Option.some.inj e).symm⟩)
  | dic =>
    rw [Rep] at r
    obtain ⟨p, rfl, h1⟩ := r
    exact .inr (.inr ⟨[], (hide_some h1).2, (Option.some.inj e).symm⟩)
  | web _ _ => cases e
  | row _ => cases e
  | fn _ => cases e
def dT (f : SEnv → M D) : SEnv → M Bool := fun δ => f δ >>= fun x => M.lift (truD x)
theorem pdt_tru (ha : PE X a (tD Γ W fa)) (he : ∀ whole, isTrue a X.env whole = (do let v ← whole; standAt a.pos; holding [v] (truthy v)) := by intro _; rfl) : PT X a (tB Γ W (dT fa)) :=
  (pt_truth ha he).imp fun σ H Q h => by
    obtain ⟨H0, A, B, P, R, δ, S, h⟩ := h
    refine ⟨H0, A, B, P, R, δ, S, go S h fun x vx R1 H1 m1 r1 S1 h1 => ?_⟩
    obtain ⟨k, e, q⟩ := lift_out S1 h1
    exact ⟨k, tru_ok r1 e, q k H1 (fun _ _ z => z) rfl⟩
/-! ### and, or, not, if -/
def bAnd (f g : SEnv → M Bool) : SEnv → M Bool := fun δ => f δ >>= fun k => if k = true then g δ else pure false
def bOr (f g : SEnv → M Bool) : SEnv → M Bool := fun δ => f δ >>= fun k => if k = true then pure true else g δ
def bNot (f : SEnv → M Bool) : SEnv → M Bool := fun δ => f δ >>= fun k => pure (!k)
theorem and_imp {σ : St} {H : Hp} {Q : Bool → Hp → Prop} (h : tB Γ W (bAnd ft fu) σ H Q) : tAnd (tB Γ W ft) (tB Γ W fu) σ H Q := by
  obtain ⟨H0, A, B, P, R, δ, S, h⟩ := h
  refine ⟨H0, A, B, P, R, δ, S, go S h fun k k' R1 H1 m1 r1 S1 h1 => ?_⟩
  have r1 : k = k' := r1
  subst r1
  cases k with
  | true => exact ⟨H0, A, B, P, R1, δ, S1, h1⟩
  | false => exact h1 false H1 (.refl S1.row) rfl
theorem or_imp {σ : St} {H : Hp} {Q : Bool → Hp → Prop} (h : tB Γ W (bOr ft fu) σ H Q) : tOr (tB Γ W ft) (tB Γ W fu) σ H Q := by
  obtain ⟨H0, A, B, P, R, δ, S, h⟩ := h
  refine ⟨H0, A, B, P, R, δ, S, go S h fun k k' R1 H1 m1 r1 S1 h1 => ?_⟩
  have r1 : k = k' := r1
  subst r1
  cases k with
  | false => exact ⟨H0, A, B, P, R1, δ, S1, h1⟩
  | true => exact h1 true H1 (.refl S1.row) rfl
variable {rest : List Expr}
theorem pdw_and1 (ha : PT X a (tB Γ W ft)) : PW X (.BoolOp .And [a] pos) (tB Γ W ft) := pw_and1 ha
theorem pdw_or1 (ha : PT X a (tB Γ W ft)) : PW X (.BoolOp .Or [a] pos) (tB Γ W ft) := pw_or1 ha
theorem pdw_and (ha : PT X a (tB Γ W ft)) (hb : PW X (.BoolOp .And (b :: rest) pos) (tB Γ W fu)) : PW X (.BoolOp .And (a :: b :: rest) pos) (tB Γ W (bAnd ft fu)) := (pw_and ha hb).imp fun _ _ _ h => and_imp h
theorem pdw_or (ha : PT X a (tB Γ W ft)) (hb : PW X (.BoolOp .Or (b :: rest) pos) (tB Γ W fu)) : PW X (.BoolOp .Or (a :: b :: rest) pos) (tB Γ W (bOr ft fu)) := (pw_or ha hb).imp fun _ _ _ h => or_imp h
theorem pdt_w (h : PW X e (tB Γ W ft)) : PT X e (tB Γ W ft) := h.pt
theorem pdt_not (ha : PT X a (tB Γ W ft)) : PT X (.UnaryOp .Not a pos) (tB Γ W (bNot ft)) := (pt_not ha).imp fun σ H Q h => by
  obtain ⟨H0, A, B, P, R, δ, S, h⟩ := h
  refine ⟨H0, A, B, P, R, δ, S, go S h fun k k' R1 H1 m1 r1 S1 h1 => ?_⟩
  have r1 : k = k' := r1
  subst r1
  exact h1 (!k) H1 (.refl S1.row) rfl
/-- as values: bools -/
def dAnd (f g : SEnv → M D) : SEnv → M D := fun δ => f δ >>= fun x => M.lift (asB x) >>= fun k => if k = true then g δ else pure (.bl false)
def dOr (f g : SEnv → M D) : SEnv → M D := fun δ => f δ >>= fun x => M.lift (asB x) >>= fun k => if k = true then pure (.bl true) else g δ
def dNot (f : SEnv → M D) : SEnv → M D := fun δ => f δ >>= fun x => M.lift (asB x) >>= fun k => pure (.bl (!k))
theorem pd_one {op} (h : PE X a (tD Γ W fa)) : PE X (.BoolOp op [a] pos) (tD Γ W fa) := pe_one h
theorem pd_and (ha : PE X a (tD Γ W fa)) (hb : PE X (.BoolOp .And (b :: rest) pos) (tD Γ W fb)) : PE X (.BoolOp .And (a :: b :: rest) pos) (tD Γ W (dAnd fa fb)) := (pe_and ha hb).imp fun σ H Q h => by
  obtain ⟨H0, A, B, P, R, δ, S, h⟩ := h
  refine ⟨H0, A, B, P, R, δ, S, go S h fun x vx R1 H1 m1 r1 S1 h1 => ?_⟩
  obtain ⟨k, e, h2⟩ := lift_bind h1
  rw [asB_eq e] at r1
  refine ⟨k, r1.bl_eq, ?_⟩
  cases k with
  | true => exact ⟨H0, A, B, P, R1, δ, S1, h2⟩
  | false => exact h2 (.bl false) H1 (.refl S1.row) Rep.of_bl
theorem pd_or (ha : PE X a (tD Γ W fa)) (hb : PE X (.BoolOp .Or (b :: rest) pos) (tD Γ W fb)) : PE X (.BoolOp .Or (a :: b :: rest) pos) (tD Γ W (dOr fa fb)) := (pe_or ha hb).imp fun σ H Q h => by
  obtain ⟨H0, A, B, P, R, δ, S, h⟩ := h
  refine ⟨H0, A, B, P, R, δ, S, go S h fun x vx R1 H1 m1 r1 S1 h1 => ?_⟩
  obtain ⟨k, e, h2⟩ := lift_bind h1
  rw [asB_eq e] at r1
  refine ⟨k, r1.bl_eq, ?_⟩
  cases k with
  | false => exact ⟨H0, A, B, P, R1, δ, S1, h2⟩
  | true => exact h2 (.bl true) H1 (.refl S1.row) Rep.of_bl
theorem pd_not (ha : PE X a (tD Γ W fa)) : PE X (.UnaryOp .Not a pos) (tD Γ W (dNot fa)) := (pe_not ha).imp fun σ H Q h => by
  obtain ⟨H0, A, B, P, R, δ, S, h⟩ := h
  refine ⟨H0, A, B, P, R, δ, S, go S h fun x vx R1 H1 m1 r1 S1 h1 => ?_⟩
  obtain ⟨k, e, h2⟩ := lift_bind h1
  rw [asB_eq e] at r1
  exact ⟨k, r1.bl_eq, h2 (.bl (!k)) H1 (.refl S1.row) Rep.of_bl⟩
def dIf (ft : SEnv → M Bool) (fa fb : SEnv → M D) : SEnv → M D := fun δ => ft δ >>= fun k => if k = true then fa δ else fb δ
theorem pd_if (hc : PT X c (tB Γ W ft)) (ha : PE X a (tD Γ W fa)) (hb : PE X b (tD Γ W fb)) : PE X (.IfExp c a b pos) (tD Γ W (dIf ft fa fb)) := (pe_ifExp hc ha hb).imp fun σ H Q h => by
  obtain ⟨H0, A, B, P, R, δ, S, h⟩ := h
  refine ⟨H0, A, B, P, R, δ, S, go S h fun k k' R1 H1 m1 r1 S1 h1 => ?_⟩
  have r1 : k = k' := r1
  subst r1
  cases k with
  | true => exact ⟨H0, A, B, P, R1, δ, S1, h1⟩
  | false => exact ⟨H0, A, B, P, R1, δ, S1, h1⟩
/-! ### arguments, displays -/
def lNil : SEnv → M (List D) := fun _ => pure []
def lCons (f : SEnv → M D) (g : SEnv → M (List D)) : SEnv → M (List D) := fun δ => f δ >>= fun x => g δ >>= fun xs => pure (x :: xs)
theorem pda_nil : PA X [] (tL Γ W lNil) := pa_nil.imp fun σ H Q h => by
  obtain ⟨H0, A, B, P, R, δ, S, h⟩ := h
  exact h [] H (.refl S.row) (RepL_nil.mpr rfl)
theorem pda_cons (ha : PE X e (tD Γ W fe)) (hr : PA X es (tL Γ W fs)) (hs : starEach (e :: es) X.env = (false, eval e X.env) :: starEach es X.env := by rfl) : PA X (e :: es) (tL Γ W (lCons fe fs)) := (pa_cons ha hr hs).imp fun σ H Q h => by
  obtain ⟨H0, A, B, P, R, δ, S, h⟩ := h
  refine ⟨H0, A, B, P, R, δ, S, go S h fun x vx R1 H1 m1 r1 S1 h1 => ⟨H0, A, B, P, R1, δ, S1, go S1 h1 fun xs vs R2 H2 m2 r2 S2 h2 => ?_⟩⟩
  exact h2 (vx :: vs) H2 (.refl S2.row) (RepL_cons.mpr ⟨_, _, rfl, Rep.keep (S1.keeps m2) _ r1, r2⟩)
def lenOk (ds : List D) : Option (List D) := if ds.length ≤ sizeLine then some ds else none
theorem lenOk_eq {ds d : List D} (h : lenOk ds = some d) : d = ds ∧ ds.length ≤ sizeLine := by
  unfold lenOk at h
  split at h
  · exact ⟨(Option.some.inj h).symm, by assumption⟩
  · cases h
def dTup (f : SEnv → M (List D)) : SEnv → M D := fun δ => f δ >>= fun xs => M.lift ((lenOk xs).map D.tup)
def dLst (f : SEnv → M (List D)) : SEnv → M D := fun δ => f δ >>= fun xs => M.lift ((lenOk xs).map D.lst)
theorem pd_tup {x1} (h : PA X es (tL Γ W fs)) : PE X (.Tuple es x1 pos) (tD Γ W (dTup fs)) := (pe_tup h).imp fun σ H Q h => by
  obtain ⟨H0, A, B, P, R, δ, S, h⟩ := h
  refine ⟨H0, A, B, P, R, δ, S, go S h fun xs vs R1 H1 m1 r1 S1 h1 => ?_⟩
  obtain ⟨d, e, q⟩ := lift_out S1 h1
  obtain ⟨d', e', rfl⟩ := Option.map_eq_some_iff.mp e
  obtain ⟨rfl, hl⟩ := lenOk_eq e'
  exact ⟨by rw [r1.length]; exact hl, fun p hp => q _ _ (grow_new hp) (Rep.new_tup S1.all hp r1)⟩
theorem pd_lst (h : PA X es (tL Γ W fs)) : PE X (.List es pos) (tD Γ W (dLst fs)) := (pe_lst h).imp fun σ H Q h => by
  obtain ⟨H0, A, B, P, R, δ, S, h⟩ := h
  refine ⟨H0, A, B, P, R, δ, S, go S h fun xs vs R1 H1 m1 r1 S1 h1 => ?_⟩
  obtain ⟨d, e, q⟩ := lift_out S1 h1
  obtain ⟨d', e', rfl⟩ := Option.map_eq_some_iff.mp e
  obtain ⟨rfl, hl⟩ := lenOk_eq e'
  exact ⟨by rw [r1.length]; exact hl, fun p hp => q _ _ (grow_new hp) (Rep.new_lst S1.all hp r1)⟩
/-- {} -/
theorem pd_dic : PE X (.Dict [] [] pos) (tD Γ W fun _ => pure .dic) := pe_dnewK.imp fun σ H Q h => by
  obtain ⟨H0, A, B, P, R, δ, S, h⟩ := h
  intro p hp
  exact h (.ref p) _ (.grow S.row (grow_new hp)) (by rw [Rep]; exact ⟨p, rfl, by rw [hide_out (all_out S.all hp), upd_same]⟩)
/-! ### builtins -/
def dCall (f : List D → Option D) (fs : SEnv → M (List D)) : SEnv → M D := fun δ => fs δ >>= fun xs => M.lift (f xs)
theorem cb_imp {r : List V → Hp → VK → Prop} {f : List D → Option D} (hr : CallD Γ r f) {σ : St} {H : Hp} {Q : VK} (h : tD Γ W (dCall f fs) σ H Q) : tCB r (tL Γ W fs) σ H Q := by
  obtain ⟨H0, A, B, P, R, δ, S, h⟩ := h
  refine ⟨H0, A, B, P, R, δ, S, go S h fun xs vs R1 H1 m1 r1 S1 h1 => ?_⟩
  obtain ⟨d, e, q⟩ := lift_out S1 h1
  exact hr _ H1 vs xs d Q S1.all r1 e q
theorem pd_ix {r : R2} {f : D → D → Option D} (hi : IxR X r) (hr : OpD Γ r f) (ha : PE X a (tD Γ W fa)) (hb : PE X b (tD Γ W fb)) (hs : PlainIx b) : PE X (.Subscript a b pos) (tD Γ W (d2 f fa fb)) :=
  (pe_ix hi ha hb hs).imp fun _ _ _ h => op_imp hr h
end
end DL

set_option Elab.async false
set_option linter.all false
set_option maxRecDepth 100000
namespace DL
open PySem PySem.Spec L2
/-! ### statements -/
inductive SOut where
  | nx (δ : SEnv) (R : Option Rw)
  | rt (d : D) (R : Option Rw)
  | bk (δ : SEnv) (R : Option Rw)
  | ct (δ : SEnv) (R : Option Rw)
  | ex (c : String) (d : D) (R : Option Rw)
  | stuck
abbrev SM := SEnv → Option Rw → SOut
def SOut.run (o : SOut) (kn kb kc : SEnv → Option Rw → Prop) (kr : D → Option Rw → Prop) (ke : String → D → Option Rw → Prop) : Prop := match o with
  | .nx δ R => kn δ R
  | .rt d R => kr d R
  | .bk δ R => kb δ R
  | .ct δ R => kc δ R
  | .ex c d R => ke c d R
  | .stuck => False
/-- what a statement may have done -/
structure Stp (Γ : Ctx) (B P P' : List Addr) (R R' : Option Rw) (H H' : Hp) : Prop where
  ext : Ext Γ (B ++ P) H H'
  own : ∀ p ∈ P', p ∈ P ∨ H p = none
  adr : rAddr R' = rAddr R
theorem Stp.refl {Γ : Ctx} {B P : List Addr} {R : Option Rw} {H : Hp} : Stp Γ B P P R R H H := ⟨.refl, fun p hp => .inl hp, rfl⟩
theorem Stp.trans {Γ : Ctx} {B P P1 P2 : List Addr} {R R1 R2 : Option Rw} {H H1 H2 : Hp} (a : Stp Γ B P P1 R R1 H H1) (b : Stp Γ B P1 P2 R1 R2 H1 H2) : Stp Γ B P P2 R R2 H H2 where
  ext := by
    have nb : ∀ c, c ∉ B ++ P → H c ≠ none → c ∉ B ++ P1 := fun c n e z => by
      rcases List.mem_append.mp z with z | z
      · exact n (List.mem_append_left _ z)
      · rcases a.own c z with q | q
        · exact n (List.mem_append_right _ q)
        · exact e q
    exact ⟨fun c o n e s => b.ext.st c o (nb c n (by rw [e]; simp)) (a.ext.st c o n e s) s, fun c kvs n e => by
      obtain ⟨k1, e1, f1⟩ := a.ext.ca c kvs n e
      obtain ⟨k2, e2, f2⟩ := b.ext.ca c k1 (nb c n (by rw [e]; simp)) e1
      exact ⟨k2, e2, fun q => f2 (f1 q)⟩, fun c o e => by
      obtain ⟨o1, e1, n1⟩ := a.ext.al c o e
      obtain ⟨o2, e2, n2⟩ := b.ext.al c o1 e1
      exact ⟨o2, e2, fun z => n2 (n1 z)⟩⟩
  own := fun p hp => by
    rcases b.own p hp with z | z
    · exact a.own p z
    · exact .inr (a.ext.free z)
  adr := b.adr.trans a.adr
theorem Stp.of_mv {Γ : Ctx} {B P : List Addr} {R R' : Option Rw} {H H' : Hp} (m : Mv Γ B R R' H H') : Stp Γ B P P R R' H H' := ⟨m.ext.mono fun a h => List.mem_append_left _ h, fun p hp => .inl hp, m.adr⟩
theorem Stp.sub {Γ : Ctx} {B P P1 P' : List Addr} {R R' : Option Rw} {H H' : Hp} (s : Stp Γ B P P1 R R' H H') (h : ∀ p ∈ P', p ∈ P1) : Stp Γ B P P' R R' H H' := ⟨s.ext, fun p hp => s.own p (h p hp), s.adr⟩
/-- what is seen stays seen -/
theorem Stp.keeps {Γ : Ctx} {A B P P' : List Addr} {R R' : Option Rw} {H H' : Hp} (s : Stp Γ B P P' R R' H H') (ba : ∀ a ∈ B, a ∈ A) : Keeps Γ (hide (A ++ P) H) (hide (A ++ P') H') := by
  have nb : ∀ b, b ∉ A ++ P → b ∉ B ++ P := fun b n z => by
    rcases List.mem_append.mp z with z | z
    · exact n (List.mem_append_left _ (ba b z))
    · exact n (List.mem_append_right _ z)
  have ap : ∀ b, b ∉ A ++ P → H b ≠ none → b ∉ A ++ P' := fun b n e z => by
    rcases List.mem_append.mp z with z | z
    · exact n (List.mem_append_left _ z)
    · rcases s.own b z with q | q
      · exact n (List.mem_append_right _ q)
      · exact e q
  have go : ∀ b o, hide (A ++ P) H b = some o → stays o = true → hide (A ++ P') H' b = some o := fun b o h st => by
    obtain ⟨n, h⟩ := hide_some h
    rw [hide_out (ap b n (by rw [h]; simp))]
    exact s.ext.st b o (nb b n) h st
  refine ⟨fun _ _ h => go _ _ h rfl, fun _ _ h => go _ _ h rfl, fun _ _ h => go _ _ h rfl, fun _ _ _ _ h => go _ _ h rfl, fun b k h => ?_, fun _ _ h => go _ _ h rfl⟩
  obtain ⟨n, h⟩ := hide_some h
  rw [hide_out (ap b n (by rw [h]; simp))]
  exact s.ext.ca b k (nb b n) h
abbrev NK (Γ : Ctx) (H0 : Hp) (A B P : List Addr) (R : Option Rw) (H : Hp) (K : St → Hp → Prop) : SEnv → Option Rw → Prop := fun δ' R' => ∀ σ' H' P', Stp Γ B P P' R R' H H' → RepS Γ H0 A B P' R' H' σ' δ' → K σ' H'
abbrev RK (Γ : Ctx) (H0 : Hp) (A B : List Addr) (R : Option Rw) (K : VK) : D → Option Rw → Prop := fun d R' => ∀ v H', Mv Γ B R R' H0 H' → Rep Γ (hide A H') d v → K v H'
abbrev EK (Γ : Ctx) (W : WX) (H0 : Hp) (A B : List Addr) (R : Option Rw) : String → D → Option Rw → Prop := fun c d R' => ∀ v dx σ' H', Mv Γ B R R' H0 H' → H' dx = some (.xd [(("value" : Str), v)]) → Rep Γ (hide A H') d v → W (.ref (Γ.cls c)) (some dx) σ' H'
abbrev AllK (Γ : Ctx) (W : WX) (H0 : Hp) (A B P : List Addr) (R : Option Rw) (H : Hp) (Dn : Ends) (o : SOut) : Prop := o.run (NK Γ H0 A B P R H Dn.nx) (NK Γ H0 A B P R H Dn.bk) (NK Γ H0 A B P R H Dn.ct) (RK Γ H0 A B R Dn.rt) (EK Γ W H0 A B R)
def tS (Γ : Ctx) (W : WX) (f : SM) : TS := fun Dn σ H => ∃ H0 A B P R δ, RepS Γ H0 A B P R H σ δ ∧ AllK Γ W H0 A B P R H Dn (f δ R)
section
variable {Γ : Ctx} {W : WX} {H0 H H1 : Hp} {A B P P1 : List Addr} {R R1 : Option Rw} {σ σ1 : St} {δ δ1 : SEnv} {Dn : Ends}
theorem NK.later {K : St → Hp → Prop} (s : Stp Γ B P P1 R R1 H H1) {δ' : SEnv} {R' : Option Rw} (h : NK Γ H0 A B P R H K δ' R') : NK Γ H0 A B P1 R1 H1 K δ' R' := fun σ' H' P' s' S' => h σ' H' P' (s.trans s') S'
theorem RK.later {K : VK} (e : rAddr R1 = rAddr R) {d : D} {R' : Option Rw} (h : RK Γ H0 A B R K d R') : RK Γ H0 A B R1 K d R' := fun v H' m r => h v H' ⟨m.ext, m.row, m.adr.trans e⟩ r
theorem EK.later (e : rAddr R1 = rAddr R) {c : String} {d : D} {R' : Option Rw} (h : EK Γ W H0 A B R c d R') : EK Γ W H0 A B R1 c d R' := fun v dx σ' H' m => h v dx σ' H' ⟨m.ext, m.row, m.adr.trans e⟩
theorem SOut.run_mono {o : SOut} {kn kb kc kn' kb' kc' : SEnv → Option Rw → Prop} {kr kr' : D → Option Rw → Prop} {ke ke' : String → D → Option Rw → Prop} (h : o.run kn kb kc kr ke) (h1 : ∀ a b, kn a b → kn' a b) (h2 : ∀ a b, kb a b → kb' a b) (h3 : ∀ a b, kc a b → kc' a b)
    (h4 : ∀ a b, kr a b → kr' a b) (h5 : ∀ a b c, ke a b c → ke' a b c) : o.run kn' kb' kc' kr' ke' := by
  cases o with
  | nx δ R => exact h1 _ _ h
  | rt d R => exact h4 _ _ h
  | bk δ R => exact h2 _ _ h
  | ct δ R => exact h3 _ _ h
  | ex c d R => exact h5 _ _ _ h
  | stuck => exact h
theorem AllK.later (s : Stp Γ B P P1 R R1 H H1) {o : SOut} (h : AllK Γ W H0 A B P R H Dn o) : AllK Γ W H0 A B P1 R1 H1 Dn o :=
  SOut.run_mono h (fun _ _ q => NK.later s q) (fun _ _ q => NK.later s q) (fun _ _ q => NK.later s q) (fun _ _ q => RK.later s.adr q) fun _ _ _ q => EK.later s.adr q
end
/-- a value, then what follows -/
def sBind {α : Type} (f : SEnv → M α) (g : α → SM) : SM := fun δ R => match f δ R with
  | .ok a R' => g a δ R'
  | .exn c d R' => .ex c d R'
  | .stuck => .stuck
section
variable {Γ : Ctx} {W : WX} {H0 H : Hp} {A B P : List Addr} {R : Option Rw} {σ : St} {δ : SEnv} {Dn : Ends} {α β : Type} {rep : Hp → α → β → Prop}
theorem sgo {f : SEnv → M α} {g : α → SM} {t : β → Hp → Prop} (S : RepS Γ H0 A B P R H σ δ) (h : AllK Γ W H0 A B P R H Dn (sBind f g δ R))
    (k : ∀ a b R1 H1, Mv Γ B R R1 H H1 → rep (hide (A ++ P) H1) a b → RepS Γ H0 A B P R1 H1 σ δ → AllK Γ W H0 A B P R1 H1 Dn (g a δ R1) → t b H1) :
    (f δ R).run (KK Γ B A P rep R H t) (KE Γ W B A P σ R H) := by
  unfold sBind at h
  cases e : f δ R with
  | ok a R1 =>
    rw [e] at h
    intro b H1 m r
    exact k a b R1 H1 m r (S.move m) (AllK.later (.of_mv m) h)
  | exn c d R1 =>
    rw [e] at h
    intro v dx H1 m hx r
    exact h v dx σ H1 ⟨S.ext.trans m.ext, m.row, m.adr⟩ hx (Rep.keep (hide_keeps fun a ha => List.mem_append_left _ ha) _ r)
  | stuck =>
    rw [e] at h
    exact h.elim
theorem nx_out {δ' : SEnv} (h : AllK Γ W H0 A B P R H Dn (.nx δ' R)) {σ' : St} {P' : List Addr} (s : ∀ p ∈ P', p ∈ P) (S : RepS Γ H0 A B P' R H σ' δ') : Dn.nx σ' H := h σ' H P' (Stp.sub .refl s) S
end
/-! ### targets -/
inductive Tgt where
  | nm (i : Nat)
  | tup (ts : List Tgt)
mutual
def bindT : Tgt → D → SEnv → Option SEnv
  | .nm i, d, δ => some (δ.set i (.dat d))
  | .tup ts, .tup ds, δ => bindTs ts ds δ
  | .tup _, _, _ => none
def bindTs : List Tgt → List D → SEnv → Option SEnv
  | [], [], δ => some δ
  | t :: ts, d :: ds, δ => match bindT t d δ with
    | some δ1 => bindTs ts ds δ1
    | none => none
  | _, _, _ => none
end
def Tgt.ix : Tgt → List Nat
  | .nm i => [i]
  | .tup ts => ixs ts
where ixs : List Tgt → List Nat
  | [] => []
  | t :: ts => t.ix ++ ixs ts
/-- the slots outside js are as they were -/
def Wp (js : List Nat) (σ σ' : St) : Prop := ∀ vs : List Nat, (∀ i ∈ js, i ∈ vs) → wipe σ' vs = wipe σ vs
theorem Wp.refl {js : List Nat} {σ : St} : Wp js σ σ := fun _ _ => rfl
theorem Wp.trans {js : List Nat} {σ σ1 σ2 : St} (a : Wp js σ σ1) (b : Wp js σ1 σ2) : Wp js σ σ2 := fun vs h => (b vs h).trans (a vs h)
theorem Wp.mono {js ks : List Nat} {σ σ1 : St} (a : Wp js σ σ1) (h : ∀ i ∈ js, i ∈ ks) : Wp ks σ σ1 := fun vs q => a vs fun i hi => q i (h i hi)
theorem wipe_set {σ : St} {i : Nat} {x : Option V} : ∀ {vs : List Nat}, i ∉ vs → wipe (σ.set i x) vs = (wipe σ vs).set i x
  | [], _ => rfl
  | v :: vs, h => by
    have hv : i ≠ v := fun z => h (by rw [z]; exact List.mem_cons_self)
    show (wipe (σ.set i x) vs).set v none = ((wipe σ vs).set v none).set i x
    rw [wipe_set fun z => h (List.mem_cons_of_mem _ z), List.set_comm _ _ hv]
theorem Wp.set {σ : St} {i : Nat} {x : Option V} : Wp [i] σ (σ.set i x) := fun vs h => by
  have hi : i ∈ vs := h i List.mem_cons_self
  clear h
  induction vs with
  | nil => cases hi
  | cons v vs ih =>
    show (wipe (σ.set i x) vs).set v none = (wipe σ vs).set v none
    by_cases q : i ∈ vs
    · rw [ih q]
    · have e : i = v := by
        rcases List.mem_cons.mp hi with z | z
        · exact z
        · exact absurd z q
      rw [wipe_set q, ← e, List.set_set]
theorem RepS.set {Γ : Ctx} {H0 H : Hp} {A B P : List Addr} {R : Option Rw} {σ : St} {δ : SEnv} {d : D} {v : V} (S : RepS Γ H0 A B P R H σ δ) (r : Rep Γ (hide (A ++ P) H) d v) (i : Nat) :
    ∃ P', RepS Γ H0 A B P' R H (σ.set i (some v)) (δ.set i (.dat d)) ∧ ∀ p ∈ P', p ∈ P := by
  obtain ⟨P', h1, h2⟩ := S.slots.set r i
  have sub : ∀ p ∈ P', p ∈ P := fun p hp => h2.subset hp
  exact ⟨P', ⟨S.row, S.ra, S.ba, S.rb, S.al, S.sc, S.sb, S.ext, fun p hp => S.own p (sub p hp), S.nd.sublist h2, h1.sub sub⟩, sub⟩
def gD (Γ : Ctx) (t : Tgt) : TG := fun v σ H Q => ∃ H0 A B P R δ d δ', RepS Γ H0 A B P R H σ δ ∧ Rep Γ (hide (A ++ P) H) d v ∧ bindT t d δ = some δ' ∧ ∀ σ' P', (∀ p ∈ P', p ∈ P) → Wp t.ix σ σ' → RepS Γ H0 A B P' R H σ' δ' → Q σ' H
def gDs (Γ : Ctx) (ts : List Tgt) : TGs := fun vs σ H Q => ∃ H0 A B P R δ ds δ', RepS Γ H0 A B P R H σ δ ∧ RepL Γ (hide (A ++ P) H) ds vs ∧ bindTs ts ds δ = some δ' ∧ ∀ σ' P', (∀ p ∈ P', p ∈ P) → Wp (Tgt.ix.ixs ts) σ σ' → RepS Γ H0 A B P' R H σ' δ' → Q σ' H
theorem _root_.L2.PG.imp {X : Cx} {e : Expr} {t t' : TG} (h : PG X e t) (i : ∀ v σ H Q, t' v σ H Q → t v σ H Q) : PG X e t' := ⟨fun pins s σ H v u Q I r q => h.run pins s σ H v u Q I r (i v σ H Q q)⟩
theorem _root_.L2.PGs.imp {X : Cx} {e : List Expr} {t t' : TGs} (h : PGs X e t) (i : ∀ v σ H Q, t' v σ H Q → t v σ H Q) : PGs X e t' := ⟨fun pins s σ H v u Q I r q => h.run pins s σ H v u Q I r (i v σ H Q q)⟩
section
variable {Γ : Ctx} {X : Cx} {e : Expr} {es : List Expr} {pos : Pos} {t : Tgt} {ts : List Tgt}
theorem gd_nm {i : Nat} (h : PG X e (gName i)) : PG X e (gD Γ (.nm i)) := h.imp fun v σ H Q q => by
  obtain ⟨H0, A, B, P, R, δ, d, δ', S, r, e, k⟩ := q
  simp only [bindT, Option.some.injEq] at e
  subst e
  obtain ⟨P', S', sub⟩ := S.set r i
  exact k _ P' sub Wp.set S'
theorem gds_nil : PGs X [] (gDs Γ []) := pgs_nil.imp fun vs σ H Q q => by
  obtain ⟨H0, A, B, P, R, δ, ds, δ', S, r, e, k⟩ := q
  cases ds with
  | nil =>
    simp only [bindTs, Option.some.injEq] at e
    subst e
    exact ⟨RepL_nil.mp r, k σ P (fun _ h => h) Wp.refl S⟩
  | cons d ds => simp [bindTs] at e
theorem gds_cons (h : PG X e (gD Γ t)) (hs : PGs X es (gDs Γ ts)) (hx : (assignEach (e :: es) X.env).map (·.2) = assign e X.env :: (assignEach es X.env).map (·.2) := by rfl) : PGs X (e :: es) (gDs Γ (t :: ts)) := (pgs_cons h hs hx).imp fun vs σ H Q q => by
  obtain ⟨H0, A, B, P, R, δ, ds, δ', S, r, e, k⟩ := q
  cases ds with
  | nil => simp [bindTs] at e
  | cons d ds =>
    rw [RepL_cons] at r
    obtain ⟨v, ws, rfl, r1, r2⟩ := r
    simp only [bindTs] at e
    cases e1 : bindT t d δ with
    | none => rw [e1] at e; cases e
    | some δ1 =>
      rw [e1] at e
      refine ⟨v, ws, rfl, H0, A, B, P, R, δ, d, δ1, S, r1, e1, fun σ1 P1 s1 w1 S1 => ?_⟩
      exact ⟨H0, A, B, P1, R, δ1, ds, δ', S1, RepL.keep (hide_keeps fun a ha => by
        rcases List.mem_append.mp ha with z | z
        · exact List.mem_append_left _ z
        · exact List.mem_append_right _ (s1 a z)) _ r2, e, fun σ2 P2 s2 w2 S2 => k σ2 P2 (fun p hp => s1 p (s2 p hp)) ((w1.mono fun i hi => List.mem_append_left _ hi).trans (w2.mono fun i hi => List.mem_append_right _ hi)) S2⟩
theorem gd_tup {k n : Nat} (hc : X.calm = true) (h : PGs X es (gDs Γ ts)) (hn : (assignEach es X.env).length = n := by rfl) (hst : (assignEach es X.env).findIdx? (·.1) = none := by rfl) (hl : ts.length = n := by rfl) : PG X (.Tuple es k pos) (gD Γ (.tup ts)) :=
  (pg_tup hc h hn hst).imp fun v σ H Q q => by
    obtain ⟨H0, A, B, P, R, δ, d, δ', S, r, e, k⟩ := q
    cases d <;> simp only [bindT] at e <;> try (cases e)
    rename_i ds
    obtain ⟨a, xs, rfl, h1, h2, _⟩ := r.tup_at
    have len : ∀ (ts : List Tgt) (ds : List D) (δ δ' : SEnv), bindTs ts ds δ = some δ' → ds.length = ts.length := by
      intro ts
      induction ts with
      | nil => intro ds δ δ' h; cases ds <;> simp [bindTs] at h ⊢
      | cons t ts ih =>
        intro ds δ δ' h
        cases ds with
        | nil => simp [bindTs] at h
        | cons d ds =>
          simp only [bindTs] at h
          cases e1 : bindT t d δ with
          | none => rw [e1] at h; cases h
          | some δ1 => rw [e1] at h; simp [ih ds δ1 δ' h]
    exact ⟨a, xs, rfl, SqT.of h1, by rw [h2.length, len _ _ _ _ e]; exact hl, H0, A, B, P, R, δ, ds, δ', S, h2, e, k⟩
end
section
variable {Γ : Ctx} {W : WX} {X : Cx} {e c : Expr} {st : Stmt} {rest a b : List Stmt} {fe : SEnv → M D} {ft : SEnv → M Bool} {f g : SM} {pos : Pos}
/-! ### blocks -/
def sNx : SM := fun δ R => .nx δ R
def sSeq (f g : SM) : SM := fun δ R => match f δ R with
  | .nx δ' R' => g δ' R'
  | o => o
theorem ds_nil : PSs X [] (tS Γ W sNx) := pss_nil.imp fun Dn σ H h => by
  obtain ⟨H0, A, B, P, R, δ, S, h⟩ := h
  exact nx_out h (fun _ z => z) S
theorem ds_cons (h1 : PS X st (tS Γ W f)) (h2 : PSs X rest (tS Γ W g)) : PSs X (st :: rest) (tS Γ W (sSeq f g)) := (pss_cons h1 h2).imp fun Dn σ H h => by
  obtain ⟨H0, A, B, P, R, δ, S, h⟩ := h
  refine ⟨H0, A, B, P, R, δ, S, ?_⟩
  unfold sSeq at h
  cases e : f δ R with
  | nx δ' R' =>
    rw [e] at h
    intro σ' H' P' s S'
    exact ⟨H0, A, B, P', R', δ', S', AllK.later s h⟩
  | rt d R' => rw [e] at h; exact h
  | bk δ' R' => rw [e] at h; exact h
  | ct δ' R' => rw [e] at h; exact h
  | ex c d R' => rw [e] at h; exact h
  | stuck => rw [e] at h; exact h.elim
theorem ds_one (h1 : PS X st (tS Γ W f)) : PSs X [st] (tS Γ W f) := pss_one h1
def sSet (i : Nat) (fe : SEnv → M D) : SM := sBind fe fun d δ R => .nx (δ.set i (.dat d)) R
def sAsg (t : Tgt) (fe : SEnv → M D) : SM := sBind fe fun d δ R => match bindT t d δ with
  | some δ' => .nx δ' R
  | none => .stuck
theorem asg_imp {i : Nat} {σ : St} {H : Hp} {Dn : Ends} (h : tS Γ W (sSet i fe) Dn σ H) : tAsg (tD Γ W fe) (gName i) Dn σ H := by
  obtain ⟨H0, A, B, P, R, δ, S, h⟩ := h
  refine ⟨H0, A, B, P, R, δ, S, sgo S h fun x vx R1 H1 m r S1 h1 => ?_⟩
  obtain ⟨P', S', sub⟩ := S1.set r i
  exact nx_out h1 sub S'
theorem ds_set {i : Nat} {x : Str} {pos' : Pos} (hN : X.N.Nodup) (hi : X.N[i]? = some x) (hx : Loc X.env.scope x) (he : PE X e (tD Γ W fe)) (hs : swapsWith e (some (.Name x pos')) pos.line X.env = pure false := by rfl) (hf : X.fn x = true ∨ X.env.scope.names.lookup x = some .local := by first | exact .inl rfl | exact .inr rfl | assumption) :
    PS X (.Assign [.Name x pos'] e pos) (tS Γ W (sSet i fe)) := (ps_set hN hi hx he hs hf).imp fun _ _ _ h => asg_imp h
theorem ds_asg {tg : Expr} {t : Tgt} (he : PE X e (tD Γ W fe)) (hg : PG X tg (gD Γ t)) (hs : swapsWithSole [tg] e pos.line X.env = pure false := by rfl) (hw : swappedStores [tg] e X.env = pure none := by rfl)
    (h1 : (assignEach [tg] X.env).map (·.2) = [assign tg X.env] := by rfl) : PS X (.Assign [tg] e pos) (tS Γ W (sAsg t fe)) := (ps_asg he hg hs hw h1).imp fun Dn σ H h => by
  obtain ⟨H0, A, B, P, R, δ, S, h⟩ := h
  refine ⟨H0, A, B, P, R, δ, S, sgo S h fun x vx R1 H1 m r S1 h1 => ?_⟩
  cases q : bindT t x δ with
  | none => simp only [q] at h1; exact h1.elim
  | some δ' =>
    simp only [q] at h1
    exact ⟨H0, A, B, P, R1, δ, x, δ', S1, r, q, fun σ' P' s' _ S' => nx_out h1 s' S'⟩
def sDrop (fe : SEnv → M D) : SM := sBind fe fun _ δ R => .nx δ R
theorem ds_expr (he : PE X e (tD Γ W fe)) (hs : swapsWith e none pos.line X.env = pure false := by rfl) : PS X (.Expr e pos) (tS Γ W (sDrop fe)) := (ps_expr he hs).imp fun Dn σ H h => by
  obtain ⟨H0, A, B, P, R, δ, S, h⟩ := h
  exact ⟨H0, A, B, P, R, δ, S, sgo S h fun x vx R1 H1 m r S1 h1 => nx_out h1 (fun _ z => z) S1⟩
def sRet (fe : SEnv → M D) : SM := sBind fe fun d _ R => .rt d R
theorem ds_ret (he : PE X e (tD Γ W fe)) : PS X (.Return (some e) pos) (tS Γ W (sRet fe)) := (ps_ret he).imp fun Dn σ H h => by
  obtain ⟨H0, A, B, P, R, δ, S, h⟩ := h
  refine ⟨H0, A, B, P, R, δ, S, sgo S h fun x vx R1 H1 m r S1 h1 => ?_⟩
  exact h1 vx H1 ⟨S1.ext, S1.row, rfl⟩ (Rep.keep (hide_keeps fun a ha => List.mem_append_left _ ha) _ r)
def sRetN : SM := fun _ R => .rt .non R
theorem ds_retN : PS X (.Return none pos) (tS Γ W sRetN) := ps_retN.imp fun Dn σ H h => by
  obtain ⟨H0, A, B, P, R, δ, S, h⟩ := h
  exact h .non H ⟨S.ext, S.row, rfl⟩ Rep.of_non
def sIf (ft : SEnv → M Bool) (f g : SM) : SM := sBind ft fun k => if k = true then f else g
theorem ds_if (hc : PT X c (tB Γ W ft)) (ha : PSs X a (tS Γ W f)) (hb : PSs X b (tS Γ W g)) : PS X (.If c a b pos) (tS Γ W (sIf ft f g)) := (ps_if hc ha hb).imp fun Dn σ H h => by
  obtain ⟨H0, A, B, P, R, δ, S, h⟩ := h
  refine ⟨H0, A, B, P, R, δ, S, sgo S h fun k k' R1 H1 m r S1 h1 => ?_⟩
  have r1 : k = k' := r
  subst r1
  cases k with
  | true => exact ⟨H0, A, B, P, R1, δ, S1, h1⟩
  | false => exact ⟨H0, A, B, P, R1, δ, S1, h1⟩
def sBk : SM := fun δ R => .bk δ R
def sCt : SM := fun δ R => .ct δ R
theorem ds_break : PS X (.Break pos) (tS Γ W sBk) := ps_break.imp fun Dn σ H h => by
  obtain ⟨H0, A, B, P, R, δ, S, h⟩ := h
  exact h σ H P .refl S
theorem ds_cont : PS X (.Continue pos) (tS Γ W sCt) := ps_continue.imp fun Dn σ H h => by
  obtain ⟨H0, A, B, P, R, δ, S, h⟩ := h
  exact h σ H P .refl S
theorem ds_pass : PS X (.Pass pos) (tS Γ W sNx) := ps_pass.imp fun Dn σ H h => by
  obtain ⟨H0, A, B, P, R, δ, S, h⟩ := h
  exact h σ H P .refl S
/-- a local's number, changed by an operator -/
def sAug (i : Nat) (f : D → D → Option D) (fe : SEnv → M D) : SM := fun δ R => match δ[i]? with
  | some (.dat x) => sBind fe (fun y => sBind (fun _ => M.lift (f x y)) fun d δ R => .nx (δ.set i (.dat d)) R) δ R
  | _ => .stuck
def addI : D → D → Option D
  | .int i, .int j => some (.int (i + j))
  | _, _ => none
def subI : D → D → Option D
  | .int i, .int j => some (.int (i - j))
  | _, _ => none
theorem addI_eq {a b d : D} (h : addI a b = some d) : ∃ i j, a = .int i ∧ b = .int j ∧ d = .int (i + j) := by
  cases a <;> cases b <;> simp [addI] at h
  exact ⟨_, _, rfl, rfl, h.symm⟩
theorem subI_eq {a b d : D} (h : subI a b = some d) : ∃ i j, a = .int i ∧ b = .int j ∧ d = .int (i - j) := by
  cases a <;> cases b <;> simp [subI] at h
  exact ⟨_, _, rfl, rfl, h.symm⟩
theorem ds_augI {i : Nat} {x : Str} {op : Operator} {k : Int → Int → Int} {pos' : Pos} {fo : D → D → Option D} (hfo : ∀ a b d, fo a b = some d → ∃ i j, a = .int i ∧ b = .int j ∧ d = .int (k i j)) (hp : PIp X op (ipI k)) (hN : X.N.Nodup) (hi : X.N[i]? = some x) (hx : Loc X.env.scope x) (he : PE X e (tD Γ W fe))
    (hf : X.fn x = true ∨ X.env.scope.names.lookup x = some .local := by first | exact .inl rfl | exact .inr rfl | assumption) : PS X (.AugAssign (.Name x pos') op e pos) (tS Γ W (sAug i fo fe)) := (ps_aug hN hi hx he hp hf).imp fun Dn σ H h => by
  obtain ⟨H0, A, B, P, R, δ, S, h⟩ := h
  unfold sAug at h
  cases q : δ[i]? with
  | none => rw [q] at h; exact h.elim
  | some sd =>
    rw [q] at h
    cases sd with
    | none => exact h.elim
    | own _ => exact h.elim
    | dat d =>
      obtain ⟨v, e1, e2⟩ := S.slots.get q
      refine ⟨v, e1, H0, A, B, P, R, δ, S, sgo S h fun y vy R1 H1 m r S1 h1 => ?_⟩
      cases ho : fo d y with
      | none => rw [ho] at h1; exact h1.elim
      | some z =>
        rw [ho] at h1
        obtain ⟨i1, j1, rfl, rfl, rfl⟩ := hfo _ _ _ ho
        refine ⟨i1, j1, e2.int_eq, r.int_eq, ?_⟩
        obtain ⟨P', S', sub⟩ := S1.set (d := .int (k i1 j1)) (v := .int (k i1 j1)) Rep.of_int i
        exact nx_out h1 sub S'
theorem ds_addI {i : Nat} {x : Str} {pos' : Pos} (hN : X.N.Nodup) (hi : X.N[i]? = some x) (hx : Loc X.env.scope x) (he : PE X e (tD Γ W fe)) (hf : X.fn x = true ∨ X.env.scope.names.lookup x = some .local := by first | exact .inl rfl | exact .inr rfl | assumption) :
    PS X (.AugAssign (.Name x pos') .Add e pos) (tS Γ W (sAug i addI fe)) := ds_augI (fun _ _ _ => addI_eq) ip_add hN hi hx he hf
theorem ds_subI {i : Nat} {x : Str} {pos' : Pos} (hN : X.N.Nodup) (hi : X.N[i]? = some x) (hx : Loc X.env.scope x) (he : PE X e (tD Γ W fe)) (hf : X.fn x = true ∨ X.env.scope.names.lookup x = some .local := by first | exact .inl rfl | exact .inr rfl | assumption) :
    PS X (.AugAssign (.Name x pos') .Sub e pos) (tS Γ W (sAug i subI fe)) := ds_augI (fun _ _ _ => subI_eq) ip_sub hN hi hx he hf
end
end DL

set_option Elab.async false
set_option linter.all false
set_option maxRecDepth 100000
namespace DL
open PySem PySem.Spec L2
/-! ### walks over data -/
/-- the walk J yields ds while what was seen stands -/
structure DW (Γ : Ctx) (A : List Addr) (J : It) (ds : List D) (H : Hp) (n : Nat) (G : Hp → Prop) (Y : Nat → Hp → V → Hp → Prop) : Prop where
  w : Walk J n G Y
  len : n = ds.length
  g0 : ∀ A2 H2, Keeps Γ (hide A H) (hide A2 H2) → G H2
  y : ∀ A2 H2, Keeps Γ (hide A H) (hide A2 H2) → All A2 H2 → ∀ i x H3, i < n → Y i H2 x H3 → ∃ d, ds[i]? = some d ∧ Grow H2 H3 ∧ Rep Γ (hide A2 H3) d x
def DWk (Γ : Ctx) (A : List Addr) (J : It) (ds : List D) (H : Hp) : Prop := ∃ n G Y, DW Γ A J ds H n G Y
abbrev IK (Γ : Ctx) (B A P : List Addr) (R : Option Rw) (H : Hp) (K : It → Hp → Prop) : List D → Option Rw → Prop := fun ds R' => ∀ J H', Mv Γ B R R' H H' → DWk Γ (A ++ P) J ds H' → K J H'
def iD (Γ : Ctx) (W : WX) (f : SEnv → M (List D)) : TI := fun σ H K => ∃ H0 A B P R δ, RepS Γ H0 A B P R H σ δ ∧ (f δ R).run (IK Γ B A P R H K) (KE Γ W B A P σ R H)
theorem _root_.L2.PI.imp {X : Cx} {tg e : Expr} {t t' : TI} (h : PI X tg e t) (i : ∀ σ H Q, t' σ H Q → t σ H Q) : PI X tg e t' := ⟨fun pins s σ H Q I q => h.run pins s σ H Q I (i σ H Q q)⟩
theorem Keeps.seen_lst {Γ : Ctx} {A A2 : List Addr} {H H2 : Hp} (k : Keeps Γ (hide A H) (hide A2 H2)) {a : Addr} {xs : List V} (n : a ∉ A) (h : H a = some (.lst xs)) : H2 a = some (.lst xs) := (hide_some (k.lst a xs (by rw [hide_out n]; exact h))).2
theorem Keeps.seen_tup {Γ : Ctx} {A A2 : List Addr} {H H2 : Hp} (k : Keeps Γ (hide A H) (hide A2 H2)) {a : Addr} {xs : List V} (n : a ∉ A) (h : H a = some (.tup xs)) : H2 a = some (.tup xs) := (hide_some (k.tup a xs (by rw [hide_out n]; exact h))).2
theorem dw_list {Γ : Ctx} {K : PySem.W.Frag} {A : List Addr} {H : Hp} {a : Addr} {xs : List V} {ds : List D} (n : a ∉ A) (h : H a = some (.lst xs)) (r : RepL Γ (hide A H) ds xs) : DWk Γ A (Itl K a) ds H :=
  ⟨_, _, _, walk_list (K := K) (a := a) (xs := xs), r.length, fun A2 H2 k => SqL.of (k.seen_lst n h), fun A2 H2 k al i x H3 hi y => by
    obtain ⟨rfl, hx⟩ := y
    obtain ⟨d, e1, e2⟩ := (RepL.keep k _ r).getV hx
    exact ⟨d, e1, fun _ _ z => z, e2⟩⟩
theorem dw_tup {Γ : Ctx} {K : PySem.W.Frag} {A : List Addr} {H : Hp} {a : Addr} {xs : List V} {ds : List D} (n : a ∉ A) (h : H a = some (.tup xs)) (r : RepL Γ (hide A H) ds xs) : DWk Γ A (Itt K a) ds H :=
  ⟨_, _, _, walk_tup (K := K) (a := a) (xs := xs), r.length, fun A2 H2 k => SqT.of (k.seen_tup n h), fun A2 H2 k al i x H3 hi y => by
    obtain ⟨rfl, hx⟩ := y
    obtain ⟨d, e1, e2⟩ := (RepL.keep k _ r).getV hx
    exact ⟨d, e1, fun _ _ z => z, e2⟩⟩
def rangeD (lo : Int) (n : Nat) : List D := (List.range n).map fun (i : Nat) => D.int (lo + (i : Int))
theorem rangeD_length (lo : Int) (n : Nat) : (rangeD lo n).length = n := by simp [rangeD]
theorem dw_range {Γ : Ctx} {A : List Addr} {H : Hp} {lo : Int} {n : Nat} : DWk Γ A (Itr lo n) (rangeD lo n) H :=
  ⟨_, _, _, walk_range (lo := lo) (n := n), (rangeD_length lo n).symm, fun _ _ _ => trivial, fun A2 H2 k al i x H3 hi y => by
    obtain ⟨rfl, rfl⟩ := y
    refine ⟨.int (lo + (i : Int)), by simp [rangeD, hi], fun _ _ z => z, Rep.of_int⟩⟩
/-- new pairs -/
theorem pair_y {Γ : Ctx} {A2 : List Addr} {H2 H3 : Hp} {f g : Nat → Option V} {i : Nat} {x : V} {d e : D} (al : All A2 H2) (y : YPair f g i H2 x H3) (hf : ∀ v, f i = some v → Rep Γ (hide A2 H2) d v) (hg : ∀ v, g i = some v → Rep Γ (hide A2 H2) e v) :
    Grow H2 H3 ∧ Rep Γ (hide A2 H3) (.tup [d, e]) x := by
  obtain ⟨T, u, v, rfl, hT, rfl, e1, e2⟩ := y
  exact ⟨grow_new hT, Rep.new_tup al hT (RepL_cons.mpr ⟨u, [v], rfl, hf u e1, RepL.one (hg v e2)⟩)⟩
def enumD (ds : List D) : List D := ds.mapIdx fun i d => D.tup [.int (i : Int), d]
theorem dw_enum {Γ : Ctx} {K : PySem.W.Frag} {A : List Addr} {H : Hp} {a : Addr} {xs : List V} {ds : List D} (n : a ∉ A) (h : H a = some (.lst xs)) (r : RepL Γ (hide A H) ds xs) : DWk Γ A (Ite K a) (enumD ds) H :=
  ⟨_, _, _, walk_enum (K := K) (a := a) (xs := xs), by rw [r.length]; simp [enumD], fun A2 H2 k => SqL.of (k.seen_lst n h), fun A2 H2 k al i x H3 hi y => by
    have r2 := RepL.keep k _ r
    have hi' : i < ds.length := by rw [← r.length]; exact hi
    obtain ⟨g, rp⟩ := pair_y (Γ := Γ) (d := .int (i : Int)) (e := ds[i]) al y (fun v e => by rw [← Option.some.inj e]; exact Rep.of_int) (fun v e => by
      obtain ⟨d, e1, e2⟩ := r2.getV e
      rw [List.getElem?_eq_getElem hi'] at e1
      rw [Option.some.inj e1]
      exact e2)
    exact ⟨_, by simp [enumD, List.getElem?_mapIdx, hi'], g, rp⟩⟩
def zipD (ds es : List D) : List D := (ds.zip es).map fun p => D.tup [p.1, p.2]
theorem walk_zipT {K : PySem.W.Frag} {a b : Addr} {xs ys : List V} {n : Nat} (hn : n = min xs.length ys.length) : Walk (RZ.ItzT K a b) n (fun H => SqT K H a xs ∧ SqT K H b ys) (YPair (fun i => xs[i]?) (fun i => ys[i]?)) := by
  subst hn
  refine ⟨fun i _ hi q => ?_, fun _ q => ⟨xs, ys, q.1, q.2, by omega⟩, fun i H v H' _ q y => ?_⟩
  · have h1 : i < xs.length := by omega
    have h2 : i < ys.length := by omega
    exact ⟨xs, ys, xs[i], ys[i], q.1, q.2, by simp [h1], by simp [h2]⟩
  · obtain ⟨T, x, z, h1, h2, h3, h4, h5⟩ := y
    exact ⟨T, x, z, h1, h2, h3, h4 xs q.1, h5 ys q.2⟩
theorem zip_y {Γ : Ctx} {A2 : List Addr} {H2 H3 : Hp} {xs ys : List V} {ds es : List D} {i : Nat} {x : V} (al : All A2 H2) (r : RepL Γ (hide A2 H2) ds xs) (r' : RepL Γ (hide A2 H2) es ys) (hi : i < min xs.length ys.length) (y : YPair (fun i => xs[i]?) (fun i => ys[i]?) i H2 x H3) :
    ∃ d, (zipD ds es)[i]? = some d ∧ Grow H2 H3 ∧ Rep Γ (hide A2 H3) d x := by
  have hx : i < ds.length := by rw [← r.length]; omega
  have hy : i < es.length := by rw [← r'.length]; omega
  obtain ⟨g, rp⟩ := pair_y (Γ := Γ) (d := ds[i]) (e := es[i]) al y (fun v e => by
    obtain ⟨d, e1, e2⟩ := r.getV e
    rw [List.getElem?_eq_getElem hx] at e1
    rw [Option.some.inj e1]
    exact e2) (fun v e => by
    obtain ⟨d, e1, e2⟩ := r'.getV e
    rw [List.getElem?_eq_getElem hy] at e1
    rw [Option.some.inj e1]
    exact e2)
  refine ⟨_, ?_, g, rp⟩
  unfold zipD
  rw [List.getElem?_map, List.zip_eq_zipWith, List.getElem?_zipWith, List.getElem?_eq_getElem hx, List.getElem?_eq_getElem hy]
  rfl
theorem dw_zip {Γ : Ctx} {K : PySem.W.Frag} {A : List Addr} {H : Hp} {a b : Addr} {xs ys : List V} {ds es : List D} (n : a ∉ A) (h : H a = some (.lst xs)) (r : RepL Γ (hide A H) ds xs) (n' : b ∉ A) (h' : H b = some (.lst ys)) (r' : RepL Γ (hide A H) es ys) : DWk Γ A (Itz K a b) (zipD ds es) H :=
  ⟨_, _, _, walk_zip (K := K) (a := a) (b := b) (xs := xs) (ys := ys) rfl, by rw [r.length, r'.length]; simp [zipD], fun A2 H2 k => ⟨SqL.of (k.seen_lst n h), SqL.of (k.seen_lst n' h')⟩, fun A2 H2 k al i x H3 hi y => zip_y al (RepL.keep k _ r) (RepL.keep k _ r') hi y⟩
theorem dw_zipT {Γ : Ctx} {K : PySem.W.Frag} {A : List Addr} {H : Hp} {a b : Addr} {xs ys : List V} {ds es : List D} (n : a ∉ A) (h : H a = some (.tup xs)) (r : RepL Γ (hide A H) ds xs) (n' : b ∉ A) (h' : H b = some (.tup ys)) (r' : RepL Γ (hide A H) es ys) : DWk Γ A (RZ.ItzT K a b) (zipD ds es) H :=
  ⟨_, _, _, walk_zipT (K := K) (a := a) (b := b) (xs := xs) (ys := ys) rfl, by rw [r.length, r'.length]; simp [zipD], fun A2 H2 k => ⟨SqT.of (k.seen_tup n h), SqT.of (k.seen_tup n' h')⟩, fun A2 H2 k al i x H3 hi y => zip_y al (RepL.keep k _ r) (RepL.keep k _ r') hi y⟩
section
variable {Γ : Ctx} {W : WX} {X : Cx} {tg e e2 c : Expr} {fe fa fb : SEnv → M D} {fi : SEnv → M (List D)} {ft : SEnv → M Bool} {pos : Pos} {t : Tgt}
/-! ### iterables -/
/-- what a list, a tuple holds -/
def seqD : D → Option (List D)
  | .lst ds => some ds
  | .tup ds => some ds
  | _ => none
def lstD : D → Option (List D)
  | .lst ds => some ds
  | _ => none
def tupD : D → Option (List D)
  | .tup ds => some ds
  | _ => none
theorem lstD_eq {d : D} {ds : List D} (h : lstD d = some ds) : d = .lst ds := by
  cases d <;> simp [lstD] at h; rw [h]
theorem tupD_eq {d : D} {ds : List D} (h : tupD d = some ds) : d = .tup ds := by
  cases d <;> simp [tupD] at h; rw [h]
def iLst (fe : SEnv → M D) : SEnv → M (List D) := fun δ => fe δ >>= fun x => M.lift (lstD x)
def iTpl (fe : SEnv → M D) : SEnv → M (List D) := fun δ => fe δ >>= fun x => M.lift (tupD x)
theorem igo {α β γ : Type} {rep : Hp → α → β → Prop} {f : M α} {g : α → M (List D)} {K : It → Hp → Prop} {t : β → Hp → Prop} {H0 H : Hp} {A B P : List Addr} {R : Option Rw} {σ : St} {δ : SEnv} (S : RepS Γ H0 A B P R H σ δ) (h : ((f >>= g) R).run (IK Γ B A P R H K) (KE Γ W B A P σ R H))
    (k : ∀ a b R1 H1, Mv Γ B R R1 H H1 → rep (hide (A ++ P) H1) a b → RepS Γ H0 A B P R1 H1 σ δ → (g a R1).run (IK Γ B A P R1 H1 K) (KE Γ W B A P σ R1 H1) → t b H1) :
    (f R).run (KK Γ B A P rep R H t) (KE Γ W B A P σ R H) :=
  Out.run_mono (run_bind.mp h) (fun a R1 _ q b H1 m r => k a b R1 H1 m r (S.move m) (Out.run_mono q (fun a' R2 _ q2 J H2 m2 r2 => q2 J H2 (m.trans m2) r2) fun c d R2 _ q2 v dx H2 m2 => q2 v dx H2 (m.trans m2))) fun c d R1 _ q => q
theorem ilift {o : Option (List D)} {K : It → Hp → Prop} {E : String → D → Option Rw → Prop} {B A P : List Addr} {R : Option Rw} {H : Hp} (h : (M.lift o R).run (IK Γ B A P R H K) E) (row : RowOk Γ H R) : ∃ ds, o = some ds ∧ ∀ J, DWk Γ (A ++ P) J ds H → K J H := by
  cases o with
  | none => exact h.elim
  | some d => exact ⟨d, rfl, fun J w => h J H (.refl row) w⟩
theorem di_lst (he : PE X e (tD Γ W fe)) : PI X tg e (iD Γ W (iLst fe)) := (pi_list he).imp fun σ H K h => by
  obtain ⟨H0, A, B, P, R, δ, S, h⟩ := h
  refine ⟨H0, A, B, P, R, δ, S, igo (γ := Nat) S h fun x vx R1 H1 m r S1 h1 => ?_⟩
  obtain ⟨ds, e1, q⟩ := ilift h1 S1.row
  rw [lstD_eq e1] at r
  obtain ⟨a, xs, rfl, h2, h3, n⟩ := r.lst_at
  exact ⟨a, rfl, ⟨xs, SqL.of h2⟩, q _ (dw_list n h2 h3)⟩
theorem di_tup (he : PE X e (tD Γ W fe)) : PI X tg e (iD Γ W (iTpl fe)) := (pi_tup he).imp fun σ H K h => by
  obtain ⟨H0, A, B, P, R, δ, S, h⟩ := h
  refine ⟨H0, A, B, P, R, δ, S, igo (γ := Nat) S h fun x vx R1 H1 m r S1 h1 => ?_⟩
  obtain ⟨ds, e1, q⟩ := ilift h1 S1.row
  rw [tupD_eq e1] at r
  obtain ⟨a, xs, rfl, h2, h3, n⟩ := r.tup_at
  exact ⟨a, rfl, ⟨xs, SqT.of h2⟩, q _ (dw_tup n h2 h3)⟩
def rng1 : List D → Option (List D)
  | [.int j] => if -(2 ^ 62) ≤ j ∧ j < 2 ^ 62 then some (rangeD 0 j.toNat) else none
  | _ => none
def rng2 : List D → Option (List D)
  | [.int i, .int j] => if -(2 ^ 62) ≤ i ∧ i < 2 ^ 62 ∧ -(2 ^ 62) ≤ j ∧ j < 2 ^ 62 then some (rangeD i (j - i).toNat) else none
  | _ => none
def iCall (f : List D → Option (List D)) (fs : SEnv → M (List D)) : SEnv → M (List D) := fun δ => fs δ >>= fun xs => M.lift (f xs)
variable {fs : SEnv → M (List D)} {a b : Expr} {p : Pos}
theorem di_rng1 (hg : Gl X "range") (hm : X.mg "range" = none) (ha : PA X [a] (tL Γ W fs)) (hs : starEach [a] X.env = [(false, eval a X.env)] := by rfl) : PI X tg (.Call (.Name "range" p) [a] [] pos) (iD Γ W (iCall rng1 fs)) := (pi_range1 hg hm ha hs).imp fun σ H K h => by
  obtain ⟨H0, A, B, P, R, δ, S, h⟩ := h
  refine ⟨H0, A, B, P, R, δ, S, igo (γ := Nat) S h fun xs vs R1 H1 m r S1 h1 => ?_⟩
  obtain ⟨ds, e1, q⟩ := ilift h1 S1.row
  unfold rng1 at e1
  split at e1
  · rename_i j
    split at e1
    · rename_i hj
      rw [RepL_cons] at r
      obtain ⟨v, ws, rfl, r1, r2⟩ := r
      rw [RepL_nil] at r2
      subst r2
      have e2 := Option.some.inj e1
      subst e2
      exact ⟨j, by rw [r1.int_eq], hj.1, hj.2, q _ dw_range⟩
    · cases e1
  · cases e1
theorem di_rng2 (hg : Gl X "range") (hm : X.mg "range" = none) (ha : PA X [a, b] (tL Γ W fs)) (hs : starEach [a, b] X.env = [(false, eval a X.env), (false, eval b X.env)] := by rfl) (hs2 : starEach [b] X.env = [(false, eval b X.env)] := by rfl) : PI X tg (.Call (.Name "range" p) [a, b] [] pos) (iD Γ W (iCall rng2 fs)) := (pi_range2 hg hm ha hs hs2).imp fun σ H K h => by
  obtain ⟨H0, A, B, P, R, δ, S, h⟩ := h
  refine ⟨H0, A, B, P, R, δ, S, igo (γ := Nat) S h fun xs vs R1 H1 m r S1 h1 => ?_⟩
  obtain ⟨ds, e1, q⟩ := ilift h1 S1.row
  unfold rng2 at e1
  split at e1
  · rename_i i j
    split at e1
    · rename_i hj
      rw [RepL_cons] at r
      obtain ⟨v, ws, rfl, r1, r2⟩ := r
      rw [RepL_cons] at r2
      obtain ⟨v2, ws2, rfl, r3, r4⟩ := r2
      rw [RepL_nil] at r4
      subst r4
      have e2 := Option.some.inj e1
      subst e2
      exact ⟨i, j, by rw [r1.int_eq, r3.int_eq], hj, q _ dw_range⟩
    · cases e1
  · cases e1
def enumOf : List D → Option (List D)
  | [.lst ds] => some (enumD ds)
  | _ => none
theorem di_enum {tpos : Pos} {elts : List Expr} {kk : Nat} (hg : Gl X "enumerate") (hm : X.mg "enumerate" = none) (ha : PA X [e] (tL Γ W fs)) (hs : starEach [e] X.env = [(false, eval e X.env)] := by rfl) :
    PI X (.Tuple elts kk tpos) (.Call (.Name "enumerate" p) [e] [] pos) (iD Γ W (iCall enumOf fs)) := (pi_enum hg hm ha hs).imp fun σ H K h => by
  obtain ⟨H0, A, B, P, R, δ, S, h⟩ := h
  refine ⟨H0, A, B, P, R, δ, S, igo (γ := Nat) S h fun xs vs R1 H1 m r S1 h1 => ?_⟩
  obtain ⟨ds, e1, q⟩ := ilift h1 S1.row
  unfold enumOf at e1
  split at e1
  · rename_i es
    rw [RepL_cons] at r
    obtain ⟨v, ws, rfl, r1, r2⟩ := r
    rw [RepL_nil] at r2
    subst r2
    have e2 := Option.some.inj e1
    subst e2
    obtain ⟨a, xs, rfl, h2, h3, n⟩ := r1.lst_at
    exact ⟨a, xs, rfl, SqL.of h2, q _ (dw_enum n h2 h3)⟩
  · cases e1
def zipOf : List D → Option (List D)
  | [.lst ds, .lst es] => some (zipD ds es)
  | [.tup ds, .tup es] => some (zipD ds es)
  | _ => none
theorem di_zip {tpos : Pos} {elts : List Expr} {kk : Nat} (hg : Gl X "zip") (hm : X.mg "zip" = none) (ha : PA X [e, e2] (tL Γ W fs)) (hs : starEach [e, e2] X.env = (false, eval e X.env) :: starEach [e2] X.env := by rfl) (hpl : (backTo pos (starEach [e2] X.env)).any (·.1) = false := by rfl) :
    PI X (.Tuple elts kk tpos) (.Call (.Name "zip" p) [e, e2] [] pos) (iD Γ W (iCall zipOf fs)) := (RZ.pi_zipA hg hm ha hs hpl).imp fun σ H K h => by
  obtain ⟨H0, A, B, P, R, δ, S, h⟩ := h
  refine ⟨H0, A, B, P, R, δ, S, igo (γ := Nat) S h fun xs vs R1 H1 m r S1 h1 => ?_⟩
  obtain ⟨ds, e1, q⟩ := ilift h1 S1.row
  unfold zipOf at e1
  split at e1
  · rename_i d1 d2
    rw [RepL_cons] at r
    obtain ⟨v, ws, rfl, r1, r2⟩ := r
    rw [RepL_cons] at r2
    obtain ⟨v2, ws2, rfl, r3, r4⟩ := r2
    rw [RepL_nil] at r4
    subst r4
    have e2 := Option.some.inj e1
    subst e2
    obtain ⟨a, xs, rfl, h2, h3, n⟩ := r1.lst_at
    obtain ⟨b, ys, rfl, h4, h5, n'⟩ := r3.lst_at
    exact ⟨a, b, xs, ys, rfl, .inl ⟨SqL.of h2, SqL.of h4, q _ (dw_zip n h2 h3 n' h4 h5)⟩⟩
  · rename_i d1 d2
    rw [RepL_cons] at r
    obtain ⟨v, ws, rfl, r1, r2⟩ := r
    rw [RepL_cons] at r2
    obtain ⟨v2, ws2, rfl, r3, r4⟩ := r2
    rw [RepL_nil] at r4
    subst r4
    have e2 := Option.some.inj e1
    subst e2
    obtain ⟨a, xs, rfl, h2, h3, n⟩ := r1.tup_at
    obtain ⟨b, ys, rfl, h4, h5, n'⟩ := r3.tup_at
    exact ⟨a, b, xs, ys, rfl, .inr ⟨SqT.of h2, SqT.of h4, q _ (dw_zipT n h2 h3 n' h4 h5)⟩⟩
  · cases e1
end
end DL

set_option Elab.async false
set_option linter.all false
set_option maxRecDepth 100000
namespace DL
open PySem PySem.Spec L2
/-! ### loops -/
def sLoop (t : Tgt) (body : SM) : List D → SM
  | [], δ, R => .nx δ R
  | d :: ds, δ, R => match bindT t d δ with
    | none => .stuck
    | some δ1 => match body δ1 R with
      | .nx δ2 R2 => sLoop t body ds δ2 R2
      | .ct δ2 R2 => sLoop t body ds δ2 R2
      | .bk δ2 R2 => .nx δ2 R2
      | .rt d R2 => .rt d R2
      | .ex c d R2 => .ex c d R2
      | .stuck => .stuck
def sFor (t : Tgt) (fi : SEnv → M (List D)) (body : SM) : SM := sBind fi fun ds => sLoop t body ds
section
variable {Γ : Ctx} {W : WX} {X : Cx} {tg e c iter : Expr} {fi : SEnv → M (List D)} {ft : SEnv → M Bool} {fe : SEnv → M D} {body : List Stmt} {fb : SM} {pos : Pos} {t : Tgt}
theorem sgoI {g : List D → SM} {K : It → Hp → Prop} {H0 H : Hp} {A B P : List Addr} {R : Option Rw} {σ : St} {δ : SEnv} {Dn : Ends} (S : RepS Γ H0 A B P R H σ δ) (h : AllK Γ W H0 A B P R H Dn (sBind fi g δ R))
    (k : ∀ ds J R1 H1, Mv Γ B R R1 H H1 → DWk Γ (A ++ P) J ds H1 → RepS Γ H0 A B P R1 H1 σ δ → AllK Γ W H0 A B P R1 H1 Dn (g ds δ R1) → K J H1) :
    (fi δ R).run (IK Γ B A P R H K) (KE Γ W B A P σ R H) := by
  unfold sBind at h
  cases e : fi δ R with
  | ok a R1 =>
    rw [e] at h
    intro b H1 m r
    exact k a b R1 H1 m r (S.move m) (AllK.later (.of_mv m) h)
  | exn c d R1 =>
    rw [e] at h
    intro v dx H1 m hx r
    exact h v dx σ H1 ⟨S.ext.trans m.ext, m.row, m.adr⟩ hx (Rep.keep (hide_keeps fun a ha => List.mem_append_left _ ha) _ r)
  | stuck =>
    rw [e] at h
    exact h.elim
theorem ds_for (hp : PassesOwn (model X.prog X.w) X.A X.env X.xe) (hc : X.calm = true) (hi : PI X tg iter (iD Γ W fi)) (hg : PG X tg (gD Γ t)) (hb : PSs X body (tS Γ W fb))
    (hs : ∀ x, foldedSetIterable iter X.env x = pure x := by intro _; rfl) : PS X (.For tg iter body [] pos) (tS Γ W (sFor t fi fb)) := (ps_for hp hc hi hg hb hs).imp fun Dn σ H h => by
  obtain ⟨H0, A, B, P, R, δ, S, h⟩ := h
  refine ⟨H0, A, B, P, R, δ, S, sgoI S h fun ds J R1 H1 m w S1 h1 => ?_⟩
  obtain ⟨n, G, Y, w⟩ := w
  refine for_it w.w (fun i σ' H' => ∃ δ' R' P', Stp Γ B P P' R1 R' H1 H' ∧ RepS Γ H0 A B P' R' H' σ' δ' ∧ AllK Γ W H0 A B P' R' H' Dn (sLoop t fb (ds.drop i) δ' R')) ⟨δ, R1, P, .refl, S1, h1⟩ ?_ ?_ ?_
  · rintro i σ' H' hi ⟨δ', R', P', s, S', h'⟩
    exact w.g0 _ _ (s.keeps S1.ba)
  · rintro i x σ' H' H'' hi ⟨δ', R', P', s, S', h'⟩ y
    obtain ⟨d, e1, g1, r1⟩ := w.y _ _ (s.keeps S1.ba) S'.all i x H'' hi y
    have hi' : i < ds.length := by rw [← w.len]; exact hi
    rw [List.drop_eq_getElem_cons hi'] at h'
    rw [List.getElem?_eq_getElem hi'] at e1
    rw [Option.some.inj e1] at h'
    have mg : Mv Γ B R' R' H' H'' := .grow S'.row g1
    have S2 := S'.move mg
    have s2 := s.trans (.of_mv mg)
    have h2 := AllK.later (.of_mv mg) h'
    simp only [sLoop] at h2
    cases q : bindT t d δ' with
    | none => simp only [q] at h2; exact h2.elim
    | some δ1 =>
      simp only [q] at h2
      refine ⟨H0, A, B, P', R', δ', d, δ1, S2, r1, q, fun σ2 P2 sub w2 S3 => ⟨H0, A, B, P2, R', δ1, S3, ?_⟩⟩
      have s3 : Stp Γ B P' P2 R' R' H'' H'' := Stp.sub .refl sub
      have h3 := AllK.later s3 h2
      have go : ∀ δ4 R4, AllK Γ W H0 A B P2 R' H'' Dn (sLoop t fb (ds.drop (i + 1)) δ4 R4) → NK Γ H0 A B P2 R' H'' (fun σ' H' => ∃ δ' R' P', Stp Γ B P P' R1 R' H1 H' ∧ RepS Γ H0 A B P' R' H' σ' δ' ∧ AllK Γ W H0 A B P' R' H' Dn (sLoop t fb (ds.drop (i + 1)) δ' R')) δ4 R4 := fun δ4 R4 h4 σ5 H5 P5 s5 S5 => ⟨δ4, R4, P5, (s2.trans s3).trans s5, S5, AllK.later s5 h4⟩
      cases qb : fb δ1 R' with
      | nx δ4 R4 => simp only [qb] at h3; exact go δ4 R4 h3
      | ct δ4 R4 => simp only [qb] at h3; exact go δ4 R4 h3
      | bk δ4 R4 => simp only [qb] at h3; exact h3
      | rt d4 R4 => simp only [qb] at h3; exact h3
      | ex c4 d4 R4 => simp only [qb] at h3; exact h3
      | stuck => simp only [qb] at h3; exact h3.elim
  · rintro σ' H' ⟨δ', R', P', s, S', h'⟩
    have e : ds.drop n = [] := by rw [w.len]; exact List.drop_length
    rw [e] at h'
    exact nx_out h' (fun _ z => z) S'
def sWhile : Nat → (SEnv → M Bool) → SM → SM
  | 0, _, _ => fun _ _ => .stuck
  | n + 1, ft, body => sBind ft fun k δ R => if k = true then (match body δ R with
      | .nx δ2 R2 => sWhile n ft body δ2 R2
      | .ct δ2 R2 => sWhile n ft body δ2 R2
      | .bk δ2 R2 => .nx δ2 R2
      | .rt d R2 => .rt d R2
      | .ex c d R2 => .ex c d R2
      | .stuck => .stuck) else .nx δ R
theorem ds_while (n : Nat) (hp : PassesOwn (model X.prog X.w) X.A X.env X.xe) (hc : PT X c (tB Γ W ft)) (hb : PSs X body (tS Γ W fb)) : PS X (.While c body [] pos) (tS Γ W (sWhile n ft fb)) := (ps_while hp hc hb).imp fun Dn σ H h => by
  obtain ⟨H0, A, B, P, R, δ, S, h⟩ := h
  refine ⟨fun m σ' H' => ∃ δ' R' P', RepS Γ H0 A B P' R' H' σ' δ' ∧ AllK Γ W H0 A B P' R' H' Dn (sWhile m ft fb δ' R'), ⟨n, δ, R, P, S, h⟩, ?_⟩
  rintro m σ' H' ⟨δ', R', P', S', h'⟩
  cases m with
  | zero => exact h'.elim
  | succ m =>
    refine ⟨H0, A, B, P', R', δ', S', sgo S' h' fun k k' R1 H1 mv r S1 h1 => ?_⟩
    have r1 : k = k' := r
    subst r1
    cases k with
    | false =>
      rw [if_neg Bool.false_ne_true] at h1 ⊢
      exact nx_out h1 (fun _ z => z) S1
    | true =>
      rw [if_pos rfl] at h1 ⊢
      refine ⟨fun σ' H' => ∃ δ' R' P', RepS Γ H0 A B P' R' H' σ' δ' ∧ AllK Γ W H0 A B P' R' H' Dn (sWhile m ft fb δ' R'), fun σ2 H2 q => ⟨m, Nat.lt_succ_self _, q⟩, H0, A, B, P', R1, δ', S1, ?_⟩
      cases qb : fb δ' R1 with
      | nx δ4 R4 => simp only [qb] at h1; exact fun σ5 H5 P5 s5 S5 => ⟨δ4, R4, P5, S5, AllK.later s5 h1⟩
      | ct δ4 R4 => simp only [qb] at h1; exact fun σ5 H5 P5 s5 S5 => ⟨δ4, R4, P5, S5, AllK.later s5 h1⟩
      | bk δ4 R4 => simp only [qb] at h1; exact h1
      | rt d4 R4 => simp only [qb] at h1; exact h1
      | ex c4 d4 R4 => simp only [qb] at h1; exact h1
      | stuck => simp only [qb] at h1; exact h1.elim
/-! ### comprehensions -/
def blkD (δ : SEnv) : List Nat → SEnv
  | [] => δ.map fun s => match s with
    | .own _ => .none
    | s => s
  | v :: vs => (blkD δ vs).set v .none
theorem SlotsR.unown {Γ : Ctx} {Hh H : Hp} {σ : St} {δ : SEnv} {P : List Addr} (h : SlotsR Γ Hh H σ δ P) : SlotsR Γ Hh H σ (blkD δ []) [] := by
  induction h with
  | nil => exact .nil
  | none _ ih => exact .none ih
  | dat r _ ih => exact .dat r ih
  | own _ _ _ ih => exact .none ih
theorem SlotsR.blk {Γ : Ctx} {Hh H : Hp} {σ : St} {δ : SEnv} {P : List Addr} (h : SlotsR Γ Hh H σ δ P) : ∀ vs : List Nat, SlotsR Γ Hh H (wipe σ vs) (blkD δ vs) []
  | [] => h.unown
  | v :: vs => by
    obtain ⟨P', h1, h2⟩ := (SlotsR.blk h vs).wipe1 v
    have e : P' = [] := List.sublist_nil.mp h2
    rw [e] at h1
    exact h1
abbrev W0 : WX := fun _ _ _ _ => False
def compL (t : Tgt) (ft : SEnv → M Bool) (fe : SEnv → M D) (δ : SEnv) : List D → M (List D)
  | [], R => .ok [] R
  | d :: ds, R => match bindT t d δ with
    | none => .stuck
    | some δ1 => match ft δ1 R with
      | .ok true R1 => (match fe δ1 R1 with
        | .ok y R2 => (match compL t ft fe δ ds R2 with
          | .ok ys R3 => .ok (y :: ys) R3
          | _ => .stuck)
        | _ => .stuck)
      | .ok false R1 => compL t ft fe δ ds R1
      | _ => .stuck
def dComp (vs : List Nat) (t : Tgt) (fi : SEnv → M (List D)) (ft : SEnv → M Bool) (fe : SEnv → M D) : SEnv → M D := fun δ => fi δ >>= fun ds => M.lift (lenOk ds) >>= fun ds => compL t ft fe (blkD δ vs) ds >>= fun rs => pure (.lst rs)
def bYes : SEnv → M Bool := fun _ => pure true
theorem dts_nil : PTs X [] (tB Γ W bYes) := ⟨fun pins s σ H Q I h => by
  obtain ⟨H0, A, B, P, R, δ, S, h⟩ := h
  exact pts_nil.run pins s σ H Q I (h true H (.refl S.row) rfl)⟩
theorem dts_one (h : PT X c (tB Γ W ft)) : PTs X [c] (tB Γ W ft) := pts_one h
theorem comp_imp {own : List (Str × Nat)} (hix : ∀ i ∈ t.ix, i ∈ own.map (·.2)) {σ : St} {H : Hp} {Q : VK} (h : tD Γ W (dComp (own.map (·.2)) t fi ft fe) σ H Q) : tLc (iD Γ W fi) (gD Γ t) (tB Γ W0 ft) (tD Γ W0 fe) (own.map (·.2)) σ H Q := by
  obtain ⟨H0, A, B, P, R, δ, S, h⟩ := h
  refine ⟨H0, A, B, P, R, δ, S, Out.run_mono (run_bind.mp h) (fun ds R1 _ q J H1 m w => ?_) fun _ _ _ _ q => q⟩
  have S1 := S.move m
  obtain ⟨n, G, Y, w⟩ := w
  obtain ⟨ds2, el, q1⟩ := lift_bind q
  obtain ⟨rfl, hlen⟩ := lenOk_eq el
  have q2 := run_bind.mp q1
  intro Da hD
  have nB : Da ∉ B := fun z => by
    obtain ⟨o, e, _⟩ := S1.al Da (S1.ba Da z)
    rw [hD] at e; cases e
  have nAP : Da ∉ A ++ P := all_out S1.all hD
  -- the invariant
  let Inv2 : Nat → Hp → Prop := fun i H' => ∃ R' accV acc, Ext Γ B H1 H' ∧ RowOk Γ H' R' ∧ rAddr R' = rAddr R1 ∧ H' Da = some (.lst accV) ∧ RepL Γ (hide (Da :: (A ++ P)) H') acc accV ∧ accV.length ≤ i ∧
    (compL t ft fe (blkD δ (own.map (·.2))) (ds2.drop i) R').run (fun ys R2 => ∀ b H2, Mv Γ B R R2 H H2 → Rep Γ (hide (A ++ P) H2) (.lst (acc ++ ys)) b → Q b H2) fun _ _ _ => False
  have kp : ∀ {H'}, Ext Γ B H1 H' → Keeps Γ (hide (A ++ P) H1) (hide (Da :: (A ++ P)) H') := fun {H'} e => by
    have k1 : Keeps Γ (hide (A ++ P) H1) (hide (A ++ P) H') := e.keeps S1.bap
    have nn : ∀ {b o}, hide (A ++ P) H1 b = some o → b ∉ Da :: (A ++ P) := fun {b o} z y => by
      obtain ⟨n1, z⟩ := hide_some z
      rcases List.mem_cons.mp y with y | y
      · rw [y, hD] at z; cases z
      · exact n1 y
    have up : ∀ {b o}, b ∉ Da :: (A ++ P) → hide (A ++ P) H' b = some o → hide (Da :: (A ++ P)) H' b = some o := fun {b o} n1 z => by
      rw [hide_out n1]
      exact (hide_some z).2
    exact ⟨fun a xs z => up (nn z) (k1.lst a xs z), fun a xs z => up (nn z) (k1.tup a xs z), fun a xs z => up (nn z) (k1.dic a xs z), fun a C dx fs z => up (nn z) (k1.ins a C dx fs z), fun b kvs z => by
      obtain ⟨kvs', e1, e2⟩ := k1.ca b kvs z
      exact ⟨kvs', up (nn z) e1, e2⟩, fun a φ z => up (nn z) (k1.ext a φ z)⟩
  have ext0 : Ext Γ B H1 (upd H1 Da (.lst [])) := .new hD
  refine lc_it w.w Inv2 ⟨R1, [], [], ext0, S1.row.new hD, rfl, upd_same, RepL_nil.mpr rfl, Nat.le_refl _, ?_⟩ ?_ ?_ ?_
  · rw [List.drop_zero]
    refine Out.run_mono q2 (fun ys R2 _ z b H2 mv r => ?_) fun c d R2 e _ => ?_
    · exact z b H2 mv (by simpa using r)
    · -- nothing leaves a comprehension
      exfalso
      have nox : ∀ (l : List D) (R : Option Rw) (c : String) (d : D) (R2 : Option Rw), compL t ft fe (blkD δ (own.map (·.2))) l R ≠ .exn c d R2 := by
        intro l
        induction l with
        | nil => intro R c d R2 z; simp [compL] at z
        | cons x l ih =>
          intro R c d R2 z
          simp only [compL] at z
          split at z
          · cases z
          · split at z
            · split at z
              · split at z <;> cases z
              · cases z
            · exact ih _ _ _ _ z
            · cases z
      exact nox _ _ _ _ _ e
  · rintro i H' hi ⟨R', accV, acc, e1, e2, e3, e4, e5, e6, e7⟩
    exact w.g0 _ _ (kp e1)
  · rintro i x H' H'' hi ⟨R', accV, acc, e1, e2, e3, e4, e5, e6, e7⟩ y
    have al' : All (Da :: (A ++ P)) H' := fun p hp => by
      rcases List.mem_cons.mp hp with z | z
      · exact ⟨_, by rw [z]; exact e4, rfl⟩
      · obtain ⟨o, z, n⟩ := S1.all p z
        obtain ⟨o', z', n'⟩ := e1.al p o z
        exact ⟨o', z', n' n⟩
    obtain ⟨d, d1, g1, r1⟩ := w.y _ _ (kp e1) al' i x H'' hi y
    have hi' : i < ds2.length := by rw [← w.len]; exact hi
    rw [List.drop_eq_getElem_cons hi'] at e7
    rw [List.getElem?_eq_getElem hi'] at d1
    rw [Option.some.inj d1] at e7
    have e1'' : Ext Γ B H1 H'' := e1.trans (.of g1)
    have Sb : RepS Γ H1 (Da :: (A ++ P)) B [] R' H'' (wipe σ (own.map (·.2))) (blkD δ (own.map (·.2))) := {
      row := e2.grow g1
      ra := fun a ha => List.mem_cons_of_mem _ (List.mem_append_left _ (S1.ra a (by rw [← e3]; exact ha)))
      ba := fun a ha => List.mem_cons_of_mem _ (S1.bap a ha)
      rb := fun a ha => S1.rb a (by rw [← e3]; exact ha)
      al := fun a ha => by
        obtain ⟨o, z, n⟩ := al' a ha
        exact ⟨o, g1 a o z, n⟩
      sc := S1.scr
      sb := S1.sb
      ext := e1''
      own := fun p hp => by cases hp
      nd := .nil
      slots := by
        rw [List.append_nil]
        exact (S1.slots.blk (own.map (·.2))).keep (kp e1'') fun p hp => by cases hp }
    simp only [compL] at e7
    cases qt : bindT t d (blkD δ (own.map (·.2))) with
    | none => simp only [qt] at e7; exact e7.elim
    | some δ1 =>
      simp only [qt] at e7
      refine ⟨H1, _, B, [], R', _, d, δ1, Sb, by rw [List.append_nil]; exact r1, qt, fun σ2 P2 sub w2 S2 => ⟨?_, ?_⟩⟩
      · have e := w2 (own.map (·.2)) hix
        rw [e]
        have idem : ∀ (vs us : List Nat), (∀ v ∈ vs, v ∈ us) → wipe (wipe σ us) vs = wipe σ us := by
          intro vs
          induction vs with
          | nil => intro us _; rfl
          | cons v vs ih =>
            intro us hv
            show (wipe (wipe σ us) vs).set v none = wipe σ us
            rw [ih us fun u hu => hv u (List.mem_cons_of_mem _ hu)]
            have hm := hv v List.mem_cons_self
            have at_ : ∀ (us : List Nat), v ∈ us → v < (wipe σ us).length → (wipe σ us)[v]? = some none := by
              intro us
              induction us with
              | nil => intro h; cases h
              | cons u us ih2 =>
                intro h hl
                show ((wipe σ us).set u none)[v]? = some none
                have hl2 : v < (wipe σ us).length := by
                  have : (wipe σ (u :: us)).length = (wipe σ us).length := by show ((wipe σ us).set u none).length = _; rw [List.length_set]
                  rw [← this]; exact hl
                by_cases q : u = v
                · rw [q, List.getElem?_set_self hl2]
                · rw [List.getElem?_set_ne q]
                  rcases List.mem_cons.mp h with z | z
                  · exact absurd z.symm q
                  · exact ih2 z hl2
            by_cases hl : v < (wipe σ us).length
            · have e1 := at_ us hm hl
              apply List.ext_getElem?
              intro j
              by_cases q : v = j
              · rw [← q, List.getElem?_set_self hl, e1]
              · rw [List.getElem?_set_ne q]
            · exact List.set_eq_of_length_le (by omega)
        exact idem _ _ fun _ h => h
      · have sub0 : P2 = [] := List.eq_nil_iff_forall_not_mem.mpr fun p hp => by cases sub p hp
        subst sub0
        refine ⟨H1, _, B, [], R', δ1, S2, ?_⟩
        cases qf : ft δ1 R' with
        | ok k R2 =>
          simp only [qf] at e7
          intro b H3 m3 rb
          have rb1 : k = b := rb
          subst rb1
          have S3 := S2.move m3
          cases k with
          | false =>
            rw [if_neg Bool.false_ne_true]
            simp only at e7
            exact ⟨R2, accV, acc, e1''.trans m3.ext, m3.row, m3.adr.trans e3, m3.ext.st _ _ nB (g1 _ _ e4) rfl, RepL.keep (by have z := S2.keeps m3; rw [List.append_nil] at z; exact z) _ (RepL.keep (Grow.keeps g1) _ e5), Nat.le_succ_of_le e6, e7⟩
          | true =>
            rw [if_pos rfl]
            simp only at e7
            refine ⟨H1, _, B, [], R2, δ1, S3, ?_⟩
            cases qe : fe δ1 R2 with
            | ok z R3 =>
              simp only [qe] at e7
              intro y4 H4 m4 r4
              have D4 : H4 Da = some (.lst accV) := m4.ext.st _ _ nB (m3.ext.st _ _ nB (g1 _ _ e4) rfl) rfl
              refine ⟨accV, D4, by omega, ?_⟩
              have nR : Da ∉ rAddr R3 := fun z => nB (S1.rb Da (by rw [← e3, ← m3.adr, ← m4.adr]; exact z))
              have hid : hide (Da :: (A ++ P)) (upd H4 Da (.lst (accV ++ [y4]))) = hide (Da :: (A ++ P)) H4 := hide_upd List.mem_cons_self
              have extU : Ext Γ B H1 (upd H4 Da (.lst (accV ++ [y4]))) := by
                have e4' := (e1''.trans m3.ext).trans m4.ext
                refine ⟨fun b o n e s => ?_, fun b kvs n e => ?_, fun b o e => ?_⟩
                · rw [upd_ne (ne_of_none e hD)]; exact e4'.st b o n e s
                · rw [upd_ne (ne_of_none e hD)]; exact e4'.ca b kvs n e
                · rw [upd_ne (ne_of_none e hD)]; exact e4'.al b o e
              have accr : RepL Γ (hide (Da :: (A ++ P)) H4) acc accV := RepL.keep (by have z := S3.keeps m4; rw [List.append_nil] at z; exact z) _ (RepL.keep (by have z := S2.keeps m3; rw [List.append_nil] at z; exact z) _ (RepL.keep (Grow.keeps g1) _ e5))
              refine ⟨R3, accV ++ [y4], acc ++ [z], extU, m4.row.upd D4 nR, (m4.adr.trans m3.adr).trans e3, upd_same, by rw [hid]; exact accr.append (RepL.one (by rw [List.append_nil] at r4; exact r4)), by rw [List.length_append]; simp; omega, ?_⟩
              cases qc : compL t ft fe (blkD δ (own.map (·.2))) (ds2.drop (i + 1)) R3 with
              | ok ys R5 =>
                simp only [qc] at e7
                intro b H2 mv r
                exact e7 b H2 mv (by simpa using r)
              | exn c d R5 => simp only [qc] at e7; exact e7.elim
              | stuck => simp only [qc] at e7; exact e7.elim
            | exn c d R3 => simp only [qe] at e7; exact e7.elim
            | stuck => simp only [qe] at e7; exact e7.elim
        | exn c d R2 => simp only [qf] at e7; exact e7.elim
        | stuck => simp only [qf] at e7; exact e7.elim
  · rintro H' ⟨R', accV, acc, e1, e2, e3, e4, e5, e6, e7⟩
    have e : ds2.drop n = [] := by rw [w.len]; exact List.drop_length
    rw [e] at e7
    refine e7 (.ref Da) H' ⟨m.ext.trans e1, e2, e3.trans m.adr⟩ ?_
    rw [List.append_nil]
    exact Rep_lst.mpr ⟨Da, accV, rfl, by rw [hide_out nAP]; exact e4, RepL.keep (hide_keeps fun a ha => List.mem_cons_of_mem _ ha) _ e5⟩
section
variable {own : List (Str × Nat)} {scope : Scope} {elt : Expr} {ifs : List Expr}
theorem pd_lc (hc : X.calm = true) (hN : X.N.Nodup) (hi : PI X tg iter (iD Γ W fi)) (ok : BlkOk X.N X.env.scope scope own) (hix : ∀ i ∈ t.ix, i ∈ own.map (·.2))
    (hg : ∀ (s : Shared) (H : Hp) (C : Addr) (cl : List (Str × Addr)) (fp : List Addr), PG (X.blk s H scope (compEnvC scope cl C X.env) fp) tg (gD Γ t)) (ht : ∀ (s : Shared) (H : Hp) (C : Addr) (cl : List (Str × Addr)) (fp : List Addr), PTs (X.blk s H scope (compEnvC scope cl C X.env) fp) ifs (tB Γ W0 ft))
    (he : ∀ (s : Shared) (H : Hp) (C : Addr) (cl : List (Str × Addr)) (fp : List Addr), PE (X.blk s H scope (compEnvC scope cl C X.env) fp) elt (tD Γ W0 fe)) (hs : ∀ x, foldedSetIterable iter X.env x = pure x := by intro _; rfl) :
    PE X (.ListComp elt [⟨tg, iter, ifs, 0⟩] scope pos) (tD Γ W (dComp (own.map (·.2)) t fi ft fe)) := (pe_lc hc hN hi ok hg ht he hs).imp fun _ _ _ h => comp_imp hix h
theorem ds_setLc {i : Nat} {y : Str} {py spos : Pos} (hc : X.calm = true) (hN : X.N.Nodup) (hy : X.N[i]? = some y) (hyl : X.env.scope.names.lookup y = some .local)
    (hsw : swapsWith (.ListComp elt [⟨tg, iter, ifs, 0⟩] scope pos) (some (.Name y py)) spos.line X.env = pure true) (hi : PI X tg iter (iD Γ W fi)) (ok : BlkOk X.N X.env.scope scope own) (hix : ∀ i ∈ t.ix, i ∈ own.map (·.2))
    (hg : ∀ (s : Shared) (H : Hp) (C : Addr) (cl : List (Str × Addr)) (fp : List Addr), PG (X.blk s H scope (compEnvC scope cl C X.env) fp) tg (gD Γ t)) (ht : ∀ (s : Shared) (H : Hp) (C : Addr) (cl : List (Str × Addr)) (fp : List Addr), PTs (X.blk s H scope (compEnvC scope cl C X.env) fp) ifs (tB Γ W0 ft))
    (he : ∀ (s : Shared) (H : Hp) (C : Addr) (cl : List (Str × Addr)) (fp : List Addr), PE (X.blk s H scope (compEnvC scope cl C X.env) fp) elt (tD Γ W0 fe)) (hs : ∀ x, foldedSetIterable iter X.env x = pure x := by intro _; rfl) :
    PS X (.Assign [.Name y py] (.ListComp elt [⟨tg, iter, ifs, 0⟩] scope pos) spos) (tS Γ W (sSet i (dComp (own.map (·.2)) t fi ft fe))) := (ps_setLc hc hN hy hyl hsw hi ok hg ht he hs).imp fun Dn σ H h => by
  obtain ⟨H0, A, B, P, R, δ, S, h⟩ := h
  show tLc _ _ _ _ _ σ H (fun x H1 => gName i x σ H1 Dn.nx)
  refine comp_imp (W := W) hix ⟨H0, A, B, P, R, δ, S, sgo S h fun x vx R1 H1 m r S1 h1 => ?_⟩
  obtain ⟨P', S', sub⟩ := S1.set r i
  exact nx_out h1 sub S'
end
end
end DL

set_option Elab.async false
set_option linter.all false
set_option maxRecDepth 100000
namespace DL
open PySem PySem.Spec L2
/-! ### what a def promises -/
def spD (Γ : Ctx) (n : Nat) (F : List D → M D) : Sp := fun vs H Q E => ∃ ds R A, RepL Γ (hide A H) ds vs ∧ ds.length = n ∧ RowOk Γ H R ∧ (∀ a ∈ rAddr R, a ∈ A) ∧ All A H ∧ SqL Γ.K H Γ.scr (Γ.cells.map V.int) ∧ (Γ.scr ∈ rAddr R → ScrK Γ) ∧
  (F ds R).run (fun d R' => ∀ v H', Mv Γ (rAddr R) R R' H H' → Rep Γ (hide A H') d v → Q v H')
    (fun c d R' => ∀ v dx H', Mv Γ (rAddr R) R R' H H' → H' dx = some (.xd [(("value" : Str), v)]) → Rep Γ (hide A H') d v → E (.ref (Γ.cls c)) (some dx) H')
/-- a def of the module that can be called by its name -/
structure Cal (P : Program) (w : World) (K : PySem.W.Frag) (mg : Str → Option Value) (base : Heap) (Γ : Ctx) (k : Nat) (x : Str) (n : Nat) (F : List D → M D) : Prop where
  ex : ∃ (f : Addr) (fd : FuncData) (ps : List Str), FnOk P w K mg base (L2.CX P w) k f fd ps (spD Γ n F) ∧ mg x = some (.ref f) ∧ PySem.W.keepIn K (.ref f) = true ∧ L2.Binds K fd ps []
def dFn (n : Nat) (F : List D → M D) (fs : SEnv → M (List D)) : SEnv → M D := fun δ => fs δ >>= fun ds => if ds.length = n then F ds else M.stuck
section
variable {Γ : Ctx} {W : WX} {X : Cx} {e : Expr} {es : List Expr} {fs : SEnv → M (List D)} {pos p : Pos} {k n : Nat} {x : Str} {F : List D → M D}
theorem fn_imp {fs : SEnv → M (List D)} {σ : St} {H : Hp} {Q : VK} (h : tD Γ W (dFn n F fs) σ H Q) : tL Γ W fs σ H fun vs H1 => spD Γ n F vs H1 Q (WE W σ) := by
  obtain ⟨H0, A, B, P, R, δ, S, h⟩ := h
  refine ⟨H0, A, B, P, R, δ, S, go S h fun ds vs R1 H1 m1 r1 S1 h1 => ?_⟩
  split at h1
  · rename_i hn
    refine ⟨ds, R1, A ++ P, r1, hn, S1.row, fun a ha => List.mem_append_left _ (S1.ra a ha), S1.all, S1.scr, fun z => S1.sb (S1.rb _ z), ?_⟩
    have up : ∀ {R2 H2}, Mv Γ (rAddr R1) R1 R2 H1 H2 → Mv Γ B R1 R2 H1 H2 := fun m => ⟨m.ext.mono S1.rb, m.row, m.adr⟩
    exact Out.run_mono h1 (fun d R2 _ q v H2 m2 r2 => q v H2 (up m2) r2) fun c d R2 _ q v dx H2 m2 hx r2 => q v dx H2 (up m2) hx r2
  · exact h1.elim
theorem pd_call (C : Cal X.prog X.w X.K X.mg X.base Γ k x n F) (hr : Room k X.A) (tk : Takes X W) (ha : PA X (e :: es) (tL Γ W fs)) (hg : Gl X x := by rfl)
    (hdb : (x == ("__debug__" : Str)) = false := by decide) (he : starEach (e :: es) X.env = (false, eval e X.env) :: starEach es X.env := by rfl) (hpl : (backTo pos (starEach es X.env)).any (·.1) = false := by rfl) :
    PE X (.Call (.Name x p) (e :: es) [] pos) (tD Γ W (dFn n F fs)) := by
  obtain ⟨f, fd, ps, ok, gx, kp, b⟩ := C.ex
  exact (pe_callS ok hr hg gx kp b (fun σ => passAt tk σ) ha hdb he hpl).imp fun _ _ _ h => fn_imp h
end
def fin : SOut → Out D
  | .nx _ R => .ok .non R
  | .rt d R => .ok d R
  | .ex c d R => .exn c d R
  | _ => .stuck
def startD (N : List Str) (ds : List D) : SEnv := ds.map SD.dat ++ List.replicate (N.length - ds.length) SD.none
theorem slots_start {Γ : Ctx} {Hh H : Hp} {N : List Str} : ∀ {ds : List D} {vs : List V}, RepL Γ Hh ds vs → ∀ m, SlotsR Γ Hh H (vs.map some ++ List.replicate m none) (ds.map SD.dat ++ List.replicate m SD.none) []
  | [], vs, h, m => by
    rw [RepL_nil] at h
    subst h
    induction m with
    | zero => exact .nil
    | succ m ih => exact .none ih
  | d :: ds, vs, h, m => by
    rw [RepL_cons] at h
    obtain ⟨v, ws, rfl, h1, h2⟩ := h
    exact .dat h1 (slots_start (N := N) h2 m)
section
variable {Γ : Ctx} {P : Program} {w : World} {K : PySem.W.Frag} {mg : Str → Option Value} {base : Heap}
abbrev WD (E : XK) : WX := fun cls d _ H => E cls d H
/-- a def's promise holds by its body's reading -/
theorem sp_imp {N : List Str} {n : Nat} {F : List D → M D} {sem : SM} (hF : ∀ ds R, ds.length = n → F ds R ≠ .stuck → fin (sem (startD N ds) R) = F ds R) {vs : List V} {H : Hp} {Q : VK} {E : XK} (h : spD Γ n F vs H Q E) :
    tS Γ (WD E) sem { nx := fun _ H' => Q .non H', rt := Q } (L2.start N vs) H := by
  obtain ⟨ds, R, A, r, hn, row, ra, al, sc, sb, h⟩ := h
  have hl := r.length
  have S : RepS Γ H A (rAddr R) [] R H (L2.start N vs) (startD N ds) := {
    row := row
    ra := ra
    ba := ra
    rb := fun _ h => h
    al := al
    sc := sc
    sb := sb
    ext := .refl
    own := fun p hp => by cases hp
    nd := .nil
    slots := by
      rw [List.append_nil]
      unfold L2.start startD
      rw [hl]
      exact slots_start (N := N) r _ }
  refine ⟨H, A, rAddr R, [], R, _, S, ?_⟩
  have ns : F ds R ≠ .stuck := fun z => by rw [z] at h; exact h
  have e := hF ds R hn ns
  cases q : sem (startD N ds) R with
  | nx δ' R' =>
    rw [q] at e
    rw [← e] at h
    intro σ' H' P' s S'
    exact h .non H' ⟨S'.ext, S'.row, s.adr⟩ Rep.of_non
  | rt d R' =>
    rw [q] at e
    rw [← e] at h
    exact fun v H' m r => h v H' m r
  | ex c d R' =>
    rw [q] at e
    rw [← e] at h
    exact fun v dx σ' H' m hx r => h v dx H' m hx r
  | bk δ' R' => rw [q] at e; exact absurd e.symm ns
  | ct δ' R' => rw [q] at e; exact absurd e.symm ns
  | stuck => rw [q] at e; exact absurd e.symm ns
theorem cal_mk {x : Str} {params : Arguments} {body : List Stmt} {scope : Scope} {f : Addr} {fd : FuncData} {N ps : List Str} {k : Nat} {F : List D → M D} (FD : FunD K x x params body scope [] [] f fd) (gx : mg x = some (.ref f)) (S : FnScope N ps scope) (hb : L2.Binds K fd ps [])
    (hbody : ∀ (cdv : Value) (A : Around) (outer : List Env) (s : Shared) (H : Hp) (E : XK), Room k (A.deeper (PyProof.Rows.envOfC x scope s.heap.objs.size f cdv)) →
      ∃ sem, PSs (cxOf (L2.CX P w) P w K mg base N x scope f cdv A outer s H E) body (tS Γ (WD E) sem) ∧ ∀ ds R, ds.length = ps.length → F ds R ≠ .stuck → fin (sem (startD N ds) R) = F ds R) : Cal P w K mg base Γ (k + 1) x ps.length F := by
  refine ⟨f, fd, ps, FD.ok S (fun vs H Q E h => ?_) (fun cdv A outer s H vs Q E hr h => ?_), gx, FD.kp, hb⟩
  · obtain ⟨ds, R, A, r, hn, _⟩ := h
    rw [r.length, hn]
  · obtain ⟨sem, h1, h2⟩ := hbody cdv A outer s H E hr
    exact ⟨_, h1, sp_imp h2 h⟩
theorem Cal.mono {j k n : Nat} {x : Str} {F : List D → M D} (C : Cal P w K mg base Γ j x n F) (h : j ≤ k) : Cal P w K mg base Γ k x n F := by
  obtain ⟨f, fd, ps, ok, gx, kp, b⟩ := C.ex
  exact ⟨f, fd, ps, ok.mono h, gx, kp, b⟩
/-- a smaller promise -/
theorem Cal.imp {k n : Nat} {x : Str} {F G : List D → M D} (C : Cal P w K mg base Γ k x n F) (h : ∀ ds R, ds.length = n → G ds R ≠ .stuck → F ds R = G ds R) : Cal P w K mg base Γ k x n G := by
  obtain ⟨f, fd, ps, ok, gx, kp, b⟩ := C.ex
  refine ⟨f, fd, ps, ok.imp fun vs H Q E q => ?_, gx, kp, b⟩
  obtain ⟨ds, R, A, r, hn, row, ra, al, sc, sb, h'⟩ := q
  refine ⟨ds, R, A, r, hn, row, ra, al, sc, sb, ?_⟩
  rw [h ds R hn (fun z => by rw [z] at h'; exact h')]
  exact h'
end
/-! ### errors -/
/-- the maker of all errors: BoxError.__init__(self, value=None) -/
def spBox (K : PySem.W.Frag) : Sp := fun vs H Q _ => ∃ (a C : Addr) (v : V), vs = [.ref a, v] ∧ OexC K C ∧ PySem.W.findIn K (.ref C) "value" = some none ∧ H a = some (exo a C none) ∧
  ∀ dx, H dx = none → dx ≠ a → Q .non (upd (upd H dx (exd dx [(("value" : Str), v)])) a (exo a C (some dx)))
structure BoxI (P : Program) (w : World) (K : PySem.W.Frag) (mg : Str → Option Value) (base : Heap) (k : Nat) (fI : Addr) : Prop where
  ex : ∃ (fd : FuncData) (ps : List Str), FnOk P w K mg base (L2.CX P w) k fI fd ps (spBox K) ∧ L2.Binds K fd ps [] ∧ PySem.W.typeIn K (.ref fI) = some (.type "function")
/-- an error class C of the module, its maker at fI -/
structure ExcF (K : PySem.W.Frag) (mg : Str → Option Value) (Γ : Ctx) (fI : Addr) (c : String) : Prop where
  oex : OexC K (Γ.cls c)
  ini : PySem.W.findIn K (.ref (Γ.cls c)) "__init__" = some (some (.ref fI))
  mgC : mg (Str.ofString c) = some (.ref (Γ.cls c))
  noV : PySem.W.findIn K (.ref (Γ.cls c)) "value" = some none
  xf : XfC K (Γ.cls c)
def sRaise (c : String) (fe : SEnv → M D) : SM := sBind fe fun d _ R => .ex c d R
theorem ds_raise {Γ : Ctx} {W : WX} {X : Cx} {k : Nat} {fI : Addr} {c : String} {e : Expr} {fe : SEnv → M D} {p pos pos2 : Pos} (Bx : BoxI X.prog X.w X.K X.mg X.base k fI) (T : ExcF X.K X.mg Γ fI c) (hr : Room (k + 1) X.A) (tk : Takes X W) (ha : PE X e (tD Γ W fe)) (hc : X.calm = true := by rfl)
    (hg : Gl X (Str.ofString c) := by rfl) (hdb : (Str.ofString c == ("__debug__" : Str)) = false := by decide) (he : starEach (e :: []) X.env = (false, eval e X.env) :: starEach [] X.env := by rfl) (hpl : (backTo pos (starEach [] X.env)).any (·.1) = false := by rfl) :
    PS X (.Raise (some (.Call (.Name (Str.ofString c) p) [e] [] pos)) none pos2) (tS Γ W (sRaise c fe)) := by
  obtain ⟨fd, ps, ok, hb, tI⟩ := Bx.ex
  refine (ps_raise hc tk (pmk_oex T.oex T.ini tI ok hr hb .nil (passL) hg T.mgC (pa_cons ha pa_nil he) hdb he hpl)).imp fun Dn σ H h => ?_
  obtain ⟨H0, A, B, P, R, δ, S, h⟩ := h
  refine ⟨H0, A, B, P, R, δ, S, sgo S h fun x vx R1 H1 m r S1 h1 => ?_⟩
  refine ⟨by simp, fun a ha => ⟨a, Γ.cls c, vx, rfl, T.oex, T.noV, upd_same, fun dx hdx ne => ⟨rfl, dx, [(("value" : Str), vx)], upd_same, ?_, ?_, ?_⟩⟩⟩
  · rw [upd_ne ne, upd_same]
  · rw [upd_ne ne] at hdx
    exact hdx
  · have hdx1 : H1 dx = none := by
      rw [upd_ne ne] at hdx
      exact hdx
    have gr : Grow H1 (upd (del (upd (upd (upd H1 a (exo a (Γ.cls c) none)) dx (exd dx [(("value" : Str), vx)])) a (exo a (Γ.cls c) (some dx))) a) dx (.xd [(("value" : Str), vx)])) := fun b o q => by
      have n1 : b ≠ dx := ne_of_none q hdx1
      have n2 : b ≠ a := ne_of_none q ha
      rw [upd_ne n1, del_ne n2, upd_ne n2, upd_ne n1, upd_ne n2]
      exact q
    refine h1 vx dx σ _ ⟨S1.ext.trans (.of gr), S1.row.grow gr, rfl⟩ upd_same ?_
    exact Rep.keep (Grow.keeps gr) _ (Rep.keep (hide_keeps fun a ha => List.mem_append_left _ ha) _ r)
end DL

set_option Elab.async false
set_option linter.all false
set_option maxRecDepth 100000
namespace DL
open PySem PySem.Spec L2
/-! ### numbers -/
def liftI (g : Int → Int → Int) : D → D → Option D
  | .int i, .int j => some (.int (g i j))
  | _, _ => none
def liftB (g : Int → Int → Bool) : D → D → Option D
  | .int i, .int j => some (.bl (g i j))
  | _, _ => none
def liftC (C : Int → Int → Prop) [∀ i j, Decidable (C i j)] (g : Int → Int → Int) : D → D → Option D
  | .int i, .int j => if C i j then some (.int (g i j)) else none
  | _, _ => none
theorem od_I0 {Γ : Ctx} (g : Int → Int → Int) : OpD Γ (rI0 fun i j => .int (g i j)) (liftI g) := fun A H x y a b d Q al ra rb e q => by
  cases a <;> cases b <;> simp only [liftI] at e <;> try (cases e)
  exact ⟨_, _, ra.int_eq, rb.int_eq, q _ H (fun _ _ h => h) Rep.of_int⟩
theorem od_B0 {Γ : Ctx} (g : Int → Int → Bool) : OpD Γ (rI0 fun i j => .bl (g i j)) (liftB g) := fun A H x y a b d Q al ra rb e q => by
  cases a <;> cases b <;> simp only [liftB] at e <;> try (cases e)
  exact ⟨_, _, ra.int_eq, rb.int_eq, q _ H (fun _ _ h => h) Rep.of_bl⟩
theorem od_I {Γ : Ctx} (C : Int → Int → Prop) [∀ i j, Decidable (C i j)] (g : Int → Int → Int) : OpD Γ (rI C fun i j => .int (g i j)) (liftC C g) := fun A H x y a b d Q al ra rb e q => by
  cases a <;> cases b <;> simp only [liftC] at e <;> try (cases e)
  split at e
  · cases e
    exact ⟨_, _, ra.int_eq, rb.int_eq, by assumption, q _ H (fun _ _ h => h) Rep.of_int⟩
  · cases e
instance (i j : Int) : Decidable (CDiv i j) := by unfold CDiv; infer_instance
instance (i j : Int) : Decidable (CPow i j) := by unfold CPow; infer_instance
instance (i j : Int) : Decidable (CMul i j) := by unfold CMul; infer_instance
abbrev oAdd : D → D → Option D := liftI fun i j => i + j
abbrev oSub : D → D → Option D := liftI fun i j => i - j
abbrev oMul : D → D → Option D := liftC CMul fun i j => i * j
abbrev oDiv : D → D → Option D := liftC CDiv fun i j => i / j
abbrev oMod : D → D → Option D := liftC (fun _ j => 0 < j) fun i j => i % j
abbrev oPow : D → D → Option D := liftC CPow fun i j => i ^ j.toNat
abbrev oShl : D → D → Option D := liftC CPow fun i j => i * 2 ^ j.toNat
abbrev oShr : D → D → Option D := liftC (fun _ j => 0 ≤ j) fun i j => i / 2 ^ j.toNat
abbrev oLt : D → D → Option D := liftB fun i j => decide (i < j)
abbrev oLe : D → D → Option D := liftB fun i j => decide (i ≤ j)
abbrev oGt : D → D → Option D := liftB fun i j => decide (j < i)
abbrev oGe : D → D → Option D := liftB fun i j => decide (j ≤ i)
theorem od_add {Γ : Ctx} : OpD Γ (rI0 fun i j => .int (i + j)) oAdd := od_I0 _
theorem od_sub {Γ : Ctx} : OpD Γ (rI0 fun i j => .int (i - j)) oSub := od_I0 _
theorem od_mul {Γ : Ctx} : OpD Γ (rI CMul fun i j => .int (i * j)) oMul := od_I _ _
theorem od_div {Γ : Ctx} : OpD Γ (rI CDiv fun i j => .int (i / j)) oDiv := od_I _ _
theorem od_mod {Γ : Ctx} : OpD Γ (rI (fun _ j => 0 < j) fun i j => .int (i % j)) oMod := od_I _ _
theorem od_pow {Γ : Ctx} : OpD Γ (rI CPow fun i j => .int (i ^ j.toNat)) oPow := od_I _ _
theorem od_shl {Γ : Ctx} : OpD Γ (rI CPow fun i j => .int (i * 2 ^ j.toNat)) oShl := od_I _ _
theorem od_shr {Γ : Ctx} : OpD Γ (rI (fun _ j => 0 ≤ j) fun i j => .int (i / 2 ^ j.toNat)) oShr := od_I _ _
theorem od_lt {Γ : Ctx} : OpD Γ (rI0 fun i j => .bl (decide (i < j))) oLt := od_B0 _
theorem od_le {Γ : Ctx} : OpD Γ (rI0 fun i j => .bl (decide (i ≤ j))) oLe := od_B0 _
theorem od_gt {Γ : Ctx} : OpD Γ (rI0 fun i j => .bl (decide (j < i))) oGt := od_B0 _
theorem od_ge {Γ : Ctx} : OpD Γ (rI0 fun i j => .bl (decide (j ≤ i))) oGe := od_B0 _
def oNeg : D → Option D
  | .int i => some (.int (-i))
  | _ => none
theorem ud_neg {Γ : Ctx} : UnD Γ (rU fun i => .int (-i)) oNeg := fun A H x a d Q al ra e q => by
  cases a <;> simp only [oNeg] at e <;> try (cases e)
  exact ⟨_, ra.int_eq, q _ H (fun _ _ h => h) Rep.of_int⟩
/-! ### is -/
def oIsN : D → D → Option D
  | .non, .non => some (.bl true)
  | .bl _, .non | .int _, .non | .str _, .non | .lst _, .non | .tup _, .non | .dic, .non | .web _ _, .non => some (.bl false)
  | _, _ => none
def oNotN : D → D → Option D
  | .non, .non => some (.bl false)
  | .bl _, .non | .int _, .non | .str _, .non | .lst _, .non | .tup _, .non | .dic, .non | .web _ _, .non => some (.bl true)
  | _, _ => none
theorem isN_of {Γ : Ctx} {H : Hp} {a : D} {x : V} {k : D} (ra : Rep Γ H a x) (e : oIsN a .non = some k) : k = .bl (decide (x = .non)) := by
  cases a <;> simp only [oIsN, Option.some.injEq] at e <;> try (cases e)
  · rw [ra.non_eq]; rfl
  · rw [ra.bl_eq]; rfl
  · rw [ra.int_eq]; rfl
  · rw [ra.str_eq]; rfl
  · rw [Rep_lst] at ra; obtain ⟨_, _, rfl, _⟩ := ra; rfl
  · rw [Rep_tup] at ra; obtain ⟨_, _, rfl, _⟩ := ra; rfl
  · rw [Rep] at ra; obtain ⟨_, rfl, _⟩ := ra; rfl
  · rw [Rep] at ra; obtain ⟨_, _, _, _, _, _, rfl, _⟩ := ra; rfl
theorem od_isN {Γ : Ctx} : OpD Γ (fun x y H Q => y = .non ∧ Q (.bl (decide (x = .non))) H) oIsN := fun A H x y a b d Q al ra rb e q => by
  have hb : b = .non := by cases a <;> cases b <;> simp [oIsN] at e <;> rfl
  subst hb
  have := isN_of ra e
  subst this
  exact ⟨rb.non_eq, q _ H (fun _ _ h => h) Rep.of_bl⟩
theorem od_notN {Γ : Ctx} : OpD Γ (fun x y H Q => y = .non ∧ Q (.bl (!decide (x = .non))) H) oNotN := fun A H x y a b d Q al ra rb e q => by
  have hb : b = .non := by cases a <;> cases b <;> simp [oNotN] at e <;> rfl
  subst hb
  have e2 : ∃ k, oIsN a .non = some (.bl k) ∧ d = .bl (!k) := by
    cases a <;> simp only [oNotN, Option.some.injEq] at e <;> try (cases e)
    all_goals first
      | exact ⟨true, rfl, rfl⟩
      | exact ⟨false, rfl, rfl⟩
  obtain ⟨k, e3, rfl⟩ := e2
  have := isN_of ra e3
  injection this with this
  subst this
  exact ⟨rb.non_eq, q _ H (fun _ _ h => h) Rep.of_bl⟩
def oIsB : D → D → Option D
  | .bl a, .bl b => some (.bl (decide (a = b)))
  | _, _ => none
def oNotB : D → D → Option D
  | .bl a, .bl b => some (.bl (!decide (a = b)))
  | _, _ => none
theorem od_isB {Γ : Ctx} : OpD Γ rIsB oIsB := fun A H x y a b d Q al ra rb e q => by
  cases a <;> cases b <;> simp only [oIsB] at e <;> try (cases e)
  exact ⟨_, _, ra.bl_eq, rb.bl_eq, q _ H (fun _ _ h => h) Rep.of_bl⟩
theorem od_notB {Γ : Ctx} : OpD Γ rNotB oNotB := fun A H x y a b d Q al ra rb e q => by
  cases a <;> cases b <;> simp only [oNotB] at e <;> try (cases e)
  exact ⟨_, _, ra.bl_eq, rb.bl_eq, q _ H (fun _ _ h => h) Rep.of_bl⟩
/-! ### == -/
mutual
def isPd : D → Bool
  | .non | .bl _ | .int _ | .str _ => true
  | .lst ds | .tup ds => isPds ds
  | .dic | .web _ _ | .row _ | .fn _ => false
def isPds : List D → Bool
  | [] => true
  | d :: ds => isPd d && isPds ds
end
mutual
def toPy : D → PyData
  | .bl b => .bool b
  | .int i => .int i
  | .str x => .str x
  | .lst ds => .list (toPys ds)
  | .tup ds => .tuple (toPys ds)
  | .dic => .dict []
  | .non | .web _ _ | .row _ | .fn _ => .none
def toPys : List D → List PyData
  | [] => []
  | d :: ds => toPy d :: toPys ds
end
mutual
theorem Rep.dp {Γ : Ctx} {K : PySem.W.Frag} {A : List Addr} {H : Hp} : ∀ (d : D) {v : V}, Rep Γ (hide A H) d v → isPd d = true → Dp K H v (toPy d)
  | .non, v, r, _ => by rw [r.non_eq, toPy]; exact .non
  | .bl b, v, r, _ => by rw [r.bl_eq, toPy]; exact .bl b
  | .int i, v, r, _ => by rw [r.int_eq, toPy]; exact .int i
  | .str x, v, r, _ => by rw [r.str_eq, toPy]; exact .str x
  | .lst ds, v, r, h => by
    obtain ⟨a, xs, rfl, h1, h2, _⟩ := r.lst_at
    rw [toPy]
    exact .lst (SqL.of h1) (RepL.dp ds h2 (by rw [isPd] at h; exact h))
  | .tup ds, v, r, h => by
    obtain ⟨a, xs, rfl, h1, h2, _⟩ := r.tup_at
    rw [toPy]
    exact .tup (SqT.of h1) (RepL.dp ds h2 (by rw [isPd] at h; exact h))
  | .dic, v, r, h => by rw [isPd] at h; cases h
  | .web _ _, v, r, h => by rw [isPd] at h; cases h
  | .row _, v, r, h => by rw [isPd] at h; cases h
  | .fn _, v, r, h => by rw [isPd] at h; cases h
theorem RepL.dp {Γ : Ctx} {K : PySem.W.Frag} {A : List Addr} {H : Hp} : ∀ (ds : List D) {vs : List V}, RepL Γ (hide A H) ds vs → isPds ds = true → DpAll K H vs (toPys ds)
  | [], vs, r, _ => by rw [RepL_nil] at r; rw [r, toPys]; exact .nil
  | d :: ds, vs, r, h => by
    rw [RepL_cons] at r
    obtain ⟨v, ws, rfl, h1, h2⟩ := r
    rw [isPds, Bool.and_eq_true] at h
    rw [toPys]
    exact .cons (Rep.dp d h1 h.1) (RepL.dp ds h2 h.2)
end
def okEq (d : D) : Bool := isPd d && SeqAt.shaped (toPy d)
def oEq (a b : D) : Option D := if okEq a && okEq b then some (.bl (PyData.eqv (toPy a) (toPy b))) else none
def oNe (a b : D) : Option D := if okEq a && okEq b then some (.bl (!PyData.eqv (toPy a) (toPy b))) else none
theorem od_eq {Γ : Ctx} {K : PySem.W.Frag} : OpD Γ (rEqD K) oEq := fun A H x y a b d Q al ra rb e q => by
  unfold oEq okEq at e
  split at e
  · rename_i h
    simp only [Bool.and_eq_true] at h
    cases e
    exact ⟨_, _, Rep.dp a ra h.1.1, Rep.dp b rb h.2.1, h.1.2, h.2.2, q _ H (fun _ _ h => h) Rep.of_bl⟩
  · cases e
theorem od_ne {Γ : Ctx} {K : PySem.W.Frag} : OpD Γ (rNeD K) oNe := fun A H x y a b d Q al ra rb e q => by
  unfold oNe okEq at e
  split at e
  · rename_i h
    simp only [Bool.and_eq_true] at h
    cases e
    exact ⟨_, _, Rep.dp a ra h.1.1, Rep.dp b rb h.2.1, h.1.2, h.2.2, q _ H (fun _ _ h => h) Rep.of_bl⟩
  · cases e
/-! ### in: flat items -/
def flatD : D → Bool
  | .non | .bl _ | .int _ | .str _ => true
  | _ => false
def eqF : D → D → Bool
  | .non, .non => true
  | .bl a, .bl b => a == b
  | .bl a, .int b => (if a then 1 else 0) == b
  | .int a, .bl b => a == (if b then 1 else 0)
  | .int a, .int b => a == b
  | .str a, .str b => a == b
  | _, _ => false
def vOf : D → V
  | .bl b => .bl b
  | .int i => .int i
  | .str x => .str x
  | _ => .non
theorem vOf_eq {Γ : Ctx} {H : Hp} {d : D} {v : V} (f : flatD d = true) (r : Rep Γ H d v) : v = vOf d := by
  cases d <;> simp [flatD] at f
  · exact r.non_eq
  · exact r.bl_eq
  · exact r.int_eq
  · exact r.str_eq
theorem flatV_of {d : D} (f : flatD d = true) : flatV (vOf d) = true := by cases d <;> simp [flatD] at f <;> rfl
theorem eqV_of {d e : D} (f : flatD d = true) (g : flatD e = true) : eqV (vOf d) (vOf e) = eqF d e := by cases d <;> simp [flatD] at f <;> cases e <;> simp [flatD] at g <;> rfl
theorem flats_of {Γ : Ctx} {H : Hp} : ∀ {ds : List D} {xs : List V}, RepL Γ H ds xs → ds.all flatD = true → xs = ds.map vOf
  | [], xs, r, _ => by rw [RepL_nil] at r; rw [r]; rfl
  | d :: ds, xs, r, f => by
    rw [RepL_cons] at r
    obtain ⟨v, ws, rfl, h1, h2⟩ := r
    rw [List.all_cons, Bool.and_eq_true] at f
    rw [List.map_cons, vOf_eq f.1 h1, flats_of h2 f.2]
def inF (x : D) (ds : List D) : Bool := ds.any fun y => eqF y x
theorem inV_of {x : D} (f : flatD x = true) : ∀ {ds : List D}, ds.all flatD = true → inV (vOf x) (ds.map vOf) = inF x ds
  | [], _ => rfl
  | d :: ds, g => by
    rw [List.all_cons, Bool.and_eq_true] at g
    show (eqV (vOf d) (vOf x) || inV (vOf x) (ds.map vOf)) = (eqF d x || inF x ds)
    rw [eqV_of g.1 f, inV_of f g.2]
def oIn : D → D → Option D
  | x, .lst ds => if flatD x && ds.all flatD then some (.bl (inF x ds)) else none
  | x, .tup ds => if flatD x && ds.all flatD then some (.bl (inF x ds)) else none
  | _, _ => none
def oNotIn : D → D → Option D
  | x, .lst ds => if flatD x && ds.all flatD then some (.bl (!inF x ds)) else none
  | x, .tup ds => if flatD x && ds.all flatD then some (.bl (!inF x ds)) else none
  | _, _ => none
theorem all_flatV : ∀ {ds : List D}, ds.all flatD = true → (ds.map vOf).all flatV = true
  | [], _ => rfl
  | d :: ds, g => by
    rw [List.all_cons, Bool.and_eq_true] at g
    rw [List.map_cons, List.all_cons, flatV_of g.1, all_flatV g.2] <;> rfl
theorem od_in {Γ : Ctx} {K : PySem.W.Frag} : OpD Γ (rIn K false) oIn := fun A H x y a b d Q al ra rb e q => by
  cases b <;> simp only [oIn] at e <;> try (cases e)
  · rename_i ds
    split at e
    · rename_i h
      simp only [Bool.and_eq_true] at h
      cases e
      obtain ⟨p, xs, rfl, h1, h2, _⟩ := rb.lst_at
      have ex := flats_of h2 h.2
      subst ex
      have ea := vOf_eq h.1 ra
      subst ea
      exact ⟨p, _, rfl, .inl (SqL.of h1), flatV_of h.1, all_flatV h.2, by rw [if_neg Bool.false_ne_true, inV_of h.1 h.2]; exact q _ H (fun _ _ h => h) Rep.of_bl⟩
    · cases e
  · rename_i ds
    split at e
    · rename_i h
      simp only [Bool.and_eq_true] at h
      cases e
      obtain ⟨p, xs, rfl, h1, h2, _⟩ := rb.tup_at
      have ex := flats_of h2 h.2
      subst ex
      have ea := vOf_eq h.1 ra
      subst ea
      exact ⟨p, _, rfl, .inr (SqT.of h1), flatV_of h.1, all_flatV h.2, by rw [if_neg Bool.false_ne_true, inV_of h.1 h.2]; exact q _ H (fun _ _ h => h) Rep.of_bl⟩
    · cases e
theorem od_notIn {Γ : Ctx} {K : PySem.W.Frag} : OpD Γ (rIn K true) oNotIn := fun A H x y a b d Q al ra rb e q => by
  cases b <;> simp only [oNotIn] at e <;> try (cases e)
  · rename_i ds
    split at e
    · rename_i h
      simp only [Bool.and_eq_true] at h
      cases e
      obtain ⟨p, xs, rfl, h1, h2, _⟩ := rb.lst_at
      have ex := flats_of h2 h.2
      subst ex
      have ea := vOf_eq h.1 ra
      subst ea
      exact ⟨p, _, rfl, .inl (SqL.of h1), flatV_of h.1, all_flatV h.2, by rw [if_pos rfl, inV_of h.1 h.2]; exact q _ H (fun _ _ h => h) Rep.of_bl⟩
    · cases e
  · rename_i ds
    split at e
    · rename_i h
      simp only [Bool.and_eq_true] at h
      cases e
      obtain ⟨p, xs, rfl, h1, h2, _⟩ := rb.tup_at
      have ex := flats_of h2 h.2
      subst ex
      have ea := vOf_eq h.1 ra
      subst ea
      exact ⟨p, _, rfl, .inr (SqT.of h1), flatV_of h.1, all_flatV h.2, by rw [if_pos rfl, inV_of h.1 h.2]; exact q _ H (fun _ _ h => h) Rep.of_bl⟩
    · cases e
/-! ### + of lists, tuples; * -/
def oCat : D → D → Option D
  | .lst a, .lst b => if a.length + b.length ≤ sizeLine then some (.lst (a ++ b)) else none
  | _, _ => none
theorem od_cat {Γ : Ctx} : OpD Γ rCat oCat := fun A H x y a b d Q al ra rb e q => by
  cases a <;> cases b <;> simp only [oCat] at e <;> try (cases e)
  split at e
  · rename_i h
    cases e
    obtain ⟨l, xs, rfl, h1, h2, _⟩ := ra.lst_at
    obtain ⟨m, ys, rfl, h3, h4, _⟩ := rb.lst_at
    exact ⟨l, m, xs, ys, rfl, rfl, h1, h3, by rw [h2.length, h4.length]; exact h, fun p hp => q _ _ (grow_new hp) (Rep.new_lst al hp (h2.append h4))⟩
  · cases e
def oCatT : D → D → Option D
  | .tup a, .tup b => if a.length + b.length ≤ sizeLine then some (.tup (a ++ b)) else none
  | _, _ => none
theorem od_catT {Γ : Ctx} {K : PySem.W.Frag} : OpD Γ (rCatA K) oCatT := fun A H x y a b d Q al ra rb e q => by
  cases a <;> cases b <;> simp only [oCatT] at e <;> try (cases e)
  rename_i as bs
  split at e
  · rename_i h
    cases e
    have ra' := ra
    have rb' := rb
    obtain ⟨l, xs, rfl, h1, h2, _⟩ := ra.tup_at
    obtain ⟨m, ys, rfl, h3, h4, _⟩ := rb.tup_at
    refine ⟨l, m, xs, ys, rfl, rfl, SqT.of h1, SqT.of h3, by rw [h2.length, h4.length]; exact h, fun z => ?_, fun _ z => ?_, fun _ _ p hp => q _ _ (grow_new hp) (Rep.new_tup al hp (h2.append h4))⟩
    · have e1 : as = [] := by have := h2.length; rw [z] at this; exact List.length_eq_zero_iff.mp this.symm
      rw [e1] at q
      exact q _ H (fun _ _ h => h) rb'
    · have e1 : bs = [] := by have := h4.length; rw [z] at this; exact List.length_eq_zero_iff.mp this.symm
      rw [e1, List.append_nil] at q
      exact q _ H (fun _ _ h => h) ra'
  · cases e
theorem RepL.rep {Γ : Ctx} {H : Hp} {ds : List D} {xs : List V} (r : RepL Γ H ds xs) : ∀ n, RepL Γ H (List.replicate n ds).flatten (List.replicate n xs).flatten
  | 0 => RepL_nil.mpr rfl
  | n + 1 => by
    rw [List.replicate_succ, List.replicate_succ, List.flatten_cons, List.flatten_cons]
    exact r.append (RepL.rep r n)
def oRep : D → D → Option D
  | .lst a, .int k => if -(2 ^ 63) ≤ k ∧ k < 2 ^ 63 ∧ a.length * k.toNat ≤ sizeLine then some (.lst (List.replicate k.toNat a).flatten) else none
  | _, _ => none
theorem od_rep {Γ : Ctx} : OpD Γ rRep oRep := fun A H x y a b d Q al ra rb e q => by
  cases a <;> cases b <;> simp only [oRep] at e <;> try (cases e)
  split at e
  · rename_i h
    cases e
    obtain ⟨l, xs, rfl, h1, h2, _⟩ := ra.lst_at
    exact ⟨l, _, xs, rfl, rb.int_eq, h1, h.1, h.2.1, by rw [h2.length]; exact h.2.2, fun p hp => q _ _ (grow_new hp) (Rep.new_lst al hp (h2.rep _))⟩
  · cases e
def oAddS : D → D → Option D
  | .str a, .str b => if a.length + b.length ≤ sizeLine then some (.str (a ++ b)) else none
  | _, _ => none
theorem od_addS {Γ : Ctx} : OpD Γ (fun x y H Q => ∃ i j, x = .str i ∧ y = .str j ∧ i.length + j.length ≤ sizeLine ∧ Q (.str (i ++ j)) H) oAddS := fun A H x y a b d Q al ra rb e q => by
  cases a <;> cases b <;> simp only [oAddS] at e <;> try (cases e)
  split at e
  · cases e
    exact ⟨_, _, ra.str_eq, rb.str_eq, by assumption, q _ H (fun _ _ h => h) Rep.of_str⟩
  · cases e
/-! ### items -/
def oIx : D → D → Option D
  | .lst ds, .int i => atI ds i
  | .tup ds, .int i => atI ds i
  | .str z, .int i => if z.length ≤ sizeLine then (atI z.cps.toList i).map fun c => .str ⟨#[c]⟩ else none
  | _, _ => none
theorem RepL.atI {Γ : Ctx} {H : Hp} {ds : List D} {xs : List V} (r : RepL Γ H ds xs) {i : Int} {d : D} (e : L2.atI ds i = some d) : ∃ v, L2.atI xs i = some v ∧ Rep Γ H d v := by
  unfold L2.atI at e ⊢
  rw [r.length]
  cases q : ixN ds.length i with
  | none => rw [q] at e; cases e
  | some j =>
    rw [q] at e
    exact r.get e
theorem od_ix {Γ : Ctx} {K : PySem.W.Frag} : OpD Γ (rIx K) oIx := fun A H x y a b d Q al ra rb e q => by
  cases a <;> cases b <;> simp only [oIx] at e <;> try (cases e)
  · split at e
    · rename_i hz
      obtain ⟨c, h1, rfl⟩ := Option.map_eq_some_iff.mp e
      exact .inr (.inr ⟨_, _, c, ra.str_eq, rb.int_eq, hz, h1, q _ H (fun _ _ h => h) Rep.of_str⟩)
    · cases e
  · obtain ⟨p, xs, rfl, h1, h2, _⟩ := ra.lst_at
    obtain ⟨v, e1, e2⟩ := h2.atI e
    exact .inl ⟨p, xs, _, v, rfl, rb.int_eq, SqL.of h1, e1, q v H (fun _ _ h => h) e2⟩
  · obtain ⟨p, xs, rfl, h1, h2, _⟩ := ra.tup_at
    obtain ⟨v, e1, e2⟩ := h2.atI e
    exact .inr (.inl ⟨p, xs, _, v, rfl, rb.int_eq, SqT.of h1, e1, q v H (fun _ _ h => h) e2⟩)
/-! ### slices -/
def cutD (ds : List D) (lo hi : Option Int) : List D := (ds.drop (HT.sIx ds.length 0 lo)).take (HT.sIx ds.length ds.length hi - HT.sIx ds.length 0 lo)
theorem RepL.cut {Γ : Ctx} {H : Hp} {ds : List D} {xs : List V} (r : RepL Γ H ds xs) (lo hi : Option Int) : RepL Γ H (cutD ds lo hi) (cutV xs lo hi) := by
  unfold cutD cutV
  rw [r.length]
  exact (r.drop _).take _
def oCut : D → Option Int → Option Int → Option D
  | .lst ds, lo, hi => some (.lst (cutD ds lo hi))
  | .tup ds, lo, hi => some (.tup (cutD ds lo hi))
  | .str z, lo, hi => if z.length ≤ sizeLine then some (.str (cutS z lo hi)) else none
  | _, _, _ => none
def intP : D → Option (Option Int)
  | .int i => some (some i)
  | _ => none
def pNone : SEnv → M (Option Int) := fun _ => pure none
def pSome (f : SEnv → M D) : SEnv → M (Option Int) := fun δ => f δ >>= fun x => M.lift (intP x)
def repO : Hp → Option Int → Option Int → Prop := fun _ a b => a = b
abbrev tO (Γ : Ctx) (W : WX) (f : SEnv → M (Option Int)) : TO := tG Γ W repO f
def dCut (fe : SEnv → M D) (fl fh : SEnv → M (Option Int)) : SEnv → M D := fun δ => fe δ >>= fun x => fl δ >>= fun l => fh δ >>= fun h => M.lift (oCut x l h)
abbrev rSlAll (K : PySem.W.Frag) : V → Option Int → Option Int → Hp → VK → Prop := fun x lo hi H Q => rSlL K x lo hi H Q ∨ (rSlA K x lo hi H Q ∨ rSlS x lo hi H Q)
theorem sl_all {X : Cx} : SlR X (rSlAll X.K) := sl_list.or (sl_tupA.or sl_str)
section
variable {Γ : Ctx} {W : WX} {X : Cx} {e b : Expr} {es : List Expr} {fe fa : SEnv → M D} {fl fh : SEnv → M (Option Int)} {fs : SEnv → M (List D)} {pos p2 p : Pos} {lo hi : Option Expr}
theorem po_non : PO X none (tO Γ W pNone) := ⟨fun pins s σ H Q I h => by
  obtain ⟨H0, A, B, P, R, δ, S, h⟩ := h
  exact po_none.run pins s σ H Q I (h none H (.refl S.row) rfl)⟩
theorem po_som (h : PE X e (tD Γ W fe)) : PO X (some e) (tO Γ W (pSome fe)) := ⟨fun pins s σ H Q I hq => by
  refine (po_some h).run pins s σ H Q I ?_
  obtain ⟨H0, A, B, P, R, δ, S, h⟩ := hq
  refine ⟨H0, A, B, P, R, δ, S, go S h fun x vx R1 H1 m1 r1 S1 h1 => ?_⟩
  obtain ⟨k, e, q⟩ := lift_out S1 h1
  cases x <;> simp [intP] at e
  subst e
  exact ⟨_, r1.int_eq, q _ H1 (fun _ _ z => z) rfl⟩⟩
theorem pd_slice (he : PE X e (tD Γ W fe)) (hl : PO X lo (tO Γ W fl)) (hu : PO X hi (tO Γ W fh)) : PE X (.Subscript e (.Slice lo hi none p2) pos) (tD Γ W (dCut fe fl fh)) := (pe_slice sl_all he hl hu).imp fun σ H Q h => by
  obtain ⟨H0, A, B, P, R, δ, S, h⟩ := h
  refine ⟨H0, A, B, P, R, δ, S, go S h fun x vx R1 H1 m1 r1 S1 h1 => ⟨H0, A, B, P, R1, δ, S1, go S1 h1 fun l l' R2 H2 m2 r2 S2 h2 => ⟨H0, A, B, P, R2, δ, S2, go S2 h2 fun u u' R3 H3 m3 r3 S3 h3 => ?_⟩⟩⟩
  have e1 : l = l' := r2
  have e2 : u = u' := r3
  subst e1 e2
  obtain ⟨d, e, q⟩ := lift_out S3 h3
  have r4 := Rep.keep (S2.keeps m3) _ (Rep.keep (S1.keeps m2) _ r1)
  cases x <;> simp only [oCut] at e <;> try (cases e)
  · split at e
    · cases e
      exact .inr (.inr ⟨_, r4.str_eq, by assumption, q _ H3 (fun _ _ z => z) Rep.of_str⟩)
    · cases e
  · obtain ⟨p, xs, rfl, h1, h2, _⟩ := r4.lst_at
    exact .inl ⟨p, xs, rfl, SqL.of h1, fun q' hq => q _ _ (grow_new hq) (Rep.new_lst S3.all hq (h2.cut l u))⟩
  · rename_i ds
    have r4' := r4
    obtain ⟨p, xs, rfl, h1, h2, _⟩ := r4.tup_at
    refine .inr (.inl ⟨p, xs, rfl, SqT.of h1, fun w => ?_, fun _ q' hq => q _ _ (grow_new hq) (Rep.new_tup S3.all hq (h2.cut l u))⟩)
    have ec : cutD ds l u = ds := by
      unfold cutD
      rw [h2.length] at w
      rw [w.1, w.2, List.drop_zero, Nat.sub_zero, List.take_length]
    rw [ec] at q
    exact q _ H3 (fun _ _ z => z) r4'
end
/-! ### calls of builtins -/
def fLen : List D → Option D
  | [.lst ds] => some (.int ds.length)
  | [.tup ds] => some (.int ds.length)
  | [.str z] => if z.length ≤ sizeLine then some (.int z.length) else none
  | _ => none
abbrev rLenA (K : PySem.W.Frag) : List V → Hp → VK → Prop := fun xs H Q => (∃ p ys, xs = [.ref p] ∧ (SqL K H p ys ∨ SqT K H p ys) ∧ Q (.int ys.length) H) ∨ (∃ z, xs = [.str z] ∧ z.length ≤ sizeLine ∧ Q (.int z.length) H)
theorem cr_len {X : Cx} : CallR X (.builtin "len") (rLenA X.K) := call_len_seq.or call_len_str
theorem RepL.one_inv {Γ : Ctx} {H : Hp} {d : D} {xs : List V} (r : RepL Γ H [d] xs) : ∃ v, xs = [v] ∧ Rep Γ H d v := by
  rw [RepL_cons] at r
  obtain ⟨v, ws, rfl, h1, h2⟩ := r
  rw [RepL_nil] at h2
  subst h2
  exact ⟨v, rfl, h1⟩
theorem RepL.two_inv {Γ : Ctx} {H : Hp} {d e : D} {xs : List V} (r : RepL Γ H [d, e] xs) : ∃ v w, xs = [v, w] ∧ Rep Γ H d v ∧ Rep Γ H e w := by
  rw [RepL_cons] at r
  obtain ⟨v, ws, rfl, h1, h2⟩ := r
  obtain ⟨w, rfl, h3⟩ := h2.one_inv
  exact ⟨v, w, rfl, h1, h3⟩
theorem cd_len {Γ : Ctx} {K : PySem.W.Frag} : CallD Γ (rLenA K) fLen := fun A H xs as d Q al r e q => by
  unfold fLen at e
  split at e
  · obtain ⟨v, rfl, r1⟩ := r.one_inv
    obtain ⟨p, ys, rfl, h1, h2, _⟩ := r1.lst_at
    cases e
    exact .inl ⟨p, ys, rfl, .inl (SqL.of h1), by rw [h2.length]; exact q _ H (fun _ _ z => z) Rep.of_int⟩
  · obtain ⟨v, rfl, r1⟩ := r.one_inv
    obtain ⟨p, ys, rfl, h1, h2, _⟩ := r1.tup_at
    cases e
    exact .inl ⟨p, ys, rfl, .inr (SqT.of h1), by rw [h2.length]; exact q _ H (fun _ _ z => z) Rep.of_int⟩
  · obtain ⟨v, rfl, r1⟩ := r.one_inv
    split at e
    · cases e
      exact .inr ⟨_, by rw [r1.str_eq], by assumption, q _ H (fun _ _ z => z) Rep.of_int⟩
    · cases e
  · cases e
def fList : List D → Option D
  | [.lst ds] => some (.lst ds)
  | [.tup ds] => some (.lst ds)
  | _ => none
theorem cd_list {Γ : Ctx} {K : PySem.W.Frag} : CallD Γ (fun xs H Q => ∃ p ys, xs = [.ref p] ∧ (SqL K H p ys ∨ SqT K H p ys) ∧ ∀ l, H l = none → Q (.ref l) (upd H l (.lst ys))) fList := fun A H xs as d Q al r e q => by
  unfold fList at e
  split at e
  · obtain ⟨v, rfl, r1⟩ := r.one_inv
    obtain ⟨p, ys, rfl, h1, h2, _⟩ := r1.lst_at
    cases e
    exact ⟨p, ys, rfl, .inl (SqL.of h1), fun l hl => q _ _ (grow_new hl) (Rep.new_lst al hl h2)⟩
  · obtain ⟨v, rfl, r1⟩ := r.one_inv
    obtain ⟨p, ys, rfl, h1, h2, _⟩ := r1.tup_at
    cases e
    exact ⟨p, ys, rfl, .inr (SqT.of h1), fun l hl => q _ _ (grow_new hl) (Rep.new_lst al hl h2)⟩
  · cases e
def fTuple : List D → Option D
  | [.lst ds] => some (.tup ds)
  | [.tup ds] => some (.tup ds)
  | _ => none
theorem cd_tuple {Γ : Ctx} {K : PySem.W.Frag} : CallD Γ (fun xs H Q => ∃ p ys, xs = [.ref p] ∧ ((SqL K H p ys ∧ ∀ l, H l = none → Q (.ref l) (upd H l (.tup ys))) ∨ (SqT K H p ys ∧ Q (.ref p) H))) fTuple := fun A H xs as d Q al r e q => by
  unfold fTuple at e
  split at e
  · obtain ⟨v, rfl, r1⟩ := r.one_inv
    obtain ⟨p, ys, rfl, h1, h2, _⟩ := r1.lst_at
    cases e
    exact ⟨p, ys, rfl, .inl ⟨SqL.of h1, fun l hl => q _ _ (grow_new hl) (Rep.new_tup al hl h2)⟩⟩
  · obtain ⟨v, rfl, r1⟩ := r.one_inv
    have r1' := r1
    obtain ⟨p, ys, rfl, h1, h2, _⟩ := r1.tup_at
    cases e
    exact ⟨p, ys, rfl, .inr ⟨SqT.of h1, q _ H (fun _ _ z => z) r1'⟩⟩
  · cases e
def fInt : List D → Option D
  | [.int i] => some (.int i)
  | [.bl k] => some (.int (if k then 1 else 0))
  | _ => none
theorem cd_int {Γ : Ctx} : CallD Γ (fun xs H Q => (∃ i, xs = [.int i] ∧ Q (.int i) H) ∨ ∃ k, xs = [.bl k] ∧ Q (.int (if k then 1 else 0)) H) fInt := fun A H xs as d Q al r e q => by
  unfold fInt at e
  split at e
  · obtain ⟨v, rfl, r1⟩ := r.one_inv
    cases e
    exact .inl ⟨_, by rw [r1.int_eq], q _ H (fun _ _ z => z) Rep.of_int⟩
  · obtain ⟨v, rfl, r1⟩ := r.one_inv
    cases e
    exact .inr ⟨_, by rw [r1.bl_eq], q _ H (fun _ _ z => z) Rep.of_int⟩
  · cases e
def fMax2 : List D → Option D
  | [.int i, .int j] => some (.int (if j > i then j else i))
  | _ => none
def fMin2 : List D → Option D
  | [.int i, .int j] => some (.int (if j < i then j else i))
  | _ => none
theorem cd_max2 {Γ : Ctx} : CallD Γ (fun xs H Q => ∃ i j, xs = [.int i, .int j] ∧ Q (.int (if j > i then j else i)) H) fMax2 := fun A H xs as d Q al r e q => by
  unfold fMax2 at e
  split at e
  · obtain ⟨v, w, rfl, r1, r2⟩ := r.two_inv
    cases e
    exact ⟨_, _, by rw [r1.int_eq, r2.int_eq], q _ H (fun _ _ z => z) Rep.of_int⟩
  · cases e
theorem cd_min2 {Γ : Ctx} : CallD Γ (fun xs H Q => ∃ i j, xs = [.int i, .int j] ∧ Q (.int (if j < i then j else i)) H) fMin2 := fun A H xs as d Q al r e q => by
  unfold fMin2 at e
  split at e
  · obtain ⟨v, w, rfl, r1, r2⟩ := r.two_inv
    cases e
    exact ⟨_, _, by rw [r1.int_eq, r2.int_eq], q _ H (fun _ _ z => z) Rep.of_int⟩
  · cases e
def bools : List D → Option (List Bool)
  | [] => some []
  | .bl b :: ds => (bools ds).map (b :: ·)
  | _ => none
theorem bools_of {Γ : Ctx} {H : Hp} : ∀ {ds : List D} {xs : List V} {bs : List Bool}, RepL Γ H ds xs → bools ds = some bs → xs = bs.map V.bl
  | [], xs, bs, r, e => by
    rw [RepL_nil] at r
    simp [bools] at e
    rw [r, e]; rfl
  | d :: ds, xs, bs, r, e => by
    rw [RepL_cons] at r
    obtain ⟨v, ws, rfl, h1, h2⟩ := r
    cases d <;> simp only [bools] at e <;> try (cases e)
    obtain ⟨cs, e1, rfl⟩ := Option.map_eq_some_iff.mp e
    rw [List.map_cons, h1.bl_eq, bools_of h2 e1]
def fAll : List D → Option D
  | [.lst ds] => (bools ds).map fun bs => .bl (bs.all id)
  | _ => none
def fAny : List D → Option D
  | [.lst ds] => (bools ds).map fun bs => .bl (bs.any id)
  | _ => none
theorem cd_all {Γ : Ctx} {K : PySem.W.Frag} : CallD Γ (rAll K) fAll := fun A H xs as d Q al r e q => by
  unfold fAll at e
  split at e
  · obtain ⟨v, rfl, r1⟩ := r.one_inv
    obtain ⟨p, ys, rfl, h1, h2, _⟩ := r1.lst_at
    obtain ⟨bs, e1, rfl⟩ := Option.map_eq_some_iff.mp e
    have := bools_of h2 e1
    subst this
    exact ⟨p, bs, rfl, SqL.of h1, q _ H (fun _ _ z => z) Rep.of_bl⟩
  · cases e
theorem cd_any {Γ : Ctx} {K : PySem.W.Frag} : CallD Γ (rAny K) fAny := fun A H xs as d Q al r e q => by
  unfold fAny at e
  split at e
  · obtain ⟨v, rfl, r1⟩ := r.one_inv
    obtain ⟨p, ys, rfl, h1, h2, _⟩ := r1.lst_at
    obtain ⟨bs, e1, rfl⟩ := Option.map_eq_some_iff.mp e
    have := bools_of h2 e1
    subst this
    exact ⟨p, bs, rfl, SqL.of h1, q _ H (fun _ _ z => z) Rep.of_bl⟩
  · cases e
end DL

set_option Elab.async false
set_option linter.all false
set_option maxRecDepth 100000
namespace DL
open PySem PySem.Spec L2
/-! ### isinstance -/
def typeN : D → Option String
  | .non => some "NoneType"
  | .bl _ => some "bool"
  | .int _ => some "int"
  | .str _ => some "str"
  | .lst _ => some "list"
  | .tup _ => some "tuple"
  | .dic => some "dict"
  | .web _ _ | .row _ | .fn _ => none
theorem tyX_of {Γ : Ctx} {K : PySem.W.Frag} {A : List Addr} {H : Hp} {d : D} {v : V} {t : String} (r : Rep Γ (hide A H) d v) (e : typeN d = some t) : TyX K H v (.type t) := by
  cases d <;> simp only [typeN, Option.some.injEq] at e <;> try (cases e)
  · rw [r.non_eq]; exact .base .non
  · rw [r.bl_eq]; exact .base (.bl _)
  · rw [r.int_eq]; exact .base (.int _)
  · rw [r.str_eq]; exact .base (.str _)
  · obtain ⟨a, xs, rfl, h1, _⟩ := r.lst_at; exact .base (.lst h1)
  · obtain ⟨a, xs, rfl, h1, _⟩ := r.tup_at; exact .base (.tup h1)
  · rw [Rep] at r; obtain ⟨a, rfl, h1⟩ := r; exact .base (.dK (hide_some h1).2)
def isiD (T : String) (d : D) : Option D := (typeN d).bind fun a => (kitB a T).map D.bl
def isiD2 (T U : String) (d : D) : Option D := (typeN d).bind fun a => (kitB a T).bind fun k => if k = true then some (.bl true) else (kitB a U).map D.bl
/-- what is asked of the web's class -/
structure WebF (K : PySem.W.Frag) (mg : Str → Option Value) (Γ : Ctx) : Prop where
  cl : Cls K Γ.web
  ha : PySem.W.findIn K (.ref Γ.web) "__class__" = some (some (.builtin "object.__class__"))
  hn : PySem.W.specialIn K (.builtin "object.__class__") "__get__" = some (some (.builtin "getset_descriptor.__get__"))
  htk : PySem.W.takesIn K (.builtin "object.__class__") = some true
  hm : PySem.W.mroIn K Γ.web (.type "object") = some true
  no : ∀ T ∈ ["NoneType", "bool", "int", "str", "list", "tuple", "dict"], PySem.W.kitOne K (.type T) (.ref Γ.web) = some false
  nC : NoAttr K Γ.web "coins"
  nS : NoAttr K Γ.web "strings"
  nW : NoAttr K Γ.web "worths"
  gW : mg "Web" = some (.ref Γ.web)
def isiW : D → Option D
  | .web _ _ => some (.bl true)
  | .non | .bl _ | .int _ | .str _ | .lst _ | .tup _ | .dic => some (.bl false)
  | .row _ | .fn _ => none
section
variable {Γ : Ctx} {W : WX} {X : Cx} {e b c : Expr} {fe : SEnv → M D} {fs : SEnv → M (List D)} {pos p : Pos}
theorem pd_isi {T : String} (hm : X.mg "isinstance" = none) (ha : PE X e (tD Γ W fe)) (hT : PE X b (tC (.ty T))) (hg : Gl X "isinstance" := by rfl) (h1 : starEach [e, b] X.env = (false, eval e X.env) :: starEach [b] X.env := by rfl) (h2 : starEach [b] X.env = (false, eval b X.env) :: starEach [] X.env := by rfl)
    (h3 : (backTo pos (starEach [b] X.env)).any (·.1) = false := by rfl) :
    PE X (.Call (.Name "isinstance" p) [e, b] [] pos) (tD Γ W (d1 (isiD T) fe)) := (pe_callB call_isi hg hm (by decide +kernel) (pa_cons ha (pa_cons hT pa_nil h2) h1) (by decide) (by decide) h1 h3).imp fun σ H Q h => by
  obtain ⟨H0, A, B, P, R, δ, S, h⟩ := h
  refine ⟨H0, A, B, P, R, δ, S, go S h fun x vx R1 H1 m1 r1 S1 h1 => ?_⟩
  obtain ⟨d, ed, q⟩ := lift_out S1 h1
  unfold isiD at ed
  obtain ⟨t, e1, e2⟩ := Option.bind_eq_some_iff.mp ed
  obtain ⟨k, e3, rfl⟩ := Option.map_eq_some_iff.mp e2
  exact ⟨vx, .ty T, .type t, .type T, k, rfl, .ty T, tyX_of r1 e1, kit_ty e3, q _ H1 (fun _ _ z => z) Rep.of_bl⟩
theorem pd_isi2 {T U : String} {k0 : Nat} {tpos : Pos} (hm : X.mg "isinstance" = none) (ha : PE X e (tD Γ W fe)) (hT : PE X b (tC (.ty T))) (hU : PE X c (tC (.ty U))) (hg : Gl X "isinstance" := by rfl)
    (g1 : starEach [b, c] X.env = (false, eval b X.env) :: starEach [c] X.env := by rfl) (g2 : starEach [c] X.env = (false, eval c X.env) :: starEach [] X.env := by rfl)
    (h1 : starEach [e, .Tuple [b, c] k0 tpos] X.env = (false, eval e X.env) :: starEach [.Tuple [b, c] k0 tpos] X.env := by rfl) (h2 : starEach [.Tuple [b, c] k0 tpos] X.env = (false, eval (.Tuple [b, c] k0 tpos) X.env) :: starEach [] X.env := by rfl)
    (h3 : (backTo pos (starEach [.Tuple [b, c] k0 tpos] X.env)).any (·.1) = false := by rfl) :
    PE X (.Call (.Name "isinstance" p) [e, .Tuple [b, c] k0 tpos] [] pos) (tD Γ W (d1 (isiD2 T U) fe)) := (pe_callB call_isiT hg hm (by decide +kernel) (pa_cons ha (pa_cons (pe_tup (pa_cons hT (pa_cons hU pa_nil g2) g1)) pa_nil h2) h1) (by decide) (by decide) h1 h3).imp fun σ H Q h => by
  obtain ⟨H0, A, B, P, R, δ, S, h⟩ := h
  refine ⟨H0, A, B, P, R, δ, S, go S h fun x vx R1 H1 m1 r1 S1 h1 => ⟨by show 2 ≤ sizeLine; decide, fun tp htp => ?_⟩⟩
  obtain ⟨d, ed, q⟩ := lift_out S1 h1
  unfold isiD2 at ed
  obtain ⟨t, e1, e2⟩ := Option.bind_eq_some_iff.mp ed
  obtain ⟨k, e3, e4⟩ := Option.bind_eq_some_iff.mp e2
  have r2 := Rep.keep (Grow.keeps (Γ := Γ) (A := A ++ P) (grow_new (o := .tup [.ty T, .ty U]) htp)) _ r1
  have end_ : ∀ k2, d = .bl k2 → PySem.W.kitAny X.K (.type t) [.type T, .type U] = some k2 → rIsiT X.K [vx, .ref tp] (upd H1 tp (.tup [.ty T, .ty U])) Q := fun k2 ek e5 =>
    ⟨vx, tp, [.ty T, .ty U], .type t, [.type T, .type U], k2, rfl, upd_same, .cons (.ty T) (.cons (.ty U) .nil), tyX_of r2 e1, e5, q _ _ (grow_new htp) (by rw [ek]; exact Rep.of_bl)⟩
  cases k with
  | true =>
    rw [if_pos rfl] at e4
    exact end_ true (Option.some.inj e4).symm (kitAny_cons (kit_ty e3) (fun z => by cases z) fun _ => rfl)
  | false =>
    rw [if_neg Bool.false_ne_true] at e4
    obtain ⟨k2, e5, rfl⟩ := Option.map_eq_some_iff.mp e4
    refine end_ k2 rfl (kitAny_cons (kit_ty e3) (fun _ => ?_) fun z => by cases z)
    refine kitAny_cons (kit_ty e5) (fun z => by rw [z]; exact kitAny_nil) fun z => z
theorem pd_isiW (T : WebF X.K X.mg Γ) (hm : X.mg "isinstance" = none) (ha : PE X e (tD Γ W fe)) (hg : Gl X "isinstance" := by rfl) (hg2 : Gl X "Web" := by rfl) {p2 : Pos} (h1 : starEach [e, .Name "Web" p2] X.env = (false, eval e X.env) :: starEach [.Name "Web" p2] X.env := by rfl)
    (h2 : starEach [.Name "Web" p2] X.env = (false, eval (.Name "Web" p2) X.env) :: starEach [] X.env := by rfl) (h3 : (backTo pos (starEach [.Name "Web" p2] X.env)).any (·.1) = false := by rfl) :
    PE X (.Call (.Name "isinstance" p) [e, .Name "Web" p2] [] pos) (tD Γ W (d1 isiW fe)) := (pe_callB call_isi hg hm (by decide +kernel) (pa_cons ha (pa_cons (pe_glob (v := .ref Γ.web) hg2 T.gW rfl) pa_nil h2) h1) (by decide) (by decide) h1 h3).imp fun σ H Q h => by
  obtain ⟨H0, A, B, P, R, δ, S, h⟩ := h
  refine ⟨H0, A, B, P, R, δ, S, go S h fun x vx R1 H1 m1 r1 S1 h1 => ?_⟩
  obtain ⟨d, ed, q⟩ := lift_out S1 h1
  have bl : ∀ t, typeN x = some t → d = .bl false → rIsi X.K [vx, .ref Γ.web] H1 Q := fun t et eb => by
    refine ⟨vx, .ref Γ.web, .type t, .ref Γ.web, false, rfl, .own _, tyX_of r1 et, T.no t ?_, q _ H1 (fun _ _ z => z) (by rw [eb]; exact Rep.of_bl)⟩
    cases x <;> simp only [typeN, Option.some.injEq] at et <;> try (cases et)
    all_goals decide
  cases x <;> simp only [isiW, Option.some.injEq] at ed <;> try (cases ed)
  · exact bl _ rfl rfl
  · exact bl _ rfl rfl
  · exact bl _ rfl rfl
  · exact bl _ rfl rfl
  · exact bl _ rfl rfl
  · exact bl _ rfl rfl
  · exact bl _ rfl rfl
  · rw [Rep] at r1
    obtain ⟨a, dx, t, q', xs, kvs, rfl, h2, _⟩ := r1
    refine ⟨.ref a, .ref Γ.web, .ref Γ.web, .ref Γ.web, true, rfl, .own _, .base (.ins (hide_some h2).2 T.cl T.ha T.hn T.htk T.hm), ?_, q _ H1 (fun _ _ z => z) Rep.of_bl⟩
    unfold PySem.W.kitOne
    rw [if_pos (by simp)]
/-! ### the web's fields -/
def pairD (p : Int × Int) : D := .tup [.int p.1, .int p.2]
theorem PairsR.rep {Γ : Ctx} {H : Hp} : ∀ {ss : List (Int × Int)} {xs : List V}, PairsR H ss xs → RepL Γ H (ss.map pairD) xs
  | [], [], _ => RepL_nil.mpr rfl
  | p :: ps, v :: vs, h => by
    obtain ⟨⟨a, rfl, e⟩, h2⟩ := h
    rw [List.map_cons, RepL_cons]
    exact ⟨_, _, rfl, Rep_tup.mpr ⟨a, _, rfl, e, RepL_cons.mpr ⟨_, _, rfl, Rep.of_int, RepL.one Rep.of_int⟩⟩, h2.rep⟩
  | [], _ :: _, h => h.elim
  | _ :: _, [], h => h.elim
def webCoins : D → Option D
  | .web n _ => some (.int n)
  | _ => none
def webStrs : D → Option D
  | .web _ ss => some (.tup (ss.map pairD))
  | _ => none
theorem lookC (n : Int) (t q : Addr) : (webF n t q).lookup ("coins" : Str) = some (V.int n) := by simp [webF, List.lookup]
theorem ne1 : (("strings" : Str) == ("coins" : Str)) = false := by decide +kernel
theorem lookS (n : Int) (t q : Addr) : (webF n t q).lookup ("strings" : Str) = some (V.ref t) := by simp only [webF, List.lookup, ne1, beq_self_eq_true]
theorem ne2 : (("worths" : Str) == ("coins" : Str)) = false := by decide +kernel
theorem ne3 : (("worths" : Str) == ("strings" : Str)) = false := by decide +kernel
theorem lookW (n : Int) (t q : Addr) : (webF n t q).lookup ("worths" : Str) = some (V.ref q) := by simp only [webF, List.lookup, ne2, ne3, beq_self_eq_true]
theorem pd_coins (T : WebF X.K X.mg Γ) (he : PE X e (tD Γ W fe)) (hb : attributeBase e "coins" X.env (eval e X.env) = eval e X.env := by rfl) : PE X (.Attribute e "coins" pos) (tD Γ W (d1 webCoins fe)) := (pe_fld he hb).imp fun σ H Q h => by
  obtain ⟨H0, A, B, P, R, δ, S, h⟩ := h
  refine ⟨H0, A, B, P, R, δ, S, go S h fun x vx R1 H1 m1 r1 S1 h1 => ?_⟩
  obtain ⟨d, ed, q⟩ := lift_out S1 h1
  cases x <;> simp only [webCoins, Option.some.injEq] at ed <;> try (cases ed)
  rw [Rep] at r1
  obtain ⟨a, dx, t, q', xs, kvs, rfl, h2, _⟩ := r1
  exact ⟨a, Γ.web, dx, _, _, rfl, (hide_some h2).2, T.cl, T.nC, lookC _ _ _, q _ H1 (fun _ _ z => z) Rep.of_int⟩
theorem pd_strings (T : WebF X.K X.mg Γ) (he : PE X e (tD Γ W fe)) (hb : attributeBase e "strings" X.env (eval e X.env) = eval e X.env := by rfl) : PE X (.Attribute e "strings" pos) (tD Γ W (d1 webStrs fe)) := (pe_fld he hb).imp fun σ H Q h => by
  obtain ⟨H0, A, B, P, R, δ, S, h⟩ := h
  refine ⟨H0, A, B, P, R, δ, S, go S h fun x vx R1 H1 m1 r1 S1 h1 => ?_⟩
  obtain ⟨d, ed, q⟩ := lift_out S1 h1
  cases x <;> simp only [webStrs, Option.some.injEq] at ed <;> try (cases ed)
  rw [Rep] at r1
  obtain ⟨a, dx, t, q', xs, kvs, rfl, h2, h3, h4, _⟩ := r1
  exact ⟨a, Γ.web, dx, _, _, rfl, (hide_some h2).2, T.cl, T.nS, lookS _ _ _, q _ H1 (fun _ _ z => z) (Rep_tup.mpr ⟨t, xs, rfl, h3, h4.rep⟩)⟩
/-! ### methods of a web -/
structure CalM (P : Program) (w : World) (K : PySem.W.Frag) (mg : Str → Option Value) (base : Heap) (Γ : Ctx) (k : Nat) (m : Str) (n : Nat) (F : List D → M D) : Prop where
  ex : ∃ (f : Addr) (fd : FuncData) (ps : List Str), FnOk P w K mg base (L2.CX P w) k f fd ps (spD Γ n F) ∧ Meth K Γ.web m f ∧ L2.Binds K fd ps []
  no : (("coins" : Str) == m) = false ∧ (("strings" : Str) == m) = false ∧ (("worths" : Str) == m) = false
def M.nox {α : Type} (m : M α) : M α := fun R => match m R with
  | .ok a R' => .ok a R'
  | _ => .stuck
def dMeth (n : Nat) (F : List D → M D) (fe : SEnv → M D) (fs : SEnv → M (List D)) : SEnv → M D := fun δ => fe δ >>= fun x => M.lift (match x with | .web _ _ => some () | _ => none) >>= fun _ => fs δ >>= fun ds => if (x :: ds).length = n then M.nox (F (x :: ds)) else M.stuck
theorem pd_meth {a : Expr} {es : List Expr} {k n : Nat} {m : Str} {F : List D → M D} {apos : Pos} {pl : Sem Bool} (T : WebF X.K X.mg Γ) (C : CalM X.prog X.w X.K X.mg X.base Γ k m n F) (hr : Room k X.A) (he : PE X e (tD Γ W fe)) (ha : PA X (a :: es) (tL Γ W fs))
    (hst : starEach (a :: es) X.env = (false, eval a X.env) :: starEach es X.env := by rfl) (hpl : (backTo pos (starEach es X.env)).any (·.1) = false := by rfl)
    (ht : eval (.Call (.Attribute e m apos) (a :: es) [] pos) X.env = (do
      let ov ← eval e X.env
      standAt apos.atName
      let (f, first) ← holding [ov] (getMethod ov m pl)
      callWith pos f first (backTo pos (starEach (a :: es) X.env)) (backToKw pos (keywordEach [] X.env))) := by rfl) :
    PE X (.Call (.Attribute e m apos) (a :: es) [] pos) (tD Γ W (dMeth n F fe fs)) := by
  obtain ⟨f, fd, ps, ok, me, b⟩ := C.ex
  refine (pe_meth (pl := pl) he T.cl me ok hr b .nil passL ha hst hpl ht).imp fun σ H Q h => ?_
  obtain ⟨H0, A, B, P, R, δ, S, h⟩ := h
  refine ⟨H0, A, B, P, R, δ, S, go S h fun x vx R1 H1 m1 r1 S1 h1 => ?_⟩
  obtain ⟨u, eu, h2⟩ := lift_bind h1
  cases x <;> simp only at eu <;> try (cases eu)
  rename_i n0 ss
  have r1' := r1
  rw [Rep] at r1'
  obtain ⟨o, dx, t, q', xs, kvs, rfl, h3, _⟩ := r1'
  refine ⟨o, dx, _, rfl, (hide_some h3).2, ?_, H0, A, B, P, R1, δ, S1, go S1 h2 fun ds vs R2 H2 m2 r2 S2 h4 => ?_⟩
  · obtain ⟨c1, c2, c3⟩ := C.no
    have sy : ∀ {x : Str}, (x == m) = false → (m == x) = false := fun {x} z => by
      rw [beq_eq_false_iff_ne] at z ⊢
      exact fun q => z q.symm
    simp only [webF, List.lookup, sy c1, sy c2, sy c3]
  · split at h4
    · rename_i hn
      refine ⟨.web n0 ss :: ds, R2, A ++ P, RepL_cons.mpr ⟨_, _, by rw [List.append_nil], Rep.keep (S1.keeps m2) _ r1, r2⟩, hn, S2.row, fun a ha => List.mem_append_left _ (S2.ra a ha), S2.all, S2.scr, fun z => S2.sb (S2.rb _ z), ?_⟩
      unfold M.nox at h4
      cases q : F (.web n0 ss :: ds) R2 with
      | ok d R3 =>
        rw [q] at h4
        exact fun v H3 m3 r3 => h4 v H3 ⟨m3.ext.mono S2.rb, m3.row, m3.adr⟩ r3
      | exn c d R3 => rw [q] at h4; exact h4.elim
      | stuck => rw [q] at h4; exact h4.elim
    · exact h4.elim
theorem calM_mk {P : Program} {w : World} {K : PySem.W.Frag} {mg : Str → Option Value} {base : Heap} {m qual : Str} {params : Arguments} {body : List Stmt} {scope : Scope} {f : Addr} {fd : FuncData} {N ps : List Str} {k : Nat} {F : List D → M D} (FD : FunD K m qual params body scope [] [] f fd) (me : Meth K Γ.web m f) (S : FnScope N ps scope) (hb : L2.Binds K fd ps [])
    (no : (("coins" : Str) == m) = false ∧ (("strings" : Str) == m) = false ∧ (("worths" : Str) == m) = false)
    (hbody : ∀ (cdv : Value) (A : Around) (outer : List Env) (s : Shared) (H : Hp) (E : XK), Room k (A.deeper (PyProof.Rows.envOfC qual scope s.heap.objs.size f cdv)) →
      ∃ sem, PSs (cxOf (L2.CX P w) P w K mg base N qual scope f cdv A outer s H E) body (tS Γ (WD E) sem) ∧ ∀ ds R, ds.length = ps.length → F ds R ≠ .stuck → fin (sem (startD N ds) R) = F ds R) : CalM P w K mg base Γ (k + 1) m ps.length F := by
  refine ⟨⟨f, fd, ps, FD.ok S (fun vs H Q E h => ?_) (fun cdv A outer s H vs Q E hr h => ?_), me, hb⟩, no⟩
  · obtain ⟨ds, R, A, r, hn, _⟩ := h
    rw [r.length, hn]
  · obtain ⟨sem, h1, h2⟩ := hbody cdv A outer s H E hr
    exact ⟨_, h1, sp_imp h2 h⟩
/-! ### tuple(range(..)) -/
def rgTup : List D → Option D
  | [.int n] => if 0 ≤ n ∧ n ≤ 16777216 then some (.tup (rangeD 0 n.toNat)) else none
  | _ => none
theorem rgV_rep {Γ : Ctx} {H : Hp} (a : Int) : ∀ (n : Nat) (f : Nat → Nat), RepL Γ H ((List.range n).map fun i => D.int (a + (f i : Nat))) ((List.range n).map fun i => V.int (a + (f i : Nat)))
  | 0, _ => RepL_nil.mpr rfl
  | n + 1, f => by
    rw [List.range_succ_eq_map, List.map_cons, List.map_cons, List.map_map, List.map_map, RepL_cons]
    exact ⟨_, _, rfl, Rep.of_int, rgV_rep a n (fun i => f (i + 1))⟩
theorem pd_tupRg {a : Expr} {fa : SEnv → M D} {p2 pos2 : Pos} (hc : X.calm = true) (hm : X.mg "tuple" = none) (hm2 : X.mg "range" = none) (ha : PE X a (tD Γ W fa)) (hg : Gl X "tuple" := by rfl) (hg2 : Gl X "range" := by rfl) (na : starEach [a] X.env = (false, eval a X.env) :: starEach [] X.env := by rfl)
    (na2 : starEach [.Call (.Name "range" p2) [a] [] pos2] X.env = (false, eval (.Call (.Name "range" p2) [a] [] pos2) X.env) :: starEach [] X.env := by rfl) :
    PE X (.Call (.Name "tuple" p) [.Call (.Name "range" p2) [a] [] pos2] [] pos) (tD Γ W (dCall rgTup (lCons fa lNil))) := (pe_tupRg hc hg hm (prg_1 hg2 hm2 ha na) na2).imp fun σ H Q h => by
  obtain ⟨H0, A, B, P, R, δ, S, h⟩ := h
  have h' : ((fa δ >>= fun x => M.lift (rgTup [x])) R).run (KK Γ B A P (Rep Γ) R H Q) (KE Γ W B A P σ R H) := by
    have e : dCall rgTup (lCons fa lNil) δ = (fa δ >>= fun x => M.lift (rgTup [x])) := by
      unfold dCall lCons lNil
      rw [M.assoc]
      rfl
    rw [← e]
    exact h
  refine ⟨H0, A, B, P, R, δ, S, go S h' fun x vx R1 H1 m1 r1 S1 h1 => ?_⟩
  obtain ⟨d, ed, q⟩ := lift_out S1 h1
  unfold rgTup at ed
  split at ed
  · rename_i n hx
    split at ed
    · rename_i hn
      cases ed
      cases hx
      refine ⟨n, r1.int_eq, RgOk.of_le (Int.le_refl 0) hn.2 (by omega) hn.1, fun q' hq => q _ _ (grow_new hq) ?_⟩
      refine Rep.new_tup S1.all hq ?_
      unfold rangeD rgV
      rw [Int.sub_zero]
      exact rgV_rep 0 n.toNat id
    · cases ed
  · cases ed
end
end DL

set_option Elab.async false
set_option linter.all false
set_option maxRecDepth 100000
namespace DL
open PySem PySem.Spec L2
/-! ### enumerate over a tuple -/
set_option maxHeartbeats 1000000 in
theorem en_newT (t : Addr) (its : Array Value) (k : Nat) (dx : Option Addr) (slo : Array (Option Value)) :
    Meets (Builtin.«enumerate.__new__» ⟨[.type "enumerate", .ref t], []⟩) (fun _ R st => st.heap.get? t = some { cls := .type "tuple", dict := dx, data := .seq its k, slots := slo } ∧
      R (.ok (.ret (.ref (st.heap.push { cls := .type "tuple_iterator", data := .fields #[.ref t, .int 0 0] }).objs.size)))
        { st with heap := (st.heap.push { cls := .type "tuple_iterator", data := .fields #[.ref t, .int 0 0] }).push { cls := .type "enumerate", data := .fields #[.none, .bool false, .ref st.heap.objs.size, rawInt 0, .none, .none] } }) :=
  .of_wp fun P w A R st hyp => by
    obtain ⟨h0, g0, d0, k0, o0⟩ := st
    obtain ⟨ht, fin⟩ := hyp
    have hs0 := sub_enumerate
    have isT : Heap.IsTuple (Shared.heap ⟨h0, g0, d0, k0, o0⟩) t its := ⟨_, ht, rfl, k, rfl⟩
    wp_walk using AutoSeq1.wpAny_loadPart' ht
    refine wpAny_stack_any fun stk => wpAny_pure ?_
    split
    · rename_i cc _ _ _ _ _
      cases (cc == Value.type "enumerate")
      · wp_walk using AutoSeq1.wpAny_loadPart' ht, wpAny_pyIter_tuple isT
        exact ⟨_, rfl, fin⟩
      · wp_walk using AutoSeq1.wpAny_loadPart' ht, wpAny_pyIter_tuple isT
        exact ⟨_, rfl, fin⟩
    · wp_walk using AutoSeq1.wpAny_loadPart' ht, wpAny_pyIter_tuple isT
      exact ⟨_, rfl, fin⟩
theorem call_enT {P : Program} {w : World} {A : Around} {E : Value → Shared → Prop} {s : Shared} {t : Addr} {its : Array Value} {Q : Value → Shared → Prop} (hT : s.heap.IsTuple t its)
    (q : ∀ h', IsEnum h' (s.heap.objs.size + 1) s.heap.objs.size 0 .none → h'.IsTupleIter s.heap.objs.size t 0 → h'.objs.size = s.heap.objs.size + 2 → (∀ b o, s.heap.get? b = some o → h'.get? b = some o) → Q (.ref (s.heap.objs.size + 1)) { s with heap := h' }) :
    wpAny (model P w) A (call (.type "enumerate") [.ref t]) Q E s := by
  obtain ⟨⟨cl, dx, dt, slo⟩, ht, e1, k, e2⟩ := hT
  have e1' : cl = .type "tuple" := e1
  have e2' : dt = .seq its k := e2
  subst e1' e2'
  refine callType_new F.called_enumerate (by decide) (F.typeCall_enumerate_1 _) (F.newCall_enumerate_1 _) (fun ob => F.args_object_init_2 ob _) F.entry_enumerate_new (en_newT t its k dx slo) ⟨ht, ?_⟩
  have sz : (s.heap.push { cls := .type "tuple_iterator", data := .fields #[.ref t, .int 0 0] }).objs.size = s.heap.objs.size + 1 := Heap.size_push ..
  show _ ∧ _
  rw [sz]
  have en : IsEnum ((s.heap.push { cls := .type "tuple_iterator", data := .fields #[.ref t, .int 0 0] }).push { cls := .type "enumerate", data := .fields #[.none, .bool false, .ref s.heap.objs.size, rawInt 0, .none, .none] }) (s.heap.objs.size + 1) s.heap.objs.size 0 .none := by
    have z := Heap.get?_push_size (s.heap.push { cls := .type "tuple_iterator", data := .fields #[.ref t, .int 0 0] }) (o := { cls := .type "enumerate", data := .fields #[.none, .bool false, .ref s.heap.objs.size, rawInt 0, .none, .none] }) rfl
    rw [sz] at z
    exact z
  exact ⟨⟨_, en, rfl⟩, q _ en ⟨_, Heap.get?_push_of_some _ (Heap.get?_push_size _ rfl), rfl, rfl⟩ (by rw [Heap.size_push, sz]) fun b o z => Heap.get?_push_of_some _ (Heap.get?_push_of_some _ z)⟩
def IteT (K : PySem.W.Frag) (a : Addr) : It :=
  ⟨fun i H => ∃ (xs : List V) (x : V), SqT K H a xs ∧ xs[i]? = some x, fun i H v H' => ∃ T x, v = .ref T ∧ H T = none ∧ H' = upd H T (.tup [.int (i : Nat), x]) ∧ ∀ xs, SqT K H a xs → xs[i]? = some x, fun i H => ∃ xs : List V, SqT K H a xs ∧ xs.length ≤ i⟩
theorem turn_enT {P : Program} {w : World} {K : PySem.W.Frag} {elts : List Expr} {kk : Nat} {tpos : Pos} (a e it : Addr) (items : Array Value) (hai : a ≠ it) (hea : e ≠ a) :
    Turn P w K (.Tuple elts kk tpos) (IteT K a) [e, it] e (fun i h => (∃ old, IsEnum h e it ((i : Nat) : Int) old) ∧ h.IsTupleIter it a i ∧ e ≠ it) where
  mem := by simp
  obj := fun i h st b hb => by
    obtain ⟨⟨old, he⟩, ⟨o, ho, hc, hd⟩, _⟩ := st
    have e' : b = e ∨ b = it := by simpa using hb
    rcases e' with z | z
    · rw [z]; exact ⟨_, he, fun v q => nomatch q⟩
    · rw [z]; exact ⟨o, ho, fun v q => by rw [hd] at q; cases q⟩
  keep := fun i h h' st k => let ⟨⟨old, he⟩, hi, hne⟩ := st; ⟨⟨old, k e (by simp) _ he⟩, hi.at fun o q => k it (by simp) o q, hne⟩
  item := by
    intro X hP hw hK hc i pins s σ H E I hf st hg
    subst hP hw hK
    obtain ⟨⟨old, he⟩, hit, hne⟩ := st
    obtain ⟨xs, x, hq, hx⟩ := hg
    obtain ⟨its, rv, p, hz⟩ := I.tuple hq
    obtain ⟨u, hu, ru⟩ := rv.get hx
    have hel : e < s.heap.objs.size := Heap.lt_size he
    have hil : it < s.heap.objs.size := by obtain ⟨_, q, _⟩ := hit; exact Heap.lt_size q
    have hlt : i < its.toArray.size := by
      have := List.getElem?_eq_some_iff.mp hu
      obtain ⟨h1, _⟩ := this
      simpa using h1
    have hea' : e ∉ [it, a] := by simp [hne, hea]
    refine wpAny_pyNext_enum_itemD (Draws.tuple (A := X.A.in1) (show X.A.in1.handled = none from I.ok.hd hc) it a hai its.toArray) he ⟨hit, show s.heap.IsTuple a its.toArray from p⟩ hlt hne hea' fun y h' tk hy ho hit' hT hsz hk => ?_
    have hyu : y = u := by
      have : its.toArray[i]? = some u := by simpa using hu
      rw [this] at hy
      exact (Option.some.inj hy).symm
    subst hyu
    refine ⟨_, rfl, wpAny_letOwnedTupleGo_enum (s := { s with heap := h', toks := tk + 1 }) ho fun h'' he' sb => ?_⟩
    have hT2 : h''.get? s.heap.objs.size = some { cls := .type "tuple", data := .seq #[.int i tk, y] } := (sb.2 _ (Nat.ne_of_gt hel)).trans hT
    have new : ObjOk X.prog X.w (upd H s.heap.objs.size (.tup [.int (i : Nat), x])) h'' s.heap.objs.size (.tup [.int (i : Nat), x]) :=
      ⟨by show 2 ≤ sizeLine; decide, [.int i tk, y], .cons ⟨_, rfl⟩ (.cons ru .nil), ⟨_, hT2, rfl, _, rfl⟩⟩
    have I1 : Inv X pins σ (upd H s.heap.objs.size (.tup [.int (i : Nat), x])) { s with heap := h'', toks := tk + 1 } :=
      I.turnedNew (ch := [e, it]) (fun b ob hb q => (sb.2 b (fun z => hb (by simp [z]))).trans (hk b ob (fun z => hb (by simp [z])) (fun z => hb (by simp [z])) q)) hf (Nat.le_refl _) new
    refine ⟨.ref s.heap.objs.size, _, I1, rfl, ⟨_, x, rfl, I.hok.fresh (Nat.le_refl _), rfl, fun ys hy => by rw [I.tuple_inj hy hq]; exact hx⟩, ⟨⟨y, ?_⟩, hit'.1.at fun o q => (sb.2 it (Ne.symm hne)).trans q, hne⟩, fun b hb => ?_⟩
    · have e1 : ((i + 1 : Nat) : Int) = (i : Int) + 1 := by omega
      rw [e1]; exact he'
    · have hb' : b < s.heap.objs.size := by
        have e' : b = e ∨ b = it := by simpa using hb
        rcases e' with z | z
        · rw [z]; exact hel
        · rw [z]; exact hil
      rw [upd_ne (Nat.ne_of_lt hb')]
      exact (hf b hb).1
  done := by
    intro X hP hw hK hc i pins s σ H E I hf st hg
    subst hP hw hK
    obtain ⟨⟨old, he⟩, hit, hne⟩ := st
    obtain ⟨xs, hq, hx⟩ := hg
    obtain ⟨its, rv, p, hz⟩ := I.tuple hq
    obtain ⟨f0, f1, f2, f3, f4, f5⟩ := hf it (by simp)
    have hl := rv.length
    have hT : s.TypeIs (.ref e) "enumerate" := ⟨_, he, rfl⟩
    unfold pyNext
    refine wpAny_bind (wpAny_attempt (wpAny_callSpecial?_slot (name := Str.ofString "__next__") hT F.slot_enumerate_next (wpAny_call_entry F.slot_enumerate_next hT F.entry_enumerate_next ?_ (F.args_enumerate_next_1 _))))
    show wpAny _ _ (field (.ref e) 2 >>= _) _ _ _
    refine wpAny_bind (wpAny_field he rfl (x := .ref it) rfl ?_)
    refine wpAny_bind (RZ.nextOf_tuple_end (I.ok.hd hc) hit (show s.heap.IsTuple a its.toArray from p) (by simp; omega) fun h' x eb hx' => ?_)
    obtain ⟨ob, ho, hcl⟩ := hx'
    refine wpAny_bind (wpAny_isInstance (T := "StopIteration") (b := true) ⟨ob, ho, hcl⟩ isSubtype_stop ?_)
    exact wpAny_pure ⟨rfl, I.turned (t' := s.toks) (fun b o hb q => eb b o hb q) f0 f1 f3 f4 f5⟩
  self := fun A i s Q E st h => let ⟨⟨_, he⟩, _⟩ := st; wpAny_pyIter_enum he h
def iEnT (K : PySem.W.Frag) (ta : TA) : TI := fun σ H R => ta σ H fun vs H1 => ∃ a xs, vs = [.ref a] ∧ SqT K H1 a xs ∧ R (IteT K a) H1
theorem pi_enT {X : Cx} {e : Expr} {ta : TA} {p pos tpos : Pos} {elts : List Expr} {kk : Nat} (hg : Gl X "enumerate") (hm : X.mg "enumerate" = none) (ha : PA X [e] ta) (hs : starEach [e] X.env = [(false, eval e X.env)] := by rfl) :
    PI X (.Tuple elts kk tpos) (.Call (.Name "enumerate" p) [e] [] pos) (iEnT X.K ta) := by
  refine ⟨fun pins s σ H R I h => ?_⟩
  refine PyProof.Rows.Call_ (ld_blt I hg hm PyProof.Rows.boot_enumerate (PyProof.Rows.callWith_type1 (thn (ha.run pos pins s σ H _ I h) fun us s1 ⟨vs, H1, I1, r1, q1⟩ => ?_) hs rfl))
  obtain ⟨a, xs, ex, hq, q⟩ := q1
  subst ex
  cases r1 with
  | cons r rr =>
    cases rr
    cases r
    obtain ⟨its, rv, p', hz⟩ := I1.tuple hq
    have pT : s1.heap.IsTuple a its.toArray := p'
    have hal : a < s1.heap.objs.size := by obtain ⟨o, ho, _⟩ := pT; exact Heap.lt_size ho
    refine call_enT pT fun h' he hit hsz hk => wpAny_pyIter_enum he ?_
    have I2 : Inv X pins σ H1 { s1 with heap := h' } := I1.kept (t' := s1.toks) hk
    refine ⟨s1.heap.objs.size + 1, [s1.heap.objs.size + 1, s1.heap.objs.size], _, _, H1, rfl, I2, turn_enT a (s1.heap.objs.size + 1) s1.heap.objs.size its.toArray (Nat.ne_of_lt hal) (Nat.ne_of_gt (Nat.lt_succ_of_lt hal)), ⟨⟨.none, he⟩, hit, Nat.succ_ne_self _⟩, fun b hb => ?_, q⟩
    have e' : b = s1.heap.objs.size + 1 ∨ b = s1.heap.objs.size := by simpa using hb
    have hle : s1.heap.objs.size ≤ b := by
      rcases e' with z | z
      · rw [z]; exact Nat.le_add_right _ _
      · rw [z]; exact Nat.le_refl _
    exact I1.fpOk hle (I1.hok.fresh hle)
theorem walk_enT {K : PySem.W.Frag} {a : Addr} {xs : List V} : Walk (IteT K a) xs.length (fun H => SqT K H a xs) (YPair (fun i => some (.int (i : Nat))) (fun i => xs[i]?)) := by
  refine ⟨fun i _ hi q => ⟨xs, xs[i], q, by simp [hi]⟩, fun _ q => ⟨xs, q, Nat.le_refl _⟩, fun i H v H' _ q y => ?_⟩
  obtain ⟨T, x, h1, h2, h3, h4⟩ := y
  exact ⟨T, .int (i : Nat), x, h1, h2, h3, rfl, h4 xs q⟩
theorem dw_enT {Γ : Ctx} {K : PySem.W.Frag} {A : List Addr} {H : Hp} {a : Addr} {xs : List V} {ds : List D} (n : a ∉ A) (h : H a = some (.tup xs)) (r : RepL Γ (hide A H) ds xs) : DWk Γ A (IteT K a) (enumD ds) H :=
  ⟨_, _, _, walk_enT (K := K) (a := a) (xs := xs), by rw [r.length]; simp [enumD], fun A2 H2 k => SqT.of (k.seen_tup n h), fun A2 H2 k al i x H3 hi y => by
    have r2 := RepL.keep k _ r
    have hi' : i < ds.length := by rw [← r.length]; exact hi
    obtain ⟨g, rp⟩ := pair_y (Γ := Γ) (d := .int (i : Int)) (e := ds[i]) al y (fun v e => by rw [← Option.some.inj e]; exact Rep.of_int) (fun v e => by
      obtain ⟨d, e1, e2⟩ := r2.getV e
      rw [List.getElem?_eq_getElem hi'] at e1
      rw [Option.some.inj e1]
      exact e2)
    exact ⟨_, by simp [enumD, List.getElem?_mapIdx, hi'], g, rp⟩⟩
section
variable {Γ : Ctx} {W : WX} {X : Cx} {tg e e2 : Expr} {es : List Expr} {fe : SEnv → M D} {fs : SEnv → M (List D)} {pos p : Pos}
/-- a list or a tuple -/
def iSeq (fe : SEnv → M D) : SEnv → M (List D) := fun δ => fe δ >>= fun x => M.lift (seqD x)
theorem pi_or {t t' : TI} (h : PI X tg e t) (h' : PI X tg e t') : PI X tg e (fun σ H K => t σ H K ∨ t' σ H K) := ⟨fun pins s σ H Q I q => q.elim (h.run pins s σ H Q I) (h'.run pins s σ H Q I)⟩
theorem di_seq (he : PE X e (tD Γ W fe)) : PI X tg e (iD Γ W (iSeq fe)) := (pi_or (di_lst (tg := tg) he) (di_tup he)).imp fun σ H K h => by
  obtain ⟨H0, A, B, P, R, δ, S, h⟩ := h
  cases q : fe δ R with
  | ok d R1 =>
    cases d with
    | lst ds =>
      refine .inl ⟨H0, A, B, P, R, δ, S, ?_⟩
      have e1 : iLst fe δ R = iSeq fe δ R := by unfold iLst iSeq; rw [bind_run, bind_run, q]; rfl
      rw [e1]
      exact h
    | tup ds =>
      refine .inr ⟨H0, A, B, P, R, δ, S, ?_⟩
      have e1 : iTpl fe δ R = iSeq fe δ R := by unfold iTpl iSeq; rw [bind_run, bind_run, q]; rfl
      rw [e1]
      exact h
    | _ => unfold iSeq at h; rw [bind_run, q] at h; exact h.elim
  | exn c d R1 =>
    refine .inl ⟨H0, A, B, P, R, δ, S, ?_⟩
    have e1 : iLst fe δ R = iSeq fe δ R := by unfold iLst iSeq; rw [bind_run, bind_run, q]
    rw [e1]
    exact h
  | stuck => unfold iSeq at h; rw [bind_run, q] at h; exact h.elim
def enumTf : List D → Option (List D)
  | [.tup ds] => some (enumD ds)
  | _ => none
def enumAf : List D → Option (List D)
  | [.lst ds] => some (enumD ds)
  | [.tup ds] => some (enumD ds)
  | _ => none
theorem di_enT {tpos : Pos} {elts : List Expr} {kk : Nat} (hg : Gl X "enumerate") (hm : X.mg "enumerate" = none) (ha : PA X [e] (tL Γ W fs)) (hs : starEach [e] X.env = [(false, eval e X.env)] := by rfl) :
    PI X (.Tuple elts kk tpos) (.Call (.Name "enumerate" p) [e] [] pos) (iD Γ W (iCall enumTf fs)) := (pi_enT hg hm ha hs).imp fun σ H K h => by
  obtain ⟨H0, A, B, P, R, δ, S, h⟩ := h
  refine ⟨H0, A, B, P, R, δ, S, igo (γ := Nat) S h fun xs vs R1 H1 m r S1 h1 => ?_⟩
  obtain ⟨ds, e1, q⟩ := ilift h1 S1.row
  unfold enumTf at e1
  split at e1
  · rename_i es
    obtain ⟨v, rfl, r1⟩ := r.one_inv
    have e2 := Option.some.inj e1
    subst e2
    obtain ⟨a, xs, rfl, h2, h3, n⟩ := r1.tup_at
    exact ⟨a, xs, rfl, SqT.of h2, q _ (dw_enT n h2 h3)⟩
  · cases e1
theorem di_enumA {tpos : Pos} {elts : List Expr} {kk : Nat} (hg : Gl X "enumerate") (hm : X.mg "enumerate" = none) (ha : PA X [e] (tL Γ W fs)) (hs : starEach [e] X.env = [(false, eval e X.env)] := by rfl) :
    PI X (.Tuple elts kk tpos) (.Call (.Name "enumerate" p) [e] [] pos) (iD Γ W (iCall enumAf fs)) := (pi_or (di_enum (kk := kk) (tpos := tpos) (elts := elts) hg hm ha hs) (di_enT hg hm ha hs)).imp fun σ H K h => by
  obtain ⟨H0, A, B, P, R, δ, S, h⟩ := h
  cases q : fs δ R with
  | ok ds R1 =>
    have h' := h
    unfold iCall at h'
    rw [bind_run, q] at h'
    cases e : enumAf ds with
    | none => simp only [e] at h'; exact h'.elim
    | some es =>
      unfold enumAf at e
      split at e
      · refine .inl ⟨H0, A, B, P, R, δ, S, ?_⟩
        have e1 : iCall enumOf fs δ R = iCall enumAf fs δ R := by unfold iCall; rw [bind_run, bind_run, q]; rfl
        rw [e1]
        exact h
      · refine .inr ⟨H0, A, B, P, R, δ, S, ?_⟩
        have e1 : iCall enumTf fs δ R = iCall enumAf fs δ R := by unfold iCall; rw [bind_run, bind_run, q]; rfl
        rw [e1]
        exact h
      · cases e
  | exn c d R1 =>
    refine .inl ⟨H0, A, B, P, R, δ, S, ?_⟩
    have e1 : iCall enumOf fs δ R = iCall enumAf fs δ R := by unfold iCall; rw [bind_run, bind_run, q]
    rw [e1]
    exact h
  | stuck => unfold iCall at h; rw [bind_run, q] at h; exact h.elim
/-! ### names of the module, built-ins -/
theorem pd_gint {x : Str} {i : Int} (hm : ∃ t, X.mg x = some (.int i t)) (hg : Gl X x := by rfl) (hd : (x == ("__debug__" : Str)) = false := by decide) : PE X (.Name x pos) (tD Γ W fun _ => pure (.int i)) := by
  obtain ⟨t, hm⟩ := hm
  exact pd_c (pe_glob (v := .int i) hg hm ⟨t, rfl⟩ hd) fun _ _ => Rep.of_int
theorem pd_gstr {x z : Str} (hm : ∃ t, X.mg x = some (.str z t)) (hg : Gl X x := by rfl) (hd : (x == ("__debug__" : Str)) = false := by decide) : PE X (.Name x pos) (tD Γ W fun _ => pure (.str z)) := by
  obtain ⟨t, hm⟩ := hm
  exact pd_c (pe_glob (v := .str z) hg hm ⟨t, rfl⟩ hd) fun _ _ => Rep.of_str
theorem pd_callB {x : Str} {id : String} {r : List V → Hp → VK → Prop} {f : List D → Option D} (hc : CallR X (.builtin id) r) (hr : CallD Γ r f) (hm : X.mg x = none) (hv : bootBuiltins x = some (.builtin id)) (ha : PA X (e :: es) (tL Γ W fs)) (hg : Gl X x := by rfl)
    (hn : x ≠ "__name__" := by decide) (hdb : (x == ("__debug__" : Str)) = false := by decide) (he : starEach (e :: es) X.env = (false, eval e X.env) :: starEach es X.env := by rfl) (hpl : (backTo pos (starEach es X.env)).any (·.1) = false := by rfl) :
    PE X (.Call (.Name x p) (e :: es) [] pos) (tD Γ W (dCall f fs)) := (pe_callB hc hg hm hv ha hn hdb he hpl).imp fun _ _ _ h => cb_imp hr h
theorem pd_callTy {x : Str} {id : String} {r : List V → Hp → VK → Prop} {f : List D → Option D} (hc : CallR X (.type id) r) (hr : CallD Γ r f) (hm : X.mg x = none) (hv : bootBuiltins x = some (.type id)) (ha : PA X (e :: es) (tL Γ W fs)) (hg : Gl X x := by rfl)
    (hn : x ≠ "__name__" := by decide) (hdb : (x == ("__debug__" : Str)) = false := by decide) (he : starEach (e :: es) X.env = (false, eval e X.env) :: starEach es X.env := by rfl) (hpl : (backTo pos (starEach es X.env)).any (·.1) = false := by rfl) :
    PE X (.Call (.Name x p) (e :: es) [] pos) (tD Γ W (dCall f fs)) := (pe_callTy hc hg hm hv ha hn hdb he hpl).imp fun _ _ _ h => cb_imp hr h
end
/-! ### one operation on several kinds -/
def orO (f g : D → D → Option D) : D → D → Option D := fun a b => match f a b with
  | some d => some d
  | none => g a b
theorem OpD.or {Γ : Ctx} {r r' : R2} {f g : D → D → Option D} (h : OpD Γ r f) (h' : OpD Γ r' g) : OpD Γ (fun x y H Q => r x y H Q ∨ r' x y H Q) (orO f g) := fun A H x y a b d Q al ra rb e q => by
  unfold orO at e
  cases q1 : f a b with
  | some d' =>
    rw [q1] at e
    exact .inl (h A H x y a b d Q al ra rb (q1.trans e) q)
  | none =>
    rw [q1] at e
    exact .inr (h' A H x y a b d Q al ra rb e q)
def orC (f g : List D → Option D) : List D → Option D := fun a => match f a with
  | some d => some d
  | none => g a
theorem CallD.or {Γ : Ctx} {r r' : List V → Hp → VK → Prop} {f g : List D → Option D} (h : CallD Γ r f) (h' : CallD Γ r' g) : CallD Γ (fun xs H Q => r xs H Q ∨ r' xs H Q) (orC f g) := fun A H xs as d Q al ra e q => by
  unfold orC at e
  cases q1 : f as with
  | some d' =>
    rw [q1] at e
    exact .inl (h A H xs as d Q al ra (q1.trans e) q)
  | none =>
    rw [q1] at e
    exact .inr (h' A H xs as d Q al ra e q)
def oPlus : D → D → Option D
  | .int i, .int j => some (.int (i + j))
  | .lst a, .lst b => oCat (.lst a) (.lst b)
  | .tup a, .tup b => oCatT (.tup a) (.tup b)
  | .str a, .str b => oAddS (.str a) (.str b)
  | _, _ => none
theorem op_plus {X : Cx} : OpR X (binaryOp .Add) (fun x y H Q => (rI0 (fun i j => .int (i + j))) x y H Q ∨ (rCat x y H Q ∨ (rCatA X.K x y H Q ∨ (∃ i j, x = .str i ∧ y = .str j ∧ i.length + j.length ≤ sizeLine ∧ Q (.str (i ++ j)) H)))) := op_add.or (op_cat.or (op_catA.or op_add_str))
theorem od_plus {Γ : Ctx} {K : PySem.W.Frag} : OpD Γ (fun x y H Q => (rI0 (fun i j => .int (i + j))) x y H Q ∨ (rCat x y H Q ∨ (rCatA K x y H Q ∨ (∃ i j, x = .str i ∧ y = .str j ∧ i.length + j.length ≤ sizeLine ∧ Q (.str (i ++ j)) H)))) oPlus := fun A H x y a b d Q al ra rb e q => by
  unfold oPlus at e
  split at e
  · exact .inl (od_add A H x y _ _ d Q al ra rb e q)
  · exact .inr (.inl (od_cat A H x y _ _ d Q al ra rb e q))
  · exact .inr (.inr (.inl (od_catT A H x y _ _ d Q al ra rb e q)))
  · exact .inr (.inr (.inr (od_addS A H x y _ _ d Q al ra rb e q)))
  · cases e
def oRepT : D → D → Option D
  | .tup a, .int k => if a ≠ [] ∧ 2 ≤ k ∧ k ≤ 1000 ∧ a.length ≤ 1000 then some (.tup (List.replicate k.toNat a).flatten) else none
  | _, _ => none
theorem od_repT {Γ : Ctx} {K : PySem.W.Frag} : OpD Γ (rRepT K) oRepT := fun A H x y a b d Q al ra rb e q => by
  cases a <;> cases b <;> simp only [oRepT] at e <;> try (cases e)
  split at e
  · rename_i h
    cases e
    obtain ⟨l, xs, rfl, h1, h2, _⟩ := ra.tup_at
    exact ⟨l, _, xs, rfl, rb.int_eq, SqT.of h1, fun z => h.1 (by have := h2.length; rw [z] at this; exact List.length_eq_zero_iff.mp this.symm), h.2.1, h.2.2.1, by rw [h2.length]; exact h.2.2.2, fun p hp => q _ _ (grow_new hp) (Rep.new_tup al hp (h2.rep _))⟩
  · cases e
def oTimes : D → D → Option D
  | .int i, .int j => oMul (.int i) (.int j)
  | .lst a, .int k => oRep (.lst a) (.int k)
  | .tup a, .int k => oRepT (.tup a) (.int k)
  | _, _ => none
theorem op_times {X : Cx} : OpR X (binaryOp .Mult) (fun x y H Q => (rI CMul (fun i j => .int (i * j))) x y H Q ∨ (rRep x y H Q ∨ rRepT X.K x y H Q)) := op_mul.or (op_rep.or op_repT)
theorem od_times {Γ : Ctx} {K : PySem.W.Frag} : OpD Γ (fun x y H Q => (rI CMul (fun i j => .int (i * j))) x y H Q ∨ (rRep x y H Q ∨ rRepT K x y H Q)) oTimes := fun A H x y a b d Q al ra rb e q => by
  unfold oTimes at e
  split at e
  · exact .inl (od_mul A H x y _ _ d Q al ra rb e q)
  · exact .inr (.inl (od_rep A H x y _ _ d Q al ra rb e q))
  · exact .inr (.inr (od_repT A H x y _ _ d Q al ra rb e q))
  · cases e
/-! ### in: flat items, deep lists, texts -/
theorem hu65 {k : Nat} {A : Around} (r : Room k A) : A.units + 65 < cLine := by have := r.un; omega
def oInD : D → D → Option D
  | x, .lst ds => if okEq x && okEq (.lst ds) then some (.bl ((toPys ds).any fun z => PyData.eqv z (toPy x))) else none
  | _, _ => none
def oNotInD : D → D → Option D
  | x, .lst ds => if okEq x && okEq (.lst ds) then some (.bl (!(toPys ds).any fun z => PyData.eqv z (toPy x))) else none
  | _, _ => none
theorem od_inD {Γ : Ctx} {K : PySem.W.Frag} : OpD Γ (rInD K) oInD := fun A H x y a b d Q al ra rb e q => by
  cases b <;> simp only [oInD] at e <;> try (cases e)
  rename_i ds
  split at e
  · rename_i h
    simp only [okEq, Bool.and_eq_true] at h
    cases e
    have e1 : Dp K H y (.list (toPys ds)) := by have z := Rep.dp (K := K) (.lst ds) rb h.2.1; rw [toPy] at z; exact z
    exact ⟨_, _, Rep.dp a ra h.1.1, e1, h.1.2, by have z := h.2.2; rw [toPy] at z; exact z, q _ H (fun _ _ h => h) Rep.of_bl⟩
  · cases e
theorem od_notInD {Γ : Ctx} {K : PySem.W.Frag} : OpD Γ (rNotInD K) oNotInD := fun A H x y a b d Q al ra rb e q => by
  cases b <;> simp only [oNotInD] at e <;> try (cases e)
  rename_i ds
  split at e
  · rename_i h
    simp only [okEq, Bool.and_eq_true] at h
    cases e
    have e1 : Dp K H y (.list (toPys ds)) := by have z := Rep.dp (K := K) (.lst ds) rb h.2.1; rw [toPy] at z; exact z
    exact ⟨_, _, Rep.dp a ra h.1.1, e1, h.1.2, by have z := h.2.2; rw [toPy] at z; exact z, q _ H (fun _ _ h => h) Rep.of_bl⟩
  · cases e
abbrev oInA : D → D → Option D := orO oIn oInD
abbrev oNotInA : D → D → Option D := orO oNotIn oNotInD
theorem op_inA {X : Cx} (hu : X.A.units + 65 < cLine) : OpR X (compareOp .In) (fun x y H Q => rIn X.K false x y H Q ∨ rInD X.K x y H Q) := op_in_seq.or (op_inD hu)
theorem op_notInA {X : Cx} (hu : X.A.units + 65 < cLine) : OpR X (compareOp .NotIn) (fun x y H Q => rIn X.K true x y H Q ∨ rNotInD X.K x y H Q) := op_notIn_seq.or (op_notInD hu)
theorem od_inA {Γ : Ctx} {K : PySem.W.Frag} : OpD Γ (fun x y H Q => rIn K false x y H Q ∨ rInD K x y H Q) oInA := od_in.or od_inD
theorem od_notInA {Γ : Ctx} {K : PySem.W.Frag} : OpD Γ (fun x y H Q => rIn K true x y H Q ∨ rNotInD K x y H Q) oNotInA := od_notIn.or od_notInD
/-! ### int, str, abs, sum -/
def fIntS : List D → Option D
  | [.str z] => match PySem.intText? z with
    | some n => if z.length ≤ 640 then some (.int n) else none
    | none => none
  | _ => none
theorem cd_intS {Γ : Ctx} : CallD Γ (fun xs H Q => ∃ a n, xs = [.str a] ∧ PySem.intText? a = some n ∧ a.length ≤ 640 ∧ Q (.int n) H) fIntS := fun A H xs as d Q al r e q => by
  unfold fIntS at e
  split at e
  · obtain ⟨v, rfl, r1⟩ := r.one_inv
    split at e
    · split at e
      · cases e
        exact ⟨_, _, by rw [r1.str_eq], by assumption, by assumption, q _ H (fun _ _ z => z) Rep.of_int⟩
      · cases e
    · cases e
  · cases e
abbrev fIntA : List D → Option D := orC fInt fIntS
theorem cr_int {X : Cx} : CallR X (.type "int") (fun xs H Q => ((∃ i, xs = [.int i] ∧ Q (.int i) H) ∨ ∃ k, xs = [.bl k] ∧ Q (.int (if k then 1 else 0)) H) ∨ ∃ a n, xs = [.str a] ∧ PySem.intText? a = some n ∧ a.length ≤ 640 ∧ Q (.int n) H) := call_int1.or call_int_str
theorem cd_intA {Γ : Ctx} : CallD Γ (fun xs H Q => ((∃ i, xs = [.int i] ∧ Q (.int i) H) ∨ ∃ k, xs = [.bl k] ∧ Q (.int (if k then 1 else 0)) H) ∨ ∃ a n, xs = [.str a] ∧ PySem.intText? a = some n ∧ a.length ≤ 640 ∧ Q (.int n) H) fIntA := cd_int.or cd_intS
def fAbs : List D → Option D
  | [.int i] => some (.int (if i < 0 then -i else i))
  | _ => none
theorem cd_abs {Γ : Ctx} : CallD Γ (fun xs H Q => ∃ i, xs = [.int i] ∧ Q (.int (if i < 0 then -i else i)) H) fAbs := fun A H xs as d Q al r e q => by
  unfold fAbs at e
  split at e
  · obtain ⟨v, rfl, r1⟩ := r.one_inv
    cases e
    exact ⟨_, by rw [r1.int_eq], q _ H (fun _ _ z => z) Rep.of_int⟩
  · cases e
def fStr : List D → Option D
  | [.int i] => if i.natAbs.log2 < 1920 then some (.str (toString i : Str)) else none
  | _ => none
theorem cd_str {Γ : Ctx} : CallD Γ (fun xs H Q => ∃ i : Int, xs = [.int i] ∧ i.natAbs.log2 < 1920 ∧ Q (.str (toString i)) H) fStr := fun A H xs as d Q al r e q => by
  unfold fStr at e
  split at e
  · obtain ⟨v, rfl, r1⟩ := r.one_inv
    split at e
    · cases e
      exact ⟨_, by rw [r1.int_eq], by assumption, q _ H (fun _ _ z => z) Rep.of_str⟩
    · cases e
  · cases e
/-! ### a statement, an expression that is never reached -/
def mDead {α : Type} : SEnv → M α := fun _ => M.stuck
def sDead : SM := fun _ _ => .stuck
theorem pd_dead {Γ : Ctx} {W : WX} {X : Cx} {e : Expr} : PE X e (tD Γ W mDead) := ⟨fun pins s σ H Q I h => by obtain ⟨_, _, _, _, _, _, _, h⟩ := h; exact h.elim⟩
theorem ds_dead {Γ : Ctx} {W : WX} {X : Cx} {st : List Stmt} : PSs X st (tS Γ W sDead) := ⟨fun pins s σ H Q I h => by obtain ⟨_, _, _, _, _, _, _, h⟩ := h; exact h.elim⟩
theorem ds_dead1 {Γ : Ctx} {W : WX} {X : Cx} {st : Stmt} : PS X st (tS Γ W sDead) := ⟨fun pins s σ H Q I h => by obtain ⟨_, _, _, _, _, _, _, h⟩ := h; exact h.elim⟩
end DL

set_option Elab.async false
set_option linter.all false
set_option maxRecDepth 100000
namespace DL
open PySem PySem.Spec L2
/-! ### making a web -/
section
variable {X : Cx} {CX : CXT} {k : Nat} {f C : Addr} {fd : FuncData} {ps : List Str} {sp : Sp} {E : L2.St → XK} {x : Str} {p pos : Pos} {e : Expr} {es : List Expr} {t : TA}
def tMakeS (C : Addr) (sp : Sp) (E : L2.St → XK) (t : TA) : TE := fun σ H Q => t σ H fun vs H1 => ∀ x dx, H1 x = none → H1 dx = none → dx ≠ x →
  sp (.ref x :: vs) (upd (upd H1 dx (.own x)) x (.ins C dx [])) (fun v H2 => v = .non ∧ Q (.ref x) H2) (E σ)
theorem run_makeS {pins : List (Addr × Obj)} {σ : L2.St} {H : Hp} {s : Shared} {Q : VK} {us : List Value} {vs : List V} (M : Mk X.K C f) (F : FnOk X.prog X.w X.K X.mg X.base CX k f fd ps sp) (hr : Room (k + 1) X.A) (hb : Binds X.K fd ps []) (hx : PassesAt CX X σ (E σ))
    (I : Inv X pins σ H s) (r : Vals vs us) (h : ∀ x dx, H x = none → H dx = none → dx ≠ x → sp (.ref x :: vs) (upd (upd H dx (.own x)) x (.ins C dx [])) (fun v H2 => v = .non ∧ Q (.ref x) H2) (E σ)) :
    wpAny (model X.prog X.w) X.A (call (.ref C) us) (EP X pins σ Q) X.xe s := by
  have want := h (s.heap.objs.size + 1) s.heap.objs.size (I.hok.fresh (Nat.le_succ _)) (I.hok.fresh (Nat.le_refl _)) (Nat.ne_of_lt (Nat.lt_succ_self _))
  have J := Inv.made (C := C) I
  have rr : Vals (V.ref (s.heap.objs.size + 1) :: vs) (Value.ref (s.heap.objs.size + 1) :: us) := .cons rfl r
  have len : ((Value.ref (s.heap.objs.size + 1) :: us) ++ []).length = ps.length := by
    rw [List.append_nil, ← rr.length]
    exact F.len _ _ _ _ want
  have bb := hb _ (Value.ref (s.heap.objs.size + 1) :: us) J.kIn len
  rw [List.append_nil] at bb
  refine wpAny_call (make_map (f := f) I.kIn M.makes M.init (beq_iff_eq.mp M.fn) (codeAny_mono (F.run _ X.stack _ _ ⟨Value.ref (s.heap.objs.size + 1) :: us, []⟩ _ _ _ (E σ) (hr.make C us []) (J.env0.make C us []) bb rr want) fun res s' got => ?_))
  cases res with
  | error ev => exact hx pins _ _ ev s' J got
  | ok fl =>
    cases fl with
    | ret u =>
      obtain ⟨v, H', J3, rv, ev, fin⟩ := J.after got
      subst ev
      exact ⟨rv, ⟨V.ref (s.heap.objs.size + 1), H', J3, rfl, fin⟩⟩
    | next => exact False.elim got
    | brk => exact False.elim got
    | cont => exact False.elim got
theorem pe_makeS (M : Mk X.K C f) (F : FnOk X.prog X.w X.K X.mg X.base CX k f fd ps sp) (hr : Room (k + 1) X.A) (hg : Gl X x) (hm : X.mg x = some (.ref C)) (hb : Binds X.K fd ps []) (hx : ∀ σ, PassesAt CX X σ (E σ))
    (ha : PA X (e :: es) t) (hdb : (x == ("__debug__" : Str)) = false := by decide) (he : starEach (e :: es) X.env = (false, eval e X.env) :: starEach es X.env := by rfl) (hpl : (backTo pos (starEach es X.env)).any (·.1) = false := by rfl) :
    PE X (.Call (.Name x p) (e :: es) [] pos) (tMakeS C sp E t) := by
  refine ⟨fun pins s σ H Q I h => ?_⟩
  refine wpAny_Call_Name_kw (ld_glob I hg hm ?_ hdb)
  refine PySem.W.callWith_K (h₀ := X.base) I.ok.mod.kin M.kp (thn (ha.run pos pins s σ H _ I h) fun us s1 ⟨vs, H1, J, r, q⟩ => ⟨J.kIn, ?_⟩) he hpl
  exact run_makeS M F hr hb (hx σ) J r q
end
theorem Ext.updB {Γ : Ctx} {A : List Addr} {H H1 : Hp} {x : Addr} {o : HO} (e : Ext Γ A H H1) (h : x ∈ A) (ho : nx o = true := by rfl) : Ext Γ A H (upd H1 x o) :=
  ⟨fun b u n q s => by rw [upd_ne (fun z => n (by rw [z]; exact h))]; exact e.st b u n q s, fun b kvs n q => by rw [upd_ne (fun z => n (by rw [z]; exact h))]; exact e.ca b kvs n q, fun b u q => by
    by_cases z : b = x
    · rw [z, upd_same]; exact ⟨_, rfl, fun _ => ho⟩
    · rw [upd_ne z]; exact e.al b u q⟩
/-- an instance is changed -/
theorem RowOk.updI {Γ : Ctx} {H : Hp} {R : Option Rw} {p C dx : Addr} {fs : List (Str × V)} {o : HO} (h : RowOk Γ H R) (hp : H p = some (.ins C dx fs)) : RowOk Γ (L2.upd H p o) R := by
  obtain ⟨⟨h1, h0⟩, h2⟩ := h
  refine ⟨⟨fun q hq => ?_, h0.keep fun b k hb => by rw [upd_ne (ne_of hb hp (by intro z; cases z))]; exact hb⟩, ?_⟩
  · obtain ⟨ps, a1, a2, a3⟩ := h1 q hq
    refine ⟨ps, by rw [upd_ne (ne_of a1 hp (by intro z; cases z))]; exact a1, a2, fun pos cv hc => ?_⟩
    obtain ⟨c, e1, e2⟩ := a3 pos cv hc
    refine ⟨c, e1, ?_⟩
    rw [upd_ne (ne_of e2 hp (by unfold LamX.CodeO; intro z; cases z))]
    exact e2
  · cases R with
    | none => trivial
    | some r =>
      show L2.upd H p o r.addr = _
      have h2' : H r.addr = some (.lst [.ref Γ.scr, .int r.idx, .int r.mix, .int r.carry]) := h2
      rw [upd_ne (ne_of h2' hp (by intro z; cases z))]
      exact h2
theorem PairsR.of_rep {Γ : Ctx} {H : Hp} : ∀ {ss : List (Int × Int)} {xs : List V}, RepL Γ H (ss.map pairD) xs → PairsR H ss xs
  | [], xs, h => by
    rw [List.map_nil, RepL_nil] at h
    subst h
    exact trivial
  | s :: ss, xs, h => by
    rw [List.map_cons, RepL_cons] at h
    obtain ⟨v, ws, rfl, h1, h2⟩ := h
    refine ⟨?_, PairsR.of_rep h2⟩
    unfold pairD at h1
    rw [Rep_tup] at h1
    obtain ⟨a, ys, rfl, e1, e2⟩ := h1
    obtain ⟨u, w, rfl, r1, r2⟩ := e2.two_inv
    rw [r1.int_eq, r2.int_eq] at e1
    exact ⟨a, rfl, e1⟩
def spWeb (Γ : Ctx) (F : List D → M D) : Sp := fun vs H Q E => ∃ x dx ws ds R A, vs = .ref x :: ws ∧ RepL Γ (hide A H) ds ws ∧ ds.length = 2 ∧ RowOk Γ H R ∧ (∀ a ∈ rAddr R, a ∈ A) ∧ All A H ∧ SqL Γ.K H Γ.scr (Γ.cells.map V.int) ∧ (Γ.scr ∈ rAddr R → ScrK Γ) ∧ H x = some (.ins Γ.web dx []) ∧ x ∈ A ∧
  (F ds R).run (fun d R' => match d with
      | .web n ss => ∀ H' t q xs, Ext Γ (x :: rAddr R) H H' → RowOk Γ H' R' → rAddr R' = rAddr R → H' x = some (.ins Γ.web dx (webF n t q)) → H' t = some (.tup xs) → PairsR (hide A H') ss xs → t ∉ A → H' q = some (.dT []) → q ∉ A → Γ.own.lookup q = none → Q .non H'
      | _ => False)
    (fun c d R' => ∀ v dx H', Mv Γ (rAddr R) R R' H H' → H' dx = some (.xd [(("value" : Str), v)]) → Rep Γ (hide A H') d v → E (.ref (Γ.cls c)) (some dx) H')
structure CalW (P : Program) (w : World) (K : PySem.W.Frag) (mg : Str → Option Value) (base : Heap) (Γ : Ctx) (k : Nat) (F : List D → M D) : Prop where
  ex : ∃ (f : Addr) (fd : FuncData) (ps : List Str), FnOk P w K mg base (L2.CX P w) k f fd ps (spWeb Γ F) ∧ Mk K Γ.web f ∧ L2.Binds K fd ps []
def onlyWeb : D → M D
  | .web n ss => pure (.web n ss)
  | _ => M.stuck
def dWeb (F : List D → M D) (fs : SEnv → M (List D)) : SEnv → M D := fun δ => fs δ >>= fun ds => if ds.length = 2 then F ds >>= onlyWeb else M.stuck
section
variable {Γ : Ctx} {W : WX} {X : Cx} {e : Expr} {es : List Expr} {fs : SEnv → M (List D)} {pos p : Pos} {k : Nat} {F : List D → M D}
theorem web_imp {σ : L2.St} {H : Hp} {Q : VK} (h : tD Γ W (dWeb F fs) σ H Q) : tMakeS Γ.web (spWeb Γ F) (WE W) (tL Γ W fs) σ H Q := by
  obtain ⟨H0, A, B, P, R, δ, S, h⟩ := h
  refine ⟨H0, A, B, P, R, δ, S, go S h fun ds vs R1 H1 m1 r1 S1 h1 => ?_⟩
  split at h1
  · rename_i hn
    intro x dx hx hdx ne
    have hdx' : (upd H1 dx (.own x)) x = none := by rw [upd_ne (fun z => ne z.symm)]; exact hx
    have gr : Grow H1 (upd (upd H1 dx (.own x)) x (.ins Γ.web dx [])) := fun b o q => grow_new hdx' b o (grow_new hdx b o q)
    have nA : x ∉ A ++ P := fun z => by obtain ⟨o, q, _⟩ := S1.all x z; rw [hx] at q; cases q
    refine ⟨x, dx, vs, ds, R1, x :: (A ++ P), rfl, ?_, hn, S1.row.grow gr, fun a ha => List.mem_cons_of_mem _ (List.mem_append_left _ (S1.ra a ha)), ?_, ?_, fun z => S1.sb (S1.rb _ z), upd_same, List.mem_cons_self, ?_⟩
    · refine RepL.keep ?_ _ r1
      refine Keeps.of fun b o q => ?_
      obtain ⟨n, q⟩ := hide_some q
      rw [hide_out (fun z => by
        rcases List.mem_cons.mp z with z | z
        · rw [z, hx] at q; cases q
        · exact n z)]
      exact gr b o q
    · intro a ha
      rcases List.mem_cons.mp ha with z | z
      · rw [z]; exact ⟨_, upd_same, rfl⟩
      · obtain ⟨o, q, n⟩ := S1.all a z
        exact ⟨o, gr a o q, n⟩
    · exact SqL.grow gr S1.scr
    · have up : ∀ {H2}, Ext Γ (x :: rAddr R1) (upd (upd H1 dx (.own x)) x (.ins Γ.web dx [])) H2 → Ext Γ B H1 H2 := fun {H2} m => ⟨fun b o n q s => m.st b o (fun z => by
          rcases List.mem_cons.mp z with z | z
          · rw [z, hx] at q; cases q
          · exact n (S1.rb b z)) (gr b o q) s, fun b kvs n q => m.ca b kvs (fun z => by
          rcases List.mem_cons.mp z with z | z
          · rw [z, hx] at q; cases q
          · exact n (S1.rb b z)) (gr b _ q), fun b o q => m.al b o (gr b o q)⟩
      refine Out.run_mono (run_bind.mp h1) (fun d R2 _ q => ?_) fun c d R2 _ q v dx2 H2 m2 hx2 r2 => q v dx2 H2 ⟨up (m2.ext.mono fun a h => List.mem_cons_of_mem _ h), m2.row, m2.adr⟩ hx2 (Rep.keep (hide_keeps fun a ha => List.mem_cons_of_mem _ ha) _ r2)
      cases d with
      | web n ss =>
        intro H2 t q' xs ex row adr hx2 ht hp nt hq nq no
        refine ⟨rfl, q (.ref x) H2 ⟨up ex, row, adr⟩ ?_⟩
        rw [Rep]
        refine ⟨x, dx, t, q', xs, [], rfl, by rw [hide_out nA]; exact hx2, by rw [hide_out fun z => nt (List.mem_cons_of_mem _ z)]; exact ht, ?_, by rw [hide_out fun z => nq (List.mem_cons_of_mem _ z)]; exact hq, ⟨List.nodup_nil, fun _ z => by cases z⟩, no⟩
        exact hp.imp (hide_keeps (Γ := Γ) fun a ha => List.mem_cons_of_mem _ ha).tup
      | _ => exact q.elim
  · exact h1.elim
theorem pd_web (T : WebF X.K X.mg Γ) (C : CalW X.prog X.w X.K X.mg X.base Γ k F) (hr : Room (k + 1) X.A) (tk : Takes X W) (ha : PA X (e :: es) (tL Γ W fs)) (hg : Gl X "Web" := by rfl)
    (he : starEach (e :: es) X.env = (false, eval e X.env) :: starEach es X.env := by rfl) (hpl : (backTo pos (starEach es X.env)).any (·.1) = false := by rfl) :
    PE X (.Call (.Name "Web" p) (e :: es) [] pos) (tD Γ W (dWeb F fs)) := by
  obtain ⟨f, fd, ps, ok, mk, b⟩ := C.ex
  exact (pe_makeS mk ok hr hg T.gW b (fun σ => passAt tk σ) ha (by decide) he hpl).imp fun _ _ _ h => web_imp h
/-! ### Web.__init__ -/
/-- a statement of the layer, then a raw rest -/
def tThen (Γ : Ctx) (W : WX) (f : SM) (t : TS) : TS := fun Dn σ H => ∃ H0 A B P R δ, RepS Γ H0 A B P R H σ δ ∧ AllK Γ W H0 A B P R H { Dn with nx := t Dn } (f δ R)
theorem then_seq {f g : SM} {t : TS} {Dn : Ends} {σ : L2.St} {H : Hp} (h : tThen Γ W (sSeq f g) t Dn σ H) : tThen Γ W f (tThen Γ W g t) Dn σ H := by
  obtain ⟨H0, A, B, P, R, δ, S, h⟩ := h
  refine ⟨H0, A, B, P, R, δ, S, ?_⟩
  unfold sSeq at h
  cases e : f δ R with
  | nx δ' R' =>
    rw [e] at h
    intro σ' H' P' s S'
    exact ⟨H0, A, B, P', R', δ', S', AllK.later s h⟩
  | rt d R' => rw [e] at h; exact h
  | bk δ' R' => rw [e] at h; exact h
  | ct δ' R' => rw [e] at h; exact h
  | ex c d R' => rw [e] at h; exact h
  | stuck => rw [e] at h; exact h.elim
theorem ds_then {st : Stmt} {rest : List Stmt} {f : SM} {t : TS} (h1 : PS X st (tS Γ W f)) (h2 : PSs X rest t) : PSs X (st :: rest) (tThen Γ W f t) := (pss_cons h1 h2).imp fun Dn σ H h => h
/-- self.coins = coins; self.strings = tuple(strings); self.worths = {} -/
def tInit (Γ : Ctx) : TS := fun Dn σ H => ∃ x dx vc p ys, σ[0]? = some (some (.ref x)) ∧ σ[1]? = some (some vc) ∧ σ[2]? = some (some (.ref p)) ∧ H x = some (.ins Γ.web dx []) ∧ (H p = some (.lst ys) ∨ H p = some (.tup ys)) ∧
  ∀ H3 t q, (∀ b o, b ≠ x → H b = some o → H3 b = some o) → H3 x = some (.ins Γ.web dx [(("coins" : Str), vc), (("strings" : Str), V.ref t), (("worths" : Str), V.ref q)]) → H3 t = some (.tup ys) → (t = p ∨ H t = none) → H q = none → H3 q = some (.dT []) → Dn.nx σ H3
theorem ps_init (T : WebF X.K X.mg Γ) {sp cp p1 p2 p3 p4 p5 p6 p7 p8 p9 p10 p11 : Pos} (n0 : X.N[0]? = some ("self" : Str)) (n1 : X.N[1]? = some ("coins" : Str)) (n2 : X.N[2]? = some ("strings" : Str)) (v0 : Vis X.env.scope "self") (v1 : Vis X.env.scope "coins") (v2 : Vis X.env.scope "strings") (hm : X.mg "tuple" = none)
    (hg : Gl X "tuple" := by rfl) (s1 : swapsWith (.Name "coins" cp) (some (.Attribute (.Name "self" p1) "coins" p2)) p3.line X.env = pure false := by rfl)
    (s2 : swapsWith (.Call (.Name "tuple" p7) [.Name "strings" p8] [] p9) (some (.Attribute (.Name "self" p4) "strings" p5)) p6.line X.env = pure false := by rfl)
    (he : starEach [.Name "strings" p8] X.env = (false, eval (.Name "strings" p8) X.env) :: starEach [] X.env := by rfl) {p12 : Pos}
    (s4 : swapsWith (.Dict [] [] p10) (some (.Attribute (.Name "self" sp) "worths" p11)) p12.line X.env = pure false := by rfl) :
    PSs X [.Assign [.Attribute (.Name "self" p1) "coins" p2] (.Name "coins" cp) p3, .Assign [.Attribute (.Name "self" p4) "strings" p5] (.Call (.Name "tuple" p7) [.Name "strings" p8] [] p9) p6, .Assign [.Attribute (.Name "self" sp) "worths" p11] (.Dict [] [] p10) p12] (tInit Γ) := by
  refine (pss_cons (ps_fld (pe_var n0 v0) (pe_var n1 v1) s1) (pss_cons (ps_fld (pe_var n0 v0) (pe_callTy call_tuple_of hg hm (by decide +kernel) (pa_cons (pe_var n2 v2) pa_nil he) (by decide) (by decide) he) s2) (pss_one (ps_fld (pe_var n0 v0) pe_dnewT s4)))).imp fun Dn σ H h => ?_
  obtain ⟨x, dx, vc, p, ys, e0, e1, e2, hx, hp, fin⟩ := h
  have px : p ≠ x := fun z => by
    rw [z, hx] at hp
    rcases hp with hp | hp <;> cases hp
  refine ⟨vc, e1, .ref x, e0, x, Γ.web, dx, _, rfl, hx, T.cl, T.nC, by simp, ?_⟩
  have eq1 : putF ("coins" : Str) vc [] = [(("coins" : Str), vc)] := rfl
  rw [eq1]
  have tail : ∀ (Ha : Hp) (t : Addr), (∀ b o, b ≠ x → H b = some o → Ha b = some o) → Ha x = some (.ins Γ.web dx [(("coins" : Str), vc)]) → Ha t = some (.tup ys) → (t = p ∨ H t = none) → t ≠ x → (∀ b, Ha b = none → H b = none) →
      ∃ v, σ[0]? = some (some v) ∧ ∃ a C dx fs, v = .ref a ∧ Ha a = some (.ins C dx fs) ∧ Cls X.K C ∧ NoAttr X.K C "strings" ∧ fs.length < 1000 ∧ (tDNewT σ (upd Ha a (.ins C dx (putF "strings" (.ref t) fs))) fun y H1 => ∃ v, σ[0]? = some (some v) ∧ ∃ a C dx fs, v = .ref a ∧ H1 a = some (.ins C dx fs) ∧ Cls X.K C ∧ NoAttr X.K C "worths" ∧ fs.length < 1000 ∧ Dn.nx σ (upd H1 a (.ins C dx (putF "worths" y fs)))) := by
    intro Ha t k1 k2 k3 k4 k5 k6
    refine ⟨.ref x, e0, x, Γ.web, dx, _, rfl, k2, T.cl, T.nS, by simp, fun q hq => ⟨.ref x, e0, x, Γ.web, dx, putF ("strings" : Str) (.ref t) [(("coins" : Str), vc)], rfl, ?_, T.cl, T.nW, ?_, ?_⟩⟩
    · have nq : x ≠ q := fun z => by rw [← z, upd_same] at hq; cases hq
      rw [upd_ne nq, upd_same]
    · rw [show putF ("strings" : Str) (V.ref t) [(("coins" : Str), vc)] = [(("coins" : Str), vc), (("strings" : Str), V.ref t)] from rfl]
      simp
    · have nq : x ≠ q := fun z => by rw [← z, upd_same] at hq; cases hq
      have hq2 : Ha q = none := by rw [upd_ne (fun z => nq z.symm)] at hq; exact hq
      have ntq : t ≠ q := fun z => by rw [← z, k3] at hq2; cases hq2
      refine fin _ t q (fun b o nb hb => ?_) ?_ ?_ k4 (k6 q hq2) ?_
      · have nbq : b ≠ q := fun z => by rw [z, k6 q hq2] at hb; cases hb
        rw [upd_ne nb, upd_ne nbq, upd_ne nb]
        exact k1 b o nb hb
      · rw [upd_same]
        have eq2 : putF ("worths" : Str) (V.ref q) (putF ("strings" : Str) (V.ref t) [(("coins" : Str), vc)]) = [(("coins" : Str), vc), (("strings" : Str), V.ref t), (("worths" : Str), V.ref q)] := by rfl
        rw [eq2]
      · rw [upd_ne k5, upd_ne ntq, upd_ne k5]
        exact k3
      · rw [upd_ne (fun z => nq z.symm), upd_same]
  refine ⟨.ref p, e2, p, ys, rfl, ?_⟩
  have h1 : ∀ b o, b ≠ x → H b = some o → upd H x (.ins Γ.web dx [(("coins" : Str), vc)]) b = some o := fun b o nb hb => by rw [upd_ne nb]; exact hb
  have h2 : ∀ b, upd H x (.ins Γ.web dx [(("coins" : Str), vc)]) b = none → H b = none := fun b hb => by
    by_cases z : b = x
    · rw [z, upd_same] at hb; cases hb
    · rw [upd_ne z] at hb; exact hb
  rcases hp with hp | hp
  · refine .inl ⟨SqL.of (h1 p _ px hp), fun l hl => ?_⟩
    have nl : l ≠ x := fun z => by rw [z, upd_same] at hl; cases hl
    refine tail _ l (fun b o nb hb => ?_) ?_ upd_same (.inr (h2 l hl)) nl fun b hb => ?_
    · rw [upd_ne (fun z => by rw [z, h2 l hl] at hb; cases hb)]
      exact h1 b o nb hb
    · rw [upd_ne (fun z => nl z.symm), upd_same]
    · by_cases z : b = l
      · rw [z, upd_same] at hb; cases hb
      · rw [upd_ne z] at hb; exact h2 b hb
  · exact .inr ⟨SqT.of (h1 p _ px hp), tail _ p h1 upd_same (h1 p _ px hp) (.inl rfl) px h2⟩
end
def WebSem (x : Addr) (o : Out D) (so : SOut) : Prop := match o with
  | .ok (.web n ss) R' => ∃ δ', so = .nx δ' R' ∧ δ'[0]? = some (.dat (.row x)) ∧ δ'[1]? = some (.dat (.int n)) ∧ (δ'[2]? = some (.dat (.lst (ss.map pairD))) ∨ δ'[2]? = some (.dat (.tup (ss.map pairD))))
  | .ok _ _ => True
  | .exn c d R' => so = .ex c d R'
  | .stuck => True
theorem calW_mk {Γ : Ctx} {P : Program} {w : World} {K : PySem.W.Frag} {mg : Str → Option Value} {base : Heap} {params : Arguments} {body : List Stmt} {scope : Scope} {f : Addr} {fd : FuncData} {N ps : List Str} {k : Nat} {F : List D → M D} (FD : FunD K "__init__" "Web.__init__" params body scope [] [] f fd) (M : Mk K Γ.web f) (S : FnScope N ps scope) (hps : ps.length = 3) (hb : L2.Binds K fd ps [])
    (hbody : ∀ (cdv : Value) (A : Around) (outer : List Env) (s : Shared) (H : Hp) (E : XK), Room k (A.deeper (PyProof.Rows.envOfC "Web.__init__" scope s.heap.objs.size f cdv)) →
      ∃ sem, PSs (cxOf (L2.CX P w) P w K mg base N "Web.__init__" scope f cdv A outer s H E) body (tThen Γ (WD E) sem (tInit Γ)) ∧ ∀ x ds R, ds.length = 2 → WebSem x (F ds R) (sem (startD N (.row x :: ds)) R)) : CalW P w K mg base Γ (k + 1) F := by
  refine ⟨f, fd, ps, FD.ok S (fun vs H Q E h => ?_) (fun cdv A outer s H vs Q E hr h => ?_), M, hb⟩
  · obtain ⟨x, dx, ws, ds, R, A, rfl, r, hn, _⟩ := h
    rw [List.length_cons, r.length, hn, hps]
  · obtain ⟨sem, h1, h2⟩ := hbody cdv A outer s H E hr
    refine ⟨_, h1, ?_⟩
    obtain ⟨x, dx, ws, ds, R, A0, rfl, r, hn, row, ra, al, sc, sb, hx, xA, h⟩ := h
    have nB : x ∉ rAddr R := fun z => by
      cases R with
      | none => cases z
      | some rw0 =>
        have e : x = rw0.addr := by simpa [rAddr] using z
        have e2 : H rw0.addr = _ := row.2
        rw [← e, hx] at e2
        cases e2
    have rr : RepL Γ (hide A0 H) (.row x :: ds) (.ref x :: ws) := RepL_cons.mpr ⟨_, _, rfl, by rw [Rep], r⟩
    have hl := rr.length
    have S0 : RepS Γ H A0 (rAddr R) [] R H (L2.start N (.ref x :: ws)) (startD N (.row x :: ds)) := {
      row := row
      ra := ra
      ba := ra
      rb := fun _ h => h
      al := al
      sc := sc
      sb := sb
      ext := .refl
      own := fun p hp => by cases hp
      nd := .nil
      slots := by
        rw [List.append_nil]
        unfold L2.start startD
        rw [hl]
        exact slots_start (N := N) rr _ }
    refine ⟨H, A0, rAddr R, [], R, _, S0, ?_⟩
    have ws := h2 x ds R hn
    cases q : F ds R with
    | stuck => rw [q] at h; exact h.elim
    | exn c d R' =>
      rw [q] at h ws
      have ws : sem (startD N (.row x :: ds)) R = .ex c d R' := ws
      rw [ws]
      exact fun v dx' σ' H' m hx' r' => h v dx' H' m hx' r'
    | ok d R' =>
      rw [q] at h ws
      cases d with
      | web n ss =>
        obtain ⟨δ', e0, e1, e2, e3⟩ := ws
        rw [e0]
        intro σ' H' P' st S'
        have hx' : H' x = some (.ins Γ.web dx []) := S'.ext.st x _ nB hx rfl
        obtain ⟨v0, g0, k0⟩ := S'.slots.get e1
        rw [Rep] at k0
        subst k0
        obtain ⟨v1, g1, k1⟩ := S'.slots.get e2
        rw [k1.int_eq] at g1
        have e4 : ∃ p ys, σ'[2]? = some (some (.ref p)) ∧ (H' p = some (.lst ys) ∨ H' p = some (.tup ys)) ∧ RepL Γ (hide (A0 ++ P') H') (ss.map pairD) ys ∧ (H' p = some (.tup ys) → p ∉ A0 ++ P') ∧ p ∉ A0 ++ P' := by
          rcases e3 with e3 | e3
          · obtain ⟨v2, g2, k2⟩ := S'.slots.get e3
            obtain ⟨p, ys, rfl, l1, l2, l3⟩ := k2.lst_at
            exact ⟨p, ys, g2, .inl l1, l2, fun _ => l3, l3⟩
          · obtain ⟨v2, g2, k2⟩ := S'.slots.get e3
            obtain ⟨p, ys, rfl, l1, l2, l3⟩ := k2.tup_at
            exact ⟨p, ys, g2, .inr l1, l2, fun _ => l3, l3⟩
        obtain ⟨p, ys, g2, hp, rp, _, np⟩ := e4
        refine ⟨x, dx, .int n, p, ys, g0, g1, g2, hx', hp, fun H3 t q' keep hx3 ht htp hq0 hq3 => ?_⟩
        have alN : ∀ b, H' b = none → b ∉ A0 := fun b hb z => by
          obtain ⟨o, e, _⟩ := S'.al b z
          rw [hb] at e; cases e
        refine h H3 t q' ys ⟨fun b o n e s => ?_, fun b kvs n e => ?_, fun b o e => ?_⟩ ?_ st.adr hx3 ht ?_ ?_ hq3 (alN q' hq0) (own_none S'.row hq0)
        · exact keep b o (fun z => n (by rw [z]; exact List.mem_cons_self)) (S'.ext.st b o (fun z => n (List.mem_cons_of_mem _ z)) e s)
        · obtain ⟨kvs', e1, e2⟩ := S'.ext.ca b kvs (fun z => n (List.mem_cons_of_mem _ z)) e
          exact ⟨kvs', keep b _ (fun z => n (by rw [z]; exact List.mem_cons_self)) e1, e2⟩
        · by_cases z : b = x
          · rw [z, hx3]; exact ⟨_, rfl, fun _ => rfl⟩
          · obtain ⟨o1, e1, n1⟩ := S'.ext.al b o e
            exact ⟨o1, keep b o1 z e1, n1⟩
        · obtain ⟨⟨t1, t0⟩, t2⟩ := S'.row
          have nx : ∀ b o, H' b = some o → (∀ C dx fs, o ≠ .ins C dx fs) → H3 b = some o := fun b o e z => keep b o (fun y => by
            rw [y, hx'] at e
            exact z _ _ _ (Option.some.inj e).symm) e
          refine ⟨⟨fun q hq => ?_, t0.keep fun b k hb => nx b _ hb (fun _ _ _ z => by cases z)⟩, ?_⟩
          · obtain ⟨ps', a1, a2, a3⟩ := t1 q hq
            refine ⟨ps', nx _ _ a1 (fun _ _ _ z => by cases z), a2, fun pos cv hc => ?_⟩
            obtain ⟨c, e1, e2⟩ := a3 pos cv hc
            exact ⟨c, e1, nx _ _ e2 (fun _ _ _ z => by unfold LamX.CodeO at z; cases z)⟩
          · cases R' with
            | none => trivial
            | some r' => exact nx _ _ t2 (fun _ _ _ z => by cases z)
        · have kp : Keeps Γ (hide (A0 ++ P') H') (hide A0 H3) := Keeps.of fun b o e => by
            obtain ⟨n, e⟩ := hide_some e
            have nA : b ∉ A0 := fun z => n (List.mem_append_left _ z)
            rw [hide_out nA]
            exact keep b o (fun z => nA (by rw [z]; exact xA)) e
          exact PairsR.of_rep (RepL.keep kp _ rp)
        · rcases htp with rfl | z
          · exact fun z => np (List.mem_append_left _ z)
          · exact alN t z
      | _ => exact h.elim
end DL

set_option Elab.async false
set_option linter.all false
set_option maxRecDepth 100000
namespace DL
open PySem PySem.Spec L2
/-! ### the row of draws: [script, place, mix, carry] -/
def rowItem (Γ : Ctx) (r : Rw) : Nat → Option D
  | 0 => some (.row Γ.scr)
  | 1 => some (.int r.idx)
  | 2 => some (.int r.mix)
  | 3 => some (.int r.carry)
  | _ => none
def rowAt (Γ : Ctx) (i : Nat) (x : D) : M D := fun R => match x, R with
  | .row a, some r => if a = r.addr then (match rowItem Γ r i with
    | some d => .ok d (some r)
    | none => .stuck) else .stuck
  | _, _ => .stuck
def dRow (Γ : Ctx) (i : Nat) (fe : SEnv → M D) : SEnv → M D := fun δ => fe δ >>= rowAt Γ i
def rowPut (i : Nat) (x : Int) (r : Rw) : Rw := match i with
  | 1 => { r with idx := x }
  | 2 => { r with mix := x }
  | _ => { r with carry := x }
theorem rowPut_addr (i : Nat) (x : Int) (r : Rw) : (rowPut i x r).addr = r.addr := by unfold rowPut; split <;> rfl
def sRowSet (i j : Nat) (fe : SEnv → M D) : SM := sBind fe fun d δ R => match δ[i]?, d, R with
  | some (.dat (.row a)), .int x, some r => if a = r.addr ∧ 1 ≤ j ∧ j ≤ 3 then .nx δ (some (rowPut j x r)) else .stuck
  | _, _, _ => .stuck
section
variable {Γ : Ctx} {W : WX} {X : Cx} {e a b : Expr} {fe fa fb : SEnv → M D} {pos p p3 : Pos} {c0 : Nat}
theorem pd_row {i : Nat} (he : PE X e (tD Γ W fe)) : PE X (.Subscript e (.Constant (.int (i : Int)) c0 p) pos) (tD Γ W (dRow Γ i fe)) := (pe_ix ix_seq he pe_int (fun _ _ => rfl)).imp fun σ H Q h => by
  obtain ⟨H0, A, B, P, R, δ, S, h⟩ := h
  refine ⟨H0, A, B, P, R, δ, S, go S h fun x vx R1 H1 m r1 S1 h1 => ?_⟩
  unfold rowAt at h1
  cases x <;> try exact h1.elim
  rename_i ad
  cases R1 with
  | none => exact h1.elim
  | some r =>
    simp only at h1
    split at h1
    · rename_i ea
      cases q : rowItem Γ r i with
      | none => rw [q] at h1; exact h1.elim
      | some d =>
        rw [q] at h1
        have hv : vx = .ref ad := by rw [Rep] at r1; exact r1
        subst hv
        have hrow : H1 r.addr = some (.lst [.ref Γ.scr, .int r.idx, .int r.mix, .int r.carry]) := S1.row.2
        have fin : ∃ v, atI [V.ref Γ.scr, V.int r.idx, V.int r.mix, V.int r.carry] (i : Int) = some v ∧ Rep Γ (hide (A ++ P) H1) d v := by
          unfold rowItem at q
          split at q <;> cases q
          · exact ⟨_, rfl, by rw [Rep]⟩
          · exact ⟨_, rfl, Rep.of_int⟩
          · exact ⟨_, rfl, Rep.of_int⟩
          · exact ⟨_, rfl, Rep.of_int⟩
        obtain ⟨v, e1, e2⟩ := fin
        show rIx X.K _ _ H1 Q
        exact .inl ⟨r.addr, _, (i : Int), v, by rw [ea], rfl, SqL.of hrow, e1, h1 v H1 (.refl S1.row) e2⟩
    · exact h1.elim
def scrLen (Γ : Ctx) : D → Option D
  | .row a => if a = Γ.scr then some (.int Γ.cells.length) else none
  | _ => none
def scrAt (Γ : Ctx) : D → D → Option D
  | .row a, .int i => if a = Γ.scr then (atI Γ.cells i).map .int else none
  | _, _ => none
theorem pd_scrLen (hK : Γ.K = X.K) (he : PE X e (tD Γ W fe)) (hm : X.mg "len" = none) (hg : Gl X "len" := by rfl) (h1 : starEach [e] X.env = (false, eval e X.env) :: starEach [] X.env := by rfl) (h2 : (backTo pos (starEach [] X.env)).any (·.1) = false := by rfl) :
    PE X (.Call (.Name "len" p) [e] [] pos) (tD Γ W (d1 (scrLen Γ) fe)) := (pe_callB cr_len hg hm (by decide +kernel) (pa_cons he pa_nil h1) (by decide) (by decide) h1 h2).imp fun σ H Q h => by
  obtain ⟨H0, A, B, P, R, δ, S, h⟩ := h
  refine ⟨H0, A, B, P, R, δ, S, go S h fun x vx R1 H1 m r1 S1 h1 => ?_⟩
  obtain ⟨d, ed, q⟩ := lift_out S1 h1
  cases x <;> simp only [scrLen] at ed <;> try (cases ed)
  rename_i ad
  split at ed
  · rename_i ea
    cases ed
    have hv : vx = .ref ad := by rw [Rep] at r1; exact r1
    subst hv
    exact .inl ⟨ad, _, rfl, .inl (by rw [ea, ← hK]; exact S1.scr), by rw [List.length_map]; exact q _ H1 (fun _ _ z => z) Rep.of_int⟩
  · cases ed
theorem atI_map {α β : Type} (f : α → β) (xs : List α) (i : Int) : atI (xs.map f) i = (atI xs i).map f := by
  unfold atI
  rw [List.length_map]
  cases ixN xs.length i with
  | none => rfl
  | some j => simp
theorem pd_scrAt (hK : Γ.K = X.K) (ha : PE X a (tD Γ W fa)) (hb : PE X b (tD Γ W fb)) (hs : PlainIx b) : PE X (.Subscript a b pos) (tD Γ W (d2 (scrAt Γ) fa fb)) := (pe_ix ix_seq ha hb hs).imp fun σ H Q h => by
  obtain ⟨H0, A, B, P, R, δ, S, h⟩ := h
  refine ⟨H0, A, B, P, R, δ, S, go S h fun x vx R1 H1 m1 r1 S1 h1 => ⟨H0, A, B, P, R1, δ, S1, go S1 h1 fun y vy R2 H2 m2 r2 S2 h2 => ?_⟩⟩
  obtain ⟨d, ed, q⟩ := lift_out S2 h2
  cases x <;> cases y <;> simp only [scrAt] at ed <;> try (cases ed)
  rename_i ad i
  split at ed
  · rename_i ea
    obtain ⟨c, e1, rfl⟩ := Option.map_eq_some_iff.mp ed
    have hv : vx = .ref ad := by rw [Rep] at r1; exact r1
    subst hv
    exact .inl ⟨ad, _, i, .int c, rfl, r2.int_eq, by rw [ea, ← hK]; exact S2.scr, by rw [atI_map, e1]; rfl, q _ H2 (fun _ _ z => z) Rep.of_int⟩
  · cases ed
theorem RepS.rowPut {Γ : Ctx} {H0 H : Hp} {A B P : List Addr} {r r' : Rw} {σ : L2.St} {δ : SEnv} (S : RepS Γ H0 A B P (some r) H σ δ) (ea : r'.addr = r.addr) :
    RepS Γ H0 A B P (some r') (upd H r.addr (.lst [.ref Γ.scr, .int r'.idx, .int r'.mix, .int r'.carry])) σ δ ∧ Ext Γ B H (upd H r.addr (.lst [.ref Γ.scr, .int r'.idx, .int r'.mix, .int r'.carry])) := by
  have hB : r.addr ∈ B := S.rb _ (by simp [rAddr])
  have hA : r.addr ∈ A := S.ba _ hB
  have hrow : H r.addr = some (.lst [.ref Γ.scr, .int r.idx, .int r.mix, .int r.carry]) := S.row.2
  have ex : Ext Γ B H (upd H r.addr (.lst [.ref Γ.scr, .int r'.idx, .int r'.mix, .int r'.carry])) := Ext.updB .refl hB
  have hd : hide (A ++ P) (upd H r.addr (.lst [.ref Γ.scr, .int r'.idx, .int r'.mix, .int r'.carry])) = hide (A ++ P) H := hide_upd (List.mem_append_left _ hA)
  refine ⟨{
    row := ?_
    ra := by intro a ha; have : a = r'.addr := by simpa [rAddr] using ha
             rw [this, ea]; exact hA
    ba := S.ba
    rb := by intro a ha; have : a = r'.addr := by simpa [rAddr] using ha
             rw [this, ea]; exact hB
    al := fun a ha => by
      obtain ⟨o, h, n⟩ := S.al a ha
      obtain ⟨o', h', n'⟩ := ex.al a o h
      exact ⟨o', h', n' n⟩
    sc := S.sc
    sb := S.sb
    ext := S.ext.trans ex
    own := fun p hp => by
      obtain ⟨h1, h2, xs, h3⟩ := S.own p hp
      exact ⟨h1, h2, xs, by rw [upd_ne (fun z => h2 (by rw [z]; exact hA))]; exact h3⟩
    nd := S.nd
    slots := by
      rw [hd]
      exact S.slots.keep (Γ := Γ) (Keeps.of fun _ _ z => z) fun p hp vs e => by
        rw [upd_ne (fun z => (S.own p hp).2.1 (by rw [z]; exact hA))]
        exact e }, ex⟩
  have z : RowOk Γ (upd H r.addr (.lst [.ref Γ.scr, .int r'.idx, .int r'.mix, .int r'.carry])) none := RowOk.upd (Γ := Γ) (H := H) (R := none) ⟨S.row.1, trivial⟩ hrow (by simp [rAddr])
  exact ⟨z.1, by show upd H r.addr _ r'.addr = _; rw [ea, upd_same]⟩
theorem ds_rowSet {i j : Nat} {x : Str} (hN : X.N[i]? = some x) (hv : Vis X.env.scope x) (he : PE X e (tD Γ W fe)) (hd : (x == ("__debug__" : Str)) = false := by decide) (hcd : (x == ("__classdict__" : Str)) = false := by decide)
    (hs : swapsWithSole [.Subscript (.Name x p) (.Constant (.int (j : Int)) c0 p3) pos] e pos.line X.env = pure false := by rfl) {pos2 : Pos} (hs2 : swapsWithSole [.Subscript (.Name x p) (.Constant (.int (j : Int)) c0 p3) pos] e pos2.line X.env = pure false := by rfl) (hw : swappedStores [.Subscript (.Name x p) (.Constant (.int (j : Int)) c0 p3) pos] e X.env = pure none := by rfl)
    (h1 : (assignEach [.Subscript (.Name x p) (.Constant (.int (j : Int)) c0 p3) pos] X.env).map (·.2) = [assign (.Subscript (.Name x p) (.Constant (.int (j : Int)) c0 p3) pos) X.env] := by rfl)
    (ha : ∀ v, assign (.Subscript (.Name x p) (.Constant (.int (j : Int)) c0 p3) pos) X.env v = (do
      let ov ← holding [v] (eval (.Name x p) X.env)
      let iv ← holding [v, ov] (eval (.Constant (.int (j : Int)) c0 p3) X.env)
      standAt pos
      holding [v, ov, iv] (setItem ov iv v)
      release [v, ov, iv] []) := by intro _; rfl) :
    PS X (.Assign [.Subscript (.Name x p) (.Constant (.int (j : Int)) c0 p3) pos] e pos2) (tS Γ W (sRowSet i j fe)) := (ps_asg he (pg_sub (pe_var hN hv hd hcd) pe_int set_list ha) hs2 hw h1).imp fun Dn σ H h => by
  obtain ⟨H0, A, B, P, R, δ, S, h⟩ := h
  refine ⟨H0, A, B, P, R, δ, S, sgo S h fun x vx R1 H1 m r S1 h1 => ?_⟩
  split at h1
  · rename_i ad k r0 e1
    split at h1
    · rename_i hc
      obtain ⟨ea, j1, j3⟩ := hc
      obtain ⟨v0, g0, k0⟩ := S1.slots.get e1
      rw [Rep] at k0
      subst k0
      have hrow : H1 r0.addr = some (.lst [.ref Γ.scr, .int r0.idx, .int r0.mix, .int r0.carry]) := S1.row.2
      obtain ⟨S2, ex⟩ := S1.rowPut (r' := DL.rowPut j k r0) (rowPut_addr j k r0)
      refine ⟨.ref ad, g0, ad, _, (j : Int), j, rfl, rfl, by rw [ea]; exact hrow, ?_, ?_⟩
      · unfold ixN
        rw [if_pos (by omega), if_pos (by simp; omega)]
        simp
      · rw [r.int_eq, ea]
        have e2 : ([V.ref Γ.scr, V.int r0.idx, V.int r0.mix, V.int r0.carry].set j (V.int k)) = [V.ref Γ.scr, V.int (DL.rowPut j k r0).idx, V.int (DL.rowPut j k r0).mix, V.int (DL.rowPut j k r0).carry] := by
          have : j = 1 ∨ j = 2 ∨ j = 3 := by omega
          rcases this with z | z | z <;> subst z <;> rfl
        rw [e2]
        exact h1 σ _ P ⟨ex.mono fun a h => List.mem_append_left _ h, fun p hp => .inl hp, by simp [rAddr, rowPut_addr]⟩ S2
    · exact h1.elim
  · exact h1.elim
end
end DL

set_option Elab.async false
set_option linter.all false
set_option maxRecDepth 100000
namespace DL
open PySem PySem.Spec L2
/-! ### lists of one's own -/
section
variable {Γ : Ctx} {Hh H : Hp}
theorem SlotsR.setOwn {p : Addr} {vs : List V} {ds : List D} (e : H p = some (.lst vs)) (r : RepL Γ Hh ds vs) {σ : L2.St} {δ : SEnv} {P : List Addr} (h : SlotsR Γ Hh H σ δ P) : ∀ (i : Nat), ∃ P' P1, SlotsR Γ Hh H (σ.set i (some (.ref p))) (δ.set i (.own ds)) P' ∧ P1.Sublist P ∧ (P' = P1 ∨ P'.Perm (p :: P1)) := by
  induction h with
  | nil => intro i; exact ⟨[], [], by simpa using SlotsR.nil, .refl _, .inl rfl⟩
  | none h ih =>
    intro i
    cases i with
    | zero => exact ⟨_, _, .own e r h, .refl _, .inr (.refl _)⟩
    | succ i => obtain ⟨P', P1, h1, h2, h3⟩ := ih i; exact ⟨P', P1, .none h1, h2, h3⟩
  | dat r' h ih =>
    intro i
    cases i with
    | zero => exact ⟨_, _, .own e r h, .refl _, .inr (.refl _)⟩
    | succ i => obtain ⟨P', P1, h1, h2, h3⟩ := ih i; exact ⟨P', P1, .dat r' h1, h2, h3⟩
  | @own p0 vs0 ds0 σ δ P0 e' r' h ih =>
    intro i
    cases i with
    | zero => exact ⟨_, P0, .own e r h, List.sublist_cons_self _ _, .inr (.refl _)⟩
    | succ i =>
      obtain ⟨P', P1, h1, h2, h3⟩ := ih i
      refine ⟨p0 :: P', p0 :: P1, .own e' r' h1, h2.cons_cons _, ?_⟩
      rcases h3 with h3 | h3
      · exact .inl (by rw [h3])
      · exact .inr ((h3.cons p0).trans (.swap _ _ _))
theorem SlotsR.mut {p : Addr} {ys : List V} {ds ds' : List D} (r : RepL Γ Hh ds' ys) {σ : L2.St} {δ : SEnv} {P : List Addr} (h : SlotsR Γ Hh H σ δ P) : ∀ (i : Nat), P.Nodup → δ[i]? = some (.own ds) → σ[i]? = some (some (.ref p)) → SlotsR Γ Hh (upd H p (.lst ys)) σ (δ.set i (.own ds')) P := by
  have other : ∀ {σ : L2.St} {δ : SEnv} {P : List Addr}, SlotsR Γ Hh H σ δ P → p ∉ P → SlotsR Γ Hh (upd H p (.lst ys)) σ δ P := fun h n => h.keep (Keeps.of fun _ _ z => z) fun q hq vs e => by
    rw [upd_ne (fun z => n (by rw [← z]; exact hq))]
    exact e
  have isIn : ∀ {σ : L2.St} {δ : SEnv} {P : List Addr}, SlotsR Γ Hh H σ δ P → ∀ i : Nat, δ[i]? = some (SD.own ds) → σ[i]? = some (some (V.ref p)) → p ∈ P := fun h i e1 e2 => by
    obtain ⟨q, vs, f1, f2, f3, f4⟩ := h.getOwn e1
    rw [e2] at f1
    have : q = p := by injection (Option.some.inj (Option.some.inj f1)).symm
    rw [← this]; exact f4
  induction h with
  | nil => intro i _ e; simp at e
  | none h ih =>
    intro i nd e1 e2
    cases i with
    | zero => simp at e1
    | succ i => exact .none (ih i nd (by simpa using e1) (by simpa using e2))
  | dat r' h ih =>
    intro i nd e1 e2
    cases i with
    | zero => simp at e1
    | succ i => exact .dat r' (ih i nd (by simpa using e1) (by simpa using e2))
  | @own p0 vs0 ds0 σ δ P0 e' r' h ih =>
    intro i nd e1 e2
    obtain ⟨n1, n2⟩ := List.nodup_cons.mp nd
    cases i with
    | zero =>
      have : p0 = p := by simp at e2; exact e2
      subst this
      exact .own upd_same r (other h n1)
    | succ i =>
      have hp : p ∈ P0 := isIn h i (by simpa using e1) (by simpa using e2)
      have ne : p0 ≠ p := fun z => n1 (by rw [z]; exact hp)
      exact .own (by rw [upd_ne ne]; exact e') r' (ih i n2 (by simpa using e1) (by simpa using e2))
/-- an owned list becomes plain data -/
theorem SlotsR.freeze {A : List Addr} : ∀ {σ : L2.St} {δ : SEnv} {Q : List Addr} (i : Nat) {ds : List D} {Hh : Hp}, SlotsR Γ Hh H σ δ Q → Q.Nodup → (∀ p ∈ Q, Hh p = Option.none) → δ[i]? = some (.own ds) →
    ∃ p Q', p ∈ Q ∧ (∀ a, a ∈ Q ↔ a = p ∨ a ∈ Q') ∧ Q'.Nodup ∧ p ∉ Q' ∧ ∀ Hh', Keeps Γ Hh Hh' → Hh' p = H p → SlotsR Γ Hh' H σ (δ.set i (.dat (.lst ds))) Q' := by
  intro σ δ Q i ds Hh h
  induction h generalizing i with
  | nil => intro _ _ e; simp at e
  | none h ih =>
    intro nd hd e
    cases i with
    | zero => simp at e
    | succ i =>
      obtain ⟨p, Q', h1, h2, h3, h4, h5⟩ := ih i nd hd (by simpa using e)
      exact ⟨p, Q', h1, h2, h3, h4, fun Hh' k e2 => .none (h5 Hh' k e2)⟩
  | dat r h ih =>
    intro nd hd e
    cases i with
    | zero => simp at e
    | succ i =>
      obtain ⟨p, Q', h1, h2, h3, h4, h5⟩ := ih i nd hd (by simpa using e)
      exact ⟨p, Q', h1, h2, h3, h4, fun Hh' k e2 => .dat (Rep.keep k _ r) (h5 Hh' k e2)⟩
  | @own p0 vs0 ds0 σ δ P0 e' r' h ih =>
    intro nd hd e
    obtain ⟨n1, n2⟩ := List.nodup_cons.mp nd
    cases i with
    | zero =>
      have : ds0 = ds := by simp at e; exact e
      subst this
      refine ⟨p0, P0, List.mem_cons_self, fun a => List.mem_cons, n2, n1, fun Hh' k e2 => .dat (Rep_lst.mpr ⟨p0, vs0, rfl, e2.trans e', RepL.keep k _ r'⟩) (h.keep k fun _ _ _ z => z)⟩
    | succ i =>
      obtain ⟨p, Q', h1, h2, h3, h4, h5⟩ := ih i n2 (fun q hq => hd q (List.mem_cons_of_mem _ hq)) (by simpa using e)
      have n0 : p0 ≠ p := fun z => n1 (by rw [z]; exact h1)
      refine ⟨p, p0 :: Q', List.mem_cons_of_mem _ h1, fun a => ?_, List.nodup_cons.mpr ⟨fun z => n1 ((h2 p0).mpr (.inr z)), h3⟩, fun z => ?_, fun Hh' k e2 => .own e' (RepL.keep k _ r') (h5 Hh' k e2)⟩
      · rw [List.mem_cons, h2 a, List.mem_cons]
        constructor
        · rintro (z | z | z)
          · exact .inr (.inl z)
          · exact .inl z
          · exact .inr (.inr z)
        · rintro (z | z | z)
          · exact .inr (.inl z)
          · exact .inl z
          · exact .inr (.inr z)
      · rcases List.mem_cons.mp z with z | z
        · exact n0 z.symm
        · exact h4 z
end
section
variable {Γ : Ctx} {H0 H H' : Hp} {A B P : List Addr} {R R' : Option Rw} {σ : L2.St} {δ : SEnv}
theorem RepS.setOwn {p : Addr} {vs : List V} {ds : List D} (S : RepS Γ H0 A B P R H σ δ) (m : Mv Γ B R R' H H') (hp : H p = none) (e : H' p = some (.lst vs)) (r : RepL Γ (hide (p :: (A ++ P)) H') ds vs) (i : Nat) :
    ∃ P', RepS Γ H0 A B P' R' H' (σ.set i (some (.ref p))) (δ.set i (.own ds)) ∧ Stp Γ B P P' R R' H H' := by
  have S1 := S.move m
  have nA : p ∉ A ++ P := all_out S.all hp
  have k : Keeps Γ (hide (A ++ P) H) (hide (p :: (A ++ P)) H') := by
    have k1 := m.ext.keeps (A := p :: (A ++ P)) (fun a ha => List.mem_cons_of_mem _ (S.bap a ha))
    have e1 : hide (p :: (A ++ P)) H = hide (A ++ P) H := by
      funext b
      by_cases z : b = p
      · rw [z, hide_in List.mem_cons_self, hide_out nA, hp]
      · by_cases z2 : b ∈ A ++ P
        · rw [hide_in (List.mem_cons_of_mem _ z2), hide_in z2]
        · rw [hide_out (fun y => by
            rcases List.mem_cons.mp y with y | y
            · exact z y
            · exact z2 y), hide_out z2]
    rw [e1] at k1
    exact k1
  have sl : SlotsR Γ (hide (p :: (A ++ P)) H') H' σ δ P := S.slots.keep k fun q hq vs' e' => m.ext.st q _ (fun z => (S.own q hq).2.1 (S.ba q z)) e' rfl
  obtain ⟨P', P1, h1, h2, h3⟩ := sl.setOwn e r i
  have sub : ∀ q ∈ P', q = p ∨ q ∈ P := fun q hq => by
    rcases h3 with h3 | h3
    · rw [h3] at hq; exact .inr (h2.subset hq)
    · rcases List.mem_cons.mp (h3.mem_iff.mp hq) with z | z
      · exact .inl z
      · exact .inr (h2.subset z)
  have nd : P'.Nodup := by
    rcases h3 with h3 | h3
    · rw [h3]; exact S.nd.sublist h2
    · exact h3.nodup_iff.mpr (List.nodup_cons.mpr ⟨fun z => nA (List.mem_append_right _ (h2.subset z)), S.nd.sublist h2⟩)
  refine ⟨P', ⟨S1.row, S1.ra, S1.ba, S1.rb, S1.al, S1.sc, S1.sb, S1.ext, fun q hq => ?_, nd, ?_⟩, ⟨m.ext.mono fun a h => List.mem_append_left _ h, fun q hq => ?_, m.adr⟩⟩
  · rcases sub q hq with z | z
    · subst z
      exact ⟨S.ext.free hp, fun y => nA (List.mem_append_left _ y), vs, e⟩
    · exact S1.own q z
  · refine h1.keep (hide_keeps fun a ha => ?_) fun _ _ _ z => z
    rcases List.mem_append.mp ha with z | z
    · exact List.mem_cons_of_mem _ (List.mem_append_left _ z)
    · rcases sub a z with y | y
      · rw [y]; exact List.mem_cons_self
      · exact List.mem_cons_of_mem _ (List.mem_append_right _ y)
  · rcases sub q hq with z | z
    · rw [z]; exact .inr hp
    · exact .inl z
theorem RepS.mut {p : Addr} {ys vs : List V} {ds ds' : List D} {i : Nat} (S : RepS Γ H0 A B P R H σ δ) (e1 : δ[i]? = some (.own ds)) (e2 : σ[i]? = some (some (.ref p))) (hP : p ∈ P) (hv : H p = some (.lst vs)) (r : RepL Γ (hide (A ++ P) H) ds' ys) :
    RepS Γ H0 A B P R (upd H p (.lst ys)) σ (δ.set i (.own ds')) ∧ Stp Γ B P P R R H (upd H p (.lst ys)) := by
  obtain ⟨o1, o2, _⟩ := S.own p hP
  have nB : p ∉ B := fun z => o2 (S.ba p z)
  have hd : hide (A ++ P) (upd H p (.lst ys)) = hide (A ++ P) H := hide_upd (List.mem_append_right _ hP)
  refine ⟨⟨S.row.upd hv (fun z => o2 (S.ra p z)), S.ra, S.ba, S.rb, fun a ha => ?_, S.sc, S.sb, ⟨fun b o n e s => ?_, fun b kvs n e => ?_, fun b o e => ?_⟩, fun q hq => ?_, S.nd, ?_⟩, ⟨Ext.updB .refl (List.mem_append_right _ hP), fun q hq => .inl hq, rfl⟩⟩
  · rw [upd_ne (fun z => o2 (by rw [← z]; exact ha))]
    exact S.al a ha
  · rw [upd_ne (ne_of_none e o1)]; exact S.ext.st b o n e s
  · rw [upd_ne (ne_of_none e o1)]; exact S.ext.ca b kvs n e
  · rw [upd_ne (ne_of_none e o1)]; exact S.ext.al b o e
  · obtain ⟨q1, q2, xs, q3⟩ := S.own q hq
    by_cases z : q = p
    · rw [z]; exact ⟨o1, o2, ys, upd_same⟩
    · exact ⟨q1, q2, xs, by rw [upd_ne z]; exact q3⟩
  · rw [hd]
    exact S.slots.mut r i S.nd e1 e2
theorem RepS.freeze {ds : List D} {i : Nat} (S : RepS Γ H0 A B P R H σ δ) (e1 : δ[i]? = some (.own ds)) : ∃ P', RepS Γ H0 A B P' R H σ (δ.set i (.dat (.lst ds))) ∧ ∀ q ∈ P', q ∈ P := by
  obtain ⟨p, Q', h1, h2, h3, h4, h5⟩ := S.slots.freeze (A := A) i S.nd (fun p hp => hide_in (List.mem_append_right _ hp)) e1
  have sub : ∀ q ∈ Q', q ∈ P := fun q hq => (h2 q).mpr (.inr hq)
  refine ⟨Q', ⟨S.row, S.ra, S.ba, S.rb, S.al, S.sc, S.sb, S.ext, fun q hq => S.own q (sub q hq), h3, h5 _ (hide_keeps fun a ha => ?_) (hide_out fun z => ?_)⟩, sub⟩
  · rcases List.mem_append.mp ha with z | z
    · exact List.mem_append_left _ z
    · exact List.mem_append_right _ (sub a z)
  · rcases List.mem_append.mp z with z | z
    · exact (S.own p h1).2.1 z
    · exact h4 z
end
/-- a new list -/
def tF (Γ : Ctx) (W : WX) (f : SEnv → M (List D)) : TE := fun σ H Q => ∃ H0 A B P R δ, RepS Γ H0 A B P R H σ δ ∧
  (f δ R).run (fun ds R' => ∀ p vs H', Mv Γ B R R' H H' → H p = none → H' p = some (.lst vs) → RepL Γ (hide (p :: (A ++ P)) H') ds vs → Q (.ref p) H') (KE Γ W B A P σ R H)
theorem new_own {Γ : Ctx} {A : List Addr} {H : Hp} {p : Addr} {ds : List D} {vs : List V} (hp : H p = none) (r : RepL Γ (hide A H) ds vs) : RepL Γ (hide (p :: A) (upd H p (.lst vs))) ds vs := by
  rw [hide_upd List.mem_cons_self]
  exact RepL.keep (hide_new hp) _ r
section
variable {Γ : Ctx} {W : WX} {X : Cx} {e a b : Expr} {es : List Expr} {fe fa fb : SEnv → M D} {fs ff : SEnv → M (List D)} {pos p p3 : Pos} {c0 : Nat}
def lenL (f : SEnv → M (List D)) : SEnv → M (List D) := fun δ => f δ >>= fun xs => M.lift (lenOk xs)
theorem fgo {α β : Type} {rep : Hp → α → β → Prop} {f : M α} {g : α → M (List D)} {Q : VK} {t : β → Hp → Prop} {H0 H : Hp} {A B P : List Addr} {R : Option Rw} {σ : L2.St} {δ : SEnv} (S : RepS Γ H0 A B P R H σ δ)
    (h : ((f >>= g) R).run (fun ds R' => ∀ p vs H', Mv Γ B R R' H H' → H p = none → H' p = some (.lst vs) → RepL Γ (hide (p :: (A ++ P)) H') ds vs → Q (.ref p) H') (KE Γ W B A P σ R H))
    (k : ∀ a b R1 H1, Mv Γ B R R1 H H1 → rep (hide (A ++ P) H1) a b → RepS Γ H0 A B P R1 H1 σ δ → (g a R1).run (fun ds R' => ∀ p vs H', Mv Γ B R1 R' H1 H' → H1 p = none → H' p = some (.lst vs) → RepL Γ (hide (p :: (A ++ P)) H') ds vs → Q (.ref p) H') (KE Γ W B A P σ R1 H1) → t b H1) :
    (f R).run (KK Γ B A P rep R H t) (KE Γ W B A P σ R H) :=
  Out.run_mono (run_bind.mp h) (fun a R1 _ q b H1 m r => k a b R1 H1 m r (S.move m) (Out.run_mono q (fun a' R2 _ q2 p vs H2 m2 hp => q2 p vs H2 (m.trans m2) (m.ext.free hp)) fun c d R2 _ q2 v dx H2 m2 => q2 v dx H2 (m.trans m2))) fun c d R1 _ q => q
theorem flift {o : Option (List D)} {Q : VK} {H0 H : Hp} {A B P : List Addr} {R : Option Rw} {σ : L2.St} {δ : SEnv} {E : String → D → Option Rw → Prop} (S : RepS Γ H0 A B P R H σ δ)
    (h : (M.lift o R).run (fun ds R' => ∀ p vs H', Mv Γ B R R' H H' → H p = none → H' p = some (.lst vs) → RepL Γ (hide (p :: (A ++ P)) H') ds vs → Q (.ref p) H') E) :
    ∃ ds, o = some ds ∧ ∀ p vs, H p = none → RepL Γ (hide (A ++ P) H) ds vs → Q (.ref p) (upd H p (.lst vs)) := by
  cases o with
  | none => exact h.elim
  | some ds => exact ⟨ds, rfl, fun p vs hp r => h p vs _ (.grow S.row (grow_new hp)) hp upd_same (new_own hp r)⟩
theorem pf_lst (h : PA X es (tL Γ W fs)) : PE X (.List es pos) (tF Γ W (lenL fs)) := (pe_lst h).imp fun σ H Q h => by
  obtain ⟨H0, A, B, P, R, δ, S, h⟩ := h
  refine ⟨H0, A, B, P, R, δ, S, fgo S h fun xs vs R1 H1 m1 r1 S1 h1 => ?_⟩
  obtain ⟨d, e, q⟩ := flift S1 h1
  obtain ⟨rfl, hl⟩ := lenOk_eq e
  exact ⟨by rw [r1.length]; exact hl, fun p hp => q p _ hp r1⟩
def repO2 : D → D → Option (List D)
  | .lst a, .int k => if -(2 ^ 63) ≤ k ∧ k < 2 ^ 63 ∧ a.length * k.toNat ≤ sizeLine then some (List.replicate k.toNat a).flatten else none
  | _, _ => none
def lRep (fa fb : SEnv → M D) : SEnv → M (List D) := fun δ => fa δ >>= fun x => fb δ >>= fun y => M.lift (repO2 x y)
theorem pf_rep (ha : PE X a (tD Γ W fa)) (hb : PE X b (tD Γ W fb)) : PE X (.BinOp a .Mult b pos) (tF Γ W (lRep fa fb)) := (pe_op op_rep ha hb).imp fun σ H Q h => by
  obtain ⟨H0, A, B, P, R, δ, S, h⟩ := h
  refine ⟨H0, A, B, P, R, δ, S, fgo S h fun x vx R1 H1 m1 r1 S1 h1 => ⟨H0, A, B, P, R1, δ, S1, fgo S1 h1 fun y vy R2 H2 m2 r2 S2 h2 => ?_⟩⟩
  obtain ⟨ds, e, q⟩ := flift S2 h2
  unfold repO2 at e
  split at e
  · split at e
    · rename_i hk
      cases e
      obtain ⟨l, xs, rfl, h1, h2, _⟩ := (Rep.keep (S1.keeps m2) _ r1).lst_at
      exact ⟨l, _, xs, rfl, r2.int_eq, h1, hk.1, hk.2.1, by rw [h2.length]; exact hk.2.2, fun p hp => q p _ hp (h2.rep _)⟩
    · cases e
  · cases e
def lstOf : List D → Option (List D)
  | [.lst ds] => some ds
  | [.tup ds] => some ds
  | _ => none
def lList (fs : SEnv → M (List D)) : SEnv → M (List D) := fun δ => fs δ >>= fun x => M.lift (lstOf x)
theorem pf_list (ha : PA X (e :: es) (tL Γ W fs)) (hm : X.mg "list" = none) (hg : Gl X "list" := by rfl) (he : starEach (e :: es) X.env = (false, eval e X.env) :: starEach es X.env := by rfl) (hpl : (backTo pos (starEach es X.env)).any (·.1) = false := by rfl) :
    PE X (.Call (.Name "list" p) (e :: es) [] pos) (tF Γ W (lList fs)) := (pe_callTy call_list_of hg hm (by decide +kernel) ha (by decide) (by decide) he hpl).imp fun σ H Q h => by
  obtain ⟨H0, A, B, P, R, δ, S, h⟩ := h
  refine ⟨H0, A, B, P, R, δ, S, fgo S h fun xs vs R1 H1 m1 r1 S1 h1 => ?_⟩
  obtain ⟨ds, e, q⟩ := flift S1 h1
  unfold lstOf at e
  split at e
  · obtain ⟨v, rfl, r2⟩ := r1.one_inv
    obtain ⟨p, ys, rfl, g1, g2, _⟩ := r2.lst_at
    cases e
    exact ⟨p, ys, rfl, .inl (SqL.of g1), fun l hl => q l _ hl g2⟩
  · obtain ⟨v, rfl, r2⟩ := r1.one_inv
    obtain ⟨p, ys, rfl, g1, g2, _⟩ := r2.tup_at
    cases e
    exact ⟨p, ys, rfl, .inr (SqT.of g1), fun l hl => q l _ hl g2⟩
  · cases e
def sOwn (i : Nat) (ff : SEnv → M (List D)) : SM := sBind ff fun ds δ R => .nx (δ.set i (.own ds)) R
theorem ds_own {i : Nat} {x : Str} {pos' : Pos} (hN : X.N.Nodup) (hi : X.N[i]? = some x) (hx : Loc X.env.scope x) (he : PE X e (tF Γ W ff)) (hs : swapsWith e (some (.Name x pos')) pos.line X.env = pure false := by rfl) (hf : X.fn x = true ∨ X.env.scope.names.lookup x = some .local := by first | exact .inl rfl | exact .inr rfl | assumption) :
    PS X (.Assign [.Name x pos'] e pos) (tS Γ W (sOwn i ff)) := (ps_set hN hi hx he hs hf).imp fun Dn σ H h => by
  obtain ⟨H0, A, B, P, R, δ, S, h⟩ := h
  refine ⟨H0, A, B, P, R, δ, S, ?_⟩
  unfold sOwn sBind at h
  cases e : ff δ R with
  | ok ds R1 =>
    rw [e] at h
    intro p vs H1 m hp ep r
    obtain ⟨P', S', st⟩ := S.setOwn m hp ep r i
    exact h _ H1 P' st S'
  | exn c d R1 =>
    rw [e] at h
    intro v dx H1 m hx r
    exact h v dx σ H1 ⟨S.ext.trans m.ext, m.row, m.adr⟩ hx (Rep.keep (hide_keeps fun a ha => List.mem_append_left _ ha) _ r)
  | stuck => rw [e] at h; exact h.elim
/-- an owned list is owned no longer -/
def sFrz (i : Nat) (f : SM) : SM := fun δ R => match δ[i]? with
  | some (.own ds) => f (δ.set i (.dat (.lst ds))) R
  | _ => .stuck
theorem frz_imp {i : Nat} {f : SM} {Dn : Ends} {σ : L2.St} {H : Hp} (h : tS Γ W (sFrz i f) Dn σ H) : tS Γ W f Dn σ H := by
  obtain ⟨H0, A, B, P, R, δ, S, h⟩ := h
  unfold sFrz at h
  split at h
  · rename_i ds e
    obtain ⟨P', S', sub⟩ := S.freeze e
    exact ⟨H0, A, B, P', R, _, S', AllK.later (Stp.sub .refl sub) h⟩
  · exact h.elim
theorem ds_frz {i : Nat} {f : SM} {st : Stmt} (h : PS X st (tS Γ W f)) : PS X st (tS Γ W (sFrz i f)) := h.imp fun _ _ _ q => frz_imp q
theorem ds_frzs {i : Nat} {f : SM} {st : List Stmt} (h : PSs X st (tS Γ W f)) : PSs X st (tS Γ W (sFrz i f)) := h.imp fun _ _ _ q => frz_imp q
/-- x.append(e) -/
def sApp (i : Nat) (fe : SEnv → M D) : SM := fun δ R => match δ[i]? with
  | some (.own ds) => sBind fe (fun d δ R => if ds.length < sizeLine then .nx (δ.set i (.own (ds ++ [d]))) R else .stuck) δ R
  | _ => .stuck
theorem ds_app {i : Nat} {x : Str} {apos : Pos} (hN : X.N[i]? = some x) (hv : Vis X.env.scope x) (he : PE X e (tD Γ W fe)) (hd : (x == ("__debug__" : Str)) = false := by decide) (hcd : (x == ("__classdict__" : Str)) = false := by decide)
    (hbase : attributeBase (.Name x p) "append" X.env (eval (.Name x p) X.env) = eval (.Name x p) X.env := by rfl)
    (hfew : ((backTo pos (starEach [e] X.env)).all (fun x => !x.1) && (backToKw pos (keywordEach [] X.env)).all (fun x => x.1.isSome) && decide ([e].length + ([] : List Keyword).length + (if ([] : List Keyword).isEmpty then 0 else 1) < 30)) = true := by rfl)
    (hline : (apos.endLine == pos.line) = true := by rfl) (hs : starEach [e] X.env = (false, eval e X.env) :: starEach [] X.env := by rfl) (hpl : (backTo pos (starEach [] X.env)).any (·.1) = false := by rfl)
    (hsw : swapsWith (.Call (.Attribute (.Name x p) "append" apos) [e] [] pos) none p3.line X.env = pure false := by rfl) :
    PS X (.Expr (.Call (.Attribute (.Name x p) "append" apos) [e] [] pos) p3) (tS Γ W (sApp i fe)) :=
  (ps_expr (pe_bm PySem.F.plainAttrs_list PySem.F.slot_list_append PySem.F.type_list_append mt_append (pe_var hN hv hd hcd) (pa_cons he pa_nil hs) hbase hfew hline hs hpl) hsw).imp fun Dn σ H h => by
    obtain ⟨H0, A, B, P, R, δ, S, h⟩ := h
    unfold sApp at h
    split at h
    · rename_i ds e1
      obtain ⟨q, vs, f1, f2, f3, f4⟩ := S.slots.getOwn e1
      refine ⟨.ref q, f1, .inl ⟨rfl, _, SqL.of f2⟩, H0, A, B, P, R, δ, S, sgo S h fun y vy R1 H1 m r S1 h1 => ?_⟩
      split at h1
      · rename_i hl
        obtain ⟨q', vs', g1, g2, g3, g4⟩ := S1.slots.getOwn e1
        rw [f1] at g1
        have eq : q' = q := by injection (Option.some.inj (Option.some.inj g1)).symm
        subst eq
        obtain ⟨S2, st⟩ := S1.mut e1 f1 g4 g2 (g3.append (RepL.one r))
        exact ⟨q', vs', vy, rfl, rfl, g2, by rw [g3.length]; exact hl, h1 σ _ P st S2⟩
      · exact h1.elim
    · exact h.elim
/-- x[k] = e -/
def ownPut (i : Nat) (k d : D) : SM := fun δ R => match δ[i]?, k with
  | some (.own ds), .int z => match ixN ds.length z with
    | some j => .nx (δ.set i (.own (ds.set j d))) R
    | none => .stuck
  | _, _ => .stuck
def sPut (i : Nat) (fk fe : SEnv → M D) : SM := fun δ R => match δ[i]? with
  | some (.own _) => sBind fe (fun d => sBind fk fun k => ownPut i k d) δ R
  | _ => .stuck
theorem ownPut_ok {i : Nat} {k d : D} {vk vd : V} {H0 H : Hp} {A B P : List Addr} {R : Option Rw} {σ : L2.St} {δ : SEnv} {Dn : Ends} {x : V} (S : RepS Γ H0 A B P R H σ δ) (rk : Rep Γ (hide (A ++ P) H) k vk) (rd : Rep Γ (hide (A ++ P) H) d vd) (h : AllK Γ W H0 A B P R H Dn (ownPut i k d δ R))
    (hx : σ[i]? = some (some x)) : rSetL x vk vd H fun H3 => Dn.nx σ H3 := by
  unfold ownPut at h
  split at h
  · rename_i ds z e1
    split at h
    · rename_i j ej
      obtain ⟨q, vs, f1, f2, f3, f4⟩ := S.slots.getOwn e1
      rw [hx] at f1
      have ex : x = .ref q := Option.some.inj (Option.some.inj f1)
      subst ex
      obtain ⟨S2, st⟩ := S.mut e1 hx f4 f2 (RepL.set rd j f3)
      exact ⟨q, vs, z, j, rfl, rk.int_eq, f2, by rw [f3.length]; exact ej, h σ _ P st S2⟩
    · exact h.elim
  · exact h.elim
theorem own_at {i : Nat} {k d : D} {H0 H : Hp} {A B P : List Addr} {R : Option Rw} {σ : L2.St} {δ : SEnv} {Dn : Ends} (S : RepS Γ H0 A B P R H σ δ) (h : AllK Γ W H0 A B P R H Dn (ownPut i k d δ R)) : ∃ x, σ[i]? = some (some x) := by
  unfold ownPut at h
  split at h
  · rename_i ds z e1
    obtain ⟨q, vs, f1, _⟩ := S.slots.getOwn e1
    exact ⟨_, f1⟩
  · exact h.elim
theorem ds_put {i : Nat} {x : Str} {k : Expr} {fk : SEnv → M D} {pos2 : Pos} (hN : X.N[i]? = some x) (hv : Vis X.env.scope x) (hk : PE X k (tD Γ W fk)) (he : PE X e (tD Γ W fe)) (hd : (x == ("__debug__" : Str)) = false := by decide) (hcd : (x == ("__classdict__" : Str)) = false := by decide)
    (hs2 : swapsWithSole [.Subscript (.Name x p) k pos] e pos2.line X.env = pure false := by rfl) (hw : swappedStores [.Subscript (.Name x p) k pos] e X.env = pure none := by rfl)
    (h1 : (assignEach [.Subscript (.Name x p) k pos] X.env).map (·.2) = [assign (.Subscript (.Name x p) k pos) X.env] := by rfl)
    (ha : ∀ v, assign (.Subscript (.Name x p) k pos) X.env v = (do
      let ov ← holding [v] (eval (.Name x p) X.env)
      let iv ← holding [v, ov] (eval k X.env)
      standAt pos
      holding [v, ov, iv] (setItem ov iv v)
      release [v, ov, iv] []) := by intro _; rfl) :
    PS X (.Assign [.Subscript (.Name x p) k pos] e pos2) (tS Γ W (sPut i fk fe)) := (ps_asg he (pg_sub (pe_var hN hv hd hcd) hk set_list ha) hs2 hw h1).imp fun Dn σ H h => by
  obtain ⟨H0, A, B, P, R, δ, S, h⟩ := h
  unfold sPut at h
  split at h
  · rename_i ds e1
    refine ⟨H0, A, B, P, R, δ, S, sgo S h fun d vd R1 H1 m r S1 h1 => ?_⟩
    obtain ⟨q, vs, f1, _⟩ := S1.slots.getOwn e1
    refine ⟨.ref q, f1, H0, A, B, P, R1, δ, S1, sgo S1 h1 fun kk vk R2 H2 m2 r2 S2 h2 => ?_⟩
    exact ownPut_ok S2 r2 (Rep.keep (S1.keeps m2) _ r) h2 f1
  · exact h.elim
/-- xs[i], any sign, as it is read ahead of a store -/
theorem get_lst : PGet X (rIxL X.K) := by
  intro pins s σ H x y v u Q I rx ry h
  obtain ⟨p, xs, i, z, rfl, rfl, hq, he, q⟩ := h
  cases rx
  obtain ⟨t, rfl⟩ := ry
  obtain ⟨its, r, pl, hz⟩ := I.list hq
  obtain ⟨j, h1, h2, h3, h4, h5⟩ := atI_get he
  obtain ⟨w, ew, rw'⟩ := r.get h2
  have hl := r.length
  have hn := line63
  have fin : EP X pins σ Q w s := ⟨z, H, I, rw', q⟩
  by_cases h0 : 0 ≤ i
  · have hj : i.toNat = j := by
      rw [seqIndex_of h0 h5] at h1
      exact Option.some.inj h1
    exact wpAny_getItem_list pl.isList h0 (by omega) (by rw [hj]; simpa using ew) fin
  · have hj : (i + (its.toArray.size : Int)).toNat = j := by
      rw [seqIndex_neg (by omega) h4] at h1
      rw [List.size_toArray, ← hl]
      exact Option.some.inj h1
    exact wpAny_getItem_list_neg pl.isList (by omega) (by rw [List.size_toArray] <;> omega) (by omega) (by rw [hj]; simpa using ew) fin
def ownGet (δ : SEnv) (i : Nat) (k : D) : Option D := match δ[i]?, k with
  | some (.own ds), .int z => atI ds z
  | _, _ => none
/-- x[k] += e -/
def sAugO (i : Nat) (fo : D → D → Option D) (fk fe : SEnv → M D) : SM := fun δ R => match δ[i]? with
  | some (.own _) => sBind fk (fun k δ R => match ownGet δ i k with
    | some z => sBind fe (fun y δ R => match fo z y with
      | some w => ownPut i k w δ R
      | none => .stuck) δ R
    | none => .stuck) δ R
  | _ => .stuck
theorem ds_augO {i : Nat} {x : Str} {op : Operator} {g : Int → Int → Int} {k : Expr} {fk : SEnv → M D} {fo : D → D → Option D} {tpos : Pos} (hfo : ∀ a b d, fo a b = some d → ∃ i j, a = .int i ∧ b = .int j ∧ d = .int (g i j)) (hp : PIp X op (ipI g)) (hN : X.N[i]? = some x) (hv : Vis X.env.scope x) (hk : PE X k (tD Γ W fk)) (he : PE X e (tD Γ W fe))
    (hd : (x == ("__debug__" : Str)) = false := by decide) (hcd : (x == ("__classdict__" : Str)) = false := by decide)
    (ha : ∀ ov iv new, augStore k ov iv new = (do holding [new, ov, iv] (setItem ov iv new); release [new, ov, iv] []; pure .next) := by intros; rfl) :
    PS X (.AugAssign (.Subscript (.Name x p) k tpos) op e pos) (tS Γ W (sAugO i fo fk fe)) := (ps_augS (pe_var hN hv hd hcd) hk get_lst he hp set_list ha).imp fun Dn σ H h => by
  obtain ⟨H0, A, B, P, R, δ, S, h⟩ := h
  unfold sAugO at h
  split at h
  · rename_i ds e1
    obtain ⟨q, vs, f1, _⟩ := S.slots.getOwn e1
    refine ⟨.ref q, f1, H0, A, B, P, R, δ, S, sgo S h fun kk vk R1 H1 m r S1 h1 => ?_⟩
    split at h1
    · rename_i z ez
      obtain ⟨q', vs', g1, g2, g3, g4⟩ := S1.slots.getOwn e1
      rw [f1] at g1
      have eq : q' = q := by injection (Option.some.inj (Option.some.inj g1)).symm
      subst eq
      unfold ownGet at ez
      rw [e1] at ez
      cases kk <;> simp only at ez <;> try (cases ez)
      rename_i iz
      obtain ⟨vz, ev, rz⟩ := g3.atI ez
      refine ⟨q', vs', iz, vz, rfl, r.int_eq, SqL.of g2, ev, H0, A, B, P, R1, δ, S1, sgo S1 h1 fun y vy R2 H2 m2 r2 S2 h2 => ?_⟩
      split at h2
      · rename_i w ew
        obtain ⟨i1, j1, rfl, rfl, rfl⟩ := hfo _ _ _ ew
        refine ⟨i1, j1, rz.int_eq, r2.int_eq, ?_⟩
        exact ownPut_ok S2 (by rw [r.int_eq]; exact Rep.of_int) Rep.of_int h2 f1
      · exact h2.elim
    · exact h1.elim
  · exact h.elim
theorem ds_augOadd {i : Nat} {x : Str} {k : Expr} {fk : SEnv → M D} {tpos : Pos} (hN : X.N[i]? = some x) (hv : Vis X.env.scope x) (hk : PE X k (tD Γ W fk)) (he : PE X e (tD Γ W fe)) (hd : (x == ("__debug__" : Str)) = false := by decide) (hcd : (x == ("__classdict__" : Str)) = false := by decide)
    (ha : ∀ ov iv new, augStore k ov iv new = (do holding [new, ov, iv] (setItem ov iv new); release [new, ov, iv] []; pure .next) := by intros; rfl) :
    PS X (.AugAssign (.Subscript (.Name x p) k tpos) .Add e pos) (tS Γ W (sAugO i addI fk fe)) := ds_augO (fun _ _ _ => addI_eq) ip_add hN hv hk he hd hcd ha
end
end DL

set_option Elab.async false
set_option linter.all false
set_option maxRecDepth 100000
namespace DL
open PySem PySem.Spec L2
/-! ### what the head tells of a def -/
structure FnI (K : PySem.W.Frag) (mg : Str → Option Value) (x : Str) (st : Stmt) : Prop where
  ex : ∃ (f : Addr) (fd : FuncData), FunD K x x (defArgs st) (defBody st) (defScope st) [] [] f fd ∧ mg x = some (.ref f)
structure MeI (K : PySem.W.Frag) (Γ : Ctx) (m qual : Str) (st : Stmt) : Prop where
  ex : ∃ (f : Addr) (fd : FuncData), FunD K m qual (defArgs st) (defBody st) (defScope st) [] [] f fd ∧ Meth K Γ.web m f
structure MkI (K : PySem.W.Frag) (Γ : Ctx) (st : Stmt) : Prop where
  ex : ∃ (f : Addr) (fd : FuncData), FunD K "__init__" "Web.__init__" (defArgs st) (defBody st) (defScope st) [] [] f fd ∧ Mk K Γ.web f
theorem then_mono {Γ : Ctx} {W : WX} {f : SM} {t t' : TS} (h : ∀ Dn σ H, t Dn σ H → t' Dn σ H) {Dn : Ends} {σ : L2.St} {H : Hp} (q : tThen Γ W f t Dn σ H) : tThen Γ W f t' Dn σ H := by
  obtain ⟨H0, A, B, P, R, δ, S, q⟩ := q
  exact ⟨H0, A, B, P, R, δ, S, SOut.run_mono q (fun _ _ z σ' H' P' s S' => h _ _ _ (z σ' H' P' s S')) (fun _ _ z => z) (fun _ _ z => z) (fun _ _ z => z) fun _ _ _ z => z⟩
theorem then_imp2 {Γ : Ctx} {W : WX} {f g k : SM} {t : TS} {Dn : Ends} {σ : L2.St} {H : Hp} (h : tThen Γ W (sSeq f (sSeq g k)) t Dn σ H) : tThen Γ W f (tThen Γ W g (tThen Γ W k t)) Dn σ H := then_mono (fun _ _ _ q => then_seq q) (then_seq h)
def inCls (s : Stmt) (j : Nat) : Stmt := match s with
  | .ClassDef (body := b) .. => b.getD j (.Pass ⟨0, 0, 0, 0⟩)
  | _ => .Pass ⟨0, 0, 0, 0⟩
/-- the maker of errors keeps its promise -/
theorem boxI_mk {P : Program} {w : World} {K : PySem.W.Frag} {mg : Str → Option Value} {base : Heap} {params : Arguments} {scope : Scope} {f : Addr} {fd : FuncData} {p1 p2 p3 p4 : Pos} (FD : FunD K "__init__" "BoxError.__init__" params [.Assign [.Attribute (.Name "self" p1) "value" p2] (.Name "value" p3) p4] scope [.non] [] f fd)
    (S : FnScope ["self", "value"] ["self", "value"] scope) (v0 : Vis scope "self") (v1 : Vis scope "value") (hb : L2.Binds K fd ["self", "value"] []) (ty : PySem.W.typeIn K (.ref f) = some (.type "function")) : BoxI P w K mg base 1 f := by
  refine ⟨fd, ["self", "value"], FD.ok S (fun vs H Q E h => ?_) (fun cdv A outer s H vs Q E hr h => ?_), hb, ty⟩
  · obtain ⟨a, C, v, rfl, _⟩ := h
    rfl
  · obtain ⟨a, C, v, rfl, oc, no, ha, q⟩ := h
    refine ⟨_, pss_one (ps_ost (pe_var (i := 0) rfl v0) (pe_var (i := 1) rfl v1) (by rfl)), ?_⟩
    exact ⟨_, rfl, _, rfl, a, C, rfl, oc, no, .inl ⟨ha, fun dx h1 h2 => q dx h1 h2⟩⟩
end DL

set_option Elab.async false
set_option linter.all false
set_option maxRecDepth 100000
set_option maxHeartbeats 2000000
namespace DL
open PySem PySem.Spec L2
/-! ### a lambda that is handed over -/
abbrev lamN (X : Cx) : Str := X.env.qual ++ "<lambda>"
abbrev lamOb (X : Cx) (params : Arguments) (body : Expr) (scope : Scope) (pm : Value) (c' : Addr) (ctv : Value) : Obj := PySem.W.kla_obj "<lambda>" (lamN X) params body scope (cloFrom X.env.cells scope.names []) pm c' ctv
section
variable {X : Cx} {pins : List (Addr × Obj)} {σ : L2.St} {H : Hp} {s : Shared}
/-- the making of a lambda: where it stands is new, nothing that was tracked is lost -/
theorem lam_new {tabs : List (Addr × Str)} {cd tab : Addr} {params : Arguments} {body : Expr} {scope : Scope} {pos : Pos} {E Q : Value → Shared → Prop} (I : Inv X pins σ H s) (TB : LamX.TabB X.base X.mg cd tab) (hcd : X.env.code = .ref cd)
    (hin : (tab, lamN X) ∈ tabs) (honly : ∀ p ∈ tabs, p.1 = tab → p.2 = lamN X) (htabs : LamX.Tabs tabs H) (hdef : defaultsOf params X.env = ([], [])) (hfree : ∀ y ∈ scope.names, y.2 = .free → ∃ c, X.env.cells.lookup y.1 = some c)
    (fin : ∀ (f c' : Addr) (pm ctv : Value) (H1 : Hp) (s1 : Shared), Inv X pins σ H1 s1 → LamX.ExtN H H1 → (∀ b o, H b = some o → ∃ o', H1 b = some o' ∧ (nx o = true → nx o' = true)) → LamX.Tabs tabs H1 → s.heap.objs.size ≤ f → s1.heap.get? f = some (lamOb X params body scope pm c' ctv) → H1 f = none → f ∉ frs X.stack →
      H1 c' = some (LamX.CodeO c' (lamN X)) → Q (.ref f) s1) :
    wpAny (model X.prog X.w) X.A (eval (.Lambda params body scope pos) X.env) Q E s := by
  obtain ⟨items, hT, ok3, known⟩ := htabs _ hin
  have hT : H tab = some (.tbl items) := hT
  have objT : s.heap.get? tab = some { cls := .none, data := .fields items } := I.hok tab _ hT
  have bi : s.heap.BuiltinsAt X.mg tab := TB.bm.keeps I.bk
  have new_nofr : ∀ {f : Addr}, s.heap.objs.size ≤ f → f ∉ frs X.stack := fun {f} hf hm => by
    rcases List.mem_cons.mp (I.stkSub _ hm) with eq | old
    · have below := I.lt
      rw [← eq] at below
      exact Nat.lt_irrefl _ (Nat.lt_of_lt_of_le below hf)
    · exact I.nofs hf old
  refine PySem.W.kla_eval hdef ?_
  cases found : codeAmong pos items.toList with
  | some cv =>
    obtain ⟨c', rfl, hc'⟩ := known pos cv found
    refine PySem.W.kla_makeFunctionHit (mg := X.mg) (c := cd) (P := tab) (ps := items) (closure_ok hfree) I.ok.glob (I.mod.glob.keeps I.bk) hcd (TB.code.keeps I.bk) objT ok3 found bi fun ctv h2 tk keep size => ?_
    have J : Inv X pins σ H { s with heap := h2.push (lamOb X params body scope ((X.mg "__name__").getD .none) c' ctv), toks := tk } := I.kept fun b o e => Heap.get?_push_of_some _ (keep b o e)
    exact fin h2.objs.size c' ((X.mg "__name__").getD .none) ctv H _ J (LamX.ExtN.refl H) (fun b o e => ⟨o, e, id⟩) htabs size (Heap.get?_push_size _ rfl) (I.hok.fresh size) (new_nofr size) hc'
  | none =>
    refine PySem.W.kla_makeFunction (mg := X.mg) (c := cd) (P := tab) (ps := items) (closure_ok hfree) I.ok.glob (I.mod.glob.keeps I.bk) hcd (TB.code.keeps I.bk) objT ok3 found TB.gP bi fun c' ctv h2 tk keep cnew clt crec tabNow => ?_
    obtain ⟨c2, oc, fields, tn, ec, hoc, hdata, hname⟩ := crec
    cases ec
    have fsize : s.heap.objs.size ≤ h2.objs.size := by omega
    have free' : H c' = none := I.hok.fresh cnew
    have tne : tab ≠ c' := ne_of_none hT free'
    have J := LamX.inv_table (t' := tk) (more := #[rawInt pos.line, rawInt pos.col, .ref c']) (h' := h2.push (lamOb X params body scope ((X.mg "__name__").getD .none) c' ctv)) I hT (fun b o nb e => Heap.get?_push_of_some _ (keep b o nb e)) (Heap.get?_push_of_some _ tabNow) cnew
      ⟨oc, fields, tn, Heap.get?_push_of_some _ hoc, hdata, hname⟩
    have grow : LamX.ExtN H (upd (upd H tab (.tbl (items ++ #[rawInt pos.line, rawInt pos.col, .ref c']))) c' (LamX.CodeO c' (lamN X))) := fun b o e notT => by
      have n1 : b ≠ c' := ne_of_none e free'
      have n2 : b ≠ tab := fun z => by
        rw [z, hT] at e
        exact notT items (Option.some.inj e).symm
      rw [upd_ne n1, upd_ne n2]
      exact e
    have listed : (items ++ #[rawInt pos.line, rawInt pos.col, .ref c']).toList = items.toList ++ [rawInt pos.line, rawInt pos.col, .ref c'] := by simp
    refine fin h2.objs.size c' ((X.mg "__name__").getD .none) ctv _ _ J grow (fun b o e => ?_) (fun p hp => ?_) fsize (Heap.get?_push_size _ rfl) ?_ (new_nofr fsize) upd_same
    · by_cases z : b = tab
      · rw [z, upd_ne tne, upd_same]
        exact ⟨_, rfl, fun _ => rfl⟩
      · rw [upd_ne (ne_of_none e free'), upd_ne z]
        exact ⟨o, e, id⟩
    · by_cases same : p.1 = tab
      · rw [honly p hp same, same]
        refine ⟨_, by rw [upd_ne tne, upd_same], by rw [listed]; exact PySem.TriplesOk_snoc _ _ _ _ ok3, fun pos2 cv found2 => ?_⟩
        rw [listed] at found2
        rcases LamX.among_app _ ok3 found2 with old | now
        · obtain ⟨c0, e1, e2⟩ := known pos2 cv old
          exact ⟨c0, e1, grow _ _ e2 LamX.codeO_ne⟩
        · exact ⟨c', now, upd_same⟩
      · obtain ⟨its2, a1, a2, a3⟩ := htabs p hp
        refine ⟨its2, by rw [upd_ne (ne_of_none a1 free'), upd_ne same]; exact a1, a2, fun pos2 cv found2 => ?_⟩
        obtain ⟨c0, e1, e2⟩ := a3 pos2 cv found2
        exact ⟨c0, e1, grow _ _ e2 LamX.codeO_ne⟩
    · rw [upd_ne (Nat.ne_of_gt clt), upd_ne (fun z => by
        have small := Heap.lt_size objT
        rw [← (show h2.objs.size = tab from z)] at small
        exact Nat.lt_irrefl _ (Nat.lt_of_lt_of_le small fsize))]
      exact I.hok.fresh fsize
end
/-- what stands behind the making of a lambda -/
structure AftL (Γ : Ctx) (H H1 : Hp) : Prop where
  ext : LamX.ExtN H H1
  al : ∀ b o, H b = some o → ∃ o', H1 b = some o' ∧ (nx o = true → nx o' = true)
  tabs : LamX.Tabs Γ.tabs H1
theorem AftL.mv {Γ : Ctx} {B : List Addr} {R : Option Rw} {H H1 : Hp} (a : AftL Γ H H1) (row : RowOk Γ H R) : Mv Γ B R R H H1 := by
  refine ⟨⟨fun b o _ e s => a.ext b o e (fun ps z => by rw [z] at s; cases s), fun b kvs _ e => ⟨kvs, a.ext b _ e (fun ps z => by cases z), fun c => c⟩, a.al⟩, ⟨⟨a.tabs, row.1.2.keep fun b k e => a.ext b _ e (fun ps z => by cases z)⟩, ?_⟩, rfl⟩
  obtain ⟨h1, h2⟩ := row
  cases R with
  | none => trivial
  | some r => exact a.ext _ _ h2 (fun ps z => by cases z)
/-- x(lambda: body): x the module's def that calls what it gets -/
def tLamD (Γ : Ctx) (TT : (XK → Hp → VK → Prop) → Hp → VK → Prop) (t : XK → TE) : TE := fun σ H Q => LamX.Tabs Γ.tabs H ∧ ∀ H1, AftL Γ H H1 → TT (fun E H' Q' => t E σ H' Q') H1 Q
section
variable {X : Cx} {Γ : Ctx}
theorem pe_lamD {TT : (XK → Hp → VK → Prop) → Hp → VK → Prop} {x a : Str} {g cd tab : Addr} {k : Nat} {pg params : Arguments} {bg : List Stmt} {sg scope : Scope} {gd : FuncData} {Ng : List Str} {body : Expr} {t : XK → TE} {p lpos pos : Pos} (hg : Gl X x) (hm : X.mg x = some (.ref g)) (FD : FunD X.K x x pg bg sg [] [] g gd)
    (Sg : FnScope Ng [a] sg) (hb : L2.Binds X.K gd [a] []) (h0 : Ng[0]? = some a) (va : Vis sg a) (gives : ∀ cdg, LamX.GivesTo X Ng x sg g cdg bg a (lamN X) TT)
    (TB : LamX.TabB X.base X.mg cd tab) (hcd : X.env.code = .ref cd) (hin : (tab, lamN X) ∈ Γ.tabs) (honly : ∀ p ∈ Γ.tabs, p.1 = tab → p.2 = lamN X) (hr : Room (k + 2) X.A) (L : LamX.LamS X.env.scope scope) (hdef : defaultsOf params X.env = ([], []))
    (hbind : ∀ (q : Str) (cl : List (Str × Addr)) (pm cv ctv : Value), bindArgs (PySem.W.kla_fn "<lambda>" q params body scope cl pm cv ctv) ⟨[], []⟩ = pure [])
    (hbody : ∀ (A : Around) (outer : List Env) (s : Shared) (H : Hp) (E : XK) (f c' : Addr), Room k (A.deeper (LamX.lamEnv X scope s.heap.objs.size f c')) → PE (LamX.lamCx X A outer s H E scope f c') body (t E))
    (db1 : (x == ("__debug__" : Str)) = false := by decide) (db2 : (a == ("__debug__" : Str)) = false := by decide) (db3 : (a == ("__classdict__" : Str)) = false := by decide) :
    PE X (.Call (.Name x p) [.Lambda params body scope lpos] [] pos) (tLamD Γ TT t) := by
  obtain ⟨oc, od, dV, kV, doc, pm0, an, cdv, ct, osl, rfl, lk, hcg, _, _⟩ := FD.ex
  refine ⟨fun pins s σ H Q I want => ?_⟩
  obtain ⟨htabs, want⟩ := want
  refine wpAny_Call_Name_kw (ld_glob I hg hm ?_ db1)
  refine PySem.W.callWith_K (h₀ := X.base) I.ok.mod.kin FD.kp ?_ (by rfl) (by rfl)
  show wpAny _ _ (spliced ((false, eval (.Lambda params body scope lpos) X.env) :: backTo pos (starEach [] X.env))) _ _ s
  refine Calls.spliced_cons (lam_new I TB hcd hin honly htabs hdef (L.has I.ok) fun f c' pm ctv H1 s1 J grow al tabs1 _ isF fF frF isC => ?_)
  refine Calls.spliced_nil ⟨J.kIn, ?_⟩
  have runs : codeAny (model X.prog X.w) X.A (.call (.ref g) ⟨[.ref f], []⟩) (CR C8.CX0 X.stack X.prog X.w H1 s1 Q C8.E0) s1 := by
    refine LamX.run_ofS (N := Ng) (ps := [a]) (us := [.ref f]) (vs := [.ref f]) lk hcg Sg hr J.env0 (hb s1 [.ref f] J.kIn rfl) (.cons rfl .nil) rfl fun hr2 => ?_
    obtain ⟨t', ht', hq'⟩ := gives cdv f c' s1 H1 Q (fun E H' Q' => t E σ H' Q') (fun W pn xe E p1 p2 tk hW => LamX.pe_act (i := 0) J L isF fF frF (hbind _ _ _ _ _) tk hW hr2 (fun A outer s H hr3 => hbody A outer s H E f c' hr3) h0 va db2 db3) isC (want H1 ⟨grow, al, tabs1⟩)
    exact ⟨t', ht'.nox, hq'⟩
  refine wpAny_call (codeAny_mono runs fun res s2 got => ?_)
  cases res with
  | error ev => exact (show False from got).elim
  | ok fl =>
    cases fl with
    | ret u => exact J.after got
    | next => exact False.elim got
    | brk => exact False.elim got
    | cont => exact False.elim got
end
end DL

set_option Elab.async false
set_option linter.all false
set_option maxRecDepth 100000
set_option maxHeartbeats 2000000
namespace DL
open PySem PySem.Spec L2
/-! ### several clauses 'except C as e', nothing else comes -/
abbrev Suite := Addr → Value → Option Addr → TS
abbrev offE (i : Nat) (D : Ends) : Ends := { nx := fun τ G => D.nx (τ.set i none) G, rt := D.rt, bk := fun τ G => D.bk (τ.set i none) G, ct := fun τ G => D.ct (τ.set i none) G }
def wClauses (K : PySem.W.Frag) (i : Nat) (D : Ends) : List (Value × Suite) → WX
  | [] => fun _ _ _ _ => False
  | q :: rest => fun cls d τ G => ∃ yes, PySem.W.exmOne K cls q.1 = some yes ∧ (yes = true → ∀ a, G a = none → q.2 a cls d (offE i D) (τ.set i (some (.ref a))) G) ∧ (yes = false → wClauses K i D rest cls d τ G)
inductive Clauses (X : Cx) (n : Str) : List ExceptHandler → List (Value × Suite) → Prop
  | none : Clauses X n [] []
  | more {x : Str} {c : Value} {ts : Suite} {b₀ : Stmt} {suite : List Stmt} {np pos' : Pos} {hds : List ExceptHandler} {l : List (Value × Suite)} (hc : Names X x c)
      (hsu : ∀ (a : Addr) (oe : Obj) (cls : Value) (d : Option Addr) (pn : List (Addr × Obj)), Zc cls d oe → (∃ vs, oe.data = .fields vs) → PSs (X.suite a ((a, oe) :: pn)) (b₀ :: suite) (ts a cls d)) (r : Clauses X n hds l) :
      Clauses X n (.ExceptHandler (some (.Name x np)) (some n) (b₀ :: suite) pos' :: hds) ((c, ts) :: l)
section
variable {X : Cx} {n : Str} {i : Nat} {body : List Stmt} {h₀ : ExceptHandler} {hds : List ExceptHandler} {l : List (Value × Suite)} {pos : Pos} {tb : WX → TS}
theorem ps_try_clauses (hs : X.stack = X.env :: X.outer) (hf : X.env.frame = some X.env.locals) (hN : X.N.Nodup) (hi : X.N[i]? = some n) (hln : X.env.kindOf n = some .local)
    (hb : ∀ (W : WX) (pn : List (Addr × Obj)) (xe : Value → Shared → Prop), Takes (X.tr pn xe) W → PassesOwn (model X.prog X.w) X.A X.env xe → PSs (X.tr pn xe) body (tb W))
    (cl : Clauses X n (h₀ :: hds) l) : PS X (.Try body (h₀ :: hds) [] [] pos) (fun D σ H => tb (fun cls d τ G => τ.length = X.N.length → wClauses X.K i D l cls d τ G) D σ H) := by
  refine ⟨fun pins s σ H D I want => ?_⟩
  have okX := I.ok
  have frX : X.A.frames = some (X.env :: X.outer) := by rw [okX.frames, hs]
  refine wpAny_Try_except ?_
  have bodyRun := (hb (fun cls d τ G => τ.length = X.N.length → wClauses X.K i D l cls d τ G) (X.pn ++ pins) (fun ev s₁ => wpAny (model X.prog X.w) X.A (noteFrame ev X.env) (fun _ s₂ => wpAny (model X.prog X.w) X.A (setFlight ev none) (fun _ s₃ =>
    wpAny (model X.prog X.w) X.A (handleBy ev X.env (h₀ :: hds)) (SP X pins D) X.xe s₃) X.xe s₂) X.xe s₁) (fun u sE thrown => ?_) PassesOwn.looking).run [] s σ H D (I.toTry _) want
  · refine wpAny_mono bodyRun (fun fl sB out => ?_) (fun ev sB z => z)
    cases fl with
    | ret u =>
      obtain ⟨v, τ, G, J, rv, q⟩ := out
      exact ⟨v, τ, G, J.ofTry okX, rv, q⟩
    | next =>
      obtain ⟨τ, G, J, q⟩ := out
      exact wpAny_execs_nil ⟨τ, G, J.ofTry okX, q⟩
    | brk =>
      obtain ⟨τ, G, J, q⟩ := out
      exact ⟨τ, G, J.ofTry okX, q⟩
    | cont =>
      obtain ⟨τ, G, J, q⟩ := out
      exact ⟨τ, G, J.ofTry okX, q⟩
  · obtain ⟨ea, gB, sI, pinsI, τ, G, cls, d, rfl, J0, keepB, upS, skyS, unk, osS, bareS, wish⟩ := thrown
    have J : Inv X pins τ G sI := J0.ofTry okX
    have skyX : Sky gB (X.env :: X.outer) ea (Zc cls d) X.env.locals sE.heap := by rw [← hs]; exact skyS
    show wpAny (model X.prog X.w) X.A (noteFrame (.ref ea) X.env) _ _ _
    refine Sky.land Zc.steady frX hf skyX fun hL flL upL => ?_
    have JL : Inv X pins τ G { sE with heap := hL } := J.landed keepB flL.1 (upS.trans upL) osS bareS
    obtain ⟨oL, fieldsL, isL, zL, dataL⟩ := flL.there
    have outside : ea ∉ frs (X.env :: X.outer) := fun hm => by
      obtain ⟨_, o2, e2, notF⟩ := (flL.2.2.1).mem hm
      rw [isL] at e2
      cases e2
      exact notF _ dataL
    have notLoc : ea ≠ X.env.locals := fun z => outside (List.mem_filterMap.mpr ⟨X.env, List.mem_cons_self, by rw [hf, z]⟩)
    have notFs : ea ∉ X.fs := fun hm => by
      obtain ⟨en, hen, q⟩ := List.mem_filterMap.mp hm
      exact outside (List.mem_filterMap.mpr ⟨en, List.mem_cons_of_mem _ hen, q⟩)
    have SL := JL.suite isL dataL unk notLoc notFs
    have loop : ∀ {hs' : List ExceptHandler} {l' : List (Value × Suite)}, Clauses X n hs' l' → wClauses X.K i D l' cls d τ G → wpAny (model X.prog X.w) X.A (handleBy (.ref ea) X.env hs') (SP X pins D) X.xe { sE with heap := hL } := by
      intro hs' l' cs
      induction cs with
      | none => exact fun z => z.elim
      | @more x c ts b₀ suite np pos' hs2 l2 hc hsu r ih =>
        intro wish2
        obtain ⟨yes, isYes, onYes, onNo⟩ := wish2
        refine wpAny_handleBy_cons (codeAny_handlers_test ?_) (by intro z; cases z)
        have typ : PySem.W.Looks (model X.prog X.w) hL (typeOf (.ref ea)) cls := fun A Q E st kp q => wpAny_typeOf_ref (kp _ _ isL) (by rw [zL.1]; exact q)
        have sub := PySem.W.exm_one (M := model X.prog X.w) (JL.kIn) typ isYes
        have named : ∀ {Q E : Value → Shared → Prop}, Q c { sE with heap := hL } → wpAny (model X.prog X.w) (X.A.mark (some (.ref ea))) (eval (.Name x np) X.env) Q E { sE with heap := hL } := fun {Q E} q => by
          obtain ⟨g1, g2, own | ⟨notOwn, boot, nn⟩⟩ := hc
          · exact ld_glob (X := X.suite ea ((ea, oL) :: (X.pn ++ pins))) SL g1 own q g2
          · exact ld_blt (X := X.suite ea ((ea, oL) :: (X.pn ++ pins))) SL g1 notOwn boot q nn g2
        refine named (sub.here ?_)
        cases yes with
        | false =>
          show wpAny _ X.A (handleBy (.ref ea) X.env hs2) _ _ _
          exact ih (onNo rfl)
        | true =>
          refine codeAny_handlers_suite_as ?_
          refine HandSPX.lands_againZ flL fun hM flM upM => ?_
          have JM : Inv X pins τ G { sE with heap := hM } := J.landed keepB flM.1 ((upS.trans upL).trans upM) osS bareS
          obtain ⟨oM, fieldsM, isM, zM, dataM⟩ := flM.there
          have SM' := JM.suite isM dataM unk notLoc notFs
          refine store_ok (X := X.suite ea ((ea, oM) :: (X.pn ++ pins))) (v := .ref ea) SM' hN hi (.inl hln) rfl (fun sN SN => ?_) (.inr hln)
          refine wpAny_mono ((hsu ea oM cls d (X.pn ++ pins) zM ⟨_, dataM⟩).run [] sN _ G _ SN (onYes rfl ea unk)) (fun fl sO out => ?_) (fun _ _ z => False.elim z)
          have leave : ∀ {τ2 : L2.St} {G2 : Hp} {Q : Shared → Prop}, Inv (X.suite ea ((ea, oM) :: (X.pn ++ pins))) [] τ2 G2 sO → (∀ sZ, Inv X pins (τ2.set i none) G2 sZ → Q sZ) →
              wpAny (model X.prog X.w) X.A (do bindName X.env n .none; unbindBehindTheSuite X.env n pos') (fun _ sZ => Q sZ) X.xe sO := fun {τ2 G2 Q} S2 hq => gone_ok (S2.unsuite okX) hN hi hln hq
          cases fl with
          | ret u =>
            obtain ⟨v2, τ2, G2, S2, r2, q2⟩ := out
            exact leave S2 fun sZ JZ => ⟨_, _, _, JZ, r2, q2⟩
          | next =>
            obtain ⟨τ2, G2, S2, q2⟩ := out
            exact leave S2 fun sZ JZ => ⟨_, _, JZ, q2⟩
          | brk =>
            obtain ⟨τ2, G2, S2, q2⟩ := out
            exact leave S2 fun sZ JZ => ⟨_, _, JZ, q2⟩
          | cont =>
            obtain ⟨τ2, G2, S2, q2⟩ := out
            exact leave S2 fun sZ JZ => ⟨_, _, JZ, q2⟩
    exact loop cl (wish J.len)
end
/-! ### def refused(ask): try: ask() / except C as e: return (word, e.value) / .. / return ('', None) -/
def chain (K : PySem.W.Frag) (Q : VK) : List (Addr × Str) → XK
  | [] => fun _ _ _ => False
  | p :: r => fun cls d H => ∃ b, PySem.W.exmOne K cls (.ref p.1) = some b ∧ (b = true → cls = .ref p.1 ∧ ∃ dd v, d = some dd ∧ H dd = some (.xd [(("value" : Str), v)]) ∧ ∀ q, H q = none → Q (.ref q) (upd H q (.tup [.str p.2, v]))) ∧ (b = false → chain K Q r cls d H)
def TTref (K : PySem.W.Frag) (ws : List (Addr × Str)) : (XK → Hp → VK → Prop) → Hp → VK → Prop := fun tl H Q => tl (chain K Q ws) H fun _ H1 => [V.str ("" : Str), V.non].length ≤ sizeLine ∧ ∀ q, H1 q = none → Q (.ref q) (upd H1 q (.tup [.str ("" : Str), .non]))
def tsOf (p : Addr × Str) : Suite := fun a cls d => tRet (tTup (tCons (tC (.str p.2)) (tCons (tXf a cls d p.1 ("value" : Str) (tVar 1)) tNil)))
theorem clauses_ok {K : PySem.W.Frag} {D : Ends} : ∀ {ws : List (Addr × Str)} {cls : Value} {d : Option Addr} {σ : L2.St} {H : Hp}, σ.length = 2 → chain K D.rt ws cls d H → wClauses K 1 D (ws.map fun p => (Value.ref p.1, tsOf p)) cls d σ H
  | [], _, _, _, _, _, h => h.elim
  | p :: r, cls, d, σ, H, hl, h => by
    obtain ⟨b, e1, e2, e3⟩ := h
    refine ⟨b, e1, fun hb a ha => ?_, fun hb => clauses_ok hl (e3 hb)⟩
    obtain ⟨ec, dd, v, ed, hx, q⟩ := e2 hb
    show tTup (tCons (tC (.str p.2)) (tCons (tXf a cls d p.1 ("value" : Str) (tVar 1)) tNil)) (σ.set 1 (some (.ref a))) H D.rt
    refine ⟨.ref a, by rw [List.getElem?_set_self (by omega)], rfl, ec, dd, _, v, ed, hx, by simp [List.lookup], ?_⟩
    exact ⟨by show 2 ≤ sizeLine; decide, fun q' hq => q q' hq⟩
theorem clause_su {Z : Cx} {C : Addr} {w : Str} {k j : Nat} {p1 p2 p3 p4 p5 : Pos} (T : XfC Z.K C) (no : PySem.W.findIn Z.K (.ref C) ("value" : Str) = some none) (hN : Z.N[1]? = some ("e" : Str)) (hv : Vis Z.env.scope "e") (a : Addr) (oe : Obj) (cls : Value) (d : Option Addr) (pn : List (Addr × Obj)) (hz : Zc cls d oe) (hf : ∃ vs, oe.data = .fields vs)
    (hs1 : starEach [.Constant (.str w) k p1, .Attribute (.Name "e" p2) "value" p3] (Z.suite a ((a, oe) :: pn)).env = (false, eval (.Constant (.str w) k p1) (Z.suite a ((a, oe) :: pn)).env) :: starEach [.Attribute (.Name "e" p2) "value" p3] (Z.suite a ((a, oe) :: pn)).env := by rfl)
    (hs2 : starEach [.Attribute (.Name "e" p2) "value" p3] (Z.suite a ((a, oe) :: pn)).env = (false, eval (.Attribute (.Name "e" p2) "value" p3) (Z.suite a ((a, oe) :: pn)).env) :: starEach [] (Z.suite a ((a, oe) :: pn)).env := by rfl) :
    PSs (Z.suite a ((a, oe) :: pn)) [.Return (some (.Tuple [.Constant (.str w) k p1, .Attribute (.Name "e" p2) "value" p3] j p4)) p5] (tsOf (C, w) a cls d) :=
  pss_one (ps_ret (pe_tup (pa_cons pe_str (pa_cons (pe_xf T no hz hf (pe_var (X := Z.suite a ((a, oe) :: pn)) hN hv)) pa_nil hs2) hs1)))
theorem refused_gives {X : Cx} {ws : List (Addr × Str)} {x q : Str} {sg : Scope} {g : Addr} {cdg : Value} {hds : List ExceptHandler} {h₀ : ExceptHandler} {k1 k2 k3 : Nat} {p1 p2 p3 p4 p5 p6 p7 p8 : Pos} (nd : (["ask", "e"] : List Str).Nodup) (le : sg.names.lookup ("e" : Str) = some NameKind.local)
    (cl : ∀ (s : Shared) (H : Hp), Clauses (cxOf C8.CX0 X.prog X.w X.K X.mg X.base ["ask", "e"] x sg g cdg X.A X.stack s H C8.E0).nox "e" (h₀ :: hds) (ws.map fun p => (Value.ref p.1, tsOf p))) :
    LamX.GivesTo X ["ask", "e"] x sg g cdg [.Try [.Expr (.Call (.Name "ask" p1) [] [] p2) p3] (h₀ :: hds) [] [] p4, .Return (some (.Tuple [.Constant (.str ("" : Str)) k1 p5, .Constant .none k2 p6] k3 p7)) p8] "ask" q (TTref X.K ws) := by
  intro f c' s H Q tl act hc h
  refine ⟨_, pss_cons (ps_try_clauses (X := (cxOf C8.CX0 X.prog X.w X.K X.mg X.base ["ask", "e"] x sg g cdg X.A X.stack s H C8.E0).nox) (i := 1) (n := "e")
      (tb := fun W D σ H => ∃ Ech : XK, (∀ cls d σ' H', Ech cls d H' → W cls d σ' H') ∧ σ[0]? = some (some (.ref f)) ∧ H c' = some (LamX.CodeO c' q) ∧ tl Ech H fun _ H1 => D.nx σ H1)
      rfl rfl nd rfl le (fun W pn xe tk _ => ?_) (cl s H)) (pss_one (ps_ret (pe_tup (pa_cons pe_str (pa_cons pe_non pa_nil))))), ?_⟩
  · refine ⟨fun pins s' σ H' D I h' => ?_⟩
    obtain ⟨Ech, hW, h1, h2, h3⟩ := h'
    exact (pss_one (ps_expr (pos := p3) (act W pn xe Ech p1 p2 tk hW))).run pins s' σ H' D I ⟨h1, h2, h3⟩
  · refine ⟨chain X.K Q ws, fun cls d σ' H' hch hl => clauses_ok hl hch, rfl, hc, ?_⟩
    refine h
end DL

set_option Elab.async false
set_option linter.all false
set_option maxRecDepth 100000
set_option maxHeartbeats 2000000
namespace DL
open PySem PySem.Spec L2
/-! ### x(lambda: body) as data -/
def dRef (ws : List (String × Str)) (fb : SEnv → M D) : SEnv → M D := fun δ R => match fb δ R with
  | .ok _ R' => .ok (.tup [.str ("" : Str), .non]) R'
  | .exn c d R' => match ws.lookup c with
    | some w => .ok (.tup [.str w, d]) R'
    | none => .stuck
  | .stuck => .stuck
theorem chain_of {K : PySem.W.Frag} {Γ : Ctx} {Q : VK} {c : String} {w : Str} {dx : Addr} {v : V} {H : Hp} (hx : H dx = some (.xd [(("value" : Str), v)])) (fin : ∀ q, H q = none → Q (.ref q) (upd H q (.tup [.str w, v]))) :
    ∀ {ws : List (String × Str)}, (∀ p ∈ ws, PySem.W.exmOne K (.ref (Γ.cls c)) (.ref (Γ.cls p.1)) = some (decide (c = p.1))) → ws.lookup c = some w → chain K Q (ws.map fun p => (Γ.cls p.1, p.2)) (.ref (Γ.cls c)) (some dx) H
  | [], _, h => by cases h
  | p :: r, hm, h => by
    refine ⟨decide (c = p.1), hm p List.mem_cons_self, fun hb => ?_, fun hb => ?_⟩
    · have e : c = p.1 := of_decide_eq_true hb
      refine ⟨by rw [e], dx, v, rfl, hx, ?_⟩
      have e2 : p.2 = w := by
        obtain ⟨p1, p2⟩ := p
        simp only at e
        subst e
        simpa [List.lookup] using h
      rw [e2]
      exact fin
    · have e : c ≠ p.1 := of_decide_eq_false hb
      refine chain_of hx fin (fun q hq => hm q (List.mem_cons_of_mem _ hq)) ?_
      obtain ⟨p1, p2⟩ := p
      have e2 : (c == p1) = false := by simpa using e
      simpa only [List.lookup, e2] using h
theorem ref_imp {Γ : Ctx} {W : WX} {K : PySem.W.Frag} {ws : List (String × Str)} {fb : SEnv → M D} (hm : ∀ c, (ws.lookup c).isSome = true → ∀ p ∈ ws, PySem.W.exmOne K (.ref (Γ.cls c)) (.ref (Γ.cls p.1)) = some (decide (c = p.1))) {σ : L2.St} {H : Hp} {Q : VK} (h : tD Γ W (dRef ws fb) σ H Q) :
    tLamD Γ (TTref K (ws.map fun p => (Γ.cls p.1, p.2))) (fun E => tD Γ (WD E) fb) σ H Q := by
  obtain ⟨H0, A, B, P, R, δ, S, h⟩ := h
  refine ⟨S.row.1.1, fun H1 aft => ?_⟩
  have m := aft.mv (B := B) S.row
  have S1 := S.move m
  refine ⟨H0, A, B, P, R, δ, S1, ?_⟩
  have hd : dRef ws fb δ R = (match fb δ R with
    | .ok _ R' => .ok (.tup [.str ("" : Str), .non]) R'
    | .exn c d R' => (match ws.lookup c with
      | some w => .ok (.tup [.str w, d]) R'
      | none => .stuck)
    | .stuck => .stuck) := rfl
  rw [hd] at h
  cases e : fb δ R with
  | ok d R' =>
    rw [e] at h
    intro b H2 m2 r2
    have S2 := S1.move m2
    exact ⟨by show 2 ≤ sizeLine; decide, fun q hq => h (.ref q) _ ((m.trans m2).trans (.grow m2.row (grow_new hq))) (Rep.new_tup S2.all hq (RepL_cons.mpr ⟨_, _, rfl, Rep.of_str, RepL.one Rep.of_non⟩))⟩
  | exn c d R' =>
    rw [e] at h
    cases el : ws.lookup c with
    | none => simp only [el] at h; exact h.elim
    | some w =>
      simp only [el] at h
      intro v dx H2 m2 hx r2
      have S2 := S1.move m2
      refine chain_of hx (fun q hq => ?_) (hm c (by rw [el]; rfl)) el
      exact h (.ref q) _ ((m.trans m2).trans (.grow m2.row (grow_new hq))) (Rep.new_tup S2.all hq (RepL_cons.mpr ⟨_, _, rfl, Rep.of_str, RepL.one r2⟩))
  | stuck => rw [e] at h; exact h.elim
/-! ### repr -/
mutual
def shwD : D → Bool
  | .non | .bl _ | .int _ | .str _ | .dic => true
  | .lst ds | .tup ds => shwDs ds
  | .web _ _ | .row _ | .fn _ => false
def shwDs : List D → Bool
  | [] => true
  | d :: ds => shwD d && shwDs ds
end
mutual
def noLst : D → Bool
  | .lst _ => false
  | .tup ds => noLsts ds
  | _ => true
def noLsts : List D → Bool
  | [] => true
  | d :: ds => noLst d && noLsts ds
end
section
variable {X : Cx} {pins : List (Addr × Obj)} {σ : L2.St} {H : Hp} {s : Shared} {Γ : Ctx} {A : List Addr}
mutual
theorem Rep.reads (I : Inv X pins σ H s) : ∀ (d : D) (v : V) (u : Value), Rep Γ (hide A H) d v → RelV v u → shwD d = true → ∃ as, Reads s.heap u (toPy d) as ∧ (noLst d = true → sysModules ∉ as)
  | .non, v, u, h, r, _ => by
    have := h.non_eq; subst this; cases r
    rw [toPy]; exact ⟨_, Reads.none, fun _ => by simp⟩
  | .bl b, v, u, h, r, _ => by
    have := h.bl_eq; subst this; cases r
    rw [toPy]; exact ⟨_, Reads.bool b, fun _ => by simp⟩
  | .int i, v, u, h, r, _ => by
    have := h.int_eq; subst this; obtain ⟨t, rfl⟩ := r
    rw [toPy]; exact ⟨_, Reads.int i t, fun _ => by simp⟩
  | .str x, v, u, h, r, _ => by
    have := h.str_eq; subst this; obtain ⟨t, rfl⟩ := r
    rw [toPy]; exact ⟨_, Reads.str x t, fun _ => by simp⟩
  | .lst ds, v, u, h, r, hs => by
    obtain ⟨a, xs, rfl, h1, h2, _⟩ := h.lst_at
    cases r
    obtain ⟨its, rv, ⟨o, n, ho, hc, _, hd⟩, _⟩ := I.list (SqL.of h1)
    obtain ⟨as, hr, _⟩ := RepL.reads I ds xs its h2 rv (by rw [shwD] at hs; exact hs)
    rw [toPy]
    exact ⟨_, Reads.list ho hc hd hr, fun z => by rw [noLst] at z; cases z⟩
  | .tup ds, v, u, h, r, hs => by
    obtain ⟨a, xs, rfl, h1, h2, _⟩ := h.tup_at
    cases r
    obtain ⟨its, rv, ⟨o, ho, hc, n, hd⟩, _⟩ := I.tuple (SqT.of h1)
    obtain ⟨as, hr, hn⟩ := RepL.reads I ds xs its h2 rv (by rw [shwD] at hs; exact hs)
    rw [toPy]
    exact ⟨_, Reads.tuple ho hc hd hr, fun z => hn (by rw [noLst] at z; exact z)⟩
  | .dic, v, u, h, r, _ => by
    rw [Rep] at h
    obtain ⟨a, rfl, h1⟩ := h
    cases r
    obtain ⟨_, e1, vs, kv, ob, es, ep, ho, ex, hd, _, prs, _⟩ := dk_of I.hok (hide_some h1).2
    cases kv
    have ee : es = #[] := by
      obtain ⟨l⟩ := es
      cases prs
      rfl
    subst ee
    rw [toPy]
    refine ⟨_, Reads.dict (kvs := []) ho ex.1 hd .nil .nil, fun _ m => ?_⟩
    have e2 : sysModules = a := by simpa using m
    rw [e2] at e1
    simp at e1
  | .web _ _, _, _, _, _, hs => by rw [shwD] at hs; cases hs
  | .row _, _, _, _, _, hs => by rw [shwD] at hs; cases hs
  | .fn _, _, _, _, _, hs => by rw [shwD] at hs; cases hs
theorem RepL.reads (I : Inv X pins σ H s) : ∀ (ds : List D) (vs : List V) (us : List Value), RepL Γ (hide A H) ds vs → Vals vs us → shwDs ds = true → ∃ as, ReadsAll s.heap us (toPys ds) as ∧ (noLsts ds = true → sysModules ∉ as)
  | [], vs, us, h, r, _ => by
    rw [RepL_nil] at h; subst h; cases r
    rw [toPys]; exact ⟨_, ReadsAll.nil, fun _ => by simp⟩
  | d :: ds, vs, us, h, r, hs => by
    rw [RepL_cons] at h
    obtain ⟨v, ws, rfl, h1, h2⟩ := h
    rw [shwDs, Bool.and_eq_true] at hs
    cases r with
    | cons r1 r2 =>
      obtain ⟨as, q1, n1⟩ := Rep.reads I d _ _ h1 r1 hs.1
      obtain ⟨bs, q2, n2⟩ := RepL.reads I ds _ _ h2 r2 hs.2
      rw [toPys]
      refine ⟨_, ReadsAll.cons q1 q2, fun z => ?_⟩
      rw [noLsts, Bool.and_eq_true] at z
      intro m
      rcases List.mem_append.mp m with m | m
      · exact n1 z.1 m
      · exact n2 z.2 m
end
end
def fRepr : List D → Option D
  | [.tup ds] => if shwDs ds = true ∧ (toPy (.tup ds)).showable = true ∧ (toPy (.tup ds)).shown.length ≤ sizeLine ∧ (toPy (.tup ds)).depth ≤ 60 ∧ ((toPy (.tup ds)).hasDict = true → noLsts ds = true) then some (.str (toPy (.tup ds)).shown) else none
  | _ => none
section
variable {Γ : Ctx} {W : WX} {X : Cx} {e : Expr} {fs : SEnv → M (List D)} {pos p : Pos}
theorem pd_repr (hu : X.A.units + 64 < cLine) (hgd : X.A.guards = some []) (hm : X.mg "repr" = none) (ha : PA X [e] (tL Γ W fs)) (hg : Gl X "repr" := by rfl) (he : starEach [e] X.env = (false, eval e X.env) :: starEach [] X.env := by rfl) (hpl : (backTo pos (starEach [] X.env)).any (·.1) = false := by rfl) :
    PE X (.Call (.Name "repr" p) [e] [] pos) (tD Γ W (dCall fRepr fs)) := by
  have rule : CallR X (.builtin "repr") (fun xs H Q => ∃ (A : List Addr) (v : V) (ds : List D), xs = [v] ∧ Rep Γ (hide A H) (.tup ds) v ∧ shwDs ds = true ∧ (toPy (.tup ds)).showable = true ∧ (toPy (.tup ds)).shown.length ≤ sizeLine ∧ (toPy (.tup ds)).depth ≤ 60 ∧ ((toPy (.tup ds)).hasDict = true → noLsts ds = true) ∧ Q (.str (toPy (.tup ds)).shown) H) := by
    intro pins s σ H xs us Q I r h
    obtain ⟨A, v, ds, rfl, h1, h2, h3, h4, h5, h6, q⟩ := h
    obtain ⟨u, rfl, ru⟩ := vals1 r
    obtain ⟨as, rd, hn⟩ := Rep.reads I (.tup ds) v u h1 ru (by rw [shwD]; exact h2)
    obtain ⟨a, xs, rfl, _⟩ := h1.tup_at
    cases ru
    exact repr_of_reads' rd h3 (fun z => hn (by rw [noLst]; exact h6 z)) hgd (by omega) (fun _ _ z => z) (fun h' u tk kp => ⟨.str _, H, I.kept kp, ⟨_, rfl⟩, q⟩) h4
  refine (pe_callB rule hg hm (by decide +kernel) ha (by decide) (by decide) he hpl).imp fun σ H Q h => ?_
  obtain ⟨H0, A, B, P, R, δ, S, h⟩ := h
  refine ⟨H0, A, B, P, R, δ, S, go S h fun xs vs R1 H1 m1 r1 S1 h1 => ?_⟩
  obtain ⟨d, e, q⟩ := lift_out S1 h1
  unfold fRepr at e
  split at e
  · rename_i ds
    split at e
    · rename_i hc
      cases e
      obtain ⟨v, rfl, r2⟩ := r1.one_inv
      obtain ⟨c1, c2, c3, c4, c5⟩ := hc
      exact ⟨_, v, ds, rfl, r2, c1, c2, c3, c4, c5, q _ H1 (fun _ _ z => z) Rep.of_str⟩
    · cases e
  · cases e
end
/-! ### the end: the law is called; its frame is known -/
section
open PyProof.Rows
/-- the ground that the law is called on -/
structure Grd (K : PySem.W.Frag) (mg mb : Str → Option Value) (cs : List (Addr × Addr)) (st : Shared) : Prop where
  kin : K.In st.heap
  glob : st.heap.Ns mainGlobals mg
  bns : st.heap.Ns builtinsNs mb
  boots : ∀ x : Str, x ≠ "__name__" → mb x = bootBuiltins x
  lim : st.heap.NoLimit
  noGen : st.gens = #[]
  tabE : ∀ p ∈ cs, st.heap.get? p.2 = some { cls := .none, data := .fields #[] }
  tabK : ∀ p ∈ cs, K.lookup p.2 = none
  codes : ∀ p ∈ cs, PySem.W.CodeHd st.heap p.1 p.2
  bMain : ∃ (bm : Addr) (ob : Obj), mg "__builtins__" = some (.ref bm) ∧ bm ≠ builtinsNs ∧ st.heap.get? bm = some ob ∧ ob.cls = .type "module" ∧ ob.dict = some builtinsNs ∧ ob.data = .plain
abbrev tabsOf (cs : List (Addr × Addr)) : List Addr := cs.map (·.2)
/-- what the first abstract heap is: the script, empty tables -/
structure H0Ok (P : Program) (w : World) (K : PySem.W.Frag) (cs : List (Addr × Addr)) (st : Shared) (a : Addr) (ns : List Int) (H : Hp) : Prop where
  tb : ∀ p ∈ cs, H p.2 = some (.tbl #[])
  shape : ∀ b, H b = none ∨ b ∈ tabsOf cs ∨ ∃ o xs, H b = some (.frz o (.lst xs))
  scr : SqL K H a (ns.map V.int)
  ok : HOk P w H st.heap
  only : ∀ b, H b ≠ none → b = a ∨ b ∈ tabsOf cs
  own : H a ≠ none → K.lookup a = none
variable {P : Program} {w : World} {K : PySem.W.Frag} {mg mb : Str → Option Value} {fa a : Addr} {cs : List (Addr × Addr)} {st : Shared} {vs : List Value} {ns : List Int} {H : Hp}
theorem Grd.at_tab (G : Grd K mg mb cs st) {b : Addr} (hb : b ∈ tabsOf cs) : st.heap.get? b = some { cls := .none, data := .fields #[] } := by
  obtain ⟨p, hp, rfl⟩ := List.mem_map.mp hb
  exact G.tabE p hp
theorem mem_tabs {p : Addr × Addr} (hp : p ∈ cs) : p.2 ∈ tabsOf cs := List.mem_map.mpr ⟨p, hp, rfl⟩
/-- an object that is neither a list nor an empty table stands in the base -/
theorem Grd.base (G : Grd K mg mb cs st) (hscr : st.heap.get? a = some { cls := .type "list", data := .seq vs.toArray }) (h : H0Ok P w K cs st a ns H) {b : Addr} {o : Obj} (e : st.heap.get? b = some o) (n1 : ∀ us k, o.data ≠ .seq us k) (n2 : o.data ≠ .fields #[]) : (hidT st.heap H).get? b = some o := by
  refine hidT_get e ?_
  cases q : H b with
  | none => rfl
  | some u =>
    have tracked : H b ≠ none := by rw [q]; exact fun z => by cases z
    rcases h.only b tracked with z | z
    · rw [z, hscr] at e
      cases e
      exact absurd rfl (n1 _ _)
    · rw [G.at_tab z] at e
      cases e
      exact absurd rfl n2
theorem Grd.nsB (G : Grd K mg mb cs st) (hscr : st.heap.get? a = some { cls := .type "list", data := .seq vs.toArray }) (h : H0Ok P w K cs st a ns H) {b : Addr} {m : Str → Option Value} (x : st.heap.Ns b m) : (hidT st.heap H).Ns b m := by
  obtain ⟨o, es, ep, e, d, r⟩ := x
  exact ⟨o, es, ep, G.base hscr h e (fun us k z => by rw [d] at z; cases z) (fun z => by rw [d] at z; cases z), d, r⟩
theorem Grd.kbase (G : Grd K mg mb cs st) (h : H0Ok P w K cs st a ns H) : K.In (hidT st.heap H) := fun b o e => by
  refine hidT_get (G.kin b o e) ?_
  cases q : H b with
  | none => rfl
  | some u =>
    have tracked : H b ≠ none := by rw [q]; exact fun z => by cases z
    rcases h.only b tracked with z | z
    · rw [z] at e tracked
      rw [h.own tracked] at e
      cases e
    · obtain ⟨p, hp, rfl⟩ := List.mem_map.mp z
      rw [G.tabK p hp] at e
      cases e
theorem Grd.tabB (G : Grd K mg mb cs st) (hscr : st.heap.get? a = some { cls := .type "list", data := .seq vs.toArray }) (h : H0Ok P w K cs st a ns H) {p : Addr × Addr} (hp : p ∈ cs) : LamX.TabB (hidT st.heap H) mg p.1 p.2 := by
  have isE := G.tabE p hp
  refine ⟨?_, ?_, ?_⟩
  · obtain ⟨o, us, file, tf, flags, tg, inF, text, tt, e1, r1, r2, r3, rest⟩ := G.codes p hp
    refine ⟨o, us, file, tf, flags, tg, inF, text, tt, G.base hscr h e1 (fun xs k z => by rw [r2] at z; cases z) (fun z => ?_), r1, r2, r3, rest⟩
    rw [r2] at z
    cases z
    simp at r3
  · obtain ⟨bm, ob, b1, b2, b3, b4, b5, b6⟩ := G.bMain
    refine ⟨bm, ob, b1, b2, fun z => ?_, fun z => ?_, G.base hscr h b3 (fun xs k z => by rw [b6] at z; cases z) (fun z => by rw [b6] at z; cases z), b4, b5, b6⟩
    · obtain ⟨o, es, ep, e, hd, _⟩ := G.glob
      rw [z, e] at b3
      cases b3
      rw [hd] at b6
      cases b6
    · rw [z, isE] at b3
      cases b3
      cases b6
  · intro z
    obtain ⟨o, es, ep, e, hd, _⟩ := G.glob
    rw [z, isE] at e
    cases e
    cases hd
abbrev EndR (st : Shared) : Result → Shared → Prop := fun r s' => r = .ok (.ret (.bool true)) ∧ OldK st.heap s'.heap ∧ s'.os = st.os ∧ AllBare s'.gens
theorem Grd.go (G : Grd K mg mb cs st) (hscr : st.heap.get? a = some { cls := .type "list", data := .seq vs.toArray }) (h : H0Ok P w K cs st a ns H)
    (core : ∀ base : Heap, K.In base → base.Ns mainGlobals mg → (∀ p ∈ cs, LamX.TabB base mg p.1 p.2) → Env0 P w K mg base callerA [] st H → codeAny (model P w) callerA (.call (.ref fa) ⟨[.ref a], []⟩) (CR (L2.CX P w) [] P w H st (fun v _ => v = .bl true) fun _ _ _ => False) st) :
    codeAny (model P w) callerA (.call (.ref fa) ⟨[.ref a], []⟩) (EndR st) st := by
  have modB : L2.Mod K mg (hidT st.heap H) := ⟨G.kbase h, G.nsB hscr h G.glob, ⟨mb, G.nsB hscr h G.bns, G.boots⟩, by
    obtain ⟨mc, h1, h2⟩ := G.lim
    exact ⟨mc, G.nsB hscr h h1, h2⟩⟩
  have env : Env0 P w K mg (hidT st.heap H) callerA [] st H := ⟨rfl, modB, fun b o e => of_hidT e, Nat.le_of_eq (hidT_size _ _), trivial, fun b hb => (by cases hb), h.ok, .of_eq G.noGen⟩
  refine codeAny_mono (core _ (G.kbase h) (G.nsB hscr h G.glob) (fun p hp => G.tabB hscr h hp) env) fun r s' got => ?_
  cases r with
  | error ev =>
    obtain ⟨_, _, _, _, _, _, _, _, _, _, _, _, z⟩ := got
    exact z.elim
  | ok fl =>
    cases fl with
    | next => exact False.elim got
    | brk => exact False.elim got
    | cont => exact False.elim got
    | ret u =>
      obtain ⟨v, H', os, bare, un, ok', rv, isT⟩ := got
      have isT : v = .bl true := isT
      subst isT
      have eu : u = Value.bool true := rv
      subst eu
      have stays : ∀ {b : Addr} {o : Obj}, b ∉ tabsOf cs → st.heap.get? b = some o → s'.heap.get? b = some o := fun {b o} nb e => by
        cases q : H b with
        | none => exact un.keep b o e q (fun z => by cases z) (fun z => by cases z)
        | some x =>
          rcases h.shape b with z | z | ⟨ob, xs, z⟩
          · rw [q] at z
            cases z
          · exact absurd z nb
          · obtain ⟨before, _⟩ := h.ok b _ z
            obtain ⟨behind, _⟩ := ok' b _ (un.frzs b ob _ z)
            rw [e] at before
            cases before
            exact behind
      have table : ∀ {b : Addr}, b ∈ tabsOf cs → ∃ more : Array Value, s'.heap.get? b = some { cls := .none, data := .fields more } := fun {b} hb => by
        obtain ⟨p, hp, rfl⟩ := List.mem_map.mp hb
        obtain ⟨more, z⟩ := un.tbls p.2 #[] (h.tb p hp)
        exact ⟨_, ok' p.2 _ z⟩
      refine ⟨rfl, ⟨fun b o e => ?_, fun b o e => ?_⟩, os, bare⟩
      · by_cases hb : b ∈ tabsOf cs
        · obtain ⟨more, hm⟩ := table hb
          obtain ⟨p, hp, rfl⟩ := List.mem_map.mp hb
          have e2 := G.tabE p hp
          rw [e2] at e
          cases e
          exact .inr (.inl ⟨((G.codes p hp).tab e2).isCodeTable, rfl, #[], more, rfl, by rw [Array.empty_append]; exact hm⟩)
        · exact .inl (stays hb e)
      · by_cases hb : b ∈ tabsOf cs
        · obtain ⟨more, hm⟩ := table hb
          exact ⟨_, hm⟩
        · exact ⟨o, stays hb e⟩
theorem own_end (G : Grd K mg mb cs st) (hscr : st.heap.get? a = some { cls := .type "list", data := .seq vs.toArray }) (are : IntsAre vs ns) (len : ns.length ≤ sizeLine)
    (core : ∀ (base : Heap) (H : Hp), K.In base → base.Ns mainGlobals mg → (∀ p ∈ cs, LamX.TabB base mg p.1 p.2) → Env0 P w K mg base callerA [] st H → (∀ p ∈ cs, H p.2 = some (.tbl #[])) → SqL K H a (ns.map V.int) →
      codeAny (model P w) callerA (.call (.ref fa) ⟨[.ref a], []⟩) (CR (L2.CX P w) [] P w H st (fun v _ => v = .bl true) fun _ _ _ => False) st) :
    codeAny (model P w) callerA (.call (.ref fa) ⟨[.ref a], []⟩) (EndR st) st := by
  have vals := vals_ints are
  have notTab : a ∉ tabsOf cs := fun z => by
    have e := G.at_tab z
    rw [hscr] at e
    have e2 : Data.seq vs.toArray _ = Data.fields #[] := congrArg Obj.data (Option.some.inj e)
    cases e2
  have fin : ∀ H : Hp, H0Ok P w K cs st a ns H → codeAny (model P w) callerA (.call (.ref fa) ⟨[.ref a], []⟩) (EndR st) st := fun H h => G.go hscr h fun base k1 k2 k3 k4 => core base H k1 k2 k3 k4 h.tb h.scr
  cases known : K.lookup a with
  | some o =>
    have e := G.kin a o known
    rw [hscr] at e
    cases e
    let H1 : Hp := fun b => if b ∈ tabsOf cs then some (.tbl #[]) else none
    have inT : ∀ {b}, b ∈ tabsOf cs → H1 b = some (.tbl #[]) := fun h => if_pos h
    have outT : ∀ {b}, b ∉ tabsOf cs → H1 b = none := fun h => if_neg h
    refine fin H1 ⟨fun p hp => inT (mem_tabs hp), fun b => ?_, .inr ⟨_, vs.toArray, _, known, rfl, rfl, rfl, by rw [List.size_toArray, are.length]; exact len, by simpa using vals⟩, fun b u z => ?_, fun b z => ?_, fun z => absurd (outT notTab) z⟩
    · by_cases hb : b ∈ tabsOf cs
      · exact .inr (.inl hb)
      · exact .inl (outT hb)
    · by_cases hb : b ∈ tabsOf cs
      · rw [inT hb] at z
        cases z
        exact G.at_tab hb
      · rw [outT hb] at z
        cases z
    · by_cases hb : b ∈ tabsOf cs
      · exact .inr hb
      · exact absurd (outT hb) z
  | none =>
    let H1 : Hp := fun b => if b = a then some (.frz { cls := .type "list", data := .seq vs.toArray } (.lst (ns.map V.int))) else if b ∈ tabsOf cs then some (.tbl #[]) else none
    have atA : H1 a = some (.frz { cls := .type "list", data := .seq vs.toArray } (.lst (ns.map V.int))) := if_pos rfl
    have inT : ∀ {b}, b ∈ tabsOf cs → H1 b = some (.tbl #[]) := fun {b} h => (if_neg (fun z => notTab (by rw [← z]; exact h))).trans (if_pos h)
    have outT : ∀ {b}, b ≠ a → b ∉ tabsOf cs → H1 b = none := fun h1 h2 => (if_neg h1).trans (if_neg h2)
    refine fin H1 ⟨fun p hp => inT (mem_tabs hp), fun b => ?_, .inl (.inr ⟨_, atA⟩), fun b u z => ?_, fun b z => ?_, fun _ => known⟩
    · by_cases hb : b ∈ tabsOf cs
      · exact .inr (.inl hb)
      · by_cases ha : b = a
        · rw [ha]; exact .inr (.inr ⟨_, _, atA⟩)
        · exact .inl (outT ha hb)
    · by_cases ha : b = a
      · rw [ha, atA] at z
        cases z
        rw [ha]
        exact ⟨hscr, by rw [List.length_map]; exact len, vs, _, vals, hscr⟩
      · by_cases hb : b ∈ tabsOf cs
        · rw [inT hb] at z
          cases z
          exact G.at_tab hb
        · rw [outT ha hb] at z
          cases z
    · by_cases ha : b = a
      · exact .inl ha
      · by_cases hb : b ∈ tabsOf cs
        · exact .inr hb
        · exact absurd (outT ha hb) z
end
end DL

set_option Elab.async false
set_option linter.all false
set_option maxRecDepth 100000
set_option maxHeartbeats 2000000
namespace DL
open PySem PySem.Spec L2
/-! ### defs as values -/
section
variable {Γ : Ctx} {W : WX} {X : Cx} {e : Expr} {es : List Expr} {fs : SEnv → M (List D)} {pos p : Pos}
theorem pd_fnG {x : String} (hl : Γ.lam x = none) (hm : X.mg (Str.ofString x) = some (.ref (Γ.fnA x))) (hg : Gl X (Str.ofString x) := by rfl) (hd : (Str.ofString x == ("__debug__" : Str)) = false := by decide) : PE X (.Name (Str.ofString x) pos) (tD Γ W fun _ => pure (.fn x)) :=
  pd_fn hl (pe_glob (v := .ref (Γ.fnA x)) hg hm rfl hd)
/-- a def that may be held by a name: x, how many arguments, what it gives -/
structure Hld (P : Program) (w : World) (K : PySem.W.Frag) (mg : Str → Option Value) (base : Heap) (Γ : Ctx) (k : Nat) (x : String) (n : Nat) (F : List D → M D) : Prop where
  nl : Γ.lam x = none
  ex : ∃ (fd : FuncData) (ps : List Str), FnOk P w K mg base (L2.CX P w) k (Γ.fnA x) fd ps (spD Γ n F) ∧ PySem.W.keepIn K (.ref (Γ.fnA x)) = true ∧ L2.Binds K fd ps []
theorem Cal.hld {P : Program} {w : World} {K : PySem.W.Frag} {mg : Str → Option Value} {base : Heap} {k j n : Nat} {x : String} {F : List D → M D} (C : Cal P w K mg base Γ k (Str.ofString x) n F) (hl : Γ.lam x = none) (g : mg (Str.ofString x) = some (.ref (Γ.fnA x))) (hj : k ≤ j := by decide) : Hld P w K mg base Γ j x n F := by
  obtain ⟨f, fd, ps, ok, gx, kp, b⟩ := C.ex
  rw [g] at gx
  have e : Γ.fnA x = f := by injection (Option.some.inj gx)
  subst e
  exact ⟨hl, fd, ps, ok.mono hj, kp, b⟩
abbrev FTab := List (String × Nat × (List D → M D))
def dHeld (i : Nat) (tb : FTab) (fs : SEnv → M (List D)) : SEnv → M D := fun δ => match δ[i]? with
  | some (.dat (.fn x)) => (match tb.lookup x with
    | some q => dFn q.1 q.2 fs δ
    | none => M.stuck)
  | _ => M.stuck
theorem pd_held {k i : Nat} {x : Str} {tb : FTab} {E : XK} (T : ∀ (y : String) (q : Nat × (List D → M D)), tb.lookup y = some q → Hld X.prog X.w X.K X.mg X.base Γ k y q.1 q.2) (hr : Room k X.A) (tk : Takes X (WD E)) (hN : X.N[i]? = some x) (hv : Vis X.env.scope x) (ha : PA X (e :: es) (tL Γ (WD E) fs))
    (hdb : (x == ("__debug__" : Str)) = false := by decide) (hcd : (x == ("__classdict__" : Str)) = false := by decide) (he : starEach (e :: es) X.env = (false, eval e X.env) :: starEach es X.env := by rfl) (hpl : (backTo pos (starEach es X.env)).any (·.1) = false := by rfl) :
    PE X (.Call (.Name x p) (e :: es) [] pos) (tD Γ (WD E) (dHeld i tb fs)) := by
  refine ⟨fun pins s σ H Q I h => ?_⟩
  obtain ⟨H0, A, B, P, R, δ, S, h⟩ := h
  cases e1 : δ[i]? with
  | none => unfold dHeld at h; rw [e1] at h; exact h.elim
  | some sd =>
  cases sd with
  | none => unfold dHeld at h; rw [e1] at h; exact h.elim
  | own _ => unfold dHeld at h; rw [e1] at h; exact h.elim
  | dat d =>
  cases d with
  | fn y =>
    cases eq : tb.lookup y with
    | none => unfold dHeld at h; rw [e1] at h; simp only [eq] at h; exact h.elim
    | some q =>
      have h : (dFn q.1 q.2 fs δ R).run (KK Γ B A P (Rep Γ) R H Q) (KE Γ (WD E) B A P σ R H) := by
        have e2 : dHeld i tb fs δ = dFn q.1 q.2 fs δ := by
          unfold dHeld
          rw [e1]
          simp only [eq]
        rw [← e2]
        exact h
      obtain ⟨v, g1, r1⟩ := S.slots.get e1
      rw [Rep] at r1
      unfold FnR at r1
      rw [(T y q eq).nl] at r1
      simp only at r1
      subst r1
      obtain ⟨fd, ps, ok, kp, b⟩ := (T y q eq).ex
      have hx : Passes (L2.CX X.prog X.w) X E := fun pins σ H s e s' I c => passAt tk σ pins H s e s' I c
      refine (pe_callL (i := i) (dvs := []) (E := E) ok hr hN hv kp b .nil hx ha hdb hcd he hpl).run pins s σ H Q I ⟨g1, ?_⟩
      have z := fn_imp (W := WD E) (n := q.1) (F := q.2) (fs := fs) ⟨H0, A, B, P, R, δ, S, h⟩
      have e0 : (fun (vs : List V) (H1 : Hp) => spD Γ q.1 q.2 (vs ++ []) H1 Q E) = fun vs H1 => spD Γ q.1 q.2 vs H1 Q (WE (WD E) σ) := by
        funext vs H1
        rw [List.append_nil]
      show tL Γ (WD E) fs σ H (fun vs H1 => spD Γ q.1 q.2 (vs ++ []) H1 Q E)
      rw [e0]
      exact z
  | _ => unfold dHeld at h; rw [e1] at h; exact h.elim
/-! ### the body of a lambda -/
theorem takes_lam {A : Around} {outer : List Env} {s : Shared} {H : Hp} {E : XK} {scope : Scope} {f c' : Addr} : Takes (LamX.lamCx X A outer s H E scope f c') (WD E) := takes_of rfl rfl rfl rfl
theorem pd_ref {k : Nat} {st : Stmt} {ws : List (String × Str)} {fb : SEnv → M D} {cd tab : Addr} {params : Arguments} {body : Expr} {scope : Scope} {lpos : Pos} (FI : FnI X.K X.mg "_law_refused" st) (Sg : FnScope ["ask", "e"] ["ask"] (defScope st)) (va : Vis (defScope st) "ask")
    (hb : ∀ {g : Addr} {gd : FuncData}, FunD X.K "_law_refused" "_law_refused" (defArgs st) (defBody st) (defScope st) [] [] g gd → L2.Binds X.K gd ["ask"] [])
    (gives : ∀ g cdg, LamX.GivesTo X ["ask", "e"] "_law_refused" (defScope st) g cdg (defBody st) "ask" (lamN X) (TTref X.K (ws.map fun p => (Γ.cls p.1, p.2))))
    (hex : ∀ c, (ws.lookup c).isSome = true → ∀ p ∈ ws, PySem.W.exmOne X.K (.ref (Γ.cls c)) (.ref (Γ.cls p.1)) = some (decide (c = p.1)))
    (TB : LamX.TabB X.base X.mg cd tab) (hcd : X.env.code = .ref cd) (hin : (tab, lamN X) ∈ Γ.tabs) (honly : ∀ p ∈ Γ.tabs, p.1 = tab → p.2 = lamN X) (hr : Room (k + 2) X.A) (L : LamX.LamS X.env.scope scope)
    (hbody : ∀ (A : Around) (outer : List Env) (s : Shared) (H : Hp) (E : XK) (f c' : Addr), Room k (A.deeper (LamX.lamEnv X scope s.heap.objs.size f c')) → PE (LamX.lamCx X A outer s H E scope f c') body (tD Γ (WD E) fb))
    (hdef : defaultsOf params X.env = ([], []) := by rfl) (hbind : ∀ (q : Str) (cl : List (Str × Addr)) (pm cv ctv : Value), bindArgs (PySem.W.kla_fn "<lambda>" q params body scope cl pm cv ctv) ⟨[], []⟩ = pure [] := by intros; rfl) (hg : Gl X "_law_refused" := by rfl) :
    PE X (.Call (.Name "_law_refused" p) [.Lambda params body scope lpos] [] pos) (tD Γ W (dRef ws fb)) := by
  obtain ⟨g, gd, FD, gx⟩ := FI.ex
  exact (pe_lamD hg gx FD Sg (hb FD) rfl va (gives g) TB hcd hin honly hr L hdef hbind hbody).imp fun _ _ _ h => ref_imp hex h
end
/-! ### the law: row = [script, 0, 313, 0], then the rest -/
def startLaw (N : List Str) (i : Nat) (q : Addr) : SEnv := (List.replicate N.length SD.none).set i (.dat (.row q))
theorem slots_none {Γ : Ctx} {Hh H : Hp} : ∀ {σ : L2.St} {n : Nat}, σ.length = n → SlotsR Γ Hh H σ (List.replicate n SD.none) []
  | [], _, h => by subst h; exact .nil
  | x :: σ, _, h => by subst h; exact .none (slots_none rfl)
theorem ds_law {X : Cx} {Γ : Ctx} {N : List Str} {i : Nat} {rest : List Stmt} {sem : SM} {k1 k2 k3 : Nat} {p0 p1 p2 p3 p4 p5 p6 : Pos} (hN : X.N.Nodup) (eN : X.N = N) (h0 : X.N[0]? = some ("script" : Str)) (hi : X.N[i]? = some ("row" : Str)) (v0 : Vis X.env.scope "script") (hx : Loc X.env.scope "row")
    (hf : X.fn "row" = true ∨ X.env.scope.names.lookup ("row" : Str) = some .local) (hr : PSs X rest (tS Γ (fun _ _ _ _ => False) sem)) (hs : swapsWith (.List [.Name "script" p1, .Constant (.int 0) k1 p2, .Constant (.int 313) k2 p3, .Constant (.int 0) k3 p4] p5) (some (.Name "row" p0)) p6.line X.env = pure false := by rfl)
    (e1 : starEach [.Name "script" p1, .Constant (.int 0) k1 p2, .Constant (.int 313) k2 p3, .Constant (.int 0) k3 p4] X.env = (false, eval (.Name "script" p1) X.env) :: starEach [.Constant (.int 0) k1 p2, .Constant (.int 313) k2 p3, .Constant (.int 0) k3 p4] X.env := by rfl)
    (e2 : starEach [.Constant (.int 0) k1 p2, .Constant (.int 313) k2 p3, .Constant (.int 0) k3 p4] X.env = (false, eval (.Constant (.int 0) k1 p2) X.env) :: starEach [.Constant (.int 313) k2 p3, .Constant (.int 0) k3 p4] X.env := by rfl)
    (e3 : starEach [.Constant (.int 313) k2 p3, .Constant (.int 0) k3 p4] X.env = (false, eval (.Constant (.int 313) k2 p3) X.env) :: starEach [.Constant (.int 0) k3 p4] X.env := by rfl) (e4 : starEach [.Constant (.int 0) k3 p4] X.env = (false, eval (.Constant (.int 0) k3 p4) X.env) :: starEach [] X.env := by rfl)
    {vs : List V} {H : Hp} (hvs : vs = [.ref Γ.scr]) (htab : LamX.Tabs Γ.tabs H) (hown : Γ.own = []) (hscr : SqL Γ.K H Γ.scr (Γ.cells.map V.int)) (ok : ∀ q, ∃ R', sem (startLaw N i q) (some ⟨q, 0, 313, 0⟩) = .rt (.bl true) R') :
    ∃ t, PSs X (.Assign [.Name "row" p0] (.List [.Name "script" p1, .Constant (.int 0) k1 p2, .Constant (.int 313) k2 p3, .Constant (.int 0) k3 p4] p5) p6 :: rest) t ∧ t { nx := fun _ H' => V.non = .bl true, rt := fun v _ => v = .bl true } (L2.start N vs) H := by
  refine ⟨_, pss_cons (ps_set hN hi hx (pe_lst (pa_cons (pe_var h0 v0) (pa_cons pe_int (pa_cons pe_int (pa_cons pe_int pa_nil e4) e3) e2) e1)) hs hf) hr, ?_⟩
  subst hvs eN
  have lenN : 0 < X.N.length := by
    rw [List.getElem?_eq_some_iff] at h0
    obtain ⟨h, _⟩ := h0
    exact h
  have st0 : (L2.start X.N [V.ref Γ.scr])[0]? = some (some (.ref Γ.scr)) := rfl
  refine ⟨.ref Γ.scr, st0, by show 4 ≤ sizeLine; decide, fun q hq => ?_⟩
  obtain ⟨R', fin⟩ := ok q
  have gr : ∀ b o, H b = some o → upd H q (.lst [.ref Γ.scr, .int 0, .int 313, .int 0]) b = some o := fun b o e => by rw [upd_ne (ne_of_none e hq)]; exact e
  have sl : (L2.start X.N [V.ref Γ.scr]).length = X.N.length := by
    unfold L2.start
    simp
    omega
  have nsq : Γ.scr ≠ q ∨ Γ.scr = q := by by_cases z : Γ.scr = q <;> simp [z]
  have hsc2 : SqL Γ.K (upd H q (.lst [.ref Γ.scr, .int 0, .int 313, .int 0])) Γ.scr (Γ.cells.map V.int) := SqL.grow gr hscr
  have nscr : Γ.scr ∈ [q] → ScrK Γ := fun z => by
    have e : Γ.scr = q := by simpa using z
    rcases hscr with (h | ⟨o, h⟩) | h
    · rw [e, hq] at h; cases h
    · rw [e, hq] at h; cases h
    · exact .inr h
  have S : RepS Γ (upd H q (.lst [.ref Γ.scr, .int 0, .int 313, .int 0])) [q] [q] [] (some ⟨q, 0, 313, 0⟩) (upd H q (.lst [.ref Γ.scr, .int 0, .int 313, .int 0])) ((L2.start X.N [V.ref Γ.scr]).set i (some (.ref q))) (startLaw X.N i q) := {
    row := ⟨⟨htab.ext gr, fun p hp => by rw [hown] at hp; cases hp⟩, upd_same⟩
    ra := fun a ha => ha
    ba := fun a ha => ha
    rb := fun a ha => ha
    al := fun a ha => by
      have e : a = q := by simpa using ha
      subst e
      exact ⟨_, upd_same, rfl⟩
    sc := hsc2
    sb := nscr
    ext := .refl
    own := fun p hp => by cases hp
    nd := .nil
    slots := by
      obtain ⟨P', h1, h2⟩ := (slots_none (Γ := Γ) (Hh := hide ([q] ++ []) (upd H q (.lst [.ref Γ.scr, .int 0, .int 313, .int 0]))) (H := upd H q (.lst [.ref Γ.scr, .int 0, .int 313, .int 0])) sl).set (v := .ref q) (d := .row q) (by rw [Rep]) i
      have : P' = [] := List.sublist_nil.mp h2
      subst this
      exact h1 }
  refine ⟨_, [q], [q], [], some ⟨q, 0, 313, 0⟩, startLaw X.N i q, S, ?_⟩
  show AllK Γ _ _ _ _ _ _ _ _ (sem (startLaw X.N i q) (some ⟨q, 0, 313, 0⟩))
  rw [fin]
  intro v H' m r
  exact r.bl_eq
end DL

set_option Elab.async false
set_option linter.all false
set_option maxRecDepth 100000
set_option maxHeartbeats 2000000
namespace DL
open PySem PySem.Spec L2
/-! ### what is asked of the written part beyond the plain facts -/
def oexB (K : PySem.W.Frag) (C : Addr) : Bool := match K.lookup C with
  | some ⟨.type t, _, .cls cd, sl⟩ => t == "type" && (match cd.mro, sl.toList with
    | .ref C' :: bm, [_, _, _, _, some (.builtin n), _] => C' == C && (n == "ValueError.__new__" && (cd.hasDict && (!cd.hasDel && PySem.HandSPX.refsVE bm)))
    | _, _ => false)
  | _ => false
theorem oexB_ok {K : PySem.W.Frag} {C : Addr} (h : oexB K C = true) : ∃ nm q N bs bm sn sub ab col dd k0 k1 k2 k3 k5, K.lookup C = some (excClassObj nm q C N bs bm true sn sub ab col dd k0 k1 k2 k3 k5 "ValueError.__new__") ∧ PySem.HandSPX.refsVE bm = true := by
  unfold oexB at h
  split at h
  · rename_i t dd cd sl ho
    obtain ⟨h0, h⟩ := Bool.and_eq_true_iff.mp h
    split at h
    · rename_i C' bm k0 k1 k2 k3 n k5 hm hs
      simp only [Bool.and_eq_true, beq_iff_eq, Bool.not_eq_true'] at h h0
      obtain ⟨rfl, rfl, hd, hdel, hr⟩ := h
      subst h0
      obtain ⟨nm, bs, mro, ns, qn, hdct, sn, sub, ab, col, del⟩ := cd
      dsimp only at hm hdel hd
      subst hm hdel hd
      obtain ⟨l⟩ := sl
      simp only at hs
      subst hs
      exact ⟨nm, qn, ns, bs, bm, sn, sub, ab, col, dd, k0, k1, k2, k3, k5, ho, hr⟩
    · cases h
  · cases h
def errB (K : PySem.W.Frag) (c : Str) : Bool :=
  oexB K (He.ga K c) && (decide (PySem.W.findIn K (.ref (He.ga K c)) "__setattr__" = some (some (.builtin "object.__setattr__"))) && (decide (PySem.W.subIn K (.ref (He.ga K c)) (.type "BaseException") = some true) && (decide (PySem.W.typeIn K (.ref (He.ga K c)) = some (.type "type")) &&
    (PySem.W.keepIn K (.ref (He.ga K c)) && (decide (PySem.W.findIn K (.ref (He.ga K c)) "__init__" = some (some (.ref (He.fAd K ("BoxError", some "__init__"))))) && (decide (PySem.W.findIn K (.ref (He.ga K c)) "value" = some none) && xfB K (He.ga K c)))))))
theorem errB_ok {K : PySem.W.Frag} {mg : Str → Option Value} {Γ : Ctx} {c : String} (e : Γ.cls c = He.ga K (Str.ofString c)) (g : mg (Str.ofString c) = some (.ref (He.ga K (Str.ofString c)))) (h : errB K (Str.ofString c) = true) : ExcF K mg Γ (He.fAd K ("BoxError", some "__init__")) c := by
  unfold errB at h
  simp only [Bool.and_eq_true, decide_eq_true_eq] at h
  obtain ⟨h1, h2, h3, h4, h5, h6, h7, h8⟩ := h
  have x := xfB_ok h8
  refine ⟨?_, by rw [e]; exact h6, by rw [e]; exact g, by rw [e]; exact h7, by rw [e]; exact x⟩
  rw [e]
  exact ⟨oexB_ok h1, h2, h3, h4, h5⟩
def webB (K : PySem.W.Frag) (C : Addr) : Bool :=
  decide (PySem.W.findIn K (.ref C) "__class__" = some (some (.builtin "object.__class__"))) && (decide (PySem.W.specialIn K (.builtin "object.__class__") "__get__" = some (some (.builtin "getset_descriptor.__get__"))) && (decide (PySem.W.takesIn K (.builtin "object.__class__") = some true) &&
    (decide (PySem.W.mroIn K C (.type "object") = some true) && (["NoneType", "bool", "int", "str", "list", "tuple", "dict"].all fun T => decide (PySem.W.kitOne K (.type T) (.ref C) = some false)))))
theorem webF_of {K : PySem.W.Frag} {mg : Str → Option Value} {Γ : Ctx} (e : Γ.web = He.ga K "Web") (g : mg "Web" = some (.ref (He.ga K "Web"))) (c : Cls K (He.ga K "Web")) (n1 : NoAttr K (He.ga K "Web") "coins") (n2 : NoAttr K (He.ga K "Web") "strings") (n3 : NoAttr K (He.ga K "Web") "worths") (h : webB K (He.ga K "Web") = true) : WebF K mg Γ := by
  unfold webB at h
  simp only [Bool.and_eq_true, decide_eq_true_eq, List.all_eq_true] at h
  obtain ⟨h1, h2, h3, h4, h5⟩ := h
  exact ⟨by rw [e]; exact c, by rw [e]; exact h1, h2, h3, by rw [e]; exact h4, by rw [e]; exact h5, by rw [e]; exact n1, by rw [e]; exact n2, by rw [e]; exact n3, by rw [e]; exact g⟩
/-- what is fixed, by the written part -/
def mkΓ (K : PySem.W.Frag) (val : Int → List (Int × Int) → List Int → Int) (dv : List Int → Int) (own : List (Addr × (List Int → Int))) (cn : List Int → Int) (a : Addr) (cells : List Int) (lam : String → Option LamF := fun _ => none) : Ctx where
  K := K
  web := He.ga K "Web"
  cls := fun c => He.ga K (Str.ofString c)
  fnA := fun c => He.ga K (Str.ofString c)
  val := val
  dv := dv
  own := own
  cn := cn
  lam := lam
  tabs := [((He.cT K ("law", none)).2, (("law" : Str) ++ ".<locals>.") ++ ("<lambda>" : Str))]
  scr := a
  cells := cells
open PySem.W PyProof.Rows in
/-- the law called: what its body needs, given at its own frame -/
theorem walk_own {l : OpenLaw} {q : Program} {loose : List Str} {XP : (Str → Option Value) → Heap → Prop} {d : DefRec} {fa : List He.Fa} {fn : List He.DefD} {ex : Frag → Bool} {lawI : Nat} {N : List Str} {k : Nat} {lawD : He.DefD} (hl : l.most = some 63) (hdf : d.params.defaults = []) (hname : d.name = ("law" : Str)) (hroom : Room (k + 1) callerA)
    (hD : fn[lawI]? = some lawD) (dn : lawD.name = ("law" : Str)) (dq : lawD.qual = ("law" : Str)) (da : lawD.at_ = (("law" : Str), (none : Option Str))) (dd : lawD.dfl = []) (dk : lawD.kwd = []) (S : FnScope N ["script"] lawD.scope)
    (hglo : He.Fa.glo "law" ∈ fa) (hb : ∀ {K : Frag} {f : Addr} {fd : FuncData}, FunD K "law" "law" lawD.params lawD.body lawD.scope [] [] f fd → L2.Binds K fd ["script"] [])
    (body : ∀ (w : World) (K : Frag) (mg : Str → Option Value) (h base : Heap) (f a : Addr) (cells : List Int) (cdv : Value) (st : Shared) (H : Hp), K.In h → h.Ns mainGlobals mg → K.In base → base.Ns mainGlobals mg → He.SaysX fa fn [] [("law", none)] ex w h K → cells.length ≤ 63 → (∀ z ∈ cells, Builtin.Int.intBits z ≤ 1048576) →
      cdv = .ref (He.cT K ("law", none)).1 → LamX.TabB base mg (He.cT K ("law", none)).1 (He.cT K ("law", none)).2 → H (He.cT K ("law", none)).2 = some (.tbl #[]) → SqL K H a (cells.map V.int) → Room k (callerA.deeper (envOfC "law" lawD.scope st.heap.objs.size f cdv)) →
      ∃ t, PSs (cxOf (L2.CX l.prog w) l.prog w K mg base N "law" lawD.scope f cdv callerA [] st H fun _ _ _ => False) lawD.body t ∧ t { nx := fun _ H' => V.non = .bl true, rt := fun v _ => v = .bl true } (L2.start N [.ref a]) H) :
    WalkO q loose XP (fun w h => ∃ K : Frag, K.In h ∧ He.SaysX fa fn [] [("law", none)] ex w h K) l.row.toRowW d [] (fun f vs => PySem.call f vs) := by
  refine Att.attach_callB hl hdf fun w s₀ st mg mb f o pm cd doc a vs ns G Y ho hd hcd hmg hobj hints hlen hbits hg => ?_
  obtain ⟨K, KX, c⟩ := Y
  rw [hname] at hmg
  have says := He.SaysT.d c.t
  obtain ⟨fd, FD⟩ := He.SaysD.def_ says lawI hD
  have gl := He.glo_ok KX G.T.g (He.SaysD.facts says hglo)
  rw [gl] at hmg
  have ef : He.ga K "law" = f := by injection (Option.some.inj hmg)
  have e1 : lawD.dvs K = [] := by unfold He.DefD.dvs; rw [dd]; rfl
  have e2 : lawD.kws K = [] := by unfold He.DefD.kws; rw [dk]; rfl
  rw [dn, dq, da, e1, e2] at FD
  have ef2 : He.fAd K (("law" : Str), (none : Option Str)) = f := ef
  rw [ef2] at FD
  have mem1 : (("law" : Str), (none : Option Str)) ∈ [(("law" : Str), (none : Option Str))] := List.mem_cons_self
  have all1 : ∀ p ∈ [He.cT K ("law", none)], p = He.cT K ("law", none) := fun p hp => by simpa using hp
  refine own_end (cs := [He.cT K ("law", none)]) (ns := ns) ⟨KX, G.T.g, G.T.b, G.T.builtins, G.T.nolimit, hg, fun p hp => ?_, fun p hp => ?_, fun p hp => ?_, G.T.bmain⟩ hobj hints (Nat.le_trans hlen (by decide)) fun base H k1 k2 TB env htb hscr => ?_
  · rw [all1 p hp]; exact c.empty _ mem1
  · rw [all1 p hp]; exact c.out _ mem1
  · rw [all1 p hp]; exact PySem.W.codeHd_of_K KX (c.hd _ mem1)
  · have b := hb FD
    obtain ⟨oc, od, dV, kV, doc2, pm2, an, cdv, ct, osl, rfl, lk, hcdv, _, _⟩ := FD.ex
    obtain ⟨cc, ec⟩ := He.codeIn_ref hcdv
    have e3 : He.codeOf K ("law", none) = cc := He.codeOf_eq (p := ("law", none)) (by rw [ef2]; exact lk) ec
    have inS : K.In st.heap := KX
    refine LamX.run_ofS (N := N) (ps := ["script"]) (us := [.ref a]) (vs := [.ref a]) lk hcdv S hroom env (b st [.ref a] inS rfl) (.cons rfl .nil) rfl fun hr => ?_
    exact body w K mg st.heap base f a ns cdv st H KX G.T.g k1 k2 c hlen hbits (by rw [ec, ← e3]; rfl) (TB _ List.mem_cons_self) (htb _ List.mem_cons_self) hscr hr
end DL

set_option Elab.async false
set_option linter.all false
set_option maxRecDepth 100000
set_option maxHeartbeats 2000000
namespace DL
open PySem PySem.Spec L2
/-! ### several values at once, some of them new lists -/
theorem keepsT {Γ : Ctx} {A B T : List Addr} {H H' : Hp} (e : Ext Γ B H H') (hb : ∀ a ∈ B, a ∈ A) (hT : ∀ t ∈ T, H t = none) : Keeps Γ (hide A H) (hide (T ++ A) H') := by
  have k1 := e.keeps (A := T ++ A) (fun a ha => List.mem_append_right _ (hb a ha))
  have e1 : hide (T ++ A) H = hide A H := by
    funext b
    by_cases z : b ∈ A
    · rw [hide_in z, hide_in (List.mem_append_right _ z)]
    · rw [hide_out z]
      by_cases z2 : b ∈ T
      · rw [hide_in (List.mem_append_left _ z2), hT b z2]
      · rw [hide_out (fun y => by
          rcases List.mem_append.mp y with y | y
          · exact z2 y
          · exact z y)]
  rw [e1] at k1
  exact k1
theorem Keeps.trans {Γ : Ctx} {H H1 H2 : Hp} (a : Keeps Γ H H1) (b : Keeps Γ H1 H2) : Keeps Γ H H2 :=
  ⟨fun _ _ h => b.lst _ _ (a.lst _ _ h), fun _ _ h => b.tup _ _ (a.tup _ _ h), fun _ _ h => b.dic _ _ (a.dic _ _ h), fun _ _ _ _ h => b.ins _ _ _ _ (a.ins _ _ _ _ h), fun c k h => by
    obtain ⟨k1, e1, f1⟩ := a.ca c k h
    obtain ⟨k2, e2, f2⟩ := b.ca c k1 e1
    exact ⟨k2, e2, fun q => f2 (f1 q)⟩, fun c φ h => b.ext c φ (a.ext c φ h)⟩
theorem SlotsR.tracked {Γ : Ctx} {Hh H : Hp} {σ : L2.St} {δ : SEnv} {P : List Addr} (h : SlotsR Γ Hh H σ δ P) : ∀ a ∈ P, ∃ o, H a = some o ∧ nx o = true := by
  induction h with
  | nil => intro a ha; cases ha
  | none _ ih => exact ih
  | dat _ _ ih => exact ih
  | own e _ _ ih =>
    intro a ha
    rcases List.mem_cons.mp ha with z | z
    · rw [z]; exact ⟨_, e, rfl⟩
    · exact ih a z
theorem SlotsR.setN {Γ : Ctx} {Hh H : Hp} {y : Option V} {σ : L2.St} {δ : SEnv} {P : List Addr} (h : SlotsR Γ Hh H σ δ P) : ∀ (i : Nat), ∃ P', SlotsR Γ Hh H (σ.set i y) (δ.set i .none) P' ∧ P'.Sublist P := by
  induction h with
  | nil => intro i; exact ⟨[], by simpa using SlotsR.nil, .refl _⟩
  | none h ih =>
    intro i
    cases i with
    | zero => exact ⟨_, .none h, .refl _⟩
    | succ i => obtain ⟨P', h1, h2⟩ := ih i; exact ⟨P', .none h1, h2⟩
  | dat r' h ih =>
    intro i
    cases i with
    | zero => exact ⟨_, .none h, .refl _⟩
    | succ i => obtain ⟨P', h1, h2⟩ := ih i; exact ⟨P', .dat r' h1, h2⟩
  | own e r' h ih =>
    intro i
    cases i with
    | zero => exact ⟨_, .none h, List.sublist_cons_self _ _⟩
    | succ i => obtain ⟨P', h1, h2⟩ := ih i; exact ⟨_, .own e r' h1, h2.cons_cons _⟩
def tM (Γ : Ctx) (W : WX) (f : SEnv → M (List SD)) : TA := fun σ H K => ∃ H0 A B P R δ, RepS Γ H0 A B P R H σ δ ∧
  (f δ R).run (fun sds R' => ∀ vs H' T, Mv Γ B R R' H H' → T.Nodup → (∀ t ∈ T, H t = none) → SlotsR Γ (hide (T ++ (A ++ P)) H') H' (vs.map some) sds T → K vs H') (KE Γ W B A P σ R H)
def mNil : SEnv → M (List SD) := fun _ => pure []
def mDat (f : SEnv → M D) (g : SEnv → M (List SD)) : SEnv → M (List SD) := fun δ => f δ >>= fun d => g δ >>= fun r => pure (.dat d :: r)
def mOwn (f : SEnv → M (List D)) (g : SEnv → M (List SD)) : SEnv → M (List SD) := fun δ => f δ >>= fun d => g δ >>= fun r => pure (.own d :: r)
section
variable {Γ : Ctx} {W : WX} {X : Cx} {e : Expr} {es : List Expr} {fe : SEnv → M D} {ff : SEnv → M (List D)} {fr : SEnv → M (List SD)} {pos : Pos}
theorem pm_nil : PA X [] (tM Γ W mNil) := pa_nil.imp fun σ H Q h => by
  obtain ⟨H0, A, B, P, R, δ, S, h⟩ := h
  exact h [] H [] (.refl S.row) .nil (fun t ht => by cases ht) .nil
theorem pm_dat (he : PE X e (tD Γ W fe)) (hr : PA X es (tM Γ W fr)) (hs : starEach (e :: es) X.env = (false, eval e X.env) :: starEach es X.env := by rfl) : PA X (e :: es) (tM Γ W (mDat fe fr)) := (pa_cons he hr hs).imp fun σ H Q h => by
  obtain ⟨H0, A, B, P, R, δ, S, h⟩ := h
  refine ⟨H0, A, B, P, R, δ, S, Out.run_mono (run_bind.mp h) (fun d R1 _ q v H1 m1 r1 => ?_) fun c d R1 _ q => q⟩
  have S1 := S.move m1
  refine ⟨H0, A, B, P, R1, δ, S1, Out.run_mono (run_bind.mp q) (fun sds R2 _ q2 vs H2 T m2 nd hT sl => ?_) fun c d R2 _ q2 v2 dx H2 m2 => q2 v2 dx H2 (m1.trans m2)⟩
  exact q2 (v :: vs) H2 T (m1.trans m2) nd (fun t ht => m1.ext.free (hT t ht)) (.dat (Rep.keep (keepsT m2.ext S1.bap hT) _ r1) sl)
theorem pm_own (he : PE X e (tF Γ W ff)) (hr : PA X es (tM Γ W fr)) (hs : starEach (e :: es) X.env = (false, eval e X.env) :: starEach es X.env := by rfl) : PA X (e :: es) (tM Γ W (mOwn ff fr)) := (pa_cons he hr hs).imp fun σ H Q h => by
  obtain ⟨H0, A, B, P, R, δ, S, h⟩ := h
  refine ⟨H0, A, B, P, R, δ, S, Out.run_mono (run_bind.mp h) (fun ds R1 _ q p vs0 H1 m1 hp ep r1 => ?_) fun c d R1 _ q => q⟩
  have nA : p ∉ A ++ P := all_out S.all hp
  have kp : Keeps Γ (hide (A ++ P) H) (hide ((p :: A) ++ P) H1) := keepsT (T := [p]) m1.ext S.bap (fun t ht => by rw [show t = p from by simpa using ht]; exact hp)
  have S0 := S.move m1
  have S1 : RepS Γ H0 (p :: A) B P R1 H1 σ δ := ⟨S0.row, fun a ha => List.mem_cons_of_mem _ (S0.ra a ha), fun a ha => List.mem_cons_of_mem _ (S0.ba a ha), S0.rb, fun a ha => by
    rcases List.mem_cons.mp ha with z | z
    · rw [z]; exact ⟨_, ep, rfl⟩
    · exact S0.al a z, S0.sc, S0.sb, S0.ext, fun q hq => by
    obtain ⟨a1, a2, a3⟩ := S0.own q hq
    exact ⟨a1, fun z => by
      rcases List.mem_cons.mp z with z | z
      · exact nA (List.mem_append_right _ (by rw [← z]; exact hq))
      · exact a2 z, a3⟩, S0.nd, S.slots.keep kp fun q hq vs e => m1.ext.st q _ (fun z => (S.own q hq).2.1 (S.ba q z)) e rfl⟩
  refine ⟨H0, p :: A, B, P, R1, δ, S1, Out.run_mono (run_bind.mp q) (fun sds R2 _ q2 vs H2 T m2 nd hT sl => ?_) fun c d R2 _ q2 v2 dx H2 m2 hx r2 => q2 v2 dx H2 (m1.trans m2) hx (Rep.keep (hide_keeps fun a ha => List.mem_cons_of_mem _ ha) _ r2)⟩
  have npT : p ∉ T := fun z => by rw [hT p z] at ep; cases ep
  refine q2 (.ref p :: vs) H2 (p :: T) (m1.trans m2) (List.nodup_cons.mpr ⟨npT, nd⟩) (fun t ht => ?_) (.own (m2.ext.st p _ (fun z => nA (S.bap p z)) ep rfl) ?_ ?_)
  · rcases List.mem_cons.mp ht with z | z
    · rw [z]; exact hp
    · exact m1.ext.free (hT t z)
  · refine RepL.keep ?_ _ r1
    have k := keepsT (T := T) (A := p :: (A ++ P)) m2.ext (fun a ha => List.mem_cons_of_mem _ (S.bap a ha)) hT
    exact k.trans (hide_keeps fun a ha => by
      rcases List.mem_append.mp ha with z | z
      · rcases List.mem_cons.mp z with z | z
        · rw [z]; exact List.mem_append_right _ List.mem_cons_self
        · exact List.mem_append_left _ z
      · exact List.mem_append_right _ (List.mem_cons_of_mem _ z))
  · refine sl.keep (hide_keeps fun a ha => ?_) fun _ _ _ z => z
    rcases List.mem_append.mp ha with z | z
    · rcases List.mem_cons.mp z with z | z
      · rw [z]; exact List.mem_append_right _ List.mem_cons_self
      · exact List.mem_append_left _ z
    · exact List.mem_append_right _ (List.mem_cons_of_mem _ z)
end
def setsV : L2.St → List Nat → List V → L2.St
  | σ, i :: is, v :: vs => setsV (σ.set i (some v)) is vs
  | σ, _, _ => σ
def setsD : SEnv → List Nat → List SD → SEnv
  | δ, i :: is, d :: ds => setsD (δ.set i d) is ds
  | δ, _, _ => δ
section
variable {Γ : Ctx} {H0 H : Hp} {A B P : List Addr} {R : Option Rw} {σ : L2.St} {δ : SEnv}
theorem RepS.adopt1 {p : Addr} {vs : List V} {ds : List D} (S : RepS Γ H0 (p :: A) B P R H σ δ) (np : p ∉ A) (h0 : H0 p = none) (ba : ∀ a ∈ B, a ∈ A) (e : H p = some (.lst vs)) (r : RepL Γ (hide ((p :: A) ++ P) H) ds vs) (i : Nat) :
    ∃ P', RepS Γ H0 A B P' R H (σ.set i (some (.ref p))) (δ.set i (.own ds)) ∧ ∀ q ∈ P', q = p ∨ q ∈ P := by
  obtain ⟨P', P1, h1, h2, h3⟩ := S.slots.setOwn e r i
  have nP : p ∉ P := fun z => (S.own p z).2.1 List.mem_cons_self
  have sub : ∀ q ∈ P', q = p ∨ q ∈ P := fun q hq => by
    rcases h3 with h3 | h3
    · rw [h3] at hq; exact .inr (h2.subset hq)
    · rcases List.mem_cons.mp (h3.mem_iff.mp hq) with z | z
      · exact .inl z
      · exact .inr (h2.subset z)
  have nd : P'.Nodup := by
    rcases h3 with h3 | h3
    · rw [h3]; exact S.nd.sublist h2
    · exact h3.nodup_iff.mpr (List.nodup_cons.mpr ⟨fun z => nP (h2.subset z), S.nd.sublist h2⟩)
  refine ⟨P', ⟨S.row, fun a ha => ba a (S.rb a ha), ba, S.rb, fun a ha => S.al a (List.mem_cons_of_mem _ ha), S.sc, S.sb, S.ext, fun q hq => ?_, nd, ?_⟩, sub⟩
  · rcases sub q hq with z | z
    · rw [z]; exact ⟨h0, np, vs, e⟩
    · obtain ⟨a1, a2, a3⟩ := S.own q z
      exact ⟨a1, fun y => a2 (List.mem_cons_of_mem _ y), a3⟩
  · refine h1.keep (hide_keeps fun a ha => ?_) fun _ _ _ z => z
    rcases List.mem_append.mp ha with z | z
    · exact List.mem_append_left _ (List.mem_cons_of_mem _ z)
    · rcases sub a z with y | y
      · rw [y]; exact List.mem_append_left _ List.mem_cons_self
      · exact List.mem_append_right _ y
theorem RepS.adopts (ba : ∀ a ∈ B, a ∈ A) : ∀ {vs : List V} {sds : List SD} {T : List Addr} {P : List Addr} {σ : L2.St} {δ : SEnv} (ix : List Nat), RepS Γ H0 (T ++ A) B P R H σ δ → T.Nodup → (∀ t ∈ T, t ∉ A ∧ H0 t = none) → SlotsR Γ (hide ((T ++ A) ++ P) H) H (vs.map some) sds T → ix.length = vs.length →
    ∃ P', RepS Γ H0 A B P' R H (setsV σ ix vs) (setsD δ ix sds) ∧ ∀ q ∈ P', q ∈ P ∨ q ∈ T
  | [], sds, T, P, σ, δ, ix, S, nd, hT, sl, hl => by
    cases sl
    cases ix with
    | nil => exact ⟨P, S, fun q hq => .inl hq⟩
    | cons i is => cases hl
  | v :: vs, sds, T, P, σ, δ, ix, S, nd, hT, sl, hl => by
    cases ix with
    | nil => cases hl
    | cons i is =>
      have hl' : is.length = vs.length := by simpa using hl
      cases sl with
      | none sl =>
        obtain ⟨P1, h1, h2⟩ := S.slots.setN (y := some v) i
        have sub : ∀ p ∈ P1, p ∈ P := fun p hp => h2.subset hp
        have S1 : RepS Γ H0 (T ++ A) B P1 R H (σ.set i (some v)) (δ.set i .none) := ⟨S.row, S.ra, S.ba, S.rb, S.al, S.sc, S.sb, S.ext, fun p hp => S.own p (sub p hp), S.nd.sublist h2, h1.sub sub⟩
        obtain ⟨P2, S2, sub2⟩ := RepS.adopts ba is S1 nd hT (sl.keep (hide_keeps fun a ha => by
          rcases List.mem_append.mp ha with z | z
          · exact List.mem_append_left _ z
          · exact List.mem_append_right _ (sub a z)) fun _ _ _ z => z) hl'
        exact ⟨P2, S2, fun q hq => (sub2 q hq).imp (sub q) id⟩
      | dat r sl =>
        obtain ⟨P1, S1, sub⟩ := S.set r i
        obtain ⟨P2, S2, sub2⟩ := RepS.adopts ba is S1 nd hT (sl.keep (hide_keeps fun a ha => by
          rcases List.mem_append.mp ha with z | z
          · exact List.mem_append_left _ z
          · exact List.mem_append_right _ (sub a z)) fun _ _ _ z => z) hl'
        exact ⟨P2, S2, fun q hq => (sub2 q hq).imp (sub q) id⟩
      | @own p vs0 ds _ _ T' e r sl =>
        obtain ⟨n1, n2⟩ := List.nodup_cons.mp nd
        obtain ⟨P1, S1, sub⟩ := RepS.adopt1 (A := T' ++ A) S (fun z => by
          rcases List.mem_append.mp z with z | z
          · exact n1 z
          · exact (hT p List.mem_cons_self).1 z) (hT p List.mem_cons_self).2 (fun a ha => List.mem_append_right _ (ba a ha)) e r i
        obtain ⟨P2, S2, sub2⟩ := RepS.adopts ba is S1 n2 (fun t ht => hT t (List.mem_cons_of_mem _ ht)) (sl.keep (hide_keeps fun a ha => by
          rcases List.mem_append.mp ha with z | z
          · exact List.mem_append_left _ (List.mem_cons_of_mem _ z)
          · rcases sub a z with y | y
            · rw [y]; exact List.mem_append_left _ List.mem_cons_self
            · exact List.mem_append_right _ y) fun _ _ _ z => z) hl'
        refine ⟨P2, S2, fun q hq => ?_⟩
        rcases sub2 q hq with z | z
        · rcases sub q z with y | y
          · rw [y]; exact .inr List.mem_cons_self
          · exact .inl y
        · exact .inr (List.mem_cons_of_mem _ z)
/-- behind the values -/
theorem RepS.tempT {R' : Option Rw} {H' : Hp} {T : List Addr} {vs : List V} {sds : List SD} (S : RepS Γ H0 A B P R H σ δ) (m : Mv Γ B R R' H H') (hT : ∀ t ∈ T, H t = none) (sl : SlotsR Γ (hide (T ++ (A ++ P)) H') H' (vs.map some) sds T) : RepS Γ H0 (T ++ A) B P R' H' σ δ := by
  have S0 := S.move m
  refine ⟨S0.row, fun a ha => List.mem_append_right _ (S0.ra a ha), fun a ha => List.mem_append_right _ (S0.ba a ha), S0.rb, fun a ha => ?_, S0.sc, S0.sb, S0.ext, fun q hq => ?_, S0.nd, ?_⟩
  · rcases List.mem_append.mp ha with z | z
    · exact sl.tracked a z
    · exact S0.al a z
  · obtain ⟨a1, a2, a3⟩ := S0.own q hq
    refine ⟨a1, fun z => ?_, a3⟩
    rcases List.mem_append.mp z with z | z
    · obtain ⟨_, _, xs, e⟩ := S.own q hq
      rw [hT q z] at e
      cases e
    · exact a2 z
  · rw [List.append_assoc]
    exact S.slots.keep (keepsT m.ext S.bap hT) fun q hq vs e => m.ext.st q _ (fun z => (S.own q hq).2.1 (S.ba q z)) e rfl
/-- all of it: the values are stored -/
theorem RepS.takesM {R' : Option Rw} {H' : Hp} {T : List Addr} {vs : List V} {sds : List SD} (S : RepS Γ H0 A B P R H σ δ) (m : Mv Γ B R R' H H') (nd : T.Nodup) (hT : ∀ t ∈ T, H t = none) (sl : SlotsR Γ (hide (T ++ (A ++ P)) H') H' (vs.map some) sds T) (ix : List Nat) (hl : ix.length = vs.length) :
    ∃ P', RepS Γ H0 A B P' R' H' (setsV σ ix vs) (setsD δ ix sds) ∧ Stp Γ B P P' R R' H H' := by
  have S1 := S.tempT m hT sl
  obtain ⟨P', S2, sub⟩ := RepS.adopts S.ba ix S1 nd (fun t ht => ⟨fun z => by
    obtain ⟨o, e, _⟩ := S.al t z
    rw [hT t ht] at e
    exact absurd e (by simp), S.ext.free (hT t ht)⟩) (by rw [List.append_assoc]; exact sl) hl
  refine ⟨P', S2, m.ext.mono fun a h => List.mem_append_left _ h, fun q hq => ?_, m.adr⟩
  rcases sub q hq with z | z
  · exact .inl z
  · exact .inr (hT q z)
end
def sParM (ix : List Nat) (f : SEnv → M (List SD)) : SM := sBind f fun sds δ R => if sds.length = ix.length then .nx (setsD δ ix sds) R else .stuck
section
variable {Γ : Ctx} {W : WX} {X : Cx} {a b c : Expr} {es : List Expr} {fm : SEnv → M (List SD)} {pos : Pos}
theorem mgo {Dn : Ends} {ix : List Nat} {σ : L2.St} {H : Hp} {K : List V → Hp → Prop} (h : tS Γ W (sParM ix fm) Dn σ H) (k : ∀ vs H', vs.length = ix.length → Dn.nx (setsV σ ix vs) H' → K vs H') : tM Γ W fm σ H K := by
  obtain ⟨H0, A, B, P, R, δ, S, h⟩ := h
  refine ⟨H0, A, B, P, R, δ, S, ?_⟩
  unfold sParM sBind at h
  cases e : fm δ R with
  | ok sds R1 =>
    rw [e] at h
    simp only at h
    split at h
    · rename_i hl
      intro vs H' T m nd hT sl
      have lv : vs.length = sds.length := by have := sl.length; simpa using this
      obtain ⟨P', S', st⟩ := S.takesM m nd hT sl ix (by rw [lv, hl])
      exact k vs H' (by rw [lv, hl]) (h _ H' P' st S')
    · exact h.elim
  | exn c d R1 =>
    rw [e] at h
    intro v dx H1 m hx r
    exact h v dx σ H1 ⟨S.ext.trans m.ext, m.row, m.adr⟩ hx (Rep.keep (hide_keeps fun a ha => List.mem_append_left _ ha) _ r)
  | stuck => rw [e] at h; exact h.elim
theorem ds_parM2 {i j : Nat} {x y : Str} {px py pt : Pos} {kt k2 : Nat} {pt2 : Pos} (hc : X.calm = true) (hN : X.N.Nodup) (hi : X.N[i]? = some x) (hj : X.N[j]? = some y) (hij : i ≠ j) (hx : X.env.scope.names.lookup x = some .local) (hy : X.env.scope.names.lookup y = some .local) (ha : PA X [a, b] (tM Γ W fm))
    (hw : swappedStores [.Tuple [.Name x px, .Name y py] kt pt] (.Tuple [a, b] k2 pt2) X.env = pure (some [x, y])) (hs : swapsWithSole [.Tuple [.Name x px, .Name y py] kt pt] (.Tuple [a, b] k2 pt2) pos.line X.env = pure false := by rfl) :
    PS X (.Assign [.Tuple [.Name x px, .Name y py] kt pt] (.Tuple [a, b] k2 pt2) pos) (tS Γ W (sParM [i, j] fm)) := (ps_par hc hN hi hj hij hx hy ha hw hs).imp fun Dn σ H h => mgo h fun vs H' hl q => by
  match vs, hl with
  | [v, w], _ => exact ⟨v, w, rfl, q⟩
theorem ds_parM3 {i j l : Nat} {x y z : Str} {px py pz pt : Pos} {kt k2 : Nat} {pt2 : Pos} (hc : X.calm = true) (hN : X.N.Nodup) (hi : X.N[i]? = some x) (hj : X.N[j]? = some y) (hl : X.N[l]? = some z) (hij : i ≠ j) (hil : i ≠ l) (hjl : j ≠ l) (hx : X.env.scope.names.lookup x = some .local) (hy : X.env.scope.names.lookup y = some .local) (hz : X.env.scope.names.lookup z = some .local)
    (ha : PA X [a, b, c] (tM Γ W fm)) (hw : swappedStores [.Tuple [.Name x px, .Name y py, .Name z pz] kt pt] (.Tuple [a, b, c] k2 pt2) X.env = pure (some [x, y, z])) (hs : swapsWithSole [.Tuple [.Name x px, .Name y py, .Name z pz] kt pt] (.Tuple [a, b, c] k2 pt2) pos.line X.env = pure false := by rfl) :
    PS X (.Assign [.Tuple [.Name x px, .Name y py, .Name z pz] kt pt] (.Tuple [a, b, c] k2 pt2) pos) (tS Γ W (sParM [i, j, l] fm)) := (ps_par3 hc hN hi hj hl hij hil hjl hx hy hz ha hw hs).imp fun Dn σ H h => mgo h fun vs H' hl q => by
  match vs, hl with
  | [u, v, w], _ => exact ⟨u, v, w, rfl, q⟩
/-- names, stored one after the other from a tuple -/
def gNames : List Nat → TGs
  | [] => fun vs σ H Q => vs = [] ∧ Q σ H
  | i :: is => fun vs σ H Q => ∃ v ws, vs = v :: ws ∧ gNames is ws (σ.set i (some v)) H Q
theorem pgn_nil : PGs X [] (gNames []) := pgs_nil.imp fun vs σ H Q q => q
theorem pgn_cons {e : Expr} {i : Nat} {is : List Nat} (h : PG X e (gName i)) (hs : PGs X es (gNames is)) (hx : (assignEach (e :: es) X.env).map (·.2) = assign e X.env :: (assignEach es X.env).map (·.2) := by rfl) : PGs X (e :: es) (gNames (i :: is)) := (pgs_cons h hs hx).imp fun vs σ H Q q => by
  obtain ⟨v, ws, e1, q⟩ := q
  exact ⟨v, ws, e1, q⟩
theorem gNames_sets : ∀ {is : List Nat} {vs : List V} {σ : L2.St} {H : Hp} {Q : L2.St → Hp → Prop}, vs.length = is.length → Q (setsV σ is vs) H → gNames is vs σ H Q
  | [], [], _, _, _, _, q => ⟨rfl, q⟩
  | i :: is, v :: vs, σ, H, Q, hl, q => ⟨v, vs, rfl, gNames_sets (by simpa using hl) q⟩
  | [], v :: vs, _, _, _, hl, _ => by cases hl
  | i :: is, [], _, _, _, hl, _ => by cases hl
theorem mgoT {Dn : Ends} {ix : List Nat} {σ : L2.St} {H : Hp} {K : List V → Hp → Prop} (h : tS Γ W (sParM ix fm) Dn σ H) (k : ∀ vs H', vs.length = ix.length → (∀ p, H' p = none → Dn.nx (setsV σ ix vs) (upd H' p (.tup vs))) → K vs H') : tM Γ W fm σ H K := by
  obtain ⟨H0, A, B, P, R, δ, S, h⟩ := h
  refine ⟨H0, A, B, P, R, δ, S, ?_⟩
  unfold sParM sBind at h
  cases e : fm δ R with
  | ok sds R1 =>
    rw [e] at h
    simp only at h
    split at h
    · rename_i hl
      intro vs H' T m nd hT sl
      have lv : vs.length = sds.length := by have := sl.length; simpa using this
      obtain ⟨P', S', st⟩ := S.takesM m nd hT sl ix (by rw [lv, hl])
      refine k vs H' (by rw [lv, hl]) fun p hp => ?_
      have g : Mv Γ B R1 R1 H' (upd H' p (.tup vs)) := .grow S'.row (grow_new hp)
      exact h _ _ P' (st.trans (.of_mv g)) (S'.move g)
    · exact h.elim
  | exn c d R1 =>
    rw [e] at h
    intro v dx H1 m hx r
    exact h v dx σ H1 ⟨S.ext.trans m.ext, m.row, m.adr⟩ hx (Rep.keep (hide_keeps fun a ha => List.mem_append_left _ ha) _ r)
  | stuck => rw [e] at h; exact h.elim
/-- (a, b, ..) = (e1, e2, ..): any number of names, some of the values new lists -/
theorem ds_asgM {tg : List Expr} {ix : List Nat} {n k1 k2 : Nat} {tp pt2 : Pos} (hc : X.calm = true) (ha : PA X es (tM Γ W fm)) (hg : PGs X tg (gNames ix)) (hn : (assignEach tg X.env).length = n := by rfl) (hst : (assignEach tg X.env).findIdx? (·.1) = none := by rfl) (hix : ix.length = n := by rfl) (hsz : n ≤ sizeLine := by decide)
    (hs : swapsWithSole [.Tuple tg k1 tp] (.Tuple es k2 pt2) pos.line X.env = pure false := by rfl) (hw : swappedStores [.Tuple tg k1 tp] (.Tuple es k2 pt2) X.env = pure none := by rfl)
    (h1 : (assignEach [.Tuple tg k1 tp] X.env).map (·.2) = [assign (.Tuple tg k1 tp) X.env] := by rfl) :
    PS X (.Assign [.Tuple tg k1 tp] (.Tuple es k2 pt2) pos) (tS Γ W (sParM ix fm)) := (ps_asg (pe_tup ha) (pg_tup hc hg hn hst) hs hw h1).imp fun Dn σ H h => mgoT h fun vs H' hl q => by
  refine ⟨by rw [hl, hix]; exact hsz, fun p hp => ⟨p, vs, rfl, SqT.of upd_same, by rw [hl]; exact hix, gNames_sets hl (q p hp)⟩⟩
end
end DL

set_option Elab.async false
set_option linter.all false
set_option maxRecDepth 100000
set_option maxHeartbeats 2000000
namespace DL
open PySem PySem.Spec L2
section
open PyProof.Rows SrtO
variable {P : Program} {w : World} {A : Around} {E : Value → Shared → Prop} {s : Shared}
abbrev collT (h : Heap) (vs : List Value) : Heap := (h.push (seqObj "list" #[] 0)).update h.objs.size (Obj.mapSeq (· ++ vs.toArray))
/-- a tuple's items, collected into a new list -/
theorem coll_tup {t : Addr} {vs : List Value} {Q : List Value → Shared → Prop} (ht : s.heap.IsTuple t vs.toArray) (fin : Q vs { s with heap := collT s.heap vs }) (small : vs.length ≤ sizeLine) : wpAny (model P w) A (collect (.ref t)) Q E s := by
  obtain ⟨ob, isAt, isT, k, dat⟩ := id ht
  unfold collect
  refine wpAny_bind (wpAny_runValue (codeAny_builtin F.entry_proto_collect ?_))
  show wpAny _ _ (do again (.builtin "list.__iadd__" ⟨[← newList [], .ref t], []⟩)) _ _ s
  refine wpAny_bind (wpAny_newList (wpAny_pure ⟨Code.quiet_builtin _ (by decide +kernel), codeAny_builtin F.entry_list_iadd ?_⟩))
  show wpAny _ _ (Builtin.List.listExtendWith (.ref s.heap.objs.size) (.ref t) (.ref s.heap.objs.size)) _ _ { s with heap := s.heap.push (seqObj "list" #[] 0) }
  unfold Builtin.List.listExtendWith
  have at2 : (s.heap.push (seqObj "list" #[] 0)).get? t = some ob := Heap.get?_push_of_some _ isAt
  refine wpAny_bind (wpAny_typeOf (T := "tuple") ⟨ob, at2, isT⟩ ?_)
  have isTup : (Value.type "tuple" == Value.type "tuple") = true := by rfl
  rw [if_pos (by rw [isTup]; simp)]
  refine wpAny_bind (listItems_at at2 dat ?_)
  refine wpAny_bind (listItems_at (xs := #[]) (n := 0) (Heap.get?_push_size _ rfl) rfl ?_)
  rw [if_neg (by simp)]
  refine wpAny_bind (listUpdate_at (xs := #[]) (n := 0) (Heap.get?_push_size _ rfl) rfl ?_ (Nat.zero_le _) (by show (#[] ++ vs.toArray).size ≤ sizeLine + 1; simp only [Array.size_append, List.size_toArray, List.length_nil]; omega))
  refine wpAny_pure ?_
  show wpAny (model P w) A (do
      let ob ← load s.heap.objs.size
      match ob.data with
      | .seq xs _ => pure xs.toList
      | _ => unsupported "internal:collect") Q E { s with heap := collT s.heap vs }
  refine wpAny_bind (wpAny_load (get?_update_seq (Heap.get?_push_size _ rfl) _) ?_)
  show wpAny _ _ (pure ((#[] : Array Value) ++ vs.toArray).toList) Q E _
  rw [show ((#[] : Array Value) ++ vs.toArray).toList = vs by simp]
  exact wpAny_pure fin
theorem sorted_tup {t : Addr} {vs : List Value} {ltv : Value → Value → Bool} {Q : Value → Shared → Prop} (O : Swo ltv) (ht : s.heap.IsTuple t vs.toArray) (small : vs.length ≤ sizeLine)
    (can : 2 ≤ vs.length → ∀ (h₁ : Heap) (a : Addr), h₁.get? a = some (seqObj "list" vs.toArray 0) → (∀ b o, s.heap.get? b = some o → b ≠ a ∧ h₁.get? b = some o) → SortableO P w A.in1.in1 { s with heap := h₁ } a vs ltv)
    (fin : ∀ out : List Value, Srtd ltv out → Stb ltv out vs → Q (.ref (s.heap.objs.size + 1)) { s with heap := sortedAll s.heap vs out.toArray }) : wpAny (model P w) A (call (.builtin "sorted") [.ref t]) Q E s := by
  refine Calls.call_function_entry kind_sorted plain_sorted entry_sorted (args_sorted1 _) ?_
  unfold Builtin.«sorted»
  refine wpAny_bind (m := checkCount "sorted" 1 1 _) (wpAny_pure ?_)
  refine wpAny_bind (coll_tup ht ?_ small)
  refine wpAny_bind (wpAny_newList ?_ small)
  have size1 : (collT s.heap vs).objs.size = s.heap.objs.size + 1 := by
    rw [Heap.size_update, size_push']
  have newL : ((collT s.heap vs).push (seqObj "list" vs.toArray 0)).get? (s.heap.objs.size + 1) = some (seqObj "list" vs.toArray 0) := by
    rw [← size1]
    exact Heap.get?_push_size _ rfl
  have old : ∀ b o, s.heap.get? b = some o → b ≠ s.heap.objs.size + 1 ∧ ((collT s.heap vs).push (seqObj "list" vs.toArray 0)).get? b = some o := fun b o q => by
    have lt := Heap.lt_size q
    refine ⟨Nat.ne_of_lt (Nat.lt_succ_of_lt lt), Heap.get?_push_of_some _ ?_⟩
    rw [Heap.get?_update_ne _ _ _ _ (Nat.ne_of_lt lt)]
    exact Heap.get?_push_of_some _ q
  show wpAny _ _ _ _ _ { s with heap := (collT s.heap vs).push (seqObj "list" vs.toArray 0) }
  rw [size1]
  refine wpAny_bind (wpAny_holding (wpAny_call_entry slot_list_sort ⟨_, newL, rfl⟩ entry_list_sort (list_sort_ord O newL small (fun two => can two _ _ newL old) fun out so st => ⟨_, rfl, ?_⟩) (args_list_sort _)))
  exact wpAny_pure ⟨_, rfl, fin out so st⟩
end
/-- numbers -/
def nums : List D → Option (List Int)
  | [] => some []
  | .int i :: ds => (nums ds).map (i :: ·)
  | _ => none
theorem nums_of {Γ : Ctx} {H : Hp} : ∀ {ds : List D} {xs : List V} {ns : List Int}, RepL Γ H ds xs → nums ds = some ns → xs = ns.map V.int
  | [], xs, ns, r, e => by
    rw [RepL_nil] at r
    simp [nums] at e
    rw [r, e]; rfl
  | d :: ds, xs, ns, r, e => by
    rw [RepL_cons] at r
    obtain ⟨v, ws, rfl, h1, h2⟩ := r
    cases d <;> simp only [nums] at e <;> try (cases e)
    obtain ⟨cs, e1, rfl⟩ := Option.map_eq_some_iff.mp e
    rw [List.map_cons, h1.int_eq, nums_of h2 e1]
theorem nums_map : ∀ ns : List Int, nums (ns.map D.int) = some ns
  | [] => rfl
  | n :: ns => by rw [List.map_cons, nums, nums_map ns]; rfl
theorem repL_ints {Γ : Ctx} {H : Hp} : ∀ ns : List Int, RepL Γ H (ns.map D.int) (ns.map V.int)
  | [] => RepL_nil.mpr rfl
  | n :: ns => RepL_cons.mpr ⟨_, _, rfl, Rep.of_int, repL_ints ns⟩
def srt (ns : List Int) : List Int := ns.mergeSort (fun a b => decide (a ≤ b))
theorem srt_perm (ns : List Int) : (srt ns).Perm ns := List.mergeSort_perm ns _
theorem srt_sorted (ns : List Int) : (srt ns).Pairwise (· ≤ ·) := by
  have h := List.pairwise_mergeSort (le := fun a b : Int => decide (a ≤ b)) (fun a b c h1 h2 => by simp at *; omega) (fun a b => by simp; omega) ns
  exact h.imp fun h => by simpa using h
theorem sorted_uniq {a b : List Int} (p : a.Perm b) (h1 : a.Pairwise (· ≤ ·)) (h2 : b.Pairwise (· ≤ ·)) : a = b := by
  exact List.Perm.eq_of_pairwise (le := (· ≤ ·)) (fun x y _ _ h3 h4 => Int.le_antisymm h3 h4) h1 h2 p
theorem srt_eq {ns ms : List Int} (p : ms.Perm ns) (h : ms.Pairwise (· ≤ ·)) : ms = srt ns := sorted_uniq (p.trans (srt_perm ns).symm) h (srt_sorted ns)
def fSorted : List D → Option D
  | [.lst ds] => (nums ds).map fun ns => .lst ((srt ns).map .int)
  | [.tup ds] => (nums ds).map fun ns => .lst ((srt ns).map .int)
  | _ => none
def rSortedA (K : PySem.W.Frag) : List V → Hp → VK → Prop := fun vs H Q => ∃ (a : Addr) (ns : List Int), vs = [V.ref a] ∧ (SqL K H a (ns.map V.int) ∨ SqT K H a (ns.map V.int)) ∧
  ∀ (ns' : List Int) (p : Addr), ns'.Perm ns → ns'.Pairwise (· ≤ ·) → H p = none → Q (.ref p) (upd H p (.lst (ns'.map V.int)))
theorem cr_sortedA {X : Cx} : CallR X (.builtin "sorted") (rSortedA X.K) := by
  intro pins s σ H vs us Q I r h
  obtain ⟨a, ns, rfl, hs | hs, q⟩ := h
  · exact cr_sortedI pins s σ H _ us Q I r ⟨a, ns, rfl, hs, q⟩
  · obtain ⟨its, rv, ht, hz⟩ := I.tuple hs
    rw [Vals.ref1 r]
    have hi := rv.ints
    refine sorted_tup SrtO.swo_int (show s.heap.IsTuple a its.toArray from ht) (by rw [← rv.length]; exact hz) (fun h2 h₁ a' _ _ => SrtO.ints_sortable hi h2) fun out h1 h2 => ?_
    obtain ⟨k1, k2, k3⟩ := SrtO.ints_out hi h1 h2
    obtain ⟨ep, he⟩ := PyProof.Rows.sortedAll_at s.heap its out.toArray
    have len : ((out.map SrtO.iv).map V.int).length ≤ sizeLine := by
      rw [List.length_map, k2.length_eq]
      rw [List.length_map] at hz
      exact hz
    exact ⟨.ref _, upd H (s.heap.objs.size + 1) (.lst ((out.map SrtO.iv).map V.int)), I.laid (t' := s.toks) (fun _ _ => PyProof.Rows.sortedAll_old) (Nat.le_succ _) ⟨len, out, ep, L2.vals_of_ints k1, he⟩, rfl, q _ _ k2 k3 (I.hok.fresh (Nat.le_succ _))⟩
theorem cd_sortedA {Γ : Ctx} {K : PySem.W.Frag} : CallD Γ (rSortedA K) fSorted := fun A H xs as d Q al r e q => by
  unfold fSorted at e
  split at e
  · obtain ⟨v, rfl, r1⟩ := r.one_inv
    obtain ⟨p, ys, rfl, h1, h2, _⟩ := r1.lst_at
    obtain ⟨ns, en, rfl⟩ := Option.map_eq_some_iff.mp e
    have := nums_of h2 en
    subst this
    refine ⟨p, ns, rfl, .inl (SqL.of h1), fun ns' p' pm so hp => ?_⟩
    rw [srt_eq pm so]
    exact q _ _ (grow_new hp) (Rep.new_lst al hp (repL_ints _))
  · obtain ⟨v, rfl, r1⟩ := r.one_inv
    obtain ⟨p, ys, rfl, h1, h2, _⟩ := r1.tup_at
    obtain ⟨ns, en, rfl⟩ := Option.map_eq_some_iff.mp e
    have := nums_of h2 en
    subst this
    refine ⟨p, ns, rfl, .inr (SqT.of h1), fun ns' p' pm so hp => ?_⟩
    rw [srt_eq pm so]
    exact q _ _ (grow_new hp) (Rep.new_lst al hp (repL_ints _))
  · cases e
/-! ### sum -/
def fSum : List D → Option D
  | [.lst ds] => (nums ds).map fun ns => .int ns.sum
  | [.tup ds] => (nums ds).map fun ns => .int ns.sum
  | _ => none
def rSumA (K : PySem.W.Frag) : List V → Hp → VK → Prop := fun vs H Q => ∃ (a : Addr) (ns : List Int), vs = [V.ref a] ∧ (SqL K H a (ns.map V.int) ∨ SqT K H a (ns.map V.int)) ∧ Q (.int ns.sum) H
theorem cr_sumA {X : Cx} (hc : X.calm = true) : CallR X (.builtin "sum") (rSumA X.K) := by
  intro pins s σ H vs us Q I r h
  obtain ⟨a, ns, rfl, hs | hs, q⟩ := h
  · exact cr_sum hc pins s σ H _ us Q I r ⟨a, ns, rfl, hs, q⟩
  · obtain ⟨its, rv, ht, hz⟩ := I.tuple hs
    rw [Vals.ref1 r]
    have hi := rv.ints
    have ht' : s.heap.IsTuple a its.toArray := ht
    obtain ⟨xs, hx⟩ := hi.allInts.items
    have hn : numsOf its.toArray.toList = ns := by rw [show its.toArray.toList = its from rfl, hi.numsOf]
    rw [hx] at ht' hn
    rw [nums_intItems] at hn
    refine PySem.W.ktm_sumG (I.ok.hd hc) ht' fun h' tk t' hk => ?_
    rw [preSum_eq, List.take_of_length_le (by simp), hn]
    exact ⟨.int _, H, I.kept hk, ⟨_, rfl⟩, q⟩
theorem cd_sumA {Γ : Ctx} {K : PySem.W.Frag} : CallD Γ (rSumA K) fSum := fun A H xs as d Q al r e q => by
  unfold fSum at e
  split at e
  · obtain ⟨v, rfl, r1⟩ := r.one_inv
    obtain ⟨p, ys, rfl, h1, h2, _⟩ := r1.lst_at
    obtain ⟨ns, en, rfl⟩ := Option.map_eq_some_iff.mp e
    have := nums_of h2 en
    subst this
    exact ⟨p, ns, rfl, .inl (SqL.of h1), q _ H (fun _ _ z => z) Rep.of_int⟩
  · obtain ⟨v, rfl, r1⟩ := r.one_inv
    obtain ⟨p, ys, rfl, h1, h2, _⟩ := r1.tup_at
    obtain ⟨ns, en, rfl⟩ := Option.map_eq_some_iff.mp e
    have := nums_of h2 en
    subst this
    exact ⟨p, ns, rfl, .inr (SqT.of h1), q _ H (fun _ _ z => z) Rep.of_int⟩
  · cases e
/-! ### x[k], x a list of one's own -/
def dIxOwn (i : Nat) (fk : SEnv → M D) : SEnv → M D := fun δ => match δ[i]? with
  | some (.own ds) => fk δ >>= fun k => M.lift (oIx (.lst ds) k)
  | _ => M.stuck
section
variable {Γ : Ctx} {W : WX} {X : Cx} {k : Expr} {fk : SEnv → M D} {pos p : Pos}
theorem pd_ixOwn {i : Nat} {x : Str} (hN : X.N[i]? = some x) (hv : Vis X.env.scope x) (hk : PE X k (tD Γ W fk)) (hs : PlainIx k := by intro _ _; rfl) (hd : (x == ("__debug__" : Str)) = false := by decide) (hcd : (x == ("__classdict__" : Str)) = false := by decide) :
    PE X (.Subscript (.Name x p) k pos) (tD Γ W (dIxOwn i fk)) := (pe_ix ix_seq (pe_var hN hv hd hcd) hk hs).imp fun σ H Q h => by
  obtain ⟨H0, A, B, P, R, δ, S, h⟩ := h
  unfold dIxOwn at h
  cases e1 : δ[i]? with
  | none => rw [e1] at h; exact h.elim
  | some sd =>
  cases sd with
  | none => rw [e1] at h; exact h.elim
  | dat _ => rw [e1] at h; exact h.elim
  | own ds =>
    rw [e1] at h
    obtain ⟨q, vs, f1, _⟩ := S.slots.getOwn e1
    refine ⟨.ref q, f1, H0, A, B, P, R, δ, S, go S h fun kk vk R1 H1 m r S1 h1 => ?_⟩
    obtain ⟨d, ed, qq⟩ := lift_out S1 h1
    obtain ⟨q', vs', g1, g2, g3, g4⟩ := S1.slots.getOwn e1
    rw [f1] at g1
    have eq : q' = q := by injection (Option.some.inj (Option.some.inj g1)).symm
    subst eq
    cases kk <;> simp only [oIx] at ed <;> try (cases ed)
    rename_i iz
    obtain ⟨v, ev, rv⟩ := g3.atI ed
    exact .inl ⟨q', vs', iz, v, rfl, r.int_eq, SqL.of g2, ev, qq v H1 (fun _ _ z => z) rv⟩
end
theorem lookup_mem' {α β : Type} [BEq α] [LawfulBEq α] {a : α} {b : β} : ∀ {l : List (α × β)}, l.lookup a = some b → (a, b) ∈ l
  | [], h => by cases h
  | (c, d) :: r, h => by
    rw [List.lookup] at h
    split at h
    · rename_i e
      rw [beq_iff_eq.mp e, Option.some.inj h]
      exact List.mem_cons_self
    · exact List.mem_cons_of_mem _ (lookup_mem' h)
end DL

set_option Elab.async false
set_option linter.all false
set_option maxRecDepth 100000
set_option maxHeartbeats 2000000
namespace DL
open PySem PySem.Spec L2
/-! ### a web's table stays small -/
open Classical in
theorem nodup_le {α : Type} : ∀ {L M : List α}, L.Nodup → (∀ x ∈ L, x ∈ M) → L.length ≤ M.length
  | [], M, _, _ => Nat.zero_le _
  | x :: L, M, h, hs => by
    obtain ⟨h1, h2⟩ := List.nodup_cons.mp h
    have hx := hs x List.mem_cons_self
    have ih := nodup_le (L := L) (M := M.erase x) h2 fun y hy => (List.mem_erase_of_ne (fun e => h1 (by rw [← e]; exact hy))).mpr (hs y (List.mem_cons_of_mem _ hy))
    rw [List.length_erase_of_mem hx] at ih
    have : 0 < M.length := List.length_pos_of_mem hx
    rw [List.length_cons]
    omega
def rls : Nat → Int → List (List Int)
  | 0, _ => [[]]
  | f + 1, lo => rls f (lo + 1) ++ (rls f (lo + 1)).map (lo :: ·)
theorem rls_len : ∀ (f : Nat) (lo : Int), (rls f lo).length = 2 ^ f
  | 0, _ => rfl
  | f + 1, lo => by
    rw [rls, List.length_append, List.length_map, rls_len f, Nat.pow_succ]
    omega
theorem rls_mem : ∀ (f : Nat) (lo : Int) (st : List Int), st.Pairwise (· < ·) → (∀ k ∈ st, lo ≤ k ∧ k < lo + (f : Int)) → st ∈ rls f lo
  | 0, lo, [], _, _ => by simp [rls]
  | 0, lo, k :: st, _, h => by
    have := h k List.mem_cons_self
    omega
  | f + 1, lo, [], _, _ => by
    rw [rls]
    exact List.mem_append_left _ (rls_mem f (lo + 1) [] .nil fun k hk => nomatch hk)
  | f + 1, lo, k :: st, hp, h => by
    obtain ⟨p1, p2⟩ := List.pairwise_cons.mp hp
    have hk := h k List.mem_cons_self
    rw [rls]
    by_cases e : k = lo
    · subst e
      refine List.mem_append_right _ (List.mem_map.mpr ⟨st, rls_mem f (k + 1) st p2 fun j hj => ?_, rfl⟩)
      have a := p1 j hj
      have b := h j (List.mem_cons_of_mem _ hj)
      omega
    · refine List.mem_append_left _ (rls_mem f (lo + 1) (k :: st) hp fun j hj => ?_)
      have b := h j hj
      cases hj with
      | head => omega
      | tail _ hj =>
        have a := p1 j hj
        omega
theorem TabOk.small {Γ : Ctx} {b : Addr} {kvs : List (List Key × V)} (h : TabOk Γ b kvs) : kvs.length < sizeLine := by
  have l := nodup_le (L := kvs.map (·.1)) (M := (rls 12 0).map (·.map Sum.inl)) h.1 fun x hx => by
    obtain ⟨p, hp, rfl⟩ := List.mem_map.mp hx
    obtain ⟨st, s, e, _⟩ := h.2 p hp
    rw [e]
    exact List.mem_map.mpr ⟨st, rls_mem 12 0 st s.1 fun k hk => by have := s.2 k hk; omega, rfl⟩
  rw [List.length_map, List.length_map, rls_len] at l
  exact Nat.lt_of_le_of_lt l (by decide)
/-! ### what is kept in a web's table -/
instance : DecidableEq Rw := fun a b => decidable_of_iff (a.addr = b.addr ∧ a.idx = b.idx ∧ a.mix = b.mix ∧ a.carry = b.carry) ⟨fun h => by cases a; cases b; simp_all, fun h => by subst h; exact ⟨rfl, rfl, rfl, rfl⟩⟩
instance (st : List Int) : Decidable (StI st) := by unfold StI; infer_instance
def sCache (Γ : Ctx) (i j : Nat) (fe : SEnv → M D) : SM := fun δ R => match δ[i]?, δ[j]? with
  | some (.dat (.web n ss)), some (.dat (.tup ds)) => (match nums ds with
    | some st => (match fe δ R with
      | .ok (.int v) R' => if v = Γ.val n ss st ∧ R' = R ∧ StI st then .rt (.int v) R else .stuck
      | _ => .stuck)
    | none => .stuck)
  | _, _ => .stuck
theorem RowOk.updT {Γ : Ctx} {H : Hp} {R : Option Rw} {p : Addr} {kvs kvs' : List (List Key × V)} (h : RowOk Γ H R) (hp : H p = some (.dT kvs)) (hk : TabOk Γ p kvs → TabOk Γ p kvs') : RowOk Γ (L2.upd H p (.dT kvs')) R := by
  obtain ⟨⟨h1, h0⟩, h2⟩ := h
  refine ⟨⟨fun q hq => ?_, fun q hq => ?_⟩, ?_⟩
  · obtain ⟨ps, a1, a2, a3⟩ := h1 q hq
    refine ⟨ps, by rw [upd_ne (ne_of a1 hp (by intro z; cases z))]; exact a1, a2, fun pos cv hc => ?_⟩
    obtain ⟨c, e1, e2⟩ := a3 pos cv hc
    refine ⟨c, e1, ?_⟩
    rw [upd_ne (ne_of e2 hp (by unfold LamX.CodeO; intro z; cases z))]
    exact e2
  · obtain ⟨k, h3, h4⟩ := h0 q hq
    by_cases e : q.1 = p
    · rw [e] at h3 h4 ⊢
      rw [hp] at h3
      cases h3
      exact ⟨_, upd_same, hk h4⟩
    · exact ⟨k, by rw [upd_ne e]; exact h3, h4⟩
  · cases R with
    | none => trivial
    | some r =>
      have h3 : H r.addr = some (.lst [.ref Γ.scr, .int r.idx, .int r.mix, .int r.carry]) := h2
      show L2.upd H p (.dT kvs') r.addr = _
      rw [upd_ne (ne_of h3 hp (by intro z; cases z))]
      exact h3
theorem TabOk.put {Γ : Ctx} {b : Addr} {kvs : List (List Key × V)} {st : List Int} (h : TabOk Γ b kvs) (hs : StI st) :
    TabOk Γ b (putK kvs (st.map Sum.inl) (.int (Γ.tv b st))) := by
  obtain ⟨h1, h2⟩ := h
  unfold putK
  split
  · refine ⟨?_, fun p hp => ?_⟩
    · rw [List.map_map]
      have e : ((fun p : List Key × V => p.1) ∘ fun kv : List Key × V => if kv.1 = st.map Sum.inl then (kv.1, V.int (Γ.tv b st)) else kv) = fun p : List Key × V => p.1 := by
        funext kv
        show (if kv.1 = st.map Sum.inl then (kv.1, V.int (Γ.tv b st)) else kv).1 = kv.1
        split <;> rfl
      rw [e]; exact h1
    · obtain ⟨kv, hk, rfl⟩ := List.mem_map.mp hp
      by_cases e : kv.1 = st.map Sum.inl
      · rw [if_pos e]
        exact ⟨st, hs, e, rfl⟩
      · rw [if_neg e]
        exact h2 kv hk
  · rename_i ha
    refine ⟨?_, fun p hp => ?_⟩
    · rw [List.map_append, List.nodup_append]
      refine ⟨h1, by simp, fun a hA b hB => ?_⟩
      simp only [List.map_cons, List.map_nil, List.mem_singleton] at hB
      subst hB
      intro e
      subst e
      obtain ⟨kv, hk, e⟩ := List.mem_map.mp hA
      exact ha (List.any_eq_true.mpr ⟨kv, hk, decide_eq_true e⟩)
    · rcases List.mem_append.mp hp with z | z
      · exact h2 p z
      · rw [List.mem_singleton] at z
        subst z
        exact ⟨st, hs, rfl, rfl⟩
theorem Ext.put {Γ : Ctx} {B : List Addr} {H : Hp} {q : Addr} {kvs : List (List Key × V)} {st : List Int} (hq : H q = some (.dT kvs)) (hs : StI st) :
    Ext Γ B H (L2.upd H q (.dT (putK kvs (st.map Sum.inl) (.int (Γ.tv q st))))) where
  st := fun b o _ h s => by
    have : b ≠ q := fun e => by
      subst e
      rw [hq] at h
      cases h
      cases s
    rw [upd_ne this]; exact h
  ca := fun b k _ h => by
    by_cases e : b = q
    · subst e
      rw [hq] at h
      cases h
      exact ⟨_, upd_same, fun c => c.put hs⟩
    · exact ⟨k, by rw [upd_ne e]; exact h, fun c => c⟩
  al := fun b o h => by
    by_cases e : b = q
    · subst e
      exact ⟨_, upd_same, fun _ => rfl⟩
    · exact ⟨o, by rw [upd_ne e]; exact h, id⟩
/-- what a table tells of a key -/
theorem TabOk.val {Γ : Ctx} {b : Addr} {kvs : List (List Key × V)} {st : List Int} {x : V} (h : TabOk Γ b kvs) (hv : valV kvs (st.map Sum.inl) = some x) : x = .int (Γ.tv b st) := by
  unfold valV at hv
  obtain ⟨p, hp, rfl⟩ := Option.map_eq_some_iff.mp hv
  obtain ⟨st', _, e5, e6⟩ := h.2 p (List.mem_of_find?_eq_some hp)
  have e7 := List.find?_some hp
  rw [decide_eq_true_eq, e5] at e7
  have inj : ∀ {as bs : List Int}, (as.map Sum.inl : List Key) = bs.map Sum.inl → as = bs := fun {as bs} z => by
    have z2 := congrArg (fun l : List Key => l.map fun k => match k with | .inl i => i | .inr _ => 0) z
    simpa [List.map_map, Function.comp_def] using z2
  rw [e6, inj e7]
theorem tv_none {Γ : Ctx} {b : Addr} (h : Γ.own.lookup b = none) (st : List Int) : Γ.tv b st = Γ.dv st := by
  unfold Ctx.tv
  rw [h]
section
variable {Γ : Ctx} {W : WX} {X : Cx} {e ew et ew2 et2 ew3 et3 : Expr} {fe : SEnv → M D} {i j : Nat} {p1 p2 p3 p4 p5 p6 p7 p8 p9 : Pos}
theorem ds_cache (T : WebF X.K X.mg Γ) (one : ∀ n ss st, Γ.val n ss st = Γ.dv st) (hu : X.A.units + 1 < cLine) (hw : PE X ew (tVar i)) (ht : PE X et (tVar j)) (hw2 : PE X ew2 (tVar i)) (ht2 : PE X et2 (tVar j)) (hw3 : PE X ew3 (tVar i)) (ht3 : PE X et3 (tVar j)) (he : PE X e (tD Γ W fe)) (hsl : NoSl et3) (hb : attributeBase ew "worths" X.env (eval ew X.env) = eval ew X.env := by rfl) (hb2 : attributeBase ew2 "worths" X.env (eval ew2 X.env) = eval ew2 X.env := by rfl) (hb3 : attributeBase ew3 "worths" X.env (eval ew3 X.env) = eval ew3 X.env := by rfl)
    (hm : behindInMarks .NotIn (.Attribute ew "worths" p1) = false := by first | exact nobehind _ (by decide) (by decide) | rfl)
    (hs : swapsWith e (some (.Subscript (.Attribute ew2 "worths" p3) et2 p4)) p5.line X.env = pure false := by rfl) :
    PSs X [.If (.Compare et [.NotIn] [.Attribute ew "worths" p1] p2) [.Assign [.Subscript (.Attribute ew2 "worths" p3) et2 p4] e p5] [] p6, .Return (some (.Subscript (.Attribute ew3 "worths" p7) et3 p8)) p9] (tS Γ W (sCache Γ i j fe)) :=
  (pss_cons (ps_if (pt_cmp (pc_dnotin hu ht (pe_fld hw hb)) hm) (pss_one (ps_dput hu (pe_fld hw2 hb2) ht2 he hs)) pss_nil) (pss_one (ps_ret (pe_dget hu (pe_fld hw3 hb3) ht3 hsl)))).imp fun Dn σ H h => by
  obtain ⟨H0, A, B, P, R, δ, S, h⟩ := h
  unfold sCache at h
  split at h
  · rename_i n ss ds e1 e2
    split at h
    · rename_i st e3
      split at h
      · rename_i v R' e4
        split at h
        · rename_i hc
          obtain ⟨rfl, rfl, hst⟩ := hc
          obtain ⟨vw, g1, r1⟩ := S.slots.get e1
          obtain ⟨vt, g2, r2⟩ := S.slots.get e2
          rw [Rep] at r1
          obtain ⟨a, dx, t, q, xs, kvs, rfl, hA, hT, hP, hQ, hC⟩ := r1
          obtain ⟨b, ys, rfl, hB, hL⟩ := Rep_tup.mp r2
          have ey := nums_of hL e3
          subst ey
          have ek : (st.map V.int) = ((st.map Sum.inl : List Key).map kV) := by rw [List.map_map]; rfl
          rw [ek] at hB
          have hA' := (hide_some hA).2
          have hQ' := (hide_some hQ).2
          have hB' := (hide_some hB).2
          cases hv : valV kvs (st.map Sum.inl) with
          | some x =>
            have gt := DGet.t hQ' hB'
            rw [hv] at gt
            refine ⟨_, g2, _, g1, a, Γ.web, dx, _, _, rfl, hA', T.cl, T.nW, lookW _ _ _, q, _, rfl, gt, false, rfl, ?_⟩
            simp only [Bool.false_eq_true, if_false]
            show tDGet (tFld X.K (tVar i) ("worths" : Str)) (tVar j) σ H Dn.rt
            refine ⟨_, g1, a, Γ.web, dx, _, _, rfl, hA', T.cl, T.nW, lookW _ _ _, _, g2, q, _, rfl, gt, ?_⟩
            have ex : x = .int (Γ.val n ss st) := by rw [hC.1.val hv, tv_none hC.2, one]
            subst ex
            exact h _ H ⟨S.ext, S.row, rfl⟩ Rep.of_int
          | none =>
            have gt := DGet.t hQ' hB'
            rw [hv] at gt
            refine ⟨_, g2, _, g1, a, Γ.web, dx, _, _, rfl, hA', T.cl, T.nW, lookW _ _ _, q, _, rfl, gt, true, rfl, ?_⟩
            simp only [if_true]
            refine ⟨H0, A, B, P, R', δ, S, ?_⟩
            rw [e4]
            intro v1 H1 m rv
            have := rv.int_eq
            subst this
            have S1 := S.move m
            obtain ⟨vw1, g1', r1'⟩ := S1.slots.get e1
            obtain ⟨vt1, g2', r2'⟩ := S1.slots.get e2
            rw [Rep] at r1'
            obtain ⟨a1, dx1, t1, q1, xs1, kvs1, rfl, hA1, hT1, hP1, hQ1, hC1⟩ := r1'
            obtain ⟨b1, ys1, rfl, hB1, hL1⟩ := Rep_tup.mp r2'
            have ey1 := nums_of hL1 e3
            subst ey1
            rw [ek] at hB1
            have hA1' := (hide_some hA1).2
            have hQ1' := (hide_some hQ1).2
            have hB1' := (hide_some hB1).2
            refine ⟨_, g1', a1, Γ.web, dx1, _, _, rfl, hA1', T.cl, T.nW, lookW _ _ _, _, g2', q1, _, rfl, DPut.t hQ1' hB1' hC1.1.small, ?_⟩
            have ne1 : a1 ≠ q1 := ne_of hA1' hQ1' (by intro z; cases z)
            have ne2 : b1 ≠ q1 := ne_of hB1' hQ1' (by intro z; cases z)
            have ev : Γ.val n ss st = Γ.tv q1 st := by rw [tv_none hC1.2, one]
            rw [ev] at h ⊢
            have gt4 := DGet.t (H := L2.upd H1 q1 (.dT (putK kvs1 (st.map Sum.inl) (.int (Γ.tv q1 st))))) (b := b1) (k := st.map Sum.inl) upd_same (by rw [upd_ne ne2]; exact hB1')
            rw [valV_put, if_pos rfl] at gt4
            show tDGet (tFld X.K (tVar i) ("worths" : Str)) (tVar j) σ _ Dn.rt
            refine ⟨_, g1', a1, Γ.web, dx1, _, _, rfl, by rw [upd_ne ne1]; exact hA1', T.cl, T.nW, lookW _ _ _, _, g2', q1, _, rfl, gt4, ?_⟩
            exact h _ _ ⟨S1.ext.trans (Ext.put hQ1' hst), S1.row.updT hQ1' fun c => c.put hst, rfl⟩ Rep.of_int
        · exact h.elim
      · exact h.elim
    · exact h.elim
  · exact h.elim
end
theorem ds_lawV {X : Cx} {β : Type} {G : β → Ctx} {sc : Addr} {N : List Str} {i : Nat} {rest : List Stmt} {semV : β → SM} {k1 k2 k3 : Nat} {p0 p1 p2 p3 p4 p5 p6 : Pos} (hN : X.N.Nodup) (eN : X.N = N) (h0 : X.N[0]? = some ("script" : Str)) (hi : X.N[i]? = some ("row" : Str)) (v0 : Vis X.env.scope "script") (hx : Loc X.env.scope "row")
    (hf : X.fn "row" = true ∨ X.env.scope.names.lookup ("row" : Str) = some .local) (hr : ∀ v, PSs X rest (tS (G v) (fun _ _ _ _ => False) (semV v))) (hs : swapsWith (.List [.Name "script" p1, .Constant (.int 0) k1 p2, .Constant (.int 313) k2 p3, .Constant (.int 0) k3 p4] p5) (some (.Name "row" p0)) p6.line X.env = pure false := by rfl)
    (e1 : starEach [.Name "script" p1, .Constant (.int 0) k1 p2, .Constant (.int 313) k2 p3, .Constant (.int 0) k3 p4] X.env = (false, eval (.Name "script" p1) X.env) :: starEach [.Constant (.int 0) k1 p2, .Constant (.int 313) k2 p3, .Constant (.int 0) k3 p4] X.env := by rfl)
    (e2 : starEach [.Constant (.int 0) k1 p2, .Constant (.int 313) k2 p3, .Constant (.int 0) k3 p4] X.env = (false, eval (.Constant (.int 0) k1 p2) X.env) :: starEach [.Constant (.int 313) k2 p3, .Constant (.int 0) k3 p4] X.env := by rfl)
    (e3 : starEach [.Constant (.int 313) k2 p3, .Constant (.int 0) k3 p4] X.env = (false, eval (.Constant (.int 313) k2 p3) X.env) :: starEach [.Constant (.int 0) k3 p4] X.env := by rfl) (e4 : starEach [.Constant (.int 0) k3 p4] X.env = (false, eval (.Constant (.int 0) k3 p4) X.env) :: starEach [] X.env := by rfl)
    {vs : List V} {H : Hp} (hvs : vs = [.ref sc]) (hsc : ∀ v, (G v).scr = sc) (htabV : ∀ v, LamX.Tabs (G v).tabs H) (hownV : ∀ v, (G v).own = []) (hscrV : ∀ v, SqL (G v).K H (G v).scr ((G v).cells.map V.int)) (ok : ∀ q, ∃ v R', semV v (startLaw N i q) (some ⟨q, 0, 313, 0⟩) = .rt (.bl true) R') :
    ∃ t, PSs X (.Assign [.Name "row" p0] (.List [.Name "script" p1, .Constant (.int 0) k1 p2, .Constant (.int 313) k2 p3, .Constant (.int 0) k3 p4] p5) p6 :: rest) t ∧ t { nx := fun _ H' => V.non = .bl true, rt := fun v _ => v = .bl true } (L2.start N vs) H := by
  refine ⟨_, pss_cons (ps_set hN hi hx (pe_lst (pa_cons (pe_var h0 v0) (pa_cons pe_int (pa_cons pe_int (pa_cons pe_int pa_nil e4) e3) e2) e1)) hs hf) (u := fun Dn σ H => ∃ v, tS (G v) (fun _ _ _ _ => False) (semV v) Dn σ H) ⟨fun pins s σ H D I q => by
    obtain ⟨v, q⟩ := q
    exact (hr v).run pins s σ H D I q⟩, ?_⟩
  subst hvs eN
  have lenN : 0 < X.N.length := by
    rw [List.getElem?_eq_some_iff] at h0
    obtain ⟨h, _⟩ := h0
    exact h
  have st0 : (L2.start X.N [V.ref sc])[0]? = some (some (.ref sc)) := rfl
  refine ⟨.ref sc, st0, by show 4 ≤ sizeLine; decide, fun q hq => ?_⟩
  obtain ⟨v, R', fin⟩ := ok q
  refine ⟨v, ?_⟩
  have hscr := hscrV v
  have htab := htabV v
  have hsc := hsc v
  have hown := hownV v
  subst hsc
  clear ok hr hscrV htabV hownV
  generalize G v = Γ at *
  have gr : ∀ b o, H b = some o → upd H q (.lst [.ref Γ.scr, .int 0, .int 313, .int 0]) b = some o := fun b o e => by rw [upd_ne (ne_of_none e hq)]; exact e
  have sl : (L2.start X.N [V.ref Γ.scr]).length = X.N.length := by
    unfold L2.start
    simp
    omega
  have nsq : Γ.scr ≠ q ∨ Γ.scr = q := by by_cases z : Γ.scr = q <;> simp [z]
  have hsc2 : SqL Γ.K (upd H q (.lst [.ref Γ.scr, .int 0, .int 313, .int 0])) Γ.scr (Γ.cells.map V.int) := SqL.grow gr hscr
  have nscr : Γ.scr ∈ [q] → ScrK Γ := fun z => by
    have e : Γ.scr = q := by simpa using z
    rcases hscr with (h | ⟨o, h⟩) | h
    · rw [e, hq] at h; cases h
    · rw [e, hq] at h; cases h
    · exact .inr h
  have S : RepS Γ (upd H q (.lst [.ref Γ.scr, .int 0, .int 313, .int 0])) [q] [q] [] (some ⟨q, 0, 313, 0⟩) (upd H q (.lst [.ref Γ.scr, .int 0, .int 313, .int 0])) ((L2.start X.N [V.ref Γ.scr]).set i (some (.ref q))) (startLaw X.N i q) := {
    row := ⟨⟨htab.ext gr, fun p hp => by rw [hown] at hp; cases hp⟩, upd_same⟩
    ra := fun a ha => ha
    ba := fun a ha => ha
    rb := fun a ha => ha
    al := fun a ha => by
      have e : a = q := by simpa using ha
      subst e
      exact ⟨_, upd_same, rfl⟩
    sc := hsc2
    sb := nscr
    ext := .refl
    own := fun p hp => by cases hp
    nd := .nil
    slots := by
      obtain ⟨P', h1, h2⟩ := (slots_none (Γ := Γ) (Hh := hide ([q] ++ []) (upd H q (.lst [.ref Γ.scr, .int 0, .int 313, .int 0]))) (H := upd H q (.lst [.ref Γ.scr, .int 0, .int 313, .int 0])) sl).set (v := .ref q) (d := .row q) (by rw [Rep]) i
      have : P' = [] := List.sublist_nil.mp h2
      subst this
      exact h1 }
  refine ⟨_, [q], [q], [], some ⟨q, 0, 313, 0⟩, startLaw X.N i q, S, ?_⟩
  show AllK Γ _ _ _ _ _ _ _ _ (semV v (startLaw X.N i q) (some ⟨q, 0, 313, 0⟩))
  rw [fin]
  intro v H' m r
  exact r.bl_eq
/-! ### max, min of a list -/
def mxI : List Int → Int
  | [] => 0
  | [a] => a
  | a :: b :: r => if mxI (b :: r) < a then a else mxI (b :: r)
def mnI : List Int → Int
  | [] => 0
  | [a] => a
  | a :: b :: r => if a < mnI (b :: r) then a else mnI (b :: r)
theorem mxI_mem : ∀ {ns : List Int}, ns ≠ [] → mxI ns ∈ ns
  | [], h => absurd rfl h
  | [a], _ => by simp [mxI]
  | a :: b :: r, _ => by
    have ih := mxI_mem (ns := b :: r) (by simp)
    rw [mxI]
    split
    · exact List.mem_cons_self
    · exact List.mem_cons_of_mem _ ih
theorem mxI_le : ∀ {ns : List Int} {y : Int}, y ∈ ns → y ≤ mxI ns
  | [], _, h => nomatch h
  | [a], y, h => by
    have : y = a := by simpa using h
    rw [this, mxI]
    exact Int.le_refl _
  | a :: b :: r, y, h => by
    rw [mxI]
    cases h with
    | head => split <;> omega
    | tail _ h =>
      have := mxI_le (ns := b :: r) h
      split <;> omega
theorem mnI_mem : ∀ {ns : List Int}, ns ≠ [] → mnI ns ∈ ns
  | [], h => absurd rfl h
  | [a], _ => by simp [mnI]
  | a :: b :: r, _ => by
    have ih := mnI_mem (ns := b :: r) (by simp)
    rw [mnI]
    split
    · exact List.mem_cons_self
    · exact List.mem_cons_of_mem _ ih
theorem mnI_le : ∀ {ns : List Int} {y : Int}, y ∈ ns → mnI ns ≤ y
  | [], _, h => nomatch h
  | [a], y, h => by
    have : y = a := by simpa using h
    rw [this, mnI]
    exact Int.le_refl _
  | a :: b :: r, y, h => by
    rw [mnI]
    cases h with
    | head => split <;> omega
    | tail _ h =>
      have := mnI_le (ns := b :: r) h
      split <;> omega
def fMax : List D → Option D
  | [.lst ds] => (nums ds).bind fun ns => if ns = [] then none else some (.int (mxI ns))
  | _ => none
def fMin : List D → Option D
  | [.lst ds] => (nums ds).bind fun ns => if ns = [] then none else some (.int (mnI ns))
  | _ => none
theorem cd_max {Γ : Ctx} {K : PySem.W.Frag} : CallD Γ (rMax K) fMax := fun A H xs as d Q al r e q => by
  unfold fMax at e
  split at e
  · obtain ⟨v, rfl, r1⟩ := r.one_inv
    obtain ⟨p, ys, rfl, h1, h2, _⟩ := r1.lst_at
    obtain ⟨ns, en, e2⟩ := Option.bind_eq_some_iff.mp e
    split at e2
    · cases e2
    · rename_i hn
      cases e2
      have := nums_of h2 en
      subst this
      refine ⟨p, ns, rfl, SqL.of h1, List.length_pos_iff.mpr hn, fun m hm hy => ?_⟩
      have : m = mxI ns := Int.le_antisymm (mxI_le hm) (hy _ (mxI_mem hn))
      rw [this]
      exact q _ H (fun _ _ z => z) Rep.of_int
  · cases e
theorem cd_min {Γ : Ctx} {K : PySem.W.Frag} : CallD Γ (rMin K) fMin := fun A H xs as d Q al r e q => by
  unfold fMin at e
  split at e
  · obtain ⟨v, rfl, r1⟩ := r.one_inv
    obtain ⟨p, ys, rfl, h1, h2, _⟩ := r1.lst_at
    obtain ⟨ns, en, e2⟩ := Option.bind_eq_some_iff.mp e
    split at e2
    · cases e2
    · rename_i hn
      cases e2
      have := nums_of h2 en
      subst this
      refine ⟨p, ns, rfl, SqL.of h1, List.length_pos_iff.mpr hn, fun m hm hy => ?_⟩
      have : m = mnI ns := Int.le_antisymm (hy _ (mnI_mem hn)) (mnI_le hm)
      rw [this]
      exact q _ H (fun _ _ z => z) Rep.of_int
  · cases e
/-- the law's context, the worths chosen -/
def gv (K : PySem.W.Frag) (a : Addr) (cells : List Int) (v : (List Int → Int) × (List Int → Int)) : Ctx := mkΓ K (fun _ _ st => v.1 st) v.1 [] v.2 a cells
end DL

set_option Elab.async false
set_option linter.all false
set_option maxRecDepth 100000
set_option maxHeartbeats 2000000
namespace DL
open PySem PySem.Spec L2
/-! ### texts: methods of one argument -/
def dM1 (f : Str → D → Option D) (fa fb : SEnv → M D) : SEnv → M D := fun δ => fa δ >>= fun x => match x with
  | .str a => fb δ >>= fun y => M.lift (f a y)
  | _ => M.stuck
def M1D (Γ : Ctx) (r : V → List V → Hp → VK → Prop) (f : Str → D → Option D) : Prop := ∀ (A : List Addr) (H : Hp) (a : Str) (y : V) (b d : D) (Q : VK), All A H → Rep Γ (hide A H) b y → f a b = some d → (∀ v H', Grow H H' → Rep Γ (hide A H') d v → Q v H') → r (.str a) [y] H Q
def oSplit (a : Str) : D → Option D
  | .str b => if (b.length == 0) = false ∧ a.length + 2 ≤ sizeLine then some (.lst ((Txt.split a b).map D.str)) else none
  | _ => none
def strsD : List D → Option (List Str)
  | [] => some []
  | .str x :: ds => (strsD ds).map (x :: ·)
  | _ => none
def oJoin (a : Str) : D → Option D
  | .lst ds => (strsD ds).bind fun ys => if (ys.map (·.length)).sum + ys.length * a.length ≤ 16777216 then some (.str (Txt.join a ys)) else none
  | _ => none
def oEndswith (a : Str) : D → Option D
  | .str b => some (.bl (Txt.endswith a b))
  | _ => none
def oFind (a : Str) : D → Option D
  | .str b => some (.int (Txt.find a b))
  | _ => none
theorem repL_strs {Γ : Ctx} {H : Hp} : ∀ ys : List Str, RepL Γ H (ys.map D.str) (ys.map V.str)
  | [] => RepL_nil.mpr rfl
  | y :: ys => RepL_cons.mpr ⟨_, _, rfl, Rep.of_str, repL_strs ys⟩
theorem strsD_of {Γ : Ctx} {H : Hp} : ∀ {ds : List D} {xs : List V} {ys : List Str}, RepL Γ H ds xs → strsD ds = some ys → xs = ys.map V.str
  | [], xs, ys, r, e => by
    rw [RepL_nil] at r
    simp [strsD] at e
    rw [r, e]; rfl
  | d :: ds, xs, ys, r, e => by
    rw [RepL_cons] at r
    obtain ⟨v, ws, rfl, h1, h2⟩ := r
    cases d <;> simp only [strsD] at e <;> try (cases e)
    obtain ⟨cs, e1, rfl⟩ := Option.map_eq_some_iff.mp e
    rw [List.map_cons, h1.str_eq, strsD_of h2 e1]
section
variable {Γ : Ctx} {W : WX} {X : Cx} {o e a b tg : Expr} {fo fe fa fb : SEnv → M D} {pos apos : Pos}
theorem m1_imp {r : V → List V → Hp → VK → Prop} {f : Str → D → Option D} (hr : M1D Γ r f) {σ : St} {H : Hp} {Q : VK} (h : tD Γ W (dM1 f fo fe) σ H Q) : tM1 r (tD Γ W fo) (tD Γ W fe) σ H Q := by
  obtain ⟨H0, A, B, P, R, δ, S, h⟩ := h
  refine ⟨H0, A, B, P, R, δ, S, go S h fun x vx R1 H1 m1 r1 S1 h1 => ?_⟩
  cases x with
  | str z =>
    refine ⟨⟨z, r1.str_eq⟩, H0, A, B, P, R1, δ, S1, go S1 h1 fun y vy R2 H2 m2 r2 S2 h2 => ?_⟩
    obtain ⟨d, e, q⟩ := lift_out S2 h2
    rw [r1.str_eq]
    exact hr _ H2 z vy y d Q S2.all r2 e q
  | _ => exact h1.elim
theorem m1d_split : M1D Γ (fun x xs H Q => ∃ a b, x = .str a ∧ xs = [.str b] ∧ (b.length == 0) = false ∧ a.length + 2 ≤ sizeLine ∧ rNewStrs (Txt.split a b) H Q) oSplit := fun A H a y b d Q al r e q => by
  unfold oSplit at e
  split at e
  · split at e
    · rename_i hc
      cases e
      refine ⟨a, _, rfl, by rw [r.str_eq], hc.1, hc.2, fun p hp => ?_⟩
      exact q _ _ (grow_new hp) (Rep.new_lst al hp (repL_strs _))
    · cases e
  · cases e
theorem m1d_join {K : PySem.W.Frag} : M1D Γ (fun x xs H Q => ∃ a p, ∃ ys : List Str, x = .str a ∧ xs = [.ref p] ∧ (SqL K H p (ys.map V.str) ∨ SqT K H p (ys.map V.str)) ∧ (ys.map (·.length)).sum + ys.length * a.length ≤ 16777216 ∧ Q (.str (Txt.join a ys)) H) oJoin := fun A H a y b d Q al r e q => by
  unfold oJoin at e
  split at e
  · obtain ⟨ys, e1, e2⟩ := Option.bind_eq_some_iff.mp e
    split at e2
    · rename_i hc
      cases e2
      obtain ⟨p, xs, rfl, h1, h2, _⟩ := r.lst_at
      have := strsD_of h2 e1
      subst this
      exact ⟨a, p, ys, rfl, rfl, .inl (SqL.of h1), hc, q _ H (fun _ _ z => z) Rep.of_str⟩
    · cases e2
  · cases e
theorem m1d_endswith : M1D Γ (fun x xs H Q => ∃ a b, x = .str a ∧ xs = [.str b] ∧ Q (.bl (Txt.endswith a b)) H) oEndswith := fun A H a y b d Q al r e q => by
  unfold oEndswith at e
  split at e
  · cases e
    exact ⟨a, _, rfl, by rw [r.str_eq], q _ H (fun _ _ z => z) Rep.of_bl⟩
  · cases e
theorem m1d_find : M1D Γ (fun x xs H Q => ∃ a b, x = .str a ∧ xs = [.str b] ∧ Q (.int (Txt.find a b)) H) oFind := fun A H a y b d Q al r e q => by
  unfold oFind at e
  split at e
  · cases e
    exact ⟨a, _, rfl, by rw [r.str_eq], q _ H (fun _ _ z => z) Rep.of_int⟩
  · cases e
theorem pd_split (ho : PE X o (tD Γ W fo)) (he : PE X e (tD Γ W fe)) (hs : starEach [e] X.env = [(false, eval e X.env)] := by rfl) (hbase : attributeBase o "split" X.env (eval o X.env) = eval o X.env := by rfl) (hline : (apos.endLine == pos.line) = true := by rfl) :
    PE X (.Call (.Attribute o "split" apos) [e] [] pos) (tD Γ W (dM1 oSplit fo fe)) := (pe_split ho he hs hbase hline).imp fun _ _ _ h => m1_imp m1d_split h
theorem pd_join (ho : PE X o (tD Γ W fo)) (he : PE X e (tD Γ W fe)) (hs : starEach [e] X.env = [(false, eval e X.env)] := by rfl) (hbase : attributeBase o "join" X.env (eval o X.env) = eval o X.env := by rfl) (hline : (apos.endLine == pos.line) = true := by rfl) :
    PE X (.Call (.Attribute o "join" apos) [e] [] pos) (tD Γ W (dM1 oJoin fo fe)) := (pe_join ho he hs hbase hline).imp fun _ _ _ h => m1_imp m1d_join h
theorem pd_endswith (ho : PE X o (tD Γ W fo)) (he : PE X e (tD Γ W fe)) (hs : starEach [e] X.env = [(false, eval e X.env)] := by rfl) (hbase : attributeBase o "endswith" X.env (eval o X.env) = eval o X.env := by rfl) (hline : (apos.endLine == pos.line) = true := by rfl) :
    PE X (.Call (.Attribute o "endswith" apos) [e] [] pos) (tD Γ W (dM1 oEndswith fo fe)) := (pe_m1 F.slot_str_endswith F.type_str_endswith mt_endswith ho he hs hbase hline).imp fun _ _ _ h => m1_imp m1d_endswith h
theorem pd_find (ho : PE X o (tD Γ W fo)) (he : PE X e (tD Γ W fe)) (hs : starEach [e] X.env = [(false, eval e X.env)] := by rfl) (hbase : attributeBase o "find" X.env (eval o X.env) = eval o X.env := by rfl) (hline : (apos.endLine == pos.line) = true := by rfl) :
    PE X (.Call (.Attribute o "find" apos) [e] [] pos) (tD Γ W (dM1 oFind fo fe)) := (pe_m1 F.slot_str_find F.type_str_find mt_find ho he hs hbase hline).imp fun _ _ _ h => m1_imp m1d_find h
/-! ### signs -/
def signD (c : Nat) : D := .str ⟨#[c]⟩
def signsD : D → Option (List D)
  | .str z => some (z.cps.toList.map signD)
  | _ => none
def iSign (fe : SEnv → M D) : SEnv → M (List D) := fun δ => fe δ >>= fun x => M.lift (signsD x)
theorem dw_str {A : List Addr} {H : Hp} {z : Str} : DWk Γ A (Its z) (z.cps.toList.map signD) H :=
  ⟨_, _, _, walk_str (z := z), by simp, fun A2 H2 k => trivial, fun A2 H2 k al i x H3 hi y => by
    obtain ⟨rfl, c, hc, rfl⟩ := y
    refine ⟨signD c, ?_, fun _ _ z => z, Rep.of_str⟩
    rw [List.getElem?_map, Array.getElem?_toList, hc]
    rfl⟩
theorem di_sign (he : PE X e (tD Γ W fe)) : PI X tg e (iD Γ W (iSign fe)) := (pi_str he).imp fun σ H K h => by
  obtain ⟨H0, A, B, P, R, δ, S, h⟩ := h
  refine ⟨H0, A, B, P, R, δ, S, igo (γ := Nat) S h fun x vx R1 H1 m r S1 h1 => ?_⟩
  obtain ⟨ds, e1, q⟩ := ilift h1 S1.row
  cases x with
  | str z =>
    cases e1
    refine ⟨z, r.str_eq, ?_⟩
    exact q _ dw_str
  | _ => cases e1
def oInS : D → D → Option D
  | .str x, .str z => match x.cps.toList with
    | [c] => some (.bl (decide (c ∈ z.cps.toList)))
    | _ => none
  | _, _ => none
def oNotInS : D → D → Option D
  | .str x, .str z => match x.cps.toList with
    | [c] => some (.bl (!decide (c ∈ z.cps.toList)))
    | _ => none
  | _, _ => none
theorem one_sign {x : Str} {c : Nat} (h : x.cps.toList = [c]) : x = ⟨#[c]⟩ := TL.ext_tl h
theorem od_inS : OpD Γ (fun x y H Q => ∃ (c : Nat) (z : Str), x = .str ⟨#[c]⟩ ∧ y = .str z ∧ Q (.bl (decide (c ∈ z.cps.toList))) H) oInS := fun A H x y a b d Q al ra rb e q => by
  unfold oInS at e
  split at e
  · split at e
    · rename_i hx
      cases e
      exact ⟨_, _, by rw [ra.str_eq, one_sign hx], rb.str_eq, q _ H (fun _ _ h => h) Rep.of_bl⟩
    · cases e
  · cases e
theorem od_notInS : OpD Γ (fun x y H Q => ∃ (c : Nat) (z : Str), x = .str ⟨#[c]⟩ ∧ y = .str z ∧ Q (.bl (!decide (c ∈ z.cps.toList))) H) oNotInS := fun A H x y a b d Q al ra rb e q => by
  unfold oNotInS at e
  split at e
  · split at e
    · rename_i hx
      cases e
      exact ⟨_, _, by rw [ra.str_eq, one_sign hx], rb.str_eq, q _ H (fun _ _ h => h) Rep.of_bl⟩
    · cases e
  · cases e
end
end DL

set_option Elab.async false
set_option linter.all false
set_option maxRecDepth 100000
set_option maxHeartbeats 2000000
namespace DL
open PySem PySem.Spec L2
/-! ### a table of one's own: the memo -/
def Ctx.memo (Γ : Ctx) (b : Addr) : Ctx := { Γ with own := (b, Γ.cn) :: Γ.own }
theorem memo_self {Γ : Ctx} {b : Addr} : (Γ.memo b).own.lookup b = some Γ.cn := by
  show List.lookup b ((b, Γ.cn) :: Γ.own) = _
  rw [List.lookup_cons_self]
theorem memo_look {Γ : Ctx} {b q : Addr} (h : q ≠ b) : (Γ.memo b).own.lookup q = Γ.own.lookup q := by
  show List.lookup q ((b, Γ.cn) :: Γ.own) = _
  have e : (q == b) = false := beq_eq_false_iff_ne.mpr h
  rw [List.lookup_cons, e]
theorem memo_tv {Γ : Ctx} {b q : Addr} (h : q ≠ b) (st : List Int) : (Γ.memo b).tv q st = Γ.tv q st := by
  unfold Ctx.tv
  rw [memo_look h]
  rfl
theorem memo_tab {Γ : Ctx} {b q : Addr} (h : q ≠ b) {kvs : List (List Key × V)} : TabOk (Γ.memo b) q kvs ↔ TabOk Γ q kvs := by
  unfold TabOk
  simp only [memo_tv h]
theorem Ext.tomemo {Γ : Ctx} {B : List Addr} {H H' : Hp} {b : Addr} (hb : H b = none) (e : Ext Γ B H H') : Ext (Γ.memo b) B H H' := ⟨e.st, fun q kvs n h => by
  have nq : q ≠ b := fun z => by rw [z, hb] at h; cases h
  obtain ⟨k, h1, h2⟩ := e.ca q kvs n h
  exact ⟨k, h1, fun c => (memo_tab nq).mpr (h2 ((memo_tab nq).mp c))⟩, e.al⟩
theorem Ext.unmemo {Γ : Ctx} {B : List Addr} {H H' : Hp} {b : Addr} (hb : H b = none) (e : Ext (Γ.memo b) B H H') : Ext Γ B H H' := ⟨e.st, fun q kvs n h => by
  have nq : q ≠ b := fun z => by rw [z, hb] at h; cases h
  obtain ⟨k, h1, h2⟩ := e.ca q kvs n h
  exact ⟨k, h1, fun c => (memo_tab nq).mp (h2 ((memo_tab nq).mpr c))⟩, e.al⟩
theorem RowOk.tomemo {Γ : Ctx} {H : Hp} {R : Option Rw} {b : Addr} (h : RowOk Γ H R) (hb : H b = none) : RowOk (Γ.memo b) (L2.upd H b (.dT [])) R := by
  have h' := h.new (o := .dT []) hb
  refine ⟨⟨h'.1.1, fun p hp => ?_⟩, h'.2⟩
  rcases List.mem_cons.mp hp with z | z
  · subst z
    exact ⟨[], upd_same, List.nodup_nil, fun _ z => by cases z⟩
  · obtain ⟨k0, h3, _⟩ := h.1.2 p z
    have nq : p.1 ≠ b := fun z => by rw [z, hb] at h3; cases h3
    obtain ⟨kvs, h1, h2⟩ := h'.1.2 p z
    exact ⟨kvs, h1, (memo_tab nq).mpr h2⟩
theorem own_ne {Γ : Ctx} {H : Hp} {R : Option Rw} {b : Addr} (h : RowOk Γ H R) (hb : H b = none) : ∀ p ∈ Γ.own, p.1 ≠ b := fun p hp z => by
  obtain ⟨k0, h3, _⟩ := h.1.2 p hp
  rw [z, hb] at h3
  cases h3
theorem RowOk.unmemo {Γ : Ctx} {H : Hp} {R : Option Rw} {b : Addr} (n : ∀ p ∈ Γ.own, p.1 ≠ b) (h : RowOk (Γ.memo b) H R) : RowOk Γ H R := by
  refine ⟨⟨h.1.1, fun p hp => ?_⟩, h.2⟩
  obtain ⟨kvs, h1, h2⟩ := h.1.2 p (List.mem_cons_of_mem _ hp)
  exact ⟨kvs, h1, (memo_tab (n p hp)).mp h2⟩
mutual
theorem Rep.tomemo {Γ : Ctx} {H : Hp} {b : Addr} (hb : ∀ kvs, H b ≠ some (.dT kvs)) : ∀ (d : D) {v : V}, Rep Γ H d v → Rep (Γ.memo b) H d v
  | .non, _, h => by rw [Rep] at h ⊢; exact h
  | .bl _, _, h => by rw [Rep] at h ⊢; exact h
  | .int _, _, h => by rw [Rep] at h ⊢; exact h
  | .str _, _, h => by rw [Rep] at h ⊢; exact h
  | .lst ds, _, h => by
    rw [Rep_lst] at h ⊢
    obtain ⟨a, xs, e, e1, h⟩ := h
    exact ⟨a, xs, e, e1, RepL.tomemo hb ds h⟩
  | .tup ds, _, h => by
    rw [Rep_tup] at h ⊢
    obtain ⟨a, xs, e, e1, h⟩ := h
    exact ⟨a, xs, e, e1, RepL.tomemo hb ds h⟩
  | .dic, _, h => by rw [Rep] at h ⊢; exact h
  | .web n ss, _, h => by
    rw [Rep] at h ⊢
    obtain ⟨a, dx, t, q, xs, kvs, e, e1, e2, e3, e4, e5⟩ := h
    have nq : q ≠ b := fun z => hb kvs (by rw [← z]; exact e4)
    exact ⟨a, dx, t, q, xs, kvs, e, e1, e2, e3, e4, (memo_tab nq).mpr e5.1, (memo_look nq).trans e5.2⟩
  | .row _, _, h => by rw [Rep] at h ⊢; exact h
  | .fn _, _, h => by rw [Rep] at h ⊢; exact h
theorem RepL.tomemo {Γ : Ctx} {H : Hp} {b : Addr} (hb : ∀ kvs, H b ≠ some (.dT kvs)) : ∀ (ds : List D) {vs : List V}, RepL Γ H ds vs → RepL (Γ.memo b) H ds vs
  | [], _, h => by rw [RepL_nil] at h ⊢; exact h
  | d :: ds, _, h => by
    rw [RepL_cons] at h ⊢
    obtain ⟨v, ws, e, h1, h2⟩ := h
    exact ⟨v, ws, e, Rep.tomemo hb d h1, RepL.tomemo hb ds h2⟩
end
mutual
theorem Rep.unmemo {Γ : Ctx} {H : Hp} {b : Addr} : ∀ (d : D) {v : V}, Rep (Γ.memo b) H d v → Rep Γ H d v
  | .non, _, h => by rw [Rep] at h ⊢; exact h
  | .bl _, _, h => by rw [Rep] at h ⊢; exact h
  | .int _, _, h => by rw [Rep] at h ⊢; exact h
  | .str _, _, h => by rw [Rep] at h ⊢; exact h
  | .lst ds, _, h => by
    rw [Rep_lst] at h ⊢
    obtain ⟨a, xs, e, e1, h⟩ := h
    exact ⟨a, xs, e, e1, RepL.unmemo ds h⟩
  | .tup ds, _, h => by
    rw [Rep_tup] at h ⊢
    obtain ⟨a, xs, e, e1, h⟩ := h
    exact ⟨a, xs, e, e1, RepL.unmemo ds h⟩
  | .dic, _, h => by rw [Rep] at h ⊢; exact h
  | .web n ss, _, h => by
    rw [Rep] at h ⊢
    obtain ⟨a, dx, t, q, xs, kvs, e, e1, e2, e3, e4, e5⟩ := h
    have nq : q ≠ b := fun z => by
      have := e5.2
      rw [z, memo_self] at this
      cases this
    exact ⟨a, dx, t, q, xs, kvs, e, e1, e2, e3, e4, (memo_tab nq).mp e5.1, (memo_look nq).symm.trans e5.2⟩
  | .row _, _, h => by rw [Rep] at h ⊢; exact h
  | .fn _, _, h => by rw [Rep] at h ⊢; exact h
theorem RepL.unmemo {Γ : Ctx} {H : Hp} {b : Addr} : ∀ (ds : List D) {vs : List V}, RepL (Γ.memo b) H ds vs → RepL Γ H ds vs
  | [], _, h => by rw [RepL_nil] at h ⊢; exact h
  | d :: ds, _, h => by
    rw [RepL_cons] at h ⊢
    obtain ⟨v, ws, e, h1, h2⟩ := h
    exact ⟨v, ws, e, Rep.unmemo d h1, RepL.unmemo ds h2⟩
end
theorem SlotsR.tomemo {Γ : Ctx} {Hh H : Hp} {b : Addr} (hb : ∀ kvs, Hh b ≠ some (.dT kvs)) {σ : L2.St} {δ : SEnv} {P : List Addr} (h : SlotsR Γ Hh H σ δ P) : SlotsR (Γ.memo b) Hh H σ δ P := by
  induction h with
  | nil => exact .nil
  | none _ ih => exact .none ih
  | dat r _ ih => exact .dat (Rep.tomemo hb _ r) ih
  | own h1 h2 _ ih => exact .own h1 (RepL.tomemo hb _ h2) ih
theorem RepS.tomemo {Γ : Ctx} {H0 H : Hp} {A B P : List Addr} {R : Option Rw} {σ : L2.St} {δ : SEnv} {b : Addr} (S : RepS Γ H0 A B P R H σ δ) (hb : H b = none) : RepS (Γ.memo b) H0 A B P R (L2.upd H b (.dT [])) σ δ where
  row := S.row.tomemo hb
  ra := S.ra
  ba := S.ba
  rb := S.rb
  al := fun a ha => by
    obtain ⟨o, h, n⟩ := S.al a ha
    exact ⟨o, by rw [upd_ne (ne_of_none h hb)]; exact h, n⟩
  sc := S.sc
  sb := S.sb
  ext := (S.ext.tomemo (S.ext.free hb)).trans (.new hb)
  own := fun p hp => by
    obtain ⟨h1, h2, xs, h3⟩ := S.own p hp
    exact ⟨h1, h2, xs, by rw [upd_ne (ne_of_none h3 hb)]; exact h3⟩
  nd := S.nd
  slots := by
    have h1 := S.slots.tomemo (b := b) (fun kvs z => by have := (hide_some z).2; rw [hb] at this; cases this)
    exact h1.keep (Ext.keeps (Γ := Γ.memo b) (B := B) (.new hb) S.bap) fun p hp vs e => by rw [upd_ne (ne_of_none e hb)]; exact e
theorem Mv.unmemo {Γ : Ctx} {B : List Addr} {R R' : Option Rw} {H H' : Hp} {b : Addr} (n : ∀ p ∈ Γ.own, p.1 ≠ b) (hb : H b = none) (m : Mv (Γ.memo b) B R R' H H') : Mv Γ B R R' H H' := ⟨m.ext.unmemo hb, m.row.unmemo n, m.adr⟩
/-! ### what is kept in a memo -/
def sMemo (Γ : Ctx) (j m : Nat) (f : SM) (fe : SEnv → M D) : SM := fun δ R => match δ[j]?, δ[m]? with
  | some (.dat (.tup ds)), some (.dat (.row b)) => (match nums ds, Γ.own.lookup b with
    | some st, some g => (match f δ R with
      | .nx δ' R' => (match δ'[j]?, δ'[m]? with
        | some (.dat (.tup ds')), some (.dat (.row b')) => (match fe δ' R' with
          | .ok (.int v) R2 => if v = g st ∧ R' = R ∧ R2 = R ∧ StI st ∧ b' = b ∧ nums ds' = some st then .rt (.int v) R else .stuck
          | _ => .stuck)
        | _, _ => .stuck)
      | _ => .stuck)
    | _, _ => .stuck)
  | _, _ => .stuck
section
variable {Γ : Ctx} {W : WX} {X : Cx} {e em et em2 et2 em3 et3 : Expr} {s1 s2 : Stmt} {f1 f2 : SM} {fe : SEnv → M D} {j m : Nat} {p1 p2 p3 p4 p5 p6 p7 p8 p9 : Pos}
theorem ds_memo (hu : X.A.units + 1 < cLine) (hm1 : PE X em (tVar m)) (ht : PE X et (tVar j)) (hm2 : PE X em2 (tVar m)) (ht2 : PE X et2 (tVar j)) (hm3 : PE X em3 (tVar m)) (ht3 : PE X et3 (tVar j)) (h1 : PS X s1 (tS Γ W f1)) (h2 : PS X s2 (tS Γ W f2)) (he : PE X e (tD Γ W fe)) (hsl : NoSl et3)
    (hm : behindInMarks .NotIn em = false := by first | exact nobehind _ (by decide) (by decide) | rfl)
    (hs : swapsWith e (some (.Subscript em2 et2 p4)) p5.line X.env = pure false := by rfl) :
    PSs X [.If (.Compare et [.NotIn] [em] p2) [s1, s2, .Assign [.Subscript em2 et2 p4] e p5] [] p6, .Return (some (.Subscript em3 et3 p8)) p9] (tS Γ W (sMemo Γ j m (sSeq f1 f2) fe)) :=
  (pss_cons (ps_if (pt_cmp (pc_dnotin hu ht hm1) hm) (ds_then h1 (ds_then h2 (pss_one (ps_dput hu hm2 ht2 he hs)))) pss_nil) (pss_one (ps_ret (pe_dget hu hm3 ht3 hsl)))).imp fun Dn σ H h => by
  obtain ⟨H0, A, B, P, R, δ, S, h⟩ := h
  unfold sMemo at h
  split at h
  · rename_i ds b e1 e2
    split at h
    · rename_i st g e3 eg
      split at h
      · rename_i δ' R' e4
        split at h
        · rename_i ds' b' e5 e6
          split at h
          · rename_i v R2 e7
            split at h
            · rename_i hc
              obtain ⟨ev, rfl, rfl, hst, rfl, en'⟩ := hc
              have key : ∀ {H : Hp} {ds : List D} {vt : V}, Rep Γ H (.tup ds) vt → nums ds = some st → ∃ c, vt = .ref c ∧ H c = some (.tup ((st.map Sum.inl : List Key).map kV)) := fun r en => by
                obtain ⟨c, ys, rfl, hB, hL⟩ := Rep_tup.mp r
                have ey := nums_of hL en
                subst ey
                exact ⟨c, rfl, by rw [hB, List.map_map]; rfl⟩
              have tab : ∀ {H : Hp} {R : Option Rw}, RowOk Γ H R → ∃ kvs, H b' = some (.dT kvs) ∧ TabOk Γ b' kvs := fun row => row.1.2 _ (lookup_mem' eg)
              have tvg : Γ.tv b' st = g st := by
                unfold Ctx.tv
                rw [eg]
              obtain ⟨vt, g1, r1⟩ := S.slots.get e1
              obtain ⟨vm, g2, r2⟩ := S.slots.get e2
              rw [Rep] at r2
              subst r2
              obtain ⟨c, rfl, hB⟩ := key r1 e3
              obtain ⟨kvs, hQ, hC⟩ := tab S.row
              have hB' := (hide_some hB).2
              cases hv : valV kvs (st.map Sum.inl) with
              | some x =>
                have gt := DGet.t hQ hB'
                rw [hv] at gt
                refine ⟨_, g1, _, g2, b', _, rfl, gt, false, rfl, ?_⟩
                simp only [Bool.false_eq_true, if_false]
                refine ⟨_, g2, _, g1, b', _, rfl, gt, ?_⟩
                have ex : x = .int v := by rw [hC.val hv, tvg, ev]
                subst ex
                exact h _ H ⟨S.ext, S.row, rfl⟩ Rep.of_int
              | none =>
                have gt := DGet.t hQ hB'
                rw [hv] at gt
                refine ⟨_, g1, _, g2, b', _, rfl, gt, true, rfl, ?_⟩
                simp only [if_true]
                refine then_seq ⟨H0, A, B, P, R2, δ, S, ?_⟩
                rw [e4]
                intro σ1 H1 P1 s1 S1
                refine ⟨H0, A, B, P1, R2, δ', S1, ?_⟩
                rw [e7]
                intro w1 H2 mv rv
                have := rv.int_eq
                subst this
                have S2 := S1.move mv
                obtain ⟨vt', g1', r1'⟩ := S2.slots.get e5
                obtain ⟨vm', g2', r2'⟩ := S2.slots.get e6
                rw [Rep] at r2'
                subst r2'
                obtain ⟨c', rfl, hB1⟩ := key r1' en'
                obtain ⟨kvs1, hQ1, hC1⟩ := tab S2.row
                have hB1' := (hide_some hB1).2
                refine ⟨_, g2', _, g1', b', _, rfl, DPut.t hQ1 hB1' hC1.small, ?_⟩
                have ne2 : c' ≠ b' := ne_of hB1' hQ1 (by intro z; cases z)
                have ew : v = Γ.tv b' st := by rw [tvg, ev]
                rw [ew] at h ⊢
                have gt4 := DGet.t (H := L2.upd H2 b' (.dT (putK kvs1 (st.map Sum.inl) (.int (Γ.tv b' st))))) (b := c') (k := st.map Sum.inl) upd_same (by rw [upd_ne ne2]; exact hB1')
                rw [valV_put, if_pos rfl] at gt4
                refine ⟨_, g2', _, g1', b', _, rfl, gt4, ?_⟩
                exact h _ _ ⟨S2.ext.trans (Ext.put hQ1 hst), S2.row.updT hQ1 fun c => c.put hst, rfl⟩ Rep.of_int
            · exact h.elim
          · exact h.elim
        · exact h.elim
      · exact h.elim
    · exact h.elim
  · exact h.elim
end
/-! ### a call with a memo of its own -/
open Classical in
noncomputable def dMemo (F : Addr → List D → M D) (i j : Nat) : SEnv → M D := fun δ R => match δ[i]?, δ[j]? with
  | some (.dat x), some (.dat y) => if h : ∃ v : Int, ∀ b, F b [x, y, .row b] R = .ok (.int v) R then .ok (.int h.choose) R else .stuck
  | _, _ => .stuck
theorem dMemo_eq {F : Addr → List D → M D} {i j : Nat} {δ : SEnv} {R : Option Rw} {x y : D} {v : Int} (h1 : δ[i]? = some (.dat x)) (h2 : δ[j]? = some (.dat y)) (h : ∀ b, F b [x, y, .row b] R = .ok (.int v) R) : dMemo F i j δ R = .ok (.int v) R := by
  unfold dMemo
  rw [h1, h2]
  have hx : ∃ v : Int, ∀ b, F b [x, y, .row b] R = .ok (.int v) R := ⟨v, h⟩
  simp only [hx, dite_true]
  have e := hx.choose_spec 0
  rw [h 0] at e
  cases e
  rfl
section
variable {Γ : Ctx} {W : WX} {X : Cx} {ew et : Expr} {p pos pd : Pos} {k : Nat} {x : Str} {F : Addr → List D → M D} {i j : Nat}
theorem pe_callU {G : Addr → Ctx} {n : Nat} {e : Expr} {es : List Expr} {t : TA} (C : ∀ b, Cal X.prog X.w X.K X.mg X.base (G b) k x n (F b)) (hr : Room k X.A) (hg : Gl X x) {E : L2.St → XK} (hx : ∀ σ, PassesAt (L2.CX X.prog X.w) X σ (E σ))
    (ha : PA X (e :: es) t) (hdb : (x == ("__debug__" : Str)) = false := by decide) (he : starEach (e :: es) X.env = (false, eval e X.env) :: starEach es X.env := by rfl) (hpl : (backTo pos (starEach es X.env)).any (·.1) = false := by rfl) :
    PE X (.Call (.Name x p) (e :: es) [] pos) (tCallS (fun vs H Q E => ∃ b, spD (G b) n (F b) vs H Q E) E t) := by
  obtain ⟨f, fd0, ps0, ok0, gx, kp, b0⟩ := (C 0).ex
  refine ⟨fun pins s σ H Q I h => ?_⟩
  refine wpAny_Call_Name_kw (ld_glob I hg gx ?_ hdb)
  refine PySem.W.callWith_K (h₀ := X.base) I.ok.mod.kin kp (thn (ha.run pos pins s σ H _ I h) fun us s1 ⟨vs, H1, I1, r, q⟩ => ⟨I1.kIn, ?_⟩) he hpl
  obtain ⟨b, q⟩ := q
  obtain ⟨f', fd, ps, ok, gx', kp', bb⟩ := (C b).ex
  rw [gx] at gx'
  cases gx'
  exact run_fnS ok hr bb (hx σ) I1 r q
theorem pd_callM (C : ∀ b, Cal X.prog X.w X.K X.mg X.base (Γ.memo b) k x 3 (F b)) (hr : Room k X.A) (tk : Takes X W) (hw : PE X ew (tVar i)) (ht : PE X et (tVar j)) (hg : Gl X x := by rfl)
    (hdb : (x == ("__debug__" : Str)) = false := by decide) (h1 : starEach [ew, et, .Dict [] [] pd] X.env = (false, eval ew X.env) :: starEach [et, .Dict [] [] pd] X.env := by rfl)
    (h2 : starEach [et, .Dict [] [] pd] X.env = (false, eval et X.env) :: starEach [.Dict [] [] pd] X.env := by rfl) (h3 : starEach [.Dict [] [] pd] X.env = (false, eval (.Dict [] [] pd) X.env) :: starEach [] X.env := by rfl)
    (hpl : (backTo pos (starEach [et, .Dict [] [] pd] X.env)).any (·.1) = false := by rfl) :
    PE X (.Call (.Name x p) [ew, et, .Dict [] [] pd] [] pos) (tD Γ W (dMemo F i j)) :=
  (pe_callU C hr hg (E := WE W) (fun σ => passAt tk σ) (pa_cons hw (pa_cons ht (pa_cons pe_dnewT pa_nil h3) h2) h1) hdb h1 hpl).imp fun σ H Q h => by
  obtain ⟨H0, A, B, P, R, δ, S, h⟩ := h
  unfold dMemo at h
  split at h
  · rename_i dx dy e1 e2
    split at h
    · rename_i hx
      obtain ⟨vx, g1, r1⟩ := S.slots.get e1
      obtain ⟨vy, g2, r2⟩ := S.slots.get e2
      refine ⟨_, g1, _, g2, fun b hb => ⟨b, ?_⟩⟩
      have nb : ∀ kvs, hide (A ++ P) H b ≠ some (.dT kvs) := fun kvs z => by have := (hide_some z).2; rw [hb] at this; cases this
      have kp : Keeps (Γ.memo b) (hide (A ++ P) H) (hide (A ++ P) (L2.upd H b (.dT []))) := Ext.keeps (B := B) (.new hb) S.bap
      have S1 := S.tomemo hb
      refine ⟨[dx, dy, .row b], R, A ++ P, RepL_cons.mpr ⟨_, _, rfl, Rep.keep kp _ (Rep.tomemo nb _ r1), RepL_cons.mpr ⟨_, _, rfl, Rep.keep kp _ (Rep.tomemo nb _ r2), RepL.one (by rw [Rep])⟩⟩, rfl, S1.row, fun a ha => List.mem_append_left _ (S.ra a ha), S1.all, S1.scr, fun z => S.sb (S.rb _ z), ?_⟩
      rw [hx.choose_spec b]
      intro v H' m r
      have m2 : Mv (Γ.memo b) (rAddr R) R R H H' := ⟨Ext.trans (.new hb) m.ext, m.row, m.adr⟩
      have m3 := m2.unmemo (own_ne S.row hb) hb
      exact h v H' ⟨m3.ext.mono S.rb, m3.row, m3.adr⟩ (Rep.unmemo _ r)
    · exact h.elim
  · exact h.elim
/-! ### a memo and a list of one's own, to the body's end -/
def isEnd : SOut → Prop
  | .rt _ _ => True
  | .ex _ _ _ => True
  | _ => False
open Classical in
noncomputable def sOpen (f : Addr → SM) (i j : Nat) : SM := fun δ R => if h : ∃ o, isEnd o ∧ ∀ b, f b ((δ.set i (.dat (.row b))).set j (.own [])) R = o then h.choose else .stuck
theorem sOpen_eq {f : Addr → SM} {i j : Nat} {δ : SEnv} {R : Option Rw} {o : SOut} (he : isEnd o) (h : ∀ b, f b ((δ.set i (.dat (.row b))).set j (.own [])) R = o) : sOpen f i j δ R = o := by
  have hx : ∃ o, isEnd o ∧ ∀ b, f b ((δ.set i (.dat (.row b))).set j (.own [])) R = o := ⟨o, he, h⟩
  unfold sOpen
  rw [dif_pos hx, ← hx.choose_spec.2 0, h 0]
theorem ds_open {i j : Nat} {xk xf : Str} {px py pt : Pos} {kt k2 : Nat} {pt2 pd pl pos : Pos} {rest : List Stmt} {f : Addr → SM} (hr : ∀ b, PSs X rest (tS (Γ.memo b) W (f b))) (hc : X.calm = true) (hN : X.N.Nodup) (hi : X.N[i]? = some xk) (hj : X.N[j]? = some xf) (hij : i ≠ j) (hx : X.env.scope.names.lookup xk = some .local) (hy : X.env.scope.names.lookup xf = some .local)
    (hw : swappedStores [.Tuple [.Name xk px, .Name xf py] kt pt] (.Tuple [.Dict [] [] pd, .List [] pl] k2 pt2) X.env = pure (some [xk, xf])) (hs : swapsWithSole [.Tuple [.Name xk px, .Name xf py] kt pt] (.Tuple [.Dict [] [] pd, .List [] pl] k2 pt2) pos.line X.env = pure false := by rfl)
    (h1 : starEach [.Dict [] [] pd, .List [] pl] X.env = (false, eval (.Dict [] [] pd) X.env) :: starEach [.List [] pl] X.env := by rfl)
    (h2 : starEach [.List [] pl] X.env = (false, eval (.List [] pl) X.env) :: starEach [] X.env := by rfl) :
    PSs X (.Assign [.Tuple [.Name xk px, .Name xf py] kt pt] (.Tuple [.Dict [] [] pd, .List [] pl] k2 pt2) pos :: rest) (tS Γ W (sOpen f i j)) :=
  (pss_cons (ps_par hc hN hi hj hij hx hy (pa_cons pe_dnewT (pa_cons (pe_lst pa_nil) pa_nil h2) h1) hw hs) (u := fun Dn σ H => ∃ b, tS (Γ.memo b) W (f b) Dn σ H) ⟨fun pins s σ H D I q => by
    obtain ⟨b, q⟩ := q
    exact (hr b).run pins s σ H D I q⟩).imp fun Dn σ H h => by
  obtain ⟨H0, A, B, P, R, δ, S, h⟩ := h
  unfold sOpen at h
  split at h
  · rename_i hx
    obtain ⟨he, hb⟩ := hx.choose_spec
    generalize hx.choose = o at h he hb
    intro b hfree
    refine ⟨by decide, fun q hq => ⟨_, _, rfl, b, ?_⟩⟩
    have S1 := S.tomemo hfree
    have r0 : Rep (Γ.memo b) (hide (A ++ P) (L2.upd H b (.dT []))) (.row b) (.ref b) := by rw [Rep]
    obtain ⟨P1, S2, sub1⟩ := S1.set r0 i
    obtain ⟨P2, S3, st⟩ := S2.setOwn (p := q) (H' := L2.upd (L2.upd H b (.dT [])) q (.lst [])) (vs := []) (ds := []) ⟨.new hq, S2.row.new hq, rfl⟩ hq upd_same (RepL_nil.mpr rfl) j
    refine ⟨H0, A, B, P2, R, _, S3, ?_⟩
    rw [hb b]
    have n := own_ne S.row hfree
    have f0 := S.ext.free hfree
    cases o with
    | rt d R' => exact fun v H' m r => h v H' (m.unmemo n f0) (Rep.unmemo _ r)
    | ex c d R' => exact fun v dx σ' H' m hx r => h v dx σ' H' (m.unmemo n f0) hx (Rep.unmemo _ r)
    | nx _ _ => exact he.elim
    | bk _ _ => exact he.elim
    | ct _ _ => exact he.elim
    | stuck => exact he.elim
  · exact h.elim
end
end DL

set_option Elab.async false
set_option linter.all false
set_option maxRecDepth 100000
set_option maxHeartbeats 2000000
namespace DL
open PySem PySem.Spec L2
/-! ### lambdas with parameters: made, kept, called -/
theorem lamO_at {P : Program} {w : World} {H : Hp} {h : Heap} {f : Addr} {F : NdefX.NF} {e : Expr} (hok : HOk P w H h) (z : H f = some (LamO f F e)) : ∃ (od : Option Addr) (sl : Array (Option Value)) (pm ctv : Value), h.get? f = some (⟨.type "function", od, .func (PySem.W.kla_fn F.name F.qual F.params e F.scope F.cl pm (.ref F.c) ctv), sl⟩ : Obj) := (hok f _ z).1
abbrev lamF (X : Cx) (params : Arguments) (scope : Scope) (c' : Addr) : NdefX.NF := ⟨"<lambda>", lamN X, params, [], scope, cloFrom X.env.cells scope.names [], c'⟩
section
variable {X : Cx} {pins : List (Addr × Obj)} {σ : L2.St} {H : Hp} {s : Shared}
theorem inv_lamO {params : Arguments} {body : Expr} {scope : Scope} {c' : Addr} {pm ctv : Value} {t' : Nat} (J : Inv X pins σ H s) :
    Inv X pins σ (upd H s.heap.objs.size (LamO s.heap.objs.size (lamF X params scope c') body)) { s with heap := s.heap.push (lamOb X params body scope pm c' ctv), toks := t' } := by
  refine J.laid (a := s.heap.objs.size) (fun b u e => Heap.get?_push_of_some _ e) (Nat.le_refl _) ?_
  have e : (s.heap.push (lamOb X params body scope pm c' ctv)).get? s.heap.objs.size = some (lamOb X params body scope pm c' ctv) := Heap.get?_push_size _ rfl
  exact ⟨⟨_, _, pm, ctv, e⟩, ⟨_, e⟩, fun h1 h2 ⟨od, sl, p, t, z⟩ st => ⟨od, sl, p, t, st _ z⟩⟩
/-- the making of a lambda that stays known -/
theorem lam_kept {tabs : List (Addr × Str)} {cd tab : Addr} {params : Arguments} {body : Expr} {scope : Scope} {pos : Pos} {E Q : Value → Shared → Prop} (I : Inv X pins σ H s) (TB : LamX.TabB X.base X.mg cd tab) (hcd : X.env.code = .ref cd)
    (hin : (tab, lamN X) ∈ tabs) (honly : ∀ p ∈ tabs, p.1 = tab → p.2 = lamN X) (htabs : LamX.Tabs tabs H) (hdef : defaultsOf params X.env = ([], [])) (hfree : ∀ y ∈ scope.names, y.2 = .free → ∃ c, X.env.cells.lookup y.1 = some c)
    (fin : ∀ (f c' : Addr) (H1 : Hp) (s1 : Shared), Inv X pins σ H1 s1 → LamX.ExtN H H1 → (∀ b o, H b = some o → ∃ o', H1 b = some o' ∧ (nx o = true → nx o' = true)) → LamX.Tabs tabs H1 → H f = none →
      H1 f = some (LamO f (lamF X params scope c') body) → H1 c' = some (LamX.CodeO c' (lamN X)) → (H c' = none ∨ H c' = some (LamX.CodeO c' (lamN X))) → Q (.ref f) s1) :
    wpAny (model X.prog X.w) X.A (eval (.Lambda params body scope pos) X.env) Q E s := by
  obtain ⟨items, hT, ok3, known⟩ := htabs _ hin
  have hT : H tab = some (.tbl items) := hT
  have objT : s.heap.get? tab = some { cls := .none, data := .fields items } := I.hok tab _ hT
  have bi : s.heap.BuiltinsAt X.mg tab := TB.bm.keeps I.bk
  refine PySem.W.kla_eval hdef ?_
  cases found : codeAmong pos items.toList with
  | some cv =>
    obtain ⟨c', rfl, hc'⟩ := known pos cv found
    refine PySem.W.kla_makeFunctionHit (mg := X.mg) (c := cd) (P := tab) (ps := items) (closure_ok hfree) I.ok.glob (I.mod.glob.keeps I.bk) hcd (TB.code.keeps I.bk) objT ok3 found bi fun ctv h2 tk keep size => ?_
    have J : Inv X pins σ H { s with heap := h2, toks := tk } := I.kept keep
    have fr : H h2.objs.size = none := J.hok.fresh (Nat.le_refl _)
    have gr : ∀ b o, H b = some o → upd H h2.objs.size (LamO h2.objs.size (lamF X params scope c') body) b = some o := fun b o e => (upd_ne (ne_of_none e fr)).trans e
    exact fin h2.objs.size c' _ _ (inv_lamO (t' := tk) (pm := (X.mg "__name__").getD .none) (ctv := ctv) J) (fun b o e _ => gr b o e) (fun b o e => ⟨o, gr b o e, id⟩) (htabs.ext gr) fr upd_same (gr _ _ hc') (.inr hc')
  | none =>
    refine PySem.W.kla_makeFunction (mg := X.mg) (c := cd) (P := tab) (ps := items) (closure_ok hfree) I.ok.glob (I.mod.glob.keeps I.bk) hcd (TB.code.keeps I.bk) objT ok3 found TB.gP bi fun c' ctv h2 tk keep cnew clt crec tabNow => ?_
    obtain ⟨c2, oc, fields, tn, ec, hoc, hdata, hname⟩ := crec
    cases ec
    have fsize : s.heap.objs.size ≤ h2.objs.size := by omega
    have free' : H c' = none := I.hok.fresh cnew
    have tne : tab ≠ c' := ne_of_none hT free'
    have J := LamX.inv_table (t' := tk) (more := #[rawInt pos.line, rawInt pos.col, .ref c']) (h' := h2) I hT (fun b o nb e => keep b o nb e) tabNow cnew ⟨oc, fields, tn, hoc, hdata, hname⟩
    have grow : LamX.ExtN H (upd (upd H tab (.tbl (items ++ #[rawInt pos.line, rawInt pos.col, .ref c']))) c' (LamX.CodeO c' (lamN X))) := fun b o e notT => by
      have n1 : b ≠ c' := ne_of_none e free'
      have n2 : b ≠ tab := fun z => by
        rw [z, hT] at e
        exact notT items (Option.some.inj e).symm
      rw [upd_ne n1, upd_ne n2]
      exact e
    have listed : (items ++ #[rawInt pos.line, rawInt pos.col, .ref c']).toList = items.toList ++ [rawInt pos.line, rawInt pos.col, .ref c'] := by simp
    have tabs1 : LamX.Tabs tabs (upd (upd H tab (.tbl (items ++ #[rawInt pos.line, rawInt pos.col, .ref c']))) c' (LamX.CodeO c' (lamN X))) := fun p hp => by
      by_cases same : p.1 = tab
      · rw [honly p hp same, same]
        refine ⟨_, by rw [upd_ne tne, upd_same], by rw [listed]; exact PySem.TriplesOk_snoc _ _ _ _ ok3, fun pos2 cv found2 => ?_⟩
        rw [listed] at found2
        rcases LamX.among_app _ ok3 found2 with old | now
        · obtain ⟨c0, e1, e2⟩ := known pos2 cv old
          exact ⟨c0, e1, grow _ _ e2 LamX.codeO_ne⟩
        · exact ⟨c', now, upd_same⟩
      · obtain ⟨its2, a1, a2, a3⟩ := htabs p hp
        refine ⟨its2, by rw [upd_ne (ne_of_none a1 free'), upd_ne same]; exact a1, a2, fun pos2 cv found2 => ?_⟩
        obtain ⟨c0, e1, e2⟩ := a3 pos2 cv found2
        exact ⟨c0, e1, grow _ _ e2 LamX.codeO_ne⟩
    have fr := J.hok.fresh (Nat.le_refl _)
    have fr0 : H h2.objs.size = none := I.hok.fresh fsize
    refine fin h2.objs.size c' _ _ (inv_lamO (t' := tk) (pm := (X.mg "__name__").getD .none) (ctv := ctv) J) (fun b o e n => ?_) (fun b o e => ?_) (tabs1.ext fun b o e => (upd_ne (ne_of_none e fr)).trans e) fr0 upd_same ((upd_ne (Nat.ne_of_lt clt)).trans upd_same) (.inl free')
    · have e1 := grow b o e n
      exact (upd_ne (ne_of_none e1 fr)).trans e1
    · by_cases z : b = tab
      · refine ⟨.tbl (items ++ #[rawInt pos.line, rawInt pos.col, .ref c']), ?_, fun _ => rfl⟩
        · have e1 : (upd (upd H tab (.tbl (items ++ #[rawInt pos.line, rawInt pos.col, .ref c']))) c' (LamX.CodeO c' (lamN X))) b = some (.tbl (items ++ #[rawInt pos.line, rawInt pos.col, .ref c'])) := by rw [z, upd_ne tne, upd_same]
          exact (upd_ne (ne_of_none e1 fr)).trans e1
      · have e1 : (upd (upd H tab (.tbl (items ++ #[rawInt pos.line, rawInt pos.col, .ref c']))) c' (LamX.CodeO c' (lamN X))) b = some o := by rw [upd_ne (ne_of_none e free'), upd_ne z]; exact e
        exact ⟨o, (upd_ne (ne_of_none e1 fr)).trans e1, id⟩
end
def tLamK (tabs : List (Addr × Str)) (m : LamF) : TE := fun _ H Q => LamX.Tabs tabs H ∧ ∀ f c' H1, LamX.ExtN H H1 → (∀ b o, H b = some o → ∃ o', H1 b = some o' ∧ (nx o = true → nx o' = true)) → LamX.Tabs tabs H1 → H f = none → H1 f = some (LamO f (m c').1 (m c').2) → H1 (m c').1.c = some (LamX.CodeO (m c').1.c (m c').1.qual) →
  (H (m c').1.c = none ∨ H (m c').1.c = some (LamX.CodeO (m c').1.c (m c').1.qual)) → Q (.ref f) H1
section
variable {X : Cx} {Γ : Ctx} {W : WX}
theorem pe_lamK {tabs : List (Addr × Str)} {cd tab : Addr} {params : Arguments} {body : Expr} {scope : Scope} {pos : Pos} (TB : LamX.TabB X.base X.mg cd tab) (hcd : X.env.code = .ref cd) (hin : (tab, lamN X) ∈ tabs) (honly : ∀ p ∈ tabs, p.1 = tab → p.2 = lamN X)
    (hfree : ∀ y ∈ scope.names, y.2 = .free → X.env.scope.names.lookup y.1 = some .cell ∨ X.env.scope.names.lookup y.1 = some .free) (hdef : defaultsOf params X.env = ([], [])) : PE X (.Lambda params body scope pos) (tLamK tabs fun c' => (lamF X params scope c', body)) := by
  refine ⟨fun pins s σ H Q I h => ?_⟩
  obtain ⟨hT, h⟩ := h
  refine lam_kept I TB hcd hin honly hT hdef (fun y hy e => (hfree y hy e).elim (fun z => I.ok.has _ (.inl z)) fun z => I.ok.has _ (.inr z)) fun f c' H1 s1 J gr al tb nf isF isC old => ?_
  exact ⟨.ref f, H1, J, rfl, h f c' H1 gr al tb nf isF isC old⟩
theorem pd_lam {x : String} {cd tab : Addr} {params : Arguments} {body : Expr} {scope : Scope} {pos : Pos} (hl : Γ.lam x = some fun c' => (lamF X params scope c', body)) (TB : LamX.TabB X.base X.mg cd tab) (hcd : X.env.code = .ref cd) (hin : (tab, lamN X) ∈ Γ.tabs) (honly : ∀ p ∈ Γ.tabs, p.1 = tab → p.2 = lamN X)
    (hfree : ∀ y ∈ scope.names, y.2 = .free → X.env.scope.names.lookup y.1 = some .cell ∨ X.env.scope.names.lookup y.1 = some .free) (hdef : defaultsOf params X.env = ([], []) := by rfl) : PE X (.Lambda params body scope pos) (tD Γ W fun _ => pure (.fn x)) := (pe_lamK TB hcd hin honly hfree hdef).imp fun σ H Q h => by
  obtain ⟨H0, A, B, P, R, δ, S, h⟩ := h
  refine ⟨S.row.1.1, fun f c' H1 gr al tb nf isF isC old => ?_⟩
  have m : Mv Γ B R R H H1 := AftL.mv ⟨gr, al, tb⟩ S.row
  have nA : f ∉ A ++ P := fun z => by obtain ⟨o, e, _⟩ := S.all f z; rw [nf] at e; cases e
  have nC : c' ∉ A ++ P := fun z => by
    obtain ⟨o, e, n⟩ := S.all c' z
    rcases old with old | old
    · rw [show H c' = none from old] at e; cases e
    · rw [show H c' = some (LamX.CodeO c' (lamN X)) from old] at e
      cases e
      cases n
  refine h (.ref f) H1 m ?_
  rw [Rep]
  unfold FnR
  rw [hl]
  exact ⟨f, c', rfl, by rw [hide_out nA]; exact isF, by rw [hide_out nC]; exact isC⟩
end
end DL

set_option Elab.async false
set_option linter.all false
set_option maxRecDepth 100000
set_option maxHeartbeats 2000000
namespace DL
open PySem PySem.Spec L2 NdefX
/-! ### what a lambda promises -/
structure LOk (P : Program) (w : World) (K : PySem.W.Frag) (mg : Str → Option Value) (base : Heap) (CX : CXT) (k : Nat) (F : NF) (e : Expr) (ps fr : List Str) (sp : List (Option V) → Sp) : Prop where
  len : ∀ ws vs H Q E, sp ws vs H Q E → vs.length = ps.length
  run : ∀ (f : Addr) (A : Around) (outer : List Env) (s : Shared) (H : Hp) (us : List Value) (vs : List V) (ws : List (Option V)) (Q : VK) (E : XK), Room k A → Env0 P w K mg base A outer s H → H f = some (LamO f F e) → H F.c = some (LamX.CodeO F.c F.qual) →
    CellsAt F.cl fr ws s.heap H → Vals vs us → sp ws vs H Q E → codeAny (model P w) A (.call (.ref f) ⟨us, []⟩) (CR CX outer P w H s Q E) s
section
variable {CX : CXT} {P : Program} {w : World} {K : PySem.W.Frag} {mg : Str → Option Value} {base : Heap} {N ps fr : List Str} {F : NF} {e : Expr} {k j : Nat} {sp : List (Option V) → Sp}
theorem LOk.mono (o : LOk P w K mg base CX j F e ps fr sp) (h : j ≤ k) : LOk P w K mg base CX k F e ps fr sp := ⟨o.len, fun f A outer s H us vs ws Q E hr => o.run f A outer s H us vs ws Q E (hr.mono h)⟩
theorem lok_of (S : NScope N ps fr F.scope) (hb : ∀ (pm ctv : Value) (us : List Value), us.length = ps.length → bindArgs (PySem.W.kla_fn F.name F.qual F.params e F.scope F.cl pm (.ref F.c) ctv) ⟨us, []⟩ = pure (ps.zip us)) (len : ∀ ws vs H Q E, sp ws vs H Q E → vs.length = ps.length)
    (hbody : ∀ (f : Addr) (A : Around) (outer : List Env) (s : Shared) (H : Hp) (vs : List V) (ws : List (Option V)) (Q : VK) (E : XK), Room k (A.deeper (envF F f s.heap.objs.size)) → ws.length = fr.length → sp ws vs H Q E →
      ∃ t, PE (ncx CX P w K mg base N F f A outer s H E) e t ∧ t (startF N vs ws) H Q) : LOk P w K mg base CX (k + 1) F e ps fr sp := by
  refine ⟨len, fun f A outer s H us vs ws Q E hr e0 hf hc C r hsp => ?_⟩
  have hl := len _ _ _ _ _ hsp
  have lim : s.heap.NoLimit := e0.mod.nolimit.keeps fun b o e => (e0.bs b o e).1
  obtain ⟨od, sl, pm, ctv, ho⟩ := lamO_at e0.hok hf
  refine PySem.W.kla_callFunE hr.depth ho rfl S.co S.gen rfl (codeO_at e0.hok hc) ?_
  rw [hb pm ctv us (by rw [← r.length]; exact hl)]
  refine wpAny_pure (wpAny_newFunctionEnv S.nocell (fun ⟨n, _⟩ hy => S.par n (List.of_mem_zip hy).1) (fun h₁ hns hsb => ⟨lim.fresh _ hsb, ?_⟩) S.kind)
  show codeAny _ _ (.expr e (envF F f s.heap.objs.size)) _ _
  have kp : ∀ b o, s.heap.get? b = some o → h₁.get? b = some o := fun b o e => hsb.extBut b o (Nat.ne_of_lt (Heap.lt_size e)) (Heap.get?_push_of_some _ e)
  obtain ⟨t, ht, hq⟩ := hbody f A outer s H vs ws Q E (hr.deeper _) C.len hsp
  have I : Inv (ncx CX P w K mg base N F f A outer s H E) [] (startF N vs ws) H { s with heap := h₁, toks := s.toks + (ps.zip us).length } := inv_startN S hr.hd e0 hl r C hns kp
  refine PySem.W.kla_codeExpr (wpAny_mono (ht.run [] _ (startF N vs ws) H Q I hq) (fun v s' got => ?_) fun e s' z => z)
  obtain ⟨w', H', J, rv, q⟩ := got
  exact ⟨w', H', J.os, J.bare, J.base, J.hok, rv, q⟩
end
theorem cells_un {fs : List Addr} {cl : List (Str × Addr)} {fr : List Str} {ws : List (Option V)} {H H' : Hp} {h h' : Heap} (u : Un fs [] H H' h h') (C : CellsAt cl fr ws h H) : CellsAt cl fr ws h' H' := by
  have kp : ∀ {c : Addr} {v : Option Value}, H c = none → h.IsCell c v → h'.IsCell c v := fun {c v} n ⟨o, ho, hd⟩ => by
    obtain ⟨sl, q⟩ := u.any ho n (by simp)
    exact ⟨_, q, hd⟩
  refine ⟨C.len, fun y c e => ?_, C.inj, fun i y e => ?_⟩
  · obtain ⟨n, v, z⟩ := C.all y c e
    refine ⟨?_, v, kp n z⟩
    obtain ⟨o, ho, _⟩ := z
    exact u.free c o ho n (by simp)
  · obtain ⟨c, hc, hv⟩ := C.has i y e
    refine ⟨c, hc, fun v ev => ?_⟩
    obtain ⟨u2, r, z⟩ := hv v ev
    exact ⟨u2, r, kp (C.all y c hc).1 z⟩
/-! ### the lambda's body over data -/
def spLam (Γ : Ctx) (n : Nat) (G : SEnv → M D) (ws : List (Option V)) : Sp := fun vs H Q E => ∃ ds δw R A, RepL Γ (hide A H) ds vs ∧ ds.length = n ∧ SlotsR Γ (hide A H) H ws δw [] ∧ RowOk Γ H R ∧ (∀ a ∈ rAddr R, a ∈ A) ∧ All A H ∧ SqL Γ.K H Γ.scr (Γ.cells.map V.int) ∧ (Γ.scr ∈ rAddr R → ScrK Γ) ∧
  (G (ds.map SD.dat ++ δw) R).run (fun d R' => ∀ v H', Mv Γ (rAddr R) R R' H H' → Rep Γ (hide A H') d v → Q v H')
    (fun c d R' => ∀ v dx H', Mv Γ (rAddr R) R R' H H' → H' dx = some (.xd [(("value" : Str), v)]) → Rep Γ (hide A H') d v → E (.ref (Γ.cls c)) (some dx) H')
theorem SlotsR.front {Γ : Ctx} {Hh H : Hp} : ∀ {ds : List D} {vs : List V} {σ : L2.St} {δ : SEnv}, RepL Γ Hh ds vs → SlotsR Γ Hh H σ δ [] → SlotsR Γ Hh H (vs.map some ++ σ) (ds.map SD.dat ++ δ) []
  | [], vs, σ, δ, h, k => by
    rw [RepL_nil] at h
    subst h
    exact k
  | d :: ds, vs, σ, δ, h, k => by
    rw [RepL_cons] at h
    obtain ⟨v, ws, rfl, h1, h2⟩ := h
    exact .dat h1 (SlotsR.front h2 k)
theorem lam_imp {Γ : Ctx} {N : List Str} {n : Nat} {G : SEnv → M D} {ws : List (Option V)} {vs : List V} {H : Hp} {Q : VK} {E : XK} (hN : N.length = n + ws.length) (h : spLam Γ n G ws vs H Q E) : tD Γ (WD E) G (startF N vs ws) H Q := by
  obtain ⟨ds, δw, R, A, r, hn, sl, row, ra, al, sc, sb, h⟩ := h
  have hl := r.length
  have e0 : startF N vs ws = vs.map some ++ ws := by
    unfold startF
    rw [show N.length - vs.length - ws.length = 0 by omega, List.replicate_zero, List.append_nil]
  rw [e0]
  have S : RepS Γ H A (rAddr R) [] R H (vs.map some ++ ws) (ds.map SD.dat ++ δw) := {
    row := row
    ra := ra
    ba := ra
    rb := fun _ h => h
    al := al
    sc := sc
    sb := sb
    ext := .refl
    own := fun p hp => by cases hp
    nd := .nil
    slots := by
      rw [List.append_nil]
      exact SlotsR.front r sl }
  refine ⟨H, A, rAddr R, [], R, _, S, ?_⟩
  rw [List.append_nil]
  exact h
/-! ### calls of what a name holds: a def, or a lambda -/
structure LEnt where
  nm : String
  m : LamF
  cl : List (Str × Addr)
  ps : List Str
  fr : List Str
  js : List Nat
  G : SEnv → M D
abbrev LSem := List (String × Nat × List Nat × (SEnv → M D))
def capD (δ : SEnv) : List Nat → Option SEnv
  | [] => some []
  | j :: js => match δ[j]? with
    | some (.dat d) => (capD δ js).map (.dat d :: ·)
    | some .none => (capD δ js).map (.none :: ·)
    | _ => none
theorem cap_slots {Γ : Ctx} {Hh H : Hp} {σ : L2.St} {δ : SEnv} {P : List Addr} (h : SlotsR Γ Hh H σ δ P) : ∀ {js : List Nat} {δw : SEnv}, capD δ js = some δw → SlotsR Γ Hh H (js.map (slotAt σ)) δw []
  | [], δw, e => by
    cases e
    exact .nil
  | j :: js, δw, e => by
    unfold capD at e
    split at e
    · rename_i d ej
      obtain ⟨δ2, e2, rfl⟩ := Option.map_eq_some_iff.mp e
      obtain ⟨v, g, r⟩ := h.get ej
      rw [List.map_cons, slotAt_of g]
      exact .dat r (cap_slots h e2)
    · obtain ⟨δ2, e2, rfl⟩ := Option.map_eq_some_iff.mp e
      exact .none (cap_slots h e2)
    · cases e
def dHeldL (i : Nat) (tb : FTab) (lt : LSem) (fs : SEnv → M (List D)) : SEnv → M D := fun δ => match δ[i]? with
  | some (.dat (.fn x)) => (match lt.lookup x with
    | some q => fs δ >>= fun ds => if ds.length = q.1 then (match capD δ q.2.1 with
      | some δw => q.2.2 (ds.map SD.dat ++ δw)
      | none => M.stuck) else M.stuck
    | none => dHeld i tb fs δ)
  | _ => M.stuck
/-- what is known of the lambdas' entries -/
structure LEOk (P : Program) (w : World) (K : PySem.W.Frag) (mg : Str → Option Value) (base : Heap) (Γ : Ctx) (k : Nat) (t : LEnt) : Prop where
  lam : Γ.lam t.nm = some t.m
  cl : ∀ c', (t.m c').1.cl = t.cl
  ok : ∀ c', LOk P w K mg base (L2.CX P w) k (t.m c').1 (t.m c').2 t.ps t.fr (spLam Γ t.ps.length t.G)
abbrev LEnt.sem (t : LEnt) : String × Nat × List Nat × (SEnv → M D) := (t.nm, t.ps.length, t.js, t.G)
theorem lsem_of {x : String} {q : Nat × List Nat × (SEnv → M D)} : ∀ {lt : List LEnt}, (lt.map LEnt.sem).lookup x = some q → ∃ t ∈ lt, t.nm = x ∧ q = (t.ps.length, t.js, t.G)
  | [], h => by cases h
  | t :: lt, h => by
    rw [List.map_cons] at h
    show ∃ t' ∈ t :: lt, _
    have h : List.lookup x ((t.nm, t.ps.length, t.js, t.G) :: lt.map LEnt.sem) = some q := h
    rw [List.lookup] at h
    split at h
    · rename_i e
      exact ⟨t, List.mem_cons_self, (beq_iff_eq.mp e).symm, (Option.some.inj h).symm⟩
    · obtain ⟨t', a, b, c⟩ := lsem_of h
      exact ⟨t', List.mem_cons_of_mem _ a, b, c⟩
section
variable {X : Cx} {Γ : Ctx}
theorem lamFn_at {σ : L2.St} {H : Hp} {s : Shared} {pins : List (Addr × Obj)} {f : Addr} {F : NF} {e : Expr} (I : Inv X pins σ H s) (h : H f = some (LamO f F e)) : PySem.W.FnAt f s.heap := by
  obtain ⟨od, sl, pm, ctv, ho⟩ := lamO_at I.hok h
  exact ⟨_, od, _, sl, ho⟩
/-- x(..), x a name that holds a def or a lambda; the lambdas' cells are known from the frame's start -/
theorem run_heldL {k i : Nat} {x : Str} {tb : FTab} {lt : List LEnt} {fs : SEnv → M (List D)} {E : XK} {e : Expr} {es : List Expr} {p pos : Pos} {σ : L2.St} {H : Hp} {s : Shared} {Q : VK} (T : ∀ (y : String) (q : Nat × (List D → M D)), tb.lookup y = some q → Hld X.prog X.w X.K X.mg X.base Γ k y q.1 q.2)
    (TL : ∀ t ∈ lt, LEOk X.prog X.w X.K X.mg X.base Γ k t) (hex : X.ex = []) (CS : ∀ t ∈ lt, CellsAt t.cl t.fr (t.js.map (slotAt σ)) X.s_0.heap X.H_0) (hr : Room k X.A) (tk : Takes X (WD E)) (hN : X.N[i]? = some x) (hv : Vis X.env.scope x) (ha : PA X (e :: es) (tL Γ (WD E) fs))
    (I : Inv X [] σ H s) (h : tD Γ (WD E) (dHeldL i tb (lt.map LEnt.sem) fs) σ H Q)
    (hdb : (x == ("__debug__" : Str)) = false := by decide) (hcd : (x == ("__classdict__" : Str)) = false := by decide) (he : starEach (e :: es) X.env = (false, eval e X.env) :: starEach es X.env := by rfl) (hpl : (backTo pos (starEach es X.env)).any (·.1) = false := by rfl) :
    wpAny (model X.prog X.w) X.A (eval (.Call (.Name x p) (e :: es) [] pos) X.env) (EP X [] σ Q) X.xe s := by
  obtain ⟨H0, A, B, P, R, δ, S, h⟩ := h
  cases e1 : δ[i]? with
  | none => unfold dHeldL at h; rw [e1] at h; exact h.elim
  | some sd =>
  cases sd with
  | none => unfold dHeldL at h; rw [e1] at h; exact h.elim
  | own _ => unfold dHeldL at h; rw [e1] at h; exact h.elim
  | dat d =>
  cases d with
  | fn y =>
    cases eq : (lt.map LEnt.sem).lookup y with
    | some q =>
      have e2 : dHeldL i tb (lt.map LEnt.sem) fs δ = (fs δ >>= fun ds => if ds.length = q.1 then (match capD δ q.2.1 with
          | some δw => q.2.2 (ds.map SD.dat ++ δw)
          | none => M.stuck) else M.stuck) := by
        unfold dHeldL
        rw [e1]
        simp only [eq]
      rw [e2] at h
      obtain ⟨t, ht, rfl, rfl⟩ := lsem_of eq
      have L := TL t ht
      obtain ⟨v, g1, r1⟩ := S.slots.get e1
      rw [Rep] at r1
      unfold FnR at r1
      rw [L.lam] at r1
      obtain ⟨f, c', rfl, hf, hc⟩ := r1
      obtain ⟨nf, hf⟩ := hide_some hf
      obtain ⟨nc, hc⟩ := hide_some hc
      refine wpAny_Call_Name_kw (thn ((pe_var (pos := p) hN hv hdb hcd).run [] s σ H (fun v H1 => v = .ref f ∧ H1 = H) I ⟨.ref f, g1, rfl, rfl⟩) fun u s1 ⟨v, H1, I1, r1, q1⟩ => ?_)
      obtain ⟨ev, eH⟩ := q1
      subst ev
      rw [eH] at I1
      obtain rfl : u = Value.ref f := r1
      have want : tL Γ (WD E) fs σ H fun vs H1 => H1 f = some (LamO f (t.m c').1 (t.m c').2) ∧ H1 (t.m c').1.c = some (LamX.CodeO (t.m c').1.c (t.m c').1.qual) ∧ spLam Γ t.ps.length t.G (t.js.map (slotAt σ)) vs H1 Q E := by
        refine ⟨H0, A, B, P, R, δ, S, go S h fun ds vs R1 H1 m1 r1 S1 h1 => ?_⟩
        split at h1
        · rename_i hn
          cases ec : capD δ t.js with
          | none => simp only [ec] at h1; exact h1.elim
          | some δw =>
            simp only [ec] at h1
            have nb : ∀ {b}, b ∉ A ++ P → b ∉ B := fun n z => n (S.bap _ z)
            refine ⟨m1.ext.st _ _ (nb nf) hf rfl, m1.ext.st _ _ (nb nc) hc rfl, ds, δw, R1, A ++ P, r1, hn, cap_slots S1.slots ec, S1.row, fun a ha => List.mem_append_left _ (S1.ra a ha), S1.all, S1.scr, fun z => S1.sb (S1.rb _ z), ?_⟩
            exact Out.run_mono h1 (fun d R2 _ q v H2 m2 r2 => q v H2 ⟨m2.ext.mono S1.rb, m2.row, m2.adr⟩ r2) fun c d R2 _ q v dx H2 m2 hx r2 => q v dx H2 ⟨m2.ext.mono S1.rb, m2.row, m2.adr⟩ hx r2
        · exact h1.elim
      refine PySem.W.callWith_F (first := []) (lamFn_at I1 hf) (thn (ha.run pos [] s1 σ H _ I1 want) fun us s2 ⟨vs, H2, I2, r, h1, h2, q⟩ => ⟨lamFn_at I2 h1, ?_⟩) he hpl
      show wpAny _ _ (call (.ref f) us) _ _ _
      have C2 : CellsAt (t.m c').1.cl t.fr (t.js.map (slotAt σ)) s2.heap H2 := by
        rw [L.cl c']
        have u : Un X.fs [] X.H_0 H2 X.s_0.heap s2.heap := by
          have u := I2.base
          rw [hex] at u
          exact u
        exact cells_un u (CS t ht)
      refine wpAny_call (codeAny_mono ((L.ok c').run f X.A X.stack s2 H2 us vs _ Q E hr I2.env0 h1 h2 C2 r q) fun r s' hq => ?_)
      cases r with
      | error ev => exact passAt tk σ [] H2 s2 ev s' I2 hq
      | ok fl =>
        cases fl with
        | ret u => exact I2.after hq
        | next => exact False.elim hq
        | brk => exact False.elim hq
        | cont => exact False.elim hq
    | none =>
      have e2 : dHeldL i tb (lt.map LEnt.sem) fs δ = dHeld i tb fs δ := by
        unfold dHeldL
        rw [e1]
        simp only [eq]
      rw [e2] at h
      exact (pd_held (p := p) (pos := pos) T hr tk hN hv ha hdb hcd he hpl).run [] s σ H Q I ⟨H0, A, B, P, R, δ, S, h⟩
  | _ => unfold dHeldL at h; rw [e1] at h; exact h.elim
end
/-! ### handed over: lambda: x(..), x a name that holds a def or a lambda -/
section
open PyProof.Rows LamX
variable {X : Cx} {pins : List (Addr × Obj)} {σ : L2.St} {H : Hp} {s : Shared}
theorem pe_act2 {CS : Heap → Hp → Prop} {CXg : CXT} {Eg : XK} {Ng : List Str} {qg : Str} {sg : Scope} {g f c' : Addr} {cdg pm ctv : Value} {params : Arguments} {body : Expr} {scope : Scope} {k i : Nat} {a : Str} {pn : List (Addr × Obj)} {xe : Value → Shared → Prop} {W : WX} {E : XK} {tb : TE} {p1 p2 : Pos}
    (I : Inv X pins σ H s) (L : LamS X.env.scope scope) (isF : s.heap.get? f = some (lamOb X params body scope pm c' ctv)) (fF : H f = none) (frF : f ∉ frs X.stack)
    (hbind : bindArgs (PySem.W.kla_fn "<lambda>" (lamN X) params body scope (cloFrom X.env.cells scope.names []) pm (.ref c') ctv) ⟨[], []⟩ = pure [])
    (tk : Takes ((cxOf CXg X.prog X.w X.K X.mg X.base Ng qg sg g cdg X.A X.stack s H Eg).tr pn xe) W) (hW : ∀ cls d σ' H', E cls d H' → W cls d σ' H') (hr : Room (k + 1) (X.A.deeper (envOfC qg sg s.heap.objs.size g cdg)))
    (hcs : ∀ {H' : Hp} {h' : Heap}, Un (frs X.stack) [] H H' s.heap h' → CS h' H')
    (hbody : ∀ (A : Around) (outer : List Env) (s1 : Shared) (H1 : Hp) (s2 : Shared) (Q : VK), CS s1.heap H1 → Room k (A.deeper (lamEnv X scope s1.heap.objs.size f c')) → Inv (lamCx X A outer s1 H1 E scope f c') [] σ H1 s2 → tb σ H1 Q →
      wpAny (model X.prog X.w) (lamCx X A outer s1 H1 E scope f c').A (eval body (lamCx X A outer s1 H1 E scope f c').env) (EP (lamCx X A outer s1 H1 E scope f c') [] σ Q) (lamCx X A outer s1 H1 E scope f c').xe s2)
    (hN : Ng[i]? = some a) (hv : Vis sg a) (db1 : (a == ("__debug__" : Str)) = false) (db2 : (a == ("__classdict__" : Str)) = false) :
    PE ((cxOf CXg X.prog X.w X.K X.mg X.base Ng qg sg g cdg X.A X.stack s H Eg).tr pn xe) (.Call (.Name a p1) [] [] p2)
      (fun σZ HZ Q => σZ[i]? = some (some (.ref f)) ∧ HZ c' = some (CodeO c' (lamN X)) ∧ tb σ HZ Q) := by
  refine ⟨fun pinsZ sZ σZ HZ Q IZ want => ?_⟩
  obtain ⟨at_i, isC, wish⟩ := want
  refine wpAny_Call_Name_kw (thn ((pe_var (pos := p1) (i := i) hN hv db1 db2).run pinsZ sZ σZ HZ (fun v G => v = .ref f ∧ G = HZ) IZ ⟨.ref f, at_i, rfl, rfl⟩) fun u s1 ⟨v, G, J, rv, e1, e2⟩ => ?_)
  subst e1 e2
  obtain rfl : u = Value.ref f := rv
  have un : Un (frs X.stack) [] H G s.heap s1.heap := J.base
  have now : s1.heap.get? f = some (lamOb X params body scope pm c' ctv) := un.keep f _ isF fF frF (by simp)
  refine PySem.W.callWith_F0 ⟨_, _, _, _, now⟩ ?_
  obtain ⟨⟨oc, fields, t, hoc, hdata, hname⟩, _, _⟩ := J.hok c' _ isC
  have runs : codeAny (model X.prog X.w) (X.A.deeper (envOfC qg sg s.heap.objs.size g cdg)) (.call (.ref f) ⟨[], []⟩) (CR (L2.CX X.prog X.w) (envOfC qg sg s.heap.objs.size g cdg :: X.stack) X.prog X.w G s1 Q E) s1 := by
    refine PySem.W.kla_callFunE hr.depth now rfl L.co L.gen rfl ⟨c', oc, fields, t, rfl, hoc, hdata, hname⟩ ?_
    rw [hbind]
    refine wpAny_pure (wpAny_newFunctionEnv (fun y hy => (L.own y hy).2) (fun y hy => absurd hy (by simp)) (fun h₁ hns hsb => ⟨J.nolimit.fresh _ hsb, ?_⟩) L.kind)
    have keep : ∀ b o, s1.heap.get? b = some o → h₁.get? b = some o := fun b o e => hsb.extBut b o (Nat.ne_of_lt (Heap.lt_size e)) (Heap.get?_push_of_some _ e)
    have J2 : Inv (lamCx X (X.A.deeper (envOfC qg sg s.heap.objs.size g cdg)) (envOfC qg sg s.heap.objs.size g cdg :: X.stack) s1 G E scope f c') [] σ G { s1 with heap := h₁, toks := s1.toks + ([] : List (Str × Value)).length } := lam_start2 I L J.env0 hr.hd un hns keep
    refine PySem.W.kla_codeExpr (wpAny_mono (hbody _ _ s1 G _ Q (hcs un) (hr.deeper _) J2 wish) (fun v s' got => ?_) fun e s' z => z)
    obtain ⟨w', H', J3, r3, q⟩ := got
    exact ⟨w', H', J3.os, J3.bare, J3.base, J3.hok, r3, q⟩
  have out : Passes (L2.CX X.prog X.w) ((cxOf CXg X.prog X.w X.K X.mg X.base Ng qg sg g cdg X.A X.stack s H Eg).tr pn xe) E := passes_call tk hW
  refine wpAny_call (codeAny_mono runs fun res s' got => ?_)
  cases res with
  | error ev => exact out pinsZ σZ G s1 ev s' J got
  | ok fl =>
    cases fl with
    | ret u => exact J.after got
    | next => exact False.elim got
    | brk => exact False.elim got
    | cont => exact False.elim got
end
section
variable {X : Cx} {Γ : Ctx} {W : WX}
theorem pe_lamD2 {CS : L2.St → Heap → Hp → Prop} {TT : (XK → Hp → VK → Prop) → Hp → VK → Prop} {x a : Str} {g cd tab : Addr} {k : Nat} {pg params : Arguments} {bg : List Stmt} {sg scope : Scope} {gd : FuncData} {Ng : List Str} {body : Expr} {t : XK → TE} {p lpos pos : Pos} (hg : Gl X x) (hm : X.mg x = some (.ref g)) (FD : FunD X.K x x pg bg sg [] [] g gd)
    (Sg : FnScope Ng [a] sg) (hb : L2.Binds X.K gd [a] []) (h0 : Ng[0]? = some a) (va : Vis sg a) (gives : ∀ cdg, LamX.GivesTo X Ng x sg g cdg bg a (lamN X) TT)
    (TB : LamX.TabB X.base X.mg cd tab) (hcd : X.env.code = .ref cd) (hin : (tab, lamN X) ∈ Γ.tabs) (honly : ∀ p ∈ Γ.tabs, p.1 = tab → p.2 = lamN X) (hr : Room (k + 2) X.A) (L : LamX.LamS X.env.scope scope) (hdef : defaultsOf params X.env = ([], []))
    (hbind : ∀ (q : Str) (cl : List (Str × Addr)) (pm cv ctv : Value), bindArgs (PySem.W.kla_fn "<lambda>" q params body scope cl pm cv ctv) ⟨[], []⟩ = pure [])
    (init : ∀ {pins : List (Addr × Obj)} {σ : L2.St} {H : Hp} {s : Shared}, Inv X pins σ H s → CS σ s.heap H) (hcs : ∀ {σ : L2.St} {H H' : Hp} {h h' : Heap}, Un (frs X.stack) [] H H' h h' → CS σ h H → CS σ h' H')
    (hbody : ∀ (A : Around) (outer : List Env) (s : Shared) (H : Hp) (E : XK) (f c' : Addr) (σ : L2.St) (s2 : Shared) (Q : VK), CS σ s.heap H → Room k (A.deeper (LamX.lamEnv X scope s.heap.objs.size f c')) → Inv (LamX.lamCx X A outer s H E scope f c') [] σ H s2 → t E σ H Q →
      wpAny (model X.prog X.w) (LamX.lamCx X A outer s H E scope f c').A (eval body (LamX.lamCx X A outer s H E scope f c').env) (EP (LamX.lamCx X A outer s H E scope f c') [] σ Q) (LamX.lamCx X A outer s H E scope f c').xe s2)
    (db1 : (x == ("__debug__" : Str)) = false := by decide) (db2 : (a == ("__debug__" : Str)) = false := by decide) (db3 : (a == ("__classdict__" : Str)) = false := by decide) :
    PE X (.Call (.Name x p) [.Lambda params body scope lpos] [] pos) (tLamD Γ TT t) := by
  obtain ⟨oc, od, dV, kV, doc, pm0, an, cdv, ct, osl, rfl, lk, hcg, _, _⟩ := FD.ex
  refine ⟨fun pins s σ H Q I want => ?_⟩
  obtain ⟨htabs, want⟩ := want
  refine wpAny_Call_Name_kw (ld_glob I hg hm ?_ db1)
  refine PySem.W.callWith_K (h₀ := X.base) I.ok.mod.kin FD.kp ?_ (by rfl) (by rfl)
  show wpAny _ _ (spliced ((false, eval (.Lambda params body scope lpos) X.env) :: backTo pos (starEach [] X.env))) _ _ s
  refine Calls.spliced_cons (lam_new I TB hcd hin honly htabs hdef (L.has I.ok) fun f c' pm ctv H1 s1 J grow al tabs1 _ isF fF frF isC => ?_)
  refine Calls.spliced_nil ⟨J.kIn, ?_⟩
  have runs : codeAny (model X.prog X.w) X.A (.call (.ref g) ⟨[.ref f], []⟩) (CR C8.CX0 X.stack X.prog X.w H1 s1 Q C8.E0) s1 := by
    refine LamX.run_ofS (N := Ng) (ps := [a]) (us := [.ref f]) (vs := [.ref f]) lk hcg Sg hr J.env0 (hb s1 [.ref f] J.kIn rfl) (.cons rfl .nil) rfl fun hr2 => ?_
    obtain ⟨t', ht', hq'⟩ := gives cdv f c' s1 H1 Q (fun E H' Q' => t E σ H' Q') (fun W pn xe E p1 p2 tk hW => pe_act2 (CS := CS σ) (i := 0) J L isF fF frF (hbind _ _ _ _ _) tk hW hr2 (fun un => hcs un (init J)) (fun A outer s H s2 Q c hr3 I2 tt => hbody A outer s H E f c' σ s2 Q c hr3 I2 tt) h0 va db2 db3) isC (want H1 ⟨grow, al, tabs1⟩)
    exact ⟨t', ht'.nox, hq'⟩
  refine wpAny_call (codeAny_mono runs fun res s2 got => ?_)
  cases res with
  | error ev => exact (show False from got).elim
  | ok fl =>
    cases fl with
    | ret u => exact J.after got
    | next => exact False.elim got
    | brk => exact False.elim got
    | cont => exact False.elim got
theorem pd_refL {k i : Nat} {st : Stmt} {ws : List (String × Str)} {x : Str} {tb : FTab} {lt : List LEnt} {fs : SEnv → M (List D)} {e : Expr} {es : List Expr} {cd tab : Addr} {params : Arguments} {scope : Scope} {p lpos pos p2 pos2 : Pos} (FI : FnI X.K X.mg "_law_refused" st) (Sg : FnScope ["ask", "e"] ["ask"] (defScope st)) (va : Vis (defScope st) "ask")
    (hb : ∀ {g : Addr} {gd : FuncData}, FunD X.K "_law_refused" "_law_refused" (defArgs st) (defBody st) (defScope st) [] [] g gd → L2.Binds X.K gd ["ask"] [])
    (gives : ∀ g cdg, LamX.GivesTo X ["ask", "e"] "_law_refused" (defScope st) g cdg (defBody st) "ask" (lamN X) (TTref X.K (ws.map fun p => (Γ.cls p.1, p.2))))
    (hex : ∀ c, (ws.lookup c).isSome = true → ∀ p ∈ ws, PySem.W.exmOne X.K (.ref (Γ.cls c)) (.ref (Γ.cls p.1)) = some (decide (c = p.1)))
    (TB : LamX.TabB X.base X.mg cd tab) (hcd : X.env.code = .ref cd) (hin : (tab, lamN X) ∈ Γ.tabs) (honly : ∀ p ∈ Γ.tabs, p.1 = tab → p.2 = lamN X) (hr : Room (k + 2) X.A) (L : LamX.LamS X.env.scope scope)
    (T : ∀ (y : String) (q : Nat × (List D → M D)), tb.lookup y = some q → Hld X.prog X.w X.K X.mg X.base Γ k y q.1 q.2) (TL : ∀ t ∈ lt, LEOk X.prog X.w X.K X.mg X.base Γ k t) (caps : ∀ t ∈ lt, X.Ok → Caps X t.cl t.fr t.js) (hN : X.N[i]? = some x) (hv : Vis scope x)
    (ha : ∀ (A : Around) (outer : List Env) (s : Shared) (H : Hp) (E : XK) (f c' : Addr), Room k (A.deeper (LamX.lamEnv X scope s.heap.objs.size f c')) → PA (LamX.lamCx X A outer s H E scope f c') (e :: es) (tL Γ (WD E) fs))
    (he : ∀ env, starEach (e :: es) env = (false, eval e env) :: starEach es env := by intros; rfl) (hpl : ∀ env, (backTo pos2 (starEach es env)).any (·.1) = false := by intros; rfl)
    (hdb : (x == ("__debug__" : Str)) = false := by decide) (hcdb : (x == ("__classdict__" : Str)) = false := by decide)
    (hdef : defaultsOf params X.env = ([], []) := by rfl) (hbind : ∀ (q : Str) (cl : List (Str × Addr)) (pm cv ctv : Value), bindArgs (PySem.W.kla_fn "<lambda>" q params (.Call (.Name x p2) (e :: es) [] pos2) scope cl pm cv ctv) ⟨[], []⟩ = pure [] := by intros; rfl) (hg : Gl X "_law_refused" := by rfl) :
    PE X (.Call (.Name "_law_refused" p) [.Lambda params (.Call (.Name x p2) (e :: es) [] pos2) scope lpos] [] pos) (tD Γ W (dRef ws (dHeldL i tb (lt.map LEnt.sem) fs))) := by
  obtain ⟨g, gd, FD, gx⟩ := FI.ex
  refine (pe_lamD2 (CS := fun σ h H => ∀ t ∈ lt, CellsAt t.cl t.fr (t.js.map (slotAt σ)) h H) (t := fun E => tD Γ (WD E) (dHeldL i tb (lt.map LEnt.sem) fs)) hg gx FD Sg (hb FD) rfl va (gives g) TB hcd hin honly hr L hdef hbind (fun I t ht => cells_of I (caps t ht I.ok)) (fun u c t ht => cells_un u (c t ht)) ?_).imp fun _ _ _ h => ref_imp hex h
  intro A outer s H E f c' σ s2 Q c hr2 I2 want
  exact run_heldL (X := LamX.lamCx X A outer s H E scope f c') T TL rfl c hr2 takes_lam hN hv (ha A outer s H E f c' hr2) I2 want hdb hcdb (he _) (hpl _)
end
end DL

set_option Elab.async false
set_option linter.all false
set_option maxRecDepth 100000
set_option maxHeartbeats 0
namespace DL
open PySem PySem.Spec L2
noncomputable section
/-! ### what each def computes -/
def N_coins_at : List Str := ["self", "string", "coin"]
def sem_coins_at : SM := (sRet (dComp [2] (.nm 2) (iSeq (d2 oIx (d1 webStrs (dVar 0)) (dVar 1))) (dB (d2 oNe (dVar 2) (fun _ => pure (.int (-1))))) (dVar 2)))
def F_coins_at : List D → M D := fun ds R => fin (sem_coins_at (startD N_coins_at ds) R)
def N_counts : List Str := ["self", "standing", "found", "string", "coin"]
def sem_counts : SM := (sSeq (sOwn 2 (lRep (dLst (lCons (fun _ => pure (.int 0)) lNil)) (d1 webCoins (dVar 0))))
  (sSeq (sFor (.nm 3) (iSeq (dVar 1)) (sFor (.nm 4) (iSeq (dMeth 2 F_coins_at (dVar 0) (lCons (dVar 3) lNil))) (sAugO 2 addI (dVar 4) (fun _ => pure (.int 1)))))
  (sFrz 2 (sRet (dVar 2)))))
def F_counts : List D → M D := fun ds R => fin (sem_counts (startD N_counts ds) R)
def N_is_integer : List Str := ["thing"]
def sem_is_integer : SM := (sRet (dAnd (d1 (isiD "int") (dVar 0)) (dNot (d1 (isiD "bool") (dVar 0)))))
def F_is_integer : List D → M D := fun ds R => fin (sem_is_integer (startD N_is_integer ds) R)
def N_is_within : List Str := ["thing", "least", "most"]
def sem_is_within : SM := (sRet (dAnd (dFn 1 F_is_integer (lCons (dVar 0) lNil)) (dChain oLe oLe (dVar 1) (dVar 0) (dVar 2))))
def F_is_within : List D → M D := fun ds R => fin (sem_is_within (startD N_is_within ds) R)
def N_is_row : List Str := ["thing"]
def sem_is_row : SM := (sRet (d1 (isiD2 "list" "tuple") (dVar 0)))
def F_is_row : List D → M D := fun ds R => fin (sem_is_row (startD N_is_row ds) R)
def N_is_rising : List Str := ["thing", "least", "most", "one", "other"]
def sem_is_rising : SM := (sSeq (sIf (bOr (bNot (dT (d1 (isiD "tuple") (dVar 0)))) (bNot (dT (dCall fAll (lCons (dComp [3] (.nm 3) (iSeq (dVar 0)) bYes (dFn 3 F_is_within (lCons (dVar 3) (lCons (dVar 1) (lCons (dVar 2) lNil))))) lNil))))) (sRet (fun _ => pure (.bl false))) sNx)
  (sRet (dCall fAll (lCons (dComp [3, 4] (.tup [(.nm 3), (.nm 4)]) (iCall zipOf (lCons (dVar 0) (lCons (dCut (dVar 0) (pSome (fun _ => pure (.int 1))) pNone) lNil))) bYes (d2 oLt (dVar 3) (dVar 4))) lNil))))
def F_is_rising : List D → M D := fun ds R => fin (sem_is_rising (startD N_is_rising ds) R)
def N_is_string : List Str := ["thing", "coins"]
def sem_is_string : SM := (sSeq (sIf (bOr (bNot (dT (d1 (isiD "tuple") (dVar 0)))) (bOr (dB (d2 oNe (dCall fLen (lCons (dVar 0) lNil)) (fun _ => pure (.int 2)))) (bNot (dT (dFn 3 F_is_within (lCons (d2 oIx (dVar 0) (fun _ => pure (.int 0))) (lCons (fun _ => pure (.int 0)) (lCons (d2 oSub (dVar 1) (fun _ => pure (.int 1))) lNil)))))))) (sRet (fun _ => pure (.bl false))) sNx)
  (sRet (dOr (dFn 3 F_is_within (lCons (d2 oIx (dVar 0) (fun _ => pure (.int 1))) (lCons (d2 oPlus (d2 oIx (dVar 0) (fun _ => pure (.int 0))) (fun _ => pure (.int 1))) (lCons (d2 oSub (dVar 1) (fun _ => pure (.int 1))) lNil)))) (dFn 3 F_is_within (lCons (d2 oIx (dVar 0) (fun _ => pure (.int 1))) (lCons (fun _ => pure (.int (-1))) (lCons (fun _ => pure (.int (-1))) lNil)))))))
def F_is_string : List D → M D := fun ds R => fin (sem_is_string (startD N_is_string ds) R)
def N_need_web : List Str := ["web"]
def sem_need_web : SM := (sIf (bNot (dT (d1 isiW (dVar 0)))) (sRaise "BadWeb" (dVar 0)) sNx)
def F_need_web : List D → M D := fun ds R => fin (sem_need_web (startD N_need_web ds) R)
def N_whole : List Str := ["web"]
def sem_whole : SM := (sSeq (sDrop (dFn 1 F_need_web (lCons (dVar 0) lNil)))
  (sRet (dCall rgTup (lCons (dCall fLen (lCons (d1 webStrs (dVar 0)) lNil)) lNil))))
def F_whole : List D → M D := fun ds R => fin (sem_whole (startD N_whole ds) R)
def N_is_standing : List Str := ["web", "thing"]
def sem_is_standing : SM := (sSeq (sDrop (dFn 1 F_need_web (lCons (dVar 0) lNil)))
  (sRet (dFn 3 F_is_rising (lCons (dVar 1) (lCons (fun _ => pure (.int 0)) (lCons (d2 oSub (dCall fLen (lCons (d1 webStrs (dVar 0)) lNil)) (fun _ => pure (.int 1))) lNil))))))
def F_is_standing : List D → M D := fun ds R => fin (sem_is_standing (startD N_is_standing ds) R)
def N_need_standing : List Str := ["web", "standing"]
def sem_need_standing : SM := (sIf (bNot (dT (dFn 2 F_is_standing (lCons (dVar 0) (lCons (dVar 1) lNil))))) (sRaise "BadStanding" (dVar 1)) sNx)
def F_need_standing : List D → M D := fun ds R => fin (sem_need_standing (startD N_need_standing ds) R)
def N_need_coin : List Str := ["web", "coin"]
def sem_need_coin : SM := (sIf (bNot (dT (dFn 3 F_is_within (lCons (dVar 1) (lCons (fun _ => pure (.int 0)) (lCons (d2 oSub (d1 webCoins (dVar 0)) (fun _ => pure (.int 1))) lNil)))))) (sRaise "BadCoin" (dVar 1)) sNx)
def F_need_coin : List D → M D := fun ds R => fin (sem_need_coin (startD N_need_coin ds) R)
def N_strings_of : List Str := ["web", "standing", "coin", "string"]
def sem_strings_of : SM := (sSeq (sDrop (dFn 2 F_need_standing (lCons (dVar 0) (lCons (dVar 1) lNil))))
  (sSeq (sDrop (dFn 2 F_need_coin (lCons (dVar 0) (lCons (dVar 2) lNil))))
  (sRet (dCall fTuple (lCons (dComp [3] (.nm 3) (iSeq (dVar 1)) (dB (d2 oInA (dVar 2) (d2 oIx (d1 webStrs (dVar 0)) (dVar 3)))) (dVar 3)) lNil)))))
def F_strings_of : List D → M D := fun ds R => fin (sem_strings_of (startD N_strings_of ds) R)
def N_open_coins : List Str := ["web", "standing", "coin", "many"]
def sem_open_coins : SM := (sSeq (sDrop (dFn 2 F_need_standing (lCons (dVar 0) (lCons (dVar 1) lNil))))
  (sRet (dCall fTuple (lCons (dComp [2, 3] (.tup [(.nm 2), (.nm 3)]) (iCall enumAf (lCons (dMeth 2 F_counts (dVar 0) (lCons (dVar 1) lNil)) lNil)) (dB (d2 oGt (dVar 3) (fun _ => pure (.int 0)))) (dVar 2)) lNil))))
def F_open_coins : List D → M D := fun ds R => fin (sem_open_coins (startD N_open_coins ds) R)
def N__law_taken : List Str := ["row", "many", "found", "cell"]
def sem__law_taken (Γ : Ctx) : SM := (sSeq (sIf (dB (d2 oGt (dRow Γ 3 (dVar 0)) (fun _ => pure (.int 0)))) (sSeq (sSet 2 (d2 oMod (dCall fIntA (lCons (dRow Γ 3 (dVar 0)) lNil)) (dVar 1)))
  (sSeq (sRowSet 0 3 (d2 oDiv (dRow Γ 3 (dVar 0)) (dVar 1)))
  (sRet (dVar 2)))) sNx)
  (sSeq (sRowSet 0 1 (d2 oPlus (dRow Γ 1 (dVar 0)) (fun _ => pure (.int 1))))
  (sSeq (sIf (dB (d2 oGt (dRow Γ 1 (dVar 0)) (d1 (scrLen Γ) (dRow Γ 0 (dVar 0))))) (sSeq (sRowSet 0 2 (d2 oMod (dCall fIntA (lCons (d2 oPlus (d2 oTimes (dRow Γ 2 (dVar 0)) (fun _ => pure (.int 48271))) (fun _ => pure (.int 11))) lNil)) (fun _ => pure (.int 2147483647))))
  (sRet (d2 oMod (dCall fIntA (lCons (d2 oDiv (dRow Γ 2 (dVar 0)) (fun _ => pure (.int 7))) lNil)) (dVar 1)))) sNx)
  (sSeq (sSet 3 (d2 (scrAt Γ) (dRow Γ 0 (dVar 0)) (d2 oSub (dRow Γ 1 (dVar 0)) (fun _ => pure (.int 1)))))
  (sSeq (sRowSet 0 2 (d2 oMod (dCall fIntA (lCons (d2 oPlus (d2 oPlus (d2 oTimes (dRow Γ 2 (dVar 0)) (fun _ => pure (.int 48271))) (dVar 3)) (fun _ => pure (.int 11))) lNil)) (fun _ => pure (.int 2147483647))))
  (sSeq (sIf (dB (d2 oGe (dVar 3) (d2 oPow (fun _ => pure (.int 10)) (fun _ => pure (.int 18))))) (sRowSet 0 3 (d2 oDiv (dVar 3) (dVar 1))) sNx)
  (sRet (d2 oMod (dCall fIntA (lCons (dVar 3) lNil)) (dVar 1)))))))))
def F__law_taken (Γ : Ctx) : List D → M D := fun ds R => fin (sem__law_taken Γ (startD N__law_taken ds) R)
def N__law_pick : List Str := ["row", "some"]
def sem__law_pick (Γ : Ctx) : SM := (sRet (d2 oIx (dVar 1) (dFn 2 (F__law_taken Γ) (lCons (dVar 0) (lCons (dCall fLen (lCons (dVar 1) lNil)) lNil)))))
def F__law_pick (Γ : Ctx) : List D → M D := fun ds R => fin (sem__law_pick Γ (startD N__law_pick ds) R)
def N__law_alike : List Str := ["found", "due", "k", "key"]
def sem__law_alike (FF : List D → M D) : SM := (sSeq (sIf (dT (d1 (isiD2 "tuple" "list") (dVar 1))) (sSeq (sIf (bOr (bNot (dT (d1 (isiD2 "tuple" "list") (dVar 0)))) (dB (d2 oNe (d1 (isiD "list") (dVar 0)) (d1 (isiD "list") (dVar 1))))) (sRet (fun _ => pure (.bl false))) sNx)
  (sSeq (sIf (dB (d2 oNe (dCall fLen (lCons (dVar 0) lNil)) (dCall fLen (lCons (dVar 1) lNil)))) (sRet (fun _ => pure (.bl false))) sNx)
  (sRet (d2 oEq (dComp [2] (.nm 2) (iCall rng1 (lCons (dCall fLen (lCons (dVar 1) lNil)) lNil)) (bNot (dT (dFn 2 FF (lCons (d2 oIx (dVar 0) (dVar 2)) (lCons (d2 oIx (dVar 1) (dVar 2)) lNil))))) (dVar 2)) (dLst lNil))))) sNx)
  (sSeq (sIf (dT (d1 (isiD "dict") (dVar 1))) (sSeq (sIf (bOr (bNot (dT (d1 (isiD "dict") (dVar 0)))) (dB (d2 oNe (dCall fList (lCons (dVar 0) lNil)) (dCall fList (lCons (dVar 1) lNil))))) (sRet (fun _ => pure (.bl false))) sNx)
  (sRet (d2 oEq (dComp [3] (.nm 3) (iSeq (dVar 1)) (bNot (dT (dFn 2 FF (lCons (d2 oIx (dVar 0) (dVar 3)) (lCons (d2 oIx (dVar 1) (dVar 3)) lNil))))) (dVar 3)) (dLst lNil)))) sNx)
  (sSeq (sIf (bOr (dB (d2 oIsN (dVar 1) (fun _ => pure .non))) (dT (d1 (isiD "str") (dVar 1)))) (sRet (dAnd (d2 oEq (dVar 0) (dVar 1)) (d2 oEq (d1 (isiD "str") (dVar 0)) (d1 (isiD "str") (dVar 1))))) sNx)
  (sRet (dAnd (d1 (isiD "int") (dVar 0)) (dAnd (d2 oEq (d1 (isiD "bool") (dVar 0)) (d1 (isiD "bool") (dVar 1))) (d2 oEq (dVar 0) (dVar 1))))))))
def FR__law_alike : Nat → List D → M D
  | 0 => fun _ => M.stuck
  | n + 1 => fun ds R => fin (sem__law_alike (FR__law_alike n) (startD N__law_alike ds) R)
def N__law_string : List Str := ["row", "coins", "one", "other"]
def sem__law_string (Γ : Ctx) : SM := (sSeq (sSet 2 (dFn 2 (F__law_taken Γ) (lCons (dVar 0) (lCons (dVar 1) lNil))))
  (sSeq (sSet 3 (dFn 2 (F__law_taken Γ) (lCons (dVar 0) (lCons (d2 oPlus (dVar 1) (fun _ => pure (.int 2))) lNil))))
  (sSeq (sIf (bOr (dB (d2 oGe (dVar 3) (dVar 1))) (dB (d2 oEq (dVar 3) (dVar 2)))) (sRet (dTup (lCons (dVar 2) (lCons (d2 oSub (fun _ => pure (.int 0)) (fun _ => pure (.int 1))) lNil)))) sNx)
  (sRet (dTup (lCons (dCall fMin2 (lCons (dVar 2) (lCons (dVar 3) lNil))) (lCons (dCall fMax2 (lCons (dVar 2) (lCons (dVar 3) lNil))) lNil)))))))
def F__law_string (Γ : Ctx) : List D → M D := fun ds R => fin (sem__law_string Γ (startD N__law_string ds) R)
def N__law_strings : List Str := ["row", "coins", "most", "k"]
def sem__law_strings (Γ : Ctx) : SM := (sRet (dComp [3] (.nm 3) (iCall rng1 (lCons (d2 oPlus (fun _ => pure (.int 1)) (dFn 2 (F__law_taken Γ) (lCons (dVar 0) (lCons (dVar 2) lNil)))) lNil)) bYes (dFn 2 (F__law_string Γ) (lCons (dVar 0) (lCons (dVar 1) lNil)))))
def F__law_strings (Γ : Ctx) : List D → M D := fun ds R => fin (sem__law_strings Γ (startD N__law_strings ds) R)
def N__law_web : List Str := ["row", "most", "coins"]
def sem__law_web (Γ : Ctx) : SM := (sSeq (sSet 2 (d2 oPlus (fun _ => pure (.int 1)) (dFn 2 (F__law_taken Γ) (lCons (dVar 0) (lCons (fun _ => pure (.int 5)) lNil)))))
  (sRet (dTup (lCons (dVar 2) (lCons (dFn 3 (F__law_strings Γ) (lCons (dVar 0) (lCons (dVar 2) (lCons (dVar 1) lNil)))) lNil)))))
def F__law_web (Γ : Ctx) : List D → M D := fun ds R => fin (sem__law_web Γ (startD N__law_web ds) R)
def N__law_some : List Str := ["row", "many", "k"]
def sem__law_some (Γ : Ctx) : SM := (sRet (dCall fTuple (lCons (dComp [2] (.nm 2) (iCall rng1 (lCons (dVar 1) lNil)) (dB (d2 oGt (dFn 2 (F__law_taken Γ) (lCons (dVar 0) (lCons (fun _ => pure (.int 4)) lNil))) (fun _ => pure (.int 0)))) (dVar 2)) lNil)))
def F__law_some (Γ : Ctx) : List D → M D := fun ds R => fin (sem__law_some Γ (startD N__law_some ds) R)
def N__law_at : List Str := ["strings", "standing", "coin", "k"]
def sem__law_at : SM := (sRet (dComp [3] (.nm 3) (iSeq (dVar 1)) (bOr (dB (d2 oEq (d2 oIx (d2 oIx (dVar 0) (dVar 3)) (fun _ => pure (.int 0))) (dVar 2))) (dB (d2 oEq (d2 oIx (d2 oIx (dVar 0) (dVar 3)) (fun _ => pure (.int 1))) (dVar 2)))) (dVar 3)))
def F__law_at : List D → M D := fun ds R => fin (sem__law_at (startD N__law_at ds) R)
def N__law_bad_web : List Str := ["row"]
def sem__law_bad_web (Γ : Ctx) : SM := (sRet (dFn 2 (F__law_pick Γ) (lCons (dVar 0) (lCons (dLst (lCons (fun _ => pure .non) (lCons (fun _ => pure (.int 3)) (lCons (dTup (lCons (fun _ => pure (.int 1)) (lCons (dTup lNil) lNil))) (lCons (fun _ => pure (.str ("web" : Str))) (lCons (dLst lNil) (lCons (fun _ => pure .dic) lNil))))))) lNil))))
def F__law_bad_web (Γ : Ctx) : List D → M D := fun ds R => fin (sem__law_bad_web Γ (startD N__law_bad_web ds) R)
def N__law_bad_standing : List Str := ["row", "many"]
def sem__law_bad_standing (Γ : Ctx) : SM := (sRet (dFn 2 (F__law_pick Γ) (lCons (dVar 0) (lCons (dLst (lCons (fun _ => pure .non) (lCons (fun _ => pure (.int 3)) (lCons (dLst (lCons (fun _ => pure (.int 0)) lNil)) (lCons (dTup (lCons (dVar 1) lNil)) (lCons (dTup (lCons (fun _ => pure (.int 0)) (lCons (fun _ => pure (.int 0)) lNil))) (lCons (dTup (lCons (fun _ => pure (.int 1)) (lCons (fun _ => pure (.int 0)) lNil))) (lCons (dTup (lCons (d2 oSub (fun _ => pure (.int 0)) (fun _ => pure (.int 1))) lNil)) (lCons (dTup (lCons (fun _ => pure (.str ("0" : Str))) lNil)) (lCons (dTup (lCons (fun _ => pure (.bl true)) lNil)) (lCons (dTup (lCons (fun _ => pure (.int 0)) (lCons (dVar 1) lNil))) lNil))))))))))) lNil))))
def F__law_bad_standing (Γ : Ctx) : List D → M D := fun ds R => fin (sem__law_bad_standing Γ (startD N__law_bad_standing ds) R)
def N__law_wrong_strings : List Str := ["row", "coins", "good", "wrong"]
def sem__law_wrong_strings (Γ : Ctx) : SM := (sSeq (sSet 2 (d2 oTimes (dLst (lCons (dTup (lCons (fun _ => pure (.int 0)) (lCons (d2 oSub (fun _ => pure (.int 0)) (fun _ => pure (.int 1))) lNil))) lNil)) (dFn 2 (F__law_taken Γ) (lCons (dVar 0) (lCons (fun _ => pure (.int 3)) lNil)))))
  (sSeq (sSet 3 (dFn 2 (F__law_pick Γ) (lCons (dVar 0) (lCons (dLst (lCons (dTup (lCons (fun _ => pure (.int 0)) (lCons (dVar 1) lNil))) (lCons (dTup (lCons (fun _ => pure (.int 0)) (lCons (fun _ => pure (.int 0)) lNil))) (lCons (dTup (lCons (dVar 1) (lCons (d2 oSub (fun _ => pure (.int 0)) (fun _ => pure (.int 1))) lNil))) (lCons (dTup (lCons (fun _ => pure (.int 0)) lNil)) (lCons (dLst (lCons (fun _ => pure (.int 0)) (lCons (d2 oSub (fun _ => pure (.int 0)) (fun _ => pure (.int 1))) lNil))) (lCons (fun _ => pure .non) (lCons (fun _ => pure (.str ("01" : Str))) (lCons (dTup (lCons (fun _ => pure (.bl true)) (lCons (d2 oSub (fun _ => pure (.int 0)) (fun _ => pure (.int 1))) lNil))) (lCons (dTup (lCons (fun _ => pure (.int 0)) (lCons (d2 oSub (fun _ => pure (.int 0)) (fun _ => pure (.int 2))) lNil))) lNil)))))))))) lNil))))
  (sRet (dTup (lCons (d2 oPlus (dVar 2) (dLst (lCons (dVar 3) (lCons (fun _ => pure (.int 7)) lNil)))) (lCons (dCall fLen (lCons (dVar 2) lNil)) lNil))))))
def F__law_wrong_strings (Γ : Ctx) : List D → M D := fun ds R => fin (sem__law_wrong_strings Γ (startD N__law_wrong_strings ds) R)
def N_Web : List Str := ["self", "coins", "strings", "index", "one"]
def sem_Web : SM := (sSeq (sIf (bNot (dT (dFn 3 F_is_within (lCons (dVar 1) (lCons (fun _ => pure (.int 1)) (lCons (fun _ => pure (.int 9)) lNil)))))) (sRaise "BadCoins" (dVar 1)) sNx)
  (sSeq (sIf (bOr (bNot (dT (dFn 1 F_is_row (lCons (dVar 2) lNil)))) (dB (d2 oGt (dCall fLen (lCons (dVar 2) lNil)) (fun _ => pure (.int 12))))) (sRaise "BadStrings" (d1 oNeg (fun _ => pure (.int 1)))) sNx)
  (sFor (.tup [(.nm 3), (.nm 4)]) (iCall enumAf (lCons (dVar 2) lNil)) (sIf (bNot (dT (dFn 2 F_is_string (lCons (dVar 4) (lCons (dVar 1) lNil))))) (sRaise "BadStrings" (dVar 3)) sNx))))
/-! ### a web is made -/
def pl : D → Bool
  | .row _ | .fn _ | .web _ _ => false
  | _ => true
def within : D → Int → Int → Bool
  | .int i, a, b => decide (a ≤ i) && decide (i ≤ b)
  | _, _, _ => false
def isStr2 : D → Int → Bool
  | .tup [.int i, y], n => within (.int i) 0 (n - 1) && (within y (i + 1) (n - 1) || within y (-1) (-1))
  | _, _ => false
/-- plain, and the items of a tuple too -/
def pl2 : D → Bool
  | .tup ds => decide (ds.length ≤ sizeLine) && ds.all pl
  | .str x => decide (x.length ≤ sizeLine)
  | d => pl d
def firstBad (n : Int) : List D → Int → Option Int
  | [], _ => none
  | d :: ds, i => if isStr2 d n = true then firstBad n ds (i + 1) else some i
def unpairs : List D → Option (List (Int × Int))
  | [] => some []
  | .tup [.int i, .int j] :: ds => (unpairs ds).map ((i, j) :: ·)
  | _ => none
def F_Web : List D → M D
  | [c, s] => fun R => if (pl c && pl s) = true then (if within c 1 9 = true then (match c with
      | .int n => (match seqD s with
        | none => .exn "BadStrings" (.int (-1)) R
        | some xs => if xs.all pl2 = true ∧ xs.length ≤ sizeLine then (if 12 < xs.length then .exn "BadStrings" (.int (-1)) R else (match firstBad n xs 0 with
          | some i => .exn "BadStrings" (.int i) R
          | none => (match unpairs xs with
            | some ss => .ok (.web n ss) R
            | none => .stuck))) else .stuck)
      | _ => .stuck) else .exn "BadCoins" c R) else .stuck
  | _ => fun _ => .stuck
def N_law : List Str := ["script", "row", "coins", "strings", "web", "many", "turn", "standing", "due", "coin", "wrong", "none", "other", "asks", "ask", "some", "things", "place"]
def refW : List (String × Str) := [("BadCoins", ("coins" : Str)), ("BadStrings", ("strings" : Str)), ("BadWeb", ("web" : Str)), ("BadStanding", ("standing" : Str)), ("BadCoin", ("coin" : Str))]
def tab_ask (Γ : Ctx) : FTab := [("whole", 1, F_whole)]
def G_lam0 (Γ : Ctx) : SEnv → M D := (dFn 2 F_is_standing (lCons (dVar 0) (lCons (dTup lNil) lNil)))
def G_lam1 (Γ : Ctx) : SEnv → M D := (dFn 3 F_strings_of (lCons (dVar 0) (lCons (dVar 1) (lCons (dVar 2) lNil))))
def lt_ask (Γ : Ctx) : LSem := [("λ0", 1, [], G_lam0 Γ), ("λ1", 1, [10, 11], G_lam1 Γ)]
def sem_law (Γ : Ctx) : SM := (sSeq (sAsg (.tup [(.nm 2), (.nm 3)]) (dFn 2 (F__law_web Γ) (lCons (dVar 1) (lCons (fun _ => pure (.int 8)) lNil))))
  (sSeq (sSet 4 (dWeb F_Web (lCons (dVar 2) (lCons (dFn 2 (F__law_pick Γ) (lCons (dVar 1) (lCons (dLst (lCons (dVar 3) (lCons (dCall fTuple (lCons (dVar 3) lNil)) lNil))) lNil))) lNil))))
  (sSeq (sSet 5 (dCall fLen (lCons (dVar 3) lNil)))
  (sSeq (sIf (bNot (dT (dFn 2 (FR__law_alike 8) (lCons (dLst (lCons (d1 webCoins (dVar 4)) (lCons (d1 webStrs (dVar 4)) (lCons (dFn 1 F_whole (lCons (dVar 4) lNil)) lNil)))) (lCons (dLst (lCons (dVar 2) (lCons (dCall fTuple (lCons (dVar 3) lNil)) (lCons (dCall rgTup (lCons (dVar 5) lNil)) lNil)))) lNil))))) (sRet (fun _ => pure (.bl false))) sNx)
  (sSeq (sFor (.nm 6) (iCall rng1 (lCons (fun _ => pure (.int 6)) lNil)) (sSeq (sSet 7 (dFn 2 (F__law_some Γ) (lCons (dVar 1) (lCons (dVar 5) lNil))))
  (sSeq (sIf (dB (d2 oNotB (dFn 2 F_is_standing (lCons (dVar 4) (lCons (dVar 7) lNil))) (fun _ => pure (.bl true)))) (sRet (fun _ => pure (.bl false))) sNx)
  (sSeq (sSet 8 (dComp [9] (.nm 9) (iCall rng1 (lCons (dVar 2) lNil)) (dB (d2 oNe (dFn 3 F__law_at (lCons (dVar 3) (lCons (dVar 7) (lCons (dVar 9) lNil)))) (dLst lNil))) (dVar 9)))
  (sSeq (sIf (bNot (dT (dFn 2 (FR__law_alike 8) (lCons (dFn 2 F_open_coins (lCons (dVar 4) (lCons (dVar 7) lNil))) (lCons (dCall fTuple (lCons (dVar 8) lNil)) lNil))))) (sRet (fun _ => pure (.bl false))) sNx)
  (sFor (.nm 9) (iCall rng1 (lCons (dVar 2) lNil)) (sIf (bNot (dT (dFn 2 (FR__law_alike 8) (lCons (dFn 3 F_strings_of (lCons (dVar 4) (lCons (dVar 7) (lCons (dVar 9) lNil)))) (lCons (dCall fTuple (lCons (dFn 3 F__law_at (lCons (dVar 3) (lCons (dVar 7) (lCons (dVar 9) lNil)))) lNil)) lNil))))) (sRet (fun _ => pure (.bl false))) sNx)))))))
  (sSeq (sSet 10 (dFn 2 (F__law_bad_standing Γ) (lCons (dVar 1) (lCons (dVar 5) lNil))))
  (sSeq (sIf (bOr (dB (d2 oNotB (dFn 2 F_is_standing (lCons (dVar 4) (lCons (dVar 10) lNil))) (fun _ => pure (.bl false)))) (dB (d2 oNe (dCall fRepr (lCons (dRef refW (dFn 2 F_open_coins (lCons (dVar 4) (lCons (dVar 10) lNil)))) lNil)) (dCall fRepr (lCons (dTup (lCons (fun _ => pure (.str ("standing" : Str))) (lCons (dVar 10) lNil))) lNil))))) (sRet (fun _ => pure (.bl false))) sNx)
  (sSeq (sSet 11 (dFn 2 (F__law_pick Γ) (lCons (dVar 1) (lCons (dLst (lCons (dVar 2) (lCons (d2 oSub (fun _ => pure (.int 0)) (fun _ => pure (.int 1))) (lCons (fun _ => pure .non) (lCons (fun _ => pure (.str ("0" : Str))) (lCons (d2 oPow (fun _ => pure (.int 10)) (fun _ => pure (.int 20))) (lCons (dTup (lCons (fun _ => pure (.int 0)) lNil)) lNil))))))) lNil))))
  (sSeq (sIf (dB (d2 oNe (dCall fRepr (lCons (dRef refW (dFn 3 F_strings_of (lCons (dVar 4) (lCons (dTup lNil) (lCons (dVar 11) lNil))))) lNil)) (dCall fRepr (lCons (dTup (lCons (fun _ => pure (.str ("coin" : Str))) (lCons (dVar 11) lNil))) lNil)))) (sRet (fun _ => pure (.bl false))) sNx)
  (sSeq (sIf (dB (d2 oNe (dCall fRepr (lCons (dRef refW (dFn 3 F_strings_of (lCons (dVar 4) (lCons (dVar 10) (lCons (dVar 11) lNil))))) lNil)) (dCall fRepr (lCons (dTup (lCons (fun _ => pure (.str ("standing" : Str))) (lCons (dVar 10) lNil))) lNil)))) (sRet (fun _ => pure (.bl false))) sNx)
  (sSeq (sSet 12 (dFn 1 (F__law_bad_web Γ) (lCons (dVar 1) lNil)))
  (sSeq (sSet 13 (dLst (lCons (fun _ => pure (.fn "whole")) (lCons (fun _ => pure (.fn "λ0")) lNil))))
  (sSeq (sFor (.nm 14) (iSeq (d2 oPlus (dVar 13) (dLst (lCons (fun _ => pure (.fn "λ1")) lNil)))) (sIf (dB (d2 oNe (dCall fRepr (lCons (dRef refW (dHeldL 14 (tab_ask Γ) (lt_ask Γ) (lCons (dVar 12) lNil))) lNil)) (dCall fRepr (lCons (dTup (lCons (fun _ => pure (.str ("web" : Str))) (lCons (dVar 12) lNil))) lNil)))) (sRet (fun _ => pure (.bl false))) sNx))
  (sSeq (sSet 15 (dFn 2 (F__law_pick Γ) (lCons (dVar 1) (lCons (dLst (lCons (fun _ => pure (.int 0)) (lCons (fun _ => pure (.int 10)) (lCons (d2 oSub (fun _ => pure (.int 0)) (fun _ => pure (.int 1))) (lCons (fun _ => pure .non) (lCons (fun _ => pure (.bl true)) (lCons (fun _ => pure (.str ("3" : Str))) (lCons (dTup (lCons (fun _ => pure (.int 3)) lNil)) (lCons (d2 oPow (fun _ => pure (.int 10)) (fun _ => pure (.int 25))) lNil))))))))) lNil))))
  (sSeq (sIf (dB (d2 oNe (dCall fRepr (lCons (dRef refW (dWeb F_Web (lCons (dVar 15) (lCons (fun _ => pure .non) lNil)))) lNil)) (dCall fRepr (lCons (dTup (lCons (fun _ => pure (.str ("coins" : Str))) (lCons (dVar 15) lNil))) lNil)))) (sRet (fun _ => pure (.bl false))) sNx)
  (sSeq (sIf (dB (d2 oNe (dRef refW (dWeb F_Web (lCons (dVar 2) (lCons (dFn 2 (F__law_pick Γ) (lCons (dVar 1) (lCons (dLst (lCons (fun _ => pure .non) (lCons (fun _ => pure (.int 3)) (lCons (fun _ => pure (.str ("(0, -1)" : Str))) (lCons (fun _ => pure .dic) (lCons (d2 oTimes (dLst (lCons (dTup (lCons (fun _ => pure (.int 0)) (lCons (d2 oSub (fun _ => pure (.int 0)) (fun _ => pure (.int 1))) lNil))) lNil)) (fun _ => pure (.int 13))) lNil)))))) lNil))) lNil)))) (dTup (lCons (fun _ => pure (.str ("strings" : Str))) (lCons (d2 oSub (fun _ => pure (.int 0)) (fun _ => pure (.int 1))) lNil))))) (sRet (fun _ => pure (.bl false))) sNx)
  (sSeq (sAsg (.tup [(.nm 16), (.nm 17)]) (dFn 2 (F__law_wrong_strings Γ) (lCons (dVar 1) (lCons (dVar 2) lNil))))
  (sRet (d2 oEq (dRef refW (dWeb F_Web (lCons (dVar 2) (lCons (dVar 16) lNil)))) (dTup (lCons (fun _ => pure (.str ("strings" : Str))) (lCons (dVar 17) lNil))))))))))))))))))))))
end
end DL

set_option Elab.async false
set_option linter.all false
set_option maxRecDepth 100000
namespace DL
open PySem PySem.Spec L2
/-! ### the readings' functions, run -/
section
variable {Γ : Ctx} {δ : SEnv} {R : Option Rw}
@[simp] theorem r_pure {α : Type} (a : α) : (pure a : M α) R = .ok a R := rfl
@[simp] theorem r_stuck {α : Type} : (M.stuck : M α) R = .stuck := rfl
@[simp] theorem r_lift_some {α : Type} (a : α) : M.lift (some a) R = .ok a R := rfl
@[simp] theorem r_lift_none {α : Type} : (M.lift none : M α) R = .stuck := rfl
theorem bind_ok {α β : Type} {m : M α} {f : α → M β} {a : α} {R1 : Option Rw} (h : m R = .ok a R1) : (m >>= f) R = f a R1 := by rw [bind_run, h]
theorem bind_exn {α β : Type} {m : M α} {f : α → M β} {c : String} {d : D} {R1 : Option Rw} (h : m R = .exn c d R1) : (m >>= f) R = .exn c d R1 := by rw [bind_run, h]
theorem e_var {i : Nat} {d : D} (h : δ[i]? = some (.dat d)) : dVar i δ R = .ok d R := by unfold dVar; rw [h]; rfl
theorem e_d1 {f : D → Option D} {fa : SEnv → M D} {a d : D} {R1 : Option Rw} (h : fa δ R = .ok a R1) (e : f a = some d) : d1 f fa δ R = .ok d R1 := by unfold d1; rw [bind_ok h, e]; rfl
theorem e_d2 {f : D → D → Option D} {fa fb : SEnv → M D} {a b d : D} {R1 R2 : Option Rw} (h : fa δ R = .ok a R1) (h2 : fb δ R1 = .ok b R2) (e : f a b = some d) : d2 f fa fb δ R = .ok d R2 := by unfold d2; rw [bind_ok h, bind_ok h2, e]; rfl
theorem e_dB {f : SEnv → M D} {k : Bool} {R1 : Option Rw} (h : f δ R = .ok (.bl k) R1) : dB f δ R = .ok k R1 := by unfold dB; rw [bind_ok h]; rfl
theorem e_dT {f : SEnv → M D} {d : D} {k : Bool} {R1 : Option Rw} (h : f δ R = .ok d R1) (e : truD d = some k) : dT f δ R = .ok k R1 := by unfold dT; rw [bind_ok h, e]; rfl
theorem e_dTb {f : SEnv → M D} {k : Bool} {R1 : Option Rw} (h : f δ R = .ok (.bl k) R1) : dT f δ R = .ok k R1 := e_dT h rfl
theorem e_not {f : SEnv → M Bool} {k : Bool} {R1 : Option Rw} (h : f δ R = .ok k R1) : bNot f δ R = .ok (!k) R1 := by unfold bNot; rw [bind_ok h]; rfl
theorem e_andT {f g : SEnv → M Bool} {R1 : Option Rw} (h : f δ R = .ok true R1) : bAnd f g δ R = g δ R1 := by unfold bAnd; rw [bind_ok h, if_pos rfl]
theorem e_andF {f g : SEnv → M Bool} {R1 : Option Rw} (h : f δ R = .ok false R1) : bAnd f g δ R = .ok false R1 := by unfold bAnd; rw [bind_ok h, if_neg Bool.false_ne_true]; rfl
theorem e_orF {f g : SEnv → M Bool} {R1 : Option Rw} (h : f δ R = .ok false R1) : bOr f g δ R = g δ R1 := by unfold bOr; rw [bind_ok h, if_neg Bool.false_ne_true]
theorem e_orT {f g : SEnv → M Bool} {R1 : Option Rw} (h : f δ R = .ok true R1) : bOr f g δ R = .ok true R1 := by unfold bOr; rw [bind_ok h, if_pos rfl]; rfl
theorem e_dNot {f : SEnv → M D} {k : Bool} {R1 : Option Rw} (h : f δ R = .ok (.bl k) R1) : dNot f δ R = .ok (.bl (!k)) R1 := by unfold dNot; rw [bind_ok h]; rfl
theorem e_dAnd {f g : SEnv → M D} {k j : Bool} {R1 : Option Rw} (h : f δ R = .ok (.bl k) R1) (h2 : k = true → g δ R1 = .ok (.bl j) R1) : dAnd f g δ R = .ok (.bl (k && j)) R1 := by
  unfold dAnd
  rw [bind_ok h]
  cases k with
  | true => simp only [asB, M.lift_some, M.pure_bind, if_pos]; rw [h2 rfl]; rfl
  | false => rfl
theorem e_dOr {f g : SEnv → M D} {k j : Bool} {R1 : Option Rw} (h : f δ R = .ok (.bl k) R1) (h2 : k = false → g δ R1 = .ok (.bl j) R1) : dOr f g δ R = .ok (.bl (k || j)) R1 := by
  unfold dOr
  rw [bind_ok h]
  cases k with
  | false => exact h2 rfl
  | true => rfl
theorem e_ifT {c : SEnv → M Bool} {f g : SEnv → M D} {R1 : Option Rw} (h : c δ R = .ok true R1) : dIf c f g δ R = f δ R1 := by unfold dIf; rw [bind_ok h, if_pos rfl]
theorem e_ifF {c : SEnv → M Bool} {f g : SEnv → M D} {R1 : Option Rw} (h : c δ R = .ok false R1) : dIf c f g δ R = g δ R1 := by unfold dIf; rw [bind_ok h, if_neg Bool.false_ne_true]
theorem e_nil : lNil δ R = .ok [] R := rfl
theorem e_cons {f : SEnv → M D} {g : SEnv → M (List D)} {d : D} {ds : List D} {R1 R2 : Option Rw} (h : f δ R = .ok d R1) (h2 : g δ R1 = .ok ds R2) : lCons f g δ R = .ok (d :: ds) R2 := by unfold lCons; rw [bind_ok h, bind_ok h2]; rfl
theorem e_fn {n : Nat} {F : List D → M D} {fs : SEnv → M (List D)} {ds : List D} {R1 : Option Rw} (h : fs δ R = .ok ds R1) (hn : ds.length = n) : dFn n F fs δ R = F ds R1 := by unfold dFn; rw [bind_ok h, if_pos hn]
theorem e_call {f : List D → Option D} {fs : SEnv → M (List D)} {ds : List D} {d : D} {R1 : Option Rw} (h : fs δ R = .ok ds R1) (e : f ds = some d) : dCall f fs δ R = .ok d R1 := by unfold dCall; rw [bind_ok h, e]; rfl
theorem e_tup {fs : SEnv → M (List D)} {ds : List D} {R1 : Option Rw} (h : fs δ R = .ok ds R1) (hl : ds.length ≤ sizeLine) : dTup fs δ R = .ok (.tup ds) R1 := by unfold dTup; rw [bind_ok h]; unfold lenOk; rw [if_pos hl]; rfl
theorem e_lst {fs : SEnv → M (List D)} {ds : List D} {R1 : Option Rw} (h : fs δ R = .ok ds R1) (hl : ds.length ≤ sizeLine) : dLst fs δ R = .ok (.lst ds) R1 := by unfold dLst; rw [bind_ok h]; unfold lenOk; rw [if_pos hl]; rfl
theorem e_meth {n : Nat} {F : List D → M D} {fe : SEnv → M D} {fs : SEnv → M (List D)} {n0 : Int} {ss : List (Int × Int)} {ds : List D} {d : D} {R1 R2 R3 : Option Rw} (h : fe δ R = .ok (.web n0 ss) R1) (h2 : fs δ R1 = .ok ds R2) (hn : (D.web n0 ss :: ds).length = n) (e : F (.web n0 ss :: ds) R2 = .ok d R3) : dMeth n F fe fs δ R = .ok d R3 := by
  unfold dMeth
  rw [bind_ok h]
  simp only [M.lift_some, M.pure_bind]
  rw [bind_ok h2, if_pos hn]
  unfold M.nox
  rw [e]
theorem e_web {F : List D → M D} {fs : SEnv → M (List D)} {ds : List D} {n : Int} {ss : List (Int × Int)} {R1 R2 : Option Rw} (h : fs δ R = .ok ds R1) (hn : ds.length = 2) (e : F ds R1 = .ok (.web n ss) R2) : dWeb F fs δ R = .ok (.web n ss) R2 := by
  unfold dWeb
  rw [bind_ok h, if_pos hn, bind_ok e]
  rfl
theorem e_seq {fe : SEnv → M D} {d : D} {ds : List D} {R1 : Option Rw} (h : fe δ R = .ok d R1) (e : seqD d = some ds) : iSeq fe δ R = .ok ds R1 := by unfold iSeq; rw [bind_ok h, e]; rfl
theorem e_icall {f : List D → Option (List D)} {fs : SEnv → M (List D)} {ds es : List D} {R1 : Option Rw} (h : fs δ R = .ok ds R1) (e : f ds = some es) : iCall f fs δ R = .ok es R1 := by unfold iCall; rw [bind_ok h, e]; rfl
theorem e_some {f : SEnv → M D} {i : Int} {R1 : Option Rw} (h : f δ R = .ok (.int i) R1) : pSome f δ R = .ok (some i) R1 := by unfold pSome; rw [bind_ok h]; rfl
theorem e_none : pNone δ R = .ok none R := rfl
theorem e_cut {fe : SEnv → M D} {fl fh : SEnv → M (Option Int)} {d e : D} {l h : Option Int} {R1 R2 R3 : Option Rw} (h1 : fe δ R = .ok d R1) (h2 : fl δ R1 = .ok l R2) (h3 : fh δ R2 = .ok h R3) (he : oCut d l h = some e) : dCut fe fl fh δ R = .ok e R3 := by
  unfold dCut
  rw [bind_ok h1, bind_ok h2, bind_ok h3, he]
  rfl
/-! ### comprehensions -/
theorem compL_pure {t : Tgt} {ft : SEnv → M Bool} {fe : SEnv → M D} {δ : SEnv} {p : D → Bool} {g : D → D} : ∀ {ds : List D} {R : Option Rw}, (∀ d ∈ ds, ∃ δ1, bindT t d δ = some δ1 ∧ (∀ R, ft δ1 R = .ok (p d) R) ∧ (p d = true → ∀ R, fe δ1 R = .ok (g d) R)) → compL t ft fe δ ds R = .ok ((ds.filter p).map g) R
  | [], R, _ => rfl
  | d :: ds, R, h => by
    obtain ⟨δ1, e1, e2, e3⟩ := h d List.mem_cons_self
    have ih := compL_pure (t := t) (ft := ft) (fe := fe) (δ := δ) (p := p) (g := g) (ds := ds) (R := R) fun x hx => h x (List.mem_cons_of_mem _ hx)
    unfold compL
    rw [e1]
    simp only
    rw [e2]
    cases hp : p d with
    | false =>
      simp only
      rw [ih, List.filter_cons_of_neg (by rw [hp]; exact Bool.false_ne_true)]
    | true =>
      simp only
      rw [e3 hp, List.filter_cons_of_pos hp]
      simp only
      rw [ih]
      rfl
theorem e_comp {vs : List Nat} {t : Tgt} {fi : SEnv → M (List D)} {ft : SEnv → M Bool} {fe : SEnv → M D} {p : D → Bool} {g : D → D} {ds : List D} {R1 : Option Rw} (h : fi δ R = .ok ds R1) (hl : ds.length ≤ sizeLine) (hc : ∀ d ∈ ds, ∃ δ1, bindT t d (blkD δ vs) = some δ1 ∧ (∀ R, ft δ1 R = .ok (p d) R) ∧ (p d = true → ∀ R, fe δ1 R = .ok (g d) R)) :
    dComp vs t fi ft fe δ R = .ok (.lst ((ds.filter p).map g)) R1 := by
  unfold dComp
  rw [bind_ok h]
  unfold lenOk
  rw [if_pos hl]
  simp only [M.lift_some, M.pure_bind]
  rw [bind_ok (compL_pure hc)]
  rfl
/-! ### statements -/
theorem s_set {i : Nat} {fe : SEnv → M D} {d : D} {R1 : Option Rw} (h : fe δ R = .ok d R1) : sSet i fe δ R = .nx (δ.set i (.dat d)) R1 := by unfold sSet sBind; rw [h]
theorem s_asg {t : Tgt} {fe : SEnv → M D} {d : D} {δ' : SEnv} {R1 : Option Rw} (h : fe δ R = .ok d R1) (e : bindT t d δ = some δ') : sAsg t fe δ R = .nx δ' R1 := by unfold sAsg sBind; rw [h]; simp only [e]
theorem s_ret {fe : SEnv → M D} {d : D} {R1 : Option Rw} (h : fe δ R = .ok d R1) : sRet fe δ R = .rt d R1 := by unfold sRet sBind; rw [h]
theorem s_retX {fe : SEnv → M D} {c : String} {d : D} {R1 : Option Rw} (h : fe δ R = .exn c d R1) : sRet fe δ R = .ex c d R1 := by unfold sRet sBind; rw [h]
theorem s_drop {fe : SEnv → M D} {d : D} {R1 : Option Rw} (h : fe δ R = .ok d R1) : sDrop fe δ R = .nx δ R1 := by unfold sDrop sBind; rw [h]
theorem s_dropX {fe : SEnv → M D} {c : String} {d : D} {R1 : Option Rw} (h : fe δ R = .exn c d R1) : sDrop fe δ R = .ex c d R1 := by unfold sDrop sBind; rw [h]
theorem s_raise {c : String} {fe : SEnv → M D} {d : D} {R1 : Option Rw} (h : fe δ R = .ok d R1) : sRaise c fe δ R = .ex c d R1 := by unfold sRaise sBind; rw [h]
theorem s_ifT {c : SEnv → M Bool} {f g : SM} {R1 : Option Rw} (h : c δ R = .ok true R1) : sIf c f g δ R = f δ R1 := by unfold sIf sBind; rw [h]; simp only [if_pos]
theorem s_ifF {c : SEnv → M Bool} {f g : SM} {R1 : Option Rw} (h : c δ R = .ok false R1) : sIf c f g δ R = g δ R1 := by unfold sIf sBind; rw [h]; rfl
theorem s_seq {f g : SM} {δ1 : SEnv} {R1 : Option Rw} (h : f δ R = .nx δ1 R1) : sSeq f g δ R = g δ1 R1 := by unfold sSeq; rw [h]
theorem s_seqR {f g : SM} {d : D} {R1 : Option Rw} (h : f δ R = .rt d R1) : sSeq f g δ R = .rt d R1 := by unfold sSeq; rw [h]
theorem s_seqX {f g : SM} {c : String} {d : D} {R1 : Option Rw} (h : f δ R = .ex c d R1) : sSeq f g δ R = .ex c d R1 := by unfold sSeq; rw [h]
theorem s_for {t : Tgt} {fi : SEnv → M (List D)} {body : SM} {ds : List D} {R1 : Option Rw} (h : fi δ R = .ok ds R1) : sFor t fi body δ R = sLoop t body ds δ R1 := by unfold sFor sBind; rw [h]
/-- a loop that goes through: the invariant tells what was walked -/
theorem loop_inv {t : Tgt} {body : SM} (I : List D → SEnv → Option Rw → Prop) : ∀ {ds pre : List D} {δ : SEnv} {R : Option Rw}, I pre δ R → (∀ (pre' : List D) (d : D) (δ : SEnv) (R : Option Rw), d ∈ ds → I pre' δ R → ∃ δ1, bindT t d δ = some δ1 ∧ ∃ δ2 R2, body δ1 R = .nx δ2 R2 ∧ I (pre' ++ [d]) δ2 R2) →
    ∃ δ2 R2, sLoop t body ds δ R = .nx δ2 R2 ∧ I (pre ++ ds) δ2 R2
  | [], pre, δ, R, h, _ => ⟨δ, R, rfl, by rw [List.append_nil]; exact h⟩
  | d :: ds, pre, δ, R, h, hs => by
    obtain ⟨δ1, e1, δ2, R2, e2, h2⟩ := hs pre d δ R List.mem_cons_self h
    obtain ⟨δ3, R3, e3, h3⟩ := loop_inv (t := t) (body := body) I (ds := ds) (pre := pre ++ [d]) h2 fun pre' x δ R hx => hs pre' x δ R (List.mem_cons_of_mem _ hx)
    refine ⟨δ3, R3, ?_, by rw [List.append_assoc] at h3; exact h3⟩
    unfold sLoop
    rw [e1]
    simp only
    rw [e2]
    exact e3
end
end DL

set_option Elab.async false
set_option linter.all false
set_option maxRecDepth 100000
namespace DL
open PySem PySem.Spec L2
/-! ### the readings' functions, as rewriting rules -/
def Out.bnd {α β : Type} (o : Out α) (f : α → Option Rw → Out β) : Out β := match o with
  | .ok a R => f a R
  | .exn c d R => .exn c d R
  | .stuck => .stuck
def Out.sb {α : Type} (o : Out α) (f : α → Option Rw → SOut) : SOut := match o with
  | .ok a R => f a R
  | .exn c d R => .ex c d R
  | .stuck => .stuck
def SOut.then (o : SOut) (g : SM) : SOut := match o with
  | .nx δ R => g δ R
  | .rt d R => .rt d R
  | .bk δ R => .bk δ R
  | .ct δ R => .ct δ R
  | .ex c d R => .ex c d R
  | .stuck => .stuck
@[simp] theorem bnd_ok {α β : Type} (a : α) (R : Option Rw) (f : α → Option Rw → Out β) : (Out.ok a R).bnd f = f a R := rfl
@[simp] theorem bnd_exn {α β : Type} (c : String) (d : D) (R : Option Rw) (f : α → Option Rw → Out β) : (Out.exn c d R : Out α).bnd f = .exn c d R := rfl
@[simp] theorem bnd_stuck {α β : Type} (f : α → Option Rw → Out β) : (Out.stuck : Out α).bnd f = .stuck := rfl
@[simp] theorem sb_ok {α : Type} (a : α) (R : Option Rw) (f : α → Option Rw → SOut) : (Out.ok a R).sb f = f a R := rfl
@[simp] theorem sb_exn {α : Type} (c : String) (d : D) (R : Option Rw) (f : α → Option Rw → SOut) : (Out.exn c d R : Out α).sb f = .ex c d R := rfl
@[simp] theorem sb_stuck {α : Type} (f : α → Option Rw → SOut) : (Out.stuck : Out α).sb f = .stuck := rfl
@[simp] theorem then_nx (δ : SEnv) (R : Option Rw) (g : SM) : (SOut.nx δ R).then g = g δ R := rfl
@[simp] theorem then_rt (d : D) (R : Option Rw) (g : SM) : (SOut.rt d R).then g = .rt d R := rfl
@[simp] theorem then_ex (c : String) (d : D) (R : Option Rw) (g : SM) : (SOut.ex c d R).then g = .ex c d R := rfl
@[simp] theorem fin_nx (δ : SEnv) (R : Option Rw) : fin (.nx δ R) = .ok .non R := rfl
@[simp] theorem fin_rt (d : D) (R : Option Rw) : fin (.rt d R) = .ok d R := rfl
@[simp] theorem fin_ex (c : String) (d : D) (R : Option Rw) : fin (.ex c d R) = .exn c d R := rfl
@[simp] theorem bnd_ite {α β : Type} {c : Prop} [Decidable c] (x y : Out α) (f : α → Option Rw → Out β) : (if c then x else y : Out α).bnd f = if c then x.bnd f else y.bnd f := by split <;> rfl
@[simp] theorem sb_ite {α : Type} {c : Prop} [Decidable c] (x y : Out α) (f : α → Option Rw → SOut) : (if c then x else y : Out α).sb f = if c then x.sb f else y.sb f := by split <;> rfl
@[simp] theorem then_ite {c : Prop} [Decidable c] (x y : SOut) (g : SM) : (if c then x else y : SOut).then g = if c then x.then g else y.then g := by split <;> rfl
@[simp] theorem fin_ite {c : Prop} [Decidable c] (x y : SOut) : fin (if c then x else y : SOut) = if c then fin x else fin y := by split <;> rfl
section
variable {δ : SEnv} {R : Option Rw}
theorem r_bind {α β : Type} (m : M α) (f : α → M β) : (m >>= f) R = (m R).bnd fun a R1 => f a R1 := by
  rw [bind_run]
  cases m R <;> rfl
def varO (o : Option SD) (R : Option Rw) : Out D := match o with
  | some (.dat d) => .ok d R
  | _ => .stuck
@[simp] theorem varO_dat (d : D) : varO (some (.dat d)) R = .ok d R := rfl
@[simp] theorem r_var {i : Nat} : dVar i δ R = varO δ[i]? R := by
  unfold dVar varO
  cases δ[i]? with
  | none => rfl
  | some x => cases x <;> rfl
@[simp] theorem r_d1 {f : D → Option D} {fa : SEnv → M D} : d1 f fa δ R = (fa δ R).bnd fun a R1 => M.lift (f a) R1 := by
  unfold d1
  simp only [r_bind]
@[simp] theorem r_d2 {f : D → D → Option D} {fa fb : SEnv → M D} : d2 f fa fb δ R = (fa δ R).bnd fun a R1 => (fb δ R1).bnd fun b R2 => M.lift (f a b) R2 := by
  unfold d2
  simp only [r_bind]
@[simp] theorem r_dB {f : SEnv → M D} : dB f δ R = (f δ R).bnd fun a R1 => M.lift (asB a) R1 := by
  unfold dB
  simp only [r_bind]
@[simp] theorem r_dT {f : SEnv → M D} : dT f δ R = (f δ R).bnd fun a R1 => M.lift (truD a) R1 := by
  unfold dT
  simp only [r_bind]
@[simp] theorem r_not {f : SEnv → M Bool} : bNot f δ R = (f δ R).bnd fun a R1 => .ok (!a) R1 := by
  unfold bNot
  simp only [r_bind]
  rfl
@[simp] theorem r_and {f g : SEnv → M Bool} : bAnd f g δ R = (f δ R).bnd fun a R1 => if a = true then g δ R1 else .ok false R1 := by
  unfold bAnd
  simp only [r_bind]
  congr 1
  funext a R1
  split <;> rfl
@[simp] theorem r_or {f g : SEnv → M Bool} : bOr f g δ R = (f δ R).bnd fun a R1 => if a = true then .ok true R1 else g δ R1 := by
  unfold bOr
  simp only [r_bind]
  congr 1
  funext a R1
  split <;> rfl
@[simp] theorem r_dNot {f : SEnv → M D} : dNot f δ R = (f δ R).bnd fun a R1 => (M.lift (asB a) R1).bnd fun k R2 => .ok (.bl (!k)) R2 := by
  unfold dNot
  simp only [r_bind]
  rfl
@[simp] theorem r_dAnd {f g : SEnv → M D} : dAnd f g δ R = (f δ R).bnd fun a R1 => (M.lift (asB a) R1).bnd fun k R2 => if k = true then g δ R2 else .ok (.bl false) R2 := by
  unfold dAnd
  simp only [r_bind]
  congr 1
  funext a R1
  congr 1
  funext k R2
  split <;> rfl
@[simp] theorem r_dOr {f g : SEnv → M D} : dOr f g δ R = (f δ R).bnd fun a R1 => (M.lift (asB a) R1).bnd fun k R2 => if k = true then .ok (.bl true) R2 else g δ R2 := by
  unfold dOr
  simp only [r_bind]
  congr 1
  funext a R1
  congr 1
  funext k R2
  split <;> rfl
@[simp] theorem r_dIf {c : SEnv → M Bool} {f g : SEnv → M D} : dIf c f g δ R = (c δ R).bnd fun a R1 => if a = true then f δ R1 else g δ R1 := by
  unfold dIf
  simp only [r_bind]
  congr 1
  funext a R1
  split <;> rfl
@[simp] theorem r_chain {f g : D → D → Option D} {fa fb fc : SEnv → M D} : dChain f g fa fb fc δ R = (fa δ R).bnd fun x R1 => (fb δ R1).bnd fun y R2 => (M.lift (f x y) R2).bnd fun z R3 => (M.lift (asB z) R3).bnd fun k R4 => if k = true then (fc δ R4).bnd fun w R5 => M.lift (g y w) R5 else .ok (.bl false) R4 := by
  unfold dChain
  simp only [r_bind]
  congr 1
  funext x R1
  congr 1
  funext y R2
  congr 1
  funext z R3
  congr 1
  funext k R4
  split
  · exact r_bind _ _
  · rfl
@[simp] theorem r_lcons {f : SEnv → M D} {g : SEnv → M (List D)} : lCons f g δ R = (f δ R).bnd fun x R1 => (g δ R1).bnd fun xs R2 => .ok (x :: xs) R2 := by
  unfold lCons
  simp only [r_bind]
  rfl
@[simp] theorem r_lnil : lNil δ R = .ok [] R := rfl
@[simp] theorem r_fn {n : Nat} {F : List D → M D} {fs : SEnv → M (List D)} : dFn n F fs δ R = (fs δ R).bnd fun ds R1 => if ds.length = n then F ds R1 else .stuck := by
  unfold dFn
  simp only [r_bind]
  congr 1
  funext a R1
  split <;> rfl
@[simp] theorem r_call {f : List D → Option D} {fs : SEnv → M (List D)} : dCall f fs δ R = (fs δ R).bnd fun ds R1 => M.lift (f ds) R1 := by
  unfold dCall
  simp only [r_bind]
@[simp] theorem r_tup {fs : SEnv → M (List D)} : dTup fs δ R = (fs δ R).bnd fun ds R1 => M.lift ((lenOk ds).map D.tup) R1 := by
  unfold dTup
  simp only [r_bind]
@[simp] theorem r_lst {fs : SEnv → M (List D)} : dLst fs δ R = (fs δ R).bnd fun ds R1 => M.lift ((lenOk ds).map D.lst) R1 := by
  unfold dLst
  simp only [r_bind]
@[simp] theorem r_cut {fe : SEnv → M D} {fl fh : SEnv → M (Option Int)} : dCut fe fl fh δ R = (fe δ R).bnd fun d R1 => (fl δ R1).bnd fun l R2 => (fh δ R2).bnd fun h R3 => M.lift (oCut d l h) R3 := by
  unfold dCut
  simp only [r_bind]
@[simp] theorem r_pnone : pNone δ R = .ok none R := rfl
@[simp] theorem r_psome {f : SEnv → M D} : pSome f δ R = (f δ R).bnd fun a R1 => M.lift (intP a) R1 := by
  unfold pSome
  simp only [r_bind]
@[simp] theorem r_iseq {fe : SEnv → M D} : iSeq fe δ R = (fe δ R).bnd fun a R1 => M.lift (seqD a) R1 := by
  unfold iSeq
  simp only [r_bind]
@[simp] theorem r_icall {f : List D → Option (List D)} {fs : SEnv → M (List D)} : iCall f fs δ R = (fs δ R).bnd fun a R1 => M.lift (f a) R1 := by
  unfold iCall
  simp only [r_bind]
@[simp] theorem r_byes : bYes δ R = .ok true R := rfl
@[simp] theorem r_set {i : Nat} {fe : SEnv → M D} : sSet i fe δ R = (fe δ R).sb fun d R1 => .nx (δ.set i (.dat d)) R1 := by
  unfold sSet sBind
  cases fe δ R <;> rfl
def asgO (o : Option SEnv) (R : Option Rw) : SOut := match o with
  | some δ => .nx δ R
  | none => .stuck
@[simp] theorem asgO_some (δ : SEnv) : asgO (some δ) R = .nx δ R := rfl
@[simp] theorem r_asg {t : Tgt} {fe : SEnv → M D} : sAsg t fe δ R = (fe δ R).sb fun d R1 => asgO (bindT t d δ) R1 := by
  unfold sAsg sBind
  cases fe δ R with
  | ok d R1 => simp only [sb_ok]; cases bindT t d δ <;> rfl
  | _ => rfl
@[simp] theorem r_ret {fe : SEnv → M D} : sRet fe δ R = (fe δ R).sb fun d R1 => .rt d R1 := by
  unfold sRet sBind
  cases fe δ R <;> rfl
@[simp] theorem r_drop {fe : SEnv → M D} : sDrop fe δ R = (fe δ R).sb fun d R1 => .nx δ R1 := by
  unfold sDrop sBind
  cases fe δ R <;> rfl
@[simp] theorem r_raise {c : String} {fe : SEnv → M D} : sRaise c fe δ R = (fe δ R).sb fun d R1 => .ex c d R1 := by
  unfold sRaise sBind
  cases fe δ R <;> rfl
@[simp] theorem r_if {c : SEnv → M Bool} {f g : SM} : sIf c f g δ R = (c δ R).sb fun k R1 => if k = true then f δ R1 else g δ R1 := by
  unfold sIf sBind
  cases c δ R with
  | ok k R1 => cases k <;> rfl
  | _ => rfl
@[simp] theorem r_nx : sNx δ R = .nx δ R := rfl
@[simp] theorem r_seq {f g : SM} : sSeq f g δ R = (f δ R).then g := by
  unfold sSeq
  cases f δ R <;> rfl
@[simp] theorem r_for {t : Tgt} {fi : SEnv → M (List D)} {body : SM} : sFor t fi body δ R = (fi δ R).sb fun ds R1 => sLoop t body ds δ R1 := by
  unfold sFor sBind
  cases fi δ R <;> rfl
end
end DL

set_option Elab.async false
set_option linter.all false
set_option maxRecDepth 100000
namespace DL
open PySem PySem.Spec L2
/-! ### plain things -/
def isInt : D → Bool
  | .int _ => true
  | _ => false
theorem f_is_integer {d : D} {R : Option Rw} (h : pl d = true) : F_is_integer [d] R = .ok (.bl (isInt d)) R := by
  cases d <;> first | rfl | cases h
theorem f_is_within {d : D} {a b : Int} {R : Option Rw} (h : pl d = true) : F_is_within [d, .int a, .int b] R = .ok (.bl (within d a b)) R := by
  simp [F_is_within, sem_is_within, startD, N_is_within, f_is_integer h]
  cases d <;> simp [isInt, within, asB, liftB]
  split
  · simp_all
  · rename_i h1
    simp at h1
    simp
    omega
theorem f_is_row {d : D} {R : Option Rw} (h : pl d = true) : F_is_row [d] R = .ok (.bl (match d with | .lst _ | .tup _ => true | _ => false)) R := by
  cases d <;> first | rfl | cases h
def pls (ds : List D) : Bool := ds.all pl
/-- a tuple of numbers from a to b, each smaller than the next -/
def risingL : List D → Bool
  | .int i :: .int j :: ds => decide (i < j) && risingL (.int j :: ds)
  | _ => true
def rising : D → Int → Int → Bool
  | .tup ds, a, b => ds.all (fun d => within d a b) && risingL ds
  | _, _, _ => false
theorem e_compY {δ : SEnv} {R R1 : Option Rw} {vs : List Nat} {t : Tgt} {fi : SEnv → M (List D)} {fe : SEnv → M D} {g : D → D} {ds : List D} (h : fi δ R = .ok ds R1) (hl : ds.length ≤ sizeLine) (hc : ∀ d ∈ ds, ∃ δ1, bindT t d (blkD δ vs) = some δ1 ∧ ∀ R, fe δ1 R = .ok (g d) R) : dComp vs t fi bYes fe δ R = .ok (.lst (ds.map g)) R1 := by
  have := e_comp (δ := δ) (R := R) (vs := vs) (t := t) (ft := bYes) (fe := fe) (p := fun _ => true) (g := g) h hl fun d hd => by
    obtain ⟨δ1, e1, e2⟩ := hc d hd
    exact ⟨δ1, e1, fun R => rfl, fun _ => e2⟩
  rw [this, List.filter_eq_self.mpr (fun _ _ => rfl)]
theorem bools_map {α : Type} (f : α → Bool) : ∀ xs : List α, bools (xs.map fun x => D.bl (f x)) = some (xs.map f)
  | [] => rfl
  | x :: xs => by rw [List.map_cons, bools, bools_map f xs]; rfl
theorem fAll_map {α : Type} (f : α → Bool) (xs : List α) : fAll [.lst (xs.map fun x => D.bl (f x))] = some (.bl (xs.all f)) := by
  show (bools (xs.map fun x => D.bl (f x))).map (fun bs => D.bl (bs.all id)) = _
  rw [bools_map]
  simp [List.all_map]
theorem cut1 (ds : List D) : cutD ds (some 1) none = ds.drop 1 := by
  unfold cutD
  rw [HT.sIx_none]
  have e : (ds.drop (HT.sIx ds.length 0 (some 1))) = ds.drop 1 := by
    have h := HT.sIx_nat ds.length 0 1
    rw [show ((1 : Nat) : Int) = 1 from rfl] at h
    rw [h]
    cases ds with
    | nil => rfl
    | cons d ds => rw [Nat.min_eq_left (by simp)]
  rw [e]
  apply List.take_of_length_le
  have h := HT.sIx_nat ds.length 0 1
  rw [show ((1 : Nat) : Int) = 1 from rfl] at h
  rw [h, List.length_drop]
  omega
def isTup : D → Bool
  | .tup _ => true
  | _ => false
def isLst : D → Bool
  | .lst _ => true
  | _ => false
def isBl : D → Bool
  | .bl _ => true
  | _ => false
def isStr : D → Bool
  | .str _ => true
  | _ => false
theorem isi_int {d : D} (h : pl d = true) : isiD "int" d = some (.bl (isInt d || isBl d)) := by cases d <;> first | rfl | cases h
theorem isi_bool {d : D} (h : pl d = true) : isiD "bool" d = some (.bl (isBl d)) := by cases d <;> first | rfl | cases h
theorem isi_tuple {d : D} (h : pl d = true) : isiD "tuple" d = some (.bl (isTup d)) := by cases d <;> first | rfl | cases h
theorem isi_list {d : D} (h : pl d = true) : isiD "list" d = some (.bl (isLst d)) := by cases d <;> first | rfl | cases h
theorem isi_str {d : D} (h : pl d = true) : isiD "str" d = some (.bl (isStr d)) := by cases d <;> first | rfl | cases h
theorem isi_tl {d : D} (h : pl d = true) : isiD2 "tuple" "list" d = some (.bl (isTup d || isLst d)) := by cases d <;> first | rfl | cases h
theorem isi_lt {d : D} (h : pl d = true) : isiD2 "list" "tuple" d = some (.bl (isTup d || isLst d)) := by cases d <;> first | rfl | cases h
theorem isi_dict {d : D} (h : pl d = true) : isiD "dict" d = some (.bl (match d with | .dic => true | _ => false)) := by cases d <;> first | rfl | cases h
@[simp] theorem tru_bl (b : Bool) : truD (.bl b) = some b := rfl
@[simp] theorem asB_bl (b : Bool) : asB (.bl b) = some b := rfl
theorem rising_zip : ∀ ds : List D, (∀ d ∈ ds, ∃ i : Int, d = .int i) → ((ds.zip (ds.drop 1)).all fun p => match p.1, p.2 with | .int i, .int j => decide (i < j) | _, _ => false) = risingL ds
  | [], _ => rfl
  | [d], _ => by
    obtain ⟨i, rfl⟩ := ‹∀ d' ∈ [d], _› d List.mem_cons_self
    rfl
  | d :: e :: ds, h => by
    obtain ⟨i, rfl⟩ := h d List.mem_cons_self
    obtain ⟨j, rfl⟩ := h e (List.mem_cons_of_mem _ List.mem_cons_self)
    have ih := rising_zip (.int j :: ds) fun x hx => h x (List.mem_cons_of_mem _ hx)
    show (decide (i < j) && ((D.int j :: ds).zip ((D.int j :: ds).drop 1)).all _) = (decide (i < j) && risingL (.int j :: ds))
    rw [ih]
theorem f_is_rising {d : D} {a b : Int} {R : Option Rw} (h : pl d = true) (hd : ∀ ds, d = .tup ds → ds.all pl = true ∧ ds.length ≤ sizeLine) : F_is_rising [d, .int a, .int b] R = .ok (.bl (rising d a b)) R := by
  cases d with
  | tup ds =>
    obtain ⟨h1, h2⟩ := hd ds rfl
    have c1 : dComp [3] (.nm 3) (iSeq (dVar 0)) bYes (dFn 3 F_is_within (lCons (dVar 3) (lCons (dVar 1) (lCons (dVar 2) lNil)))) [.dat (.tup ds), .dat (.int a), .dat (.int b), .none, .none] R = .ok (.lst (ds.map fun d => .bl (within d a b))) R := by
      refine e_compY (ds := ds) (by simp [seqD]) h2 fun d hx => ⟨_, rfl, fun R => ?_⟩
      simp [blkD]
      exact f_is_within (List.all_eq_true.mp h1 d hx)
    cases hw : ds.all fun d => within d a b with
    | false =>
      have e1 : fAll [.lst (ds.map fun d => .bl (within d a b))] = some (.bl false) := by rw [fAll_map, hw]
      simp [F_is_rising, sem_is_rising, startD, N_is_rising, isi_tuple h, isTup, c1, e1]
      simp only [rising, hw, Bool.false_and]
    | true =>
      have e1 : fAll [.lst (ds.map fun d => .bl (within d a b))] = some (.bl true) := by rw [fAll_map, hw]
      have areI : ∀ d ∈ ds, ∃ i : Int, d = .int i := fun d hx => by
        have := List.all_eq_true.mp hw d hx
        cases d <;> simp [within] at this
        exact ⟨_, rfl⟩
      have c2 : dComp [3, 4] (.tup [(.nm 3), (.nm 4)]) (iCall zipOf (lCons (dVar 0) (lCons (dCut (dVar 0) (pSome (fun _ => pure (.int 1))) pNone) lNil))) bYes (d2 oLt (dVar 3) (dVar 4)) [.dat (.tup ds), .dat (.int a), .dat (.int b), .none, .none] R =
          .ok (.lst ((zipD ds (ds.drop 1)).map fun p => .bl (match p with | .tup [.int i, .int j] => decide (i < j) | _ => false))) R := by
        refine e_compY (ds := zipD ds (ds.drop 1)) (by simp [intP, oCut, cut1, zipOf]) (by simp [zipD]; omega) fun d hx => ?_
        unfold zipD at hx
        obtain ⟨⟨x, y⟩, hz, rfl⟩ := List.mem_map.mp hx
        obtain ⟨hx1, hy1⟩ := List.of_mem_zip hz
        obtain ⟨i, rfl⟩ := areI x hx1
        obtain ⟨j, rfl⟩ := areI y (List.mem_of_mem_drop hy1)
        exact ⟨_, rfl, fun R => by simp [blkD, liftB]⟩
      simp [F_is_rising, sem_is_rising, startD, N_is_rising, isi_tuple h, isTup, c1, e1, c2, fAll_map]
      simp only [rising, hw, Bool.true_and]
      rw [← rising_zip ds areI, List.drop_one]
      unfold zipD
      rw [List.all_map]
      congr 1
      funext p
      obtain ⟨x, y⟩ := p
      cases x <;> cases y <;> rfl
  | _ => simp [F_is_rising, sem_is_rising, startD, N_is_rising, isi_tuple h, isTup, rising]
/-! ### strings, webs -/
theorem pl_of2 {d : D} (h : pl2 d = true) : pl d = true := by cases d <;> first | rfl | exact h
theorem ix0 (x y : D) : oIx (.tup [x, y]) (.int 0) = some x := rfl
theorem ix1 (x y : D) : oIx (.tup [x, y]) (.int 1) = some y := rfl
theorem okEq_int (i : Int) : okEq (.int i) = true := rfl
theorem okEq_bl (i : Bool) : okEq (.bl i) = true := rfl
theorem okEq_non : okEq .non = true := rfl
@[simp] theorem oEq_int (i j : Int) : oEq (.int i) (.int j) = some (.bl (decide (i = j))) := by
  unfold oEq
  rw [okEq_int, okEq_int]
  rfl
@[simp] theorem oNe_int (i j : Int) : oNe (.int i) (.int j) = some (.bl (!decide (i = j))) := by
  unfold oNe
  rw [okEq_int, okEq_int]
  rfl
@[simp] theorem oEq_bl (i j : Bool) : oEq (.bl i) (.bl j) = some (.bl (decide (i = j))) := by
  unfold oEq
  rw [okEq_bl, okEq_bl]
  cases i <;> cases j <;> rfl
@[simp] theorem oNe_bl (i j : Bool) : oNe (.bl i) (.bl j) = some (.bl (!decide (i = j))) := by
  unfold oNe
  rw [okEq_bl, okEq_bl]
  cases i <;> cases j <;> rfl
@[simp] theorem oPlus_int (i j : Int) : oPlus (.int i) (.int j) = some (.int (i + j)) := rfl
@[simp] theorem oSub_int (i j : Int) : oSub (.int i) (.int j) = some (.int (i - j)) := rfl
@[simp] theorem oLt_int (i j : Int) : oLt (.int i) (.int j) = some (.bl (decide (i < j))) := rfl
@[simp] theorem oGt_int (i j : Int) : oGt (.int i) (.int j) = some (.bl (decide (j < i))) := rfl
@[simp] theorem oGe_int (i j : Int) : oGe (.int i) (.int j) = some (.bl (decide (j ≤ i))) := rfl
@[simp] theorem oLe_int (i j : Int) : oLe (.int i) (.int j) = some (.bl (decide (i ≤ j))) := rfl
@[simp] theorem oNeg_int (i : Int) : oNeg (.int i) = some (.int (-i)) := rfl
@[simp] theorem fLen_tup (ds : List D) : fLen [.tup ds] = some (.int ds.length) := rfl
@[simp] theorem fLen_lst (ds : List D) : fLen [.lst ds] = some (.int ds.length) := rfl
@[simp] theorem fTuple_lst (ds : List D) : fTuple [.lst ds] = some (.tup ds) := rfl
@[simp] theorem fTuple_tup (ds : List D) : fTuple [.tup ds] = some (.tup ds) := rfl
@[simp] theorem fList_tup (ds : List D) : fList [.tup ds] = some (.lst ds) := rfl
@[simp] theorem fList_lst (ds : List D) : fList [.lst ds] = some (.lst ds) := rfl
@[simp] theorem seqD_lst (ds : List D) : seqD (.lst ds) = some ds := rfl
@[simp] theorem seqD_tup (ds : List D) : seqD (.tup ds) = some ds := rfl
@[simp] theorem truD_lst (ds : List D) : truD (.lst ds) = some (!ds.isEmpty) := rfl
@[simp] theorem truD_tup (ds : List D) : truD (.tup ds) = some (!ds.isEmpty) := rfl
theorem f_is_string {d : D} {n : Int} {R : Option Rw} (h : pl2 d = true) : F_is_string [d, .int n] R = .ok (.bl (isStr2 d n)) R := by
  have hp := pl_of2 h
  cases d with
  | tup ds =>
    by_cases hl : ds.length = 2
    · obtain ⟨x, y, rfl⟩ : ∃ x y, ds = [x, y] := by
        match ds, hl with
        | [x, y], _ => exact ⟨x, y, rfl⟩
      simp only [pl2, List.all_cons, List.all_nil, Bool.and_true, Bool.and_eq_true, decide_eq_true_eq] at h
      obtain ⟨_, hx, hy⟩ := h
      cases hw : within x 0 (n - 1) with
      | false =>
        have w1 : ∀ R, F_is_within [x, .int 0, .int (n - 1)] R = .ok (.bl false) R := fun R => by rw [f_is_within hx, hw]
        simp [F_is_string, sem_is_string, startD, N_is_string, isi_tuple hp, isTup, ix0, w1]
        cases x <;> simp [isStr2] <;> simp [within] at hw ⊢
        exact fun a b => absurd b (by have := hw a; omega)
      | true =>
        cases x with
        | int i =>
          have w1 : ∀ R, F_is_within [.int i, .int 0, .int (n - 1)] R = .ok (.bl true) R := fun R => by rw [f_is_within rfl, hw]
          have w2 : ∀ R, F_is_within [y, .int (i + 1), .int (n - 1)] R = .ok (.bl (within y (i + 1) (n - 1))) R := fun R => f_is_within hy
          have w3 : ∀ R, F_is_within [y, .int (-1), .int (-1)] R = .ok (.bl (within y (-1) (-1))) R := fun R => f_is_within hy
          simp [F_is_string, sem_is_string, startD, N_is_string, isi_tuple hp, isTup, ix0, ix1, w1, w2, w3]
          cases h2 : within y (i + 1) (n - 1) <;> simp [isStr2, hw, h2]
        | _ => simp [within] at hw
    · have ne : ¬ ((ds.length : Int) = 2) := by omega
      simp [F_is_string, sem_is_string, startD, N_is_string, isi_tuple hp, isTup, ne]
      match ds, hl with
      | [], _ => rfl
      | [_], _ => cases ‹D› <;> rfl
      | a :: b :: c :: r, _ => cases a <;> rfl
      | [a, b], h => exact absurd rfl h
  | _ => simp [F_is_string, sem_is_string, startD, N_is_string, isi_tuple hp, isTup, isStr2]
def enumF : Int → List D → List D
  | _, [] => []
  | k, d :: ds => .tup [.int k, d] :: enumF (k + 1) ds
theorem enumF_eq : ∀ (ds : List D) (k : Nat), ds.mapIdx (fun i d => D.tup [.int ((i + k : Nat) : Int), d]) = enumF (k : Int) ds
  | [], _ => rfl
  | d :: ds, k => by
    rw [List.mapIdx_cons, enumF]
    have ih := enumF_eq ds (k + 1)
    have e : ((k : Int) + 1) = ((k + 1 : Nat) : Int) := by omega
    rw [e, ← ih]
    simp only [Nat.zero_add]
    congr 1
    congr 1
    funext i d
    rw [show i + 1 + k = i + (k + 1) from by omega]
theorem enumD_eq (ds : List D) : enumD ds = enumF 0 ds := enumF_eq ds 0
theorem web_loop {x : Addr} {n : Int} {s : D} : ∀ (xs : List D) (k : Int) (a b : SD) (R : Option Rw), xs.all pl2 = true →
    match firstBad n xs k with
    | none => ∃ a' b', sLoop (.tup [.nm 3, .nm 4]) (sIf (bNot (dT (dFn 2 F_is_string (lCons (dVar 4) (lCons (dVar 1) lNil))))) (sRaise "BadStrings" (dVar 3)) sNx) (enumF k xs) [.dat (.row x), .dat (.int n), .dat s, a, b] R = .nx [.dat (.row x), .dat (.int n), .dat s, a', b'] R
    | some i => sLoop (.tup [.nm 3, .nm 4]) (sIf (bNot (dT (dFn 2 F_is_string (lCons (dVar 4) (lCons (dVar 1) lNil))))) (sRaise "BadStrings" (dVar 3)) sNx) (enumF k xs) [.dat (.row x), .dat (.int n), .dat s, a, b] R = .ex "BadStrings" (.int i) R
  | [], k, a, b, R, _ => ⟨a, b, rfl⟩
  | d :: ds, k, a, b, R, h => by
    rw [List.all_cons, Bool.and_eq_true] at h
    have w := fun R => f_is_string (n := n) (R := R) h.1
    unfold firstBad
    cases hs : isStr2 d n with
    | true =>
      simp only [if_true]
      have ih := web_loop (x := x) (n := n) (s := s) ds (k + 1) (.dat (.int k)) (.dat d) R h.2
      have step : sLoop (.tup [.nm 3, .nm 4]) (sIf (bNot (dT (dFn 2 F_is_string (lCons (dVar 4) (lCons (dVar 1) lNil))))) (sRaise "BadStrings" (dVar 3)) sNx) (enumF k (d :: ds)) [.dat (.row x), .dat (.int n), .dat s, a, b] R =
          sLoop (.tup [.nm 3, .nm 4]) (sIf (bNot (dT (dFn 2 F_is_string (lCons (dVar 4) (lCons (dVar 1) lNil))))) (sRaise "BadStrings" (dVar 3)) sNx) (enumF (k + 1) ds) [.dat (.row x), .dat (.int n), .dat s, .dat (.int k), .dat d] R := by
        rw [enumF, sLoop]
        simp [bindT, bindTs, w, hs]
      rw [step]
      exact ih
    | false =>
      simp only [Bool.false_eq_true, if_false]
      rw [enumF, sLoop]
      simp [bindT, bindTs, w, hs]
theorem unpairs_eq : ∀ {xs : List D} {ss : List (Int × Int)}, unpairs xs = some ss → xs = ss.map pairD
  | [], ss, h => by
    rw [unpairs] at h
    rw [← Option.some.inj h]
    rfl
  | d :: ds, ss, h => by
    unfold unpairs at h
    split at h
    · rename_i h1
      cases h1
    · rename_i i j r h1
      injection h1 with h1 h2
      subst h1 h2
      obtain ⟨ts, e, rfl⟩ := Option.map_eq_some_iff.mp h
      rw [List.map_cons, unpairs_eq e]
      rfl
    · cases h
theorem web_ok (x : Addr) (ds : List D) (R : Option Rw) (h : ds.length = 2) : WebSem x (F_Web ds R) (sem_Web (startD N_Web (.row x :: ds)) R) := by
  obtain ⟨c, s, rfl⟩ : ∃ x y, ds = [x, y] := by
    match ds, h with
    | [x, y], _ => exact ⟨x, y, rfl⟩
  unfold F_Web
  simp only
  split
  · rename_i hp
    rw [Bool.and_eq_true] at hp
    have w1 := fun R => f_is_within (a := 1) (b := 9) (R := R) hp.1
    have r1 := fun R => f_is_row (R := R) hp.2
    split
    · rename_i hw
      cases c with
      | int n =>
        simp only
        cases hq : seqD s with
        | none =>
          have r2 : ∀ R, F_is_row [s] R = .ok (.bl false) R := fun R => by
            rw [r1]
            cases s <;> first | rfl | cases hq
          simp [WebSem, sem_Web, startD, N_Web, w1, hw, r2]
        | some xs =>
          have r2 : ∀ R, F_is_row [s] R = .ok (.bl true) R := fun R => by
            rw [r1]
            cases s <;> first | rfl | cases hq
          have ln : fLen [s] = some (.int xs.length) := by
            cases s <;> first | (cases hq; rfl) | cases hq
          have en : enumAf [s] = some (enumD xs) := by
            cases s <;> first | (cases hq; rfl) | cases hq
          simp only
          split
          · rename_i ha
            split
            · rename_i h12
              have h12' : (12 : Int) < xs.length := by omega
              simp [WebSem, sem_Web, startD, N_Web, w1, hw, r2, ln, h12']
            · rename_i h12
              have h12' : ¬ (12 : Int) < xs.length := by omega
              have lp := web_loop (x := x) (n := n) (s := s) xs 0 .none .none R ha.1
              rw [← enumD_eq] at lp
              cases hb : firstBad n xs 0 with
              | some i =>
                rw [hb] at lp
                simp only at lp
                simp [WebSem, sem_Web, startD, N_Web, w1, hw, r2, ln, h12', en, lp]
              | none =>
                rw [hb] at lp
                obtain ⟨a', b', lp⟩ := lp
                simp only
                cases hu : unpairs xs with
                | none => simp [WebSem]
                | some ss =>
                  have ex := unpairs_eq hu
                  have e : sem_Web (startD N_Web [.row x, .int n, s]) R = .nx [.dat (.row x), .dat (.int n), .dat s, a', b'] R := by
                    simp [sem_Web, startD, N_Web, w1, hw, r2, ln, h12', en, lp]
                  refine ⟨_, e, rfl, rfl, ?_⟩
                  cases s <;> first | cases hq | skip
                  · exact .inl (by rw [← ex]; rfl)
                  · exact .inr (by rw [← ex]; rfl)
          · trivial
      | _ => simp [within] at hw
    · rename_i hw
      have hw' : within c 1 9 = false := by simpa using hw
      simp [WebSem, sem_Web, startD, N_Web, w1, hw']
  · trivial
end DL

set_option Elab.async false
set_option linter.all false
set_option maxRecDepth 100000
set_option maxHeartbeats 0
namespace DL
open PySem PySem.Spec L2
def top (i : Nat) : Stmt := PySem.Challenge.pw_boxesclosed_k00_webs.main.body.getD i (.Pass ⟨0, 0, 0, 0⟩)
abbrev st_coins_at : Stmt := inCls (top 17) 1
abbrev st_counts : Stmt := inCls (top 17) 2
abbrev st_is_integer : Stmt := top 1
abbrev st_is_within : Stmt := top 2
abbrev st_is_row : Stmt := top 3
abbrev st_is_rising : Stmt := top 4
abbrev st_is_string : Stmt := top 16
abbrev st_need_web : Stmt := top 18
abbrev st_whole : Stmt := top 19
abbrev st_is_standing : Stmt := top 20
abbrev st_need_standing : Stmt := top 21
abbrev st_need_coin : Stmt := top 22
abbrev st_strings_of : Stmt := top 23
abbrev st_open_coins : Stmt := top 24
abbrev st__law_taken : Stmt := top 26
abbrev st__law_pick : Stmt := top 27
abbrev st__law_alike : Stmt := top 28
abbrev st__law_string : Stmt := top 29
abbrev st__law_strings : Stmt := top 30
abbrev st__law_web : Stmt := top 31
abbrev st__law_some : Stmt := top 32
abbrev st__law_at : Stmt := top 33
abbrev st__law_bad_web : Stmt := top 34
abbrev st__law_bad_standing : Stmt := top 35
abbrev st__law_wrong_strings : Stmt := top 36
abbrev st_Web : Stmt := inCls (top 17) 0
abbrev st_Box : Stmt := inCls (top 6) 0
abbrev st__law_refused : Stmt := top 37
abbrev st_law : Stmt := top 38
structure TT (P : Program) (w : World) (K : PySem.W.Frag) (mg : Str → Option Value) (base : Heap) (Γ : Ctx) (fI : Addr) : Prop where
  hK : Γ.K = K
  b_len : mg "len" = none
  b_list : mg "list" = none
  b_tuple : mg "tuple" = none
  b_int : mg "int" = none
  b_str : mg "str" = none
  b_range : mg "range" = none
  b_enumerate : mg "enumerate" = none
  b_zip : mg "zip" = none
  b_isinstance : mg "isinstance" = none
  b_all : mg "all" = none
  b_max : mg "max" = none
  b_min : mg "min" = none
  b_repr : mg "repr" = none
  b_bool : mg "bool" = none
  b_dict : mg "dict" = none
  c_MOST_COINS : ∃ t, mg "MOST_COINS" = some (.int (9) t)
  c_MOST_STRINGS : ∃ t, mg "MOST_STRINGS" = some (.int (12) t)
  c_GROUND : ∃ t, mg "GROUND" = some (.int (-1) t)
  web : WebF K mg Γ
  box : BoxI P w K mg base 1 fI
  x_BadCoins : ExcF K mg Γ fI "BadCoins"
  x_BadStrings : ExcF K mg Γ fI "BadStrings"
  x_BadWeb : ExcF K mg Γ fI "BadWeb"
  x_BadStanding : ExcF K mg Γ fI "BadStanding"
  x_BadCoin : ExcF K mg Γ fI "BadCoin"
  g_whole : mg "whole" = some (.ref (Γ.fnA "whole"))
  l_whole : Γ.lam "whole" = none
  refd : FnI K mg "_law_refused" st__law_refused
  exm : ∀ p ∈ refW, ∀ q ∈ refW, PySem.W.exmOne K (.ref (Γ.cls p.1)) (.ref (Γ.cls q.1)) = some (decide (p.1 = q.1))
section
variable {P : Program} {w : World} {K : PySem.W.Frag} {mg : Str → Option Value} {base : Heap} {Γ : Ctx} {fI : Addr}
theorem sc_coins_at : FnScope N_coins_at ["self", "string"] (defScope st_coins_at) := ⟨rfl, rfl, rfl, by decide +kernel, rfl, by decide +kernel, by decide +kernel⟩
theorem cal_coins_at (T : TT P w K mg base Γ fI) (F : MeI K Γ "coins_at" "Web.coins_at" st_coins_at) : CalM P w K mg base Γ 1 "coins_at" 2 F_coins_at := by
  obtain ⟨f, fd, FD, me⟩ := F.ex
  refine calM_mk (N := N_coins_at) (ps := ["self", "string"]) FD me sc_coins_at (FD.bindsN fun _ _ _ _ _ _ us hl => match us, hl with | [_, _], _ => rfl) ⟨by decide, by decide, by decide⟩ (fun cdv A outer s H E hr => ?_)
  have nd := (sc_coins_at).nd
  have hp := passes_of (X := cxOf (L2.CX P w) P w K mg base N_coins_at "Web.coins_at" (defScope st_coins_at) f cdv A outer s H E) rfl
  have tk : Takes (cxOf (L2.CX P w) P w K mg base N_coins_at "Web.coins_at" (defScope st_coins_at) f cdv A outer s H E) (WD E) := takes_of rfl rfl rfl rfl
  exact ⟨sem_coins_at, (ds_one (ds_ret (pd_lc (own := [(("coin" : Str), 2)]) rfl nd (di_seq (pd_ix ix_seq od_ix (pd_strings T.web (pd_var (pv 0))) (pd_var (pv 1)) (fun _ _ => rfl))) (blkOk_by (show blkC N_coins_at (defScope st_coins_at) _ _ = true from by decide +kernel)) (by decide) (fun _ _ _ _ _ => (gd_nm (pg_name (i := 2) nd rfl (by first | exact Or.inl rfl | exact Or.inr rfl)))) (fun _ _ _ _ _ => (dts_one (pdt_cmp (op_neD hr.units) od_ne (pd_var (pv 2)) (pd_gint T.c_GROUND) (nomark _)))) (fun _ _ _ _ _ => (pd_var (pv 2)))))),
    fun ds R hl hs => rfl⟩
theorem sc_counts : FnScope N_counts ["self", "standing"] (defScope st_counts) := ⟨rfl, rfl, rfl, by decide +kernel, rfl, by decide +kernel, by decide +kernel⟩
theorem cal_counts (T : TT P w K mg base Γ fI) (F : MeI K Γ "counts" "Web.counts" st_counts) (m_coins_at : CalM P w K mg base Γ 1 "coins_at" 2 F_coins_at) : CalM P w K mg base Γ 2 "counts" 2 F_counts := by
  obtain ⟨f, fd, FD, me⟩ := F.ex
  refine calM_mk (N := N_counts) (ps := ["self", "standing"]) FD me sc_counts (FD.bindsN fun _ _ _ _ _ _ us hl => match us, hl with | [_, _], _ => rfl) ⟨by decide, by decide, by decide⟩ (fun cdv A outer s H E hr => ?_)
  have nd := (sc_counts).nd
  have hp := passes_of (X := cxOf (L2.CX P w) P w K mg base N_counts "Web.counts" (defScope st_counts) f cdv A outer s H E) rfl
  have tk : Takes (cxOf (L2.CX P w) P w K mg base N_counts "Web.counts" (defScope st_counts) f cdv A outer s H E) (WD E) := takes_of rfl rfl rfl rfl
  exact ⟨sem_counts, (ds_cons (ds_own (i := 2) nd rfl (by first | exact Or.inl rfl | exact Or.inr rfl) (pf_rep (pd_lst (pda_cons (pd_int pe_int) pda_nil)) (pd_coins T.web (pd_var (pv 0)))))
      (ds_cons (ds_for hp rfl (di_seq (pd_var (pv 1))) (gd_nm (pg_name (i := 3) nd rfl (by first | exact Or.inl rfl | exact Or.inr rfl))) (ds_one (ds_for hp rfl (di_seq (pd_meth T.web m_coins_at (hr.mono (by decide)) (pd_var (pv 0)) (pda_cons (pd_var (pv 3)) pda_nil))) (gd_nm (pg_name (i := 4) nd rfl (by first | exact Or.inl rfl | exact Or.inr rfl))) (ds_one (ds_augOadd (i := 2) rfl (by first | exact Or.inl rfl | exact Or.inr (Or.inl rfl) | exact Or.inr (Or.inr rfl)) (pd_var (pv 4)) (pd_int pe_int))))))
      (ds_one (ds_frz (i := 2) (ds_ret (pd_var (pv 2))))))),
    fun ds R hl hs => rfl⟩
theorem sc_is_integer : FnScope N_is_integer ["thing"] (defScope st_is_integer) := ⟨rfl, rfl, rfl, by decide +kernel, rfl, by decide +kernel, by decide +kernel⟩
theorem cal_is_integer (T : TT P w K mg base Γ fI) (F : FnI K mg "is_integer" st_is_integer) : Cal P w K mg base Γ 1 "is_integer" 1 F_is_integer := by
  obtain ⟨f, fd, FD, gx⟩ := F.ex
  refine cal_mk (N := N_is_integer) (ps := ["thing"]) FD gx sc_is_integer (FD.bindsN fun _ _ _ _ _ _ us hl => match us, hl with | [_], _ => rfl) (fun cdv A outer s H E hr => ?_)
  have nd := (sc_is_integer).nd
  have hp := passes_of (X := cxOf (L2.CX P w) P w K mg base N_is_integer "is_integer" (defScope st_is_integer) f cdv A outer s H E) rfl
  have tk : Takes (cxOf (L2.CX P w) P w K mg base N_is_integer "is_integer" (defScope st_is_integer) f cdv A outer s H E) (WD E) := takes_of rfl rfl rfl rfl
  exact ⟨sem_is_integer, (ds_one (ds_ret (pd_and (pd_isi T.b_isinstance (pd_var (pv 0)) (pe_bltn (v := .ty "int") (by rfl) T.b_int (by decide +kernel) rfl)) (pd_one (pd_not (pd_isi T.b_isinstance (pd_var (pv 0)) (pe_bltn (v := .ty "bool") (by rfl) T.b_bool (by decide +kernel) rfl))))))),
    fun ds R hl hs => rfl⟩
theorem sc_is_within : FnScope N_is_within ["thing", "least", "most"] (defScope st_is_within) := ⟨rfl, rfl, rfl, by decide +kernel, rfl, by decide +kernel, by decide +kernel⟩
theorem cal_is_within (T : TT P w K mg base Γ fI) (F : FnI K mg "is_within" st_is_within) (c_is_integer : Cal P w K mg base Γ 1 "is_integer" 1 F_is_integer) : Cal P w K mg base Γ 2 "is_within" 3 F_is_within := by
  obtain ⟨f, fd, FD, gx⟩ := F.ex
  refine cal_mk (N := N_is_within) (ps := ["thing", "least", "most"]) FD gx sc_is_within (FD.bindsN fun _ _ _ _ _ _ us hl => match us, hl with | [_, _, _], _ => rfl) (fun cdv A outer s H E hr => ?_)
  have nd := (sc_is_within).nd
  have hp := passes_of (X := cxOf (L2.CX P w) P w K mg base N_is_within "is_within" (defScope st_is_within) f cdv A outer s H E) rfl
  have tk : Takes (cxOf (L2.CX P w) P w K mg base N_is_within "is_within" (defScope st_is_within) f cdv A outer s H E) (WD E) := takes_of rfl rfl rfl rfl
  exact ⟨sem_is_within, (ds_one (ds_ret (pd_and (pd_call c_is_integer (hr.mono (by decide)) tk (pda_cons (pd_var (pv 0)) pda_nil)) (pd_one (pd_chain op_le od_le op_le od_le (pd_var (pv 1)) (pd_var (pv 0)) (pd_var (pv 2))))))),
    fun ds R hl hs => rfl⟩
theorem sc_is_row : FnScope N_is_row ["thing"] (defScope st_is_row) := ⟨rfl, rfl, rfl, by decide +kernel, rfl, by decide +kernel, by decide +kernel⟩
theorem cal_is_row (T : TT P w K mg base Γ fI) (F : FnI K mg "is_row" st_is_row) : Cal P w K mg base Γ 1 "is_row" 1 F_is_row := by
  obtain ⟨f, fd, FD, gx⟩ := F.ex
  refine cal_mk (N := N_is_row) (ps := ["thing"]) FD gx sc_is_row (FD.bindsN fun _ _ _ _ _ _ us hl => match us, hl with | [_], _ => rfl) (fun cdv A outer s H E hr => ?_)
  have nd := (sc_is_row).nd
  have hp := passes_of (X := cxOf (L2.CX P w) P w K mg base N_is_row "is_row" (defScope st_is_row) f cdv A outer s H E) rfl
  have tk : Takes (cxOf (L2.CX P w) P w K mg base N_is_row "is_row" (defScope st_is_row) f cdv A outer s H E) (WD E) := takes_of rfl rfl rfl rfl
  exact ⟨sem_is_row, (ds_one (ds_ret (pd_isi2 T.b_isinstance (pd_var (pv 0)) (pe_bltn (v := .ty "list") (by rfl) T.b_list (by decide +kernel) rfl) (pe_bltn (v := .ty "tuple") (by rfl) T.b_tuple (by decide +kernel) rfl)))),
    fun ds R hl hs => rfl⟩
theorem sc_is_rising : FnScope N_is_rising ["thing", "least", "most"] (defScope st_is_rising) := ⟨rfl, rfl, rfl, by decide +kernel, rfl, by decide +kernel, by decide +kernel⟩
theorem cal_is_rising (T : TT P w K mg base Γ fI) (F : FnI K mg "is_rising" st_is_rising) (c_is_within : Cal P w K mg base Γ 2 "is_within" 3 F_is_within) : Cal P w K mg base Γ 3 "is_rising" 3 F_is_rising := by
  obtain ⟨f, fd, FD, gx⟩ := F.ex
  refine cal_mk (N := N_is_rising) (ps := ["thing", "least", "most"]) FD gx sc_is_rising (FD.bindsN fun _ _ _ _ _ _ us hl => match us, hl with | [_, _, _], _ => rfl) (fun cdv A outer s H E hr => ?_)
  have nd := (sc_is_rising).nd
  have hp := passes_of (X := cxOf (L2.CX P w) P w K mg base N_is_rising "is_rising" (defScope st_is_rising) f cdv A outer s H E) rfl
  have tk : Takes (cxOf (L2.CX P w) P w K mg base N_is_rising "is_rising" (defScope st_is_rising) f cdv A outer s H E) (WD E) := takes_of rfl rfl rfl rfl
  exact ⟨sem_is_rising, (ds_cons (ds_if (pdt_w (pdw_or (pdt_not (pdt_tru (pd_isi T.b_isinstance (pd_var (pv 0)) (pe_bltn (v := .ty "tuple") (by rfl) T.b_tuple (by decide +kernel) rfl)))) (pdw_or1 (pdt_not (pdt_tru (pd_callB (cr_all rfl) cd_all T.b_all (by decide +kernel) (pda_cons (pd_lc (own := [(("one" : Str), 3)]) rfl nd (di_seq (pd_var (pv 0))) (blkOk_by (show blkC N_is_rising (defScope st_is_rising) _ _ = true from by decide +kernel)) (by decide) (fun _ _ _ _ _ => (gd_nm (pg_name (i := 3) nd rfl (by first | exact Or.inl rfl | exact Or.inr rfl)))) (fun _ _ _ _ _ => dts_nil) (fun _ _ _ _ _ => (pd_call c_is_within (hr.mono (by decide)) takes0 (pda_cons (pd_var (pv 3)) (pda_cons (pd_var (pv 1)) (pda_cons (pd_var (pv 2)) pda_nil)))))) pda_nil))))))) (ds_one (ds_ret (pd_bl pe_bl))) ds_nil)
      (ds_one (ds_ret (pd_callB (cr_all rfl) cd_all T.b_all (by decide +kernel) (pda_cons (pd_lc (own := [(("one" : Str), 3), (("other" : Str), 4)]) rfl nd (di_zip (by rfl) T.b_zip (pda_cons (pd_var (pv 0)) (pda_cons (pd_slice (pd_var (pv 0)) (po_som (pd_int pe_int)) po_non) pda_nil))) (blkOk_by (show blkC N_is_rising (defScope st_is_rising) _ _ = true from by decide +kernel)) (by decide) (fun _ _ _ _ _ => (gd_tup rfl (gds_cons (gd_nm (pg_name (i := 3) nd rfl (by first | exact Or.inl rfl | exact Or.inr rfl))) (gds_cons (gd_nm (pg_name (i := 4) nd rfl (by first | exact Or.inl rfl | exact Or.inr rfl))) gds_nil)))) (fun _ _ _ _ _ => dts_nil) (fun _ _ _ _ _ => (pd_cmp op_lt od_lt (pd_var (pv 3)) (pd_var (pv 4)) (nomark _)))) pda_nil))))),
    fun ds R hl hs => rfl⟩
theorem sc_is_string : FnScope N_is_string ["thing", "coins"] (defScope st_is_string) := ⟨rfl, rfl, rfl, by decide +kernel, rfl, by decide +kernel, by decide +kernel⟩
theorem cal_is_string (T : TT P w K mg base Γ fI) (F : FnI K mg "is_string" st_is_string) (c_is_within : Cal P w K mg base Γ 2 "is_within" 3 F_is_within) : Cal P w K mg base Γ 3 "is_string" 2 F_is_string := by
  obtain ⟨f, fd, FD, gx⟩ := F.ex
  refine cal_mk (N := N_is_string) (ps := ["thing", "coins"]) FD gx sc_is_string (FD.bindsN fun _ _ _ _ _ _ us hl => match us, hl with | [_, _], _ => rfl) (fun cdv A outer s H E hr => ?_)
  have nd := (sc_is_string).nd
  have hp := passes_of (X := cxOf (L2.CX P w) P w K mg base N_is_string "is_string" (defScope st_is_string) f cdv A outer s H E) rfl
  have tk : Takes (cxOf (L2.CX P w) P w K mg base N_is_string "is_string" (defScope st_is_string) f cdv A outer s H E) (WD E) := takes_of rfl rfl rfl rfl
  exact ⟨sem_is_string, (ds_cons (ds_if (pdt_w (pdw_or (pdt_not (pdt_tru (pd_isi T.b_isinstance (pd_var (pv 0)) (pe_bltn (v := .ty "tuple") (by rfl) T.b_tuple (by decide +kernel) rfl)))) (pdw_or (pdt_cmp (op_neD hr.units) od_ne (pd_callB cr_len cd_len T.b_len (by decide +kernel) (pda_cons (pd_var (pv 0)) pda_nil)) (pd_int pe_int) (nomark _)) (pdw_or1 (pdt_not (pdt_tru (pd_call c_is_within (hr.mono (by decide)) tk (pda_cons (pd_ix ix_seq od_ix (pd_var (pv 0)) (pd_int pe_int) (fun _ _ => rfl)) (pda_cons (pd_int pe_int) (pda_cons (pd_op op_sub od_sub (pd_var (pv 1)) (pd_int pe_int)) pda_nil)))))))))) (ds_one (ds_ret (pd_bl pe_bl))) ds_nil)
      (ds_one (ds_ret (pd_or (pd_call c_is_within (hr.mono (by decide)) tk (pda_cons (pd_ix ix_seq od_ix (pd_var (pv 0)) (pd_int pe_int) (fun _ _ => rfl)) (pda_cons (pd_op op_plus od_plus (pd_ix ix_seq od_ix (pd_var (pv 0)) (pd_int pe_int) (fun _ _ => rfl)) (pd_int pe_int)) (pda_cons (pd_op op_sub od_sub (pd_var (pv 1)) (pd_int pe_int)) pda_nil)))) (pd_one (pd_call c_is_within (hr.mono (by decide)) tk (pda_cons (pd_ix ix_seq od_ix (pd_var (pv 0)) (pd_int pe_int) (fun _ _ => rfl)) (pda_cons (pd_gint T.c_GROUND) (pda_cons (pd_gint T.c_GROUND) pda_nil))))))))),
    fun ds R hl hs => rfl⟩
theorem sc_need_web : FnScope N_need_web ["web"] (defScope st_need_web) := ⟨rfl, rfl, rfl, by decide +kernel, rfl, by decide +kernel, by decide +kernel⟩
theorem cal_need_web (T : TT P w K mg base Γ fI) (F : FnI K mg "need_web" st_need_web) : Cal P w K mg base Γ 3 "need_web" 1 F_need_web := by
  obtain ⟨f, fd, FD, gx⟩ := F.ex
  refine cal_mk (N := N_need_web) (ps := ["web"]) FD gx sc_need_web (FD.bindsN fun _ _ _ _ _ _ us hl => match us, hl with | [_], _ => rfl) (fun cdv A outer s H E hr => ?_)
  have nd := (sc_need_web).nd
  have hp := passes_of (X := cxOf (L2.CX P w) P w K mg base N_need_web "need_web" (defScope st_need_web) f cdv A outer s H E) rfl
  have tk : Takes (cxOf (L2.CX P w) P w K mg base N_need_web "need_web" (defScope st_need_web) f cdv A outer s H E) (WD E) := takes_of rfl rfl rfl rfl
  exact ⟨sem_need_web, (ds_one (ds_if (pdt_not (pdt_tru (pd_isiW T.web T.b_isinstance (pd_var (pv 0))))) (ds_one (ds_raise (c := "BadWeb") T.box T.x_BadWeb (hr.mono (by decide)) tk (pd_var (pv 0)))) ds_nil)),
    fun ds R hl hs => rfl⟩
theorem sc_whole : FnScope N_whole ["web"] (defScope st_whole) := ⟨rfl, rfl, rfl, by decide +kernel, rfl, by decide +kernel, by decide +kernel⟩
theorem cal_whole (T : TT P w K mg base Γ fI) (F : FnI K mg "whole" st_whole) (c_need_web : Cal P w K mg base Γ 3 "need_web" 1 F_need_web) : Cal P w K mg base Γ 4 "whole" 1 F_whole := by
  obtain ⟨f, fd, FD, gx⟩ := F.ex
  refine cal_mk (N := N_whole) (ps := ["web"]) FD gx sc_whole (FD.bindsN fun _ _ _ _ _ _ us hl => match us, hl with | [_], _ => rfl) (fun cdv A outer s H E hr => ?_)
  have nd := (sc_whole).nd
  have hp := passes_of (X := cxOf (L2.CX P w) P w K mg base N_whole "whole" (defScope st_whole) f cdv A outer s H E) rfl
  have tk : Takes (cxOf (L2.CX P w) P w K mg base N_whole "whole" (defScope st_whole) f cdv A outer s H E) (WD E) := takes_of rfl rfl rfl rfl
  exact ⟨sem_whole, (ds_cons (ds_expr (pd_call c_need_web (hr.mono (by decide)) tk (pda_cons (pd_var (pv 0)) pda_nil)))
      (ds_one (ds_ret (pd_tupRg rfl T.b_tuple T.b_range (pd_callB cr_len cd_len T.b_len (by decide +kernel) (pda_cons (pd_strings T.web (pd_var (pv 0))) pda_nil)))))),
    fun ds R hl hs => rfl⟩
theorem sc_is_standing : FnScope N_is_standing ["web", "thing"] (defScope st_is_standing) := ⟨rfl, rfl, rfl, by decide +kernel, rfl, by decide +kernel, by decide +kernel⟩
theorem cal_is_standing (T : TT P w K mg base Γ fI) (F : FnI K mg "is_standing" st_is_standing) (c_need_web : Cal P w K mg base Γ 3 "need_web" 1 F_need_web) (c_is_rising : Cal P w K mg base Γ 3 "is_rising" 3 F_is_rising) : Cal P w K mg base Γ 4 "is_standing" 2 F_is_standing := by
  obtain ⟨f, fd, FD, gx⟩ := F.ex
  refine cal_mk (N := N_is_standing) (ps := ["web", "thing"]) FD gx sc_is_standing (FD.bindsN fun _ _ _ _ _ _ us hl => match us, hl with | [_, _], _ => rfl) (fun cdv A outer s H E hr => ?_)
  have nd := (sc_is_standing).nd
  have hp := passes_of (X := cxOf (L2.CX P w) P w K mg base N_is_standing "is_standing" (defScope st_is_standing) f cdv A outer s H E) rfl
  have tk : Takes (cxOf (L2.CX P w) P w K mg base N_is_standing "is_standing" (defScope st_is_standing) f cdv A outer s H E) (WD E) := takes_of rfl rfl rfl rfl
  exact ⟨sem_is_standing, (ds_cons (ds_expr (pd_call c_need_web (hr.mono (by decide)) tk (pda_cons (pd_var (pv 0)) pda_nil)))
      (ds_one (ds_ret (pd_call c_is_rising (hr.mono (by decide)) tk (pda_cons (pd_var (pv 1)) (pda_cons (pd_int pe_int) (pda_cons (pd_op op_sub od_sub (pd_callB cr_len cd_len T.b_len (by decide +kernel) (pda_cons (pd_strings T.web (pd_var (pv 0))) pda_nil)) (pd_int pe_int)) pda_nil))))))),
    fun ds R hl hs => rfl⟩
theorem sc_need_standing : FnScope N_need_standing ["web", "standing"] (defScope st_need_standing) := ⟨rfl, rfl, rfl, by decide +kernel, rfl, by decide +kernel, by decide +kernel⟩
theorem cal_need_standing (T : TT P w K mg base Γ fI) (F : FnI K mg "need_standing" st_need_standing) (c_is_standing : Cal P w K mg base Γ 4 "is_standing" 2 F_is_standing) : Cal P w K mg base Γ 5 "need_standing" 2 F_need_standing := by
  obtain ⟨f, fd, FD, gx⟩ := F.ex
  refine cal_mk (N := N_need_standing) (ps := ["web", "standing"]) FD gx sc_need_standing (FD.bindsN fun _ _ _ _ _ _ us hl => match us, hl with | [_, _], _ => rfl) (fun cdv A outer s H E hr => ?_)
  have nd := (sc_need_standing).nd
  have hp := passes_of (X := cxOf (L2.CX P w) P w K mg base N_need_standing "need_standing" (defScope st_need_standing) f cdv A outer s H E) rfl
  have tk : Takes (cxOf (L2.CX P w) P w K mg base N_need_standing "need_standing" (defScope st_need_standing) f cdv A outer s H E) (WD E) := takes_of rfl rfl rfl rfl
  exact ⟨sem_need_standing, (ds_one (ds_if (pdt_not (pdt_tru (pd_call c_is_standing (hr.mono (by decide)) tk (pda_cons (pd_var (pv 0)) (pda_cons (pd_var (pv 1)) pda_nil))))) (ds_one (ds_raise (c := "BadStanding") T.box T.x_BadStanding (hr.mono (by decide)) tk (pd_var (pv 1)))) ds_nil)),
    fun ds R hl hs => rfl⟩
theorem sc_need_coin : FnScope N_need_coin ["web", "coin"] (defScope st_need_coin) := ⟨rfl, rfl, rfl, by decide +kernel, rfl, by decide +kernel, by decide +kernel⟩
theorem cal_need_coin (T : TT P w K mg base Γ fI) (F : FnI K mg "need_coin" st_need_coin) (c_is_within : Cal P w K mg base Γ 2 "is_within" 3 F_is_within) : Cal P w K mg base Γ 3 "need_coin" 2 F_need_coin := by
  obtain ⟨f, fd, FD, gx⟩ := F.ex
  refine cal_mk (N := N_need_coin) (ps := ["web", "coin"]) FD gx sc_need_coin (FD.bindsN fun _ _ _ _ _ _ us hl => match us, hl with | [_, _], _ => rfl) (fun cdv A outer s H E hr => ?_)
  have nd := (sc_need_coin).nd
  have hp := passes_of (X := cxOf (L2.CX P w) P w K mg base N_need_coin "need_coin" (defScope st_need_coin) f cdv A outer s H E) rfl
  have tk : Takes (cxOf (L2.CX P w) P w K mg base N_need_coin "need_coin" (defScope st_need_coin) f cdv A outer s H E) (WD E) := takes_of rfl rfl rfl rfl
  exact ⟨sem_need_coin, (ds_one (ds_if (pdt_not (pdt_tru (pd_call c_is_within (hr.mono (by decide)) tk (pda_cons (pd_var (pv 1)) (pda_cons (pd_int pe_int) (pda_cons (pd_op op_sub od_sub (pd_coins T.web (pd_var (pv 0))) (pd_int pe_int)) pda_nil)))))) (ds_one (ds_raise (c := "BadCoin") T.box T.x_BadCoin (hr.mono (by decide)) tk (pd_var (pv 1)))) ds_nil)),
    fun ds R hl hs => rfl⟩
theorem sc_strings_of : FnScope N_strings_of ["web", "standing", "coin"] (defScope st_strings_of) := ⟨rfl, rfl, rfl, by decide +kernel, rfl, by decide +kernel, by decide +kernel⟩
theorem cal_strings_of (T : TT P w K mg base Γ fI) (F : FnI K mg "strings_of" st_strings_of) (c_need_standing : Cal P w K mg base Γ 5 "need_standing" 2 F_need_standing) (c_need_coin : Cal P w K mg base Γ 3 "need_coin" 2 F_need_coin) : Cal P w K mg base Γ 6 "strings_of" 3 F_strings_of := by
  obtain ⟨f, fd, FD, gx⟩ := F.ex
  refine cal_mk (N := N_strings_of) (ps := ["web", "standing", "coin"]) FD gx sc_strings_of (FD.bindsN fun _ _ _ _ _ _ us hl => match us, hl with | [_, _, _], _ => rfl) (fun cdv A outer s H E hr => ?_)
  have nd := (sc_strings_of).nd
  have hp := passes_of (X := cxOf (L2.CX P w) P w K mg base N_strings_of "strings_of" (defScope st_strings_of) f cdv A outer s H E) rfl
  have tk : Takes (cxOf (L2.CX P w) P w K mg base N_strings_of "strings_of" (defScope st_strings_of) f cdv A outer s H E) (WD E) := takes_of rfl rfl rfl rfl
  exact ⟨sem_strings_of, (ds_cons (ds_expr (pd_call c_need_standing (hr.mono (by decide)) tk (pda_cons (pd_var (pv 0)) (pda_cons (pd_var (pv 1)) pda_nil))))
      (ds_cons (ds_expr (pd_call c_need_coin (hr.mono (by decide)) tk (pda_cons (pd_var (pv 0)) (pda_cons (pd_var (pv 2)) pda_nil))))
      (ds_one (ds_ret (pd_callTy call_tuple_of cd_tuple T.b_tuple (by decide +kernel) (pda_cons (pd_lc (own := [(("string" : Str), 3)]) rfl nd (di_seq (pd_var (pv 1))) (blkOk_by (show blkC N_strings_of (defScope st_strings_of) _ _ = true from by decide +kernel)) (by decide) (fun _ _ _ _ _ => (gd_nm (pg_name (i := 3) nd rfl (by first | exact Or.inl rfl | exact Or.inr rfl)))) (fun _ _ _ _ _ => (dts_one (pdt_cmp (op_inA (hu65 hr)) od_inA (pd_var (pv 2)) (pd_ix ix_seq od_ix (pd_strings T.web (pd_var (pv 0))) (pd_var (pv 3)) (fun _ _ => rfl)) (by with_unfolding_all rfl)))) (fun _ _ _ _ _ => (pd_var (pv 3)))) pda_nil)))))),
    fun ds R hl hs => rfl⟩
theorem sc_open_coins : FnScope N_open_coins ["web", "standing"] (defScope st_open_coins) := ⟨rfl, rfl, rfl, by decide +kernel, rfl, by decide +kernel, by decide +kernel⟩
theorem cal_open_coins (T : TT P w K mg base Γ fI) (F : FnI K mg "open_coins" st_open_coins) (c_need_standing : Cal P w K mg base Γ 5 "need_standing" 2 F_need_standing) (m_counts : CalM P w K mg base Γ 2 "counts" 2 F_counts) : Cal P w K mg base Γ 6 "open_coins" 2 F_open_coins := by
  obtain ⟨f, fd, FD, gx⟩ := F.ex
  refine cal_mk (N := N_open_coins) (ps := ["web", "standing"]) FD gx sc_open_coins (FD.bindsN fun _ _ _ _ _ _ us hl => match us, hl with | [_, _], _ => rfl) (fun cdv A outer s H E hr => ?_)
  have nd := (sc_open_coins).nd
  have hp := passes_of (X := cxOf (L2.CX P w) P w K mg base N_open_coins "open_coins" (defScope st_open_coins) f cdv A outer s H E) rfl
  have tk : Takes (cxOf (L2.CX P w) P w K mg base N_open_coins "open_coins" (defScope st_open_coins) f cdv A outer s H E) (WD E) := takes_of rfl rfl rfl rfl
  exact ⟨sem_open_coins, (ds_cons (ds_expr (pd_call c_need_standing (hr.mono (by decide)) tk (pda_cons (pd_var (pv 0)) (pda_cons (pd_var (pv 1)) pda_nil))))
      (ds_one (ds_ret (pd_callTy call_tuple_of cd_tuple T.b_tuple (by decide +kernel) (pda_cons (pd_lc (own := [(("coin" : Str), 2), (("many" : Str), 3)]) rfl nd (di_enumA (by rfl) T.b_enumerate (pda_cons (pd_meth T.web m_counts (hr.mono (by decide)) (pd_var (pv 0)) (pda_cons (pd_var (pv 1)) pda_nil)) pda_nil)) (blkOk_by (show blkC N_open_coins (defScope st_open_coins) _ _ = true from by decide +kernel)) (by decide) (fun _ _ _ _ _ => (gd_tup rfl (gds_cons (gd_nm (pg_name (i := 2) nd rfl (by first | exact Or.inl rfl | exact Or.inr rfl))) (gds_cons (gd_nm (pg_name (i := 3) nd rfl (by first | exact Or.inl rfl | exact Or.inr rfl))) gds_nil)))) (fun _ _ _ _ _ => (dts_one (pdt_cmp op_gt od_gt (pd_var (pv 3)) (pd_int pe_int) (nomark _)))) (fun _ _ _ _ _ => (pd_var (pv 2)))) pda_nil))))),
    fun ds R hl hs => rfl⟩
theorem sc__law_taken : FnScope N__law_taken ["row", "many"] (defScope st__law_taken) := ⟨rfl, rfl, rfl, by decide +kernel, rfl, by decide +kernel, by decide +kernel⟩
theorem cal__law_taken (T : TT P w K mg base Γ fI) (F : FnI K mg "_law_taken" st__law_taken) : Cal P w K mg base Γ 1 "_law_taken" 2 (F__law_taken Γ) := by
  obtain ⟨f, fd, FD, gx⟩ := F.ex
  refine cal_mk (N := N__law_taken) (ps := ["row", "many"]) FD gx sc__law_taken (FD.bindsN fun _ _ _ _ _ _ us hl => match us, hl with | [_, _], _ => rfl) (fun cdv A outer s H E hr => ?_)
  have nd := (sc__law_taken).nd
  have hp := passes_of (X := cxOf (L2.CX P w) P w K mg base N__law_taken "_law_taken" (defScope st__law_taken) f cdv A outer s H E) rfl
  have tk : Takes (cxOf (L2.CX P w) P w K mg base N__law_taken "_law_taken" (defScope st__law_taken) f cdv A outer s H E) (WD E) := takes_of rfl rfl rfl rfl
  exact ⟨sem__law_taken Γ, (ds_cons (ds_if (pdt_cmp op_gt od_gt (pd_row (i := 3) (pd_var (pv 0))) (pd_int pe_int) (nomark _)) (ds_cons (ds_set (i := 2) nd rfl (by first | exact Or.inl rfl | exact Or.inr rfl) (pd_op op_mod od_mod (pd_callTy cr_int cd_intA T.b_int (by decide +kernel) (pda_cons (pd_row (i := 3) (pd_var (pv 0))) pda_nil)) (pd_var (pv 1))))
      (ds_cons (ds_rowSet (i := 0) (j := 3) rfl (by first | exact Or.inl rfl | exact Or.inr (Or.inl rfl) | exact Or.inr (Or.inr rfl)) (pd_op op_fdiv od_div (pd_row (i := 3) (pd_var (pv 0))) (pd_var (pv 1))))
      (ds_one (ds_ret (pd_var (pv 2)))))) ds_nil)
      (ds_cons (ds_rowSet (i := 0) (j := 1) rfl (by first | exact Or.inl rfl | exact Or.inr (Or.inl rfl) | exact Or.inr (Or.inr rfl)) (pd_op op_plus od_plus (pd_row (i := 1) (pd_var (pv 0))) (pd_int pe_int)))
      (ds_cons (ds_if (pdt_cmp op_gt od_gt (pd_row (i := 1) (pd_var (pv 0))) (pd_scrLen T.hK (pd_row (i := 0) (pd_var (pv 0))) T.b_len) (nomark _)) (ds_cons (ds_rowSet (i := 0) (j := 2) rfl (by first | exact Or.inl rfl | exact Or.inr (Or.inl rfl) | exact Or.inr (Or.inr rfl)) (pd_op op_mod od_mod (pd_callTy cr_int cd_intA T.b_int (by decide +kernel) (pda_cons (pd_op op_plus od_plus (pd_op op_times od_times (pd_row (i := 2) (pd_var (pv 0))) (pd_int pe_int)) (pd_int pe_int)) pda_nil)) (pd_int pe_int)))
      (ds_one (ds_ret (pd_op op_mod od_mod (pd_callTy cr_int cd_intA T.b_int (by decide +kernel) (pda_cons (pd_op op_fdiv od_div (pd_row (i := 2) (pd_var (pv 0))) (pd_int pe_int)) pda_nil)) (pd_var (pv 1)))))) ds_nil)
      (ds_cons (ds_set (i := 3) nd rfl (by first | exact Or.inl rfl | exact Or.inr rfl) (pd_scrAt T.hK (pd_row (i := 0) (pd_var (pv 0))) (pd_op op_sub od_sub (pd_row (i := 1) (pd_var (pv 0))) (pd_int pe_int)) (fun _ _ => rfl)))
      (ds_cons (ds_rowSet (i := 0) (j := 2) rfl (by first | exact Or.inl rfl | exact Or.inr (Or.inl rfl) | exact Or.inr (Or.inr rfl)) (pd_op op_mod od_mod (pd_callTy cr_int cd_intA T.b_int (by decide +kernel) (pda_cons (pd_op op_plus od_plus (pd_op op_plus od_plus (pd_op op_times od_times (pd_row (i := 2) (pd_var (pv 0))) (pd_int pe_int)) (pd_var (pv 3))) (pd_int pe_int)) pda_nil)) (pd_int pe_int)))
      (ds_cons (ds_if (pdt_cmp op_ge od_ge (pd_var (pv 3)) (pd_op op_pow od_pow (pd_int pe_int) (pd_int pe_int)) (nomark _)) (ds_one (ds_rowSet (i := 0) (j := 3) rfl (by first | exact Or.inl rfl | exact Or.inr (Or.inl rfl) | exact Or.inr (Or.inr rfl)) (pd_op op_fdiv od_div (pd_var (pv 3)) (pd_var (pv 1))))) ds_nil)
      (ds_one (ds_ret (pd_op op_mod od_mod (pd_callTy cr_int cd_intA T.b_int (by decide +kernel) (pda_cons (pd_var (pv 3)) pda_nil)) (pd_var (pv 1))))))))))),
    fun ds R hl hs => rfl⟩
theorem sc__law_pick : FnScope N__law_pick ["row", "some"] (defScope st__law_pick) := ⟨rfl, rfl, rfl, by decide +kernel, rfl, by decide +kernel, by decide +kernel⟩
theorem cal__law_pick (T : TT P w K mg base Γ fI) (F : FnI K mg "_law_pick" st__law_pick) (c__law_taken : Cal P w K mg base Γ 1 "_law_taken" 2 (F__law_taken Γ)) : Cal P w K mg base Γ 2 "_law_pick" 2 (F__law_pick Γ) := by
  obtain ⟨f, fd, FD, gx⟩ := F.ex
  refine cal_mk (N := N__law_pick) (ps := ["row", "some"]) FD gx sc__law_pick (FD.bindsN fun _ _ _ _ _ _ us hl => match us, hl with | [_, _], _ => rfl) (fun cdv A outer s H E hr => ?_)
  have nd := (sc__law_pick).nd
  have hp := passes_of (X := cxOf (L2.CX P w) P w K mg base N__law_pick "_law_pick" (defScope st__law_pick) f cdv A outer s H E) rfl
  have tk : Takes (cxOf (L2.CX P w) P w K mg base N__law_pick "_law_pick" (defScope st__law_pick) f cdv A outer s H E) (WD E) := takes_of rfl rfl rfl rfl
  exact ⟨sem__law_pick Γ, (ds_one (ds_ret (pd_ix ix_seq od_ix (pd_var (pv 1)) (pd_call c__law_taken (hr.mono (by decide)) tk (pda_cons (pd_var (pv 0)) (pda_cons (pd_callB cr_len cd_len T.b_len (by decide +kernel) (pda_cons (pd_var (pv 1)) pda_nil)) pda_nil))) (fun _ _ => rfl)))),
    fun ds R hl hs => rfl⟩
theorem sc__law_alike : FnScope N__law_alike ["found", "due"] (defScope st__law_alike) := ⟨rfl, rfl, rfl, by decide +kernel, rfl, by decide +kernel, by decide +kernel⟩
theorem cal__law_alike (T : TT P w K mg base Γ fI) (F : FnI K mg "_law_alike" st__law_alike) : ∀ n, Cal P w K mg base Γ (1 + n) "_law_alike" 2 (FR__law_alike n) := by
  obtain ⟨f, fd, FD, gx⟩ := F.ex
  intro n
  induction n with
  | zero => exact (cal_mk (N := N__law_alike) (ps := ["found", "due"]) (k := 0) FD gx sc__law_alike (FD.bindsN fun _ _ _ _ _ _ us hl => match us, hl with | [_, _], _ => rfl) (fun cdv A outer s H E hr => ⟨sDead, ds_dead, fun ds R hl hs => absurd rfl hs⟩)).mono (by omega)
  | succ n ih =>
  have c__law_alike := ih
  refine cal_mk (k := 1 + n) (N := N__law_alike) (ps := ["found", "due"]) FD gx sc__law_alike (FD.bindsN fun _ _ _ _ _ _ us hl => match us, hl with | [_, _], _ => rfl) (fun cdv A outer s H E hr => ?_)
  have nd := (sc__law_alike).nd
  have hp := passes_of (X := cxOf (L2.CX P w) P w K mg base N__law_alike "_law_alike" (defScope st__law_alike) f cdv A outer s H E) rfl
  have tk : Takes (cxOf (L2.CX P w) P w K mg base N__law_alike "_law_alike" (defScope st__law_alike) f cdv A outer s H E) (WD E) := takes_of rfl rfl rfl rfl
  exact ⟨sem__law_alike (FR__law_alike n), (ds_cons (ds_if (pdt_tru (pd_isi2 T.b_isinstance (pd_var (pv 1)) (pe_bltn (v := .ty "tuple") (by rfl) T.b_tuple (by decide +kernel) rfl) (pe_bltn (v := .ty "list") (by rfl) T.b_list (by decide +kernel) rfl))) (ds_cons (ds_if (pdt_w (pdw_or (pdt_not (pdt_tru (pd_isi2 T.b_isinstance (pd_var (pv 0)) (pe_bltn (v := .ty "tuple") (by rfl) T.b_tuple (by decide +kernel) rfl) (pe_bltn (v := .ty "list") (by rfl) T.b_list (by decide +kernel) rfl)))) (pdw_or1 (pdt_cmp (op_neD hr.units) od_ne (pd_isi T.b_isinstance (pd_var (pv 0)) (pe_bltn (v := .ty "list") (by rfl) T.b_list (by decide +kernel) rfl)) (pd_isi T.b_isinstance (pd_var (pv 1)) (pe_bltn (v := .ty "list") (by rfl) T.b_list (by decide +kernel) rfl)) (nomark _))))) (ds_one (ds_ret (pd_bl pe_bl))) ds_nil)
      (ds_cons (ds_if (pdt_cmp (op_neD hr.units) od_ne (pd_callB cr_len cd_len T.b_len (by decide +kernel) (pda_cons (pd_var (pv 0)) pda_nil)) (pd_callB cr_len cd_len T.b_len (by decide +kernel) (pda_cons (pd_var (pv 1)) pda_nil)) (nomark _)) (ds_one (ds_ret (pd_bl pe_bl))) ds_nil)
      (ds_one (ds_ret (pd_cmp (op_eqD hr.units) od_eq (pd_lc (own := [(("k" : Str), 2)]) rfl nd (di_rng1 (by rfl) T.b_range (pda_cons (pd_callB cr_len cd_len T.b_len (by decide +kernel) (pda_cons (pd_var (pv 1)) pda_nil)) pda_nil)) (blkOk_by (show blkC N__law_alike (defScope st__law_alike) _ _ = true from by decide +kernel)) (by decide) (fun _ _ _ _ _ => (gd_nm (pg_name (i := 2) nd rfl (by first | exact Or.inl rfl | exact Or.inr rfl)))) (fun _ _ _ _ _ => (dts_one (pdt_not (pdt_tru (pd_call c__law_alike (hr.mono (by omega)) takes0 (pda_cons (pd_ix ix_seq od_ix (pd_var (pv 0)) (pd_var (pv 2)) (fun _ _ => rfl)) (pda_cons (pd_ix ix_seq od_ix (pd_var (pv 1)) (pd_var (pv 2)) (fun _ _ => rfl)) pda_nil))))))) (fun _ _ _ _ _ => (pd_var (pv 2)))) (pd_lst pda_nil) (nomark _)))))) ds_nil)
      (ds_cons (ds_if (pdt_tru (pd_isi T.b_isinstance (pd_var (pv 1)) (pe_bltn (v := .ty "dict") (by rfl) T.b_dict (by decide +kernel) rfl))) (ds_cons (ds_if (pdt_w (pdw_or (pdt_not (pdt_tru (pd_isi T.b_isinstance (pd_var (pv 0)) (pe_bltn (v := .ty "dict") (by rfl) T.b_dict (by decide +kernel) rfl)))) (pdw_or1 (pdt_cmp (op_neD hr.units) od_ne (pd_callTy call_list_of cd_list T.b_list (by decide +kernel) (pda_cons (pd_var (pv 0)) pda_nil)) (pd_callTy call_list_of cd_list T.b_list (by decide +kernel) (pda_cons (pd_var (pv 1)) pda_nil)) (nomark _))))) (ds_one (ds_ret (pd_bl pe_bl))) ds_nil)
      (ds_one (ds_ret (pd_cmp (op_eqD hr.units) od_eq (pd_lc (own := [(("key" : Str), 3)]) rfl nd (di_seq (pd_var (pv 1))) (blkOk_by (show blkC N__law_alike (defScope st__law_alike) _ _ = true from by decide +kernel)) (by decide) (fun _ _ _ _ _ => (gd_nm (pg_name (i := 3) nd rfl (by first | exact Or.inl rfl | exact Or.inr rfl)))) (fun _ _ _ _ _ => (dts_one (pdt_not (pdt_tru (pd_call c__law_alike (hr.mono (by omega)) takes0 (pda_cons (pd_ix ix_seq od_ix (pd_var (pv 0)) (pd_var (pv 3)) (fun _ _ => rfl)) (pda_cons (pd_ix ix_seq od_ix (pd_var (pv 1)) (pd_var (pv 3)) (fun _ _ => rfl)) pda_nil))))))) (fun _ _ _ _ _ => (pd_var (pv 3)))) (pd_lst pda_nil) (nomark _))))) ds_nil)
      (ds_cons (ds_if (pdt_w (pdw_or (pdt_cmp op_isN od_isN (pd_var (pv 1)) (pd_non pe_non) (nomark _)) (pdw_or1 (pdt_tru (pd_isi T.b_isinstance (pd_var (pv 1)) (pe_bltn (v := .ty "str") (by rfl) T.b_str (by decide +kernel) rfl)))))) (ds_one (ds_ret (pd_and (pd_cmp (op_eqD hr.units) od_eq (pd_var (pv 0)) (pd_var (pv 1)) (nomark _)) (pd_one (pd_cmp (op_eqD hr.units) od_eq (pd_isi T.b_isinstance (pd_var (pv 0)) (pe_bltn (v := .ty "str") (by rfl) T.b_str (by decide +kernel) rfl)) (pd_isi T.b_isinstance (pd_var (pv 1)) (pe_bltn (v := .ty "str") (by rfl) T.b_str (by decide +kernel) rfl)) (nomark _)))))) ds_nil)
      (ds_one (ds_ret (pd_and (pd_isi T.b_isinstance (pd_var (pv 0)) (pe_bltn (v := .ty "int") (by rfl) T.b_int (by decide +kernel) rfl)) (pd_and (pd_cmp (op_eqD hr.units) od_eq (pd_isi T.b_isinstance (pd_var (pv 0)) (pe_bltn (v := .ty "bool") (by rfl) T.b_bool (by decide +kernel) rfl)) (pd_isi T.b_isinstance (pd_var (pv 1)) (pe_bltn (v := .ty "bool") (by rfl) T.b_bool (by decide +kernel) rfl)) (nomark _)) (pd_one (pd_cmp (op_eqD hr.units) od_eq (pd_var (pv 0)) (pd_var (pv 1)) (nomark _)))))))))),
    fun ds R hl hs => rfl⟩
theorem sc__law_string : FnScope N__law_string ["row", "coins"] (defScope st__law_string) := ⟨rfl, rfl, rfl, by decide +kernel, rfl, by decide +kernel, by decide +kernel⟩
theorem cal__law_string (T : TT P w K mg base Γ fI) (F : FnI K mg "_law_string" st__law_string) (c__law_taken : Cal P w K mg base Γ 1 "_law_taken" 2 (F__law_taken Γ)) : Cal P w K mg base Γ 2 "_law_string" 2 (F__law_string Γ) := by
  obtain ⟨f, fd, FD, gx⟩ := F.ex
  refine cal_mk (N := N__law_string) (ps := ["row", "coins"]) FD gx sc__law_string (FD.bindsN fun _ _ _ _ _ _ us hl => match us, hl with | [_, _], _ => rfl) (fun cdv A outer s H E hr => ?_)
  have nd := (sc__law_string).nd
  have hp := passes_of (X := cxOf (L2.CX P w) P w K mg base N__law_string "_law_string" (defScope st__law_string) f cdv A outer s H E) rfl
  have tk : Takes (cxOf (L2.CX P w) P w K mg base N__law_string "_law_string" (defScope st__law_string) f cdv A outer s H E) (WD E) := takes_of rfl rfl rfl rfl
  exact ⟨sem__law_string Γ, (ds_cons (ds_set (i := 2) nd rfl (by first | exact Or.inl rfl | exact Or.inr rfl) (pd_call c__law_taken (hr.mono (by decide)) tk (pda_cons (pd_var (pv 0)) (pda_cons (pd_var (pv 1)) pda_nil))))
      (ds_cons (ds_set (i := 3) nd rfl (by first | exact Or.inl rfl | exact Or.inr rfl) (pd_call c__law_taken (hr.mono (by decide)) tk (pda_cons (pd_var (pv 0)) (pda_cons (pd_op op_plus od_plus (pd_var (pv 1)) (pd_int pe_int)) pda_nil))))
      (ds_cons (ds_if (pdt_w (pdw_or (pdt_cmp op_ge od_ge (pd_var (pv 3)) (pd_var (pv 1)) (nomark _)) (pdw_or1 (pdt_cmp (op_eqD hr.units) od_eq (pd_var (pv 3)) (pd_var (pv 2)) (nomark _))))) (ds_one (ds_ret (pd_tup (pda_cons (pd_var (pv 2)) (pda_cons (pd_op op_sub od_sub (pd_int pe_int) (pd_int pe_int)) pda_nil))))) ds_nil)
      (ds_one (ds_ret (pd_tup (pda_cons (pd_callB (call_min2 rfl) cd_min2 T.b_min (by decide +kernel) (pda_cons (pd_var (pv 2)) (pda_cons (pd_var (pv 3)) pda_nil))) (pda_cons (pd_callB (call_max2 rfl) cd_max2 T.b_max (by decide +kernel) (pda_cons (pd_var (pv 2)) (pda_cons (pd_var (pv 3)) pda_nil))) pda_nil)))))))),
    fun ds R hl hs => rfl⟩
theorem sc__law_strings : FnScope N__law_strings ["row", "coins", "most"] (defScope st__law_strings) := ⟨rfl, rfl, rfl, by decide +kernel, rfl, by decide +kernel, by decide +kernel⟩
theorem cal__law_strings (T : TT P w K mg base Γ fI) (F : FnI K mg "_law_strings" st__law_strings) (c__law_taken : Cal P w K mg base Γ 1 "_law_taken" 2 (F__law_taken Γ)) (c__law_string : Cal P w K mg base Γ 2 "_law_string" 2 (F__law_string Γ)) : Cal P w K mg base Γ 3 "_law_strings" 3 (F__law_strings Γ) := by
  obtain ⟨f, fd, FD, gx⟩ := F.ex
  refine cal_mk (N := N__law_strings) (ps := ["row", "coins", "most"]) FD gx sc__law_strings (FD.bindsN fun _ _ _ _ _ _ us hl => match us, hl with | [_, _, _], _ => rfl) (fun cdv A outer s H E hr => ?_)
  have nd := (sc__law_strings).nd
  have hp := passes_of (X := cxOf (L2.CX P w) P w K mg base N__law_strings "_law_strings" (defScope st__law_strings) f cdv A outer s H E) rfl
  have tk : Takes (cxOf (L2.CX P w) P w K mg base N__law_strings "_law_strings" (defScope st__law_strings) f cdv A outer s H E) (WD E) := takes_of rfl rfl rfl rfl
  exact ⟨sem__law_strings Γ, (ds_one (ds_ret (pd_lc (own := [(("k" : Str), 3)]) rfl nd (di_rng1 (by rfl) T.b_range (pda_cons (pd_op op_plus od_plus (pd_int pe_int) (pd_call c__law_taken (hr.mono (by decide)) tk (pda_cons (pd_var (pv 0)) (pda_cons (pd_var (pv 2)) pda_nil)))) pda_nil)) (blkOk_by (show blkC N__law_strings (defScope st__law_strings) _ _ = true from by decide +kernel)) (by decide) (fun _ _ _ _ _ => (gd_nm (pg_name (i := 3) nd rfl (by first | exact Or.inl rfl | exact Or.inr rfl)))) (fun _ _ _ _ _ => dts_nil) (fun _ _ _ _ _ => (pd_call c__law_string (hr.mono (by decide)) takes0 (pda_cons (pd_var (pv 0)) (pda_cons (pd_var (pv 1)) pda_nil))))))),
    fun ds R hl hs => rfl⟩
theorem sc__law_web : FnScope N__law_web ["row", "most"] (defScope st__law_web) := ⟨rfl, rfl, rfl, by decide +kernel, rfl, by decide +kernel, by decide +kernel⟩
theorem cal__law_web (T : TT P w K mg base Γ fI) (F : FnI K mg "_law_web" st__law_web) (c__law_taken : Cal P w K mg base Γ 1 "_law_taken" 2 (F__law_taken Γ)) (c__law_strings : Cal P w K mg base Γ 3 "_law_strings" 3 (F__law_strings Γ)) : Cal P w K mg base Γ 4 "_law_web" 2 (F__law_web Γ) := by
  obtain ⟨f, fd, FD, gx⟩ := F.ex
  refine cal_mk (N := N__law_web) (ps := ["row", "most"]) FD gx sc__law_web (FD.bindsN fun _ _ _ _ _ _ us hl => match us, hl with | [_, _], _ => rfl) (fun cdv A outer s H E hr => ?_)
  have nd := (sc__law_web).nd
  have hp := passes_of (X := cxOf (L2.CX P w) P w K mg base N__law_web "_law_web" (defScope st__law_web) f cdv A outer s H E) rfl
  have tk : Takes (cxOf (L2.CX P w) P w K mg base N__law_web "_law_web" (defScope st__law_web) f cdv A outer s H E) (WD E) := takes_of rfl rfl rfl rfl
  exact ⟨sem__law_web Γ, (ds_cons (ds_set (i := 2) nd rfl (by first | exact Or.inl rfl | exact Or.inr rfl) (pd_op op_plus od_plus (pd_int pe_int) (pd_call c__law_taken (hr.mono (by decide)) tk (pda_cons (pd_var (pv 0)) (pda_cons (pd_int pe_int) pda_nil)))))
      (ds_one (ds_ret (pd_tup (pda_cons (pd_var (pv 2)) (pda_cons (pd_call c__law_strings (hr.mono (by decide)) tk (pda_cons (pd_var (pv 0)) (pda_cons (pd_var (pv 2)) (pda_cons (pd_var (pv 1)) pda_nil)))) pda_nil)))))),
    fun ds R hl hs => rfl⟩
theorem sc__law_some : FnScope N__law_some ["row", "many"] (defScope st__law_some) := ⟨rfl, rfl, rfl, by decide +kernel, rfl, by decide +kernel, by decide +kernel⟩
theorem cal__law_some (T : TT P w K mg base Γ fI) (F : FnI K mg "_law_some" st__law_some) (c__law_taken : Cal P w K mg base Γ 1 "_law_taken" 2 (F__law_taken Γ)) : Cal P w K mg base Γ 2 "_law_some" 2 (F__law_some Γ) := by
  obtain ⟨f, fd, FD, gx⟩ := F.ex
  refine cal_mk (N := N__law_some) (ps := ["row", "many"]) FD gx sc__law_some (FD.bindsN fun _ _ _ _ _ _ us hl => match us, hl with | [_, _], _ => rfl) (fun cdv A outer s H E hr => ?_)
  have nd := (sc__law_some).nd
  have hp := passes_of (X := cxOf (L2.CX P w) P w K mg base N__law_some "_law_some" (defScope st__law_some) f cdv A outer s H E) rfl
  have tk : Takes (cxOf (L2.CX P w) P w K mg base N__law_some "_law_some" (defScope st__law_some) f cdv A outer s H E) (WD E) := takes_of rfl rfl rfl rfl
  exact ⟨sem__law_some Γ, (ds_one (ds_ret (pd_callTy call_tuple_of cd_tuple T.b_tuple (by decide +kernel) (pda_cons (pd_lc (own := [(("k" : Str), 2)]) rfl nd (di_rng1 (by rfl) T.b_range (pda_cons (pd_var (pv 1)) pda_nil)) (blkOk_by (show blkC N__law_some (defScope st__law_some) _ _ = true from by decide +kernel)) (by decide) (fun _ _ _ _ _ => (gd_nm (pg_name (i := 2) nd rfl (by first | exact Or.inl rfl | exact Or.inr rfl)))) (fun _ _ _ _ _ => (dts_one (pdt_cmp op_gt od_gt (pd_call c__law_taken (hr.mono (by decide)) takes0 (pda_cons (pd_var (pv 0)) (pda_cons (pd_int pe_int) pda_nil))) (pd_int pe_int) (nomark _)))) (fun _ _ _ _ _ => (pd_var (pv 2)))) pda_nil)))),
    fun ds R hl hs => rfl⟩
theorem sc__law_at : FnScope N__law_at ["strings", "standing", "coin"] (defScope st__law_at) := ⟨rfl, rfl, rfl, by decide +kernel, rfl, by decide +kernel, by decide +kernel⟩
theorem cal__law_at (T : TT P w K mg base Γ fI) (F : FnI K mg "_law_at" st__law_at) : Cal P w K mg base Γ 1 "_law_at" 3 F__law_at := by
  obtain ⟨f, fd, FD, gx⟩ := F.ex
  refine cal_mk (N := N__law_at) (ps := ["strings", "standing", "coin"]) FD gx sc__law_at (FD.bindsN fun _ _ _ _ _ _ us hl => match us, hl with | [_, _, _], _ => rfl) (fun cdv A outer s H E hr => ?_)
  have nd := (sc__law_at).nd
  have hp := passes_of (X := cxOf (L2.CX P w) P w K mg base N__law_at "_law_at" (defScope st__law_at) f cdv A outer s H E) rfl
  have tk : Takes (cxOf (L2.CX P w) P w K mg base N__law_at "_law_at" (defScope st__law_at) f cdv A outer s H E) (WD E) := takes_of rfl rfl rfl rfl
  exact ⟨sem__law_at, (ds_one (ds_ret (pd_lc (own := [(("k" : Str), 3)]) rfl nd (di_seq (pd_var (pv 1))) (blkOk_by (show blkC N__law_at (defScope st__law_at) _ _ = true from by decide +kernel)) (by decide) (fun _ _ _ _ _ => (gd_nm (pg_name (i := 3) nd rfl (by first | exact Or.inl rfl | exact Or.inr rfl)))) (fun _ _ _ _ _ => (dts_one (pdt_w (pdw_or (pdt_cmp (op_eqD hr.units) od_eq (pd_ix ix_seq od_ix (pd_ix ix_seq od_ix (pd_var (pv 0)) (pd_var (pv 3)) (fun _ _ => rfl)) (pd_int pe_int) (fun _ _ => rfl)) (pd_var (pv 2)) (nomark _)) (pdw_or1 (pdt_cmp (op_eqD hr.units) od_eq (pd_ix ix_seq od_ix (pd_ix ix_seq od_ix (pd_var (pv 0)) (pd_var (pv 3)) (fun _ _ => rfl)) (pd_int pe_int) (fun _ _ => rfl)) (pd_var (pv 2)) (nomark _))))))) (fun _ _ _ _ _ => (pd_var (pv 3)))))),
    fun ds R hl hs => rfl⟩
theorem sc__law_bad_web : FnScope N__law_bad_web ["row"] (defScope st__law_bad_web) := ⟨rfl, rfl, rfl, by decide +kernel, rfl, by decide +kernel, by decide +kernel⟩
theorem cal__law_bad_web (T : TT P w K mg base Γ fI) (F : FnI K mg "_law_bad_web" st__law_bad_web) (c__law_pick : Cal P w K mg base Γ 2 "_law_pick" 2 (F__law_pick Γ)) : Cal P w K mg base Γ 3 "_law_bad_web" 1 (F__law_bad_web Γ) := by
  obtain ⟨f, fd, FD, gx⟩ := F.ex
  refine cal_mk (N := N__law_bad_web) (ps := ["row"]) FD gx sc__law_bad_web (FD.bindsN fun _ _ _ _ _ _ us hl => match us, hl with | [_], _ => rfl) (fun cdv A outer s H E hr => ?_)
  have nd := (sc__law_bad_web).nd
  have hp := passes_of (X := cxOf (L2.CX P w) P w K mg base N__law_bad_web "_law_bad_web" (defScope st__law_bad_web) f cdv A outer s H E) rfl
  have tk : Takes (cxOf (L2.CX P w) P w K mg base N__law_bad_web "_law_bad_web" (defScope st__law_bad_web) f cdv A outer s H E) (WD E) := takes_of rfl rfl rfl rfl
  exact ⟨sem__law_bad_web Γ, (ds_one (ds_ret (pd_call c__law_pick (hr.mono (by decide)) tk (pda_cons (pd_var (pv 0)) (pda_cons (pd_lst (pda_cons (pd_non pe_non) (pda_cons (pd_int pe_int) (pda_cons (pd_tup (pda_cons (pd_int pe_int) (pda_cons (pd_tup pda_nil) pda_nil))) (pda_cons (pd_str pe_str) (pda_cons (pd_lst pda_nil) (pda_cons pd_dic pda_nil))))))) pda_nil))))),
    fun ds R hl hs => rfl⟩
theorem sc__law_bad_standing : FnScope N__law_bad_standing ["row", "many"] (defScope st__law_bad_standing) := ⟨rfl, rfl, rfl, by decide +kernel, rfl, by decide +kernel, by decide +kernel⟩
theorem cal__law_bad_standing (T : TT P w K mg base Γ fI) (F : FnI K mg "_law_bad_standing" st__law_bad_standing) (c__law_pick : Cal P w K mg base Γ 2 "_law_pick" 2 (F__law_pick Γ)) : Cal P w K mg base Γ 3 "_law_bad_standing" 2 (F__law_bad_standing Γ) := by
  obtain ⟨f, fd, FD, gx⟩ := F.ex
  refine cal_mk (N := N__law_bad_standing) (ps := ["row", "many"]) FD gx sc__law_bad_standing (FD.bindsN fun _ _ _ _ _ _ us hl => match us, hl with | [_, _], _ => rfl) (fun cdv A outer s H E hr => ?_)
  have nd := (sc__law_bad_standing).nd
  have hp := passes_of (X := cxOf (L2.CX P w) P w K mg base N__law_bad_standing "_law_bad_standing" (defScope st__law_bad_standing) f cdv A outer s H E) rfl
  have tk : Takes (cxOf (L2.CX P w) P w K mg base N__law_bad_standing "_law_bad_standing" (defScope st__law_bad_standing) f cdv A outer s H E) (WD E) := takes_of rfl rfl rfl rfl
  exact ⟨sem__law_bad_standing Γ, (ds_one (ds_ret (pd_call c__law_pick (hr.mono (by decide)) tk (pda_cons (pd_var (pv 0)) (pda_cons (pd_lst (pda_cons (pd_non pe_non) (pda_cons (pd_int pe_int) (pda_cons (pd_lst (pda_cons (pd_int pe_int) pda_nil)) (pda_cons (pd_tup (pda_cons (pd_var (pv 1)) pda_nil)) (pda_cons (pd_tup (pda_cons (pd_int pe_int) (pda_cons (pd_int pe_int) pda_nil))) (pda_cons (pd_tup (pda_cons (pd_int pe_int) (pda_cons (pd_int pe_int) pda_nil))) (pda_cons (pd_tup (pda_cons (pd_op op_sub od_sub (pd_int pe_int) (pd_int pe_int)) pda_nil)) (pda_cons (pd_tup (pda_cons (pd_str pe_str) pda_nil)) (pda_cons (pd_tup (pda_cons (pd_bl pe_bl) pda_nil)) (pda_cons (pd_tup (pda_cons (pd_int pe_int) (pda_cons (pd_var (pv 1)) pda_nil))) pda_nil))))))))))) pda_nil))))),
    fun ds R hl hs => rfl⟩
theorem sc__law_wrong_strings : FnScope N__law_wrong_strings ["row", "coins"] (defScope st__law_wrong_strings) := ⟨rfl, rfl, rfl, by decide +kernel, rfl, by decide +kernel, by decide +kernel⟩
theorem cal__law_wrong_strings (T : TT P w K mg base Γ fI) (F : FnI K mg "_law_wrong_strings" st__law_wrong_strings) (c__law_taken : Cal P w K mg base Γ 1 "_law_taken" 2 (F__law_taken Γ)) (c__law_pick : Cal P w K mg base Γ 2 "_law_pick" 2 (F__law_pick Γ)) : Cal P w K mg base Γ 3 "_law_wrong_strings" 2 (F__law_wrong_strings Γ) := by
  obtain ⟨f, fd, FD, gx⟩ := F.ex
  refine cal_mk (N := N__law_wrong_strings) (ps := ["row", "coins"]) FD gx sc__law_wrong_strings (FD.bindsN fun _ _ _ _ _ _ us hl => match us, hl with | [_, _], _ => rfl) (fun cdv A outer s H E hr => ?_)
  have nd := (sc__law_wrong_strings).nd
  have hp := passes_of (X := cxOf (L2.CX P w) P w K mg base N__law_wrong_strings "_law_wrong_strings" (defScope st__law_wrong_strings) f cdv A outer s H E) rfl
  have tk : Takes (cxOf (L2.CX P w) P w K mg base N__law_wrong_strings "_law_wrong_strings" (defScope st__law_wrong_strings) f cdv A outer s H E) (WD E) := takes_of rfl rfl rfl rfl
  exact ⟨sem__law_wrong_strings Γ, (ds_cons (ds_set (i := 2) nd rfl (by first | exact Or.inl rfl | exact Or.inr rfl) (pd_op op_times od_times (pd_lst (pda_cons (pd_tup (pda_cons (pd_int pe_int) (pda_cons (pd_op op_sub od_sub (pd_int pe_int) (pd_int pe_int)) pda_nil))) pda_nil)) (pd_call c__law_taken (hr.mono (by decide)) tk (pda_cons (pd_var (pv 0)) (pda_cons (pd_int pe_int) pda_nil)))))
      (ds_cons (ds_set (i := 3) nd rfl (by first | exact Or.inl rfl | exact Or.inr rfl) (pd_call c__law_pick (hr.mono (by decide)) tk (pda_cons (pd_var (pv 0)) (pda_cons (pd_lst (pda_cons (pd_tup (pda_cons (pd_int pe_int) (pda_cons (pd_var (pv 1)) pda_nil))) (pda_cons (pd_tup (pda_cons (pd_int pe_int) (pda_cons (pd_int pe_int) pda_nil))) (pda_cons (pd_tup (pda_cons (pd_var (pv 1)) (pda_cons (pd_op op_sub od_sub (pd_int pe_int) (pd_int pe_int)) pda_nil))) (pda_cons (pd_tup (pda_cons (pd_int pe_int) pda_nil)) (pda_cons (pd_lst (pda_cons (pd_int pe_int) (pda_cons (pd_op op_sub od_sub (pd_int pe_int) (pd_int pe_int)) pda_nil))) (pda_cons (pd_non pe_non) (pda_cons (pd_str pe_str) (pda_cons (pd_tup (pda_cons (pd_bl pe_bl) (pda_cons (pd_op op_sub od_sub (pd_int pe_int) (pd_int pe_int)) pda_nil))) (pda_cons (pd_tup (pda_cons (pd_int pe_int) (pda_cons (pd_op op_sub od_sub (pd_int pe_int) (pd_int pe_int)) pda_nil))) pda_nil)))))))))) pda_nil))))
      (ds_one (ds_ret (pd_tup (pda_cons (pd_op op_plus od_plus (pd_var (pv 2)) (pd_lst (pda_cons (pd_var (pv 3)) (pda_cons (pd_int pe_int) pda_nil)))) (pda_cons (pd_callB cr_len cd_len T.b_len (by decide +kernel) (pda_cons (pd_var (pv 2)) pda_nil)) pda_nil))))))),
    fun ds R hl hs => rfl⟩
theorem sc_Web : FnScope N_Web ["self", "coins", "strings"] (defScope st_Web) := ⟨rfl, rfl, rfl, by decide +kernel, rfl, by decide +kernel, by decide +kernel⟩
theorem cal_Web (T : TT P w K mg base Γ fI) (F : MkI K Γ st_Web) (c_is_within : Cal P w K mg base Γ 2 "is_within" 3 F_is_within) (c_is_row : Cal P w K mg base Γ 1 "is_row" 1 F_is_row) (c_is_string : Cal P w K mg base Γ 3 "is_string" 2 F_is_string) : CalW P w K mg base Γ 4 F_Web := by
  obtain ⟨f, fd, FD, mk⟩ := F.ex
  refine calW_mk (N := N_Web) (ps := ["self", "coins", "strings"]) FD mk sc_Web rfl (FD.bindsN fun _ _ _ _ _ _ us hl => match us, hl with | [_, _, _], _ => rfl) (fun cdv A outer s H E hr => ?_)
  have nd := sc_Web.nd
  have hp := passes_of (X := cxOf (L2.CX P w) P w K mg base N_Web "Web.__init__" (defScope st_Web) f cdv A outer s H E) rfl
  have tk : Takes (cxOf (L2.CX P w) P w K mg base N_Web "Web.__init__" (defScope st_Web) f cdv A outer s H E) (WD E) := takes_of rfl rfl rfl rfl
  refine ⟨sem_Web, PSs.imp (ds_then (ds_if (pdt_not (pdt_tru (pd_call c_is_within (hr.mono (by decide)) tk (pda_cons (pd_var (pv 1)) (pda_cons (pd_int pe_int) (pda_cons (pd_gint T.c_MOST_COINS) pda_nil)))))) (ds_one (ds_raise (c := "BadCoins") T.box T.x_BadCoins (hr.mono (by decide)) tk (pd_var (pv 1)))) ds_nil)
    (ds_then (ds_if (pdt_w (pdw_or (pdt_not (pdt_tru (pd_call c_is_row (hr.mono (by decide)) tk (pda_cons (pd_var (pv 2)) pda_nil)))) (pdw_or1 (pdt_cmp op_gt od_gt (pd_callB cr_len cd_len T.b_len (by decide +kernel) (pda_cons (pd_var (pv 2)) pda_nil)) (pd_gint T.c_MOST_STRINGS) (nomark _))))) (ds_one (ds_raise (c := "BadStrings") T.box T.x_BadStrings (hr.mono (by decide)) tk (pd_un un_neg ud_neg (pd_int pe_int)))) ds_nil)
    (ds_then (ds_for hp rfl (di_enumA (by rfl) T.b_enumerate (pda_cons (pd_var (pv 2)) pda_nil)) (gd_tup rfl (gds_cons (gd_nm (pg_name (i := 3) nd rfl (by first | exact Or.inl rfl | exact Or.inr rfl))) (gds_cons (gd_nm (pg_name (i := 4) nd rfl (by first | exact Or.inl rfl | exact Or.inr rfl))) gds_nil))) (ds_one (ds_if (pdt_not (pdt_tru (pd_call c_is_string (hr.mono (by decide)) tk (pda_cons (pd_var (pv 4)) (pda_cons (pd_var (pv 1)) pda_nil))))) (ds_one (ds_raise (c := "BadStrings") T.box T.x_BadStrings (hr.mono (by decide)) tk (pd_var (pv 3)))) ds_nil)))
    (ps_init T.web rfl rfl rfl (by first | exact Or.inl rfl | exact Or.inr (Or.inl rfl) | exact Or.inr (Or.inr rfl)) (by first | exact Or.inl rfl | exact Or.inr (Or.inl rfl) | exact Or.inr (Or.inr rfl)) (by first | exact Or.inl rfl | exact Or.inr (Or.inl rfl) | exact Or.inr (Or.inr rfl)) T.b_tuple)))) fun Dn σ H h => ?_, fun x ds R hl => web_ok x ds R hl⟩
  exact then_imp2 h
end
end DL

set_option Elab.async false
set_option linter.all false
set_option maxRecDepth 100000
set_option maxHeartbeats 0
namespace DL
open PySem PySem.Spec L2
section
variable {P : Program} {w : World} {K : PySem.W.Frag} {mg : Str → Option Value} {base : Heap} {Γ : Ctx} {fI : Addr}
theorem sc_refused : FnScope ["ask", "e"] ["ask"] (defScope st__law_refused) := ⟨rfl, rfl, rfl, by decide +kernel, rfl, by decide +kernel, by decide +kernel⟩
theorem bind_refused {K : PySem.W.Frag} {g : Addr} {gd : FuncData} (FD : FunD K "_law_refused" "_law_refused" (defArgs st__law_refused) (defBody st__law_refused) (defScope st__law_refused) [] [] g gd) : L2.Binds K gd ["ask"] [] := FD.bindsN fun _ _ _ _ _ _ us hl => match us, hl with | [_], _ => rfl
theorem exm_refused (T : TT P w K mg base Γ fI) : ∀ c, (refW.lookup c).isSome = true → ∀ p ∈ refW, PySem.W.exmOne K (.ref (Γ.cls c)) (.ref (Γ.cls p.1)) = some (decide (c = p.1)) := fun c hc p hp => by
  obtain ⟨w, hw⟩ := Option.isSome_iff_exists.mp hc
  exact T.exm (c, w) (lookup_mem' hw) p hp
theorem gives_refused {X : Cx} (T : TT X.prog X.w X.K X.mg X.base Γ fI) {q : Str} (g : Addr) (cdg : Value) : LamX.GivesTo X ["ask", "e"] "_law_refused" (defScope st__law_refused) g cdg (defBody st__law_refused) "ask" q (TTref X.K (refW.map fun p => (Γ.cls p.1, p.2))) := by
  refine refused_gives (X := X) (sg := defScope st__law_refused) (ws := refW.map fun p => (Γ.cls p.1, p.2)) (by decide) rfl (fun s H => ?_)
  exact (.more ⟨rfl, by decide, .inl T.x_BadCoins.mgC⟩ (fun a oe cls d pn hz hf => clause_su (Z := (cxOf C8.CX0 X.prog X.w X.K X.mg X.base ["ask", "e"] "_law_refused" (defScope st__law_refused) g cdg X.A X.stack s H C8.E0).nox) T.x_BadCoins.xf T.x_BadCoins.noV rfl (Or.inl rfl) a oe cls d pn hz hf) (.more ⟨rfl, by decide, .inl T.x_BadStrings.mgC⟩ (fun a oe cls d pn hz hf => clause_su (Z := (cxOf C8.CX0 X.prog X.w X.K X.mg X.base ["ask", "e"] "_law_refused" (defScope st__law_refused) g cdg X.A X.stack s H C8.E0).nox) T.x_BadStrings.xf T.x_BadStrings.noV rfl (Or.inl rfl) a oe cls d pn hz hf) (.more ⟨rfl, by decide, .inl T.x_BadWeb.mgC⟩ (fun a oe cls d pn hz hf => clause_su (Z := (cxOf C8.CX0 X.prog X.w X.K X.mg X.base ["ask", "e"] "_law_refused" (defScope st__law_refused) g cdg X.A X.stack s H C8.E0).nox) T.x_BadWeb.xf T.x_BadWeb.noV rfl (Or.inl rfl) a oe cls d pn hz hf) (.more ⟨rfl, by decide, .inl T.x_BadStanding.mgC⟩ (fun a oe cls d pn hz hf => clause_su (Z := (cxOf C8.CX0 X.prog X.w X.K X.mg X.base ["ask", "e"] "_law_refused" (defScope st__law_refused) g cdg X.A X.stack s H C8.E0).nox) T.x_BadStanding.xf T.x_BadStanding.noV rfl (Or.inl rfl) a oe cls d pn hz hf) (.more ⟨rfl, by decide, .inl T.x_BadCoin.mgC⟩ (fun a oe cls d pn hz hf => clause_su (Z := (cxOf C8.CX0 X.prog X.w X.K X.mg X.base ["ask", "e"] "_law_refused" (defScope st__law_refused) g cdg X.A X.stack s H C8.E0).nox) T.x_BadCoin.xf T.x_BadCoin.noV rfl (Or.inl rfl) a oe cls d pn hz hf) .none)))))
theorem held_ask (T : TT P w K mg base Γ fI) (c_whole : Cal P w K mg base Γ 4 "whole" 1 F_whole) : ∀ (y : String) (q : Nat × (List D → M D)), (tab_ask Γ).lookup y = some q → Hld P w K mg base Γ 10 y q.1 q.2 := by
  intro y q h
  have h := lookup_mem' h
  simp only [tab_ask, List.mem_cons, List.not_mem_nil, or_false, Prod.mk.injEq] at h
  rcases h with ⟨rfl, rfl⟩
  · exact (c_whole).hld T.l_whole T.g_whole
end
def lamsE : Nat → Expr → List (Arguments × Expr × Scope)
  | 0, _ => []
  | n + 1, .Lambda p b s _ => [(p, b, s)]
  | n + 1, .List es _ => es.flatMap (lamsE n)
  | n + 1, .BinOp a _ b _ => lamsE n a ++ lamsE n b
  | _, _ => []
def lamsS : Stmt → List (Arguments × Expr × Scope)
  | .Assign _ e _ => lamsE 5 e
  | .For _ e _ _ _ => lamsE 5 e
  | _ => []
def lamAt (k : Nat) : Arguments × Expr × Scope := ((defBody st_law).flatMap lamsS).getD k (defArgs st_law, .Constant .none 0 ⟨0, 0, 0, 0⟩, defScope st_law)
def lamM (k : Nat) (cells : List (Str × Addr)) : LamF := fun c' => (⟨"<lambda>", (("law" : Str) ++ ".<locals>.") ++ "<lambda>", (lamAt k).1, [], (lamAt k).2.2, cloFrom cells (lamAt k).2.2.names [], c'⟩, (lamAt k).2.1)
def lamT (cells : List (Str × Addr)) : String → Option LamF := fun x => if x = "λ0" then some (lamM 0 cells) else if x = "λ1" then some (lamM 1 cells) else none
noncomputable def lents_ask (Γ : Ctx) (cells : List (Str × Addr)) : List LEnt := [⟨"λ0", lamM 0 cells, cloFrom cells (lamAt 0).2.2.names [], ["thing"], [], [], G_lam0 Γ⟩, ⟨"λ1", lamM 1 cells, cloFrom cells (lamAt 1).2.2.names [], ["thing"], ["wrong", "none"], [10, 11], G_lam1 Γ⟩]
section
variable {P : Program} {w : World} {K : PySem.W.Frag} {mg : Str → Option Value} {base : Heap} {Γ : Ctx} {fI : Addr}
theorem caps_ask {X : Cx} (hs : X.env.scope = defScope st_law) (hN : X.N = N_law) {cells : List (Str × Addr)} (hc : X.env.cells = cells) : ∀ t ∈ lents_ask Γ cells, X.Ok → NdefX.Caps X t.cl t.fr t.js := by
  intro t ht ok
  subst hc
  simp only [lents_ask, List.mem_cons, List.not_mem_nil, or_false] at ht
  rcases ht with rfl | rfl
  · exact NdefX.Caps.made ok (by rw [hs]; exact NdefX.ndef_free (sc := defScope st_law) (nsc := (lamAt 0).2.2) (fr := []) (by decide +kernel)) (NdefX.ndef_fr (sc := defScope st_law) (nsc := (lamAt 0).2.2) (fr := []) (by decide +kernel)) (by rw [hN]; rfl)
  · exact NdefX.Caps.made ok (by rw [hs]; exact NdefX.ndef_free (sc := defScope st_law) (nsc := (lamAt 1).2.2) (fr := []) (by decide +kernel)) (NdefX.ndef_fr (sc := defScope st_law) (nsc := (lamAt 1).2.2) (fr := ["wrong", "none"]) (by decide +kernel)) (by rw [hN]; rfl)
theorem lok_0 (T : TT P w K mg base Γ fI) {cells : List (Str × Addr)} (lamH : Γ.lam = lamT cells) (c_is_standing : Cal P w K mg base Γ 4 "is_standing" 2 F_is_standing) (c_strings_of : Cal P w K mg base Γ 6 "strings_of" 3 F_strings_of) : LEOk P w K mg base Γ 10 ⟨"λ0", lamM 0 cells, cloFrom cells (lamAt 0).2.2.names [], ["thing"], [], [], G_lam0 Γ⟩ := by
  refine ⟨by rw [lamH]; rfl, fun _ => rfl, fun c' => LOk.mono (lok_of (k := 4) (N := ["thing"]) (NdefX.nscope_by (show NdefX.nscB ["thing"] ["thing"] [] (lamAt 0).2.2 = true from by decide +kernel)) (fun pm ctv us hl => match us, hl with | [_], _ => rfl) (fun ws vs H Q E h => ?_) (fun f A outer s H vs ws Q E hr hw h => ?_)) (by decide)⟩
  · obtain ⟨ds, _, _, _, r, hn, _⟩ := h
    rw [r.length, hn]
  · have hw2 : ws.length = 0 := hw
    have tk : Takes (NdefX.ncx (L2.CX P w) P w K mg base ["thing"] (lamM 0 cells c').1 f A outer s H E) (WD E) := takes_of rfl rfl rfl rfl
    exact ⟨_, (pd_call c_is_standing (hr.mono (by decide)) tk (pda_cons (pd_var (pv 0)) (pda_cons (pd_tup pda_nil) pda_nil))), lam_imp (by rw [hw2]; rfl) h⟩
theorem lok_1 (T : TT P w K mg base Γ fI) {cells : List (Str × Addr)} (lamH : Γ.lam = lamT cells) (c_is_standing : Cal P w K mg base Γ 4 "is_standing" 2 F_is_standing) (c_strings_of : Cal P w K mg base Γ 6 "strings_of" 3 F_strings_of) : LEOk P w K mg base Γ 10 ⟨"λ1", lamM 1 cells, cloFrom cells (lamAt 1).2.2.names [], ["thing"], ["wrong", "none"], [10, 11], G_lam1 Γ⟩ := by
  refine ⟨by rw [lamH]; rfl, fun _ => rfl, fun c' => LOk.mono (lok_of (k := 6) (N := ["thing", "wrong", "none"]) (NdefX.nscope_by (show NdefX.nscB ["thing", "wrong", "none"] ["thing"] ["wrong", "none"] (lamAt 1).2.2 = true from by decide +kernel)) (fun pm ctv us hl => match us, hl with | [_], _ => rfl) (fun ws vs H Q E h => ?_) (fun f A outer s H vs ws Q E hr hw h => ?_)) (by decide)⟩
  · obtain ⟨ds, _, _, _, r, hn, _⟩ := h
    rw [r.length, hn]
  · have hw2 : ws.length = 2 := hw
    have tk : Takes (NdefX.ncx (L2.CX P w) P w K mg base ["thing", "wrong", "none"] (lamM 1 cells c').1 f A outer s H E) (WD E) := takes_of rfl rfl rfl rfl
    exact ⟨_, (pd_call c_strings_of (hr.mono (by decide)) tk (pda_cons (pd_var (pv 0)) (pda_cons (pd_var (pv 1)) (pda_cons (pd_var (pv 2)) pda_nil)))), lam_imp (by rw [hw2]; rfl) h⟩
theorem lok_ask (T : TT P w K mg base Γ fI) {cells : List (Str × Addr)} (lamH : Γ.lam = lamT cells) (c_is_standing : Cal P w K mg base Γ 4 "is_standing" 2 F_is_standing) (c_strings_of : Cal P w K mg base Γ 6 "strings_of" 3 F_strings_of) : ∀ t ∈ lents_ask Γ cells, LEOk P w K mg base Γ 10 t := by
  intro t ht
  simp only [lents_ask, List.mem_cons, List.not_mem_nil, or_false] at ht
  rcases ht with rfl | rfl
  · exact lok_0 T lamH c_is_standing c_strings_of
  · exact lok_1 T lamH c_is_standing c_strings_of
theorem sc_law : FnScope N_law ["script"] (defScope st_law) := ⟨rfl, rfl, rfl, by decide +kernel, rfl, by decide +kernel, by decide +kernel⟩
theorem law_walk (T : TT P w K mg base Γ fI) (c__law_web : Cal P w K mg base Γ 4 "_law_web" 2 (F__law_web Γ)) (c_Web : CalW P w K mg base Γ 4 F_Web) (c__law_pick : Cal P w K mg base Γ 2 "_law_pick" 2 (F__law_pick Γ)) (c__law_alike : Cal P w K mg base Γ 9 "_law_alike" 2 (FR__law_alike 8)) (c_whole : Cal P w K mg base Γ 4 "whole" 1 F_whole) (c__law_some : Cal P w K mg base Γ 2 "_law_some" 2 (F__law_some Γ)) (c_is_standing : Cal P w K mg base Γ 4 "is_standing" 2 F_is_standing) (c__law_at : Cal P w K mg base Γ 1 "_law_at" 3 F__law_at) (c_open_coins : Cal P w K mg base Γ 6 "open_coins" 2 F_open_coins) (c_strings_of : Cal P w K mg base Γ 6 "strings_of" 3 F_strings_of) (c__law_bad_standing : Cal P w K mg base Γ 3 "_law_bad_standing" 2 (F__law_bad_standing Γ)) (c__law_bad_web : Cal P w K mg base Γ 3 "_law_bad_web" 1 (F__law_bad_web Γ)) (c__law_wrong_strings : Cal P w K mg base Γ 3 "_law_wrong_strings" 2 (F__law_wrong_strings Γ)) {f cd tab : Addr} {cdv : Value} {st : Shared} {H : Hp} (hown0 : Γ.own = []) (lamH : Γ.lam = lamT (PyProof.Rows.envOfC "law" (defScope st_law) st.heap.objs.size f cdv).cells) (hcd : cdv = .ref cd) (TB : LamX.TabB base mg cd tab) (tabs : Γ.tabs = [(tab, (("law" : Str) ++ ".<locals>.") ++ ("<lambda>" : Str))])
    (hT : H tab = some (.tbl #[])) (hscr : SqL K H Γ.scr (Γ.cells.map V.int)) (hr : Room 13 (callerA.deeper (PyProof.Rows.envOfC "law" (defScope st_law) st.heap.objs.size f cdv)))
    (ok : ∀ q, ∃ R', sem_law Γ (startLaw N_law 1 q) (some ⟨q, 0, 313, 0⟩) = .rt (.bl true) R') :
    ∃ t, PSs (cxOf (L2.CX P w) P w K mg base N_law "law" (defScope st_law) f cdv callerA [] st H fun _ _ _ => False) (defBody st_law) t ∧ t { nx := fun _ H' => V.non = .bl true, rt := fun v _ => v = .bl true } (L2.start N_law [.ref Γ.scr]) H := by
  have nd := sc_law.nd
  have hp := passes_of (X := (cxOf (L2.CX P w) P w K mg base N_law "law" (defScope st_law) f cdv callerA [] st H fun _ _ _ => False)) rfl
  have tk : Takes (cxOf (L2.CX P w) P w K mg base N_law "law" (defScope st_law) f cdv callerA [] st H fun _ _ _ => False) (fun _ _ _ _ => False) := LamX.takes0
  have hgd : (callerA.deeper (PyProof.Rows.envOfC "law" (defScope st_law) st.heap.objs.size f cdv)).guards = some [] := rfl
  have hin : (tab, lamN (cxOf (L2.CX P w) P w K mg base N_law "law" (defScope st_law) f cdv callerA [] st H fun _ _ _ => False)) ∈ Γ.tabs := by rw [tabs]; exact List.mem_singleton.mpr rfl
  have honly : ∀ p ∈ Γ.tabs, p.1 = tab → p.2 = lamN (cxOf (L2.CX P w) P w K mg base N_law "law" (defScope st_law) f cdv callerA [] st H fun _ _ _ => False) := fun p hp _ => by
    rw [tabs] at hp
    rw [List.mem_singleton.mp hp]
    rfl
  refine ds_law (X := (cxOf (L2.CX P w) P w K mg base N_law "law" (defScope st_law) f cdv callerA [] st H fun _ _ _ => False)) (Γ := Γ) (N := N_law) (H := H) (vs := [.ref Γ.scr]) (i := 1) (sem := sem_law Γ) nd rfl rfl rfl (by first | exact Or.inl rfl | exact Or.inr (Or.inl rfl) | exact Or.inr (Or.inr rfl)) (by first | exact Or.inl rfl | exact Or.inr rfl) (by first | exact Or.inl rfl | exact Or.inr rfl) ?_ (hvs := rfl) (hown := hown0) (htab := fun p hp => by
    rw [tabs] at hp
    rw [List.mem_singleton.mp hp]
    exact .nil hT) (hscr := by rw [T.hK]; exact hscr) (ok := ok)
  exact (ds_cons (ds_asg (pd_call c__law_web (hr.mono (by decide)) tk (pda_cons (pd_var (pv 1)) (pda_cons (pd_int pe_int) pda_nil))) (gd_tup rfl (gds_cons (gd_nm (pg_name (i := 2) nd rfl (by first | exact Or.inl rfl | exact Or.inr rfl))) (gds_cons (gd_nm (pg_name (i := 3) nd rfl (by first | exact Or.inl rfl | exact Or.inr rfl))) gds_nil))))
      (ds_cons (ds_set (i := 4) nd rfl (by first | exact Or.inl rfl | exact Or.inr rfl) (pd_web T.web c_Web (hr.mono (by decide)) tk (pda_cons (pd_var (pv 2)) (pda_cons (pd_call c__law_pick (hr.mono (by decide)) tk (pda_cons (pd_var (pv 1)) (pda_cons (pd_lst (pda_cons (pd_var (pv 3)) (pda_cons (pd_callTy call_tuple_of cd_tuple T.b_tuple (by decide +kernel) (pda_cons (pd_var (pv 3)) pda_nil)) pda_nil))) pda_nil))) pda_nil))))
      (ds_cons (ds_set (i := 5) nd rfl (by first | exact Or.inl rfl | exact Or.inr rfl) (pd_callB cr_len cd_len T.b_len (by decide +kernel) (pda_cons (pd_var (pv 3)) pda_nil)))
      (ds_cons (ds_if (pdt_not (pdt_tru (pd_call c__law_alike (hr.mono (by decide)) tk (pda_cons (pd_lst (pda_cons (pd_coins T.web (pd_var (pv 4))) (pda_cons (pd_strings T.web (pd_var (pv 4))) (pda_cons (pd_call c_whole (hr.mono (by decide)) tk (pda_cons (pd_var (pv 4)) pda_nil)) pda_nil)))) (pda_cons (pd_lst (pda_cons (pd_var (pv 2)) (pda_cons (pd_callTy call_tuple_of cd_tuple T.b_tuple (by decide +kernel) (pda_cons (pd_var (pv 3)) pda_nil)) (pda_cons (pd_tupRg rfl T.b_tuple T.b_range (pd_var (pv 5))) pda_nil)))) pda_nil))))) (ds_one (ds_ret (pd_bl pe_bl))) ds_nil)
      (ds_cons (ds_for hp rfl (di_rng1 (by rfl) T.b_range (pda_cons (pd_int pe_int) pda_nil)) (gd_nm (pg_name (i := 6) nd rfl (by first | exact Or.inl rfl | exact Or.inr rfl))) (ds_cons (ds_set (i := 7) nd rfl (by first | exact Or.inl rfl | exact Or.inr rfl) (pd_call c__law_some (hr.mono (by decide)) tk (pda_cons (pd_var (pv 1)) (pda_cons (pd_var (pv 5)) pda_nil))))
      (ds_cons (ds_if (pdt_cmp op_notBl od_notB (pd_call c_is_standing (hr.mono (by decide)) tk (pda_cons (pd_var (pv 4)) (pda_cons (pd_var (pv 7)) pda_nil))) (pd_bl pe_bl) (nomark _)) (ds_one (ds_ret (pd_bl pe_bl))) ds_nil)
      (ds_cons (ds_setLc (i := 8) (own := [(("coin" : Str), 9)]) rfl nd rfl rfl (sw_true rfl rfl rfl (by decide +kernel)) (di_rng1 (by rfl) T.b_range (pda_cons (pd_var (pv 2)) pda_nil)) (blkOk_by (show blkC N_law (defScope st_law) _ _ = true from by decide +kernel)) (by decide) (fun _ _ _ _ _ => (gd_nm (pg_name (i := 9) nd rfl (by first | exact Or.inl rfl | exact Or.inr rfl)))) (fun _ _ _ _ _ => (dts_one (pdt_cmp (op_neD hr.units) od_ne (pd_call c__law_at (hr.mono (by decide)) takes0 (pda_cons (pd_var (pv 3)) (pda_cons (pd_var (pv 7)) (pda_cons (pd_var (pv 9)) pda_nil)))) (pd_lst pda_nil) (nomark _)))) (fun _ _ _ _ _ => (pd_var (pv 9))))
      (ds_cons (ds_if (pdt_not (pdt_tru (pd_call c__law_alike (hr.mono (by decide)) tk (pda_cons (pd_call c_open_coins (hr.mono (by decide)) tk (pda_cons (pd_var (pv 4)) (pda_cons (pd_var (pv 7)) pda_nil))) (pda_cons (pd_callTy call_tuple_of cd_tuple T.b_tuple (by decide +kernel) (pda_cons (pd_var (pv 8)) pda_nil)) pda_nil))))) (ds_one (ds_ret (pd_bl pe_bl))) ds_nil)
      (ds_one (ds_for hp rfl (di_rng1 (by rfl) T.b_range (pda_cons (pd_var (pv 2)) pda_nil)) (gd_nm (pg_name (i := 9) nd rfl (by first | exact Or.inl rfl | exact Or.inr rfl))) (ds_one (ds_if (pdt_not (pdt_tru (pd_call c__law_alike (hr.mono (by decide)) tk (pda_cons (pd_call c_strings_of (hr.mono (by decide)) tk (pda_cons (pd_var (pv 4)) (pda_cons (pd_var (pv 7)) (pda_cons (pd_var (pv 9)) pda_nil)))) (pda_cons (pd_callTy call_tuple_of cd_tuple T.b_tuple (by decide +kernel) (pda_cons (pd_call c__law_at (hr.mono (by decide)) tk (pda_cons (pd_var (pv 3)) (pda_cons (pd_var (pv 7)) (pda_cons (pd_var (pv 9)) pda_nil)))) pda_nil)) pda_nil))))) (ds_one (ds_ret (pd_bl pe_bl))) ds_nil)))))))))
      (ds_cons (ds_set (i := 10) nd rfl (by first | exact Or.inl rfl | exact Or.inr rfl) (pd_call c__law_bad_standing (hr.mono (by decide)) tk (pda_cons (pd_var (pv 1)) (pda_cons (pd_var (pv 5)) pda_nil))))
      (ds_cons (ds_if (pdt_w (pdw_or (pdt_cmp op_notBl od_notB (pd_call c_is_standing (hr.mono (by decide)) tk (pda_cons (pd_var (pv 4)) (pda_cons (pd_var (pv 10)) pda_nil))) (pd_bl pe_bl) (nomark _)) (pdw_or1 (pdt_cmp (op_neD hr.units) od_ne (pd_repr hr.units hgd T.b_repr (pda_cons (pd_ref (k := 10) T.refd sc_refused (by first | exact Or.inl rfl | exact Or.inr (Or.inl rfl) | exact Or.inr (Or.inr rfl)) bind_refused (gives_refused T) (exm_refused T) TB hcd hin honly (hr.mono (by decide)) (LamX.lamS_by (show LamX.lamSB (defScope st_law) _ = true from by decide +kernel)) (fun A outer s H E f c' hr2 => (pd_call c_open_coins (hr2.mono (by decide)) takes_lam (pda_cons (pd_var (pv 4)) (pda_cons (pd_var (pv 10)) pda_nil))))) pda_nil)) (pd_repr hr.units hgd T.b_repr (pda_cons (pd_tup (pda_cons (pd_str pe_str) (pda_cons (pd_var (pv 10)) pda_nil))) pda_nil)) (nomark _))))) (ds_one (ds_ret (pd_bl pe_bl))) ds_nil)
      (ds_cons (ds_set (i := 11) nd rfl (by first | exact Or.inl rfl | exact Or.inr rfl) (pd_call c__law_pick (hr.mono (by decide)) tk (pda_cons (pd_var (pv 1)) (pda_cons (pd_lst (pda_cons (pd_var (pv 2)) (pda_cons (pd_op op_sub od_sub (pd_int pe_int) (pd_int pe_int)) (pda_cons (pd_non pe_non) (pda_cons (pd_str pe_str) (pda_cons (pd_op op_pow od_pow (pd_int pe_int) (pd_int pe_int)) (pda_cons (pd_tup (pda_cons (pd_int pe_int) pda_nil)) pda_nil))))))) pda_nil))))
      (ds_cons (ds_if (pdt_cmp (op_neD hr.units) od_ne (pd_repr hr.units hgd T.b_repr (pda_cons (pd_ref (k := 10) T.refd sc_refused (by first | exact Or.inl rfl | exact Or.inr (Or.inl rfl) | exact Or.inr (Or.inr rfl)) bind_refused (gives_refused T) (exm_refused T) TB hcd hin honly (hr.mono (by decide)) (LamX.lamS_by (show LamX.lamSB (defScope st_law) _ = true from by decide +kernel)) (fun A outer s H E f c' hr2 => (pd_call c_strings_of (hr2.mono (by decide)) takes_lam (pda_cons (pd_var (pv 4)) (pda_cons (pd_tup pda_nil) (pda_cons (pd_var (pv 11)) pda_nil)))))) pda_nil)) (pd_repr hr.units hgd T.b_repr (pda_cons (pd_tup (pda_cons (pd_str pe_str) (pda_cons (pd_var (pv 11)) pda_nil))) pda_nil)) (nomark _)) (ds_one (ds_ret (pd_bl pe_bl))) ds_nil)
      (ds_cons (ds_if (pdt_cmp (op_neD hr.units) od_ne (pd_repr hr.units hgd T.b_repr (pda_cons (pd_ref (k := 10) T.refd sc_refused (by first | exact Or.inl rfl | exact Or.inr (Or.inl rfl) | exact Or.inr (Or.inr rfl)) bind_refused (gives_refused T) (exm_refused T) TB hcd hin honly (hr.mono (by decide)) (LamX.lamS_by (show LamX.lamSB (defScope st_law) _ = true from by decide +kernel)) (fun A outer s H E f c' hr2 => (pd_call c_strings_of (hr2.mono (by decide)) takes_lam (pda_cons (pd_var (pv 4)) (pda_cons (pd_var (pv 10)) (pda_cons (pd_var (pv 11)) pda_nil)))))) pda_nil)) (pd_repr hr.units hgd T.b_repr (pda_cons (pd_tup (pda_cons (pd_str pe_str) (pda_cons (pd_var (pv 10)) pda_nil))) pda_nil)) (nomark _)) (ds_one (ds_ret (pd_bl pe_bl))) ds_nil)
      (ds_cons (ds_set (i := 12) nd rfl (by first | exact Or.inl rfl | exact Or.inr rfl) (pd_call c__law_bad_web (hr.mono (by decide)) tk (pda_cons (pd_var (pv 1)) pda_nil)))
      (ds_cons (ds_set (i := 13) nd rfl (by first | exact Or.inl rfl | exact Or.inr rfl) (pd_lst (pda_cons (pd_fnG T.l_whole T.g_whole) (pda_cons (pd_lam (x := "λ0") (by rw [lamH]; rfl) TB hcd hin honly (NdefX.ndef_free (sc := defScope st_law) (nsc := (lamAt 0).2.2) (fr := []) (by decide +kernel))) pda_nil))))
      (ds_cons (ds_for hp rfl (di_seq (pd_op op_plus od_plus (pd_var (pv 13)) (pd_lst (pda_cons (pd_lam (x := "λ1") (by rw [lamH]; rfl) TB hcd hin honly (NdefX.ndef_free (sc := defScope st_law) (nsc := (lamAt 1).2.2) (fr := []) (by decide +kernel))) pda_nil)))) (gd_nm (pg_name (i := 14) nd rfl (by first | exact Or.inl rfl | exact Or.inr rfl))) (ds_one (ds_if (pdt_cmp (op_neD hr.units) od_ne (pd_repr hr.units hgd T.b_repr (pda_cons (pd_refL (k := 10) (i := 14) (lt := lents_ask Γ (PyProof.Rows.envOfC "law" (defScope st_law) st.heap.objs.size f cdv).cells) T.refd sc_refused (by first | exact Or.inl rfl | exact Or.inr (Or.inl rfl) | exact Or.inr (Or.inr rfl)) bind_refused (gives_refused T) (exm_refused T) TB hcd hin honly (hr.mono (by decide)) (LamX.lamS_by (show LamX.lamSB (defScope st_law) _ = true from by decide +kernel)) (held_ask T c_whole) (lok_ask T lamH c_is_standing c_strings_of) (caps_ask rfl rfl rfl) rfl (by first | exact Or.inl rfl | exact Or.inr (Or.inl rfl) | exact Or.inr (Or.inr rfl)) (fun A outer s H E f c' hr2 => (pda_cons (pd_var (pv 12)) pda_nil))) pda_nil)) (pd_repr hr.units hgd T.b_repr (pda_cons (pd_tup (pda_cons (pd_str pe_str) (pda_cons (pd_var (pv 12)) pda_nil))) pda_nil)) (nomark _)) (ds_one (ds_ret (pd_bl pe_bl))) ds_nil)))
      (ds_cons (ds_set (i := 15) nd rfl (by first | exact Or.inl rfl | exact Or.inr rfl) (pd_call c__law_pick (hr.mono (by decide)) tk (pda_cons (pd_var (pv 1)) (pda_cons (pd_lst (pda_cons (pd_int pe_int) (pda_cons (pd_int pe_int) (pda_cons (pd_op op_sub od_sub (pd_int pe_int) (pd_int pe_int)) (pda_cons (pd_non pe_non) (pda_cons (pd_bl pe_bl) (pda_cons (pd_str pe_str) (pda_cons (pd_tup (pda_cons (pd_int pe_int) pda_nil)) (pda_cons (pd_op op_pow od_pow (pd_int pe_int) (pd_int pe_int)) pda_nil))))))))) pda_nil))))
      (ds_cons (ds_if (pdt_cmp (op_neD hr.units) od_ne (pd_repr hr.units hgd T.b_repr (pda_cons (pd_ref (k := 10) T.refd sc_refused (by first | exact Or.inl rfl | exact Or.inr (Or.inl rfl) | exact Or.inr (Or.inr rfl)) bind_refused (gives_refused T) (exm_refused T) TB hcd hin honly (hr.mono (by decide)) (LamX.lamS_by (show LamX.lamSB (defScope st_law) _ = true from by decide +kernel)) (fun A outer s H E f c' hr2 => (pd_web T.web c_Web (hr2.mono (by decide)) takes_lam (pda_cons (pd_var (pv 15)) (pda_cons (pd_non pe_non) pda_nil))))) pda_nil)) (pd_repr hr.units hgd T.b_repr (pda_cons (pd_tup (pda_cons (pd_str pe_str) (pda_cons (pd_var (pv 15)) pda_nil))) pda_nil)) (nomark _)) (ds_one (ds_ret (pd_bl pe_bl))) ds_nil)
      (ds_cons (ds_if (pdt_cmp (op_neD hr.units) od_ne (pd_ref (k := 10) T.refd sc_refused (by first | exact Or.inl rfl | exact Or.inr (Or.inl rfl) | exact Or.inr (Or.inr rfl)) bind_refused (gives_refused T) (exm_refused T) TB hcd hin honly (hr.mono (by decide)) (LamX.lamS_by (show LamX.lamSB (defScope st_law) _ = true from by decide +kernel)) (fun A outer s H E f c' hr2 => (pd_web T.web c_Web (hr2.mono (by decide)) takes_lam (pda_cons (pd_var (pv 2)) (pda_cons (pd_call c__law_pick (hr2.mono (by decide)) takes_lam (pda_cons (pd_var (pv 1)) (pda_cons (pd_lst (pda_cons (pd_non pe_non) (pda_cons (pd_int pe_int) (pda_cons (pd_str pe_str) (pda_cons pd_dic (pda_cons (pd_op op_times od_times (pd_lst (pda_cons (pd_tup (pda_cons (pd_int pe_int) (pda_cons (pd_op op_sub od_sub (pd_int pe_int) (pd_int pe_int)) pda_nil))) pda_nil)) (pd_int pe_int)) pda_nil)))))) pda_nil))) pda_nil))))) (pd_tup (pda_cons (pd_str pe_str) (pda_cons (pd_op op_sub od_sub (pd_int pe_int) (pd_int pe_int)) pda_nil))) (nomark _)) (ds_one (ds_ret (pd_bl pe_bl))) ds_nil)
      (ds_cons (ds_asg (pd_call c__law_wrong_strings (hr.mono (by decide)) tk (pda_cons (pd_var (pv 1)) (pda_cons (pd_var (pv 2)) pda_nil))) (gd_tup rfl (gds_cons (gd_nm (pg_name (i := 16) nd rfl (by first | exact Or.inl rfl | exact Or.inr rfl))) (gds_cons (gd_nm (pg_name (i := 17) nd rfl (by first | exact Or.inl rfl | exact Or.inr rfl))) gds_nil))))
      (ds_one (ds_ret (pd_cmp (op_eqD hr.units) od_eq (pd_ref (k := 10) T.refd sc_refused (by first | exact Or.inl rfl | exact Or.inr (Or.inl rfl) | exact Or.inr (Or.inr rfl)) bind_refused (gives_refused T) (exm_refused T) TB hcd hin honly (hr.mono (by decide)) (LamX.lamS_by (show LamX.lamSB (defScope st_law) _ = true from by decide +kernel)) (fun A outer s H E f c' hr2 => (pd_web T.web c_Web (hr2.mono (by decide)) takes_lam (pda_cons (pd_var (pv 2)) (pda_cons (pd_var (pv 16)) pda_nil))))) (pd_tup (pda_cons (pd_str pe_str) (pda_cons (pd_var (pv 17)) pda_nil))) (nomark _)))))))))))))))))))))
end
end DL

set_option Elab.async false
set_option linter.all false
set_option maxRecDepth 100000
set_option maxHeartbeats 0
namespace DL
open PySem PySem.Spec L2
def dd_coins_at : He.DefD := ⟨("Web", some "coins_at"), "coins_at", "Web.coins_at", defArgs st_coins_at, defBody st_coins_at, defScope st_coins_at, [], []⟩
def dd_counts : He.DefD := ⟨("Web", some "counts"), "counts", "Web.counts", defArgs st_counts, defBody st_counts, defScope st_counts, [], []⟩
def dd_is_integer : He.DefD := ⟨("is_integer", none), "is_integer", "is_integer", defArgs st_is_integer, defBody st_is_integer, defScope st_is_integer, [], []⟩
def dd_is_within : He.DefD := ⟨("is_within", none), "is_within", "is_within", defArgs st_is_within, defBody st_is_within, defScope st_is_within, [], []⟩
def dd_is_row : He.DefD := ⟨("is_row", none), "is_row", "is_row", defArgs st_is_row, defBody st_is_row, defScope st_is_row, [], []⟩
def dd_is_rising : He.DefD := ⟨("is_rising", none), "is_rising", "is_rising", defArgs st_is_rising, defBody st_is_rising, defScope st_is_rising, [], []⟩
def dd_is_string : He.DefD := ⟨("is_string", none), "is_string", "is_string", defArgs st_is_string, defBody st_is_string, defScope st_is_string, [], []⟩
def dd_need_web : He.DefD := ⟨("need_web", none), "need_web", "need_web", defArgs st_need_web, defBody st_need_web, defScope st_need_web, [], []⟩
def dd_whole : He.DefD := ⟨("whole", none), "whole", "whole", defArgs st_whole, defBody st_whole, defScope st_whole, [], []⟩
def dd_is_standing : He.DefD := ⟨("is_standing", none), "is_standing", "is_standing", defArgs st_is_standing, defBody st_is_standing, defScope st_is_standing, [], []⟩
def dd_need_standing : He.DefD := ⟨("need_standing", none), "need_standing", "need_standing", defArgs st_need_standing, defBody st_need_standing, defScope st_need_standing, [], []⟩
def dd_need_coin : He.DefD := ⟨("need_coin", none), "need_coin", "need_coin", defArgs st_need_coin, defBody st_need_coin, defScope st_need_coin, [], []⟩
def dd_strings_of : He.DefD := ⟨("strings_of", none), "strings_of", "strings_of", defArgs st_strings_of, defBody st_strings_of, defScope st_strings_of, [], []⟩
def dd_open_coins : He.DefD := ⟨("open_coins", none), "open_coins", "open_coins", defArgs st_open_coins, defBody st_open_coins, defScope st_open_coins, [], []⟩
def dd__law_taken : He.DefD := ⟨("_law_taken", none), "_law_taken", "_law_taken", defArgs st__law_taken, defBody st__law_taken, defScope st__law_taken, [], []⟩
def dd__law_pick : He.DefD := ⟨("_law_pick", none), "_law_pick", "_law_pick", defArgs st__law_pick, defBody st__law_pick, defScope st__law_pick, [], []⟩
def dd__law_alike : He.DefD := ⟨("_law_alike", none), "_law_alike", "_law_alike", defArgs st__law_alike, defBody st__law_alike, defScope st__law_alike, [], []⟩
def dd__law_string : He.DefD := ⟨("_law_string", none), "_law_string", "_law_string", defArgs st__law_string, defBody st__law_string, defScope st__law_string, [], []⟩
def dd__law_strings : He.DefD := ⟨("_law_strings", none), "_law_strings", "_law_strings", defArgs st__law_strings, defBody st__law_strings, defScope st__law_strings, [], []⟩
def dd__law_web : He.DefD := ⟨("_law_web", none), "_law_web", "_law_web", defArgs st__law_web, defBody st__law_web, defScope st__law_web, [], []⟩
def dd__law_some : He.DefD := ⟨("_law_some", none), "_law_some", "_law_some", defArgs st__law_some, defBody st__law_some, defScope st__law_some, [], []⟩
def dd__law_at : He.DefD := ⟨("_law_at", none), "_law_at", "_law_at", defArgs st__law_at, defBody st__law_at, defScope st__law_at, [], []⟩
def dd__law_bad_web : He.DefD := ⟨("_law_bad_web", none), "_law_bad_web", "_law_bad_web", defArgs st__law_bad_web, defBody st__law_bad_web, defScope st__law_bad_web, [], []⟩
def dd__law_bad_standing : He.DefD := ⟨("_law_bad_standing", none), "_law_bad_standing", "_law_bad_standing", defArgs st__law_bad_standing, defBody st__law_bad_standing, defScope st__law_bad_standing, [], []⟩
def dd__law_wrong_strings : He.DefD := ⟨("_law_wrong_strings", none), "_law_wrong_strings", "_law_wrong_strings", defArgs st__law_wrong_strings, defBody st__law_wrong_strings, defScope st__law_wrong_strings, [], []⟩
def dd_Web : He.DefD := ⟨("Web", some "__init__"), "__init__", "Web.__init__", defArgs st_Web, defBody st_Web, defScope st_Web, [], []⟩
def dd__law_refused : He.DefD := ⟨("_law_refused", none), "_law_refused", "_law_refused", defArgs st__law_refused, defBody st__law_refused, defScope st__law_refused, [], []⟩
def dd_law : He.DefD := ⟨("law", none), "law", "law", defArgs st_law, defBody st_law, defScope st_law, [], []⟩
def dd_Box : He.DefD := ⟨("BoxError", some "__init__"), "__init__", "BoxError.__init__", defArgs st_Box, defBody st_Box, defScope st_Box, [.non], []⟩
def fnL : List He.DefD := [dd_coins_at, dd_counts, dd_is_integer, dd_is_within, dd_is_row, dd_is_rising, dd_is_string, dd_need_web, dd_whole, dd_is_standing, dd_need_standing, dd_need_coin, dd_strings_of, dd_open_coins, dd__law_taken, dd__law_pick, dd__law_alike, dd__law_string, dd__law_strings, dd__law_web, dd__law_some, dd__law_at, dd__law_bad_web, dd__law_bad_standing, dd__law_wrong_strings, dd_Web, dd__law_refused, dd_law, dd_Box]
def faL : List He.Fa := [He.Fa.glo "is_integer", He.Fa.glo "is_within", He.Fa.glo "is_row", He.Fa.glo "is_rising", He.Fa.glo "is_string", He.Fa.glo "need_web", He.Fa.glo "whole", He.Fa.glo "is_standing", He.Fa.glo "need_standing", He.Fa.glo "need_coin", He.Fa.glo "strings_of", He.Fa.glo "open_coins", He.Fa.glo "_law_taken", He.Fa.glo "_law_pick", He.Fa.glo "_law_alike", He.Fa.glo "_law_string", He.Fa.glo "_law_strings", He.Fa.glo "_law_web", He.Fa.glo "_law_some", He.Fa.glo "_law_at", He.Fa.glo "_law_bad_web", He.Fa.glo "_law_bad_standing", He.Fa.glo "_law_wrong_strings", He.Fa.glo "_law_refused", He.Fa.glo "law", He.Fa.glo "BoxError", He.Fa.glo "BadCoins", He.Fa.glo "BadStrings", He.Fa.glo "BadWeb", He.Fa.glo "BadStanding", He.Fa.glo "BadCoin", He.Fa.free "len", He.Fa.free "list", He.Fa.free "tuple", He.Fa.free "int", He.Fa.free "str", He.Fa.free "range", He.Fa.free "enumerate", He.Fa.free "zip", He.Fa.free "isinstance", He.Fa.free "all", He.Fa.free "max", He.Fa.free "min", He.Fa.free "repr", He.Fa.free "bool", He.Fa.free "dict", He.Fa.int "MOST_COINS" (9), He.Fa.int "MOST_STRINGS" (12), He.Fa.int "GROUND" (-1), He.Fa.glo "Web", He.Fa.cls "Web", He.Fa.noat "Web" "coins", He.Fa.noat "Web" "strings", He.Fa.noat "Web" "worths", He.Fa.meth "Web" "coins_at", He.Fa.meth "Web" "counts", He.Fa.mkr "Web"]
def errsL : List String := ["BadCoins", "BadStrings", "BadWeb", "BadStanding", "BadCoin"]
def exL (K : PySem.W.Frag) : Bool := webB K (He.ga K "Web") && (errsL.all (fun c => errB K (Str.ofString c)) && (decide (PySem.W.typeIn K (.ref (He.fAd K ("BoxError", some "__init__"))) = some (.type "function")) && refW.all fun p => refW.all fun q => decide (PySem.W.exmOne K (.ref (He.ga K (Str.ofString p.1))) (.ref (He.ga K (Str.ofString q.1))) = some (decide (p.1 = q.1)))))
abbrev SayL := He.SaysX faL fnL [] [("law", none)] exL
section
variable {P : Program} {w : World} {K : PySem.W.Frag} {mg : Str → Option Value} {base h : Heap} {val : Int → List (Int × Int) → List Int → Int} {dv cn : List Int → Int} {own : List (Addr × (List Int → Int))} {lam : String → Option LamF} {a : Addr} {cells : List Int}
theorem sc_Box : FnScope ["self", "value"] ["self", "value"] (defScope st_Box) := ⟨rfl, rfl, rfl, by decide +kernel, rfl, by decide +kernel, by decide +kernel⟩
theorem tt_of (ln : ∀ x ∈ (["whole"] : List String), lam x = none) (X : K.In h) (G : h.Ns mainGlobals mg) (s : SayL w h K) : TT P w K mg base (mkΓ K val dv own cn a cells lam) (He.fAd K ("BoxError", some "__init__")) := by
  have c := He.SaysT.d s.t
  have more := s.more
  unfold exL at more
  obtain ⟨mW, more⟩ := Bool.and_eq_true_iff.mp more
  obtain ⟨mE, more⟩ := Bool.and_eq_true_iff.mp more
  obtain ⟨mT, mX⟩ := Bool.and_eq_true_iff.mp more
  obtain ⟨fdB, FB⟩ := c.def_ 28 (d := dd_Box) rfl
  have bB : L2.Binds K fdB ["self", "value"] [] := by
    obtain ⟨ds, r, b⟩ := FunD.binds1 (ps := ["self", "value"]) FB 2 1 (by simp [He.DefD.dvs, dd_Box]) (by simp [He.DefD.dvs, dd_Box]) (fun T kV doc pm an cdv ct us its hl hi => match us, its, hl, hi with | [_, _], [_], _, _ => ⟨_, rfl, rfl⟩)
    have e : ds = [] := by
      have r2 : Vals ([] : List V) ds := r
      cases r2
      rfl
    rw [e] at b
    exact b
  exact {
    hK := rfl
    b_len := He.free_ok X G (c.fact 31 (f := He.Fa.free "len") rfl)
    b_list := He.free_ok X G (c.fact 32 (f := He.Fa.free "list") rfl)
    b_tuple := He.free_ok X G (c.fact 33 (f := He.Fa.free "tuple") rfl)
    b_int := He.free_ok X G (c.fact 34 (f := He.Fa.free "int") rfl)
    b_str := He.free_ok X G (c.fact 35 (f := He.Fa.free "str") rfl)
    b_range := He.free_ok X G (c.fact 36 (f := He.Fa.free "range") rfl)
    b_enumerate := He.free_ok X G (c.fact 37 (f := He.Fa.free "enumerate") rfl)
    b_zip := He.free_ok X G (c.fact 38 (f := He.Fa.free "zip") rfl)
    b_isinstance := He.free_ok X G (c.fact 39 (f := He.Fa.free "isinstance") rfl)
    b_all := He.free_ok X G (c.fact 40 (f := He.Fa.free "all") rfl)
    b_max := He.free_ok X G (c.fact 41 (f := He.Fa.free "max") rfl)
    b_min := He.free_ok X G (c.fact 42 (f := He.Fa.free "min") rfl)
    b_repr := He.free_ok X G (c.fact 43 (f := He.Fa.free "repr") rfl)
    b_bool := He.free_ok X G (c.fact 44 (f := He.Fa.free "bool") rfl)
    b_dict := He.free_ok X G (c.fact 45 (f := He.Fa.free "dict") rfl)
    c_MOST_COINS := He.int_ok X G (c.fact 46 (f := He.Fa.int "MOST_COINS" (9)) rfl)
    c_MOST_STRINGS := He.int_ok X G (c.fact 47 (f := He.Fa.int "MOST_STRINGS" (12)) rfl)
    c_GROUND := He.int_ok X G (c.fact 48 (f := He.Fa.int "GROUND" (-1)) rfl)
    web := webF_of rfl (He.glo_ok X G (c.fact 49 (f := He.Fa.glo "Web") rfl)) (He.cls_ok (c.fact 50 (f := He.Fa.cls "Web") rfl)) (He.noat_ok (c.fact 51 (f := He.Fa.noat "Web" "coins") rfl)) (He.noat_ok (c.fact 52 (f := He.Fa.noat "Web" "strings") rfl)) (He.noat_ok (c.fact 53 (f := He.Fa.noat "Web" "worths") rfl)) mW
    box := boxI_mk FB sc_Box (Or.inl rfl) (Or.inl rfl) bB (of_decide_eq_true mT)
    x_BadCoins := errB_ok rfl (He.glo_ok X G (c.fact 26 (f := He.Fa.glo "BadCoins") rfl)) (List.all_eq_true.mp mE "BadCoins" (by simp [errsL]))
    x_BadStrings := errB_ok rfl (He.glo_ok X G (c.fact 27 (f := He.Fa.glo "BadStrings") rfl)) (List.all_eq_true.mp mE "BadStrings" (by simp [errsL]))
    x_BadWeb := errB_ok rfl (He.glo_ok X G (c.fact 28 (f := He.Fa.glo "BadWeb") rfl)) (List.all_eq_true.mp mE "BadWeb" (by simp [errsL]))
    x_BadStanding := errB_ok rfl (He.glo_ok X G (c.fact 29 (f := He.Fa.glo "BadStanding") rfl)) (List.all_eq_true.mp mE "BadStanding" (by simp [errsL]))
    x_BadCoin := errB_ok rfl (He.glo_ok X G (c.fact 30 (f := He.Fa.glo "BadCoin") rfl)) (List.all_eq_true.mp mE "BadCoin" (by simp [errsL]))
    g_whole := He.glo_ok X G (c.fact 6 (f := He.Fa.glo "whole") rfl)
    l_whole := ln "whole" (by simp)
    refd := by
      obtain ⟨fd, FD⟩ := c.def_ 26 (d := dd__law_refused) rfl
      exact ⟨_, fd, FD, He.glo_ok X G (c.fact 23 (f := He.Fa.glo "_law_refused") rfl)⟩
    exm := fun p hp q hq => of_decide_eq_true (List.all_eq_true.mp (List.all_eq_true.mp mX p hp) q hq) }
theorem law_runs (l : PySem.W.OpenLaw) {f : Addr} {cdv : Value} {st : Shared} {H : Hp} (hP : l.prog = P) (X : K.In h) (G : h.Ns mainGlobals mg) (s : SayL w h K) (hcd : cdv = .ref (He.cT K ("law", none)).1) (TB : LamX.TabB base mg (He.cT K ("law", none)).1 (He.cT K ("law", none)).2) (hT : H (He.cT K ("law", none)).2 = some (.tbl #[])) (hscr : SqL K H a (cells.map V.int))
    (hr : Room 13 (callerA.deeper (PyProof.Rows.envOfC "law" (defScope st_law) st.heap.objs.size f cdv))) (ok : ∀ q, ∃ R', sem_law (mkΓ K val dv [] cn a cells (lamT (PyProof.Rows.envOfC "law" (defScope st_law) st.heap.objs.size f cdv).cells)) (startLaw N_law 1 q) (some ⟨q, 0, 313, 0⟩) = .rt (.bl true) R') :
    ∃ t, PSs (cxOf (L2.CX P w) P w K mg base N_law "law" (defScope st_law) f cdv callerA [] st H fun _ _ _ => False) (defBody st_law) t ∧ t { nx := fun _ H' => V.non = .bl true, rt := fun v _ => v = .bl true } (L2.start N_law [.ref a]) H := by
  have c := He.SaysT.d s.t
  have T : TT P w K mg base (mkΓ K val dv [] cn a cells (lamT (PyProof.Rows.envOfC "law" (defScope st_law) st.heap.objs.size f cdv).cells)) (He.fAd K ("BoxError", some "__init__")) := tt_of (fun x hx => by
    simp only [List.mem_cons, List.not_mem_nil, or_false] at hx
    rcases hx with rfl <;> rfl) X G s
  have c__law_taken := cal__law_taken T (by obtain ⟨fd, FD⟩ := c.def_ 14 (d := dd__law_taken) rfl; exact ⟨_, fd, FD, He.glo_ok X G (c.fact 12 (f := He.Fa.glo "_law_taken") rfl)⟩)  
  have c__law_string := cal__law_string T (by obtain ⟨fd, FD⟩ := c.def_ 17 (d := dd__law_string) rfl; exact ⟨_, fd, FD, He.glo_ok X G (c.fact 15 (f := He.Fa.glo "_law_string") rfl)⟩) c__law_taken 
  have c__law_strings := cal__law_strings T (by obtain ⟨fd, FD⟩ := c.def_ 18 (d := dd__law_strings) rfl; exact ⟨_, fd, FD, He.glo_ok X G (c.fact 16 (f := He.Fa.glo "_law_strings") rfl)⟩) c__law_taken c__law_string 
  have c__law_web := cal__law_web T (by obtain ⟨fd, FD⟩ := c.def_ 19 (d := dd__law_web) rfl; exact ⟨_, fd, FD, He.glo_ok X G (c.fact 17 (f := He.Fa.glo "_law_web") rfl)⟩) c__law_taken c__law_strings 
  have c_is_integer := cal_is_integer T (by obtain ⟨fd, FD⟩ := c.def_ 2 (d := dd_is_integer) rfl; exact ⟨_, fd, FD, He.glo_ok X G (c.fact 0 (f := He.Fa.glo "is_integer") rfl)⟩)  
  have c_is_within := cal_is_within T (by obtain ⟨fd, FD⟩ := c.def_ 3 (d := dd_is_within) rfl; exact ⟨_, fd, FD, He.glo_ok X G (c.fact 1 (f := He.Fa.glo "is_within") rfl)⟩) c_is_integer 
  have c_is_row := cal_is_row T (by obtain ⟨fd, FD⟩ := c.def_ 4 (d := dd_is_row) rfl; exact ⟨_, fd, FD, He.glo_ok X G (c.fact 2 (f := He.Fa.glo "is_row") rfl)⟩)  
  have c_is_string := cal_is_string T (by obtain ⟨fd, FD⟩ := c.def_ 6 (d := dd_is_string) rfl; exact ⟨_, fd, FD, He.glo_ok X G (c.fact 4 (f := He.Fa.glo "is_string") rfl)⟩) c_is_within 
  have c_Web := cal_Web T (by obtain ⟨fd, FD⟩ := c.def_ 25 (d := dd_Web) rfl; exact ⟨_, fd, FD, He.mkr_ok (c.fact 56 (f := He.Fa.mkr "Web") rfl)⟩) c_is_within c_is_row c_is_string
  have c__law_pick := cal__law_pick T (by obtain ⟨fd, FD⟩ := c.def_ 15 (d := dd__law_pick) rfl; exact ⟨_, fd, FD, He.glo_ok X G (c.fact 13 (f := He.Fa.glo "_law_pick") rfl)⟩) c__law_taken 
  have c__law_alike := cal__law_alike T (by obtain ⟨fd, FD⟩ := c.def_ 16 (d := dd__law_alike) rfl; exact ⟨_, fd, FD, He.glo_ok X G (c.fact 14 (f := He.Fa.glo "_law_alike") rfl)⟩)   8
  have c_need_web := cal_need_web T (by obtain ⟨fd, FD⟩ := c.def_ 7 (d := dd_need_web) rfl; exact ⟨_, fd, FD, He.glo_ok X G (c.fact 5 (f := He.Fa.glo "need_web") rfl)⟩)  
  have c_whole := cal_whole T (by obtain ⟨fd, FD⟩ := c.def_ 8 (d := dd_whole) rfl; exact ⟨_, fd, FD, He.glo_ok X G (c.fact 6 (f := He.Fa.glo "whole") rfl)⟩) c_need_web 
  have c__law_some := cal__law_some T (by obtain ⟨fd, FD⟩ := c.def_ 20 (d := dd__law_some) rfl; exact ⟨_, fd, FD, He.glo_ok X G (c.fact 18 (f := He.Fa.glo "_law_some") rfl)⟩) c__law_taken 
  have c_is_rising := cal_is_rising T (by obtain ⟨fd, FD⟩ := c.def_ 5 (d := dd_is_rising) rfl; exact ⟨_, fd, FD, He.glo_ok X G (c.fact 3 (f := He.Fa.glo "is_rising") rfl)⟩) c_is_within 
  have c_is_standing := cal_is_standing T (by obtain ⟨fd, FD⟩ := c.def_ 9 (d := dd_is_standing) rfl; exact ⟨_, fd, FD, He.glo_ok X G (c.fact 7 (f := He.Fa.glo "is_standing") rfl)⟩) c_need_web c_is_rising 
  have c__law_at := cal__law_at T (by obtain ⟨fd, FD⟩ := c.def_ 21 (d := dd__law_at) rfl; exact ⟨_, fd, FD, He.glo_ok X G (c.fact 19 (f := He.Fa.glo "_law_at") rfl)⟩)  
  have c_need_standing := cal_need_standing T (by obtain ⟨fd, FD⟩ := c.def_ 10 (d := dd_need_standing) rfl; exact ⟨_, fd, FD, He.glo_ok X G (c.fact 8 (f := He.Fa.glo "need_standing") rfl)⟩) c_is_standing 
  have m_coins_at := cal_coins_at T (by obtain ⟨fd, FD⟩ := c.def_ 0 (d := dd_coins_at) rfl; exact ⟨_, fd, FD, He.meth_ok (c.fact 54 (f := He.Fa.meth "Web" "coins_at") rfl)⟩)  
  have m_counts := cal_counts T (by obtain ⟨fd, FD⟩ := c.def_ 1 (d := dd_counts) rfl; exact ⟨_, fd, FD, He.meth_ok (c.fact 55 (f := He.Fa.meth "Web" "counts") rfl)⟩)  m_coins_at
  have c_open_coins := cal_open_coins T (by obtain ⟨fd, FD⟩ := c.def_ 13 (d := dd_open_coins) rfl; exact ⟨_, fd, FD, He.glo_ok X G (c.fact 11 (f := He.Fa.glo "open_coins") rfl)⟩) c_need_standing m_counts
  have c_need_coin := cal_need_coin T (by obtain ⟨fd, FD⟩ := c.def_ 11 (d := dd_need_coin) rfl; exact ⟨_, fd, FD, He.glo_ok X G (c.fact 9 (f := He.Fa.glo "need_coin") rfl)⟩) c_is_within 
  have c_strings_of := cal_strings_of T (by obtain ⟨fd, FD⟩ := c.def_ 12 (d := dd_strings_of) rfl; exact ⟨_, fd, FD, He.glo_ok X G (c.fact 10 (f := He.Fa.glo "strings_of") rfl)⟩) c_need_standing c_need_coin 
  have c__law_bad_standing := cal__law_bad_standing T (by obtain ⟨fd, FD⟩ := c.def_ 23 (d := dd__law_bad_standing) rfl; exact ⟨_, fd, FD, He.glo_ok X G (c.fact 21 (f := He.Fa.glo "_law_bad_standing") rfl)⟩) c__law_pick 
  have c__law_bad_web := cal__law_bad_web T (by obtain ⟨fd, FD⟩ := c.def_ 22 (d := dd__law_bad_web) rfl; exact ⟨_, fd, FD, He.glo_ok X G (c.fact 20 (f := He.Fa.glo "_law_bad_web") rfl)⟩) c__law_pick 
  have c__law_wrong_strings := cal__law_wrong_strings T (by obtain ⟨fd, FD⟩ := c.def_ 24 (d := dd__law_wrong_strings) rfl; exact ⟨_, fd, FD, He.glo_ok X G (c.fact 22 (f := He.Fa.glo "_law_wrong_strings") rfl)⟩) c__law_taken c__law_pick 
  exact law_walk T c__law_web c_Web c__law_pick c__law_alike c_whole c__law_some c_is_standing c__law_at c_open_coins c_strings_of c__law_bad_standing c__law_bad_web c__law_wrong_strings rfl rfl hcd TB rfl hT hscr hr ok
end
abbrev RL : PySem.W.OpenRow := PySem.W.OpenLaw.row PySem.Challenge.rw_boxesclosed_k00_webs
def namesL : List Str := [("is_integer" : Str), ("is_within" : Str), ("is_row" : Str), ("is_rising" : Str), ("BoxError" : Str), ("BadCoins" : Str), ("BadStrings" : Str), ("BadWeb" : Str), ("BadStanding" : Str), ("BadCoin" : Str), ("MOST_COINS" : Str), ("MOST_STRINGS" : Str), ("GROUND" : Str), ("is_string" : Str), ("Web" : Str), ("need_web" : Str), ("whole" : Str), ("is_standing" : Str), ("need_standing" : Str), ("need_coin" : Str), ("strings_of" : Str), ("open_coins" : Str), ("_law_taken" : Str), ("_law_pick" : Str), ("_law_alike" : Str), ("_law_string" : Str), ("_law_strings" : Str), ("_law_web" : Str), ("_law_some" : Str), ("_law_at" : Str)] ++ [("_law_bad_web" : Str), ("_law_bad_standing" : Str), ("_law_wrong_strings" : Str), ("_law_refused" : Str)]
abbrev hkL : PySem.W.Hook := He.hookX 4 faL fnL [] [("law", none)] exL
def obL (s : PySem.W.SharedT) : He.AlX := He.obsX 4 faL fnL [] [("law", none)] exL (HandSHeadRun.getT s)
theorem obL_eq (s : PySem.W.SharedT) : obL s = hkL.obs s.abs := He.obsX_eq (HandSHeadRun.getT_eq s)
theorem runL (w : World) : HandSHeadRun.RunEq RL (PySem.W.view RL.prog [38]) hkL obL 12000 namesL w := by
  intro os
  kernel_rfl
end DL

set_option Elab.async false
set_option linter.all false
set_option maxRecDepth 100000
namespace DL
open PySem PySem.Spec L2
/-! ### webs, standings -/
structure GoodW (n : Int) (ss : List (Int × Int)) : Prop where
  n1 : 1 ≤ n
  n9 : n ≤ 9
  len : ss.length ≤ 12
  ok : ∀ p ∈ ss, 0 ≤ p.1 ∧ p.1 ≤ n - 1 ∧ ((p.1 + 1 ≤ p.2 ∧ p.2 ≤ n - 1) ∨ p.2 = -1)
theorem isStr2_pair {n : Int} {p : Int × Int} (h : 0 ≤ p.1 ∧ p.1 ≤ n - 1 ∧ ((p.1 + 1 ≤ p.2 ∧ p.2 ≤ n - 1) ∨ p.2 = -1)) : isStr2 (pairD p) n = true := by
  obtain ⟨h1, h2, h3⟩ := h
  simp [pairD, isStr2, within]
  omega
theorem firstBad_none {n : Int} : ∀ {ss : List (Int × Int)} (k : Int), (∀ p ∈ ss, isStr2 (pairD p) n = true) → firstBad n (ss.map pairD) k = none
  | [], _, _ => rfl
  | p :: ss, k, h => by
    rw [List.map_cons, firstBad, if_pos (h p List.mem_cons_self)]
    exact firstBad_none (k + 1) fun q hq => h q (List.mem_cons_of_mem _ hq)
theorem unpairs_map : ∀ ss : List (Int × Int), unpairs (ss.map pairD) = some ss
  | [] => rfl
  | p :: ss => by
    rw [List.map_cons]
    show (unpairs (ss.map pairD)).map ((p.1, p.2) :: ·) = _
    rw [unpairs_map ss]
    rfl
theorem pl2_pairs (ss : List (Int × Int)) : (ss.map pairD).all pl2 = true := by
  rw [List.all_eq_true]
  intro d hd
  obtain ⟨p, _, rfl⟩ := List.mem_map.mp hd
  simp [pairD, pl2, pl]
  decide
theorem small12 {k : Nat} (h : k ≤ 12) : k ≤ sizeLine := Nat.le_trans h (by decide)
theorem f_web {n : Int} {ss : List (Int × Int)} {s : D} {R : Option Rw} (g : GoodW n ss) (hs : seqD s = some (ss.map pairD)) : F_Web [.int n, s] R = .ok (.web n ss) R := by
  have hp : pl s = true := by cases s <;> first | rfl | cases hs
  have hw : within (.int n) 1 9 = true := by simp [within]; exact ⟨g.n1, g.n9⟩
  have e1 : (pl (.int n) && pl s) = true := by rw [hp]; rfl
  unfold F_Web
  simp only
  rw [if_pos e1, if_pos hw]
  simp only [hs]
  rw [if_pos ⟨pl2_pairs ss, by rw [List.length_map]; exact small12 g.len⟩, if_neg (by rw [List.length_map]; have := g.len; omega), firstBad_none 0 fun p hp => isStr2_pair (g.ok p hp)]
  simp only [unpairs_map]
def natD (st : List Nat) : List D := st.map fun (k : Nat) => D.int (k : Int)
structure StOk (m : Nat) (st : List Nat) : Prop where
  inc : st.Pairwise (· < ·)
  lt : ∀ k ∈ st, k < m
theorem StOk.nodup {m : Nat} {st : List Nat} (h : StOk m st) : st.Nodup := h.inc.imp fun h => Nat.ne_of_lt h
theorem StOk.filter {m : Nat} {st : List Nat} (h : StOk m st) (p : Nat → Bool) : StOk m (st.filter p) := ⟨h.inc.filter _, fun k hk => h.lt k (List.mem_filter.mp hk).1⟩
theorem inc_len : ∀ {m : Nat} {st : List Nat} (lo : Nat), st.Pairwise (· < ·) → (∀ k ∈ st, lo ≤ k ∧ k < m) → st.length ≤ m - lo
  | m, [], _, _, _ => Nat.zero_le _
  | m, k :: r, lo, h1, h2 => by
    obtain ⟨h3, h4⟩ := List.pairwise_cons.mp h1
    have ih := inc_len (m := m) (k + 1) h4 fun l hl => ⟨h3 l hl, (h2 l (List.mem_cons_of_mem _ hl)).2⟩
    have := h2 k List.mem_cons_self
    rw [List.length_cons]
    omega
theorem StOk.len {m : Nat} {st : List Nat} (h : StOk m st) : st.length ≤ m := by
  have := inc_len (m := m) 0 h.inc fun k hk => ⟨Nat.zero_le _, h.lt k hk⟩
  omega
theorem pl_nat (st : List Nat) : (natD st).all pl = true := by
  rw [List.all_eq_true]
  intro d hd
  obtain ⟨k, _, rfl⟩ := List.mem_map.mp hd
  rfl
theorem rising_nat : ∀ {st : List Nat}, st.Pairwise (· < ·) → risingL (natD st) = true
  | [], _ => rfl
  | [k], _ => rfl
  | k :: l :: r, h => by
    have h1 := (List.pairwise_cons.mp h).1 l List.mem_cons_self
    have ih := rising_nat (List.pairwise_cons.mp h).2
    show (decide ((k : Int) < (l : Int)) && risingL (natD (l :: r))) = true
    rw [ih, Bool.and_true, decide_eq_true_eq]
    omega
theorem rising_st {m : Nat} {st : List Nat} (h : StOk m st) : rising (.tup (natD st)) 0 ((m : Int) - 1) = true := by
  show ((natD st).all (fun d => within d 0 ((m : Int) - 1)) && risingL (natD st)) = true
  rw [rising_nat h.inc, Bool.and_true, List.all_eq_true]
  intro d hd
  obtain ⟨k, hk, rfl⟩ := List.mem_map.mp hd
  have := h.lt k hk
  simp [within]
  omega
theorem f_need_web {n : Int} {ss : List (Int × Int)} {R : Option Rw} : F_need_web [.web n ss] R = .ok .non R := by
  simp [F_need_web, sem_need_web, startD, N_need_web, isiW]
theorem f_need_webX {d : D} {R : Option Rw} (h : pl d = true) : F_need_web [d] R = .exn "BadWeb" d R := by
  cases d <;> first
    | (cases h; done)
    | simp [F_need_web, sem_need_web, startD, N_need_web, isiW]
@[simp] theorem webStrs_web (n : Int) (ss : List (Int × Int)) : webStrs (.web n ss) = some (.tup (ss.map pairD)) := rfl
@[simp] theorem webCoins_web (n : Int) (ss : List (Int × Int)) : webCoins (.web n ss) = some (.int n) := rfl
theorem f_is_standing {n : Int} {ss : List (Int × Int)} {d : D} {R : Option Rw} (h : pl d = true) (hd : ∀ ds, d = .tup ds → ds.all pl = true ∧ ds.length ≤ sizeLine) : F_is_standing [.web n ss, d] R = .ok (.bl (rising d 0 ((ss.length : Int) - 1))) R := by
  have e := fun R => f_is_rising (a := 0) (b := (ss.length : Int) - 1) (R := R) h hd
  simp [F_is_standing, sem_is_standing, startD, N_is_standing, f_need_web, e]
theorem f_is_standingX {d e : D} {R : Option Rw} (h : pl d = true) : F_is_standing [d, e] R = .exn "BadWeb" d R := by
  simp [F_is_standing, sem_is_standing, startD, N_is_standing, f_need_webX h]
theorem f_need_standing {n : Int} {ss : List (Int × Int)} {d : D} {R : Option Rw} (h : pl d = true) (hd : ∀ ds, d = .tup ds → ds.all pl = true ∧ ds.length ≤ sizeLine) :
    F_need_standing [.web n ss, d] R = if rising d 0 ((ss.length : Int) - 1) = true then .ok .non R else .exn "BadStanding" d R := by
  have e := fun R => f_is_standing (n := n) (ss := ss) (R := R) h hd
  cases hr : rising d 0 ((ss.length : Int) - 1) <;> simp [F_need_standing, sem_need_standing, startD, N_need_standing, e, hr]
theorem f_need_standingX {d e : D} {R : Option Rw} (h : pl d = true) : F_need_standing [d, e] R = .exn "BadWeb" d R := by
  simp [F_need_standing, sem_need_standing, startD, N_need_standing, f_is_standingX h]
theorem tup_hd {m : Nat} {st : List Nat} (h : StOk m st) (hm : m ≤ 12) : ∀ ds, D.tup (natD st) = .tup ds → ds.all pl = true ∧ ds.length ≤ sizeLine := fun ds e => by
  injection e with e
  subst e
  exact ⟨pl_nat st, by unfold natD; rw [List.length_map]; exact small12 (Nat.le_trans h.len hm)⟩
theorem need_st {n : Int} {ss : List (Int × Int)} {st : List Nat} {R : Option Rw} (g : GoodW n ss) (h : StOk ss.length st) : F_need_standing [.web n ss, .tup (natD st)] R = .ok .non R := by
  rw [f_need_standing rfl (tup_hd h g.len), if_pos (rising_st h)]
/-! ### coins, counts -/
def ends (p : Int × Int) : List Int := [p.1, p.2].filter fun c => !decide (c = -1)
def sAt (ss : List (Int × Int)) (k : Nat) : Int × Int := ss.getD k (0, 0)
theorem atI_nat {α : Type} {xs : List α} {k : Nat} {x : α} (h : xs[k]? = some x) : L2.atI xs (k : Int) = some x := by
  obtain ⟨hk, hx⟩ := List.getElem?_eq_some_iff.mp h
  unfold L2.atI ixN
  rw [if_pos (by omega), if_pos (by omega)]
  show xs[(k : Int).toNat]? = some x
  rw [Int.toNat_natCast]
  exact h
theorem str_at {ss : List (Int × Int)} {k : Nat} (h : k < ss.length) : oIx (.tup (ss.map pairD)) (.int (k : Int)) = some (pairD (sAt ss k)) := by
  show L2.atI (ss.map pairD) (k : Int) = _
  refine atI_nat ?_
  rw [List.getElem?_map, List.getElem?_eq_getElem h]
  simp [sAt, List.getD, h]
theorem sAt_mem {ss : List (Int × Int)} {k : Nat} (h : k < ss.length) : sAt ss k ∈ ss := by
  simp [sAt, List.getD, h]
theorem f_coins_at {n : Int} {ss : List (Int × Int)} {k : Nat} {R : Option Rw} (h : k < ss.length) : F_coins_at [.web n ss, .int (k : Int)] R = .ok (.lst ((ends (sAt ss k)).map D.int)) R := by
  have c : dComp [2] (.nm 2) (iSeq (d2 oIx (d1 webStrs (dVar 0)) (dVar 1))) (dB (d2 oNe (dVar 2) (fun _ => pure (.int (-1))))) (dVar 2) [.dat (.web n ss), .dat (.int (k : Int)), .none] R =
      .ok (.lst (([D.int (sAt ss k).1, D.int (sAt ss k).2].filter fun d => match d with | .int c => !decide (c = -1) | _ => false).map id)) R := by
    refine e_comp (ds := [D.int (sAt ss k).1, D.int (sAt ss k).2]) (by simp [str_at h, pairD]) (by show 2 ≤ sizeLine; decide) fun d hd => ⟨_, rfl, fun R => ?_, fun _ R => ?_⟩
    · simp only [List.mem_cons, List.not_mem_nil, or_false] at hd
      rcases hd with rfl | rfl <;> simp [blkD]
    · simp [blkD]
  simp [F_coins_at, sem_coins_at, startD, N_coins_at, c]
  unfold ends
  rw [show ([D.int (sAt ss k).1, D.int (sAt ss k).2] : List D) = [(sAt ss k).1, (sAt ss k).2].map D.int from rfl, List.filter_map]
  rfl
end DL

set_option Elab.async false
set_option linter.all false
set_option maxRecDepth 100000
namespace DL
open PySem PySem.Spec L2
def bump (f : List Int) (c : Int) : List Int := f.set c.toNat (f.getD c.toNat 0 + 1)
theorem bump_len (f : List Int) (c : Int) : (bump f c).length = f.length := by simp [bump]
theorem ixN_in {n : Nat} {c : Int} (h0 : 0 ≤ c) (h1 : c < n) : ixN n c = some c.toNat := by
  unfold ixN
  rw [if_pos h0, if_pos h1]
theorem atI_in {f : List Int} {c : Int} (h0 : 0 ≤ c) (h1 : c < f.length) : L2.atI (f.map D.int) c = some (.int (f.getD c.toNat 0)) := by
  unfold L2.atI
  rw [List.length_map, ixN_in h0 h1]
  show (f.map D.int)[c.toNat]? = _
  have h2 : c.toNat < f.length := by omega
  rw [List.getElem?_map, List.getElem?_eq_getElem h2]
  simp [List.getD, h2]
theorem aug_step {W S a b : SD} {f : List Int} {c : Int} {R : Option Rw} (h0 : 0 ≤ c) (h1 : c < f.length) (hb : b = .dat (.int c)) :
    sAugO 2 addI (dVar 4) (fun _ => pure (.int 1)) [W, S, .own (f.map D.int), a, b] R = .nx [W, S, .own ((bump f c).map D.int), a, b] R := by
  subst hb
  have e1 : dVar 4 [W, S, .own (f.map D.int), a, .dat (.int c)] R = .ok (.int c) R := e_var rfl
  unfold sAugO
  simp only [List.getElem?_cons_succ, List.getElem?_cons_zero]
  unfold sBind
  rw [e1]
  simp only
  have e2 : ownGet [W, S, .own (f.map D.int), a, .dat (.int c)] 2 (.int c) = some (.int (f.getD c.toNat 0)) := atI_in h0 h1
  rw [e2]
  show ownPut 2 (.int c) (.int (f.getD c.toNat 0 + 1)) [W, S, .own (f.map D.int), a, .dat (.int c)] R = _
  unfold ownPut
  simp only [List.getElem?_cons_succ, List.getElem?_cons_zero, List.length_map]
  rw [ixN_in h0 h1]
  simp only [List.set_cons_succ, List.set_cons_zero]
  rw [show (D.int (f.getD c.toNat 0 + 1)) = D.int ((fun x => x) (f.getD c.toNat 0 + 1)) from rfl, ← List.map_set]
  rfl
theorem aug_loop {W S a : SD} {n : Nat} : ∀ (cs : List Int) (f : List Int) (b : SD) (R : Option Rw), f.length = n → (∀ c ∈ cs, 0 ≤ c ∧ c < n) →
    ∃ b', sLoop (.nm 4) (sAugO 2 addI (dVar 4) (fun _ => pure (.int 1))) (cs.map D.int) [W, S, .own (f.map D.int), a, b] R = .nx [W, S, .own ((cs.foldl bump f).map D.int), a, b'] R
  | [], f, b, R, _, _ => ⟨b, rfl⟩
  | c :: cs, f, b, R, hf, h => by
    obtain ⟨h0, h1⟩ := h c List.mem_cons_self
    obtain ⟨b', ih⟩ := aug_loop (W := W) (S := S) (a := a) cs (bump f c) (.dat (.int c)) R (by rw [bump_len]; exact hf) fun x hx => h x (List.mem_cons_of_mem _ hx)
    refine ⟨b', ?_⟩
    rw [List.map_cons, sLoop]
    show (match sAugO 2 addI (dVar 4) (fun _ => pure (.int 1)) [W, S, .own (f.map D.int), a, .dat (.int c)] R with | .nx δ2 R2 => _ | .ct δ2 R2 => _ | .bk δ2 R2 => _ | .rt d R2 => _ | .ex c d R2 => _ | .stuck => _) = _
    rw [aug_step h0 (by rw [hf]; exact h1) rfl]
    exact ih
def cnts (n : Int) (ss : List (Int × Int)) (st : List Nat) : List Int := st.foldl (fun f k => (ends (sAt ss k)).foldl bump f) (List.replicate n.toNat 0)
theorem foldl_bump_len : ∀ (cs : List Int) (f : List Int), (cs.foldl bump f).length = f.length
  | [], _ => rfl
  | c :: cs, f => by rw [List.foldl_cons, foldl_bump_len cs, bump_len]
theorem ends_in {n : Int} {ss : List (Int × Int)} (g : GoodW n ss) {k : Nat} (h : k < ss.length) : ∀ c ∈ ends (sAt ss k), 0 ≤ c ∧ c < n := by
  intro c hc
  have hm := g.ok _ (sAt_mem h)
  have := g.n1
  unfold ends at hc
  simp only [List.mem_filter, List.mem_cons, List.not_mem_nil, or_false, Bool.not_eq_true', decide_eq_false_iff_not] at hc
  obtain ⟨h1 | h1, h2⟩ := hc <;> subst h1 <;> omega
theorem cnt_loop {n : Int} {ss : List (Int × Int)} {S : SD} (g : GoodW n ss) : ∀ (st : List Nat) (f : List Int) (a b : SD) (R : Option Rw), f.length = n.toNat → (∀ k ∈ st, k < ss.length) →
    ∃ a' b', sLoop (.nm 3) (sFor (.nm 4) (iSeq (dMeth 2 F_coins_at (dVar 0) (lCons (dVar 3) lNil))) (sAugO 2 addI (dVar 4) (fun _ => pure (.int 1)))) (natD st) [.dat (.web n ss), S, .own (f.map D.int), a, b] R =
      .nx [.dat (.web n ss), S, .own ((st.foldl (fun f k => (ends (sAt ss k)).foldl bump f) f).map D.int), a', b'] R
  | [], f, a, b, R, _, _ => ⟨a, b, rfl⟩
  | k :: st, f, a, b, R, hf, h => by
    have hk := h k List.mem_cons_self
    obtain ⟨b1, e1⟩ := aug_loop (W := .dat (.web n ss)) (S := S) (a := .dat (.int (k : Int))) (ends (sAt ss k)) f b R hf fun c hc => by
      have := ends_in g hk c hc
      have := g.n1
      omega
    obtain ⟨a2, b2, ih⟩ := cnt_loop (S := S) g st ((ends (sAt ss k)).foldl bump f) (.dat (.int (k : Int))) b1 R (by rw [foldl_bump_len]; exact hf) fun x hx => h x (List.mem_cons_of_mem _ hx)
    refine ⟨a2, b2, ?_⟩
    have e0 : iSeq (dMeth 2 F_coins_at (dVar 0) (lCons (dVar 3) lNil)) [.dat (.web n ss), S, .own (f.map D.int), .dat (.int (k : Int)), b] R = .ok ((ends (sAt ss k)).map D.int) R :=
      e_seq (e_meth (e_var rfl) (e_cons (e_var rfl) e_nil) rfl (f_coins_at hk)) rfl
    show sLoop _ _ (D.int (k : Int) :: natD st) _ _ = _
    rw [sLoop]
    show (match sFor (.nm 4) (iSeq (dMeth 2 F_coins_at (dVar 0) (lCons (dVar 3) lNil))) (sAugO 2 addI (dVar 4) (fun _ => pure (.int 1))) [.dat (.web n ss), S, .own (f.map D.int), .dat (.int (k : Int)), b] R with | .nx δ2 R2 => _ | .ct δ2 R2 => _ | .bk δ2 R2 => _ | .rt d R2 => _ | .ex c d R2 => _ | .stuck => _) = _
    rw [s_for e0, e1]
    exact ih
theorem repl_flat (n : Nat) : (List.replicate n [D.int 0]).flatten = (List.replicate n (0 : Int)).map D.int := by
  induction n with
  | zero => rfl
  | succ n ih => rw [List.replicate_succ, List.replicate_succ, List.flatten_cons, ih, List.map_cons]; rfl
theorem f_counts {n : Int} {ss : List (Int × Int)} {st : List Nat} {R : Option Rw} (g : GoodW n ss) (h : ∀ k ∈ st, k < ss.length) : F_counts [.web n ss, .tup (natD st)] R = .ok (.lst ((cnts n ss st).map D.int)) R := by
  have h1 := g.n1
  have h9 := g.n9
  have own : lRep (dLst (lCons (fun _ => pure (.int 0)) lNil)) (d1 webCoins (dVar 0)) [.dat (.web n ss), .dat (.tup (natD st)), .none, .none, .none] R = .ok ((List.replicate n.toNat (0 : Int)).map D.int) R := by
    unfold lRep
    have c0 : d1 webCoins (dVar 0) [.dat (.web n ss), .dat (.tup (natD st)), .none, .none, .none] R = .ok (.int n) R := e_d1 (e_var rfl) rfl
    rw [bind_ok (e_lst (ds := [.int 0]) (e_cons rfl e_nil) (by decide)), bind_ok c0]
    unfold repO2
    simp only
    rw [if_pos ⟨by omega, by omega, small12 (by simp; omega)⟩, repl_flat]
    rfl
  have own' : sOwn 2 (lRep (dLst (lCons (fun _ => pure (.int 0)) lNil)) (d1 webCoins (dVar 0))) [.dat (.web n ss), .dat (.tup (natD st)), .none, .none, .none] R = .nx [.dat (.web n ss), .dat (.tup (natD st)), .own ((List.replicate n.toNat (0 : Int)).map D.int), .none, .none] R := by
    unfold sOwn sBind
    rw [own]
    rfl
  obtain ⟨a, b, lp⟩ := cnt_loop (S := .dat (.tup (natD st))) g st (List.replicate n.toNat 0) .none .none R (by simp) h
  show fin (sem_counts (startD N_counts [.web n ss, .tup (natD st)]) R) = _
  have st0 : startD N_counts [.web n ss, .tup (natD st)] = [.dat (.web n ss), .dat (.tup (natD st)), .none, .none, .none] := rfl
  unfold sem_counts
  rw [st0, s_seq own', s_seq ((s_for (e_seq (e_var rfl) rfl)).trans lp)]
  show fin (sRet (dVar 2) [.dat (.web n ss), .dat (.tup (natD st)), .dat (.lst ((cnts n ss st).map D.int)), a, b] R) = _
  rw [s_ret (e_var rfl)]
  rfl
theorem bump_get {f : List Int} {c : Int} {i : Nat} (h0 : 0 ≤ c) (h1 : c < f.length) : (bump f c).getD i 0 = f.getD i 0 + if c = (i : Int) then 1 else 0 := by
  unfold bump
  by_cases e : c = (i : Int)
  · subst e
    rw [if_pos rfl]
    have hi : i < f.length := by omega
    simp [List.getD, List.getElem?_set, hi]
  · rw [if_neg e]
    simp only [List.getD, List.getElem?_set]
    rw [if_neg (by omega), Int.add_zero]
theorem foldl_bump_get : ∀ (cs : List Int) (f : List Int) (i : Nat), (∀ c ∈ cs, 0 ≤ c ∧ c < f.length) → (cs.foldl bump f).getD i 0 = f.getD i 0 + (cs.count (i : Int) : Int)
  | [], f, i, _ => by simp
  | c :: cs, f, i, h => by
    obtain ⟨h0, h1⟩ := h c List.mem_cons_self
    rw [List.foldl_cons, foldl_bump_get cs (bump f c) i (by rw [bump_len]; exact fun x hx => h x (List.mem_cons_of_mem _ hx)), bump_get h0 h1, List.count_cons]
    by_cases e : c = (i : Int)
    · subst e; simp; omega
    · simp [e]
/-- how many strings of st are at coin c -/
def deg (ss : List (Int × Int)) (st : List Nat) (c : Int) : Nat := (st.filter fun k => decide (c ∈ ends (sAt ss k))).length
theorem ends_nodup {n : Int} {ss : List (Int × Int)} (g : GoodW n ss) {k : Nat} (h : k < ss.length) : (ends (sAt ss k)).Nodup := by
  have hm := g.ok _ (sAt_mem h)
  unfold ends
  refine List.Pairwise.filter _ ?_
  simp
  omega
theorem count_nd : ∀ {l : List Int}, l.Nodup → ∀ c, l.count c = if c ∈ l then 1 else 0
  | [], _, c => by simp
  | x :: l, h, c => by
    obtain ⟨h1, h2⟩ := List.nodup_cons.mp h
    rw [List.count_cons, count_nd h2 c]
    by_cases e : x = c
    · subst e
      simp [h1]
    · have e' : ¬ c = x := fun z => e z.symm
      by_cases m : c ∈ l <;> simp [e, e', m]
theorem count_ends {n : Int} {ss : List (Int × Int)} (g : GoodW n ss) {k : Nat} (h : k < ss.length) (c : Int) : (ends (sAt ss k)).count c = if c ∈ ends (sAt ss k) then 1 else 0 := by
  have nd := ends_nodup g h
  exact count_nd nd c
theorem cnts_len {n : Int} {ss : List (Int × Int)} : ∀ (st : List Nat) (f : List Int), (st.foldl (fun f k => (ends (sAt ss k)).foldl bump f) f).length = f.length
  | [], _ => rfl
  | k :: st, f => by rw [List.foldl_cons, cnts_len (n := n) st, foldl_bump_len]
theorem cnts_get0 {n : Int} {ss : List (Int × Int)} (g : GoodW n ss) : ∀ (st : List Nat) (f : List Int) (i : Nat), f.length = n.toNat → (∀ k ∈ st, k < ss.length) → (st.foldl (fun f k => (ends (sAt ss k)).foldl bump f) f).getD i 0 = f.getD i 0 + (deg ss st (i : Int) : Int)
  | [], f, i, _, _ => by simp [deg]
  | k :: st, f, i, hf, h => by
    have hk := h k List.mem_cons_self
    rw [List.foldl_cons, cnts_get0 g st _ i (by rw [foldl_bump_len]; exact hf) (fun x hx => h x (List.mem_cons_of_mem _ hx)), foldl_bump_get _ f i (fun c hc => by
      have := ends_in g hk c hc
      have := g.n1
      omega), count_ends g hk]
    unfold deg
    by_cases e : (i : Int) ∈ ends (sAt ss k)
    · rw [if_pos e, List.filter_cons_of_pos (by simpa using e), List.length_cons]
      omega
    · rw [if_neg e, List.filter_cons_of_neg (by simpa using e)]
      omega
theorem cnts_get {n : Int} {ss : List (Int × Int)} (g : GoodW n ss) {st : List Nat} (h : ∀ k ∈ st, k < ss.length) (i : Nat) : (cnts n ss st).getD i 0 = (deg ss st (i : Int) : Int) := by
  unfold cnts
  rw [cnts_get0 g st _ i (by simp) h]
  have : (List.replicate n.toNat (0 : Int)).getD i 0 = 0 := by
    simp only [List.getD, List.getElem?_replicate]
    split <;> rfl
  rw [this, Int.zero_add]
theorem cnts_length (n : Int) (ss : List (Int × Int)) (st : List Nat) : (cnts n ss st).length = n.toNat := by
  unfold cnts
  rw [cnts_len (n := n)]
  simp
end DL

set_option Elab.async false
set_option linter.all false
set_option maxRecDepth 100000
namespace DL
open PySem PySem.Spec L2
/-! ### closing, resting -/
def closed (ss : List (Int × Int)) (st : List Nat) (k : Nat) : List Int := (ends (sAt ss k)).filter fun c => decide (deg ss st c = 1)
theorem getD_at {f : List Int} {c : Int} (h0 : 0 ≤ c) (h1 : c < f.length) : oIx (.lst (f.map D.int)) (.int c) = some (.int (f.getD c.toNat 0)) := atI_in h0 h1
def openC (n : Int) (ss : List (Int × Int)) (st : List Nat) : List Nat := (List.range n.toNat).filter fun (c : Nat) => decide (0 < deg ss st (c : Int))
theorem enum_ints (xs : List Int) : enumD (xs.map D.int) = (List.range xs.length).map fun (i : Nat) => D.tup [.int (i : Int), .int (xs.getD i 0)] := by
  unfold enumD
  apply List.ext_getElem
  · simp
  · intro i h1 h2
    have hi : i < xs.length := by simpa using h1
    simp [List.getD, hi]
theorem f_open_coins {n : Int} {ss : List (Int × Int)} {st : List Nat} {R : Option Rw} (g : GoodW n ss) (h : StOk ss.length st) : F_open_coins [.web n ss, .tup (natD st)] R = .ok (.tup (natD (openC n ss st))) R := by
  have e0 : dFn 2 F_need_standing (lCons (dVar 0) (lCons (dVar 1) lNil)) [.dat (.web n ss), .dat (.tup (natD st)), .none, .none] R = .ok .non R := by
    refine Eq.trans (e_fn (e_cons (e_var rfl) (e_cons (e_var rfl) e_nil)) rfl) ?_
    exact need_st g h
  have h9 := g.n9
  have c : dComp [2, 3] (.tup [(.nm 2), (.nm 3)]) (iCall enumAf (lCons (dMeth 2 F_counts (dVar 0) (lCons (dVar 1) lNil)) lNil)) (dB (d2 oGt (dVar 3) (fun _ => pure (.int 0)))) (dVar 2) [.dat (.web n ss), .dat (.tup (natD st)), .none, .none] R =
      .ok (.lst (((enumD ((cnts n ss st).map D.int)).filter fun d => match d with | .tup [_, .int m] => decide (0 < m) | _ => false).map fun d => match d with | .tup [c, _] => c | _ => .non)) R := by
    refine e_comp (ds := enumD ((cnts n ss st).map D.int)) (e_icall (e_cons (e_meth (e_var rfl) (e_cons (e_var rfl) e_nil) rfl (f_counts g h.lt)) e_nil) rfl) (by
      refine small12 ?_
      rw [enum_ints, List.length_map, List.length_range, cnts_length]
      omega) fun d hd => ?_
    rw [enum_ints] at hd
    obtain ⟨i, hi, rfl⟩ := List.mem_map.mp hd
    exact ⟨_, rfl, fun R => e_dB (e_d2 (e_var rfl) rfl rfl), fun _ R => e_var rfl⟩
  have r : dCall fTuple (lCons (dComp [2, 3] (.tup [(.nm 2), (.nm 3)]) (iCall enumAf (lCons (dMeth 2 F_counts (dVar 0) (lCons (dVar 1) lNil)) lNil)) (dB (d2 oGt (dVar 3) (fun _ => pure (.int 0)))) (dVar 2)) lNil) [.dat (.web n ss), .dat (.tup (natD st)), .none, .none] R = .ok (.tup (natD (openC n ss st))) R := by
    refine e_call (e_cons c e_nil) ?_
    rw [enum_ints, List.filter_map, List.map_map, cnts_length]
    show some (D.tup _) = _
    unfold natD openC
    congr 2
    have e : (List.range n.toNat).filter ((fun d => match d with | D.tup [_, .int m] => decide (0 < m) | _ => false) ∘ fun (i : Nat) => D.tup [.int (i : Int), .int ((cnts n ss st).getD i 0)]) = (List.range n.toNat).filter fun (c : Nat) => decide (0 < deg ss st (c : Int)) := by
      apply List.filter_congr
      intro i _
      show decide (0 < (cnts n ss st).getD i 0) = _
      rw [cnts_get g h.lt, decide_eq_decide]
      omega
    rw [e]
    rfl
  unfold F_open_coins sem_open_coins
  have st0 : startD N_open_coins [.web n ss, .tup (natD st)] = [.dat (.web n ss), .dat (.tup (natD st)), .none, .none] := rfl
  rw [st0, s_seq (s_drop e0), s_ret r]
  rfl
def without (st : List Nat) (k : Nat) : List Nat := st.filter fun j => !decide (j = k)
theorem natD_filter (st : List Nat) (p : D → Bool) : (natD st).filter p = natD (st.filter fun k => p (.int (k : Int))) := by
  unfold natD
  rw [List.filter_map]
  rfl
theorem natD_len (st : List Nat) : (natD st).length = st.length := by simp [natD]
theorem mem_natD {st : List Nat} {d : D} (h : d ∈ natD st) : ∃ k ∈ st, d = .int (k : Int) := by
  obtain ⟨k, hk, rfl⟩ := List.mem_map.mp h
  exact ⟨k, hk, rfl⟩
end DL

set_option Elab.async false
set_option linter.all false
set_option maxRecDepth 100000
namespace DL
open PySem PySem.Spec L2
/-! ### strings of a standing -/
def inSt (st : List Nat) : D → Bool
  | .int k => st.any fun j => decide ((j : Int) = k)
  | _ => false
theorem flat_nat (st : List Nat) : (natD st).all flatD = true := by
  rw [List.all_eq_true]
  intro d hd
  obtain ⟨k, _, rfl⟩ := mem_natD hd
  rfl
theorem inF_nat (st : List Nat) (k : Int) : inF (.int k) (natD st) = inSt st (.int k) := by
  unfold inF inSt natD
  rw [List.any_map]
  congr 1
theorem oNotIn_nat (st : List Nat) (k : Int) : oNotInA (.int k) (.tup (natD st)) = some (.bl (!inSt st (.int k))) := by
  show orO oNotIn oNotInD (.int k) (.tup (natD st)) = _
  unfold orO
  have e : oNotIn (.int k) (.tup (natD st)) = some (.bl (!inSt st (.int k))) := by
    show (if (flatD (.int k) && (natD st).all flatD) = true then some (D.bl (!inF (.int k) (natD st))) else none) = _
    rw [if_pos (by rw [flat_nat]; rfl), inF_nat]
  rw [e]
theorem inSt_mem {st : List Nat} {k : Nat} (h : k ∈ st) : inSt st (.int (k : Int)) = true := by
  unfold inSt
  rw [List.any_eq_true]
  exact ⟨k, h, by simp⟩
/-! ### lists of numbers, compared -/
theorem okEqs_ints : ∀ xs : List Int, isPds (xs.map D.int) = true ∧ PyData.canLayAll0 (toPys (xs.map D.int)) = true ∧ PyData.depthAll (toPys (xs.map D.int)) = 0
  | [] => ⟨rfl, rfl, rfl⟩
  | x :: xs => by
    obtain ⟨h1, h2, h3⟩ := okEqs_ints xs
    refine ⟨?_, ?_, ?_⟩
    · show (true && isPds (xs.map D.int)) = true
      rw [h1]; rfl
    · show (true && PyData.canLayAll0 (toPys (xs.map D.int))) = true
      rw [h2]; rfl
    · show max 0 (PyData.depthAll (toPys (xs.map D.int))) = 0
      rw [h3]; rfl
theorem okEq_ints (xs : List Int) : okEq (.lst (xs.map D.int)) = true := by
  obtain ⟨h1, h2, h3⟩ := okEqs_ints xs
  unfold okEq SeqAt.shaped
  rw [show isPd (.lst (xs.map D.int)) = isPds (xs.map D.int) from rfl, h1, show toPy (.lst (xs.map D.int)) = .list (toPys (xs.map D.int)) from rfl]
  show (true && (PyData.canLayAll0 (toPys (xs.map D.int)) && decide (PyData.depthAll (toPys (xs.map D.int)) + 1 ≤ 64))) = true
  rw [h2, h3]
  rfl
theorem eqv_ints : ∀ xs ys : List Int, PyData.eqvAll (toPys (xs.map D.int)) (toPys (ys.map D.int)) = decide (xs = ys)
  | [], [] => rfl
  | [], y :: ys => rfl
  | x :: xs, [] => rfl
  | x :: xs, y :: ys => by
    show ((x == y) && PyData.eqvAll (toPys (xs.map D.int)) (toPys (ys.map D.int))) = _
    rw [eqv_ints xs ys]
    by_cases h1 : x = y <;> by_cases h2 : xs = ys <;> simp [h1, h2]
theorem oEq_ints (xs ys : List Int) : oEq (.lst (xs.map D.int)) (.lst (ys.map D.int)) = some (.bl (decide (xs = ys))) := by
  unfold oEq
  rw [okEq_ints, okEq_ints]
  show some (D.bl (PyData.eqvAll (toPys (xs.map D.int)) (toPys (ys.map D.int)))) = _
  rw [eqv_ints]
theorem isInt_all : ∀ ds : List D, ds.all isInt = true → ∃ ns, nums ds = some ns ∧ ds = ns.map D.int
  | [], _ => ⟨[], rfl, rfl⟩
  | d :: ds, h => by
    rw [List.all_cons, Bool.and_eq_true] at h
    obtain ⟨ns, e1, e2⟩ := isInt_all ds h.2
    cases d <;> simp [isInt] at h
    rename_i i
    exact ⟨i :: ns, by rw [nums, e1]; rfl, by rw [List.map_cons, ← e2]⟩
theorem natD_ints (st : List Nat) : natD st = (st.map fun (k : Nat) => (k : Int)).map D.int := by
  unfold natD
  rw [List.map_map]
  rfl
/-- an order: a tuple of numbers, the same as those of the standing -/
def isOrd (st : List Nat) : D → Bool
  | .tup ds => ds.all isInt && (match nums ds with
    | some ns => decide (srt ns = srt (st.map fun (k : Nat) => (k : Int)))
    | none => false)
  | _ => false
end DL

set_option Elab.async false
set_option linter.all false
set_option maxRecDepth 100000
namespace DL
open PySem PySem.Spec L2
/-! ### games -/
def gains (ss : List (Int × Int)) : List Nat → List Nat → List Nat
  | [], _ => []
  | k :: o, st => (closed ss st k).length :: gains ss o (without st k)
def nextW (g : Nat) (w : Int) : Int := if g = 0 then 1 - w else w
def turnsL : List Nat → Int → List Int
  | [], _ => []
  | g :: gs, w => w :: turnsL gs (nextW g w)
def addAt (f : List Int) (c v : Int) : List Int := f.set c.toNat (f.getD c.toNat 0 + v)
def scoresL : List Nat → Int → List Int → List Int
  | [], _, s => s
  | g :: gs, w, s => scoresL gs (nextW g w) (addAt s w (g : Int))
theorem s_aug {δ : SEnv} {R : Option Rw} {i : Nat} {f : List Int} {c v : Int} {fk fe : SEnv → M D} (ho : δ[i]? = some (.own (f.map D.int))) (hk : fk δ R = .ok (.int c) R) (he : fe δ R = .ok (.int v) R) (h0 : 0 ≤ c) (h1 : c < f.length) :
    sAugO i addI fk fe δ R = .nx (δ.set i (.own ((addAt f c v).map D.int))) R := by
  unfold sAugO
  rw [ho]
  simp only
  unfold sBind
  rw [hk]
  simp only
  have e2 : ownGet δ i (.int c) = some (.int (f.getD c.toNat 0)) := by
    unfold ownGet
    rw [ho]
    exact atI_in h0 h1
  rw [e2]
  simp only
  rw [he]
  show ownPut i (.int c) (.int (f.getD c.toNat 0 + v)) δ R = _
  unfold ownPut
  rw [ho]
  simp only [List.length_map]
  rw [ixN_in h0 h1]
  simp only
  unfold addAt
  rw [List.map_set]
theorem s_app {δ : SEnv} {R : Option Rw} {i : Nat} {ds : List D} {d : D} {fe : SEnv → M D} (ho : δ[i]? = some (.own ds)) (he : fe δ R = .ok d R) (hl : ds.length < sizeLine) : sApp i fe δ R = .nx (δ.set i (.own (ds ++ [d]))) R := by
  unfold sApp
  rw [ho]
  simp only
  unfold sBind
  rw [he]
  simp only
  rw [if_pos hl]
theorem s_skip {c : SEnv → M Bool} {f g : SM} {δ : SEnv} {R R1 : Option Rw} (h : c δ R = .ok false R1) : sSeq (sIf c f sNx) g δ R = g δ R1 := by
  refine s_seq ?_
  rw [s_ifF h]
  rfl
theorem loop_cons {t : Tgt} {body : SM} {d : D} {ds : List D} {δ δ1 δ2 : SEnv} {R R2 : Option Rw} (e1 : bindT t d δ = some δ1) (e2 : body δ1 R = .nx δ2 R2) : sLoop t body (d :: ds) δ R = sLoop t body ds δ2 R2 := by
  rw [sLoop, e1]
  simp only
  rw [e2]
theorem closed_len {ss : List (Int × Int)} {st : List Nat} {k : Nat} : (closed ss st k).length ≤ 2 := Nat.le_trans (List.length_filter_le _ _) (List.length_filter_le _ _)
theorem without_mem {st : List Nat} {k j : Nat} (h : j ∈ without st k) : j ∈ st := (List.mem_filter.mp h).1
theorem without_len {st : List Nat} {k : Nat} : (without st k).length ≤ st.length := List.length_filter_le _ _
theorem nextW_01 {g : Nat} {w : Int} (h : w = 0 ∨ w = 1) : nextW g w = 0 ∨ nextW g w = 1 := by unfold nextW; split <;> omega
theorem addAt_len (f : List Int) (c v : Int) : (addAt f c v).length = f.length := by simp [addAt]
def natI (st : List Nat) : List Int := st.map fun (k : Nat) => (k : Int)
/-- an order of the standing -/
structure OrdOk (o st : List Nat) : Prop where
  perm : o.Perm st
theorem isOrd_ok {o st : List Nat} (h : o.Perm st) : isOrd st (.tup (natD o)) = true := by
  have h1 : (natD o).all isInt = true := by
    rw [List.all_eq_true]
    intro d hd
    obtain ⟨k, _, rfl⟩ := mem_natD hd
    rfl
  show ((natD o).all isInt && (match nums (natD o) with | some ns => decide (srt ns = srt (st.map fun (k : Nat) => (k : Int))) | none => false)) = true
  rw [h1, natD_ints, nums_map]
  simp only [Bool.true_and, decide_eq_true_eq]
  exact srt_eq ((srt_perm _).trans (h.map _)) (srt_sorted _)
def playL (ss : List (Int × Int)) (o st : List Nat) : List Int := scoresL (gains ss o st) 0 [0, 0]
def turnL (ss : List (Int × Int)) (o st : List Nat) : List Int := turnsL (gains ss o st) 0
end DL

set_option Elab.async false
set_option linter.all false
set_option maxRecDepth 100000
namespace DL
open PySem PySem.Spec L2
theorem s_aug1 {δ : SEnv} {R : Option Rw} {i : Nat} {x y : Int} {fe : SEnv → M D} (ho : δ[i]? = some (.dat (.int x))) (he : fe δ R = .ok (.int y) R) : sAug i addI fe δ R = .nx (δ.set i (.dat (.int (x + y)))) R := by
  unfold sAug
  rw [ho]
  simp only
  unfold sBind
  rw [he]
  rfl
def cnt (p : Nat → Bool) (gs : List Nat) : Int := (gs.countP p : Nat)
theorem cnt_cons (p : Nat → Bool) (g : Nat) (gs : List Nat) : cnt p (g :: gs) = (if p g = true then 1 else 0) + cnt p gs := by
  unfold cnt
  rw [List.countP_cons]
  split <;> omega
/-! ### the law's own -/
theorem str_atL {ss : List (Int × Int)} {k : Nat} (h : k < ss.length) : oIx (.lst (ss.map pairD)) (.int (k : Int)) = some (pairD (sAt ss k)) := str_at h
def lawAt (ss : List (Int × Int)) (st : List Nat) (c : Int) : List Nat := st.filter fun k => decide ((sAt ss k).1 = c) || decide ((sAt ss k).2 = c)
theorem f_law_at {ss : List (Int × Int)} {st : List Nat} {c : Int} {R : Option Rw} (hl : st.length ≤ 12) (h : ∀ k ∈ st, k < ss.length) : F__law_at [.lst (ss.map pairD), .tup (natD st), .int c] R = .ok (.lst (natD (lawAt ss st c))) R := by
  have e : dComp [3] (.nm 3) (iSeq (dVar 1)) (bOr (dB (d2 oEq (d2 oIx (d2 oIx (dVar 0) (dVar 3)) (fun _ => pure (.int 0))) (dVar 2))) (dB (d2 oEq (d2 oIx (d2 oIx (dVar 0) (dVar 3)) (fun _ => pure (.int 1))) (dVar 2)))) (dVar 3) [.dat (.lst (ss.map pairD)), .dat (.tup (natD st)), .dat (.int c), .none] R =
      .ok (.lst (((natD st).filter fun d => match d with | .int j => decide ((sAt ss j.toNat).1 = c) || decide ((sAt ss j.toNat).2 = c) | _ => false).map id)) R := by
    refine e_comp (ds := natD st) (e_seq (e_var rfl) rfl) (by rw [natD_len]; exact small12 hl) fun d hd => ?_
    obtain ⟨k, hk, rfl⟩ := mem_natD hd
    have hkl := h k hk
    refine ⟨_, rfl, fun R => ?_, fun _ R => e_var rfl⟩
    have a1 : d2 oIx (dVar 0) (dVar 3) [.dat (.lst (ss.map pairD)), .dat (.tup (natD st)), .dat (.int c), .dat (.int (k : Int))] R = .ok (pairD (sAt ss k)) R := e_d2 (e_var rfl) (e_var rfl) (str_atL hkl)
    have t1 := e_dB (e_d2 (e_d2 (f := oIx) (fb := fun _ => pure (.int 0)) (R2 := R) a1 rfl (ix0 _ _)) (e_var (i := 2) rfl) (oEq_int (sAt ss k).1 c))
    have t2 := e_dB (e_d2 (e_d2 (f := oIx) (fb := fun _ => pure (.int 1)) (R2 := R) a1 rfl (ix1 _ _)) (e_var (i := 2) rfl) (oEq_int (sAt ss k).2 c))
    show bOr _ _ [.dat (.lst (ss.map pairD)), .dat (.tup (natD st)), .dat (.int c), .dat (.int (k : Int))] R = .ok (decide ((sAt ss (k : Int).toNat).1 = c) || decide ((sAt ss (k : Int).toNat).2 = c)) R
    rw [Int.toNat_natCast]
    cases hc : decide ((sAt ss k).1 = c) with
    | true =>
      rw [hc] at t1
      exact e_orT t1
    | false =>
      rw [hc] at t1
      exact (e_orF t1).trans t2
  unfold F__law_at sem__law_at
  have st0 : startD N__law_at [.lst (ss.map pairD), .tup (natD st), .int c] = [.dat (.lst (ss.map pairD)), .dat (.tup (natD st)), .dat (.int c), .none] := rfl
  rw [st0, s_ret e, List.map_id, natD_filter]
  simp only [Int.toNat_natCast]
  rfl
theorem mem_ends {n : Int} {ss : List (Int × Int)} (g : GoodW n ss) {k : Nat} (hk : k < ss.length) {c : Int} (hc : 0 ≤ c) : (c ∈ ends (sAt ss k)) ↔ ((sAt ss k).1 = c ∨ (sAt ss k).2 = c) := by
  unfold ends
  simp only [List.mem_filter, List.mem_cons, List.not_mem_nil, or_false, Bool.not_eq_true', decide_eq_false_iff_not]
  constructor
  · rintro ⟨h | h, _⟩
    · exact .inl h.symm
    · exact .inr h.symm
  · rintro (h | h)
    · exact ⟨.inl h.symm, by omega⟩
    · exact ⟨.inr h.symm, by omega⟩
theorem lawAt_len {n : Int} {ss : List (Int × Int)} {st : List Nat} (g : GoodW n ss) (h : ∀ k ∈ st, k < ss.length) {c : Int} (hc : 0 ≤ c) : (lawAt ss st c).length = deg ss st c := by
  unfold lawAt deg
  congr 1
  apply List.filter_congr
  intro k hk
  rw [← Bool.decide_or, decide_eq_decide]
  exact (mem_ends g (h k hk) hc).symm
end DL

set_option Elab.async false
set_option linter.all false
set_option maxRecDepth 100000
namespace DL
open PySem PySem.Spec L2
/-! ### draws -/
def Gd (q : Addr) (R : Option Rw) : Prop := ∃ r, R = some r ∧ r.addr = q ∧ 0 ≤ r.idx
section
variable {Γ : Ctx} {δ : SEnv} {r : Rw}
theorem e_row {i : Nat} {fe : SEnv → M D} {d : D} {R : Option Rw} (h : fe δ R = .ok (.row r.addr) (some r)) (e : rowItem Γ r i = some d) : dRow Γ i fe δ R = .ok d (some r) := by
  unfold dRow
  rw [bind_ok h]
  unfold rowAt
  simp only
  rw [if_pos trivial, e]
theorem s_row {i j : Nat} {fe : SEnv → M D} {x : Int} {R : Option Rw} (ho : δ[i]? = some (.dat (.row r.addr))) (h : fe δ R = .ok (.int x) (some r)) (h1 : 1 ≤ j ∧ j ≤ 3) : sRowSet i j fe δ R = .nx δ (some (rowPut j x r)) := by
  unfold sRowSet sBind
  rw [h]
  simp only
  rw [ho]
  simp only
  rw [if_pos ⟨trivial, h1⟩]
end
theorem oMod_int {i j : Int} (h : 0 < j) : oMod (.int i) (.int j) = some (.int (i % j)) := by
  show (if 0 < j then some (D.int (i % j)) else none) = _
  rw [if_pos h]
theorem oDiv_int {i j : Int} (h : 0 < j) (h2 : j < 1073741824) : oDiv (.int i) (.int j) = some (.int (i / j)) := by
  show (if CDiv i j then some (D.int (i / j)) else none) = _
  rw [if_pos ⟨h, h2⟩]
theorem oTimes_int {i j : Int} (h : -(2 ^ 64) < j ∧ j < 2 ^ 64) : oTimes (.int i) (.int j) = some (.int (i * j)) := by
  show (if CMul i j then some (D.int (i * j)) else none) = _
  rw [if_pos (.inr h)]
theorem oPow_int : oPow (.int 10) (.int 18) = some (.int (10 ^ 18)) := by
  show (if CPow 10 18 then some (D.int (10 ^ (18 : Int).toNat)) else none) = _
  rw [if_pos (by unfold CPow; decide)]
  rfl
theorem fIntA_int (i : Int) : fIntA [.int i] = some (.int i) := rfl
theorem f_taken {Γ : Ctx} {q : Addr} {m : Int} {R : Option Rw} (hm : 0 < m) (hm2 : m < 1073741824) (hR : Gd q R) : ∃ t R', F__law_taken Γ [.row q, .int m] R = .ok (.int t) R' ∧ 0 ≤ t ∧ t < m ∧ Gd q R' := by
  obtain ⟨r, rfl, rfl, hi⟩ := hR
  have st0 : startD N__law_taken [.row r.addr, .int m] = [.dat (.row r.addr), .dat (.int m), .none, .none] := rfl
  unfold F__law_taken sem__law_taken
  rw [st0]
  have v0 : ∀ (r : Rw) (a b : SD) (R : Option Rw), dVar 0 [.dat (.row r.addr), .dat (.int m), a, b] R = .ok (.row r.addr) R := fun _ _ _ _ => e_var rfl
  have v1 : ∀ (r : Rw) (a b : SD) (R : Option Rw), dVar 1 [.dat (.row r.addr), .dat (.int m), a, b] R = .ok (.int m) R := fun _ _ _ _ => e_var rfl
  have c3 : ∀ (r : Rw) (a b : SD), dRow Γ 3 (dVar 0) [.dat (.row r.addr), .dat (.int m), a, b] (some r) = .ok (.int r.carry) (some r) := fun r a b => e_row (v0 r a b _) rfl
  have c2 : ∀ (r : Rw) (a b : SD), dRow Γ 2 (dVar 0) [.dat (.row r.addr), .dat (.int m), a, b] (some r) = .ok (.int r.mix) (some r) := fun r a b => e_row (v0 r a b _) rfl
  have c1 : ∀ (r : Rw) (a b : SD), dRow Γ 1 (dVar 0) [.dat (.row r.addr), .dat (.int m), a, b] (some r) = .ok (.int r.idx) (some r) := fun r a b => e_row (v0 r a b _) rfl
  have c0 : ∀ (r : Rw) (a b : SD), dRow Γ 0 (dVar 0) [.dat (.row r.addr), .dat (.int m), a, b] (some r) = .ok (.row Γ.scr) (some r) := fun r a b => e_row (v0 r a b _) rfl
  by_cases hc : 0 < r.carry
  · have t : dB (d2 oGt (dRow Γ 3 (dVar 0)) (fun _ => pure (.int 0))) [.dat (.row r.addr), .dat (.int m), .none, .none] (some r) = .ok true (some r) := by
      have := e_dB (e_d2 (fb := fun _ => pure (.int 0)) (R2 := some r) (c3 r .none .none) rfl (oGt_int r.carry 0))
      rw [decide_eq_true hc] at this
      exact this
    have s1 := s_set (i := 2) (e_d2 (f := oMod) (e_call (f := fIntA) (e_cons (c3 r .none .none) e_nil) (fIntA_int _)) (v1 r .none .none _) (oMod_int hm))
    have s2 := s_row (δ := [.dat (.row r.addr), .dat (.int m), .dat (.int (r.carry % m)), .none]) (r := r) (i := 0) (j := 3) rfl (e_d2 (f := oDiv) (c3 r (.dat (.int (r.carry % m))) .none) (v1 r _ _ _) (oDiv_int hm hm2)) (by decide)
    refine ⟨r.carry % m, some (rowPut 3 (r.carry / m) r), ?_, Int.emod_nonneg _ (by omega), Int.emod_lt_of_pos _ hm, ⟨_, rfl, rfl, hi⟩⟩
    rw [s_seqR ((s_ifT t).trans ((s_seq s1).trans ((s_seq s2).trans (s_ret (e_var rfl)))))]
    rfl
  · have t : dB (d2 oGt (dRow Γ 3 (dVar 0)) (fun _ => pure (.int 0))) [.dat (.row r.addr), .dat (.int m), .none, .none] (some r) = .ok false (some r) := by
      have := e_dB (e_d2 (fb := fun _ => pure (.int 0)) (R2 := some r) (c3 r .none .none) rfl (oGt_int r.carry 0))
      rw [decide_eq_false hc] at this
      exact this
    rw [s_skip t]
    have s1 := s_row (δ := [.dat (.row r.addr), .dat (.int m), .none, .none]) (r := r) (i := 0) (j := 1) rfl (e_d2 (f := oPlus) (fb := fun _ => pure (.int 1)) (R2 := some r) (c1 r .none .none) rfl (oPlus_int _ _)) (by decide)
    rw [s_seq s1]
    have len : d1 (scrLen Γ) (dRow Γ 0 (dVar 0)) [.dat (.row r.addr), .dat (.int m), .none, .none] (some (rowPut 1 (r.idx + 1) r)) = .ok (.int Γ.cells.length) (some (rowPut 1 (r.idx + 1) r)) := by
      refine e_d1 (c0 (rowPut 1 (r.idx + 1) r) .none .none) ?_
      show (if Γ.scr = Γ.scr then some (D.int Γ.cells.length) else none) = _
      rw [if_pos rfl]
    have t2 : dB (d2 oGt (dRow Γ 1 (dVar 0)) (d1 (scrLen Γ) (dRow Γ 0 (dVar 0)))) [.dat (.row r.addr), .dat (.int m), .none, .none] (some (rowPut 1 (r.idx + 1) r)) = .ok (decide ((Γ.cells.length : Int) < (rowPut 1 (r.idx + 1) r).idx)) (some (rowPut 1 (r.idx + 1) r)) := e_dB (e_d2 (f := oGt) (c1 (rowPut 1 (r.idx + 1) r) .none .none) len (oGt_int _ _))
    by_cases hl : (Γ.cells.length : Int) < r.idx + 1
    · rw [decide_eq_true (show (Γ.cells.length : Int) < (rowPut 1 (r.idx + 1) r).idx from hl)] at t2
      have s2 := s_row (δ := [.dat (.row r.addr), .dat (.int m), .none, .none]) (r := rowPut 1 (r.idx + 1) r) (i := 0) (j := 2) rfl
        (e_d2 (f := oMod) (fb := fun _ => pure (.int 2147483647)) (R2 := some (rowPut 1 (r.idx + 1) r)) (e_call (f := fIntA) (e_cons (e_d2 (f := oPlus) (fb := fun _ => pure (.int 11)) (R2 := some (rowPut 1 (r.idx + 1) r)) (e_d2 (f := oTimes) (fb := fun _ => pure (.int 48271)) (R2 := some (rowPut 1 (r.idx + 1) r)) (c2 (rowPut 1 (r.idx + 1) r) .none .none) rfl (oTimes_int (by decide))) rfl (oPlus_int _ _)) e_nil) (fIntA_int _)) rfl (oMod_int (by decide))) (by decide)
      have r3 := s_ret (e_d2 (f := oMod) (e_call (f := fIntA) (e_cons (e_d2 (f := oDiv) (fb := fun _ => pure (.int 7)) (R2 := some (rowPut 2 (((rowPut 1 (r.idx + 1) r).mix * 48271 + 11) % 2147483647) (rowPut 1 (r.idx + 1) r))) (c2 (rowPut 2 (((rowPut 1 (r.idx + 1) r).mix * 48271 + 11) % 2147483647) (rowPut 1 (r.idx + 1) r)) .none .none) rfl (oDiv_int (by decide) (by decide))) e_nil) (fIntA_int _)) (v1 r .none .none _) (oMod_int hm))
      have h3 := s_seqR (g := sSeq (sSet 3 (d2 (scrAt Γ) (dRow Γ 0 (dVar 0)) (d2 oSub (dRow Γ 1 (dVar 0)) fun _ => pure (D.int 1))))
        (sSeq (sRowSet 0 2 (d2 oMod (dCall fIntA (lCons (d2 oPlus (d2 oPlus (d2 oTimes (dRow Γ 2 (dVar 0)) fun _ => pure (D.int 48271)) (dVar 3)) fun _ => pure (D.int 11)) lNil)) fun _ => pure (D.int 2147483647)))
        (sSeq (sIf (dB (d2 oGe (dVar 3) (d2 oPow (fun _ => pure (D.int 10)) (fun _ => pure (D.int 18))))) (sRowSet 0 3 (d2 oDiv (dVar 3) (dVar 1))) sNx)
        (sRet (d2 oMod (dCall fIntA (lCons (dVar 3) lNil)) (dVar 1)))))) ((s_ifT (g := sNx) t2).trans ((s_seq s2).trans r3))
      exact ⟨((((r.mix * 48271 + 11) % 2147483647) / 7) % m), some (rowPut 2 (((rowPut 1 (r.idx + 1) r).mix * 48271 + 11) % 2147483647) (rowPut 1 (r.idx + 1) r)), by rw [h3]; rfl, Int.emod_nonneg _ (by omega), Int.emod_lt_of_pos _ hm, ⟨_, rfl, rfl, by show 0 ≤ r.idx + 1; omega⟩⟩
    · rw [decide_eq_false (show ¬ (Γ.cells.length : Int) < (rowPut 1 (r.idx + 1) r).idx from hl)] at t2
      rw [s_skip t2]
      have hcl : r.idx.toNat < Γ.cells.length := by omega
      have at_ : scrAt Γ (.row Γ.scr) (.int ((rowPut 1 (r.idx + 1) r).idx - 1)) = some (.int (Γ.cells[r.idx.toNat])) := by
        show (if Γ.scr = Γ.scr then (atI Γ.cells _).map D.int else none) = _
        rw [if_pos rfl]
        have e : (rowPut 1 (r.idx + 1) r).idx - 1 = ((r.idx.toNat : Nat) : Int) := by
          show r.idx + 1 - 1 = _
          omega
        rw [e, atI_nat (List.getElem?_eq_getElem hcl)]
        rfl
      generalize hcell : Γ.cells[r.idx.toNat] = cell at at_
      have s3 : sSet 3 (d2 (scrAt Γ) (dRow Γ 0 (dVar 0)) (d2 oSub (dRow Γ 1 (dVar 0)) fun _ => pure (D.int 1))) [.dat (.row r.addr), .dat (.int m), .none, .none] (some (rowPut 1 (r.idx + 1) r)) = .nx [.dat (.row r.addr), .dat (.int m), .none, .dat (.int cell)] (some (rowPut 1 (r.idx + 1) r)) := s_set (i := 3) (e_d2 (f := scrAt Γ) (c0 (rowPut 1 (r.idx + 1) r) .none .none) (e_d2 (f := oSub) (fb := fun _ => pure (.int 1)) (R2 := some (rowPut 1 (r.idx + 1) r)) (c1 (rowPut 1 (r.idx + 1) r) .none .none) rfl (oSub_int _ _)) at_)
      rw [s_seq s3]
      show ∃ t R', fin (sSeq _ _ [.dat (.row r.addr), .dat (.int m), .none, .dat (.int cell)] (some (rowPut 1 (r.idx + 1) r))) = .ok (.int t) R' ∧ _
      have s4 := s_row (δ := [.dat (.row r.addr), .dat (.int m), .none, .dat (.int cell)]) (r := rowPut 1 (r.idx + 1) r) (i := 0) (j := 2) rfl
        (e_d2 (f := oMod) (fb := fun _ => pure (.int 2147483647)) (R2 := some (rowPut 1 (r.idx + 1) r)) (e_call (f := fIntA) (e_cons (e_d2 (f := oPlus) (fb := fun _ => pure (.int 11)) (R2 := some (rowPut 1 (r.idx + 1) r)) (e_d2 (f := oPlus) (fb := dVar 3) (e_d2 (f := oTimes) (fb := fun _ => pure (.int 48271)) (R2 := some (rowPut 1 (r.idx + 1) r)) (c2 (rowPut 1 (r.idx + 1) r) .none (.dat (.int cell))) rfl (oTimes_int (by decide))) (e_var rfl) (oPlus_int _ _)) rfl (oPlus_int _ _)) e_nil) (fIntA_int _)) rfl (oMod_int (by decide))) (by decide)
      rw [s_seq s4]
      generalize hr2 : rowPut 2 (((rowPut 1 (r.idx + 1) r).mix * 48271 + cell + 11) % 2147483647) (rowPut 1 (r.idx + 1) r) = r2
      have a2 : r2.addr = r.addr := by rw [← hr2]; rfl
      have i2 : 0 ≤ r2.idx := by rw [← hr2]; show 0 ≤ r.idx + 1; omega
      have ret : ∀ R, fin (sRet (d2 oMod (dCall fIntA (lCons (dVar 3) lNil)) (dVar 1)) [.dat (.row r.addr), .dat (.int m), .none, .dat (.int cell)] R) = .ok (.int (cell % m)) R := fun R => by
        rw [s_ret (e_d2 (f := oMod) (e_call (f := fIntA) (e_cons (e_var rfl) e_nil) (fIntA_int cell)) (e_var (i := 1) rfl) (oMod_int hm))]
        rfl
      have t5 : dB (d2 oGe (dVar 3) (d2 oPow (fun _ => pure (.int 10)) (fun _ => pure (.int 18)))) [.dat (.row r.addr), .dat (.int m), .none, .dat (.int cell)] (some r2) = .ok (decide ((10 ^ 18 : Int) ≤ cell)) (some r2) :=
        e_dB (e_d2 (e_var rfl) (e_d2 (R1 := some r2) (R2 := some r2) rfl rfl oPow_int) (oGe_int _ _))
      by_cases hbig : (10 ^ 18 : Int) ≤ cell
      · rw [decide_eq_true hbig] at t5
        have s5 := s_row (δ := [.dat (.row r2.addr), .dat (.int m), .none, .dat (.int cell)]) (r := r2) (i := 0) (j := 3) rfl (e_d2 (f := oDiv) (fa := dVar 3) (fb := dVar 1) (R1 := some r2) (e_var rfl) (e_var rfl) (oDiv_int hm hm2)) (by decide)
        rw [a2] at s5
        refine ⟨cell % m, some (rowPut 3 (cell / m) r2), ?_, Int.emod_nonneg _ (by omega), Int.emod_lt_of_pos _ hm, ⟨_, rfl, a2, i2⟩⟩
        rw [s_seq ((s_ifT t5).trans s5)]
        exact ret _
      · rw [decide_eq_false hbig] at t5
        refine ⟨cell % m, some r2, ?_, Int.emod_nonneg _ (by omega), Int.emod_lt_of_pos _ hm, ⟨_, rfl, a2, i2⟩⟩
        rw [s_skip t5]
        exact ret _
end DL

set_option Elab.async false
set_option linter.all false
set_option maxRecDepth 100000
namespace DL
open PySem PySem.Spec L2
/-! ### what the draws make -/
theorem Gd.some {q : Addr} {R : Option Rw} (h : Gd q R) : ∃ r, R = some r ∧ r.addr = q ∧ 0 ≤ r.idx := h
theorem atI_some {ds : List D} {t : Int} (h0 : 0 ≤ t) (h1 : t < ds.length) : ∃ d ∈ ds, L2.atI ds t = some d := by
  have hk : t.toNat < ds.length := by omega
  refine ⟨ds[t.toNat], List.getElem_mem hk, ?_⟩
  have := atI_nat (List.getElem?_eq_getElem hk)
  rw [show ((t.toNat : Nat) : Int) = t by omega] at this
  exact this
theorem f_law_pick {Γ : Ctx} {q : Addr} {ds : List D} {R : Option Rw} (h0 : ds ≠ []) (hl : ds.length < 1073741824) (hR : Gd q R) : ∃ d R', F__law_pick Γ [.row q, .lst ds] R = .ok d R' ∧ d ∈ ds ∧ Gd q R' := by
  have hp : 0 < ds.length := by cases ds with | nil => exact absurd rfl h0 | cons => exact Nat.succ_pos _
  obtain ⟨t, R', e, t0, t1, g⟩ := f_taken (Γ := Γ) (m := (ds.length : Int)) (by omega) (by omega) hR
  obtain ⟨d, hd, ha⟩ := atI_some t0 t1
  refine ⟨d, R', ?_, hd, g⟩
  unfold F__law_pick sem__law_pick
  rw [s_ret (δ := startD N__law_pick [.row q, .lst ds]) (e_d2 (f := oIx) (e_var (i := 1) rfl) ((e_fn (n := 2) (e_cons (e_var (i := 0) rfl) (e_cons (e_call (f := fLen) (e_cons (e_var (i := 1) rfl) e_nil) rfl) e_nil)) rfl).trans e) ha)]
  rfl
inductive F2 {α β : Type} (P : α → β → Prop) : List α → List β → Prop
  | nil : F2 P [] []
  | cons {a : α} {b : β} {as : List α} {bs : List β} : P a b → F2 P as bs → F2 P (a :: as) (b :: bs)
theorem comp_draw {t : Tgt} {ft : SEnv → M Bool} {fe : SEnv → M D} {δ : SEnv} {I : Option Rw → Prop} {P : D → D → Prop} : ∀ {ds : List D} {R : Option Rw}, I R → (∀ d ∈ ds, ∀ R, I R → ∃ δ1, bindT t d δ = some δ1 ∧ ∃ k R1, ft δ1 R = .ok k R1 ∧ I R1 ∧ (k = true → ∃ e R2, fe δ1 R1 = .ok e R2 ∧ I R2 ∧ P d e)) →
    ∃ sel es R', compL t ft fe δ ds R = .ok es R' ∧ I R' ∧ List.Sublist sel ds ∧ F2 P sel es
  | [], R, hR, _ => ⟨[], [], R, rfl, hR, .slnil, .nil⟩
  | d :: ds, R, hR, h => by
    obtain ⟨δ1, e1, k, R1, e2, hR1, h3⟩ := h d List.mem_cons_self R hR
    unfold compL
    rw [e1]
    simp only
    rw [e2]
    cases k with
    | false =>
      obtain ⟨sel, es, R', e, hR', s, f⟩ := comp_draw (t := t) (ft := ft) (fe := fe) (δ := δ) (I := I) (P := P) (ds := ds) hR1 fun x hx => h x (List.mem_cons_of_mem _ hx)
      exact ⟨sel, es, R', e, hR', .cons _ s, f⟩
    | true =>
      obtain ⟨y, R2, e3, hR2, p⟩ := h3 rfl
      obtain ⟨sel, es, R', e, hR', s, f⟩ := comp_draw (t := t) (ft := ft) (fe := fe) (δ := δ) (I := I) (P := P) (ds := ds) hR2 fun x hx => h x (List.mem_cons_of_mem _ hx)
      refine ⟨d :: sel, y :: es, R', ?_, hR', .cons₂ _ s, .cons p f⟩
      simp only
      rw [e3]
      simp only
      rw [e]
theorem e_compS {δ : SEnv} {R R1 R2 : Option Rw} {vs : List Nat} {t : Tgt} {fi : SEnv → M (List D)} {ft : SEnv → M Bool} {fe : SEnv → M D} {ds es : List D} (h : fi δ R = .ok ds R1) (hl : ds.length ≤ sizeLine) (hc : compL t ft fe (blkD δ vs) ds R1 = .ok es R2) : dComp vs t fi ft fe δ R = .ok (.lst es) R2 := by
  unfold dComp
  rw [bind_ok h]
  unfold lenOk
  rw [if_pos hl]
  simp only [M.lift_some, M.pure_bind]
  rw [bind_ok hc]
  rfl
theorem f2_len {α β : Type} {P : α → β → Prop} : ∀ {as : List α} {bs : List β}, F2 P as bs → as.length = bs.length
  | _, _, .nil => rfl
  | _, _, .cons _ h => by rw [List.length_cons, List.length_cons, f2_len h]
theorem f2_eq {α : Type} : ∀ {as bs : List α}, F2 (fun a b => b = a) as bs → bs = as
  | _, _, .nil => rfl
  | _, _, .cons h h2 => by rw [h, f2_eq h2]
theorem f2_right {α β : Type} {P : α → β → Prop} {Q : β → Prop} (hPQ : ∀ a b, P a b → Q b) : ∀ {as : List α} {bs : List β}, F2 P as bs → ∀ b ∈ bs, Q b
  | _, _, .nil => fun b hb => nomatch hb
  | _, _, .cons h h2 => fun b hb => by
    cases hb with
    | head => exact hPQ _ _ h
    | tail _ hb => exact f2_right hPQ h2 b hb
theorem rangeD_nat (k : Nat) : rangeD 0 k = natD (List.range k) := by
  unfold rangeD natD
  congr 1
  funext i
  rw [Int.zero_add]
def okStr (n : Int) (p : Int × Int) : Prop := 0 ≤ p.1 ∧ p.1 ≤ n - 1 ∧ ((p.1 + 1 ≤ p.2 ∧ p.2 ≤ n - 1) ∨ p.2 = -1)
theorem f_law_string {Γ : Ctx} {q : Addr} {n : Int} {R : Option Rw} (h1 : 1 ≤ n) (h9 : n ≤ 9) (hR : Gd q R) : ∃ p R', F__law_string Γ [.row q, .int n] R = .ok (pairD p) R' ∧ okStr n p ∧ Gd q R' := by
  obtain ⟨a, R1, e1, a0, a1, g1⟩ := f_taken (Γ := Γ) (m := n) (by omega) (by omega) hR
  obtain ⟨b, R2, e2, b0, b1, g2⟩ := f_taken (Γ := Γ) (m := n + 2) (by omega) (by omega) g1
  have st0 : startD N__law_string [.row q, .int n] = [.dat (.row q), .dat (.int n), .none, .none] := rfl
  unfold F__law_string sem__law_string
  rw [st0]
  rw [s_seq (s_set (i := 2) ((e_fn (n := 2) (e_cons (e_var (i := 0) rfl) (e_cons (e_var (i := 1) rfl) e_nil)) rfl).trans e1))]
  simp only [List.set]
  rw [s_seq (s_set (i := 3) ((e_fn (n := 2) (δ := [.dat (.row q), .dat (.int n), .dat (.int a), .none]) (e_cons (e_var (i := 0) rfl) (e_cons (e_d2 (f := oPlus) (fb := fun _ => pure (.int 2)) (R2 := R1) (e_var (i := 1) rfl) rfl (oPlus_int _ _)) e_nil)) rfl).trans e2))]
  show ∃ p R', fin (sSeq _ _ [.dat (.row q), .dat (.int n), .dat (.int a), .dat (.int b)] R2) = .ok (pairD p) R' ∧ _
  have t : bOr (dB (d2 oGe (dVar 3) (dVar 1))) (dB (d2 oEq (dVar 3) (dVar 2))) [.dat (.row q), .dat (.int n), .dat (.int a), .dat (.int b)] R2 = .ok (decide (n ≤ b) || decide (b = a)) R2 := by
    have x := e_dB (e_d2 (f := oGe) (e_var (i := 3) (δ := [.dat (.row q), .dat (.int n), .dat (.int a), .dat (.int b)]) (R := R2) rfl) (e_var (i := 1) rfl) (oGe_int b n))
    have y := e_dB (e_d2 (f := oEq) (e_var (i := 3) (δ := [.dat (.row q), .dat (.int n), .dat (.int a), .dat (.int b)]) (R := R2) rfl) (e_var (i := 2) rfl) (oEq_int b a))
    by_cases h : n ≤ b
    · rw [decide_eq_true h] at x ⊢
      rw [e_orT x, Bool.true_or]
    · rw [decide_eq_false h] at x ⊢
      rw [e_orF x, y, Bool.false_or]
  have i0 : dVar 2 [.dat (.row q), .dat (.int n), .dat (.int a), .dat (.int b)] R2 = .ok (.int a) R2 := e_var rfl
  have i1 : dVar 3 [.dat (.row q), .dat (.int n), .dat (.int a), .dat (.int b)] R2 = .ok (.int b) R2 := e_var rfl
  have sz : (2 : Nat) ≤ sizeLine := by decide
  cases hk : (decide (n ≤ b) || decide (b = a)) with
  | true =>
    rw [hk] at t
    refine ⟨(a, -1), R2, ?_, ⟨a0, by show a ≤ n - 1; omega, .inr rfl⟩, g2⟩
    rw [s_seqR ((s_ifT t).trans (s_ret (e_tup (e_cons i0 (e_cons (e_d2 (f := oSub) (fa := fun _ => pure (.int 0)) (fb := fun _ => pure (.int 1)) (R1 := R2) (R2 := R2) rfl rfl (oSub_int 0 1)) e_nil)) sz)))]
    rfl
  | false =>
    rw [hk] at t
    simp only [Bool.or_eq_false_iff, decide_eq_false_iff_not] at hk
    rw [s_skip t]
    refine ⟨(if b < a then b else a, if b > a then b else a), R2, ?_, ?_, g2⟩
    · rw [s_ret (e_tup (e_cons (e_call (f := fMin2) (e_cons i0 (e_cons i1 e_nil)) rfl) (e_cons (e_call (f := fMax2) (e_cons i0 (e_cons i1 e_nil)) rfl) e_nil)) sz)]
      rfl
    · unfold okStr
      simp only
      split <;> split <;> omega
theorem f_law_strings {Γ : Ctx} {q : Addr} {n m : Int} {R : Option Rw} (h1 : 1 ≤ n) (h9 : n ≤ 9) (m1 : 1 ≤ m) (m12 : m ≤ 12) (hR : Gd q R) : ∃ ss R', F__law_strings Γ [.row q, .int n, .int m] R = .ok (.lst (ss.map pairD)) R' ∧ GoodW n ss ∧ (ss.length : Int) ≤ m ∧ Gd q R' := by
  obtain ⟨a, R1, e1, a0, a1, g1⟩ := f_taken (Γ := Γ) (m := m) (by omega) (by omega) hR
  have st0 : startD N__law_strings [.row q, .int n, .int m] = [.dat (.row q), .dat (.int n), .dat (.int m), .none] := rfl
  unfold F__law_strings sem__law_strings
  rw [st0]
  have hi : iCall rng1 (lCons (d2 oPlus (fun _ => pure (.int 1)) (dFn 2 (F__law_taken Γ) (lCons (dVar 0) (lCons (dVar 2) lNil)))) lNil) [.dat (.row q), .dat (.int n), .dat (.int m), .none] R = .ok (rangeD 0 (1 + a).toNat) R1 := by
    refine e_icall (e_cons (e_d2 (f := oPlus) (fa := fun _ => pure (.int 1)) (R1 := R) rfl ((e_fn (n := 2) (e_cons (e_var (i := 0) rfl) (e_cons (e_var (i := 2) rfl) e_nil)) rfl).trans e1) (oPlus_int _ _)) e_nil) ?_
    show (if _ then _ else _) = _
    rw [if_pos ⟨by omega, by omega⟩]
  have hl : (rangeD 0 (1 + a).toNat).length ≤ 12 := by rw [rangeD_length]; omega
  obtain ⟨sel, es, R', e, g', s, f⟩ := comp_draw (t := .nm 3) (ft := bYes) (fe := dFn 2 (F__law_string Γ) (lCons (dVar 0) (lCons (dVar 1) lNil))) (δ := blkD [.dat (.row q), .dat (.int n), .dat (.int m), .none] [3])
    (I := Gd q) (P := fun _ e => ∃ p, e = pairD p ∧ okStr n p) (ds := rangeD 0 (1 + a).toNat) g1 fun d hd R hR => by
      obtain ⟨p, R2, e2, o, g2⟩ := f_law_string (Γ := Γ) (n := n) h1 h9 hR
      exact ⟨_, rfl, true, R, rfl, hR, fun _ => ⟨pairD p, R2, (e_fn (n := 2) (e_cons (e_var (i := 0) rfl) (e_cons (e_var (i := 1) rfl) e_nil)) rfl).trans e2, g2, p, rfl, o⟩⟩
  have key : ∀ es : List D, (∀ e ∈ es, ∃ p, e = pairD p ∧ okStr n p) → ∃ ss : List (Int × Int), es = ss.map pairD ∧ ∀ p ∈ ss, okStr n p := by
    intro es
    induction es with
    | nil => exact fun _ => ⟨[], rfl, fun p hp => nomatch hp⟩
    | cons x es ih =>
      intro h
      obtain ⟨p, rfl, o⟩ := h x List.mem_cons_self
      obtain ⟨ss, rfl, hs⟩ := ih fun e he => h e (List.mem_cons_of_mem _ he)
      exact ⟨p :: ss, rfl, fun r hr => by cases hr with | head => exact o | tail _ hr => exact hs r hr⟩
  obtain ⟨ss, rfl, ok⟩ := key es (f2_right (P := fun _ e => ∃ p, e = pairD p ∧ okStr n p) (fun _ _ h => h) f)
  have l1 := f2_len f
  have l2 := s.length_le
  rw [List.length_map] at l1
  rw [rangeD_length] at l2 hl
  refine ⟨ss, R', ?_, ⟨h1, h9, by omega, ok⟩, by omega, g'⟩
  rw [s_ret (e_compS hi (by rw [rangeD_length]; exact small12 hl) e)]
  rfl
theorem rng1_nat {m : Nat} (h : m ≤ 1000) : rng1 [.int (m : Int)] = some (rangeD 0 m) := by
  unfold rng1
  simp only
  rw [if_pos ⟨by omega, by omega⟩, Int.toNat_natCast]
theorem f_law_web {Γ : Ctx} {q : Addr} {m : Int} {R : Option Rw} (m1 : 1 ≤ m) (m12 : m ≤ 12) (hR : Gd q R) : ∃ n ss R', F__law_web Γ [.row q, .int m] R = .ok (.tup [.int n, .lst (ss.map pairD)]) R' ∧ GoodW n ss ∧ n ≤ 5 ∧ (ss.length : Int) ≤ m ∧ Gd q R' := by
  obtain ⟨a, R1, e1, a0, a1, g1⟩ := f_taken (Γ := Γ) (m := 5) (by omega) (by omega) hR
  obtain ⟨ss, R2, e2, gw, hl, g2⟩ := f_law_strings (Γ := Γ) (n := 1 + a) (m := m) (by omega) (by omega) m1 m12 g1
  have st0 : startD N__law_web [.row q, .int m] = [.dat (.row q), .dat (.int m), .none] := rfl
  unfold F__law_web sem__law_web
  rw [st0]
  refine ⟨1 + a, ss, R2, ?_, gw, by omega, hl, g2⟩
  rw [s_seq (s_set (i := 2) (e_d2 (f := oPlus) (fa := fun _ => pure (.int 1)) (R1 := R) rfl ((e_fn (n := 2) (e_cons (e_var (i := 0) rfl) (e_cons (f := fun _ => pure (.int 5)) (d := .int 5) (R1 := R) rfl e_nil)) rfl).trans e1) (oPlus_int _ _)))]
  show fin (sRet _ [.dat (.row q), .dat (.int m), .dat (.int (1 + a))] R1) = _
  have sz : (2 : Nat) ≤ sizeLine := by decide
  rw [s_ret (e_tup (e_cons (e_var (i := 2) rfl) (e_cons ((e_fn (n := 3) (e_cons (e_var (i := 0) rfl) (e_cons (e_var (i := 2) rfl) (e_cons (e_var (i := 1) rfl) e_nil))) rfl).trans e2) e_nil)) sz)]
  rfl
theorem sub_natD : ∀ {sel : List D} {st : List Nat}, List.Sublist sel (natD st) → ∃ st', sel = natD st' ∧ List.Sublist st' st
  | sel, st, h => by
    obtain ⟨st', h1, h2⟩ := List.sublist_map_iff.mp h
    exact ⟨st', h2, h1⟩
theorem f_law_some {Γ : Ctx} {q : Addr} {m : Nat} {R : Option Rw} (m12 : m ≤ 12) (hR : Gd q R) : ∃ st R', F__law_some Γ [.row q, .int m] R = .ok (.tup (natD st)) R' ∧ StOk m st ∧ Gd q R' := by
  have st0 : startD N__law_some [.row q, .int m] = [.dat (.row q), .dat (.int m), .none] := rfl
  unfold F__law_some sem__law_some
  rw [st0]
  have hi : iCall rng1 (lCons (dVar 1) lNil) [.dat (.row q), .dat (.int m), .none] R = .ok (rangeD 0 m) R := by
    refine e_icall (e_cons (e_var (i := 1) rfl) e_nil) ?_
    exact rng1_nat (by omega)
  obtain ⟨sel, es, R', e, g', s, f⟩ := comp_draw (t := .nm 2) (ft := dB (d2 oGt (dFn 2 (F__law_taken Γ) (lCons (dVar 0) (lCons (fun _ => pure (.int 4)) lNil))) (fun _ => pure (.int 0)))) (fe := dVar 2) (δ := blkD [.dat (.row q), .dat (.int m), .none] [2])
    (I := Gd q) (P := fun d e => e = d) (ds := rangeD 0 m) hR fun d hd R hR => by
      obtain ⟨a, R1, e1, a0, a1, g1⟩ := f_taken (Γ := Γ) (m := 4) (by omega) (by omega) hR
      refine ⟨_, rfl, _, R1, e_dB (e_d2 (f := oGt) (fb := fun _ => pure (.int 0)) (R2 := R1) ((e_fn (n := 2) (e_cons (e_var (i := 0) rfl) (e_cons (f := fun _ => pure (.int 4)) (d := .int 4) (R1 := R) rfl e_nil)) rfl).trans e1) rfl (oGt_int _ _)), g1, fun _ => ⟨d, R1, e_var rfl, g1, rfl⟩⟩
  rw [f2_eq f] at e
  rw [rangeD_nat] at e hi s
  obtain ⟨st, rfl, hs⟩ := sub_natD s
  refine ⟨st, R', ?_, ⟨List.Pairwise.sublist hs List.pairwise_lt_range, fun k hk => List.mem_range.mp (hs.subset hk)⟩, g'⟩
  rw [s_ret (e_call (f := fTuple) (e_cons (e_compS hi (by rw [natD_len, List.length_range]; exact small12 m12) e) e_nil) rfl)]
  rfl
end DL

set_option Elab.async false
set_option linter.all false
set_option maxRecDepth 100000
namespace DL
open PySem PySem.Spec L2
/-! ### an order is drawn -/
theorem cutTo (ds : List D) (t : Nat) (h : t ≤ ds.length) : cutD ds none (some (t : Int)) = ds.take t := by
  unfold cutD
  rw [HT.sIx_none, HT.sIx_nat, List.drop_zero, Nat.min_eq_left h, Nat.sub_zero]
theorem cutFrom (ds : List D) (t : Nat) : cutD ds (some (t : Int)) none = ds.drop t := by
  unfold cutD
  rw [HT.sIx_none, HT.sIx_nat]
  by_cases h : t ≤ ds.length
  · rw [Nat.min_eq_left h, List.take_of_length_le (by rw [List.length_drop]; omega)]
  · rw [Nat.min_eq_right (by omega), Nat.sub_self, List.take_zero, List.drop_of_length_le (by omega)]
theorem oPlus_lst {as bs : List D} (h : as.length + bs.length ≤ sizeLine) : oPlus (.lst as) (.lst bs) = some (.lst (as ++ bs)) := by
  show (if _ then _ else _) = _
  rw [if_pos h]
abbrev shufBody (Γ : Ctx) : SM := (sSeq (sSet 5 (dFn 2 (F__law_taken Γ) (lCons (dVar 0) (lCons (dCall fLen (lCons (dVar 2) lNil)) lNil))))
  (sSeq (sApp 3 (d2 oIx (dVar 2) (dVar 5)))
  (sSet 2 (d2 oPlus (dCut (dVar 2) pNone (pSome (dVar 5))) (dCut (dVar 2) (pSome (d2 oPlus (dVar 5) (fun _ => pure (.int 1)))) pNone)))))
theorem shuf_loop {Γ : Ctx} {q : Addr} {S : SD} : ∀ (ks l f : List D) (a b : SD) (R : Option Rw), ks.length = l.length → f.length + l.length ≤ 1000 → Gd q R →
    ∃ f' l' a' b' R', sLoop (.nm 4) (shufBody Γ) ks [.dat (.row q), S, .dat (.lst l), .own f, a, b] R = .nx [.dat (.row q), S, l', .own f', a', b'] R' ∧ f'.Perm (f ++ l) ∧ Gd q R'
  | [], [], f, a, b, R, _, _, g => ⟨f, _, a, b, R, rfl, by rw [List.append_nil], g⟩
  | [], _ :: _, f, a, b, R, h, _, _ => by simp at h
  | k :: ks, l, f, a, b, R, h, hl, g => by
    rw [List.length_cons] at h
    obtain ⟨t, R1, e1, t0, t1, g1⟩ := f_taken (Γ := Γ) (m := (l.length : Int)) (by omega) (by omega) g
    obtain ⟨j, rfl⟩ := Int.eq_ofNat_of_zero_le t0
    have hj : j < l.length := by omega
    have hat : oIx (.lst l) (.int (j : Int)) = some l[j] := atI_nat (List.getElem?_eq_getElem hj)
    have sz : (1000 : Nat) < sizeLine := by decide
    have lt : (l.take j).length = j := by rw [List.length_take]; omega
    have ld : (l.drop (j + 1)).length = l.length - (j + 1) := List.length_drop
    have e : shufBody Γ [.dat (.row q), S, .dat (.lst l), .own f, .dat k, b] R = .nx [.dat (.row q), S, .dat (.lst (l.take j ++ l.drop (j + 1))), .own (f ++ [l[j]]), .dat k, .dat (.int (j : Int))] R1 := by
      refine (s_seq (s_set (Eq.trans (e_fn (e_cons (e_var rfl) (e_cons (e_call (e_cons (e_var rfl) e_nil) rfl) e_nil)) rfl) e1))).trans ?_
      refine (s_seq (s_app (ds := f) rfl (e_d2 (e_var rfl) (e_var rfl) hat) (by omega))).trans ?_
      refine (s_set (e_d2 (e_cut (e_var rfl) e_none (e_some (e_var rfl)) rfl) (e_cut (e_var rfl) (e_some (e_d2 (e_var rfl) rfl (oPlus_int _ _))) e_none rfl) (d := .lst (l.take j ++ l.drop (j + 1))) ?_)).trans rfl
      · rw [cutTo l j (by omega), show (j : Int) + 1 = ((j + 1 : Nat) : Int) by omega, cutFrom, oPlus_lst (by omega)]
    obtain ⟨f', l', a', b', R', lp, pm, g'⟩ := shuf_loop (Γ := Γ) (S := S) ks (l.take j ++ l.drop (j + 1)) (f ++ [l[j]]) (.dat k) (.dat (.int (j : Int))) R1 (by rw [List.length_append]; omega) (by simp only [List.length_append, List.length_singleton]; omega) g1
    refine ⟨f', l', a', b', R', (loop_cons (δ1 := [.dat (.row q), S, .dat (.lst l), .own f, .dat k, b]) rfl e).trans lp, pm.trans ?_, g'⟩
    rw [List.append_assoc]
    refine List.Perm.append_left f ?_
    have e3 : l = l.take j ++ l[j] :: l.drop (j + 1) := by
      rw [List.getElem_cons_drop, List.take_append_drop]
    refine List.Perm.trans ?_ (List.Perm.of_eq e3.symm)
    rw [List.singleton_append]
    exact List.perm_middle.symm
def unN : D → Nat
  | .int i => i.toNat
  | _ => 0
theorem un_natD (st : List Nat) : (natD st).map unN = st := by
  unfold natD
  rw [List.map_map]
  conv => rhs; rw [← List.map_id st]
  apply List.map_congr_left
  intro k _
  show (k : Int).toNat = k
  omega
theorem perm_natD {f : List D} {st : List Nat} (h : f.Perm (natD st)) : ∃ o : List Nat, f = natD o ∧ o.Perm st := by
  refine ⟨f.map unN, ?_, ?_⟩
  · unfold natD
    rw [List.map_map]
    conv => lhs; rw [← List.map_id f]
    apply List.map_congr_left
    intro d hd
    obtain ⟨k, _, rfl⟩ := mem_natD (h.mem_iff.mp hd)
    show D.int (k : Int) = D.int (((k : Int).toNat : Nat) : Int)
    rw [Int.toNat_natCast]
  · have := h.map unN
    rw [un_natD] at this
    exact this
end DL

set_option Elab.async false
set_option linter.all false
set_option maxRecDepth 100000
namespace DL
open PySem PySem.Spec L2
/-! ### the law's own game -/
theorem oPlus_tup {as bs : List D} (h : as.length + bs.length ≤ sizeLine) : oPlus (.tup as) (.tup bs) = some (.tup (as ++ bs)) := by
  show (if _ then _ else _) = _
  rw [if_pos h]
theorem s_put {δ : SEnv} {R : Option Rw} {i : Nat} {f : List Int} {c v : Int} {fk fe : SEnv → M D} (ho : δ[i]? = some (.own (f.map D.int))) (hk : fk δ R = .ok (.int c) R) (he : fe δ R = .ok (.int v) R) (h0 : 0 ≤ c) (h1 : c < f.length) :
    sPut i fk fe δ R = .nx (δ.set i (.own ((f.set c.toNat v).map D.int))) R := by
  unfold sPut
  rw [ho]
  simp only
  unfold sBind
  rw [he]
  simp only
  rw [hk]
  simp only
  unfold ownPut
  rw [ho]
  simp only [List.length_map]
  rw [ixN_in h0 h1]
  simp only
  rw [List.map_set]
theorem e_ixOwn {δ : SEnv} {R : Option Rw} {i : Nat} {f : List Int} {c : Int} {fk : SEnv → M D} (ho : δ[i]? = some (.own (f.map D.int))) (hk : fk δ R = .ok (.int c) R) (h0 : 0 ≤ c) (h1 : c < f.length) : dIxOwn i fk δ R = .ok (.int (f.getD c.toNat 0)) R := by
  unfold dIxOwn
  rw [ho]
  simp only
  rw [bind_ok hk]
  have := getD_at h0 h1
  rw [this]
  rfl
theorem m_dat {δ : SEnv} {R R1 R2 : Option Rw} {f : SEnv → M D} {g : SEnv → M (List SD)} {d : D} {r : List SD} (h : f δ R = .ok d R1) (h2 : g δ R1 = .ok r R2) : mDat f g δ R = .ok (.dat d :: r) R2 := by
  unfold mDat
  rw [bind_ok h, bind_ok h2]
  rfl
theorem s_parM2 {δ : SEnv} {R : Option Rw} {i j : Nat} {fa fb : SEnv → M D} {x y : D} (ha : fa δ R = .ok x R) (hb : fb δ R = .ok y R) : sParM [i, j] (mDat fa (mDat fb mNil)) δ R = .nx ((δ.set i (.dat x)).set j (.dat y)) R := by
  unfold sParM sBind
  have e : mDat fa (mDat fb mNil) δ R = .ok [.dat x, .dat y] R := m_dat ha (m_dat hb rfl)
  rw [e]
  rfl
def one01 (p : Nat → Bool) (g : Nat) : Int := if p g = true then 1 else 0
theorem eq01 {δ : SEnv} {R : Option Rw} {i : Nat} {g : Nat} {j : Nat} (h : δ[i]? = some (.dat (.int (g : Int)))) : dIf (dB (d2 oEq (dVar i) (fun _ => pure (.int (j : Int))))) (fun _ => pure (.int 1)) (fun _ => pure (.int 0)) δ R = .ok (.int (one01 (fun x => decide (x = j)) g)) R := by
  have t := e_dB (e_d2 (f := oEq) (fb := fun _ => pure (.int (j : Int))) (R2 := R) (e_var (R := R) h) rfl (oEq_int _ _))
  unfold one01
  by_cases e : g = j
  · rw [decide_eq_true (by omega)] at t
    rw [e_ifT t, if_pos (by simp [e])]
    rfl
  · rw [decide_eq_false (by omega)] at t
    rw [e_ifF t, if_neg (by simp [e])]
    rfl
end DL

set_option Elab.async false
set_option linter.all false
set_option maxRecDepth 100000
namespace DL
open PySem PySem.Spec L2
/-! ### what a game counts -/
theorem perm_without {st : List Nat} {k : Nat} (hn : st.Nodup) (hk : k ∈ st) : st.Perm (k :: without st k) := by
  have h := List.perm_cons_erase hk
  rw [hn.erase_eq_filter] at h
  have e : st.filter (fun x => x != k) = without st k := by
    unfold without
    apply List.filter_congr
    intro x _
    by_cases z : x = k <;> simp [z]
  rw [e] at h
  exact h
theorem deg_perm {ss : List (Int × Int)} {a b : List Nat} (h : a.Perm b) (c : Int) : deg ss a c = deg ss b c := (h.filter _).length_eq
theorem deg_split {ss : List (Int × Int)} {st : List Nat} {k : Nat} (hn : st.Nodup) (hk : k ∈ st) (c : Int) : deg ss st c = (if c ∈ ends (sAt ss k) then 1 else 0) + deg ss (without st k) c := by
  rw [deg_perm (perm_without hn hk) c]
  unfold deg
  rw [List.filter_cons]
  by_cases z : c ∈ ends (sAt ss k)
  · rw [if_pos (by simp [z]), if_pos z, List.length_cons, Nat.add_comm]
  · rw [if_neg (by simp [z]), if_neg z, Nat.zero_add]
theorem countP_add {α : Type} {p q r : α → Bool} : ∀ {l : List α}, (∀ x ∈ l, (if p x = true then 1 else 0) = (if q x = true then 1 else 0) + (if r x = true then 1 else 0 : Nat)) → l.countP p = l.countP q + l.countP r
  | [], _ => rfl
  | x :: l, h => by
    have e := h x List.mem_cons_self
    have ih := countP_add (p := p) (q := q) (r := r) (l := l) fun y hy => h y (List.mem_cons_of_mem _ hy)
    rw [List.countP_cons, List.countP_cons, List.countP_cons, ih, e]
    omega
theorem range_one {n : Nat} {c : Int} (h0 : 0 ≤ c) (h1 : c < n) : (List.range n).countP (fun (i : Nat) => decide ((i : Int) = c)) = 1 := by
  have e : (fun (i : Nat) => decide ((i : Int) = c)) = (fun i => i == c.toNat) := by
    funext i
    by_cases z : i = c.toNat
    · subst z; simp; omega
    · have : ¬ (i : Int) = c := by omega
      simp [this, z]
  rw [e]
  show (List.range n).count c.toNat = 1
  rw [List.nodup_range.count, if_pos (List.mem_range.mpr (by omega))]
theorem range_mem {n : Nat} : ∀ {l : List Int}, l.Nodup → (∀ c ∈ l, 0 ≤ c ∧ c < n) → (List.range n).countP (fun (i : Nat) => decide ((i : Int) ∈ l)) = l.length
  | [], _, _ => by
    exact List.countP_eq_zero.mpr fun a _ => by simp
  | c :: l, h, hb => by
    obtain ⟨h1, h2⟩ := List.nodup_cons.mp h
    have ih := range_mem h2 fun x hx => hb x (List.mem_cons_of_mem _ hx)
    obtain ⟨b0, b1⟩ := hb c List.mem_cons_self
    rw [countP_add (q := fun (i : Nat) => decide ((i : Int) = c)) (r := fun (i : Nat) => decide ((i : Int) ∈ l)), ih, range_one b0 b1, List.length_cons, Nat.add_comm]
    intro x _
    by_cases z : (x : Int) = c
    · subst z
      simp [h1]
    · simp [z]
theorem open_len {n : Int} {ss : List (Int × Int)} {st : List Nat} : (openC n ss st).length = (List.range n.toNat).countP fun (c : Nat) => decide (0 < deg ss st (c : Int)) := by
  unfold openC
  rw [List.countP_eq_length_filter]
theorem open_step {n : Int} {ss : List (Int × Int)} {st : List Nat} {k : Nat} (g : GoodW n ss) (hn : st.Nodup) (hk : k ∈ st) (hl : k < ss.length) : (openC n ss st).length = (closed ss st k).length + (openC n ss (without st k)).length := by
  have hc : (List.range n.toNat).countP (fun (c : Nat) => decide ((c : Int) ∈ closed ss st k)) = (closed ss st k).length := by
    refine range_mem ((ends_nodup g hl).sublist List.filter_sublist) fun c hc => ?_
    have := ends_in g hl c (List.mem_filter.mp hc).1
    omega
  rw [open_len, open_len, ← hc]
  refine countP_add fun c _ => ?_
  have d := deg_split (ss := ss) hn hk (c : Int)
  have m : ((c : Int) ∈ closed ss st k) ↔ ((c : Int) ∈ ends (sAt ss k) ∧ deg ss st (c : Int) = 1) := by
    unfold closed
    rw [List.mem_filter, decide_eq_true_eq]
  by_cases z : (c : Int) ∈ ends (sAt ss k)
  · rw [if_pos z] at d
    by_cases y : deg ss (without st k) (c : Int) = 0
    · have x : deg ss st (c : Int) = 1 := by omega
      have w : (c : Int) ∈ closed ss st k := m.mpr ⟨z, x⟩
      simp [w, x, y]
    · have x : ¬ deg ss st (c : Int) = 1 := by omega
      have w : ¬ (c : Int) ∈ closed ss st k := fun q => x (m.mp q).2
      rw [if_pos (by simp; omega), if_neg (by simp [w]), if_pos (by simp; omega)]
  · rw [if_neg z, Nat.zero_add] at d
    have w : ¬ (c : Int) ∈ closed ss st k := fun q => z (m.mp q).1
    simp [w, d]
theorem gains_sum {n : Int} {ss : List (Int × Int)} (g : GoodW n ss) : ∀ (o st : List Nat), o.Perm st → st.Nodup → (∀ k ∈ st, k < ss.length) → (gains ss o st).sum = (openC n ss st).length
  | [], st, p, _, _ => by
    have e : st = [] := List.Perm.nil_eq p ▸ rfl
    subst e
    rw [open_len]
    exact (List.countP_eq_zero.mpr fun a _ => by simp [deg]).symm
  | k :: o, st, p, hn, hl => by
    have hk : k ∈ st := p.mem_iff.mp List.mem_cons_self
    have p2 : o.Perm (without st k) := (p.trans (perm_without hn hk)).cons_inv
    rw [gains, List.sum_cons, gains_sum g o (without st k) p2 (hn.sublist List.filter_sublist) fun j hj => hl j (without_mem hj), open_step g hn hk (hl k hk)]
theorem gains_len (ss : List (Int × Int)) : ∀ (o st : List Nat), (gains ss o st).length = o.length
  | [], _ => rfl
  | k :: o, st => by rw [gains, List.length_cons, List.length_cons, gains_len ss o]
theorem gains_le (ss : List (Int × Int)) : ∀ (o st : List Nat), ∀ x ∈ gains ss o st, x ≤ 2
  | [], _, x, h => nomatch h
  | k :: o, st, x, h => by
    cases h with
    | head => exact closed_len
    | tail _ h => exact gains_le ss o _ x h
theorem cnt_id : ∀ (gs : List Nat), (∀ x ∈ gs, x ≤ 2) → cnt (fun x => decide (x = 0)) gs = (gs.length : Int) - (gs.sum : Nat) + cnt (fun x => decide (x = 2)) gs
  | [], _ => rfl
  | x :: gs, h => by
    have ih := cnt_id gs fun y hy => h y (List.mem_cons_of_mem _ hy)
    have h2 := h x List.mem_cons_self
    rw [cnt_cons, cnt_cons, List.length_cons, List.sum_cons, ih]
    have : x = 0 ∨ x = 1 ∨ x = 2 := by omega
    rcases this with rfl | rfl | rfl <;> simp <;> omega
theorem add_sum {f : List Int} {w v : Int} (hl : f.length = 2) (hw : w = 0 ∨ w = 1) : (addAt f w v).sum = f.sum + v := by
  match f, hl with
  | [a, b], _ =>
    rcases hw with rfl | rfl <;> simp [addAt] <;> omega
theorem scores_sum : ∀ (gs : List Nat) (w : Int) (f : List Int), f.length = 2 → (w = 0 ∨ w = 1) → (scoresL gs w f).sum = f.sum + (gs.sum : Nat)
  | [], w, f, _, _ => by simp [scoresL]
  | x :: gs, w, f, hl, hw => by
    rw [scoresL, scores_sum gs (nextW x w) (addAt f w x) (by rw [addAt_len]; exact hl) (nextW_01 hw), add_sum hl hw, List.sum_cons]
    omega
theorem play_sum {n : Int} {ss : List (Int × Int)} {o st : List Nat} (g : GoodW n ss) (h : StOk ss.length st) (p : o.Perm st) : fSum [.tup ((playL ss o st).map D.int)] = some (.int ((openC n ss st).length : Int)) := by
  show (nums _).map _ = _
  rw [nums_map]
  show some (D.int (playL ss o st).sum) = _
  unfold playL
  rw [scores_sum _ 0 [0, 0] rfl (.inl rfl), gains_sum g o st p h.nodup h.lt]
  simp
theorem none_id {n : Int} {ss : List (Int × Int)} {o st : List Nat} (g : GoodW n ss) (h : StOk ss.length st) (p : o.Perm st) : cnt (fun x => decide (x = 0)) (gains ss o st) = (st.length : Int) - ((openC n ss st).length : Int) + cnt (fun x => decide (x = 2)) (gains ss o st) := by
  rw [cnt_id _ (gains_le ss o st), gains_len, gains_sum g o st p h.nodup h.lt, p.length_eq]
end DL

set_option Elab.async false
set_option linter.all false
set_option maxRecDepth 100000
namespace DL
open PySem PySem.Spec L2
/-! ### what can be shown -/
theorem ok_app {a b : Str} (h : PyData.strOk a = true) (h2 : PyData.strOk b = true) : PyData.strOk (a ++ b) = true := by
  unfold PyData.strOk at *
  rw [show (a ++ b).cps = a.cps ++ b.cps from rfl, Array.all_append, h, h2]
  rfl
theorem ok_string (x : String) : PyData.strOk (Str.ofString x) = true := by
  rw [Str.ofString_eq_toList]
  unfold PyData.strOk
  rw [List.all_toArray, List.all_map, List.all_eq_true]
  intro c _
  show decide (c.toNat < 0x110000) = true
  rw [decide_eq_true_eq]
  have := c.valid
  show c.val.toNat < _
  rcases this with h | ⟨_, h⟩ <;> omega
theorem ok_join {s : Str} (hs : PyData.strOk s = true) : ∀ {ts : List Str}, (∀ t ∈ ts, PyData.strOk t = true) → PyData.strOk (Str.join s ts) = true
  | [], _ => by show PyData.strOk Str.empty = true; decide +kernel
  | [x], h => h x List.mem_cons_self
  | x :: y :: r, h => ok_app (ok_app (h x List.mem_cons_self) hs) (ok_join hs fun t ht => h t (List.mem_cons_of_mem _ ht))
theorem ok_tuple {ts : List Str} (h : ∀ t ∈ ts, PyData.strOk t = true) : PyData.strOk (tupleText ts) = true := by
  unfold tupleText
  refine ok_app (ok_app (ok_string _) (ok_join (ok_string _) h)) ?_
  split <;> exact ok_string _
theorem ok_list {ts : List Str} (h : ∀ t ∈ ts, PyData.strOk t = true) : PyData.strOk (listText ts) = true := by
  rw [listText_eq_join]
  exact ok_app (ok_app (ok_string _) (ok_join (ok_string _) h)) (ok_string _)
structure Nice (w p : Nat) (d : D) : Prop where
  sh : shwD d = true
  sb : (toPy d).showable = true
  lf : (toPy d).leavesShort 8 = true
  wt : (toPy d).weight ≤ w
  dp : (toPy d).depth ≤ p
  dc : (toPy d).hasDict = false
  ok : PyData.strOk (toPy d).shown = true
structure Nices (w p : Nat) (ds : List D) : Prop where
  sh : shwDs ds = true
  sb : PyData.showableAll (toPys ds) = true
  lf : PyData.leavesShortAll 8 (toPys ds) = true
  wt : PyData.weightAll (toPys ds) ≤ w
  dp : PyData.depthAll (toPys ds) ≤ p
  dc : PyData.hasDictAll (toPys ds) = false
  ok : ∀ t ∈ PyData.shownAll (toPys ds), PyData.strOk t = true
theorem Nices.nil : Nices 0 0 [] := ⟨rfl, rfl, rfl, Nat.le_refl _, Nat.le_refl _, rfl, fun _ h => nomatch h⟩
theorem Nices.cons {w v p q : Nat} {d : D} {ds : List D} (h : Nice w p d) (h2 : Nices v q ds) : Nices (w + 1 + v) (max p q) (d :: ds) := by
  obtain ⟨a1, a2, a3, a4, a5, a6, a7⟩ := h
  obtain ⟨b1, b2, b3, b4, b5, b6, b7⟩ := h2
  refine ⟨?_, ?_, ?_, ?_, ?_, ?_, ?_⟩
  · rw [shwDs, a1, b1]; rfl
  · rw [toPys, PyData.showableAll, a2, b2]; rfl
  · rw [toPys, PyData.leavesShortAll, a3, b3]; rfl
  · rw [toPys, PyData.weightAll]; omega
  · rw [toPys, PyData.depthAll]; omega
  · rw [toPys, PyData.hasDictAll, a6, b6]; rfl
  · rw [toPys, PyData.shownAll]
    intro t ht
    cases ht with
    | head => exact a7
    | tail _ ht => exact b7 t ht
theorem Nices.tup {w p : Nat} {ds : List D} (h : Nices w p ds) : Nice w (p + 1) (.tup ds) := by
  obtain ⟨a1, a2, a3, a4, a5, a6, a7⟩ := h
  refine ⟨?_, ?_, ?_, ?_, ?_, ?_, ?_⟩
  · rw [shwD, a1]
  · rw [toPy, PyData.showable, a2]
  · rw [toPy, PyData.leavesShort, a3]
  · rw [toPy, PyData.weight]; exact a4
  · rw [toPy, PyData.depth]; omega
  · rw [toPy, PyData.hasDict, a6]
  · rw [toPy, PyData.shown]; exact ok_tuple a7
theorem Nices.lst {w p : Nat} {ds : List D} (h : Nices w p ds) : Nice w (p + 1) (.lst ds) := by
  obtain ⟨a1, a2, a3, a4, a5, a6, a7⟩ := h
  refine ⟨?_, ?_, ?_, ?_, ?_, ?_, ?_⟩
  · rw [shwD, a1]
  · rw [toPy, PyData.showable, a2]
  · rw [toPy, PyData.leavesShort, a3]
  · rw [toPy, PyData.weight]; exact a4
  · rw [toPy, PyData.depth]; omega
  · rw [toPy, PyData.hasDict, a6]
  · rw [toPy, PyData.shown]; exact ok_list a7
theorem Nice.non : Nice 0 0 .non := ⟨rfl, rfl, rfl, Nat.le_refl _, Nat.le_refl _, rfl, ok_string _⟩
theorem Nice.bl (b : Bool) : Nice 0 0 (.bl b) := ⟨rfl, rfl, rfl, Nat.le_refl _, Nat.le_refl _, rfl, by cases b <;> exact ok_string _⟩
theorem Nice.le {w v p q : Nat} {d : D} (h : Nice w p d) (h1 : w ≤ v) (h2 : p ≤ q) : Nice v q d := ⟨h.sh, h.sb, h.lf, Nat.le_trans h.wt h1, Nat.le_trans h.dp h2, h.dc, h.ok⟩
theorem nice_small : ∀ k < 40, (PyData.int ((k : Nat) : Int)).showable = true ∧ (PyData.int ((k : Nat) : Int)).leavesShort 8 = true ∧ (PyData.int ((k : Nat) : Int)).weight ≤ 8 := by decide +kernel
theorem Nice.nat {k : Nat} (h : k < 40) : Nice 8 0 (.int (k : Int)) := by
  obtain ⟨a, b, c⟩ := nice_small k h
  exact ⟨rfl, a, b, c, Nat.le_refl _, rfl, ok_string _⟩
theorem Nice.neg1 : Nice 8 0 (.int (-1)) := ⟨rfl, by decide +kernel, by decide +kernel, by decide +kernel, Nat.le_refl _, rfl, ok_string _⟩
theorem nices_nat : ∀ {st : List Nat}, (∀ k ∈ st, k < 40) → Nices (9 * st.length) 0 (natD st)
  | [], _ => .nil
  | k :: st, h => by
    have a := Nices.cons (Nice.nat (h k List.mem_cons_self)) (nices_nat fun j hj => h j (List.mem_cons_of_mem _ hj))
    rw [List.length_cons, show 9 * (st.length + 1) = 8 + 1 + 9 * st.length by omega]
    exact a
theorem Nice.word {x : Str} (h : (x.cps.toList.all fun c => decide (c < 16 ^ 8)) = true) (hl : x.cps.size ≤ 60) (ho : PyData.strOk (reprText x) = true) : Nice 60 0 (.str x) := ⟨rfl, rfl, by rw [toPy, PyData.leavesShort]; exact h, by rw [toPy, PyData.weight]; exact hl, Nat.le_refl _, rfl, ho⟩
theorem repr_nice {w p : Nat} {ds : List D} (h : Nices w p ds) (hw : w ≤ 10000) (hp : p ≤ 50) : ∃ s, fRepr [.tup ds] = some (.str s) ∧ PyData.strOk s = true := by
  have t := h.tup
  refine ⟨_, if_pos ⟨h.sh, t.sb, ?_, Nat.le_trans t.dp (by omega), fun z => ?_⟩, t.ok⟩
  · have := PyData.shown_le 8 (Nat.le_refl _) _ t.lf
    have := t.wt
    have : sizeLine = 16777216 := by decide
    omega
  · rw [t.dc] at z
    cases z
theorem okEq_str {x : Str} (h : PyData.strOk x = true) : okEq (.str x) = true := by
  show (true && (PyData.strOk x && true)) = true
  rw [h]
  rfl
theorem eqv_str (x : Str) : PyData.eqv (toPy (.str x)) (toPy (.str x)) = true := by
  show (x == x) = true
  exact beq_self_eq_true x
theorem oNe_same (x : Str) (h : PyData.strOk x = true) : oNe (.str x) (.str x) = some (.bl false) := by
  unfold oNe
  rw [okEq_str h, eqv_str]
  rfl
theorem oEq_same (x : Str) (h : PyData.strOk x = true) : oEq (.str x) (.str x) = some (.bl true) := by
  unfold oEq
  rw [okEq_str h, eqv_str]
  rfl
abbrev refCmp (o : D → D → Option D) (ws : List (String × Str)) (fb : SEnv → M D) (w : Str) (fd : SEnv → M D) : SEnv → M D := d2 o (dCall fRepr (lCons (dRef ws fb) lNil)) (dCall fRepr (lCons (dTup (lCons (fun _ => pure (.str w)) (lCons fd lNil))) lNil))
theorem e_ref {ws : List (String × Str)} {fb : SEnv → M D} {δ : SEnv} {R R1 : Option Rw} {c : String} {w : Str} {d : D} (h : fb δ R = .exn c d R1) (hw : ws.lookup c = some w) : dRef ws fb δ R = .ok (.tup [.str w, d]) R1 := by
  unfold dRef
  rw [h]
  simp only
  rw [hw]
theorem e_refCmp {o : D → D → Option D} {ws : List (String × Str)} {fb fd : SEnv → M D} {δ : SEnv} {R R1 : Option Rw} {c : String} {w : Str} {d : D} {b : Bool} {wt dp : Nat} (ho : ∀ x, PyData.strOk x = true → o (.str x) (.str x) = some (.bl b)) (h : fb δ R = .exn c d R1) (hw : ws.lookup c = some w) (hd : fd δ R1 = .ok d R1)
    (n : Nice wt dp d) (hn : wt ≤ 9000) (hp : dp ≤ 50) (hx : (w.cps.toList.all fun c => decide (c < 16 ^ 8)) = true) (hl : w.cps.size ≤ 60) (hr : PyData.strOk (reprText w) = true) : refCmp o ws fb w fd δ R = .ok (.bl b) R1 := by
  obtain ⟨s, e, os⟩ := repr_nice (Nices.cons (Nice.word hx hl hr) (Nices.cons n .nil)) (by omega) (by omega)
  exact e_d2 (e_call (e_cons (e_ref h hw) e_nil) e) (e_call (e_cons (e_tup (e_cons rfl (e_cons hd e_nil)) (by show 2 ≤ sizeLine; decide)) e_nil) e) (ho s os)
/-! ### alike -/
mutual
def aok : Nat → D → Bool
  | 0, _ => false
  | n + 1, .tup ds => decide (ds.length ≤ 1000) && aoks n ds
  | n + 1, .lst ds => decide (ds.length ≤ 1000) && aoks n ds
  | n + 1, .int _ => true
  | n + 1, .bl _ => true
  | n + 1, .non => true
  | _, _ => false
def aoks : Nat → List D → Bool
  | _, [] => true
  | n, d :: ds => aok n d && aoks n ds
end
theorem aoks_mem : ∀ {n : Nat} {ds : List D}, aoks n ds = true → ∀ d ∈ ds, aok n d = true
  | n, d :: ds, h, x, hx => by
    rw [aoks, Bool.and_eq_true] at h
    cases hx with
    | head => exact h.1
    | tail _ hx => exact aoks_mem h.2 x hx
theorem alike_comp {FF : List D → M D} {ds : List D} {x : D} {δ : SEnv} {R : Option Rw} (hx : x = .tup ds ∨ x = .lst ds) (hl : ds.length ≤ 1000) (hF : ∀ d ∈ ds, ∀ R, FF [d, d] R = .ok (.bl true) R) :
    d2 oEq (dComp [2] (.nm 2) (iCall rng1 (lCons (dCall fLen (lCons (dVar 1) lNil)) lNil)) (bNot (dT (dFn 2 FF (lCons (d2 oIx (dVar 0) (dVar 2)) (lCons (d2 oIx (dVar 1) (dVar 2)) lNil))))) (dVar 2)) (dLst lNil) [.dat x, .dat x, .none, .none] R = .ok (.bl true) R := by
  have hlen : fLen [x] = some (.int (ds.length : Int)) := by rcases hx with rfl | rfl <;> rfl
  have e : dComp [2] (.nm 2) (iCall rng1 (lCons (dCall fLen (lCons (dVar 1) lNil)) lNil)) (bNot (dT (dFn 2 FF (lCons (d2 oIx (dVar 0) (dVar 2)) (lCons (d2 oIx (dVar 1) (dVar 2)) lNil))))) (dVar 2) [.dat x, .dat x, .none, .none] R = .ok (.lst (((rangeD 0 ds.length).filter fun _ => false).map id)) R := by
    refine e_comp (e_icall (e_cons (e_call (e_cons (e_var rfl) e_nil) hlen) e_nil) (rng1_nat hl)) (by rw [rangeD_length]; exact Nat.le_trans hl (by decide)) fun d hd => ?_
    rw [rangeD_nat] at hd
    obtain ⟨i, hi, rfl⟩ := mem_natD hd
    have hi' : i < ds.length := List.mem_range.mp hi
    have hat : oIx x (.int (i : Int)) = some ds[i] := by rcases hx with rfl | rfl <;> exact atI_nat (List.getElem?_eq_getElem hi')
    refine ⟨_, rfl, fun R => ?_, fun q => nomatch q⟩
    exact e_not (k := true) (e_dTb (Eq.trans (e_fn (e_cons (e_d2 (e_var rfl) (e_var rfl) hat) (e_cons (e_d2 (e_var rfl) (e_var rfl) hat) e_nil)) rfl) (hF _ (List.getElem_mem hi') R)))
  rw [show ((rangeD 0 ds.length).filter fun _ => false) = [] from List.filter_eq_nil_iff.mpr fun _ _ => Bool.false_ne_true] at e
  exact e_d2 e (e_lst e_nil (Nat.zero_le _)) rfl
theorem alike_seq {n : Nat} {ds : List D} {x : D} {b : Bool} {R : Option Rw} (hx : x = .tup ds ∨ x = .lst ds) (hL : isiD "list" x = some (.bl b)) (hl : ds.length ≤ 1000) (hF : ∀ d ∈ ds, ∀ R, FR__law_alike n [d, d] R = .ok (.bl true) R) : FR__law_alike (n + 1) [x, x] R = .ok (.bl true) R := by
  have hlen : fLen [x] = some (.int (ds.length : Int)) := by rcases hx with rfl | rfl <;> rfl
  have hT : isiD2 "tuple" "list" x = some (.bl true) := by rcases hx with rfl | rfl <;> rfl
  have i0 : dVar 0 [.dat x, .dat x, .none, .none] R = .ok x R := e_var rfl
  have i1 : dVar 1 [.dat x, .dat x, .none, .none] R = .ok x R := e_var rfl
  have t0 : dT (d1 (isiD2 "tuple" "list") (dVar 1)) [.dat x, .dat x, .none, .none] R = .ok true R := e_dTb (e_d1 i1 hT)
  have t1 : bOr (bNot (dT (d1 (isiD2 "tuple" "list") (dVar 0)))) (dB (d2 oNe (d1 (isiD "list") (dVar 0)) (d1 (isiD "list") (dVar 1)))) [.dat x, .dat x, .none, .none] R = .ok false R := by
    refine (e_orF (e_not (k := true) (e_dTb (e_d1 i0 hT)))).trans ?_
    have e := e_dB (e_d2 (e_d1 i0 hL) (e_d1 i1 hL) (oNe_bl b b))
    rw [decide_eq_true rfl] at e
    exact e
  have t2 : dB (d2 oNe (dCall fLen (lCons (dVar 0) lNil)) (dCall fLen (lCons (dVar 1) lNil))) [.dat x, .dat x, .none, .none] R = .ok false R := by
    have e := e_dB (e_d2 (e_call (e_cons i0 e_nil) hlen) (e_call (e_cons i1 e_nil) hlen) (oNe_int (ds.length : Int) (ds.length : Int)))
    rw [decide_eq_true rfl] at e
    exact e
  show fin (sem__law_alike (FR__law_alike n) [.dat x, .dat x, .none, .none] R) = _
  unfold sem__law_alike
  rw [s_seqR ((s_ifT t0).trans ((s_skip t1).trans ((s_skip t2).trans (s_ret (alike_comp (δ := []) hx hl hF)))))]
  rfl
theorem alike_same : ∀ (n : Nat) (d : D) (R : Option Rw), aok n d = true → FR__law_alike n [d, d] R = .ok (.bl true) R
  | 0, d, R, h => by cases d <;> cases h
  | n + 1, .str _, R, h => by cases h
  | n + 1, .dic, R, h => by cases h
  | n + 1, .web _ _, R, h => by cases h
  | n + 1, .row _, R, h => by cases h
  | n + 1, .fn _, R, h => by cases h
  | n + 1, .tup ds, R, h => by
    rw [aok, Bool.and_eq_true, decide_eq_true_eq] at h
    exact alike_seq (n := n) (b := false) (.inl rfl) rfl h.1 fun d hd R => alike_same n d R (aoks_mem h.2 d hd)
  | n + 1, .lst ds, R, h => by
    rw [aok, Bool.and_eq_true, decide_eq_true_eq] at h
    exact alike_seq (n := n) (b := true) (.inr rfl) rfl h.1 fun d hd R => alike_same n d R (aoks_mem h.2 d hd)
  | n + 1, .int i, R, _ => by
    have a1 : isiD2 "tuple" "list" (.int i) = some (.bl false) := rfl
    have a2 : isiD "dict" (.int i) = some (.bl false) := rfl
    have a3 : isiD "str" (.int i) = some (.bl false) := rfl
    have a4 : isiD "int" (.int i) = some (.bl true) := rfl
    have a5 : isiD "bool" (.int i) = some (.bl false) := rfl
    have a6 : oIsN (.int i) .non = some (.bl false) := rfl
    simp [FR__law_alike, sem__law_alike, startD, N__law_alike, a1, a2, a3, a4, a5, a6]
  | n + 1, .bl i, R, _ => by
    have a1 : isiD2 "tuple" "list" (.bl i) = some (.bl false) := rfl
    have a2 : isiD "dict" (.bl i) = some (.bl false) := rfl
    have a3 : isiD "str" (.bl i) = some (.bl false) := rfl
    have a4 : isiD "int" (.bl i) = some (.bl true) := rfl
    have a5 : isiD "bool" (.bl i) = some (.bl true) := rfl
    have a6 : oIsN (.bl i) .non = some (.bl false) := rfl
    simp [FR__law_alike, sem__law_alike, startD, N__law_alike, a1, a2, a3, a4, a5, a6]
  | n + 1, .non, R, _ => by
    have a1 : isiD2 "tuple" "list" .non = some (.bl false) := rfl
    have a2 : isiD "dict" .non = some (.bl false) := rfl
    have a3 : isiD "str" .non = some (.bl false) := rfl
    have a6 : oIsN .non .non = some (.bl true) := rfl
    have a7 : oEq .non .non = some (.bl true) := rfl
    simp [FR__law_alike, sem__law_alike, startD, N__law_alike, a1, a2, a3, a6, a7]
end DL

set_option Elab.async false
set_option linter.all false
set_option maxRecDepth 100000
namespace DL
open PySem PySem.Spec L2
/-! ### things refused -/
structure Bad (d : D) : Prop where
  pl : pl d = true
  tu : ∀ ds, d = .tup ds → ds.all DL.pl = true ∧ ds.length ≤ sizeLine
  ni : ∃ w p, w ≤ 9000 ∧ p ≤ 50 ∧ Nice w p d
theorem Bad.flat {d : D} (h : DL.pl d = true) (ht : ∀ ds, d ≠ .tup ds) (hn : ∃ w p, w ≤ 9000 ∧ p ≤ 50 ∧ Nice w p d) : Bad d := ⟨h, fun ds e => absurd e (ht ds), hn⟩
theorem Bad.tup {ds : List D} {w p : Nat} (h : ds.all DL.pl = true) (hl : ds.length ≤ 1000) (hn : Nices w p ds) (hw : w ≤ 9000) (hp : p < 50) : Bad (.tup ds) := ⟨rfl, fun es e => by cases e; exact ⟨h, Nat.le_trans hl (by decide)⟩, w, p + 1, hw, hp, hn.tup⟩
theorem Bad.nat {st : List Nat} (h : ∀ k ∈ st, k < 40) (hl : st.length ≤ 500) : Bad (.tup (natD st)) := .tup (pl_nat st) (by rw [natD_len]; omega) (nices_nat h) (by omega) (by omega)
theorem bad_int {k : Nat} (h : k < 40) : Bad (.int (k : Int)) := .flat rfl (fun _ e => nomatch e) ⟨8, 0, by omega, by omega, .nat h⟩
theorem bad_neg1 : Bad (.int (-1)) := .flat rfl (fun _ e => nomatch e) ⟨8, 0, by omega, by omega, .neg1⟩
theorem bad_non : Bad .non := .flat rfl (fun _ e => nomatch e) ⟨0, 0, by omega, by omega, .non⟩
theorem bad_bl (b : Bool) : Bad (.bl b) := .flat rfl (fun _ e => nomatch e) ⟨0, 0, by omega, by omega, .bl b⟩
theorem word0 : Nice 60 0 (.str ("0" : Str)) := .word (by decide +kernel) (by decide +kernel) (by decide +kernel)
theorem bad_0 : Bad (.str ("0" : Str)) := .flat rfl (fun _ e => nomatch e) ⟨60, 0, by omega, by omega, word0⟩
theorem bad_tup1 {d : D} {w p : Nat} (h : pl d = true) (n : Nice w p d) (hw : w ≤ 8000) (hp : p ≤ 40) : Bad (.tup [d]) := .tup (by simp [h]) (by simp) (Nices.cons n .nil) (by omega) (by omega)
theorem srt_perm_eq {a b : List Int} (h : srt a = srt b) : a.Perm b := (srt_perm a).symm.trans (h ▸ srt_perm b)
theorem isOrd_no {o st : List Nat} (h : ¬ o.Perm st) : isOrd st (.tup (natD o)) = false := by
  have h1 : (natD o).all isInt = true := by
    rw [List.all_eq_true]
    intro d hd
    obtain ⟨k, _, rfl⟩ := mem_natD hd
    rfl
  show ((natD o).all isInt && (match nums (natD o) with | some ns => decide (srt ns = srt (st.map fun (k : Nat) => (k : Int))) | none => false)) = false
  rw [h1, natD_ints, nums_map, Bool.true_and]
  simp only [decide_eq_false_iff_not]
  intro e
  have p := (srt_perm_eq e).map Int.toNat
  rw [List.map_map, List.map_map] at p
  have i : ∀ l : List Nat, l.map (Int.toNat ∘ fun (k : Nat) => (k : Int)) = l := fun l => by
    conv => rhs; rw [← List.map_id l]
    exact List.map_congr_left fun k _ => Int.toNat_natCast k
  rw [i, i] at p
  exact h p
theorem natD_rep (k n : Nat) : (List.replicate n (natD [k])).flatten = natD (List.replicate n k) := by
  induction n with
  | zero => rfl
  | succ n ih => rw [List.replicate_succ, List.flatten_cons, ih, List.replicate_succ]; rfl
/-- the wrong orders -/
def wrongO (o : List Nat) : List D := [.tup (natD (o.drop 1)), .tup (natD (o ++ o.take 1)), .lst (natD o), .tup (natD (List.replicate o.length (o.headD 0))), .non, .tup [.non]]
theorem wrong_bad {o st : List Nat} {m : Nat} (h : StOk m st) (m12 : m ≤ 12) (p : o.Perm st) (hl : 1 < o.length) : ∀ d ∈ wrongO o, Bad d ∧ isOrd st d = false := by
  have hlt : ∀ k ∈ o, k < 40 := fun k hk => Nat.lt_of_lt_of_le (h.lt k (p.mem_iff.mp hk)) (by omega)
  have ho : o.length ≤ 12 := by rw [p.length_eq]; exact Nat.le_trans h.len m12
  have hd0 : o.headD 0 < 40 := by
    cases o with
    | nil => simp
    | cons k o => exact hlt k List.mem_cons_self
  intro d hd
  unfold wrongO at hd
  simp only [List.mem_cons, List.not_mem_nil, or_false] at hd
  rcases hd with rfl | rfl | rfl | rfl | rfl | rfl
  · exact ⟨.nat (fun k hk => hlt k (List.mem_of_mem_drop hk)) (by rw [List.length_drop]; omega), isOrd_no fun q => by
      have a := q.length_eq
      have b := p.length_eq
      rw [List.length_drop] at a
      omega⟩
  · exact ⟨.nat (fun k hk => by
      rcases List.mem_append.mp hk with hk | hk
      · exact hlt k hk
      · exact hlt k (List.mem_of_mem_take hk)) (by rw [List.length_append, List.length_take]; omega), isOrd_no fun q => by
      have a := q.length_eq
      have b := p.length_eq
      rw [List.length_append, List.length_take] at a
      omega⟩
  · refine ⟨.flat rfl (fun _ e => nomatch e) ⟨_, _, ?_, ?_, (nices_nat hlt).lst⟩, rfl⟩
    · omega
    · omega
  · refine ⟨.nat (fun k hk => (List.eq_of_mem_replicate hk) ▸ hd0) (by rw [List.length_replicate]; omega), isOrd_no fun q => ?_⟩
    have nd := q.nodup_iff.mpr h.nodup
    rw [List.nodup_replicate] at nd
    omega
  · exact ⟨bad_non, rfl⟩
  · exact ⟨bad_tup1 rfl .non (by omega) (by omega), rfl⟩
/-- what is no string of the standing -/
def lackO (m : Nat) (st : List Nat) : List D := natD ((List.range (m + 1)).filter fun k => !inSt st (.int (k : Int))) ++ [.non, .str ("0" : Str), .tup [.int 0], .int (-1), .bl true]
theorem lack_bad {m : Nat} {st : List Nat} (m12 : m ≤ 12) : ∀ d ∈ lackO m st, Bad d ∧ inSt st d = false := by
  intro d hd
  unfold lackO at hd
  rcases List.mem_append.mp hd with hd | hd
  · obtain ⟨k, hk, rfl⟩ := mem_natD hd
    obtain ⟨h1, h2⟩ := List.mem_filter.mp hk
    rw [List.mem_range] at h1
    exact ⟨bad_int (by omega), by simpa using h2⟩
  · simp only [List.mem_cons, List.not_mem_nil, or_false] at hd
    rcases hd with rfl | rfl | rfl | rfl | rfl
    · exact ⟨bad_non, rfl⟩
    · exact ⟨bad_0, rfl⟩
    · exact ⟨bad_tup1 rfl (Nice.nat (k := 0) (by omega)) (by omega) (by omega), rfl⟩
    · refine ⟨bad_neg1, ?_⟩
      unfold inSt
      rw [List.any_eq_false]
      intro j _
      simp
    · exact ⟨bad_bl true, rfl⟩
/-- what is no standing -/
def badS (m : Nat) : List D := [.non, .int 3, .lst [.int 0], .tup [.int (m : Int)], .tup [.int 0, .int 0], .tup [.int 1, .int 0], .tup [.int (-1)], .tup [.str ("0" : Str)], .tup [.bl true], .tup [.int 0, .int (m : Int)]]
theorem badS_bad {m : Nat} (m12 : m ≤ 12) : ∀ d ∈ badS m, Bad d ∧ rising d 0 ((m : Int) - 1) = false := by
  intro d hd
  unfold badS at hd
  simp only [List.mem_cons, List.not_mem_nil, or_false] at hd
  have n0 : Nice 8 0 (.int 0) := Nice.nat (k := 0) (by omega)
  have n1 : Nice 8 0 (.int 1) := Nice.nat (k := 1) (by omega)
  have nm : Nice 8 0 (.int (m : Int)) := Nice.nat (k := m) (by omega)
  rcases hd with rfl | rfl | rfl | rfl | rfl | rfl | rfl | rfl | rfl | rfl
  · exact ⟨bad_non, rfl⟩
  · exact ⟨bad_int (k := 3) (by omega), rfl⟩
  · exact ⟨.flat rfl (fun _ e => nomatch e) ⟨_, _, by omega, by omega, (Nices.cons n0 .nil).lst⟩, rfl⟩
  · refine ⟨bad_tup1 rfl nm (by omega) (by omega), ?_⟩
    simp [rising, within]
    omega
  · refine ⟨.tup rfl (by simp) (Nices.cons n0 (Nices.cons n0 .nil)) (by omega) (by omega), ?_⟩
    simp [rising, risingL]
  · refine ⟨.tup rfl (by simp) (Nices.cons n1 (Nices.cons n0 .nil)) (by omega) (by omega), ?_⟩
    simp [rising, risingL]
  · refine ⟨bad_tup1 rfl .neg1 (by omega) (by omega), ?_⟩
    simp [rising, within]
  · exact ⟨bad_tup1 rfl word0 (by omega) (by omega), rfl⟩
  · exact ⟨bad_tup1 rfl (.bl true) (by omega) (by omega), rfl⟩
  · refine ⟨.tup rfl (by simp) (Nices.cons n0 (Nices.cons nm .nil)) (by omega) (by omega), ?_⟩
    simp [rising, within]
    omega
theorem f_bad_standing {Γ : Ctx} {q : Addr} {m : Nat} {R : Option Rw} (m12 : m ≤ 12) (hR : Gd q R) : ∃ d R', F__law_bad_standing Γ [.row q, .int (m : Int)] R = .ok d R' ∧ d ∈ badS m ∧ Gd q R' := by
  obtain ⟨d, R', e, hd, g⟩ := f_law_pick (Γ := Γ) (ds := badS m) (by simp [badS]) (by simp [badS]) hR
  refine ⟨d, R', ?_, hd, g⟩
  have st0 : startD N__law_bad_standing [.row q, .int (m : Int)] = [.dat (.row q), .dat (.int (m : Int))] := rfl
  unfold F__law_bad_standing sem__law_bad_standing
  rw [st0]
  have hl : (dLst (lCons (fun _ => pure .non) (lCons (fun _ => pure (.int 3)) (lCons (dLst (lCons (fun _ => pure (.int 0)) lNil)) (lCons (dTup (lCons (dVar 1) lNil)) (lCons (dTup (lCons (fun _ => pure (.int 0)) (lCons (fun _ => pure (.int 0)) lNil))) (lCons (dTup (lCons (fun _ => pure (.int 1)) (lCons (fun _ => pure (.int 0)) lNil))) (lCons (dTup (lCons (d2 oSub (fun _ => pure (.int 0)) (fun _ => pure (.int 1))) lNil)) (lCons (dTup (lCons (fun _ => pure (.str ("0" : Str))) lNil)) (lCons (dTup (lCons (fun _ => pure (.bl true)) lNil)) (lCons (dTup (lCons (fun _ => pure (.int 0)) (lCons (dVar 1) lNil))) lNil)))))))))))
    [.dat (.row q), .dat (.int (m : Int))] R = .ok (.lst (badS m)) R := rfl
  rw [s_ret ((e_fn (n := 2) (e_cons (e_var (i := 0) rfl) (e_cons hl e_nil)) rfl).trans e)]
  rfl
end DL

set_option Elab.async false
set_option linter.all false
set_option maxRecDepth 100000
namespace DL
open PySem PySem.Spec L2
/-! ### what a standing is worth -/
def cutV (g : Nat) (r : Int) : Int := if 0 < g then (g : Int) + r else -r
def wF (ss : List (Int × Int)) : Nat → List Nat → Int
  | 0, _ => 0
  | f + 1, st => if st = [] then 0 else mxI (st.map fun k => cutV (closed ss st k).length (wF ss f (without st k)))
def wv (ss : List (Int × Int)) (st : List Nat) : Int := wF ss st.length st
def wb (ss : List (Int × Int)) (st : List Nat) (k : Nat) : Int := cutV (closed ss st k).length (wv ss (without st k))
theorem without_lt {st : List Nat} {k : Nat} (h : k ∈ st) : (without st k).length < st.length := by
  unfold without
  rw [← List.countP_eq_length_filter]
  have h1 := List.countP_le_length (p := fun j => !decide (j = k)) (l := st)
  by_cases e : List.countP (fun j => !decide (j = k)) st = st.length
  · have := List.countP_eq_length.mp e k h
    simp at this
  · omega
theorem wF_eq (ss : List (Int × Int)) : ∀ (f f' : Nat) (st : List Nat), st.length ≤ f → st.length ≤ f' → wF ss f st = wF ss f' st
  | 0, f', st, h, _ => by
    have e : st = [] := List.length_eq_zero_iff.mp (by omega)
    subst e
    cases f' with
    | zero => rfl
    | succ f' => rw [wF, wF, if_pos rfl]
  | f + 1, 0, st, _, h => by
    have e : st = [] := List.length_eq_zero_iff.mp (by omega)
    subst e
    rw [wF, wF, if_pos rfl]
  | f + 1, f' + 1, st, h, h' => by
    rw [wF, wF]
    by_cases e : st = []
    · rw [if_pos e, if_pos e]
    · rw [if_neg e, if_neg e]
      congr 1
      apply List.map_congr_left
      intro k hk
      have := without_lt hk
      rw [wF_eq ss f f' (without st k) (by omega) (by omega)]
theorem wv_nil (ss : List (Int × Int)) : wv ss [] = 0 := rfl
theorem wv_eq {ss : List (Int × Int)} {st : List Nat} (h : st ≠ []) : wv ss st = mxI (st.map (wb ss st)) := by
  unfold wv
  rw [wF_eq ss st.length (st.length + 1) st (by omega) (by omega), wF, if_neg h]
  congr 1
  apply List.map_congr_left
  intro k hk
  have := without_lt hk
  unfold wb wv
  rw [wF_eq ss st.length (without st k).length (without st k) (by omega) (by omega)]
theorem wb_le {ss : List (Int × Int)} {st : List Nat} {k : Nat} (h : k ∈ st) : wb ss st k ≤ wv ss st := by
  rw [wv_eq (List.ne_nil_of_mem h)]
  exact mxI_le (List.mem_map.mpr ⟨k, h, rfl⟩)
theorem wv_best {ss : List (Int × Int)} {st : List Nat} (h : st ≠ []) : ∃ k ∈ st, wb ss st k = wv ss st := by
  rw [wv_eq h]
  obtain ⟨k, hk, e⟩ := List.mem_map.mp (mxI_mem (ns := st.map (wb ss st)) (by simpa using h))
  exact ⟨k, hk, e⟩
theorem wv_abs (ss : List (Int × Int)) : ∀ (m : Nat) (st : List Nat), st.length ≤ m → -(2 * (st.length : Int)) ≤ wv ss st ∧ wv ss st ≤ 2 * (st.length : Int)
  | 0, st, h => by
    have e : st = [] := List.length_eq_zero_iff.mp (by omega)
    subst e
    simp [wv_nil]
  | m + 1, st, h => by
    by_cases e : st = []
    · subst e
      simp [wv_nil]
    · obtain ⟨k, hk, e⟩ := wv_best (ss := ss) e
      have l := without_lt hk
      obtain ⟨h1, h2⟩ := wv_abs ss m (without st k) (by omega)
      have c := closed_len (ss := ss) (st := st) (k := k)
      rw [← e]
      unfold wb cutV
      split <;> omega
def bestL (ss : List (Int × Int)) (st : List Nat) : List Nat := st.filter fun k => decide (wb ss st k = wv ss st)
theorem bestL_ne {ss : List (Int × Int)} {st : List Nat} (h : st ≠ []) : bestL ss st ≠ [] := by
  obtain ⟨k, hk, e⟩ := wv_best (ss := ss) h
  exact List.ne_nil_of_mem (List.mem_filter.mpr ⟨hk, decide_eq_true e⟩)
theorem bestL_mem {ss : List (Int × Int)} {st : List Nat} {k : Nat} (h : k ∈ bestL ss st) : k ∈ st ∧ wb ss st k = wv ss st := by
  obtain ⟨h1, h2⟩ := List.mem_filter.mp h
  exact ⟨h1, of_decide_eq_true h2⟩
def top1 (ss : List (Int × Int)) (st : List Nat) : Nat := (bestL ss st).headD 0
theorem top1_mem {ss : List (Int × Int)} {st : List Nat} (h : st ≠ []) : top1 ss st ∈ bestL ss st := by
  have hn := bestL_ne (ss := ss) h
  unfold top1
  cases e : bestL ss st with
  | nil => exact absurd e hn
  | cons a r => exact List.mem_cons_self
def ordL (ss : List (Int × Int)) : Nat → List Nat → List Nat
  | 0, _ => []
  | f + 1, st => top1 ss st :: ordL ss f (without st (top1 ss st))
theorem ordL_len (ss : List (Int × Int)) : ∀ (f : Nat) (st : List Nat), (ordL ss f st).length = f
  | 0, _ => rfl
  | f + 1, st => by rw [ordL, List.length_cons, ordL_len ss f]
theorem without_nodup {st : List Nat} {k : Nat} (h : st.Nodup) : (without st k).Nodup := h.sublist List.filter_sublist
theorem without_len1 {st : List Nat} {k : Nat} (hn : st.Nodup) (h : k ∈ st) : (without st k).length + 1 = st.length := by
  rw [(perm_without hn h).length_eq, List.length_cons]
theorem ordL_perm (ss : List (Int × Int)) : ∀ (f : Nat) (st : List Nat), st.Nodup → st.length = f → (ordL ss f st).Perm st
  | 0, st, _, h => by
    have e : st = [] := List.length_eq_zero_iff.mp h
    subst e
    exact .refl _
  | f + 1, st, hn, h => by
    have hne : st ≠ [] := fun e => by subst e; cases h
    have hm := (bestL_mem (top1_mem (ss := ss) hne)).1
    have := without_len1 hn hm
    rw [ordL]
    exact ((ordL_perm ss f (without st (top1 ss st)) (without_nodup hn) (by omega)).cons _).trans (perm_without hn hm).symm
/-- who moves first gains this more -/
def dv : List Nat → Int
  | [] => 0
  | g :: gs => cutV g (dv gs)
theorem dv_ord (ss : List (Int × Int)) : ∀ (f : Nat) (st : List Nat), st.Nodup → st.length = f → dv (gains ss (ordL ss f st) st) = wv ss st
  | 0, st, _, h => by
    have e : st = [] := List.length_eq_zero_iff.mp h
    subst e
    rfl
  | f + 1, st, hn, h => by
    have hne : st ≠ [] := fun e => by subst e; cases h
    have hm := bestL_mem (top1_mem (ss := ss) hne)
    have := without_len1 hn hm.1
    rw [ordL, gains, dv, dv_ord ss f _ (without_nodup hn) (by omega), ← hm.2]
    rfl
theorem scores_dv : ∀ (gs : List Nat) (w x y : Int), (w = 0 ∨ w = 1) → ∃ a b, scoresL gs w [x, y] = [a, b] ∧ a - b = x - y + (if w = 0 then dv gs else -dv gs) ∧ a + b = x + y + (gs.sum : Nat)
  | [], w, x, y, hw => ⟨x, y, rfl, by rw [dv]; split <;> omega, by simp⟩
  | g :: gs, w, x, y, hw => by
    rw [scoresL]
    rcases hw with rfl | rfl
    · have e : addAt [x, y] 0 (g : Int) = [x + g, y] := rfl
      rw [e]
      by_cases h0 : g = 0
      · subst h0
        have en : nextW 0 0 = 1 := rfl
        obtain ⟨a, b, e1, e2, e3⟩ := scores_dv gs 1 (x + ((0 : Nat) : Int)) y (.inr rfl)
        refine ⟨a, b, by rw [en]; exact e1, ?_, ?_⟩
        · rw [e2, if_neg (by decide), if_pos rfl, dv]
          unfold cutV
          rw [if_neg (by decide)]
          omega
        · rw [e3, List.sum_cons]
          omega
      · have en : nextW g 0 = 0 := if_neg h0
        obtain ⟨a, b, e1, e2, e3⟩ := scores_dv gs 0 (x + (g : Int)) y (.inl rfl)
        refine ⟨a, b, by rw [en]; exact e1, ?_, ?_⟩
        · rw [e2, if_pos rfl, if_pos rfl, dv]
          unfold cutV
          rw [if_pos (by omega)]
          omega
        · rw [e3, List.sum_cons]
          omega
    · have e : addAt [x, y] 1 (g : Int) = [x, y + g] := rfl
      rw [e]
      by_cases h0 : g = 0
      · subst h0
        have en : nextW 0 1 = 0 := rfl
        obtain ⟨a, b, e1, e2, e3⟩ := scores_dv gs 0 x (y + ((0 : Nat) : Int)) (.inl rfl)
        refine ⟨a, b, by rw [en]; exact e1, ?_, ?_⟩
        · rw [e2, if_pos rfl, if_neg (by decide), dv]
          unfold cutV
          rw [if_neg (by decide)]
          omega
        · rw [e3, List.sum_cons]
          omega
      · have en : nextW g 1 = 1 := if_neg h0
        obtain ⟨a, b, e1, e2, e3⟩ := scores_dv gs 1 x (y + (g : Int)) (.inr rfl)
        refine ⟨a, b, by rw [en]; exact e1, ?_, ?_⟩
        · rw [e2, if_neg (by decide), if_neg (by decide), dv]
          unfold cutV
          rw [if_pos (by omega)]
          omega
        · rw [e3, List.sum_cons]
          omega
end DL

set_option Elab.async false
set_option linter.all false
set_option maxRecDepth 100000
namespace DL
open PySem PySem.Spec L2
/-! ### the program's worth -/
def ints_ (st : List Nat) : List Int := st.map fun (k : Nat) => (k : Int)
theorem nums_nat : ∀ st : List Nat, nums (natD st) = some (ints_ st)
  | [] => rfl
  | k :: st => by
    show nums (.int (k : Int) :: natD st) = _
    unfold nums
    rw [nums_nat st]
    rfl
theorem nums_intsD : ∀ xs : List Int, nums (xs.map D.int) = some xs
  | [] => rfl
  | x :: xs => by
    show nums (.int x :: xs.map D.int) = _
    unfold nums
    rw [nums_intsD xs]
    rfl
theorem sti_nat {m : Nat} {st : List Nat} (h : StOk m st) (hm : m ≤ 12) : StI (ints_ st) := by
  refine ⟨?_, fun k hk => ?_⟩
  · unfold ints_
    rw [List.pairwise_map]
    exact h.inc.imp fun h => by omega
  · obtain ⟨j, hj, rfl⟩ := List.mem_map.mp hk
    have := h.lt j hj
    omega
theorem e_map {δ : SEnv} {R : Option Rw} {vs : List Nat} {t : Tgt} {fi : SEnv → M (List D)} {fe : SEnv → M D} {f : Nat → D} {st : List Nat} (h : fi δ R = .ok (natD st) R) (hl : st.length ≤ 12) (hc : ∀ k ∈ st, ∃ δ1, bindT t (.int (k : Int)) (blkD δ vs) = some δ1 ∧ ∀ R, fe δ1 R = .ok (f k) R) :
    dComp vs t fi bYes fe δ R = .ok (.lst (st.map f)) R := by
  refine (e_compY (g := fun d => match d with | .int k => f k.toNat | _ => .non) h (by rw [natD_len]; exact small12 hl) fun d hd => ?_).trans ?_
  · obtain ⟨k, hk, rfl⟩ := mem_natD hd
    exact hc k hk
  · unfold natD
    rw [List.map_map]
    congr 2
theorem e_neg {δ : SEnv} {R : Option Rw} {fe : SEnv → M D} {i : Int} (h : fe δ R = .ok (.int i) R) : d1 oNeg fe δ R = .ok (.int (-i)) R := e_d1 h rfl
section
variable {δ : SEnv} {R R1 R2 R3 R4 : Option Rw} {F : List D → M D} {fa fb fc fd : SEnv → M D} {a b c d : D} {r : Out D}
theorem q1 (ha : fa δ R = .ok a R1) (h : F [a] R1 = r) : dFn 1 F (lCons fa lNil) δ R = r := (e_fn (n := 1) (e_cons ha e_nil) rfl).trans h
theorem q2 (ha : fa δ R = .ok a R1) (hb : fb δ R1 = .ok b R2) (h : F [a, b] R2 = r) : dFn 2 F (lCons fa (lCons fb lNil)) δ R = r := (e_fn (n := 2) (e_cons ha (e_cons hb e_nil)) rfl).trans h
theorem q3 (ha : fa δ R = .ok a R1) (hb : fb δ R1 = .ok b R2) (hc : fc δ R2 = .ok c R3) (h : F [a, b, c] R3 = r) : dFn 3 F (lCons fa (lCons fb (lCons fc lNil))) δ R = r := (e_fn (n := 3) (e_cons ha (e_cons hb (e_cons hc e_nil))) rfl).trans h
theorem q4 (ha : fa δ R = .ok a R1) (hb : fb δ R1 = .ok b R2) (hc : fc δ R2 = .ok c R3) (hd : fd δ R3 = .ok d R4) (h : F [a, b, c, d] R4 = r) : dFn 4 F (lCons fa (lCons fb (lCons fc (lCons fd lNil)))) δ R = r := (e_fn (n := 4) (e_cons ha (e_cons hb (e_cons hc (e_cons hd e_nil)))) rfl).trans h
end
section
variable {Γ : Ctx} {n : Int} {ss : List (Int × Int)}
abbrev ValOk (Γ : Ctx) (n : Int) (ss : List (Int × Int)) : Prop := ∀ st : List Nat, Γ.val n ss (ints_ st) = wv ss st
theorem s_cache {i j : Nat} {fe : SEnv → M D} {δ : SEnv} {R : Option Rw} {ds : List D} {st : List Int} {v : Int} (h1 : δ[i]? = some (.dat (.web n ss))) (h2 : δ[j]? = some (.dat (.tup ds))) (h3 : nums ds = some st) (h4 : fe δ R = .ok (.int v) R) (h5 : v = Γ.val n ss st) (h6 : StI st) : sCache Γ i j fe δ R = .rt (.int v) R := by
  unfold sCache
  rw [h1, h2]
  simp only
  rw [h3]
  simp only
  rw [h4]
  simp only
  rw [if_pos ⟨h5, trivial, h6⟩]
theorem e_sel {δ : SEnv} {R : Option Rw} {vs : List Nat} {t : Tgt} {fi : SEnv → M (List D)} {ft : SEnv → M Bool} {fe : SEnv → M D} {p : Nat → Bool} {st : List Nat} (h : fi δ R = .ok (natD st) R) (hl : st.length ≤ 12) (hc : ∀ k ∈ st, ∃ δ1, bindT t (.int (k : Int)) (blkD δ vs) = some δ1 ∧ (∀ R, ft δ1 R = .ok (p k) R) ∧ ∀ R, fe δ1 R = .ok (.int (k : Int)) R) :
    dComp vs t fi ft fe δ R = .ok (.lst (natD (st.filter p))) R := by
  refine (e_comp (p := fun d => match d with | .int k => p k.toNat | _ => false) (g := id) h (by rw [natD_len]; exact small12 hl) fun d hd => ?_).trans ?_
  · obtain ⟨k, hk, rfl⟩ := mem_natD hd
    obtain ⟨δ1, e1, e2, e3⟩ := hc k hk
    exact ⟨δ1, e1, e2, fun _ => e3⟩
  · rw [List.map_id, natD_filter]
    rfl
end
end DL

set_option Elab.async false
set_option linter.all false
set_option maxRecDepth 100000
namespace DL
open PySem PySem.Spec L2
/-! ### best orders, shares -/
theorem atI_last {α : Type} (xs : List α) (x : α) : L2.atI (xs ++ [x]) (-1) = some x := by
  unfold L2.atI L2.ixN
  rw [if_neg (by decide)]
  have h : (0 : Int) ≤ -1 + ((xs ++ [x]).length : Int) := by
    rw [List.length_append, List.length_singleton]
    omega
  rw [if_pos (by first | exact h | (rw [List.length_append, List.length_singleton]; omega))]
  simp only [Option.bind_some, List.length_append, List.length_singleton]
  have e : (-1 + ((xs.length + 1 : Nat) : Int)).toNat = xs.length := by omega
  first
    | rw [e, List.getElem?_concat_length]
    | (rw [show (((xs.length + 1 : Nat) : Int) + -1).toNat = xs.length by omega, List.getElem?_concat_length])
section
variable {Γ : Ctx} {n : Int} {ss : List (Int × Int)}
theorem best_top {st : List Nat} (h : st ≠ []) : oIx (.tup (natD (bestL ss st))) (.int 0) = some (.int (top1 ss st : Int)) := by
  have hn := bestL_ne (ss := ss) h
  unfold top1
  cases e : bestL ss st with
  | nil => exact absurd e hn
  | cons a r => exact atI_nat (k := 0) rfl
/-- how many coins both close -/
def shareL (n : Int) (ss : List (Int × Int)) (st : List Nat) : Int × Int := ((((openC n ss st).length : Int) + wv ss st) / 2, (((openC n ss st).length : Int) - wv ss st) / 2)
/-- the best order shares as told -/
theorem play_best (g : GoodW n ss) {st : List Nat} (h : StOk ss.length st) : playL ss (ordL ss st.length st) st = [(shareL n ss st).1, (shareL n ss st).2] ∧ (shareL n ss st).1 - (shareL n ss st).2 = wv ss st ∧ (shareL n ss st).1 + (shareL n ss st).2 = ((openC n ss st).length : Int) := by
  have p := ordL_perm ss st.length st h.nodup rfl
  obtain ⟨a, b, e1, e2, e3⟩ := scores_dv (gains ss (ordL ss st.length st) st) 0 0 0 (.inl rfl)
  rw [if_pos rfl, dv_ord ss st.length st h.nodup rfl] at e2
  rw [gains_sum g _ st p h.nodup h.lt] at e3
  have ea : (shareL n ss st).1 = a := by
    show (((openC n ss st).length : Int) + wv ss st) / 2 = a
    omega
  have eb : (shareL n ss st).2 = b := by
    show (((openC n ss st).length : Int) - wv ss st) / 2 = b
    omega
  rw [ea, eb]
  exact ⟨e1, by omega, by omega⟩
/-! ### refused -/
theorem need_bad {d : D} {R : Option Rw} (hb : Bad d) (hr : rising d 0 ((ss.length : Int) - 1) = false) : F_need_standing [.web n ss, d] R = .exn "BadStanding" d R := by
  rw [f_need_standing hb.pl hb.tu, hr]
  rfl
end
end DL

set_option Elab.async false
set_option linter.all false
set_option maxRecDepth 100000
namespace DL
open PySem PySem.Spec L2
/-! ### standings as numbers -/
def bitsL (m x : Nat) : List Nat := (List.range m).filter fun k => x.testBit k
def maskL (st : List Nat) : Nat := (st.map fun k => 2 ^ k).sum
theorem bits_succ (m x : Nat) : bitsL (m + 1) x = bitsL m x ++ (if x.testBit m = true then [m] else []) := by
  unfold bitsL
  rw [List.range_succ, List.filter_append]
  congr 1
  cases h : x.testBit m <;> simp [List.filter_cons, h]
theorem bits_low (m x : Nat) : bitsL m (2 ^ m + x) = bitsL m x := by
  unfold bitsL
  apply List.filter_congr
  intro k hk
  rw [Nat.testBit_two_pow_add_gt (List.mem_range.mp hk)]
theorem mask_app (a b : List Nat) : maskL (a ++ b) = maskL a + maskL b := by
  unfold maskL
  rw [List.map_append, List.sum_append]
theorem bits_ok (m x : Nat) : StOk m (bitsL m x) := ⟨List.Pairwise.filter _ List.pairwise_lt_range, fun k hk => List.mem_range.mp (List.mem_filter.mp hk).1⟩
theorem mask_bits : ∀ (m x : Nat), x < 2 ^ m → maskL (bitsL m x) = x
  | 0, x, h => by
    have : x = 0 := by simpa using h
    subst this
    rfl
  | m + 1, x, h => by
    rw [bits_succ, mask_app]
    by_cases hx : x < 2 ^ m
    · rw [Nat.testBit_lt_two_pow hx, mask_bits m x hx]
      rfl
    · obtain ⟨y, rfl⟩ : ∃ y, x = 2 ^ m + y := ⟨x - 2 ^ m, by omega⟩
      have hy : y < 2 ^ m := by rw [Nat.pow_succ] at h; omega
      rw [bits_low, mask_bits m y hy, Nat.testBit_two_pow_add_eq, Nat.testBit_lt_two_pow hy]
      show y + maskL [m] = _
      unfold maskL
      simp
      omega
theorem st_split {m : Nat} : ∀ {st : List Nat}, st.Pairwise (· < ·) → (∀ k ∈ st, k < m + 1) → ∃ st', StOk m st' ∧ (st = st' ∨ st = st' ++ [m])
  | [], _, _ => ⟨[], ⟨.nil, fun _ h => nomatch h⟩, .inl rfl⟩
  | a :: r, hp, hl => by
    obtain ⟨p1, p2⟩ := List.pairwise_cons.mp hp
    obtain ⟨r', h1, h2⟩ := st_split p2 fun k hk => hl k (List.mem_cons_of_mem _ hk)
    by_cases ha : a = m
    · have hr : r = [] := by
        cases r with
        | nil => rfl
        | cons b r =>
          have x := p1 b List.mem_cons_self
          have y := hl b (List.mem_cons_of_mem _ List.mem_cons_self)
          omega
      exact ⟨[], ⟨.nil, fun _ h => nomatch h⟩, .inr (by rw [hr, ha]; rfl)⟩
    · have hs : ∀ k ∈ r', k ∈ r := fun k hk => by
        rcases h2 with h2 | h2 <;> rw [h2]
        · exact hk
        · exact List.mem_append_left _ hk
      refine ⟨a :: r', ⟨List.pairwise_cons.mpr ⟨fun k hk => p1 k (hs k hk), h1.inc⟩, fun k hk => ?_⟩, ?_⟩
      · cases hk with
        | head => have := hl a List.mem_cons_self; omega
        | tail _ hk => exact h1.lt k hk
      · rcases h2 with h2 | h2 <;> rw [h2]
        · exact .inl rfl
        · exact .inr rfl
theorem mask_st : ∀ (m : Nat) (st : List Nat), StOk m st → maskL st < 2 ^ m ∧ bitsL m (maskL st) = st
  | 0, st, h => by
    have e : st = [] := by
      cases st with
      | nil => rfl
      | cons a r => have := h.lt a List.mem_cons_self; omega
    subst e
    exact ⟨by decide, rfl⟩
  | m + 1, st, h => by
    obtain ⟨st', h1, h2⟩ := st_split h.inc h.lt
    obtain ⟨i1, i2⟩ := mask_st m st' h1
    rcases h2 with rfl | rfl
    · refine ⟨by rw [Nat.pow_succ]; omega, ?_⟩
      rw [bits_succ, i2, Nat.testBit_lt_two_pow i1]
      simp
    · have e : maskL (st' ++ [m]) = 2 ^ m + maskL st' := by
        rw [mask_app]
        have : maskL [m] = 2 ^ m := by simp [maskL]
        omega
      rw [e]
      refine ⟨by rw [Nat.pow_succ]; omega, ?_⟩
      rw [bits_succ, bits_low, i2, Nat.testBit_two_pow_add_eq, Nat.testBit_lt_two_pow i1]
      rfl
theorem sum_perm : ∀ {a b : List Nat}, a.Perm b → a.sum = b.sum
  | _, _, .nil => rfl
  | _, _, .cons x h => by rw [List.sum_cons, List.sum_cons, sum_perm h]
  | _, _, .swap x y l => by simp only [List.sum_cons]; omega
  | _, _, .trans h h2 => (sum_perm h).trans (sum_perm h2)
theorem mask_without {st : List Nat} {k : Nat} (hn : st.Nodup) (hk : k ∈ st) : maskL st = 2 ^ k + maskL (without st k) := by
  have := sum_perm ((perm_without hn hk).map fun k => 2 ^ k)
  unfold maskL
  rw [this, List.map_cons, List.sum_cons]
theorem e_shl {k : Nat} (h : k ≤ 1000) : oShl (.int 1) (.int (k : Int)) = some (.int ((2 ^ k : Nat) : Int)) := by
  show (if CPow 1 (k : Int) then some (D.int (1 * 2 ^ (k : Int).toNat)) else none) = _
  rw [if_pos (by unfold L2.CPow; exact ⟨by omega, by omega, by decide⟩), Int.toNat_natCast, Int.one_mul]
  congr 2
  first | done | (push_cast; rfl) | push_cast
theorem shr_bit {x k : Nat} : ∃ i, oShr (.int (x : Int)) (.int (k : Int)) = some (.int i) ∧ decide (i % 2 = 1) = x.testBit k := by
  refine ⟨((x / 2 ^ k : Nat) : Int), ?_, ?_⟩
  · show (if (0 : Int) ≤ (k : Int) then some (D.int ((x : Int) / 2 ^ (k : Int).toNat)) else none) = _
    rw [if_pos (by omega), Int.toNat_natCast]
    congr 2
    first | done | (push_cast; rfl) | push_cast
  · rw [Nat.testBit_eq_decide_div_mod_eq, decide_eq_decide]
    omega
theorem sum_ints (st : List Nat) : ((st.map fun k => 2 ^ k).map fun (j : Nat) => (j : Int)).sum = ((maskL st : Nat) : Int) := by
  unfold maskL
  induction st with
  | nil => rfl
  | cons a r ih =>
    simp only [List.map_cons, List.sum_cons]
    rw [ih]
    omega
/-! ### the law's table -/
def tabW (ss : List (Int × Int)) (x : Nat) : List Int := (List.range x).map fun j => wv ss (bitsL ss.length j)
theorem tabW_len (ss : List (Int × Int)) (x : Nat) : (tabW ss x).length = x := by simp [tabW]
theorem tabW_get {ss : List (Int × Int)} {x j : Nat} (h : j < x) : (tabW ss x).getD j 0 = wv ss (bitsL ss.length j) := by
  unfold tabW
  simp [List.getD, h]
theorem tabW_succ (ss : List (Int × Int)) (x : Nat) : tabW ss (x + 1) = tabW ss x ++ [wv ss (bitsL ss.length x)] := by
  unfold tabW
  rw [List.range_succ, List.map_append]
  rfl
def mxF (t : Int) (ns : List Int) : Int := ns.foldl (fun t v => if v > t then v else t) t
theorem mxF_le : ∀ (ns : List Int) (t : Int), t ≤ mxF t ns ∧ (∀ v ∈ ns, v ≤ mxF t ns) ∧ (mxF t ns = t ∨ mxF t ns ∈ ns)
  | [], t => ⟨Int.le_refl t, fun v h => (List.not_mem_nil h).elim, Or.inl rfl⟩
  | a :: r, t => by
    obtain ⟨h1, h2, h3⟩ := mxF_le r (if a > t then a else t)
    have e : mxF t (a :: r) = mxF (if a > t then a else t) r := rfl
    rw [e]
    generalize mxF (if a > t then a else t) r = z at h1 h2 h3
    refine ⟨?_, fun v hv => ?_, ?_⟩
    · split at h1 <;> omega
    · cases hv with
      | head => split at h1 <;> omega
      | tail _ hv => exact h2 v hv
    · rcases h3 with h3 | h3
      · rw [h3]
        split
        · exact .inr List.mem_cons_self
        · exact .inl rfl
      · exact .inr (List.mem_cons_of_mem _ h3)
theorem mxF_eq {ns : List Int} {t : Int} (hne : ns ≠ []) (h : ∀ v ∈ ns, t < v) : mxF t ns = mxI ns := by
  obtain ⟨h1, h2, h3⟩ := mxF_le ns t
  have hm := mxI_mem hne
  have a := h2 _ hm
  have b := h _ hm
  rcases h3 with h3 | h3
  · omega
  · have := mxI_le h3
    omega
section
variable {n : Int} {ss : List (Int × Int)}
abbrev LwS (ss : List (Int × Int)) (x : Nat) (a3 a4 a5 a6 a7 a8 : SD) : SEnv := [.dat (.lst (ss.map pairD)), .dat (.int (ss.length : Int)), .own ((tabW ss x).map D.int), a3, a4, a5, a6, a7, a8]
theorem e_gain {δ : SEnv} {R : Option Rw} {i j : Nat} {g : Nat} {r : Int} (h1 : δ[i]? = some (.dat (.int (g : Int)))) (h2 : δ[j]? = some (.dat (.int r))) : dIf (dB (d2 oGt (dVar i) (fun _ => pure (.int 0)))) (d2 oPlus (dVar i) (dVar j)) (d2 oSub (fun _ => pure (.int 0)) (dVar j)) δ R = .ok (.int (cutV g r)) R := by
  have t := e_dB (e_d2 (f := oGt) (fb := fun _ => pure (.int 0)) (R2 := R) (e_var (R := R) h1) rfl (oGt_int _ _))
  unfold cutV
  by_cases h0 : 0 < g
  · rw [decide_eq_true (by omega)] at t
    rw [e_ifT t, if_pos h0]
    exact e_d2 (e_var h1) (e_var h2) (oPlus_int _ _)
  · rw [decide_eq_false (by omega)] at t
    rw [e_ifF t, if_neg h0]
    refine e_d2 (R1 := R) rfl (e_var h2) ?_
    rw [oSub_int]
    congr 2
    omega
theorem rangeD_one (c : Nat) : rangeD 1 c = natD (List.range' 1 c) := by
  unfold rangeD natD
  rw [List.range'_eq_map_range, List.map_map]
  apply List.map_congr_left
  intro i _
  show D.int (1 + (i : Int)) = D.int ((1 + i : Nat) : Int)
  rw [show (1 + (i : Int)) = ((1 + i : Nat) : Int) by omega]
theorem rng2_nat {c : Nat} (h1 : 1 ≤ c) (h : c ≤ 5000) : rng2 [.int 1, .int (c : Int)] = some (rangeD 1 (c - 1)) := by
  unfold rng2
  simp only
  have q3 : ((c : Int) - 1).toNat = c - 1 := by omega
  rw [if_pos ⟨by omega, by omega, by omega, by omega⟩, q3]
theorem tabAt {st : List Nat} (h : StOk ss.length st) : oIx (.lst ((tabW ss (2 ^ ss.length)).map D.int)) (.int ((maskL st : Nat) : Int)) = some (.int (wv ss st)) := by
  obtain ⟨w1, w2⟩ := mask_st _ _ h
  rw [getD_at (by omega) (by rw [tabW_len]; omega), Int.toNat_natCast, tabW_get w1, w2]
end
end DL

set_option Elab.async false
set_option linter.all false
set_option maxRecDepth 100000
namespace DL
open PySem PySem.Spec L2
/-! ### small things -/
theorem aoks_ints {n : Nat} : ∀ xs : List Int, aoks (n + 1) (xs.map D.int) = true
  | [] => rfl
  | x :: xs => by
    rw [List.map_cons, aoks, aoks_ints xs]
    rfl
theorem aok_tup {n : Nat} {xs : List Int} (h : xs.length ≤ 1000) : aok (n + 2) (.tup (xs.map D.int)) = true := by
  rw [aok, aoks_ints, List.length_map, decide_eq_true h]
  rfl
theorem aok_nat {n : Nat} {st : List Nat} (h : st.length ≤ 1000) : aok (n + 2) (.tup (natD st)) = true := by
  have := aok_tup (n := n) (xs := ints_ st) (by unfold ints_; rw [List.length_map]; exact h)
  unfold ints_ at this
  rw [List.map_map] at this
  exact this
theorem e_alike {fa fb : SEnv → M D} {δ : SEnv} {R : Option Rw} {d : D} (ha : fa δ R = .ok d R) (hb : fb δ R = .ok d R) (h : aok 8 d = true) : bNot (dT (dFn 2 (FR__law_alike 8) (lCons fa (lCons fb lNil)))) δ R = .ok false R :=
  e_not (k := true) (e_dTb (Eq.trans (e_fn (e_cons ha (e_cons hb e_nil)) rfl) (alike_same 8 d R h)))
theorem e_held {i n : Nat} {tab : FTab} {fs : SEnv → M (List D)} {δ : SEnv} {R : Option Rw} {x : String} {F : List D → M D} (h : δ[i]? = some (.dat (.fn x))) (hl : tab.lookup x = some (n, F)) : dHeld i tab fs δ R = dFn n F fs δ R := by
  unfold dHeld
  rw [h]
  simp only [hl]
theorem oNe_eq {i j : Int} (h : i = j) : oNe (.int i) (.int j) = some (.bl false) := by
  rw [oNe_int, decide_eq_true h]
  rfl
theorem s_parM2R {δ : SEnv} {R R1 R2 : Option Rw} {i j : Nat} {fa fb : SEnv → M D} {x y : D} (ha : fa δ R = .ok x R1) (hb : fb δ R1 = .ok y R2) : sParM [i, j] (mDat fa (mDat fb mNil)) δ R = .nx ((δ.set i (.dat x)).set j (.dat y)) R2 := by
  unfold sParM sBind
  have e : mDat fa (mDat fb mNil) δ R = .ok [.dat x, .dat y] R2 := m_dat ha (m_dat hb rfl)
  rw [e]
  rfl
/-! ### what is no web -/
def badW : List D := [.non, .int 3, .tup [.int 1, .tup []], .str ("web" : Str), .lst [], .dic]
theorem badW_ok {d : D} (h : d ∈ badW) : pl d = true ∧ ∃ s, fRepr [.tup [.str ("web" : Str), d]] = some (.str s) ∧ PyData.strOk s = true := by
  have hw : Nice 60 0 (.str ("web" : Str)) := .word (by decide +kernel) (by decide +kernel) (by decide +kernel)
  unfold badW at h
  simp only [List.mem_cons, List.not_mem_nil, or_false] at h
  rcases h with rfl | rfl | rfl | rfl | rfl | rfl
  · exact ⟨rfl, repr_nice (Nices.cons hw (Nices.cons .non .nil)) (by omega) (by omega)⟩
  · exact ⟨rfl, repr_nice (Nices.cons hw (Nices.cons (Nice.nat (k := 3) (by omega)) .nil)) (by omega) (by omega)⟩
  · exact ⟨rfl, repr_nice (Nices.cons hw (Nices.cons (Nices.cons (Nice.nat (k := 1) (by omega)) (Nices.cons Nices.nil.tup .nil)).tup .nil)) (by omega) (by omega)⟩
  · exact ⟨rfl, repr_nice (Nices.cons hw (Nices.cons hw .nil)) (by omega) (by omega)⟩
  · exact ⟨rfl, repr_nice (Nices.cons hw (Nices.cons Nices.nil.lst .nil)) (by omega) (by omega)⟩
  · refine ⟨rfl, (toPy (.tup [.str ("web" : Str), .dic])).shown, if_pos ⟨by decide +kernel, by decide +kernel, by decide +kernel, by decide +kernel, fun _ => by decide +kernel⟩, by decide +kernel⟩
theorem f_bad_web {Γ : Ctx} {q : Addr} {R : Option Rw} (hR : Gd q R) : ∃ d R', F__law_bad_web Γ [.row q] R = .ok d R' ∧ d ∈ badW ∧ Gd q R' := by
  obtain ⟨d, R', e, hd, g⟩ := f_law_pick (Γ := Γ) (ds := badW) (by simp [badW]) (by simp [badW]) hR
  refine ⟨d, R', ?_, hd, g⟩
  have st0 : startD N__law_bad_web [.row q] = [.dat (.row q)] := rfl
  unfold F__law_bad_web sem__law_bad_web
  rw [st0]
  have hl : (dLst (lCons (fun _ => pure .non) (lCons (fun _ => pure (.int 3)) (lCons (dTup (lCons (fun _ => pure (.int 1)) (lCons (dTup lNil) lNil))) (lCons (fun _ => pure (.str ("web" : Str))) (lCons (dLst lNil) (lCons (fun _ => pure .dic) lNil)))))))
    [.dat (.row q)] R = .ok (.lst badW) R := rfl
  rw [s_ret (q2 (e_var (i := 0) rfl) hl e)]
  rfl
theorem e_refCmpS {o : D → D → Option D} {ws : List (String × Str)} {fb fd : SEnv → M D} {δ : SEnv} {R R1 : Option Rw} {c : String} {w : Str} {d : D} {b : Bool} (ho : ∀ x, PyData.strOk x = true → o (.str x) (.str x) = some (.bl b)) (h : fb δ R = .exn c d R1) (hw : ws.lookup c = some w) (hd : fd δ R1 = .ok d R1)
    (hs : ∃ s, fRepr [.tup [.str w, d]] = some (.str s) ∧ PyData.strOk s = true) : refCmp o ws fb w fd δ R = .ok (.bl b) R1 := by
  obtain ⟨s, e, os⟩ := hs
  exact e_d2 (e_call (e_cons (e_ref h hw) e_nil) e) (e_call (e_cons (e_tup (e_cons rfl (e_cons hd e_nil)) (by show 2 ≤ sizeLine; decide)) e_nil) e) (ho s os)
theorem bad_shown {d : D} {w : Str} (hb : Bad d) (hx : (w.cps.toList.all fun c => decide (c < 16 ^ 8)) = true) (hl : w.cps.size ≤ 60) (hr : PyData.strOk (reprText w) = true) : ∃ s, fRepr [.tup [.str w, d]] = some (.str s) ∧ PyData.strOk s = true := by
  obtain ⟨wt, dp, h1, h2, ni⟩ := hb.ni
  exact repr_nice (Nices.cons (Nice.word hx hl hr) (Nices.cons ni .nil)) (by omega) (by omega)
/-- what is no string of a standing -/
def lackW (m : Nat) : List D := [.int (m : Int), .non, .int (-1), .str ("1" : Str), .tup [.int 0]]
theorem word1 : Nice 60 0 (.str ("1" : Str)) := .word (by decide +kernel) (by decide +kernel) (by decide +kernel)
theorem lackW_bad {m : Nat} {st : List Nat} (m12 : m ≤ 12) (h : StOk m st) : ∀ d ∈ lackW m, Bad d ∧ inSt st d = false := by
  intro d hd
  unfold lackW at hd
  simp only [List.mem_cons, List.not_mem_nil, or_false] at hd
  rcases hd with rfl | rfl | rfl | rfl | rfl
  · refine ⟨bad_int (k := m) (by omega), ?_⟩
    unfold inSt
    rw [List.any_eq_false]
    intro j hj
    have := h.lt j hj
    simp
    omega
  · exact ⟨bad_non, rfl⟩
  · refine ⟨bad_neg1, ?_⟩
    unfold inSt
    rw [List.any_eq_false]
    intro j _
    simp
  · exact ⟨.flat rfl (fun _ e => nomatch e) ⟨60, 0, by omega, by omega, word1⟩, rfl⟩
  · exact ⟨bad_tup1 rfl (Nice.nat (k := 0) (by omega)) (by omega) (by omega), rfl⟩
/-! ### the law's loops -/
abbrev Lw (q : Addr) (n : Int) (ss : List (Int × Int)) (a7 a8 a9 a10 a11 a12 a13 a14 a15 a16 a17 a18 a19 : SD) : SEnv :=
  [.none, .dat (.row q), .dat (.int n), .dat (.lst (ss.map pairD)), .dat (.web n ss), .dat (.int (ss.length : Int)), .dat (.lst ((tabW ss (2 ^ ss.length)).map D.int)), a7, a8, a9, a10, a11, a12, a13, a14, a15, a16, a17, a18, a19]
section
variable {Γ : Ctx} {q : Addr} {n : Int} {ss : List (Int × Int)} {st : List Nat} {a7 a8 a9 a12 a13 a14 a15 a16 a17 a18 a19 : SD} {R : Option Rw}
theorem best_take {st : List Nat} (h : st ≠ []) : (bestL ss st).take 1 = [top1 ss st] := by
  have hn := bestL_ne (ss := ss) h
  unfold top1
  cases e : bestL ss st with
  | nil => exact absurd e hn
  | cons a r => rfl
end
end DL

set_option Elab.async false
set_option linter.all false
set_option maxRecDepth 100000
namespace DL
open PySem PySem.Spec L2
section
variable {n : Int} {ss : List (Int × Int)}
/-! ### whole, strings at a coin -/
theorem rg_nat (m : Nat) (h : m ≤ 1000) : rgTup [.int (m : Int)] = some (.tup (natD (List.range m))) := by
  unfold rgTup
  simp only
  rw [if_pos ⟨by omega, by omega⟩, Int.toNat_natCast, rangeD_nat]
theorem f_whole {R : Option Rw} (g : GoodW n ss) : F_whole [.web n ss] R = .ok (.tup (natD (List.range ss.length))) R := by
  unfold F_whole sem_whole
  have st0 : startD N_whole [.web n ss] = [.dat (.web n ss)] := rfl
  rw [st0, s_seq (s_drop (q1 (e_var rfl) f_need_web)), s_ret (e_call (e_cons (e_call (e_cons (e_d1 (f := webStrs) (e_var rfl) rfl) e_nil) (fLen_tup _)) e_nil) (by rw [List.length_map]; exact rg_nat _ (by have := g.len; omega)))]
  rfl
theorem f_wholeX {d : D} {R : Option Rw} (h : pl d = true) : F_whole [d] R = .exn "BadWeb" d R := by
  unfold F_whole sem_whole
  have st0 : startD N_whole [d] = [.dat d] := rfl
  rw [st0, s_seqX (s_dropX (q1 (e_var rfl) (f_need_webX h)))]
  rfl
theorem f_need_coin {d : D} {R : Option Rw} (h : pl d = true) : F_need_coin [.web n ss, d] R = if within d 0 (n - 1) = true then .ok .non R else .exn "BadCoin" d R := by
  unfold F_need_coin sem_need_coin
  have st0 : startD N_need_coin [.web n ss, d] = [.dat (.web n ss), .dat d] := rfl
  have t : bNot (dT (dFn 3 F_is_within (lCons (dVar 1) (lCons (fun _ => pure (.int 0)) (lCons (d2 oSub (d1 webCoins (dVar 0)) (fun _ => pure (.int 1))) lNil))))) [.dat (.web n ss), .dat d] R = .ok (!within d 0 (n - 1)) R :=
    e_not (e_dTb (q3 (e_var rfl) (b := .int 0) (R2 := R) rfl (e_d2 (e_d1 (f := webCoins) (e_var rfl) rfl) (R2 := R) rfl (oSub_int _ _)) (f_is_within h)))
  rw [st0]
  cases hw : within d 0 (n - 1) with
  | true =>
    rw [hw] at t
    rw [s_ifF t, if_pos rfl]
    rfl
  | false =>
    rw [hw] at t
    rw [s_ifT t, if_neg (by decide), s_raise (e_var rfl)]
    rfl
theorem in_pair (p : Int × Int) (c : Int) : oInA (.int c) (pairD p) = some (.bl (decide (p.1 = c) || decide (p.2 = c))) := by
  show orO oIn oInD _ _ = _
  unfold orO
  have e : oIn (.int c) (pairD p) = some (.bl (decide (p.1 = c) || decide (p.2 = c))) := by
    show some (D.bl ((p.1 == c) || ((p.2 == c) || false))) = _
    rw [Bool.or_false]
    congr 2
  rw [e]
theorem f_strings_of {st : List Nat} {c : Int} {R : Option Rw} (g : GoodW n ss) (h : StOk ss.length st) (h0 : 0 ≤ c) (h1 : c < n) : F_strings_of [.web n ss, .tup (natD st), .int c] R = .ok (.tup (natD (lawAt ss st c))) R := by
  have hl : st.length ≤ 12 := Nat.le_trans h.len g.len
  unfold F_strings_of sem_strings_of
  have st0 : startD N_strings_of [.web n ss, .tup (natD st), .int c] = [.dat (.web n ss), .dat (.tup (natD st)), .dat (.int c), .none] := rfl
  have hw : within (.int c) 0 (n - 1) = true := by
    show (decide ((0 : Int) ≤ c) && decide (c ≤ n - 1)) = true
    rw [decide_eq_true h0, decide_eq_true (show c ≤ n - 1 by omega)]
    rfl
  have e2 := e_sel (δ := [.dat (.web n ss), .dat (.tup (natD st)), .dat (.int c), .none]) (R := R) (vs := [3]) (t := .nm 3) (fi := iSeq (dVar 1)) (ft := dB (d2 oInA (dVar 2) (d2 oIx (d1 webStrs (dVar 0)) (dVar 3)))) (fe := dVar 3) (p := fun k => decide ((sAt ss k).1 = c) || decide ((sAt ss k).2 = c)) (e_seq (e_var rfl) rfl) hl
    fun k hk => ⟨_, rfl, fun R => e_dB (e_d2 (e_var rfl) (e_d2 (e_d1 (f := webStrs) (e_var rfl) rfl) (e_var rfl) (str_at (h.lt k hk))) (in_pair _ _)), fun R => e_var rfl⟩
  rw [st0, s_seq (s_drop (q2 (e_var rfl) (e_var rfl) (need_st g h))), s_seq (s_drop (q2 (e_var rfl) (e_var rfl) (by rw [f_need_coin rfl, if_pos hw]))), s_ret (e_call (e_cons e2 e_nil) rfl)]
  rfl
theorem f_strings_ofC {st : List Nat} {d : D} {R : Option Rw} (g : GoodW n ss) (h : StOk ss.length st) (hp : pl d = true) (hw : within d 0 (n - 1) = false) : F_strings_of [.web n ss, .tup (natD st), d] R = .exn "BadCoin" d R := by
  unfold F_strings_of sem_strings_of
  have st0 : startD N_strings_of [.web n ss, .tup (natD st), d] = [.dat (.web n ss), .dat (.tup (natD st)), .dat d, .none] := rfl
  rw [st0, s_seq (s_drop (q2 (e_var rfl) (e_var rfl) (need_st g h))), s_seqX (s_dropX (q2 (e_var rfl) (e_var rfl) (by rw [f_need_coin hp, if_neg (by rw [hw]; decide)])))]
  rfl
theorem f_strings_ofS {d e : D} {R : Option Rw} (hb : Bad d) (hr : rising d 0 ((ss.length : Int) - 1) = false) : F_strings_of [.web n ss, d, e] R = .exn "BadStanding" d R := by
  unfold F_strings_of sem_strings_of
  have st0 : startD N_strings_of [.web n ss, d, e] = [.dat (.web n ss), .dat d, .dat e, .none] := rfl
  rw [st0, s_seqX (s_dropX (q2 (e_var rfl) (e_var rfl) (need_bad hb hr)))]
  rfl
theorem f_strings_ofW {d e f : D} {R : Option Rw} (h : pl d = true) : F_strings_of [d, e, f] R = .exn "BadWeb" d R := by
  unfold F_strings_of sem_strings_of
  have st0 : startD N_strings_of [d, e, f] = [.dat d, .dat e, .dat f, .none] := rfl
  rw [st0, s_seqX (s_dropX (q2 (e_var rfl) (e_var rfl) (f_need_standingX h)))]
  rfl
theorem f_open_coinsS {d : D} {R : Option Rw} (hb : Bad d) (hr : rising d 0 ((ss.length : Int) - 1) = false) : F_open_coins [.web n ss, d] R = .exn "BadStanding" d R := by
  unfold F_open_coins sem_open_coins
  have st0 : startD N_open_coins [.web n ss, d] = [.dat (.web n ss), .dat d, .none, .none] := rfl
  rw [st0, s_seqX (s_dropX (q2 (e_var rfl) (e_var rfl) (need_bad hb hr)))]
  rfl
/-! ### webs that are none -/
theorem e_webX {F : List D → M D} {fs : SEnv → M (List D)} {δ : SEnv} {R R1 R2 : Option Rw} {ds : List D} {c : String} {d : D} (h : fs δ R = .ok ds R1) (hn : ds.length = 2) (e : F ds R1 = .exn c d R2) : dWeb F fs δ R = .exn c d R2 := by
  unfold dWeb
  rw [bind_ok h, if_pos hn, bind_exn e]
theorem f_webC {c s : D} {R : Option Rw} (hc : pl c = true) (hs : pl s = true) (hw : within c 1 9 = false) : F_Web [c, s] R = .exn "BadCoins" c R := by
  unfold F_Web
  simp only
  rw [if_pos (by rw [hc, hs]; rfl), if_neg (by rw [hw]; decide)]
theorem f_webS {s : D} {R : Option Rw} (h1 : 1 ≤ n) (h9 : n ≤ 9) (hs : pl s = true) (hq : seqD s = none) : F_Web [.int n, s] R = .exn "BadStrings" (.int (-1)) R := by
  have hw : within (.int n) 1 9 = true := by simp [within]; exact ⟨h1, h9⟩
  unfold F_Web
  simp only
  rw [if_pos (by rw [hs]; rfl), if_pos hw]
  simp only [hq]
theorem f_webL {xs : List D} {R : Option Rw} (h1 : 1 ≤ n) (h9 : n ≤ 9) (ha : xs.all pl2 = true) (hl : xs.length ≤ sizeLine) (h12 : 12 < xs.length) : F_Web [.int n, .lst xs] R = .exn "BadStrings" (.int (-1)) R := by
  have hw : within (.int n) 1 9 = true := by simp [within]; exact ⟨h1, h9⟩
  unfold F_Web
  simp only
  rw [if_pos (show (pl (.int n) && pl (.lst xs)) = true from rfl), if_pos hw]
  simp only [seqD]
  rw [if_pos ⟨ha, hl⟩, if_pos h12]
theorem f_webI {xs : List D} {i : Int} {R : Option Rw} (h1 : 1 ≤ n) (h9 : n ≤ 9) (ha : xs.all pl2 = true) (h12 : xs.length ≤ 12) (hf : firstBad n xs 0 = some i) : F_Web [.int n, .lst xs] R = .exn "BadStrings" (.int i) R := by
  have hw : within (.int n) 1 9 = true := by simp [within]; exact ⟨h1, h9⟩
  unfold F_Web
  simp only
  rw [if_pos (show (pl (.int n) && pl (.lst xs)) = true from rfl), if_pos hw]
  simp only [seqD]
  rw [if_pos ⟨ha, small12 h12⟩, if_neg (by omega)]
  simp only [hf]
/-! ### alike -/
theorem aoks_pairs {m : Nat} : ∀ ps : List (Int × Int), aoks (m + 2) (ps.map pairD) = true
  | [] => by rw [List.map_nil, aoks]
  | p :: ps => by
    rw [List.map_cons, aoks, aoks_pairs ps, Bool.and_true]
    rfl
theorem aok_pairs {m : Nat} {ps : List (Int × Int)} (h : ps.length ≤ 1000) : aok (m + 3) (.tup (ps.map pairD)) = true := by
  rw [aok, List.length_map, decide_eq_true h, aoks_pairs]
  rfl
theorem oNe_ints (xs ys : List Int) : oNe (.lst (xs.map D.int)) (.lst (ys.map D.int)) = some (.bl (!decide (xs = ys))) := by
  unfold oNe
  rw [okEq_ints, okEq_ints]
  show some (D.bl (!PyData.eqvAll (toPys (xs.map D.int)) (toPys (ys.map D.int)))) = _
  rw [eqv_ints]
theorem ne_nil (l : List Nat) : oNe (.lst (natD l)) (.lst []) = some (.bl (decide (0 < l.length))) := by
  have z := oNe_ints (ints_ l) []
  have e : natD l = (ints_ l).map D.int := natD_ints l
  rw [e]
  refine (show oNe (.lst ((ints_ l).map D.int)) (.lst []) = _ from z).trans ?_
  congr 2
  cases l <;> rfl
end
end DL

set_option Elab.async false
set_option linter.all false
set_option maxRecDepth 100000
namespace DL
open PySem PySem.Spec L2
abbrev coinBody : SM := (sIf (bNot (dT (dFn 2 (FR__law_alike 8) (lCons (dFn 3 F_strings_of (lCons (dVar 4) (lCons (dVar 7) (lCons (dVar 9) lNil)))) (lCons (dCall fTuple (lCons (dFn 3 F__law_at (lCons (dVar 3) (lCons (dVar 7) (lCons (dVar 9) lNil)))) lNil)) lNil))))) (sRet (fun _ => pure (.bl false))) sNx)
abbrev turnB (Γ : Ctx) : SM := (sSeq (sSet 7 (dFn 2 (F__law_some Γ) (lCons (dVar 1) (lCons (dVar 5) lNil))))
  (sSeq (sIf (dB (d2 oNotB (dFn 2 F_is_standing (lCons (dVar 4) (lCons (dVar 7) lNil))) (fun _ => pure (.bl true)))) (sRet (fun _ => pure (.bl false))) sNx)
  (sSeq (sSet 8 (dComp [9] (.nm 9) (iCall rng1 (lCons (dVar 2) lNil)) (dB (d2 oNe (dFn 3 F__law_at (lCons (dVar 3) (lCons (dVar 7) (lCons (dVar 9) lNil)))) (dLst lNil))) (dVar 9)))
  (sSeq (sIf (bNot (dT (dFn 2 (FR__law_alike 8) (lCons (dFn 2 F_open_coins (lCons (dVar 4) (lCons (dVar 7) lNil))) (lCons (dCall fTuple (lCons (dVar 8) lNil)) lNil))))) (sRet (fun _ => pure (.bl false))) sNx)
  (sFor (.nm 9) (iCall rng1 (lCons (dVar 2) lNil)) coinBody)))))
abbrev askB (Γ : Ctx) : SM := (sIf (dB (d2 oNe (dCall fRepr (lCons (dRef refW (dHeldL 14 (tab_ask Γ) (lt_ask Γ) (lCons (dVar 12) lNil))) lNil)) (dCall fRepr (lCons (dTup (lCons (fun _ => pure (.str ("web" : Str))) (lCons (dVar 12) lNil))) lNil)))) (sRet (fun _ => pure (.bl false))) sNx)
section
variable {Γ : Ctx} {q : Addr} {n : Int} {ss : List (Int × Int)}
abbrev Lz (q : Addr) (n : Int) (ss : List (Int × Int)) (a6 a7 a8 a9 a10 a11 a12 a13 a14 a15 a16 a17 : SD) : SEnv :=
  [.none, .dat (.row q), .dat (.int n), .dat (.lst (ss.map pairD)), .dat (.web n ss), .dat (.int (ss.length : Int)), a6, a7, a8, a9, a10, a11, a12, a13, a14, a15, a16, a17]
theorem coin_loop {st : List Nat} {a6 a8 a10 a11 a12 a13 a14 a15 a16 a17 : SD} {R : Option Rw} (g : GoodW n ss) (h : StOk ss.length st) : ∀ (cs : List Nat) (a9 : SD), (∀ c ∈ cs, (c : Int) < n) → ∃ b9,
    sLoop (.nm 9) coinBody (natD cs) (Lz q n ss a6 (.dat (.tup (natD st))) a8 a9 a10 a11 a12 a13 a14 a15 a16 a17) R = .nx (Lz q n ss a6 (.dat (.tup (natD st))) a8 b9 a10 a11 a12 a13 a14 a15 a16 a17) R
  | [], a9, _ => ⟨a9, rfl⟩
  | c :: cs, a9, hc => by
    have hl : st.length ≤ 12 := Nat.le_trans h.len g.len
    obtain ⟨b9, ih⟩ := coin_loop (a6 := a6) (a8 := a8) (a10 := a10) (a11 := a11) (a12 := a12) (a13 := a13) (a14 := a14) (a15 := a15) (a16 := a16) (a17 := a17) (R := R) g h cs (.dat (.int (c : Int))) fun x hx => hc x (List.mem_cons_of_mem _ hx)
    refine ⟨b9, (loop_cons (δ1 := Lz q n ss a6 (.dat (.tup (natD st))) a8 (.dat (.int (c : Int))) a10 a11 a12 a13 a14 a15 a16 a17) rfl ?_).trans ih⟩
    have c1 := e_alike (δ := Lz q n ss a6 (.dat (.tup (natD st))) a8 (.dat (.int (c : Int))) a10 a11 a12 a13 a14 a15 a16 a17) (R := R) (d := .tup (natD (lawAt ss st (c : Int)))) (fa := dFn 3 F_strings_of (lCons (dVar 4) (lCons (dVar 7) (lCons (dVar 9) lNil)))) (fb := dCall fTuple (lCons (dFn 3 F__law_at (lCons (dVar 3) (lCons (dVar 7) (lCons (dVar 9) lNil)))) lNil))
      (q3 (e_var rfl) (e_var rfl) (e_var rfl) (f_strings_of g h (by omega) (hc c List.mem_cons_self))) (e_call (e_cons (q3 (e_var rfl) (e_var rfl) (e_var rfl) (f_law_at hl h.lt)) e_nil) rfl) (aok_nat (Nat.le_trans (List.length_filter_le _ _) (by omega)))
    exact (s_ifF c1).trans rfl
theorem due_eq {st : List Nat} (g : GoodW n ss) (h : StOk ss.length st) : (List.range n.toNat).filter (fun (c : Nat) => decide (0 < (lawAt ss st (c : Int)).length)) = openC n ss st := by
  unfold openC
  apply List.filter_congr
  intro c _
  rw [lawAt_len g h.lt (by omega)]
theorem rngN {δ : SEnv} {R : Option Rw} (g : GoodW n ss) (h : δ[2]? = some (.dat (.int n))) : iCall rng1 (lCons (dVar 2) lNil) δ R = .ok (natD (List.range n.toNat)) R := by
  have h9 := g.n9
  have h1 := g.n1
  refine e_icall (e_cons (e_var h) e_nil) ?_
  have e := rng1_nat (m := n.toNat) (by omega)
  rw [Int.toNat_of_nonneg (by omega)] at e
  rw [e, rangeD_nat]
theorem turn_one {a6 a7 a8 a9 a10 a11 a12 a13 a14 a15 a16 a17 : SD} {R : Option Rw} (g : GoodW n ss) (hR : Gd q R) : ∃ b7 b8 b9 R',
    turnB Γ (Lz q n ss a6 a7 a8 a9 a10 a11 a12 a13 a14 a15 a16 a17) R = .nx (Lz q n ss a6 b7 b8 b9 a10 a11 a12 a13 a14 a15 a16 a17) R' ∧ Gd q R' := by
  have m12 := g.len
  have h9 := g.n9
  obtain ⟨st, R1, e1, h, g1⟩ := f_law_some (Γ := Γ) (m := ss.length) m12 hR
  have hl : st.length ≤ 12 := Nat.le_trans h.len m12
  have s1 : sSet 7 (dFn 2 (F__law_some Γ) (lCons (dVar 1) (lCons (dVar 5) lNil))) (Lz q n ss a6 a7 a8 a9 a10 a11 a12 a13 a14 a15 a16 a17) R = .nx (Lz q n ss a6 (.dat (.tup (natD st))) a8 a9 a10 a11 a12 a13 a14 a15 a16 a17) R1 :=
    s_set (q2 (e_var rfl) (e_var rfl) e1)
  have c2 : dB (d2 oNotB (dFn 2 F_is_standing (lCons (dVar 4) (lCons (dVar 7) lNil))) (fun _ => pure (.bl true))) (Lz q n ss a6 (.dat (.tup (natD st))) a8 a9 a10 a11 a12 a13 a14 a15 a16 a17) R1 = .ok false R1 := by
    have e := f_is_standing (n := n) (ss := ss) (d := .tup (natD st)) (R := R1) rfl (tup_hd h m12)
    rw [rising_st h] at e
    exact e_dB (e_d2 (f := oNotB) (q2 (e_var rfl) (e_var rfl) e) (R2 := R1) rfl rfl)
  have e3 := e_sel (δ := Lz q n ss a6 (.dat (.tup (natD st))) a8 a9 a10 a11 a12 a13 a14 a15 a16 a17) (R := R1) (vs := [9]) (t := .nm 9) (fi := iCall rng1 (lCons (dVar 2) lNil)) (ft := dB (d2 oNe (dFn 3 F__law_at (lCons (dVar 3) (lCons (dVar 7) (lCons (dVar 9) lNil)))) (dLst lNil))) (fe := dVar 9)
    (p := fun (c : Nat) => decide (0 < (lawAt ss st (c : Int)).length)) (rngN g rfl) (by rw [List.length_range]; omega) fun c hc => ⟨_, rfl, fun R => e_dB (e_d2 (q3 (e_var rfl) (e_var rfl) (e_var rfl) (f_law_at hl h.lt)) (e_lst e_nil (Nat.zero_le _)) (ne_nil _)), fun R => e_var rfl⟩
  rw [due_eq g h] at e3
  have s3 : sSet 8 (dComp [9] (.nm 9) (iCall rng1 (lCons (dVar 2) lNil)) (dB (d2 oNe (dFn 3 F__law_at (lCons (dVar 3) (lCons (dVar 7) (lCons (dVar 9) lNil)))) (dLst lNil))) (dVar 9)) (Lz q n ss a6 (.dat (.tup (natD st))) a8 a9 a10 a11 a12 a13 a14 a15 a16 a17) R1 = .nx (Lz q n ss a6 (.dat (.tup (natD st))) (.dat (.lst (natD (openC n ss st)))) a9 a10 a11 a12 a13 a14 a15 a16 a17) R1 := s_set e3
  have ol : (openC n ss st).length ≤ 9 := Nat.le_trans (List.length_filter_le _ _) (by rw [List.length_range]; omega)
  have c4 := e_alike (δ := Lz q n ss a6 (.dat (.tup (natD st))) (.dat (.lst (natD (openC n ss st)))) a9 a10 a11 a12 a13 a14 a15 a16 a17) (R := R1) (d := .tup (natD (openC n ss st))) (fa := dFn 2 F_open_coins (lCons (dVar 4) (lCons (dVar 7) lNil))) (fb := dCall fTuple (lCons (dVar 8) lNil)) (q2 (e_var rfl) (e_var rfl) (f_open_coins g h)) (e_call (e_cons (e_var rfl) e_nil) rfl) (aok_nat (by omega))
  obtain ⟨b9, e5⟩ := coin_loop (q := q) (a6 := a6) (a8 := .dat (.lst (natD (openC n ss st)))) (a10 := a10) (a11 := a11) (a12 := a12) (a13 := a13) (a14 := a14) (a15 := a15) (a16 := a16) (a17 := a17) (R := R1) g h (List.range n.toNat) a9 fun c hc => by have := List.mem_range.mp hc; omega
  have s5 := (s_for (t := .nm 9) (body := coinBody) (fi := iCall rng1 (lCons (dVar 2) lNil)) (δ := Lz q n ss a6 (.dat (.tup (natD st))) (.dat (.lst (natD (openC n ss st)))) a9 a10 a11 a12 a13 a14 a15 a16 a17) (R := R1) (rngN g rfl)).trans e5
  exact ⟨_, _, b9, R1, (s_seq s1).trans ((s_skip c2).trans ((s_seq s3).trans ((s_skip c4).trans s5))), g1⟩
theorem turns_loop (g : GoodW n ss) {a10 a11 a12 a13 a14 a15 a16 a17 : SD} : ∀ (xs : List D) (a6 a7 a8 a9 : SD) (R : Option Rw), Gd q R → ∃ b6 b7 b8 b9 R',
    sLoop (.nm 6) (turnB Γ) xs (Lz q n ss a6 a7 a8 a9 a10 a11 a12 a13 a14 a15 a16 a17) R = .nx (Lz q n ss b6 b7 b8 b9 a10 a11 a12 a13 a14 a15 a16 a17) R' ∧ Gd q R'
  | [], a6, a7, a8, a9, R, hR => ⟨a6, a7, a8, a9, R, rfl, hR⟩
  | d :: xs, a6, a7, a8, a9, R, hR => by
    obtain ⟨c7, c8, c9, R1, e1, g1⟩ := turn_one (Γ := Γ) (a6 := .dat d) (a7 := a7) (a8 := a8) (a9 := a9) (a10 := a10) (a11 := a11) (a12 := a12) (a13 := a13) (a14 := a14) (a15 := a15) (a16 := a16) (a17 := a17) g hR
    obtain ⟨b6, b7, b8, b9, R', ih, g'⟩ := turns_loop g xs (.dat d) c7 c8 c9 R1 g1
    exact ⟨b6, b7, b8, b9, R', (loop_cons (δ1 := Lz q n ss (.dat d) a7 a8 a9 a10 a11 a12 a13 a14 a15 a16 a17) rfl e1).trans ih, g'⟩
/-! ### asked of what is no web -/
theorem ask_one {a6 a7 a8 a9 a13 a15 a16 a17 : SD} {w z d : D} {R : Option Rw} (hd : pl d = true) : ∀ x ∈ ["whole", "λ0", "λ1"], dHeldL 14 (tab_ask Γ) (lt_ask Γ) (lCons (dVar 12) lNil) (Lz q n ss a6 a7 a8 a9 (.dat w) (.dat z) (.dat d) a13 (.dat (.fn x)) a15 a16 a17) R = .exn "BadWeb" d R := by
  intro x hx
  simp only [List.mem_cons, List.not_mem_nil, or_false] at hx
  rcases hx with rfl | rfl | rfl
  · have e : dHeldL 14 (tab_ask Γ) (lt_ask Γ) (lCons (dVar 12) lNil) (Lz q n ss a6 a7 a8 a9 (.dat w) (.dat z) (.dat d) a13 (.dat (.fn "whole")) a15 a16 a17) = dHeld 14 (tab_ask Γ) (lCons (dVar 12) lNil) (Lz q n ss a6 a7 a8 a9 (.dat w) (.dat z) (.dat d) a13 (.dat (.fn "whole")) a15 a16 a17) := rfl
    rw [e, e_held (i := 14) (x := "whole") (n := 1) (F := F_whole) rfl rfl]
    exact q1 (e_var rfl) (f_wholeX hd)
  · show (lCons (dVar 12) lNil (Lz q n ss a6 a7 a8 a9 (.dat w) (.dat z) (.dat d) a13 (.dat (.fn "λ0")) a15 a16 a17) >>= fun ds => if ds.length = 1 then G_lam0 Γ (ds.map SD.dat ++ []) else M.stuck) R = _
    rw [bind_ok (e_cons (e_var (d := d) rfl) e_nil)]
    show G_lam0 Γ [.dat d] R = _
    exact q2 (e_var rfl) (e_tup e_nil (Nat.zero_le _)) (f_is_standingX hd)
  · show (lCons (dVar 12) lNil (Lz q n ss a6 a7 a8 a9 (.dat w) (.dat z) (.dat d) a13 (.dat (.fn "λ1")) a15 a16 a17) >>= fun ds => if ds.length = 1 then G_lam1 Γ (ds.map SD.dat ++ [.dat w, .dat z]) else M.stuck) R = _
    rw [bind_ok (e_cons (e_var (d := d) rfl) e_nil)]
    show G_lam1 Γ [.dat d, .dat w, .dat z] R = _
    exact q3 (e_var rfl) (e_var rfl) (e_var rfl) (f_strings_ofW hd)
theorem ask_loop0 {a6 a7 a8 a9 a13 a15 a16 a17 : SD} {w z d : D} {R : Option Rw} (hd : d ∈ badW) : ∀ (xs : List String) (a14 : SD), (∀ x ∈ xs, x ∈ ["whole", "λ0", "λ1"]) → ∃ b14,
    sLoop (.nm 14) (askB Γ) (xs.map D.fn) (Lz q n ss a6 a7 a8 a9 (.dat w) (.dat z) (.dat d) a13 a14 a15 a16 a17) R = .nx (Lz q n ss a6 a7 a8 a9 (.dat w) (.dat z) (.dat d) a13 b14 a15 a16 a17) R
  | [], a14, _ => ⟨a14, rfl⟩
  | x :: xs, a14, hx => by
    obtain ⟨b14, ih⟩ := ask_loop0 (a6 := a6) (a7 := a7) (a8 := a8) (a9 := a9) (a13 := a13) (a15 := a15) (a16 := a16) (a17 := a17) (w := w) (z := z) (R := R) hd xs (.dat (.fn x)) fun y hy => hx y (List.mem_cons_of_mem _ hy)
    refine ⟨b14, (loop_cons (δ1 := Lz q n ss a6 a7 a8 a9 (.dat w) (.dat z) (.dat d) a13 (.dat (.fn x)) a15 a16 a17) rfl ?_).trans ih⟩
    have k := ask_one (Γ := Γ) (q := q) (n := n) (ss := ss) (a6 := a6) (a7 := a7) (a8 := a8) (a9 := a9) (a13 := a13) (a15 := a15) (a16 := a16) (a17 := a17) (w := w) (z := z) (R := R) (badW_ok hd).1 x (hx x List.mem_cons_self)
    exact (s_ifF (e_dB (e_refCmpS (b := false) oNe_same k (w := ("web" : Str)) rfl (e_var rfl) (badW_ok hd).2))).trans rfl
/-! ### things that are refused -/
theorem bs_coin {d : D} (hb : Bad d) : ∃ s, fRepr [.tup [.str ("coin" : Str), d]] = some (.str s) ∧ PyData.strOk s = true := bad_shown hb (by decide +kernel) (by decide +kernel) (by decide +kernel)
theorem bs_coins {d : D} (hb : Bad d) : ∃ s, fRepr [.tup [.str ("coins" : Str), d]] = some (.str s) ∧ PyData.strOk s = true := bad_shown hb (by decide +kernel) (by decide +kernel) (by decide +kernel)
def lackC (m : Nat) : List D := [.int (m : Int), .int (-1), .non, .str ("0" : Str), .int (10 ^ 20), .tup [.int 0]]
theorem lackC_bad {m : Nat} (hm : m ≤ 9) : ∀ d ∈ lackC m, pl d = true ∧ within d 0 ((m : Int) - 1) = false ∧ ∃ s, fRepr [.tup [.str ("coin" : Str), d]] = some (.str s) ∧ PyData.strOk s = true := by
  intro d hd
  unfold lackC at hd
  simp only [List.mem_cons, List.not_mem_nil, or_false] at hd
  rcases hd with rfl | rfl | rfl | rfl | rfl | rfl
  · refine ⟨rfl, ?_, bs_coin (bad_int (by omega))⟩
    show (decide ((0 : Int) ≤ (m : Int)) && decide ((m : Int) ≤ (m : Int) - 1)) = false
    rw [decide_eq_false (show ¬ ((m : Int) ≤ (m : Int) - 1) by omega), Bool.and_false]
  · exact ⟨rfl, rfl, bs_coin bad_neg1⟩
  · exact ⟨rfl, rfl, bs_coin bad_non⟩
  · exact ⟨rfl, rfl, bs_coin bad_0⟩
  · refine ⟨rfl, ?_, ⟨_, if_pos ⟨rfl, by decide +kernel, by decide +kernel, by decide +kernel, by decide +kernel⟩, by decide +kernel⟩⟩
    show (decide ((0 : Int) ≤ 10 ^ 20) && decide ((10 ^ 20 : Int) ≤ (m : Int) - 1)) = false
    rw [decide_eq_false (show ¬ ((10 ^ 20 : Int) ≤ (m : Int) - 1) by omega), Bool.and_false]
  · exact ⟨rfl, rfl, bs_coin (bad_tup1 rfl (.nat (by omega) : Nice 8 0 (.int ((0 : Nat) : Int))) (by omega) (by omega))⟩
def lackN : List D := [.int 0, .int 10, .int (-1), .non, .bl true, .str ("3" : Str), .tup [.int 3], .int (10 ^ 25)]
theorem word3 : Nice 60 0 (.str ("3" : Str)) := .word (by decide +kernel) (by decide +kernel) (by decide +kernel)
theorem lackN_bad : ∀ d ∈ lackN, pl d = true ∧ within d 1 9 = false ∧ ∃ s, fRepr [.tup [.str ("coins" : Str), d]] = some (.str s) ∧ PyData.strOk s = true := by
  intro d hd
  unfold lackN at hd
  simp only [List.mem_cons, List.not_mem_nil, or_false] at hd
  rcases hd with rfl | rfl | rfl | rfl | rfl | rfl | rfl | rfl
  · exact ⟨rfl, rfl, bs_coins (bad_int (k := 0) (by omega))⟩
  · exact ⟨rfl, rfl, bs_coins (bad_int (k := 10) (by omega))⟩
  · exact ⟨rfl, rfl, bs_coins bad_neg1⟩
  · exact ⟨rfl, rfl, bs_coins bad_non⟩
  · exact ⟨rfl, rfl, bs_coins (bad_bl _)⟩
  · exact ⟨rfl, rfl, bs_coins (.flat rfl (fun _ e => nomatch e) ⟨60, 0, by omega, by omega, word3⟩)⟩
  · exact ⟨rfl, rfl, bs_coins (bad_tup1 rfl (.nat (by omega) : Nice 8 0 (.int ((3 : Nat) : Int))) (by omega) (by omega))⟩
  · exact ⟨rfl, by decide +kernel, ⟨_, if_pos ⟨rfl, by decide +kernel, by decide +kernel, by decide +kernel, by decide +kernel⟩, by decide +kernel⟩⟩
def lackS : List D := [.non, .int 3, .str ("(0, -1)" : Str), .dic, .lst (List.replicate 13 (pairD (0, -1)))]
theorem lackS_bad {R : Option Rw} (h1 : 1 ≤ n) (h9 : n ≤ 9) : ∀ d ∈ lackS, F_Web [.int n, d] R = .exn "BadStrings" (.int (-1)) R := by
  intro d hd
  unfold lackS at hd
  simp only [List.mem_cons, List.not_mem_nil, or_false] at hd
  rcases hd with rfl | rfl | rfl | rfl | rfl
  · exact f_webS h1 h9 rfl rfl
  · exact f_webS h1 h9 rfl rfl
  · exact f_webS h1 h9 rfl rfl
  · exact f_webS h1 h9 rfl rfl
  · exact f_webL h1 h9 (by decide) (by decide) (by decide)
theorem flat_rep (d : D) : ∀ k : Nat, (List.replicate k [d]).flatten = List.replicate k d
  | 0 => rfl
  | k + 1 => by rw [List.replicate_succ, List.flatten_cons, flat_rep d k, List.replicate_succ, List.singleton_append]
theorem rep_good (k : Nat) (h : k ≤ 1000) : oTimes (.lst [pairD (0, -1)]) (.int (k : Int)) = some (.lst (List.replicate k (pairD (0, -1)))) := by
  have z : (1000 : Nat) ≤ sizeLine := by decide
  have c : -(2 ^ 63) ≤ (k : Int) ∧ (k : Int) < 2 ^ 63 ∧ [pairD (0, -1)].length * (k : Int).toNat ≤ sizeLine := ⟨by omega, by omega, by rw [Int.toNat_natCast, List.length_singleton]; omega⟩
  have e : (List.replicate (k : Int).toNat [pairD (0, -1)]).flatten = List.replicate k (pairD (0, -1)) := by rw [Int.toNat_natCast, flat_rep]
  unfold oTimes
  simp only
  unfold oRep
  simp only
  rw [if_pos c, e]
def wrongS (n : Int) : List D := [.tup [.int 0, .int n], .tup [.int 0, .int 0], .tup [.int n, .int (-1)], .tup [.int 0], .lst [.int 0, .int (-1)], .non, .str ("01" : Str), .tup [.bl true, .int (-1)], .tup [.int 0, .int (-2)]]
theorem wrongS_bad (h1 : 1 ≤ n) (h9 : n ≤ 9) : ∀ d ∈ wrongS n, pl2 d = true ∧ isStr2 d n = false := by
  intro d hd
  unfold wrongS at hd
  simp only [List.mem_cons, List.not_mem_nil, or_false] at hd
  rcases hd with rfl | rfl | rfl | rfl | rfl | rfl | rfl | rfl | rfl
  · refine ⟨(show (decide ((2 : Nat) ≤ sizeLine) && true) = true from by decide +kernel), ?_⟩
    simp [isStr2, within]
    omega
  · refine ⟨by decide +kernel, ?_⟩
    simp [isStr2, within]
  · refine ⟨(show (decide ((2 : Nat) ≤ sizeLine) && true) = true from by decide +kernel), ?_⟩
    simp [isStr2, within]
    omega
  · exact ⟨by decide +kernel, rfl⟩
  · exact ⟨rfl, rfl⟩
  · exact ⟨rfl, rfl⟩
  · exact ⟨by decide +kernel, rfl⟩
  · exact ⟨by decide +kernel, rfl⟩
  · refine ⟨by decide +kernel, ?_⟩
    simp [isStr2, within]
theorem first_good (h1 : 1 ≤ n) {d e : D} (hd : isStr2 d n = false) : ∀ (k : Nat) (i : Int), firstBad n (List.replicate k (pairD (0, -1)) ++ [d, e]) i = some (i + k)
  | 0, i => by
    rw [List.replicate_zero, List.nil_append, firstBad, if_neg (by rw [hd]; decide)]
    simp
  | k + 1, i => by
    have g0 : isStr2 (pairD (0, -1)) n = true := isStr2_pair ⟨by show (0 : Int) ≤ 0; omega, by show (0 : Int) ≤ n - 1; omega, .inr rfl⟩
    rw [List.replicate_succ, List.cons_append, firstBad, if_pos g0, first_good h1 hd k (i + 1)]
    congr 1
    omega
theorem f_wrong_strings {R : Option Rw} (h1 : 1 ≤ n) (h9 : n ≤ 9) (hR : Gd q R) : ∃ (xs : List D) (k : Nat) (R' : Option Rw), F__law_wrong_strings Γ [.row q, .int n] R = .ok (.tup [.lst xs, .int (k : Int)]) R' ∧ k ≤ 2 ∧ (∀ R, F_Web [.int n, .lst xs] R = .exn "BadStrings" (.int (k : Int)) R) ∧ Gd q R' := by
  obtain ⟨t, R1, e1, t0, t1, g1⟩ := f_taken (Γ := Γ) (m := 3) (by omega) (by omega) hR
  obtain ⟨k, rfl⟩ := Int.eq_ofNat_of_zero_le t0
  obtain ⟨d, R2, e2, hd, g2⟩ := f_law_pick (Γ := Γ) (ds := wrongS n) (by simp [wrongS]) (by simp [wrongS]) g1
  obtain ⟨d1, d2'⟩ := wrongS_bad h1 h9 d hd
  have hk : k ≤ 2 := by omega
  have st0 : startD N__law_wrong_strings [.row q, .int n] = [.dat (.row q), .dat (.int n), .none, .none] := rfl
  have s1 : sSet 2 (d2 oTimes (dLst (lCons (dTup (lCons (fun _ => pure (.int 0)) (lCons (d2 oSub (fun _ => pure (.int 0)) (fun _ => pure (.int 1))) lNil))) lNil)) (dFn 2 (F__law_taken Γ) (lCons (dVar 0) (lCons (fun _ => pure (.int 3)) lNil)))) [.dat (.row q), .dat (.int n), .none, .none] R =
      .nx [.dat (.row q), .dat (.int n), .dat (.lst (List.replicate k (pairD (0, -1)))), .none] R1 := by
    refine s_set (e_d2 (f := oTimes) (a := .lst [pairD (0, -1)]) (R1 := R) ?_ (q2 (e_var rfl) (b := .int 3) (R2 := R) rfl e1) (rep_good k (by omega)))
    exact e_lst (e_cons (e_tup (e_cons (d := .int 0) (R1 := R) rfl (e_cons (e_d2 (f := oSub) (R1 := R) (R2 := R) rfl rfl (oSub_int _ _)) e_nil)) (show 2 ≤ sizeLine by decide)) e_nil) (show 1 ≤ sizeLine by decide)
  have s2 : sSet 3 (dFn 2 (F__law_pick Γ) (lCons (dVar 0) (lCons (dLst (lCons (dTup (lCons (fun _ => pure (.int 0)) (lCons (dVar 1) lNil))) (lCons (dTup (lCons (fun _ => pure (.int 0)) (lCons (fun _ => pure (.int 0)) lNil))) (lCons (dTup (lCons (dVar 1) (lCons (d2 oSub (fun _ => pure (.int 0)) (fun _ => pure (.int 1))) lNil))) (lCons (dTup (lCons (fun _ => pure (.int 0)) lNil)) (lCons (dLst (lCons (fun _ => pure (.int 0)) (lCons (d2 oSub (fun _ => pure (.int 0)) (fun _ => pure (.int 1))) lNil))) (lCons (fun _ => pure .non) (lCons (fun _ => pure (.str ("01" : Str))) (lCons (dTup (lCons (fun _ => pure (.bl true)) (lCons (d2 oSub (fun _ => pure (.int 0)) (fun _ => pure (.int 1))) lNil))) (lCons (dTup (lCons (fun _ => pure (.int 0)) (lCons (d2 oSub (fun _ => pure (.int 0)) (fun _ => pure (.int 2))) lNil))) lNil)))))))))) lNil)))
      [.dat (.row q), .dat (.int n), .dat (.lst (List.replicate k (pairD (0, -1)))), .none] R1 = .nx [.dat (.row q), .dat (.int n), .dat (.lst (List.replicate k (pairD (0, -1)))), .dat d] R2 :=
    s_set (q2 (e_var rfl) (b := .lst (wrongS n)) (R2 := R1) rfl e2)
  refine ⟨List.replicate k (pairD (0, -1)) ++ [d, .int 7], k, R2, ?_, hk, fun R => ?_, g2⟩
  · unfold F__law_wrong_strings sem__law_wrong_strings
    rw [st0, s_seq s1, s_seq s2]
    have z : (100 : Nat) ≤ sizeLine := by decide
    rw [s_ret (e_tup (e_cons (e_d2 (f := oPlus) (e_var (i := 2) rfl) (e_lst (e_cons (e_var (i := 3) rfl) (e_cons (d := .int 7) (R1 := R2) rfl e_nil)) (show 2 ≤ sizeLine by decide)) (oPlus_lst (by rw [List.length_replicate]; show k + 2 ≤ sizeLine; omega))) (e_cons (e_call (e_cons (e_var (i := 2) rfl) e_nil) (by rw [fLen_lst, List.length_replicate])) e_nil)) (show 2 ≤ sizeLine by decide))]
    rfl
  · refine f_webI h1 h9 ?_ (by rw [List.length_append, List.length_replicate]; show k + 2 ≤ 12; omega) ?_
    · rw [List.all_append, Bool.and_eq_true]
      refine ⟨List.all_eq_true.mpr fun x hx => ?_, ?_⟩
      · rw [(List.mem_replicate.mp hx).2]
        decide +kernel
      · simp [d1]
        decide +kernel
    · rw [first_good h1 d2' k 0]
      congr 1
      omega
end
end DL

set_option Elab.async false
set_option linter.all false
set_option maxRecDepth 100000
namespace DL
open PySem PySem.Spec L2
/-! ### the law, whole -/
theorem same_strings (x : Int) (h : x = -1 ∨ x = 0 ∨ x = 1 ∨ x = 2) : oNe (.tup [.str ("strings" : Str), .int x]) (.tup [.str ("strings" : Str), .int x]) = some (.bl false) ∧ oEq (.tup [.str ("strings" : Str), .int x]) (.tup [.str ("strings" : Str), .int x]) = some (.bl true) := by
  have key : ∀ y ∈ [(-1 : Int), 0, 1, 2], okEq (.tup [.str ("strings" : Str), .int y]) = true ∧ PyData.eqv (toPy (.tup [.str ("strings" : Str), .int y])) (toPy (.tup [.str ("strings" : Str), .int y])) = true := by decide +kernel
  obtain ⟨h1, h2⟩ := key x (by simpa using h)
  unfold oNe oEq
  rw [h1, h2]
  exact ⟨rfl, rfl⟩
theorem oPow20 : oPow (.int 10) (.int 20) = some (.int (10 ^ 20)) := by
  show (if CPow 10 20 then some (D.int (10 ^ (20 : Int).toNat)) else none) = _
  rw [if_pos (by unfold CPow; decide)]
  rfl
theorem oPow25 : oPow (.int 10) (.int 25) = some (.int (10 ^ 25)) := by
  show (if CPow 10 25 then some (D.int (10 ^ (25 : Int).toNat)) else none) = _
  rw [if_pos (by unfold CPow; decide)]
  rfl
theorem law_ok (Γ : Ctx) (q : Addr) : ∃ R', sem_law Γ (startLaw N_law 1 q) (some ⟨q, 0, 313, 0⟩) = .rt (.bl true) R' := by
  have g0 : Gd q (some ⟨q, 0, 313, 0⟩) := ⟨_, rfl, rfl, by show (0 : Int) ≤ 0; omega⟩
  obtain ⟨n, ss, R1, e1, g, n5, l8, g1⟩ := f_law_web (Γ := Γ) (m := 8) (by omega) (by omega) g0
  have m12 := g.len
  have n1 := g.n1
  have n9 := g.n9
  obtain ⟨dq, R2, e2, hd2, g2⟩ := f_law_pick (Γ := Γ) (ds := [.lst (ss.map pairD), .tup (ss.map pairD)]) (by simp) (by simp) g1
  have sq2 : seqD dq = some (ss.map pairD) := by
    simp only [List.mem_cons, List.not_mem_nil, or_false] at hd2
    rcases hd2 with rfl | rfl <;> rfl
  have st0 : startLaw N_law 1 q = [.none, .dat (.row q), .none, .none, .none, .none, .none, .none, .none, .none, .none, .none, .none, .none, .none, .none, .none, .none] := rfl
  have s1 : sAsg (.tup [(.nm 2), (.nm 3)]) (dFn 2 (F__law_web Γ) (lCons (dVar 1) (lCons (fun _ => pure (.int 8)) lNil))) [.none, .dat (.row q), .none, .none, .none, .none, .none, .none, .none, .none, .none, .none, .none, .none, .none, .none, .none, .none] (some ⟨q, 0, 313, 0⟩) =
      .nx [.none, .dat (.row q), .dat (.int n), .dat (.lst (ss.map pairD)), .none, .none, .none, .none, .none, .none, .none, .none, .none, .none, .none, .none, .none, .none] R1 :=
    s_asg (q2 (e_var rfl) (b := .int 8) (R2 := some ⟨q, 0, 313, 0⟩) rfl e1) rfl
  have s2 : sSet 4 (dWeb F_Web (lCons (dVar 2) (lCons (dFn 2 (F__law_pick Γ) (lCons (dVar 1) (lCons (dLst (lCons (dVar 3) (lCons (dCall fTuple (lCons (dVar 3) lNil)) lNil))) lNil))) lNil))) [.none, .dat (.row q), .dat (.int n), .dat (.lst (ss.map pairD)), .none, .none, .none, .none, .none, .none, .none, .none, .none, .none, .none, .none, .none, .none] R1 =
      .nx [.none, .dat (.row q), .dat (.int n), .dat (.lst (ss.map pairD)), .dat (.web n ss), .none, .none, .none, .none, .none, .none, .none, .none, .none, .none, .none, .none, .none] R2 :=
    s_set (e_web (e_cons (e_var rfl) (e_cons (q2 (e_var rfl) (e_lst (e_cons (e_var rfl) (e_cons (e_call (e_cons (e_var rfl) e_nil) rfl) e_nil)) (show 2 ≤ sizeLine by decide)) e2) e_nil)) rfl (f_web g sq2))
  have s3 : sSet 5 (dCall fLen (lCons (dVar 3) lNil)) [.none, .dat (.row q), .dat (.int n), .dat (.lst (ss.map pairD)), .dat (.web n ss), .none, .none, .none, .none, .none, .none, .none, .none, .none, .none, .none, .none, .none] R2 =
      .nx (Lz q n ss .none .none .none .none .none .none .none .none .none .none .none .none) R2 := s_set (e_call (e_cons (e_var rfl) e_nil) (by rw [fLen_lst, List.length_map]))
  have rgm := rg_nat ss.length (by omega)
  have c4 := e_alike (δ := Lz q n ss .none .none .none .none .none .none .none .none .none .none .none .none) (R := R2) (d := .lst [.int n, .tup (ss.map pairD), .tup (natD (List.range ss.length))]) (fa := dLst (lCons (d1 webCoins (dVar 4)) (lCons (d1 webStrs (dVar 4)) (lCons (dFn 1 F_whole (lCons (dVar 4) lNil)) lNil)))) (fb := dLst (lCons (dVar 2) (lCons (dCall fTuple (lCons (dVar 3) lNil)) (lCons (dCall rgTup (lCons (dVar 5) lNil)) lNil))))
    (e_lst (e_cons (e_d1 (f := webCoins) (e_var rfl) rfl) (e_cons (e_d1 (f := webStrs) (e_var rfl) rfl) (e_cons (q1 (e_var rfl) (f_whole g)) e_nil))) (show 3 ≤ sizeLine by decide))
    (e_lst (e_cons (e_var rfl) (e_cons (e_call (e_cons (e_var rfl) e_nil) rfl) (e_cons (e_call (e_cons (e_var rfl) e_nil) rgm) e_nil))) (show 3 ≤ sizeLine by decide)) (by
      have a1 : aok 7 (.tup (ss.map pairD)) = true := aok_pairs (m := 4) (by omega)
      have a2 : aok 7 (.tup (natD (List.range ss.length))) = true := aok_nat (n := 5) (by rw [List.length_range]; omega)
      show (true && (true && (aok 7 (.tup (ss.map pairD)) && (aok 7 (.tup (natD (List.range ss.length))) && true)))) = true
      rw [a1, a2]
      rfl)
  have i5 : iCall rng1 (lCons (fun _ => pure (.int 6)) lNil) (Lz q n ss .none .none .none .none .none .none .none .none .none .none .none .none) R2 = .ok (rangeD 0 6) R2 := e_icall (e_cons (R1 := R2) rfl e_nil) (rng1_nat (m := 6) (by omega))
  obtain ⟨b6, b7, b8, b9, R3, e5, g3⟩ := turns_loop (Γ := Γ) (q := q) g (a10 := .none) (a11 := .none) (a12 := .none) (a13 := .none) (a14 := .none) (a15 := .none) (a16 := .none) (a17 := .none) (rangeD 0 6) .none .none .none .none R2 g2
  have s5 := (s_for (t := .nm 6) (body := turnB Γ) i5).trans e5
  obtain ⟨w, R4, e6, hw, g4⟩ := f_bad_standing (Γ := Γ) (m := ss.length) m12 g3
  obtain ⟨wb, wr⟩ := badS_bad m12 w hw
  have s6 : sSet 10 (dFn 2 (F__law_bad_standing Γ) (lCons (dVar 1) (lCons (dVar 5) lNil))) (Lz q n ss b6 b7 b8 b9 .none .none .none .none .none .none .none .none) R3 = .nx (Lz q n ss b6 b7 b8 b9 (.dat w) .none .none .none .none .none .none .none) R4 := s_set (q2 (e_var rfl) (e_var rfl) e6)
  have wshow := bad_shown (w := ("standing" : Str)) wb (by decide +kernel) (by decide +kernel) (by decide +kernel)
  have c7a : dB (d2 oNotB (dFn 2 F_is_standing (lCons (dVar 4) (lCons (dVar 10) lNil))) (fun _ => pure (.bl false))) (Lz q n ss b6 b7 b8 b9 (.dat w) .none .none .none .none .none .none .none) R4 = .ok false R4 := by
    have e := f_is_standing (n := n) (ss := ss) (d := w) (R := R4) wb.pl wb.tu
    rw [wr] at e
    exact e_dB (e_d2 (f := oNotB) (q2 (e_var rfl) (e_var rfl) e) (R2 := R4) rfl rfl)
  have c7b := e_dB (e_refCmpS (b := false) (o := oNe) (ws := refW) (fb := dFn 2 F_open_coins (lCons (dVar 4) (lCons (dVar 10) lNil))) (fd := dVar 10) (w := ("standing" : Str)) (δ := Lz q n ss b6 b7 b8 b9 (.dat w) .none .none .none .none .none .none .none) (R := R4) oNe_same (q2 (e_var rfl) (e_var rfl) (f_open_coinsS wb wr)) rfl (e_var rfl) wshow)
  obtain ⟨z, R5, e8, hz, g5⟩ := f_law_pick (Γ := Γ) (ds := lackC n.toNat) (by simp [lackC]) (by simp [lackC]) g4
  obtain ⟨zp, zw, zs⟩ := lackC_bad (m := n.toNat) (by omega) z hz
  rw [Int.toNat_of_nonneg (by omega)] at zw
  have s8 : sSet 11 (dFn 2 (F__law_pick Γ) (lCons (dVar 1) (lCons (dLst (lCons (dVar 2) (lCons (d2 oSub (fun _ => pure (.int 0)) (fun _ => pure (.int 1))) (lCons (fun _ => pure .non) (lCons (fun _ => pure (.str ("0" : Str))) (lCons (d2 oPow (fun _ => pure (.int 10)) (fun _ => pure (.int 20))) (lCons (dTup (lCons (fun _ => pure (.int 0)) lNil)) lNil))))))) lNil))) (Lz q n ss b6 b7 b8 b9 (.dat w) .none .none .none .none .none .none .none) R4 =
      .nx (Lz q n ss b6 b7 b8 b9 (.dat w) (.dat z) .none .none .none .none .none .none) R5 := by
    refine s_set (q2 (e_var rfl) (b := .lst (lackC n.toNat)) (R2 := R4) ?_ e8)
    have en : lackC n.toNat = [.int n, .int (-1), .non, .str ("0" : Str), .int (10 ^ 20), .tup [.int 0]] := by
      unfold lackC
      rw [Int.toNat_of_nonneg (by omega)]
    rw [en]
    exact e_lst (e_cons (e_var rfl) (e_cons (R1 := R4) (e_d2 (f := oSub) (R1 := R4) (R2 := R4) rfl rfl (oSub_int _ _)) (e_cons (R1 := R4) rfl (e_cons (R1 := R4) rfl (e_cons (e_d2 (f := oPow) (R1 := R4) (R2 := R4) rfl rfl oPow20) (e_cons (e_tup (e_cons (R1 := R4) rfl e_nil) (show 1 ≤ sizeLine by decide)) e_nil)))))) (show 6 ≤ sizeLine by decide)
  have hnil : StOk ss.length [] := ⟨.nil, fun _ h => nomatch h⟩
  have c9 := e_dB (e_refCmpS (b := false) (o := oNe) (ws := refW) (fb := dFn 3 F_strings_of (lCons (dVar 4) (lCons (dTup lNil) (lCons (dVar 11) lNil)))) (fd := dVar 11) (w := ("coin" : Str)) (δ := Lz q n ss b6 b7 b8 b9 (.dat w) (.dat z) .none .none .none .none .none .none) (R := R5) oNe_same (q3 (e_var rfl) (e_tup e_nil (Nat.zero_le _)) (e_var rfl) (f_strings_ofC (st := []) g hnil zp zw)) rfl (e_var rfl) zs)
  have c10 := e_dB (e_refCmpS (b := false) (o := oNe) (ws := refW) (fb := dFn 3 F_strings_of (lCons (dVar 4) (lCons (dVar 10) (lCons (dVar 11) lNil)))) (fd := dVar 10) (w := ("standing" : Str)) (δ := Lz q n ss b6 b7 b8 b9 (.dat w) (.dat z) .none .none .none .none .none .none) (R := R5) oNe_same (q3 (e_var rfl) (e_var rfl) (e_var rfl) (f_strings_ofS wb wr)) rfl (e_var rfl) wshow)
  obtain ⟨o, R6, e11, ho, g6⟩ := f_bad_web (Γ := Γ) g5
  have s11 : sSet 12 (dFn 1 (F__law_bad_web Γ) (lCons (dVar 1) lNil)) (Lz q n ss b6 b7 b8 b9 (.dat w) (.dat z) .none .none .none .none .none .none) R5 = .nx (Lz q n ss b6 b7 b8 b9 (.dat w) (.dat z) (.dat o) .none .none .none .none .none) R6 := s_set (q1 (e_var rfl) e11)
  have s12 : sSet 13 (dLst (lCons (fun _ => pure (.fn "whole")) (lCons (fun _ => pure (.fn "λ0")) lNil))) (Lz q n ss b6 b7 b8 b9 (.dat w) (.dat z) (.dat o) .none .none .none .none .none) R6 = .nx (Lz q n ss b6 b7 b8 b9 (.dat w) (.dat z) (.dat o) (.dat (.lst [.fn "whole", .fn "λ0"])) .none .none .none .none) R6 :=
    s_set (e_lst (e_cons (R1 := R6) rfl (e_cons (R1 := R6) rfl e_nil)) (show 2 ≤ sizeLine by decide))
  have i13 : iSeq (d2 oPlus (dVar 13) (dLst (lCons (fun _ => pure (.fn "λ1")) lNil))) (Lz q n ss b6 b7 b8 b9 (.dat w) (.dat z) (.dat o) (.dat (.lst [.fn "whole", .fn "λ0"])) .none .none .none .none) R6 = .ok (["whole", "λ0", "λ1"].map D.fn) R6 :=
    e_seq (e_d2 (f := oPlus) (e_var rfl) (e_lst (e_cons (R1 := R6) rfl e_nil) (show 1 ≤ sizeLine by decide)) (oPlus_lst (as := [.fn "whole", .fn "λ0"]) (bs := [.fn "λ1"]) (show 2 + 1 ≤ sizeLine by decide))) rfl
  obtain ⟨b14, e13⟩ := ask_loop0 (Γ := Γ) (q := q) (n := n) (ss := ss) (a6 := b6) (a7 := b7) (a8 := b8) (a9 := b9) (a13 := .dat (.lst [.fn "whole", .fn "λ0"])) (a15 := .none) (a16 := .none) (a17 := .none) (w := w) (z := z) (d := o) (R := R6) ho ["whole", "λ0", "λ1"] .none fun x hx => hx
  have s13 := (s_for (t := .nm 14) (body := askB Γ) i13).trans e13
  generalize hA : (SD.dat (D.lst [.fn "whole", .fn "λ0"])) = a13 at *
  obtain ⟨u, R7, e14, hu, g7⟩ := f_law_pick (Γ := Γ) (ds := lackN) (by simp [lackN]) (by simp [lackN]) g6
  obtain ⟨up, uw, us⟩ := lackN_bad u hu
  have s14 : sSet 15 (dFn 2 (F__law_pick Γ) (lCons (dVar 1) (lCons (dLst (lCons (fun _ => pure (.int 0)) (lCons (fun _ => pure (.int 10)) (lCons (d2 oSub (fun _ => pure (.int 0)) (fun _ => pure (.int 1))) (lCons (fun _ => pure .non) (lCons (fun _ => pure (.bl true)) (lCons (fun _ => pure (.str ("3" : Str))) (lCons (dTup (lCons (fun _ => pure (.int 3)) lNil)) (lCons (d2 oPow (fun _ => pure (.int 10)) (fun _ => pure (.int 25))) lNil))))))))) lNil))) (Lz q n ss b6 b7 b8 b9 (.dat w) (.dat z) (.dat o) a13 b14 .none .none .none) R6 =
      .nx (Lz q n ss b6 b7 b8 b9 (.dat w) (.dat z) (.dat o) a13 b14 (.dat u) .none .none) R7 := by
    refine s_set (q2 (e_var rfl) (b := .lst lackN) (R2 := R6) ?_ e14)
    exact e_lst (e_cons (R1 := R6) rfl (e_cons (R1 := R6) rfl (e_cons (R1 := R6) (e_d2 (f := oSub) (R1 := R6) (R2 := R6) rfl rfl (oSub_int _ _)) (e_cons (R1 := R6) rfl (e_cons (R1 := R6) rfl (e_cons (R1 := R6) rfl (e_cons (e_tup (e_cons (R1 := R6) rfl e_nil) (show 1 ≤ sizeLine by decide)) (e_cons (e_d2 (f := oPow) (R1 := R6) (R2 := R6) rfl rfl oPow25) e_nil)))))))) (show 8 ≤ sizeLine by decide)
  have c15 := e_dB (e_refCmpS (b := false) (o := oNe) (ws := refW) (fb := dWeb F_Web (lCons (dVar 15) (lCons (fun _ => pure .non) lNil))) (fd := dVar 15) (w := ("coins" : Str)) (δ := Lz q n ss b6 b7 b8 b9 (.dat w) (.dat z) (.dat o) a13 b14 (.dat u) .none .none) (R := R7) oNe_same (e_webX (e_cons (e_var rfl) (e_cons (d := .non) (R1 := R7) rfl e_nil)) rfl (f_webC up rfl uw)) rfl (e_var rfl) us)
  obtain ⟨v, R8, e16, hv, g8⟩ := f_law_pick (Γ := Γ) (ds := lackS) (by simp [lackS]) (by simp [lackS]) g7
  have c16 : dB (d2 oNe (dRef refW (dWeb F_Web (lCons (dVar 2) (lCons (dFn 2 (F__law_pick Γ) (lCons (dVar 1) (lCons (dLst (lCons (fun _ => pure .non) (lCons (fun _ => pure (.int 3)) (lCons (fun _ => pure (.str ("(0, -1)" : Str))) (lCons (fun _ => pure .dic) (lCons (d2 oTimes (dLst (lCons (dTup (lCons (fun _ => pure (.int 0)) (lCons (d2 oSub (fun _ => pure (.int 0)) (fun _ => pure (.int 1))) lNil))) lNil)) (fun _ => pure (.int 13))) lNil)))))) lNil))) lNil)))) (dTup (lCons (fun _ => pure (.str ("strings" : Str))) (lCons (d2 oSub (fun _ => pure (.int 0)) (fun _ => pure (.int 1))) lNil)))) (Lz q n ss b6 b7 b8 b9 (.dat w) (.dat z) (.dat o) a13 b14 (.dat u) .none .none) R7 = .ok false R8 := by
    refine e_dB (e_d2 (f := oNe) (e_ref (e_webX (e_cons (e_var rfl) (e_cons (q2 (e_var rfl) (b := .lst lackS) (R2 := R7) ?_ e16) e_nil)) rfl (lackS_bad n1 n9 v hv)) (w := ("strings" : Str)) rfl) (e_tup (e_cons (R1 := R8) rfl (e_cons (R1 := R8) (e_d2 (f := oSub) (R1 := R8) (R2 := R8) rfl rfl (oSub_int _ _)) e_nil)) (show 2 ≤ sizeLine by decide)) (same_strings (-1) (.inl rfl)).1)
    exact e_lst (e_cons (R1 := R7) rfl (e_cons (R1 := R7) rfl (e_cons (R1 := R7) rfl (e_cons (R1 := R7) rfl (e_cons (e_d2 (f := oTimes) (a := .lst [pairD (0, -1)]) (b := .int ((13 : Nat) : Int)) (R1 := R7) (R2 := R7) (e_lst (e_cons (e_tup (e_cons (d := .int 0) (R1 := R7) rfl (e_cons (e_d2 (f := oSub) (R1 := R7) (R2 := R7) rfl rfl (oSub_int _ _)) e_nil)) (show 2 ≤ sizeLine by decide)) e_nil) (show 1 ≤ sizeLine by decide)) rfl (rep_good 13 (by omega))) e_nil))))) (show 5 ≤ sizeLine by decide)
  obtain ⟨xs, k, R9, e17, hk, xw, g9⟩ := f_wrong_strings (Γ := Γ) n1 n9 g8
  have s17 : sAsg (.tup [(.nm 16), (.nm 17)]) (dFn 2 (F__law_wrong_strings Γ) (lCons (dVar 1) (lCons (dVar 2) lNil))) (Lz q n ss b6 b7 b8 b9 (.dat w) (.dat z) (.dat o) a13 b14 (.dat u) .none .none) R8 = .nx (Lz q n ss b6 b7 b8 b9 (.dat w) (.dat z) (.dat o) a13 b14 (.dat u) (.dat (.lst xs)) (.dat (.int (k : Int)))) R9 :=
    s_asg (q2 (e_var rfl) (e_var rfl) e17) rfl
  have c18 : d2 oEq (dRef refW (dWeb F_Web (lCons (dVar 2) (lCons (dVar 16) lNil)))) (dTup (lCons (fun _ => pure (.str ("strings" : Str))) (lCons (dVar 17) lNil))) (Lz q n ss b6 b7 b8 b9 (.dat w) (.dat z) (.dat o) a13 b14 (.dat u) (.dat (.lst xs)) (.dat (.int (k : Int)))) R9 = .ok (.bl true) R9 :=
    e_d2 (f := oEq) (e_ref (e_webX (e_cons (e_var rfl) (e_cons (e_var rfl) e_nil)) rfl (xw R9)) (w := ("strings" : Str)) rfl) (e_tup (e_cons (R1 := R9) rfl (e_cons (e_var rfl) e_nil)) (show 2 ≤ sizeLine by decide)) (same_strings (k : Int) (by omega)).2
  refine ⟨R9, ?_⟩
  unfold sem_law
  rw [st0]
  refine (s_seq s1).trans ((s_seq s2).trans ((s_seq s3).trans ((s_skip c4).trans ((s_seq s5).trans ((s_seq s6).trans ((s_skip ((e_orF c7a).trans c7b)).trans ((s_seq s8).trans ((s_skip c9).trans ((s_skip c10).trans ?_)))))))))
  refine (s_seq s11).trans ((s_seq s12).trans ((s_seq s13).trans ((s_seq s14).trans ((s_skip c15).trans ((s_skip c16).trans ((s_seq s17).trans ?_))))))
  exact s_ret c18
end DL

set_option Elab.async false
set_option linter.all false
set_option maxRecDepth 100000
set_option maxHeartbeats 0
open PySem PySem.W PySem.Calls PyProof.Rows
theorem PySem.Challenge.cw_boxesclosed_k00_webs_holds : PySem.Challenge.rw_boxesclosed_k00_webs.Holds := by
  w_on; o_law
  refine HandSHeadRun.head_any (r := DL.RL) (q := view DL.RL.prog [38]) (H := DL.hkL) (ob := DL.obL) (M := 12000) (loose := DL.namesL) (d := HandSHeadRun.topDef DL.RL.prog 38) (kwd := []) DL.obL_eq
    (by kernel_rfl) (fun s => by kernel_rfl) DL.runL (by kernel_rfl) (by kernel_rfl) (by kernel_rfl) (by rfl) (by first | assumption | decide +kernel) (by decide +kernel) ⟨rfl, rfl, rfl, rfl, rfl, by decide +kernel⟩ ?hw ?hc
  case hw => w_witness2
  case hc =>
    refine DL.walk_own (l := PySem.Challenge.rw_boxesclosed_k00_webs) (lawI := 27) (N := DL.N_law) (k := 13) (lawD := DL.dd_law) rfl rfl (by kernel_rfl) ⟨rfl, by decide, by decide⟩ rfl rfl rfl rfl rfl rfl DL.sc_law (by simp [DL.faL]) (fun FD => FD.bindsN fun _ _ _ _ _ _ us hl => match us, hl with | [_], _ => rfl) ?_
    intro w K mg h base f a cells cdv st H X G X2 G2 s hl hbits hcd TB hT hscr hr
    exact DL.law_runs (val := fun _ _ _ => 0) (dv := fun _ => 0) (cn := fun _ => 0) PySem.Challenge.rw_boxesclosed_k00_webs rfl X G s hcd TB hT hscr hr fun q => DL.law_ok _ q

