import PyProof.Rows.All
import Wide.All
import OpenK.AllK
import Wide.FinOn
import HandS.ForMost
import HandS.ForExc
import HandS.Walk
import HandS.Lambda
import HandS.Nested
import KE.KeyNested
import HandS.IsInst
import HandS.TupAny
import HandS.TupLe
import HandS.Conv
import HandS.Style
import HandS.Deep
import HandS.CallSlots
import HandS.Zip
import HandS.ExcInit
import HandS.Defaults
import HandS.ExcField
import HandS.TryMany
import HandS.More
import KE.GoesMore
import HandS.Sort
import HandS.TupMul
import PyProof.ReprRoads
import HandS.HeadHook4
import HandS.HeadWalk
import HandS.CallLocal
import HandS.Head2
import HandS.SortInts
import KE.KTupSum
import HandS.Text
import PyProof.Rows.TupTab
import KE.SortData
import KE.DataMinMax
import HandS.SetFor
import HandS.Strs
import KE.KDictPairs
import HandS.NoneIn
import KE.KDictWalk
import KE.KDictCopyH
import HandS.DictSubView
import KE.KIndexOf
import PySem.Challenge.RW_boxesclosed_k09_whole_control
set_option Elab.async false
set_option linter.all false
set_option maxRecDepth 100000
namespace DL
open PySem PySem.Spec L2
/-- plain data -/
inductive D where
  | non | bl (b : Bool) | int (i : Int) | str (x : Str)
  | lst (xs : List D) | tup (xs : List D) | dic
  /-- a range; a dict, its keys, its values (n: the keys are tuples) -/
  | rng (lo hi : Int) | dct (n : Bool) (ks vs : List D)
  | web (n : Int) (ss : List (Int × Int))
  | row (a : Addr) | fn (x : String)
/-- a lambda's words (NF: its body there is not looked at), its body -/
abbrev LamF := Addr → NdefX.NF × Expr
/-- what one's memo keeps: f of each of its keys, which are among dom -/
structure Memo where
  f : NestedKey → V
  dom : List NestedKey
  small : dom.length < sizeLine
def Memo.no : Memo := ⟨fun _ => .non, [], by show 0 < sizeLine; decide⟩
/-- what is fixed through a law -/
structure Ctx where
  K : PySem.W.Frag
  wd : World
  web : Addr
  cls : String → Addr
  fnA : String → Addr
  val : Int → List (Int × Int) → List Int → Int
  /-- what the memo of a def keeps, by its first argument -/
  mem : String → D → Memo
  /-- of all tuples of numbers it is known that they have no dict -/
  fz : Bool
  /-- the tables that are one's own: memos -/
  own : List (Addr × Memo)
  /-- the names that stand for lambdas -/
  lam : String → Option LamF
  tabs : List (Addr × Str)
  scr : Addr
  cells : List Int
abbrev Ctx.ownA (Γ : Ctx) : List Addr := Γ.own.map (·.1)
/-- a tuple stands at a; of some it is known that they have no dict -/
def TupO (H : Hp) (a : Addr) (xs : List V) : Prop := H a = some (.tup xs) ∨ ∃ o : Obj, o.dict = none ∧ H a = some (.frz o (.tup xs))
theorem TupO.inj {H : Hp} {a : Addr} {xs ys : List V} (h : TupO H a xs) (k : TupO H a ys) : xs = ys := by
  rcases h with h | ⟨o, _, h⟩ <;> rcases k with k | ⟨u, _, k⟩ <;> rw [h] at k <;> cases k <;> rfl
theorem TupO.congr {H H' : Hp} {a : Addr} {xs : List V} (h : TupO H a xs) (e : ∀ o, H a = some o → H' a = some o) : TupO H' a xs := by
  rcases h with h | ⟨o, n, h⟩
  · exact .inl (e _ h)
  · exact .inr ⟨o, n, e _ h⟩
theorem TupO.some {H : Hp} {a : Addr} {xs : List V} (h : TupO H a xs) : ∃ o, H a = some o := by
  rcases h with h | ⟨o, _, h⟩ <;> exact ⟨_, h⟩
theorem TupO.upd {H : Hp} {a p : Addr} {xs : List V} {o o' : HO} (h : TupO H a xs) (hp : H p = Option.some o) (n : ∀ xs, o ≠ .tup xs) (n' : ∀ u v, o ≠ .frz u v) : TupO (L2.upd H p o') a xs := by
  rcases h with h | ⟨q, d, h⟩
  · exact .inl (by rw [upd_ne (ne_of h hp fun z => n _ z.symm)]; exact h)
  · exact .inr ⟨q, d, by rw [upd_ne (ne_of h hp fun z => n' _ _ z.symm)]; exact h⟩
theorem TupO.sq {K : PySem.W.Frag} {H : Hp} {a : Addr} {xs : List V} (h : TupO H a xs) : SqT K H a xs := by
  rcases h with h | ⟨o, _, h⟩
  · exact .inl (.inl h)
  · exact .inl (.inr ⟨o, h⟩)
def hide (A : List Addr) (H : Hp) : Hp := fun a => if a ∈ A then none else H a
theorem hide_in {A : List Addr} {H : Hp} {a : Addr} (h : a ∈ A) : hide A H a = none := if_pos h
theorem hide_out {A : List Addr} {H : Hp} {a : Addr} (h : a ∉ A) : hide A H a = H a := if_neg h
theorem hide_some {A : List Addr} {H : Hp} {a : Addr} {o : HO} (h : hide A H a = some o) : a ∉ A ∧ H a = some o := by
  by_cases q : a ∈ A
  · rw [hide_in q] at h; cases h
  · rw [hide_out q] at h; exact ⟨q, h⟩
theorem TupO.unhide {A : List Addr} {H : Hp} {a : Addr} {xs : List V} (h : TupO (hide A H) a xs) : a ∉ A ∧ TupO H a xs := by
  rcases h with h | ⟨o, d, h⟩
  · exact ⟨(hide_some h).1, .inl (hide_some h).2⟩
  · exact ⟨(hide_some h).1, .inr ⟨o, d, (hide_some h).2⟩⟩
theorem TupO.hide {A : List Addr} {H : Hp} {a : Addr} {xs : List V} (h : TupO H a xs) (n : a ∉ A) : TupO (hide A H) a xs := h.congr fun o e => by rw [hide_out n]; exact e
theorem TupO.ok {P : Program} {w : World} {H : Hp} {h : Heap} {a : Addr} {xs : List V} (t : TupO H a xs) (ok : HOk P w H h) : ObjOk P w H h a (.tup xs) := by
  rcases t with t | ⟨o, _, t⟩
  · exact ok a _ t
  · exact (show ObjOk P w H h a (.frz o (.tup xs)) from ok a _ t).2
theorem hide_nil {H : Hp} : hide [] H = H := by funext a; exact if_neg (by simp)
abbrev webF (n : Int) (t q : Addr) : List (Str × V) := [(("coins" : Str), V.int n), (("strings" : Str), V.ref t), (("worths" : Str), V.ref q)]
/-- a rising list of small numbers -/
def StI (st : List Int) : Prop := st.Pairwise (· < ·) ∧ ∀ k ∈ st, 0 ≤ k ∧ k < 12
/-- a web's table keeps f -/
def CacheOk (f : List Int → Int) (kvs : List (List Key × V)) : Prop := (kvs.map (·.1)).Nodup ∧ ∀ p ∈ kvs, ∃ st : List Int, StI st ∧ p.1 = st.map Sum.inl ∧ p.2 = .int (f st)
def TupR (z : Bool) (H : Hp) (a : Addr) (xs : List V) : Prop := TupO H a xs ∧ (z = true → ∃ o : Obj, o.dict = none ∧ H a = some (.frz o (.tup xs)))
theorem TupR.o {z : Bool} {H : Hp} {a : Addr} {xs : List V} (h : TupR z H a xs) : TupO H a xs := h.1
theorem TupR.congr {z : Bool} {H H' : Hp} {a : Addr} {xs : List V} (h : TupR z H a xs) (e : ∀ o, H a = some o → H' a = some o) : TupR z H' a xs := ⟨h.1.congr e, fun q => by
  obtain ⟨o, d, x⟩ := h.2 q
  exact ⟨o, d, e _ x⟩⟩
theorem TupR.frz {z : Bool} {H : Hp} {a : Addr} {xs : List V} {o : Obj} (d : o.dict = none) (h : H a = some (.frz o (.tup xs))) : TupR z H a xs := ⟨.inr ⟨o, d, h⟩, fun _ => ⟨o, d, h⟩⟩
def isID : D → Bool
  | .int _ => true
  | _ => false
def intsB (ds : List D) : Bool := !ds.isEmpty && ds.all isID
abbrev Ctx.fzI (Γ : Ctx) (ds : List D) : Bool := Γ.fz && intsB ds
/-- the tuples of pairs -/
def PairsR (H : Hp) : List (Int × Int) → List V → Prop
  | [], [] => True
  | p :: ps, v :: vs => (∃ a, v = .ref a ∧ TupO H a [.int p.1, .int p.2]) ∧ PairsR H ps vs
  | _, _ => False
/-- the object at f is the lambda F with the body e -/
def LamO (f : Addr) (F : NdefX.NF) (e : Expr) : HO := .ext fun h => ∃ (od : Option Addr) (sl : Array (Option Value)) (pm ctv : Value), h.get? f = some (⟨.type "function", od, .func (PySem.W.kla_fn F.name F.qual F.params e F.scope F.cl pm (.ref F.c) ctv), sl⟩ : Obj)
def LamR (A : List Addr) (m : LamF) (H : Hp) (v : V) : Prop := ∃ f c', v = .ref f ∧ f ∉ A ∧ (m c').1.c ∉ A ∧ H f = some (LamO f (m c').1 (m c').2) ∧ H (m c').1.c = some (LamX.CodeO (m c').1.c (m c').1.qual)
def FnR (Γ : Ctx) (H : Hp) (x : String) (v : V) : Prop := match Γ.lam x with
  | none => v = .ref (Γ.fnA x)
  | some m => LamR Γ.ownA m H v
/-- a dict whose keys are tuples, by its object alone: each key, where it stands, its value -/
def dN (w : World) (a : Addr) (xs : List (NestedKey × Addr × V)) : HO := .ext fun h => (xs.length ≤ sizeLine ∧ (a == sysModules) = false ∧ ∀ x ∈ xs, x.1.depth ≤ 8) ∧ ∃ ys : List (NestedKey × Addr × Value),
  Paired (fun (p : NestedKey × Addr × V) (q : NestedKey × Addr × Value) => p.1 = q.1 ∧ p.2.1 = q.2.1 ∧ RelV p.2.2 q.2.2) xs ys ∧
  ∃ o es ep, h.get? a = some o ∧ o.ExactDict ∧ o.data = .dict es ep ∧ es.toList = ys.map (fun x => (⟨x.1.hash w, .ref x.2.1, x.2.2⟩ : DictEntry)) ∧ (ys.map (·.1)).Nodup
mutual
def nkD : D → Option NestedKey
  | .int i => some (.num i)
  | .str x => some (.text x)
  | .tup ds => (nkDs ds).map .tup
  | _ => none
def nkDs : List D → Option (List NestedKey)
  | [] => some []
  | d :: ds => (nkD d).bind fun k => (nkDs ds).map (k :: ·)
end
/-- the key of a dict of flat keys -/
def fkD : D → Option Key
  | .int i => some (.inl i)
  | .str x => some (.inr x)
  | _ => none
mutual
def Rep (Γ : Ctx) (H : Hp) : D → V → Prop
  | .non, v => v = .non
  | .bl b, v => v = .bl b
  | .int i, v => v = .int i
  | .str x, v => v = .str x
  | .lst ds, v => ∃ a xs, v = .ref a ∧ H a = some (.lst xs) ∧ RepL Γ H ds xs
  | .tup ds, v => ∃ a xs, v = .ref a ∧ TupR (Γ.fzI ds) H a xs ∧ RepL Γ H ds xs
  | .dic, v => ∃ a, v = .ref a ∧ H a = some (.dK [])
  | .rng lo hi, v => ∃ a, v = .ref a ∧ H a = some (.rng lo hi)
  | .dct n ks us, v => ∃ a, v = .ref a ∧ (match n with
    | true => a ∉ Γ.ownA ∧ ∃ xs : List (NestedKey × Addr × V), H a = some (dN Γ.wd a xs) ∧ RepL Γ H ks (xs.map fun x => .ref x.2.1) ∧ RepL Γ H us (xs.map fun x => x.2.2) ∧ ks.map nkD = xs.map fun x => some x.1
    | false => ∃ kvs : List (Key × V), H a = some (.dK kvs) ∧ RepL Γ H us (kvs.map (·.2)) ∧ ks.map fkD = kvs.map fun x => some x.1)
  | .web n ss, v => ∃ a dx t q xs kvs, v = .ref a ∧ H a = some (.ins Γ.web dx (webF n t q)) ∧ TupO H t xs ∧ PairsR H ss xs ∧ H q = some (.dT kvs)
  | .row p, v => v = .ref p
  | .fn x, v => FnR Γ H x v
def RepL (Γ : Ctx) (H : Hp) : List D → List V → Prop
  | [], vs => vs = []
  | d :: ds, vs => ∃ v ws, vs = v :: ws ∧ Rep Γ H d v ∧ RepL Γ H ds ws
end
theorem Rep_lst {Γ : Ctx} {H : Hp} {ds : List D} {v : V} : Rep Γ H (.lst ds) v ↔ ∃ a xs, v = .ref a ∧ H a = some (.lst xs) ∧ RepL Γ H ds xs := by rw [Rep]
theorem Rep_tup {Γ : Ctx} {H : Hp} {ds : List D} {v : V} : Rep Γ H (.tup ds) v ↔ ∃ a xs, v = .ref a ∧ TupR (Γ.fzI ds) H a xs ∧ RepL Γ H ds xs := by rw [Rep]
theorem RepL_nil {Γ : Ctx} {H : Hp} {vs : List V} : RepL Γ H [] vs ↔ vs = [] := by rw [RepL]
theorem RepL_cons {Γ : Ctx} {H : Hp} {d : D} {ds : List D} {vs : List V} : RepL Γ H (d :: ds) vs ↔ ∃ v ws, vs = v :: ws ∧ Rep Γ H d v ∧ RepL Γ H ds ws := by rw [RepL]
theorem RepL.length {Γ : Ctx} {H : Hp} : ∀ {ds : List D} {vs : List V}, RepL Γ H ds vs → vs.length = ds.length
  | [], vs, h => by rw [RepL_nil] at h; rw [h]; rfl
  | d :: ds, vs, h => by
    rw [RepL_cons] at h
    obtain ⟨v, ws, rfl, _, h⟩ := h
    simp [RepL.length h]
/-! ### the heap grows -/
/-- what can be hidden: all but code objects -/
def nx (o : HO) : Prop := ∀ a q, o ≠ LamX.CodeO a q
theorem nx_lst {xs : List V} : nx (.lst xs) := fun a q z => by unfold LamX.CodeO at z; cases z
theorem nx_dK {xs : List (Key × V)} : nx (.dK xs) := fun a q z => by unfold LamX.CodeO at z; cases z
theorem nx_dT {xs : List (List Key × V)} : nx (.dT xs) := fun a q z => by unfold LamX.CodeO at z; cases z
theorem nx_ins {C dx : Addr} {fs : List (Str × V)} : nx (.ins C dx fs) := fun a q z => by unfold LamX.CodeO at z; cases z
theorem nx_tbl {ps : Array Value} : nx (.tbl ps) := fun a q z => by unfold LamX.CodeO at z; cases z
theorem dN_ne_code {w : World} {b : Addr} {xs : List (NestedKey × Addr × V)} : nx (dN w b xs) := fun a q z => by
  unfold dN LamX.CodeO at z
  have z := congrFun (HO.ext.inj z) ⟨Array.replicate (a + 1) ({ cls := .none, data := .fields #[.none, .str q 0] } : Obj), {}⟩
  have g : ∀ c o, (⟨Array.replicate (a + 1) ({ cls := .none, data := .fields #[.none, .str q 0] } : Obj), {}⟩ : Heap).get? c = some o → o.data = .fields #[.none, .str q 0] := fun c o e => by
    unfold Heap.get? at e
    simp only [Array.getElem?_replicate] at e
    by_cases hc : c < a + 1
    · simp [hc] at e; rw [← e]
    · simp [hc] at e
  have y : ∃ (oc : Obj) (vs : Array Value) (t : Tok), (⟨Array.replicate (a + 1) ({ cls := .none, data := .fields #[.none, .str q 0] } : Obj), {}⟩ : Heap).get? a = some oc ∧ oc.data = .fields vs ∧ vs[1]? = some (.str q t) := by
    refine ⟨{ cls := .none, data := .fields #[.none, .str q 0] }, _, 0, ?_, rfl, rfl⟩
    unfold Heap.get?
    simp
  rw [← z] at y
  obtain ⟨_, ys, _, o, es, ep, e1, _, e3, _⟩ := y
  rw [g _ _ e1] at e3
  cases e3
def stays : HO → Bool
  | .dT _ => false
  | .tbl _ => false
  | .ext _ => false
  | _ => true
/-- all that was tracked outside A stays; kept tables may grow -/
structure Ext (Γ : Ctx) (A : List Addr) (H H' : Hp) : Prop where
  st : ∀ b o, b ∉ A → H b = some o → stays o = true → H' b = some o
  ex : ∀ b φ, b ∉ A → b ∉ Γ.ownA → H b = some (.ext φ) → H' b = some (.ext φ)
  ca : ∀ b kvs, b ∉ A → H b = some (.dT kvs) → ∃ kvs', H' b = some (.dT kvs')
  al : ∀ b o, H b = some o → ∃ o', H' b = some o' ∧ (nx o → nx o')
theorem Ext.refl {Γ : Ctx} {A : List Addr} {H : Hp} : Ext Γ A H H := ⟨fun _ _ _ h _ => h, fun _ _ _ _ h => h, fun _ kvs _ h => ⟨kvs, h⟩, fun _ o h => ⟨o, h, id⟩⟩
theorem Ext.trans {Γ : Ctx} {A : List Addr} {H H1 H2 : Hp} (a : Ext Γ A H H1) (b : Ext Γ A H1 H2) : Ext Γ A H H2 :=
  ⟨fun c o n h s => b.st c o n (a.st c o n h s) s, fun c φ n m h => b.ex c φ n m (a.ex c φ n m h), fun c kvs n h => by
    obtain ⟨k1, e1⟩ := a.ca c kvs n h
    exact b.ca c k1 n e1, fun c o h => by
    obtain ⟨o1, h1, n1⟩ := a.al c o h
    obtain ⟨o2, h2, n2⟩ := b.al c o1 h1
    exact ⟨o2, h2, fun z => n2 (n1 z)⟩⟩
theorem Ext.mono {Γ : Ctx} {A B : List Addr} {H H' : Hp} (e : Ext Γ A H H') (h : ∀ a ∈ A, a ∈ B) : Ext Γ B H H' :=
  ⟨fun b o n => e.st b o fun z => n (h b z), fun b φ n => e.ex b φ fun z => n (h b z), fun b k n => e.ca b k fun z => n (h b z), e.al⟩
theorem Ext.of {Γ : Ctx} {A : List Addr} {H H' : Hp} (e : ∀ b o, H b = some o → H' b = some o) : Ext Γ A H H' :=
  ⟨fun b o _ h _ => e b o h, fun b φ _ _ h => e _ _ h, fun b k _ h => ⟨k, e _ _ h⟩, fun b o h => ⟨o, e b o h, id⟩⟩
theorem Ext.free {Γ : Ctx} {A : List Addr} {H H' : Hp} (e : Ext Γ A H H') {b : Addr} (h : H' b = none) : H b = none := by
  cases q : H b with
  | none => rfl
  | some o =>
    obtain ⟨o', z, _⟩ := e.al b o q
    rw [h] at z; cases z
theorem Ext.new {Γ : Ctx} {A : List Addr} {H : Hp} {p : Addr} {o : HO} (h : H p = none) : Ext Γ A H (upd H p o) := Ext.of fun b u q => by rw [upd_ne (ne_of_none q h)]; exact q
theorem PairsR.imp {H H' : Hp} (e : ∀ a xs, TupO H a xs → TupO H' a xs) : ∀ {ps : List (Int × Int)} {vs : List V}, PairsR H ps vs → PairsR H' ps vs
  | [], [], _ => trivial
  | p :: ps, v :: vs, h => by
    obtain ⟨⟨a, e1, e2⟩, h2⟩ := h
    exact ⟨⟨a, e1, e _ _ e2⟩, h2.imp e⟩
  | [], _ :: _, h => h.elim
  | _ :: _, [], h => h.elim
/-- what a representation leans on -/
structure Keeps (Γ : Ctx) (H H' : Hp) : Prop where
  lst : ∀ a xs, H a = some (.lst xs) → H' a = some (.lst xs)
  tupp : ∀ a xs, H a = some (.tup xs) → H' a = some (.tup xs)
  frz : ∀ a o xs, H a = some (.frz o (.tup xs)) → H' a = some (.frz o (.tup xs))
  dic : ∀ a kvs, H a = some (.dK kvs) → H' a = some (.dK kvs)
  rng : ∀ a lo hi, H a = some (.rng lo hi) → H' a = some (.rng lo hi)
  ins : ∀ a C dx fs, H a = some (.ins C dx fs) → H' a = some (.ins C dx fs)
  ca : ∀ b kvs, H b = some (.dT kvs) → ∃ kvs', H' b = some (.dT kvs')
  ext : ∀ a φ, a ∉ Γ.ownA → H a = some (.ext φ) → H' a = some (.ext φ)
theorem Keeps.tup {Γ : Ctx} {H H' : Hp} (k : Keeps Γ H H') (a : Addr) (xs : List V) (h : TupO H a xs) : TupO H' a xs := by
  rcases h with h | ⟨o, d, h⟩
  · exact .inl (k.tupp _ _ h)
  · exact .inr ⟨o, d, k.frz _ _ _ h⟩
theorem Keeps.tupR {Γ : Ctx} {H H' : Hp} (k : Keeps Γ H H') {z : Bool} {a : Addr} {xs : List V} (h : TupR z H a xs) : TupR z H' a xs := ⟨k.tup _ _ h.1, fun q => by
  obtain ⟨o, d, x⟩ := h.2 q
  exact ⟨o, d, k.frz _ _ _ x⟩⟩
theorem FnR.keep {Γ : Ctx} {H H' : Hp} (k : Keeps Γ H H') {x : String} {v : V} (h : FnR Γ H x v) : FnR Γ H' x v := by
  unfold FnR at h ⊢
  split
  · rename_i e
    rw [e] at h
    exact h
  · rename_i m e
    rw [e] at h
    obtain ⟨f, c', h1, n1, n2, h2, h3⟩ := h
    exact ⟨f, c', h1, n1, n2, k.ext _ _ n1 h2, k.ext _ _ n2 h3⟩
mutual
theorem Rep.keep {Γ : Ctx} {H H' : Hp} (k : Keeps Γ H H') : ∀ (d : D) {v : V}, Rep Γ H d v → Rep Γ H' d v
  | .non, _, h => by rw [Rep] at h ⊢; exact h
  | .bl _, _, h => by rw [Rep] at h ⊢; exact h
  | .int _, _, h => by rw [Rep] at h ⊢; exact h
  | .str _, _, h => by rw [Rep] at h ⊢; exact h
  | .lst ds, _, h => by
    rw [Rep_lst] at h ⊢
    obtain ⟨a, xs, e, e1, h⟩ := h
    exact ⟨a, xs, e, k.lst _ _ e1, RepL.keep k ds h⟩
  | .tup ds, _, h => by
    rw [Rep_tup] at h ⊢
    obtain ⟨a, xs, e, e1, h⟩ := h
    exact ⟨a, xs, e, k.tupR e1, RepL.keep k ds h⟩
  | .dic, _, h => by
    rw [Rep] at h ⊢
    obtain ⟨a, e, e1⟩ := h
    exact ⟨a, e, k.dic _ _ e1⟩
  | .rng _ _, _, h => by
    rw [Rep] at h ⊢
    obtain ⟨a, e, e1⟩ := h
    exact ⟨a, e, k.rng _ _ _ e1⟩
  | .dct true ks us, _, h => by
    rw [Rep] at h ⊢
    obtain ⟨a, e, n, xs, e1, h1, h2, h3⟩ := h
    exact ⟨a, e, n, xs, k.ext _ _ n e1, RepL.keep k ks h1, RepL.keep k us h2, h3⟩
  | .dct false ks us, _, h => by
    rw [Rep] at h ⊢
    obtain ⟨a, e, kvs, e1, h2, h3⟩ := h
    exact ⟨a, e, kvs, k.dic _ _ e1, RepL.keep k us h2, h3⟩
  | .web n ss, _, h => by
    rw [Rep] at h ⊢
    obtain ⟨a, dx, t, q, xs, kvs, e, e1, e2, e3, e4⟩ := h
    obtain ⟨kvs', e6⟩ := k.ca _ _ e4
    exact ⟨a, dx, t, q, xs, kvs', e, k.ins _ _ _ _ e1, k.tup _ _ e2, e3.imp k.tup, e6⟩
  | .row _, _, h => by rw [Rep] at h ⊢; exact h
  | .fn _, _, h => by rw [Rep] at h ⊢; exact h.keep k
theorem RepL.keep {Γ : Ctx} {H H' : Hp} (k : Keeps Γ H H') : ∀ (ds : List D) {vs : List V}, RepL Γ H ds vs → RepL Γ H' ds vs
  | [], _, h => by rw [RepL_nil] at h ⊢; exact h
  | d :: ds, _, h => by
    rw [RepL_cons] at h ⊢
    obtain ⟨v, ws, e, h1, h2⟩ := h
    exact ⟨v, ws, e, Rep.keep k d h1, RepL.keep k ds h2⟩
end
theorem Keeps.of {Γ : Ctx} {H H' : Hp} (e : ∀ b o, H b = some o → H' b = some o) : Keeps Γ H H' :=
  ⟨fun _ _ => e _ _, fun _ _ => e _ _, fun _ _ _ => e _ _, fun _ _ => e _ _, fun _ _ _ => e _ _, fun _ _ _ _ => e _ _, fun _ k h => ⟨k, e _ _ h⟩, fun _ _ _ => e _ _⟩
theorem Ext.keeps {Γ : Ctx} {A B : List Addr} {H H' : Hp} (e : Ext Γ B H H') (hb : ∀ a ∈ B, a ∈ A) : Keeps Γ (hide A H) (hide A H') := by
  have go : ∀ b o, hide A H b = some o → stays o = true → hide A H' b = some o := fun b o h s => by
    obtain ⟨n, h⟩ := hide_some h
    rw [hide_out n]
    exact e.st b o (fun z => n (hb b z)) h s
  refine ⟨fun _ _ h => go _ _ h rfl, fun _ _ h => go _ _ h rfl, fun _ _ _ h => go _ _ h rfl, fun _ _ h => go _ _ h rfl, fun _ _ _ h => go _ _ h rfl, fun _ _ _ _ h => go _ _ h rfl, fun b k h => ?_, fun b φ m h => ?_⟩
  · obtain ⟨n, h⟩ := hide_some h
    rw [hide_out n]
    exact e.ca b k (fun z => n (hb b z)) h
  · obtain ⟨n, h⟩ := hide_some h
    rw [hide_out n]
    exact e.ex b φ (fun z => n (hb b z)) m h
theorem hide_keeps {Γ : Ctx} {A B : List Addr} {H : Hp} (h : ∀ a ∈ A, a ∈ B) : Keeps Γ (hide B H) (hide A H) := Keeps.of fun b o q => by
  obtain ⟨n, q⟩ := hide_some q
  rw [hide_out fun z => n (h b z)]
  exact q
theorem hide_upd {A : List Addr} {H : Hp} {p : Addr} {o : HO} (h : p ∈ A) : hide A (upd H p o) = hide A H := by
  funext b
  by_cases q : b ∈ A
  · rw [hide_in q, hide_in q]
  · rw [hide_out q, hide_out q, upd_ne (fun z => q (by rw [z]; exact h))]
/-- a new address needs not be seen -/
theorem hide_new {Γ : Ctx} {A : List Addr} {H : Hp} {p : Addr} (h : H p = none) : Keeps Γ (hide A H) (hide (p :: A) H) := Keeps.of fun b o q => by
  obtain ⟨n, q⟩ := hide_some q
  rw [hide_out (fun z => by
    rcases List.mem_cons.mp z with z | z
    · rw [z, h] at q; cases q
    · exact n z)]
  exact q
theorem RepL.get {Γ : Ctx} {H : Hp} : ∀ {ds : List D} {vs : List V} {i : Nat} {d : D}, RepL Γ H ds vs → ds[i]? = some d → ∃ v, vs[i]? = some v ∧ Rep Γ H d v
  | [], _, _, _, _, e => by simp at e
  | d :: ds, _, 0, _, h, e => by
    rw [RepL_cons] at h
    obtain ⟨v, ws, rfl, h1, _⟩ := h
    simp at e; subst e
    exact ⟨v, rfl, h1⟩
  | d :: ds, _, i + 1, _, h, e => by
    rw [RepL_cons] at h
    obtain ⟨v, ws, rfl, _, h2⟩ := h
    obtain ⟨v', e1, e2⟩ := RepL.get h2 (i := i) (by simpa using e)
    exact ⟨v', by simpa using e1, e2⟩
theorem RepL.getV {Γ : Ctx} {H : Hp} : ∀ {ds : List D} {vs : List V} {i : Nat} {v : V}, RepL Γ H ds vs → vs[i]? = some v → ∃ d, ds[i]? = some d ∧ Rep Γ H d v
  | [], _, _, _, h, e => by rw [RepL_nil] at h; rw [h] at e; simp at e
  | d :: ds, _, 0, _, h, e => by
    rw [RepL_cons] at h
    obtain ⟨v, ws, rfl, h1, _⟩ := h
    simp at e; subst e
    exact ⟨d, rfl, h1⟩
  | d :: ds, _, i + 1, _, h, e => by
    rw [RepL_cons] at h
    obtain ⟨v, ws, rfl, _, h2⟩ := h
    obtain ⟨v', e1, e2⟩ := RepL.getV h2 (i := i) (by simpa using e)
    exact ⟨v', by simpa using e1, e2⟩
theorem RepL.append {Γ : Ctx} {H : Hp} : ∀ {ds es : List D} {vs ws : List V}, RepL Γ H ds vs → RepL Γ H es ws → RepL Γ H (ds ++ es) (vs ++ ws)
  | [], _, _, _, h, k => by rw [RepL_nil] at h; rw [h]; exact k
  | d :: ds, _, _, _, h, k => by
    rw [RepL_cons] at h
    obtain ⟨v, ws, rfl, h1, h2⟩ := h
    show RepL Γ H (d :: (ds ++ _)) (v :: (ws ++ _))
    rw [RepL_cons]
    exact ⟨v, _, rfl, h1, RepL.append h2 k⟩
theorem RepL.one {Γ : Ctx} {H : Hp} {d : D} {v : V} (h : Rep Γ H d v) : RepL Γ H [d] [v] := RepL_cons.mpr ⟨v, [], rfl, h, RepL_nil.mpr rfl⟩
theorem RepL.drop {Γ : Ctx} {H : Hp} : ∀ {ds : List D} {vs : List V} (n : Nat), RepL Γ H ds vs → RepL Γ H (ds.drop n) (vs.drop n)
  | _, _, 0, h => h
  | [], _, _ + 1, h => by rw [RepL_nil] at h; rw [h]; simp [RepL_nil]
  | d :: ds, _, n + 1, h => by
    rw [RepL_cons] at h
    obtain ⟨v, ws, rfl, _, h2⟩ := h
    simpa using RepL.drop n h2
theorem RepL.take {Γ : Ctx} {H : Hp} : ∀ {ds : List D} {vs : List V} (n : Nat), RepL Γ H ds vs → RepL Γ H (ds.take n) (vs.take n)
  | _, _, 0, _ => by simp [RepL_nil]
  | [], _, _ + 1, h => by rw [RepL_nil] at h; rw [h]; simp [RepL_nil]
  | d :: ds, _, n + 1, h => by
    rw [RepL_cons] at h
    obtain ⟨v, ws, rfl, h1, h2⟩ := h
    show RepL Γ H (d :: ds.take n) (v :: ws.take n)
    rw [RepL_cons]
    exact ⟨v, _, rfl, h1, RepL.take n h2⟩
theorem RepL.set {Γ : Ctx} {H : Hp} {d : D} {v : V} (r : Rep Γ H d v) : ∀ {ds : List D} {vs : List V} (n : Nat), RepL Γ H ds vs → RepL Γ H (ds.set n d) (vs.set n v)
  | [], _, n, h => by rw [RepL_nil] at h; rw [h]; simp [RepL_nil]
  | e :: ds, _, 0, h => by
    rw [RepL_cons] at h
    obtain ⟨w, ws, rfl, h1, h2⟩ := h
    show RepL Γ H (d :: ds) (v :: ws)
    rw [RepL_cons]
    exact ⟨v, _, rfl, r, h2⟩
  | e :: ds, _, n + 1, h => by
    rw [RepL_cons] at h
    obtain ⟨w, ws, rfl, h1, h2⟩ := h
    show RepL Γ H (e :: ds.set n d) (w :: ws.set n v)
    rw [RepL_cons]
    exact ⟨w, _, rfl, h1, RepL.set r n h2⟩
/-! ### keys of tuples -/
mutual
def KeyV (H : Hp) : NestedKey → V → Prop
  | .none, v => v = .non
  | .num i, v => v = .int i
  | .text x, v => v = .str x
  | .tup ks, v => ∃ a vs, v = .ref a ∧ TupO H a vs ∧ KeyVs H ks vs
def KeyVs (H : Hp) : List NestedKey → List V → Prop
  | [], vs => vs = []
  | k :: ks, vs => ∃ v ws, vs = v :: ws ∧ KeyV H k v ∧ KeyVs H ks ws
end
mutual
theorem KeyV.imp {H H' : Hp} (e : ∀ a xs, TupO H a xs → TupO H' a xs) : ∀ (k : NestedKey) {v : V}, KeyV H k v → KeyV H' k v
  | .none, _, h => by rw [KeyV] at h ⊢; exact h
  | .num _, _, h => by rw [KeyV] at h ⊢; exact h
  | .text _, _, h => by rw [KeyV] at h ⊢; exact h
  | .tup ks, _, h => by
    rw [KeyV] at h ⊢
    obtain ⟨a, vs, e1, e2, h⟩ := h
    exact ⟨a, vs, e1, e _ _ e2, KeyVs.imp e ks h⟩
theorem KeyVs.imp {H H' : Hp} (e : ∀ a xs, TupO H a xs → TupO H' a xs) : ∀ (ks : List NestedKey) {vs : List V}, KeyVs H ks vs → KeyVs H' ks vs
  | [], _, h => by rw [KeyVs] at h ⊢; exact h
  | k :: ks, _, h => by
    rw [KeyVs] at h ⊢
    obtain ⟨v, ws, e1, h1, h2⟩ := h
    exact ⟨v, ws, e1, KeyV.imp e k h1, KeyVs.imp e ks h2⟩
end
mutual
theorem Rep.keyV {Γ : Ctx} {A : List Addr} {H : Hp} : ∀ (d : D) {v : V} {k : NestedKey}, Rep Γ (hide A H) d v → nkD d = some k → KeyV H k v
  | .non, _, _, _, e => by simp [nkD] at e
  | .bl _, _, _, _, e => by simp [nkD] at e
  | .int _, _, _, h, e => by simp [nkD] at e; subst e; rw [Rep] at h; rw [KeyV]; exact h
  | .str _, _, _, h, e => by simp [nkD] at e; subst e; rw [Rep] at h; rw [KeyV]; exact h
  | .lst _, _, _, _, e => by simp [nkD] at e
  | .tup ds, _, _, h, e => by
    rw [nkD] at e
    obtain ⟨ks, e1, rfl⟩ := Option.map_eq_some_iff.mp e
    rw [Rep_tup] at h
    obtain ⟨a, xs, rfl, h1, h2⟩ := h
    rw [KeyV]
    exact ⟨a, xs, rfl, h1.o.unhide.2, RepL.keyVs ds h2 e1⟩
  | .dic, _, _, _, e => by simp [nkD] at e
  | .rng _ _, _, _, _, e => by simp [nkD] at e
  | .dct _ _ _, _, _, _, e => by simp [nkD] at e
  | .web _ _, _, _, _, e => by simp [nkD] at e
  | .row _, _, _, _, e => by simp [nkD] at e
  | .fn _, _, _, _, e => by simp [nkD] at e
theorem RepL.keyVs {Γ : Ctx} {A : List Addr} {H : Hp} : ∀ (ds : List D) {vs : List V} {ks : List NestedKey}, RepL Γ (hide A H) ds vs → nkDs ds = some ks → KeyVs H ks vs
  | [], _, _, h, e => by simp [nkDs] at e; subst e; rw [RepL_nil] at h; rw [KeyVs]; exact h
  | d :: ds, _, _, h, e => by
    rw [nkDs] at e
    obtain ⟨k, e1, e2⟩ := Option.bind_eq_some_iff.mp e
    obtain ⟨ks, e3, rfl⟩ := Option.map_eq_some_iff.mp e2
    rw [RepL_cons] at h
    obtain ⟨v, ws, rfl, h1, h2⟩ := h
    rw [KeyVs]
    exact ⟨v, ws, rfl, Rep.keyV d h1 e1, RepL.keyVs ds h2 e3⟩
end
mutual
theorem KeyV.is {P : Program} {w : World} {H : Hp} {h : Heap} (ok : HOk P w H h) : ∀ (k : NestedKey) {v : V} {u : Value}, KeyV H k v → RelV v u → NestedIs h k u
  | .none, _, _, e, r => by rw [KeyV] at e; subst e; cases r; exact .none
  | .num i, _, _, e, r => by rw [KeyV] at e; subst e; obtain ⟨t, rfl⟩ := r; exact .int _ _
  | .text x, _, _, e, r => by rw [KeyV] at e; subst e; obtain ⟨t, rfl⟩ := r; exact .text _ _
  | .tup ks, _, _, e, r => by
    rw [KeyV] at e
    obtain ⟨a, vs, rfl, e1, e2⟩ := e
    cases r
    obtain ⟨_, its, rv, o, ho, hc, n, hd⟩ := e1.ok ok
    exact .tup ho hc hd (by simpa using KeyVs.are ok ks e2 rv)
theorem KeyVs.are {P : Program} {w : World} {H : Hp} {h : Heap} (ok : HOk P w H h) : ∀ (ks : List NestedKey) {vs : List V} {us : List Value}, KeyVs H ks vs → Vals vs us → NestedAll h ks us
  | [], _, _, e, r => by rw [KeyVs] at e; subst e; cases r; exact .nil
  | k :: ks, _, _, e, r => by
    rw [KeyVs] at e
    obtain ⟨v, ws, rfl, e1, e2⟩ := e
    cases r with
    | cons r1 r2 => exact .cons (KeyV.is ok k e1 r1) (KeyVs.are ok ks e2 r2)
end
end DL

set_option Elab.async false
set_option linter.all false
set_option maxRecDepth 100000
namespace DL
open PySem PySem.Spec L2
/-! ### draws -/
structure Rw where
  addr : Addr
  idx : Int
  mix : Int
  carry : Int
def rAddr : Option Rw → List Addr
  | none => []
  | some r => [r.addr]
/-- a heap grows, no web is new -/
structure Grow (Γ : Ctx) (H H' : Hp) : Prop where
  k : ∀ b o, H b = some o → H' b = some o
  i : ∀ b dx fs, H' b = some (.ins Γ.web dx fs) → H b = some (.ins Γ.web dx fs)
instance {Γ : Ctx} {H H' : Hp} : CoeFun (Grow Γ H H') fun _ => ∀ b o, H b = some o → H' b = some o := ⟨Grow.k⟩
theorem Grow.refl {Γ : Ctx} {H : Hp} : Grow Γ H H := ⟨fun _ _ z => z, fun _ _ _ z => z⟩
theorem Grow.trans {Γ : Ctx} {H H1 H2 : Hp} (a : Grow Γ H H1) (b : Grow Γ H1 H2) : Grow Γ H H2 := ⟨fun c o z => b.k c o (a.k c o z), fun c dx fs z => a.i c dx fs (b.i c dx fs z)⟩
theorem grow_new {Γ : Ctx} {H : Hp} {p : Addr} {o : HO} (h : H p = none) (ho : ∀ C dx fs, o ≠ .ins C dx fs := by intro _ _ _ z; cases z) : Grow Γ H (upd H p o) := ⟨fun b u q => by rw [upd_ne (ne_of_none q h)]; exact q, fun b dx fs q => by
  by_cases z : b = p
  · rw [z, upd_same] at q
    exact (ho _ _ _ (Option.some.inj q)).elim
  · rwa [upd_ne z] at q⟩
/-- the webs' tables keep their worths; no two webs share one -/
structure WebsOk (Γ : Ctx) (H : Hp) : Prop where
  at_ : ∀ a dx n t q, H a = some (.ins Γ.web dx (webF n t q)) → ∃ ss xs kvs, TupO H t xs ∧ PairsR H ss xs ∧ H q = some (.dT kvs) ∧ CacheOk (Γ.val n ss) kvs
  uq : ∀ a a' dx dx' n n' t t' q, H a = some (.ins Γ.web dx (webF n t q)) → H a' = some (.ins Γ.web dx' (webF n' t' q)) → a = a'
theorem WebsOk.grow {Γ : Ctx} {H H' : Hp} (w : WebsOk Γ H) (g : Grow Γ H H') : WebsOk Γ H' where
  at_ := fun a dx n t q h => by
    obtain ⟨ss, xs, kvs, h1, h2, h3, h4⟩ := w.at_ a dx n t q (g.i _ _ _ h)
    exact ⟨ss, xs, kvs, h1.congr fun _ => g _ _, h2.imp fun b ys e => e.congr fun _ => g _ _, g _ _ h3, h4⟩
  uq := fun a a' dx dx' n n' t t' q h h' => w.uq a a' dx dx' n n' t t' q (g.i _ _ _ h) (g.i _ _ _ h')
theorem PairsR.inj {H : Hp} : ∀ {ps qs : List (Int × Int)} {vs : List V}, PairsR H ps vs → PairsR H qs vs → ps = qs
  | [], [], [], _, _ => rfl
  | p :: ps, q :: qs, v :: vs, h, k => by
    obtain ⟨⟨a, e1, e2⟩, h2⟩ := h
    obtain ⟨⟨b, f1, f2⟩, k2⟩ := k
    rw [e1] at f1
    cases f1
    have f3 := e2.inj f2
    simp only [List.cons.injEq, V.int.injEq, and_true] at f3
    rw [PairsR.inj h2 k2, Prod.ext f3.1 f3.2]
  | [], [], _ :: _, h, _ => h.elim
  | [], _ :: _, [], _, k => k.elim
  | [], _ :: _, _ :: _, h, _ => h.elim
  | _ :: _, [], [], h, _ => h.elim
  | _ :: _, [], _ :: _, _, k => k.elim
  | _ :: _, _ :: _, [], h, _ => h.elim
/-- what is not a web's part is changed -/
theorem WebsOk.upd {Γ : Ctx} {H : Hp} {p : Addr} {o o' : HO} (w : WebsOk Γ H) (hp : H p = some o) (n1 : ∀ C dx fs, o ≠ .ins C dx fs := by intro _ _ _ z; cases z) (n2 : ∀ xs, o ≠ .tup xs := by intro _ z; cases z) (n5 : ∀ u v, o ≠ .frz u v := by intro _ _ z; cases z) (n3 : ∀ k, o ≠ .dT k := by intro _ z; cases z) (m : ∀ C dx fs, o' ≠ .ins C dx fs := by intro _ _ _ z; cases z) : WebsOk Γ (L2.upd H p o') := by
  have bk : ∀ b dx fs, L2.upd H p o' b = some (.ins Γ.web dx fs) → H b = some (.ins Γ.web dx fs) := fun b dx fs q => by
    by_cases z : b = p
    · rw [z, upd_same] at q
      exact (m _ _ _ (Option.some.inj q)).elim
    · rwa [upd_ne z] at q
  refine ⟨fun a dx n t q h => ?_, fun a a' dx dx' n n' t t' q h h' => w.uq a a' dx dx' n n' t t' q (bk _ _ _ h) (bk _ _ _ h')⟩
  obtain ⟨ss, xs, kvs, h1, h2, h3, h4⟩ := w.at_ a dx n t q (bk _ _ _ h)
  have tp : ∀ b ys, TupO H b ys → TupO (L2.upd H p o') b ys := fun b ys e => e.upd hp n2 n5
  exact ⟨ss, xs, kvs, tp _ _ h1, h2.imp tp, by rw [upd_ne (ne_of h3 hp (fun z => n3 _ z.symm))]; exact h3, h4⟩
/-- the memos -/
structure MemOk (m : Memo) (H : Hp) (xs : List (NestedKey × Addr × V)) : Prop where
  nd : (xs.map (·.1)).Nodup
  ok : ∀ x ∈ xs, x.1 ∈ m.dom ∧ x.2.2 = m.f x.1 ∧ KeyV H x.1 (.ref x.2.1)
theorem MemOk.imp {m : Memo} {H H' : Hp} {xs : List (NestedKey × Addr × V)} (e : ∀ a xs, TupO H a xs → TupO H' a xs) (h : MemOk m H xs) : MemOk m H' xs := ⟨h.nd, fun x hx => by
  obtain ⟨h1, h2, h3⟩ := h.ok x hx
  exact ⟨h1, h2, h3.imp e⟩⟩
def OwnOk (Γ : Ctx) (H : Hp) : Prop := ∀ p ∈ Γ.own, ∃ xs, H p.1 = some (dN Γ.wd p.1 xs) ∧ MemOk p.2 H xs
theorem OwnOk.keep {Γ : Ctx} {H H' : Hp} (h : OwnOk Γ H) (e : ∀ b φ, H b = some (.ext φ) → H' b = some (.ext φ)) (t : ∀ a xs, TupO H a xs → TupO H' a xs) : OwnOk Γ H' := fun p hp => by
  obtain ⟨xs, h1, h2⟩ := h p hp
  exact ⟨xs, e _ _ h1, h2.imp t⟩
def RowOk (Γ : Ctx) (H : Hp) (R : Option Rw) : Prop :=
  (LamX.Tabs Γ.tabs H ∧ OwnOk Γ H ∧ WebsOk Γ H) ∧ match R with
    | none => True
    | some r => H r.addr = some (.lst [.ref Γ.scr, .int r.idx, .int r.mix, .int r.carry])
theorem SqL.grow {K : PySem.W.Frag} {H H' : Hp} {a : Addr} {xs : List V} (e : ∀ b o, H b = some o → H' b = some o) (h : SqL K H a xs) : SqL K H' a xs := by
  rcases h with (h | ⟨o, h⟩) | h
  · exact .inl (.inl (e _ _ h))
  · exact .inl (.inr ⟨o, e _ _ h⟩)
  · exact .inr h
theorem RowOk.grow {Γ : Ctx} {H H' : Hp} {R : Option Rw} (e : Grow Γ H H') (h : RowOk Γ H R) : RowOk Γ H' R := by
  obtain ⟨⟨h1, h0, hw⟩, h2⟩ := h
  refine ⟨⟨h1.ext e.k, h0.keep (fun b φ => e b _) (fun b xs h => h.congr fun _ => e b _), hw.grow e⟩, ?_⟩
  cases R with
  | none => trivial
  | some r => exact e _ _ h2
theorem RowOk.grow2 {Γ : Ctx} {H H' : Hp} {R : Option Rw} (e : ∀ b o, H b = some o → H' b = some o) (w : WebsOk Γ H') (h : RowOk Γ H R) : RowOk Γ H' R := by
  obtain ⟨⟨h1, h0, hw⟩, h2⟩ := h
  refine ⟨⟨h1.ext e, h0.keep (fun b φ => e b _) (fun b xs h => h.congr fun _ => e b _), w⟩, ?_⟩
  cases R with
  | none => trivial
  | some r => exact e _ _ h2
/-- an instance that is no web yet -/
theorem WebsOk.newI {Γ : Ctx} {H : Hp} {x C dx : Addr} {fs : List (Str × V)} (w : WebsOk Γ H) (hx : H x = none) (hf : fs.length ≠ 3) : WebsOk Γ (L2.upd H x (.ins C dx fs)) := by
  have gr : ∀ b o, H b = some o → L2.upd H x (.ins C dx fs) b = some o := fun b o e => by rw [upd_ne (ne_of_none e hx)]; exact e
  have bk : ∀ b dx' n t q, L2.upd H x (.ins C dx fs) b = some (.ins Γ.web dx' (webF n t q)) → H b = some (.ins Γ.web dx' (webF n t q)) := fun b dx' n t q e => by
    by_cases z : b = x
    · rw [z, upd_same] at e
      have e2 := (HO.ins.inj (Option.some.inj e)).2.2
      rw [e2] at hf
      exact (hf rfl).elim
    · rwa [upd_ne z] at e
  refine ⟨fun a dx' n t q h => ?_, fun a a' dx1 dx2 n n' t t' q h h' => w.uq a a' dx1 dx2 n n' t t' q (bk _ _ _ _ _ h) (bk _ _ _ _ _ h')⟩
  obtain ⟨ss, xs, kvs, h1, h2, h3, h4⟩ := w.at_ a dx' n t q (bk _ _ _ _ _ h)
  exact ⟨ss, xs, kvs, h1.congr fun _ => gr _ _, h2.imp fun b ys e => e.congr fun _ => gr _ _, gr _ _ h3, h4⟩
theorem Tabs_upd {tabs : List (Addr × Str)} {H : Hp} {p : Addr} {o o' : HO} (h : LamX.Tabs tabs H) (hp : H p = some o) (n1 : ∀ ps, o ≠ .tbl ps) (n2 : nx o) : LamX.Tabs tabs (L2.upd H p o') := fun q hq => by
  obtain ⟨ps, a1, a2, a3⟩ := h q hq
  refine ⟨ps, by rw [upd_ne (ne_of a1 hp (fun z => n1 _ z.symm))]; exact a1, a2, fun pos cv hc => ?_⟩
  obtain ⟨c, e1, e2⟩ := a3 pos cv hc
  refine ⟨c, e1, ?_⟩
  rw [upd_ne (ne_of e2 hp (fun z => n2 _ _ z.symm))]
  exact e2
/-- a tracked list or dict that is not the row is changed -/
theorem RowOk.upd {Γ : Ctx} {H : Hp} {R : Option Rw} {p : Addr} {o o' : HO} (h : RowOk Γ H R) (hp : H p = some o) (n : p ∉ rAddr R) (m : p ∉ Γ.ownA) (ho : nx o := by first | exact nx_lst | exact nx_dK | exact dN_ne_code) (n0 : ∀ ps, o ≠ .tbl ps := by intro _ z; cases z) (n1 : ∀ C dx fs, o ≠ .ins C dx fs := by intro _ _ _ z; cases z) (n2 : ∀ xs, o ≠ .tup xs := by intro _ z; cases z) (n5 : ∀ u v, o ≠ .frz u v := by intro _ _ z; cases z) (n3 : ∀ k, o ≠ .dT k := by intro _ z; cases z) (n4 : ∀ C dx fs, o' ≠ .ins C dx fs := by intro _ _ _ z; cases z) : RowOk Γ (upd H p o') R := by
  obtain ⟨⟨h1, h0, hw⟩, h2⟩ := h
  have tp : ∀ b ys, TupO H b ys → TupO (L2.upd H p o') b ys := fun b ys e => e.upd hp n2 n5
  refine ⟨⟨Tabs_upd h1 hp n0 ho, fun q hq => ?_, hw.upd hp n1 n2 n5 n3 n4⟩, ?_⟩
  · obtain ⟨xs, e1, e2⟩ := h0 q hq
    have ne : q.1 ≠ p := fun z => m (by rw [← z]; exact List.mem_map.mpr ⟨q, hq, rfl⟩)
    exact ⟨xs, by rw [upd_ne ne]; exact e1, e2.imp tp⟩
  · cases R with
    | none => trivial
    | some r =>
      show L2.upd H p o' r.addr = _
      rw [upd_ne (fun z => n (by rw [← z]; exact List.mem_cons_self))]
      exact h2
/-- a new object -/
theorem RowOk.new {Γ : Ctx} {H : Hp} {R : Option Rw} {p : Addr} {o : HO} (h : RowOk Γ H R) (hp : H p = none) (ho : ∀ C dx fs, o ≠ .ins C dx fs := by intro _ _ _ z; cases z) : RowOk Γ (L2.upd H p o) R := h.grow (grow_new hp ho)
theorem own_free {Γ : Ctx} {H : Hp} {R : Option Rw} {p : Addr} (h : RowOk Γ H R) (hp : H p = none) : p ∉ Γ.ownA := fun z => by
  obtain ⟨q, hq, e⟩ := List.mem_map.mp z
  obtain ⟨xs, h1, _⟩ := h.1.2.1 q hq
  rw [e, hp] at h1
  cases h1
theorem own_not {Γ : Ctx} {H : Hp} {R : Option Rw} {p : Addr} {o : HO} (h : RowOk Γ H R) (hp : H p = some o) (ho : ∀ φ, o ≠ .ext φ := by intro _ z; cases z) : p ∉ Γ.ownA := fun z => by
  obtain ⟨q, hq, e⟩ := List.mem_map.mp z
  obtain ⟨xs, h1, _⟩ := h.1.2.1 q hq
  rw [e, hp] at h1
  exact ho _ (Option.some.inj h1)
/-! ### outcomes -/
inductive Out (α : Type) where
  | ok (a : α) (R : Option Rw)
  | exn (c : String) (d : D) (R : Option Rw)
  | stuck
def M (α : Type) : Type := Option Rw → Out α
def M.stuck {α : Type} : M α := fun _ => .stuck
def M.lift {α : Type} : Option α → M α
  | some a => fun R => .ok a R
  | none => fun _ => .stuck
def M.raise {α : Type} (c : String) (d : D) : M α := fun R => .exn c d R
def M.bnd {α β : Type} (m : M α) (f : α → M β) : M β := fun R => match m R with
  | .ok a R' => f a R'
  | .exn c d R' => .exn c d R'
  | .stuck => .stuck
instance : Monad M where
  pure a := fun R => .ok a R
  bind := M.bnd
theorem pure_run {α : Type} (a : α) (R : Option Rw) : (pure a : M α) R = .ok a R := rfl
theorem bind_run {α β : Type} (m : M α) (f : α → M β) (R : Option Rw) : (m >>= f) R = match m R with
  | .ok a R' => f a R'
  | .exn c d R' => .exn c d R'
  | .stuck => .stuck := rfl
theorem M.pure_bind {α β : Type} (a : α) (f : α → M β) : (pure a >>= f) = f a := rfl
theorem M.bind_pure {α : Type} (m : M α) : (m >>= fun a => pure a) = m := by
  funext R
  rw [bind_run]
  cases m R <;> rfl
theorem M.assoc {α β γ : Type} (m : M α) (f : α → M β) (g : β → M γ) : ((m >>= f) >>= g) = m >>= fun a => f a >>= g := by
  funext R
  simp only [bind_run]
  cases m R <;> rfl
theorem M.lift_some {α : Type} (a : α) : (M.lift (some a) : M α) = pure a := rfl
theorem M.lift_none {α : Type} : (M.lift none : M α) = M.stuck := rfl
theorem M.stuck_bind {α β : Type} (f : α → M β) : ((M.stuck : M α) >>= f) = M.stuck := rfl
theorem M.raise_bind {α β : Type} (c : String) (d : D) (f : α → M β) : ((M.raise c d : M α) >>= f) = M.raise c d := rfl
instance : LawfulMonad M := LawfulMonad.mk' (m := M) (id_map := fun x => M.bind_pure x) (pure_bind := fun a f => rfl) (bind_assoc := fun m f g => M.assoc m f g)
def Out.run {α : Type} (o : Out α) (Qk : α → Option Rw → Prop) (Qe : String → D → Option Rw → Prop) : Prop := match o with
  | .ok a R => Qk a R
  | .exn c d R => Qe c d R
  | .stuck => False
theorem run_bind {α β : Type} {m : M α} {f : α → M β} {R : Option Rw} {Qk : β → Option Rw → Prop} {Qe : String → D → Option Rw → Prop} :
    ((m >>= f) R).run Qk Qe ↔ (m R).run (fun a R' => (f a R').run Qk Qe) Qe := by
  rw [bind_run]
  cases m R <;> rfl
theorem Out.run_mono {α : Type} {o : Out α} {Qk Qk' : α → Option Rw → Prop} {Qe Qe' : String → D → Option Rw → Prop} (h : o.run Qk Qe) (hk : ∀ a R, o = .ok a R → Qk a R → Qk' a R) (he : ∀ c d R, o = .exn c d R → Qe c d R → Qe' c d R) : o.run Qk' Qe' := by
  cases o with
  | ok a R => exact hk a R rfl h
  | exn c d R => exact he c d R rfl h
  | stuck => exact h
/-! ### slots -/
/-- what one may own: a list; a dict; a list of lists -/
inductive OT where
  | lst (xs : List D)
  | dct (n : Bool) (ks vs : List D)
  | mat (rows : List (List D))
inductive SD where
  | none
  | dat (d : D)
  | ot (t : OT)
abbrev SD.own (xs : List D) : SD := .ot (.lst xs)
abbrev SEnv := List SD
def MatR (Γ : Ctx) (Hh H : Hp) : List (List D) → List Addr → Prop
  | [], qs => qs = []
  | r :: rs, qs => ∃ q qs' vs, qs = q :: qs' ∧ H q = some (.lst vs) ∧ RepL Γ Hh r vs ∧ MatR Γ Hh H rs qs'
/-- t stands at p; the addresses of its own -/
def Own (Γ : Ctx) (Hh H : Hp) : OT → Addr → List Addr → Prop
  | .lst ds, p, Ps => Ps = [p] ∧ ∃ vs, H p = some (.lst vs) ∧ RepL Γ Hh ds vs
  | .dct true ks us, p, Ps => Ps = [p] ∧ ∃ xs : List (NestedKey × Addr × V), H p = some (dN Γ.wd p xs) ∧ RepL Γ Hh ks (xs.map fun x => .ref x.2.1) ∧ RepL Γ Hh us (xs.map fun x => x.2.2) ∧ ks.map nkD = xs.map fun x => some x.1
  | .dct false ks us, p, Ps => Ps = [p] ∧ ∃ kvs : List (Key × V), H p = some (.dK kvs) ∧ RepL Γ Hh us (kvs.map (·.2)) ∧ ks.map fkD = kvs.map fun x => some x.1
  | .mat rows, p, Ps => ∃ qs, Ps = p :: qs ∧ H p = some (.lst (qs.map .ref)) ∧ MatR Γ Hh H rows qs
theorem MatR.keep {Γ : Ctx} {Hh Hh' H H' : Hp} (k : Keeps Γ Hh Hh') : ∀ {rows : List (List D)} {qs : List Addr}, MatR Γ Hh H rows qs → (∀ q ∈ qs, ∀ o, H q = some o → H' q = some o) → MatR Γ Hh' H' rows qs
  | [], qs, h, _ => h
  | r :: rs, _, h, hk => by
    obtain ⟨q, qs', vs, rfl, h1, h2, h3⟩ := h
    exact ⟨q, qs', vs, rfl, hk q List.mem_cons_self _ h1, RepL.keep k _ h2, MatR.keep k h3 fun p hp => hk p (List.mem_cons_of_mem _ hp)⟩
theorem Own.keep {Γ : Ctx} {Hh Hh' H H' : Hp} (k : Keeps Γ Hh Hh') {t : OT} {p : Addr} {Ps : List Addr} (h : Own Γ Hh H t p Ps) (hk : ∀ q ∈ Ps, ∀ o, H q = some o → H' q = some o) : Own Γ Hh' H' t p Ps := by
  cases t with
  | lst ds =>
    obtain ⟨rfl, vs, h1, h2⟩ := h
    exact ⟨rfl, vs, hk _ List.mem_cons_self _ h1, RepL.keep k _ h2⟩
  | dct n ks us =>
    cases n with
    | true =>
      obtain ⟨rfl, xs, h1, h2, h3, h4⟩ := h
      exact ⟨rfl, xs, hk _ List.mem_cons_self _ h1, RepL.keep k _ h2, RepL.keep k _ h3, h4⟩
    | false =>
      obtain ⟨rfl, xs, h1, h3, h4⟩ := h
      exact ⟨rfl, xs, hk _ List.mem_cons_self _ h1, RepL.keep k _ h3, h4⟩
  | mat rows =>
    obtain ⟨qs, rfl, h1, h2⟩ := h
    exact ⟨qs, rfl, hk _ List.mem_cons_self _ h1, h2.keep k fun q hq => hk q (List.mem_cons_of_mem _ hq)⟩
theorem Own.root {Γ : Ctx} {Hh H : Hp} {t : OT} {p : Addr} {Ps : List Addr} (h : Own Γ Hh H t p Ps) : p ∈ Ps := by
  cases t with
  | lst ds => obtain ⟨rfl, _⟩ := h; exact List.mem_cons_self
  | dct n ks us => cases n <;> (obtain ⟨rfl, _⟩ := h; exact List.mem_cons_self)
  | mat rows => obtain ⟨qs, rfl, _⟩ := h; exact List.mem_cons_self
/-- what may be owned -/
def ownO (w : World) (p : Addr) (o : HO) : Prop := (∃ xs, o = .lst xs) ∨ (∃ kvs, o = .dK kvs) ∨ ∃ xs, o = dN w p xs
theorem MatR.objs {Γ : Ctx} {Hh H : Hp} : ∀ {rows : List (List D)} {qs : List Addr}, MatR Γ Hh H rows qs → ∀ q ∈ qs, ∃ o, H q = some o ∧ ownO Γ.wd q o
  | [], qs, h, q, hq => by rw [show qs = [] from h] at hq; cases hq
  | r :: rs, _, h, q, hq => by
    obtain ⟨q', qs', vs, rfl, h1, h2, h3⟩ := h
    rcases List.mem_cons.mp hq with z | z
    · rw [z]; exact ⟨_, h1, .inl ⟨_, rfl⟩⟩
    · exact h3.objs q z
theorem Own.objs {Γ : Ctx} {Hh H : Hp} {t : OT} {p : Addr} {Ps : List Addr} (h : Own Γ Hh H t p Ps) : ∀ q ∈ Ps, ∃ o, H q = some o ∧ ownO Γ.wd q o := fun q hq => by
  cases t with
  | lst ds =>
    obtain ⟨rfl, vs, h1, h2⟩ := h
    rw [List.mem_singleton.mp hq]
    exact ⟨_, h1, .inl ⟨_, rfl⟩⟩
  | dct n ks us =>
    cases n with
    | true =>
      obtain ⟨rfl, xs, h1, _⟩ := h
      rw [List.mem_singleton.mp hq]
      exact ⟨_, h1, .inr (.inr ⟨_, rfl⟩)⟩
    | false =>
      obtain ⟨rfl, xs, h1, _⟩ := h
      rw [List.mem_singleton.mp hq]
      exact ⟨_, h1, .inr (.inl ⟨_, rfl⟩)⟩
  | mat rows =>
    obtain ⟨qs, rfl, h1, h2⟩ := h
    rcases List.mem_cons.mp hq with z | z
    · rw [z]; exact ⟨_, h1, .inl ⟨_, rfl⟩⟩
    · exact h2.objs q z
theorem ownO.nx {w : World} {p : Addr} {o : HO} (h : ownO w p o) : nx o := by
  rcases h with ⟨_, rfl⟩ | ⟨_, rfl⟩ | ⟨_, rfl⟩
  · exact nx_lst
  · exact nx_dK
  · exact dN_ne_code
theorem Ext.ownO {Γ : Ctx} {B : List Addr} {H H' : Hp} (e : Ext Γ B H H') {p : Addr} {o : HO} (h : DL.ownO Γ.wd p o) (n : p ∉ B) (m : p ∉ Γ.ownA) (hp : H p = some o) : H' p = some o := by
  rcases h with ⟨_, rfl⟩ | ⟨_, rfl⟩ | ⟨_, rfl⟩
  · exact e.st _ _ n hp rfl
  · exact e.st _ _ n hp rfl
  · exact e.ex _ _ n m hp
inductive SlotsR (Γ : Ctx) (Hh H : Hp) : St → SEnv → List Addr → Prop
  | nil : SlotsR Γ Hh H [] [] []
  | none {x : Option V} {σ : St} {δ : SEnv} {P : List Addr} : SlotsR Γ Hh H σ δ P → SlotsR Γ Hh H (x :: σ) (.none :: δ) P
  | dat {v : V} {d : D} {σ : St} {δ : SEnv} {P : List Addr} : Rep Γ Hh d v → SlotsR Γ Hh H σ δ P → SlotsR Γ Hh H (some v :: σ) (.dat d :: δ) P
  | ot {p : Addr} {t : OT} {Ps : List Addr} {σ : St} {δ : SEnv} {P : List Addr} : Own Γ Hh H t p Ps → SlotsR Γ Hh H σ δ P → SlotsR Γ Hh H (some (.ref p) :: σ) (.ot t :: δ) (Ps ++ P)
theorem SlotsR.length {Γ : Ctx} {Hh H : Hp} {σ : St} {δ : SEnv} {P : List Addr} (h : SlotsR Γ Hh H σ δ P) : σ.length = δ.length := by
  induction h with
  | nil => rfl
  | none _ ih => simp [ih]
  | dat _ _ ih => simp [ih]
  | ot _ _ ih => simp [ih]
theorem SlotsR.get {Γ : Ctx} {Hh H : Hp} {σ : St} {δ : SEnv} {P : List Addr} (h : SlotsR Γ Hh H σ δ P) : ∀ {i : Nat} {d : D}, δ[i]? = some (.dat d) → ∃ v, σ[i]? = some (some v) ∧ Rep Γ Hh d v := by
  induction h with
  | nil => intro i d e; simp at e
  | none _ ih =>
    intro i d e
    cases i with
    | zero => simp at e
    | succ i => simpa using ih (i := i) (d := d) (by simpa using e)
  | dat r _ ih =>
    intro i d e
    cases i with
    | zero => simp at e; subst e; exact ⟨_, rfl, r⟩
    | succ i => simpa using ih (i := i) (d := d) (by simpa using e)
  | ot _ _ ih =>
    intro i d e
    cases i with
    | zero => simp at e
    | succ i => simpa using ih (i := i) (d := d) (by simpa using e)
theorem SlotsR.getOt {Γ : Ctx} {Hh H : Hp} {σ : St} {δ : SEnv} {P : List Addr} (h : SlotsR Γ Hh H σ δ P) : ∀ {i : Nat} {t : OT}, δ[i]? = some (.ot t) → ∃ p Ps, σ[i]? = some (some (.ref p)) ∧ Own Γ Hh H t p Ps ∧ ∀ q ∈ Ps, q ∈ P := by
  induction h with
  | nil => intro i d e; simp at e
  | none _ ih =>
    intro i d e
    cases i with
    | zero => simp at e
    | succ i => simpa using ih (i := i) (t := d) (by simpa using e)
  | dat r _ ih =>
    intro i d e
    cases i with
    | zero => simp at e
    | succ i => simpa using ih (i := i) (t := d) (by simpa using e)
  | @ot p t Ps σ δ P h1 _ ih =>
    intro i d e
    cases i with
    | zero => simp at e; subst e; exact ⟨p, Ps, rfl, h1, fun q hq => List.mem_append_left _ hq⟩
    | succ i =>
      obtain ⟨p', Ps', e1, e2, e3⟩ := ih (i := i) (t := d) (by simpa using e)
      exact ⟨p', Ps', by simpa using e1, e2, fun q hq => List.mem_append_right _ (e3 q hq)⟩
theorem SlotsR.getOwn {Γ : Ctx} {Hh H : Hp} {σ : St} {δ : SEnv} {P : List Addr} (h : SlotsR Γ Hh H σ δ P) {i : Nat} {ds : List D} (e : δ[i]? = some (.own ds)) : ∃ p vs, σ[i]? = some (some (.ref p)) ∧ H p = some (.lst vs) ∧ RepL Γ Hh ds vs ∧ p ∈ P := by
  obtain ⟨p, Ps, e1, ⟨e2, vs, e3, e4⟩, e5⟩ := h.getOt e
  exact ⟨p, vs, e1, e3, e4, e5 p (by rw [e2]; exact List.mem_cons_self)⟩
theorem SlotsR.objs {Γ : Ctx} {Hh H : Hp} {σ : St} {δ : SEnv} {P : List Addr} (h : SlotsR Γ Hh H σ δ P) : ∀ q ∈ P, ∃ o, H q = some o ∧ ownO Γ.wd q o := by
  induction h with
  | nil => intro q hq; cases hq
  | none _ ih => exact ih
  | dat _ _ ih => exact ih
  | ot h1 _ ih =>
    intro q hq
    rcases List.mem_append.mp hq with z | z
    · exact h1.objs q z
    · exact ih q z
/-- the heap moves: the seen part is kept, what is owned stands -/
theorem SlotsR.keep {Γ : Ctx} {Hh H Hh' H' : Hp} (k : Keeps Γ Hh Hh') {σ : St} {δ : SEnv} {P : List Addr} (h : SlotsR Γ Hh H σ δ P) (ho : ∀ p ∈ P, ∀ o, ownO Γ.wd p o → H p = some o → H' p = some o) : SlotsR Γ Hh' H' σ δ P := by
  induction h with
  | nil => exact .nil
  | none _ ih => exact .none (ih ho)
  | dat r _ ih => exact .dat (Rep.keep k _ r) (ih ho)
  | ot h1 _ ih => exact .ot (h1.keep k fun q hq o e => by
      obtain ⟨o', e1, e2⟩ := h1.objs q hq
      rw [e] at e1
      cases e1
      exact ho q (List.mem_append_left _ hq) o e2 e) (ih fun p hp => ho p (List.mem_append_right _ hp))
/-- slot i holds d from now on; what was owned there is let go -/
theorem SlotsR.set {Γ : Ctx} {Hh H : Hp} {v : V} {d : D} (r : Rep Γ Hh d v) {σ : St} {δ : SEnv} {P : List Addr} (h : SlotsR Γ Hh H σ δ P) : ∀ (i : Nat), ∃ P', SlotsR Γ Hh H (σ.set i (some v)) (δ.set i (.dat d)) P' ∧ P'.Sublist P := by
  induction h with
  | nil => intro i; exact ⟨[], by simpa using SlotsR.nil, .refl _⟩
  | none h ih =>
    intro i
    cases i with
    | zero => exact ⟨_, .dat r h, .refl _⟩
    | succ i => obtain ⟨P', h1, h2⟩ := ih i; exact ⟨P', .none h1, h2⟩
  | dat r' h ih =>
    intro i
    cases i with
    | zero => exact ⟨_, .dat r h, .refl _⟩
    | succ i => obtain ⟨P', h1, h2⟩ := ih i; exact ⟨P', .dat r' h1, h2⟩
  | ot e h ih =>
    intro i
    cases i with
    | zero => exact ⟨_, .dat r h, List.sublist_append_right _ _⟩
    | succ i => obtain ⟨P', h1, h2⟩ := ih i; exact ⟨_, .ot e h1, h2.append_left _⟩
theorem SlotsR.setN {Γ : Ctx} {Hh H : Hp} {y : Option V} {σ : St} {δ : SEnv} {P : List Addr} (h : SlotsR Γ Hh H σ δ P) : ∀ (i : Nat), ∃ P', SlotsR Γ Hh H (σ.set i y) (δ.set i .none) P' ∧ P'.Sublist P := by
  induction h with
  | nil => intro i; exact ⟨[], by simpa using SlotsR.nil, .refl _⟩
  | none h ih =>
    intro i
    cases i with
    | zero => exact ⟨_, .none h, .refl _⟩
    | succ i => obtain ⟨P', h1, h2⟩ := ih i; exact ⟨P', .none h1, h2⟩
  | dat r' h ih =>
    intro i
    cases i with
    | zero => exact ⟨_, .none h, .refl _⟩
    | succ i => obtain ⟨P', h1, h2⟩ := ih i; exact ⟨P', .dat r' h1, h2⟩
  | ot e h ih =>
    intro i
    cases i with
    | zero => exact ⟨_, .none h, List.sublist_append_right _ _⟩
    | succ i => obtain ⟨P', h1, h2⟩ := ih i; exact ⟨_, .ot e h1, h2.append_left _⟩
theorem SlotsR.wipe1 {Γ : Ctx} {Hh H : Hp} {σ : St} {δ : SEnv} {P : List Addr} (h : SlotsR Γ Hh H σ δ P) (i : Nat) : ∃ P', SlotsR Γ Hh H (σ.set i Option.none) (δ.set i .none) P' ∧ P'.Sublist P := h.setN i
/-- fewer addresses are hidden -/
theorem SlotsR.sub {Γ : Ctx} {H : Hp} {A P P' : List Addr} {σ : St} {δ : SEnv} {Q : List Addr} (h : SlotsR Γ (hide (A ++ P) H) H σ δ Q) (s : ∀ a ∈ P', a ∈ P) : SlotsR Γ (hide (A ++ P') H) H σ δ Q :=
  h.keep (hide_keeps fun a ha => by
    rcases List.mem_append.mp ha with z | z
    · exact List.mem_append_left _ z
    · exact List.mem_append_right _ (s a z)) fun _ _ _ _ e => e
/-! ### the state -/
/-- the script is one of the module's own objects -/
def ScrK (Γ : Ctx) : Prop := SqL Γ.K (fun _ => none) Γ.scr (Γ.cells.map V.int)
structure RepS (Γ : Ctx) (H0 : Hp) (A B P : List Addr) (R : Option Rw) (H : Hp) (σ : St) (δ : SEnv) : Prop where
  row : RowOk Γ H R
  ra : ∀ a ∈ rAddr R, a ∈ A
  ba : ∀ a ∈ B, a ∈ A
  rb : ∀ a ∈ rAddr R, a ∈ B
  al : ∀ a ∈ A, ∃ o, H a = some o ∧ nx o
  sc : SqL Γ.K H0 Γ.scr (Γ.cells.map V.int)
  sb : Γ.scr ∈ B → ScrK Γ
  ext : Ext Γ B H0 H
  own : ∀ p ∈ P, H0 p = none ∧ p ∉ A ∧ p ∉ Γ.ownA
  nd : P.Nodup
  slots : SlotsR Γ (hide (A ++ P) H) H σ δ P
/-- a step's frame -/
structure Mv (Γ : Ctx) (B : List Addr) (R R' : Option Rw) (H H' : Hp) : Prop where
  ext : Ext Γ B H H'
  row : RowOk Γ H' R'
  adr : rAddr R' = rAddr R
theorem Mv.refl {Γ : Ctx} {B : List Addr} {R : Option Rw} {H : Hp} (h : RowOk Γ H R) : Mv Γ B R R H H := ⟨.refl, h, rfl⟩
theorem Mv.trans {Γ : Ctx} {B : List Addr} {R R1 R2 : Option Rw} {H H1 H2 : Hp} (a : Mv Γ B R R1 H H1) (b : Mv Γ B R1 R2 H1 H2) : Mv Γ B R R2 H H2 := ⟨a.ext.trans b.ext, b.row, b.adr.trans a.adr⟩
theorem Mv.grow {Γ : Ctx} {B : List Addr} {R : Option Rw} {H H' : Hp} (h : RowOk Γ H R) (e : Grow Γ H H') : Mv Γ B R R H H' := ⟨.of e.k, h.grow e, rfl⟩
section
variable {Γ : Ctx} {H0 H H' : Hp} {A B P : List Addr} {R R' : Option Rw} {σ : St} {δ : SEnv}
theorem RepS.bap (S : RepS Γ H0 A B P R H σ δ) : ∀ a ∈ B, a ∈ A ++ P := fun a h => List.mem_append_left _ (S.ba a h)
theorem Ext.sql {Γ : Ctx} {K : PySem.W.Frag} {B : List Addr} {H H' : Hp} {a : Addr} {xs : List V} (e : Ext Γ B H H') (m : a ∈ B → SqL K (fun _ => none) a xs) (h : SqL K H a xs) : SqL K H' a xs := by
  by_cases n : a ∈ B
  · rcases m n with (h | ⟨o, h⟩) | h
    · cases h
    · cases h
    · exact .inr h
  rcases h with (h | ⟨o, h⟩) | h
  · exact .inl (.inl (e.st _ _ n h rfl))
  · exact .inl (.inr ⟨o, e.st _ _ n h rfl⟩)
  · exact .inr h
theorem RepS.scr (S : RepS Γ H0 A B P R H σ δ) : SqL Γ.K H Γ.scr (Γ.cells.map V.int) := S.ext.sql S.sb S.sc
theorem RepS.all (S : RepS Γ H0 A B P R H σ δ) : ∀ a ∈ A ++ P, ∃ o, H a = some o ∧ nx o := fun a ha => by
  rcases List.mem_append.mp ha with z | z
  · exact S.al a z
  · obtain ⟨o, e, n⟩ := S.slots.objs a z
    exact ⟨o, e, n.nx⟩
theorem RepS.keeps (S : RepS Γ H0 A B P R H σ δ) (m : Mv Γ B R R' H H') : Keeps Γ (hide (A ++ P) H) (hide (A ++ P) H') := m.ext.keeps S.bap
theorem RepS.stand (S : RepS Γ H0 A B P R H σ δ) (m : Mv Γ B R R' H H') : ∀ p ∈ P, ∀ o, ownO Γ.wd p o → H p = some o → H' p = some o := fun p hp o ho e => m.ext.ownO ho (fun z => (S.own p hp).2.1 (S.ba p z)) (S.own p hp).2.2 e
theorem RepS.move (S : RepS Γ H0 A B P R H σ δ) (m : Mv Γ B R R' H H') : RepS Γ H0 A B P R' H' σ δ where
  row := m.row
  ra := by rw [m.adr]; exact S.ra
  ba := S.ba
  rb := by rw [m.adr]; exact S.rb
  al := fun a ha => by
    obtain ⟨o, h, n⟩ := S.al a ha
    obtain ⟨o', h', n'⟩ := m.ext.al a o h
    exact ⟨o', h', n' n⟩
  sc := S.sc
  sb := S.sb
  ext := S.ext.trans m.ext
  own := S.own
  nd := S.nd
  slots := S.slots.keep (S.keeps m) (S.stand m)
end
/-! ### readings over data -/
def tG {α β : Type} (Γ : Ctx) (W : WX) (rep : Hp → α → β → Prop) (f : SEnv → M α) : St → Hp → (β → Hp → Prop) → Prop := fun σ H Q =>
  ∃ H0 A B P R δ, RepS Γ H0 A B P R H σ δ ∧ (f δ R).run
    (fun a R' => ∀ b H', Mv Γ B R R' H H' → rep (hide (A ++ P) H') a b → Q b H')
    (fun c d R' => ∀ v dx H', Mv Γ B R R' H H' → H' dx = some (.xd [(("value" : Str), v)]) → Rep Γ (hide (A ++ P) H') d v → W (.ref (Γ.cls c)) (some dx) σ H')
abbrev tD (Γ : Ctx) (W : WX) (f : SEnv → M D) : TE := tG Γ W (Rep Γ) f
def repB : Hp → Bool → Bool → Prop := fun _ b c => b = c
abbrev tB (Γ : Ctx) (W : WX) (f : SEnv → M Bool) : TT := tG Γ W repB f
abbrev tL (Γ : Ctx) (W : WX) (f : SEnv → M (List D)) : TA := tG Γ W (RepL Γ) f
theorem _root_.L2.PE.imp {X : Cx} {e : Expr} {t t' : TE} (h : PE X e t) (i : ∀ σ H Q, t' σ H Q → t σ H Q) : PE X e t' := ⟨fun pins s σ H Q I q => h.run pins s σ H Q I (i σ H Q q)⟩
theorem _root_.L2.PT.imp {X : Cx} {e : Expr} {t t' : TT} (h : PT X e t) (i : ∀ σ H Q, t' σ H Q → t σ H Q) : PT X e t' := ⟨fun pins s σ H Q I q => h.run pins s σ H Q I (i σ H Q q)⟩
theorem _root_.L2.PW.imp {X : Cx} {e : Expr} {t t' : TT} (h : PW X e t) (i : ∀ σ H Q, t' σ H Q → t σ H Q) : PW X e t' := ⟨fun wh pins s σ H Q I q => h.run wh pins s σ H Q I (i σ H Q q)⟩
theorem _root_.L2.PA.imp {X : Cx} {e : List Expr} {t t' : TA} (h : PA X e t) (i : ∀ σ H Q, t' σ H Q → t σ H Q) : PA X e t' := ⟨fun pos pins s σ H Q I q => h.run pos pins s σ H Q I (i σ H Q q)⟩
theorem _root_.L2.PS.imp {X : Cx} {e : Stmt} {t t' : TS} (h : PS X e t) (i : ∀ D σ H, t' D σ H → t D σ H) : PS X e t' := ⟨fun pins s σ H D I q => h.run pins s σ H D I (i D σ H q)⟩
theorem _root_.L2.PSs.imp {X : Cx} {e : List Stmt} {t t' : TS} (h : PSs X e t) (i : ∀ D σ H, t' D σ H → t D σ H) : PSs X e t' := ⟨fun pins s σ H D I q => h.run pins s σ H D I (i D σ H q)⟩
section
variable {Γ : Ctx} {W : WX} {α β γ α' β' : Type} {rep : Hp → α → β → Prop} {rep' : Hp → α' → β' → Prop}
/-- one after another -/
theorem tG_bind {f : SEnv → M α} {g : α → SEnv → M α'} {σ : St} {H : Hp} {Q : β' → Hp → Prop} {t : β → St → Hp → (β' → Hp → Prop) → Prop}
    (h : tG Γ W rep' (fun δ => f δ >>= fun a => g a δ) σ H Q)
    (k : ∀ a b H0 A B P R H1 δ, RepS Γ H0 A B P R H1 σ δ → rep (hide (A ++ P) H1) a b → (g a δ R).run
        (fun a' R' => ∀ b' H', Mv Γ B R R' H1 H' → rep' (hide (A ++ P) H') a' b' → Q b' H')
        (fun c d R' => ∀ v dx H', Mv Γ B R R' H1 H' → H' dx = some (.xd [(("value" : Str), v)]) → Rep Γ (hide (A ++ P) H') d v → W (.ref (Γ.cls c)) (some dx) σ H') → t b σ H1 Q) :
    tG Γ W rep f σ H fun b H1 => t b σ H1 Q := by
  obtain ⟨H0, A, B, P, R, δ, S, h⟩ := h
  refine ⟨H0, A, B, P, R, δ, S, ?_⟩
  refine Out.run_mono (run_bind.mp h) (fun a R1 _ q b H1 m r => ?_) fun c d R1 _ q => q
  refine k a b H0 A B P R1 H1 δ (S.move m) r (Out.run_mono q (fun a' R2 _ q2 b' H2 m2 r2 => q2 b' H2 (m.trans m2) r2) fun c d R2 _ q2 v dx H2 m2 => q2 v dx H2 (m.trans m2))
theorem tG_pure {a : α} {σ : St} {H : Hp} {Q : β → Hp → Prop} {R : Option Rw} {H0 : Hp} {A B P : List Addr} {δ : SEnv} {b : β} (S : RepS Γ H0 A B P R H σ δ)
    (h : (pure a : M α) R |>.run (fun a R' => ∀ b H', Mv Γ B R R' H H' → rep (hide (A ++ P) H') a b → Q b H') (fun c d R' => ∀ v dx H', Mv Γ B R R' H H' → H' dx = some (.xd [(("value" : Str), v)]) → Rep Γ (hide (A ++ P) H') d v → W (.ref (Γ.cls c)) (some dx) σ H'))
    (r : rep (hide (A ++ P) H) a b) : Q b H := h b H (.refl S.row) r
end
end DL

set_option Elab.async false
set_option linter.all false
set_option maxRecDepth 100000
namespace DL
open PySem PySem.Spec L2
abbrev KK {α β : Type} (Γ : Ctx) (B A P : List Addr) (rep : Hp → α → β → Prop) (R : Option Rw) (H : Hp) (Q : β → Hp → Prop) : α → Option Rw → Prop := fun a R' => ∀ b H', Mv Γ B R R' H H' → rep (hide (A ++ P) H') a b → Q b H'
abbrev KE (Γ : Ctx) (W : WX) (B A P : List Addr) (σ : St) (R : Option Rw) (H : Hp) : String → D → Option Rw → Prop := fun c d R' => ∀ v dx H', Mv Γ B R R' H H' → H' dx = some (.xd [(("value" : Str), v)]) → Rep Γ (hide (A ++ P) H') d v → W (.ref (Γ.cls c)) (some dx) σ H'
section
variable {Γ : Ctx} {W : WX} {α β α' β' : Type} {rep : Hp → α → β → Prop} {rep' : Hp → α' → β' → Prop} {H0 H : Hp} {A B P : List Addr} {R : Option Rw} {σ : St} {δ : SEnv}
theorem go {f : M α} {g : α → M α'} {Q : β' → Hp → Prop} {t : β → Hp → Prop} (S : RepS Γ H0 A B P R H σ δ) (h : ((f >>= g) R).run (KK Γ B A P rep' R H Q) (KE Γ W B A P σ R H))
    (k : ∀ a b R1 H1, Mv Γ B R R1 H H1 → rep (hide (A ++ P) H1) a b → RepS Γ H0 A B P R1 H1 σ δ → (g a R1).run (KK Γ B A P rep' R1 H1 Q) (KE Γ W B A P σ R1 H1) → t b H1) :
    (f R).run (KK Γ B A P rep R H t) (KE Γ W B A P σ R H) :=
  Out.run_mono (run_bind.mp h) (fun a R1 _ q b H1 m r => k a b R1 H1 m r (S.move m) (Out.run_mono q (fun a' R2 _ q2 b' H2 m2 r2 => q2 b' H2 (m.trans m2) r2) fun c d R2 _ q2 v dx H2 m2 => q2 v dx H2 (m.trans m2))) fun c d R1 _ q => q
theorem lift_out {o : Option α} {Q : β → Hp → Prop} {E : String → D → Option Rw → Prop} (S : RepS Γ H0 A B P R H σ δ) (h : (M.lift o R).run (KK Γ B A P rep R H Q) E) : ∃ d, o = some d ∧ ∀ v H', Grow Γ H H' → rep (hide (A ++ P) H') d v → Q v H' := by
  cases o with
  | none => exact h.elim
  | some d => exact ⟨d, rfl, fun v H' g r => h v H' (.grow S.row g) r⟩
end
/-! ### operations by data -/
abbrev All (A : List Addr) (H : Hp) : Prop := ∀ p ∈ A, ∃ o, H p = some o ∧ nx o
def OpD (Γ : Ctx) (r : R2) (f : D → D → Option D) : Prop := ∀ (A : List Addr) (H : Hp) (x y : V) (a b d : D) (Q : VK), All A H → Rep Γ (hide A H) a x → Rep Γ (hide A H) b y → f a b = some d → (∀ v H', Grow Γ H H' → Rep Γ (hide A H') d v → Q v H') → r x y H Q
def UnD (Γ : Ctx) (r : V → Hp → VK → Prop) (f : D → Option D) : Prop := ∀ (A : List Addr) (H : Hp) (x : V) (a d : D) (Q : VK), All A H → Rep Γ (hide A H) a x → f a = some d → (∀ v H', Grow Γ H H' → Rep Γ (hide A H') d v → Q v H') → r x H Q
def CallD (Γ : Ctx) (r : List V → Hp → VK → Prop) (f : List D → Option D) : Prop := ∀ (A : List Addr) (H : Hp) (xs : List V) (as : List D) (d : D) (Q : VK), All A H → RepL Γ (hide A H) as xs → f as = some d → (∀ v H', Grow Γ H H' → Rep Γ (hide A H') d v → Q v H') → r xs H Q
def MtD (Γ : Ctx) (T : String) (r : V → List V → Hp → VK → Prop) (f : D → List D → Option D) : Prop := ∀ (A : List Addr) (H : Hp) (x : V) (xs : List V) (a : D) (as : List D) (d : D) (Q : VK), All A H → Rep Γ (hide A H) a x → RepL Γ (hide A H) as xs → f a as = some d → (∀ v H', Grow Γ H H' → Rep Γ (hide A H') d v → Q v H') → r x xs H Q
theorem all_out {A : List Addr} {H : Hp} {p : Addr} (h : All A H) (n : H p = none) : p ∉ A := fun z => by
  obtain ⟨o, e, _⟩ := h p z
  rw [n] at e; cases e
theorem Grow.keeps {Γ : Ctx} {A : List Addr} {H H' : Hp} (g : Grow Γ H H') : Keeps Γ (hide A H) (hide A H') := Keeps.of fun b o q => by
  obtain ⟨n, q⟩ := hide_some q
  rw [hide_out n]
  exact g.k _ _ q
theorem Rep.of_int {Γ : Ctx} {H : Hp} {i : Int} : Rep Γ H (.int i) (.int i) := by rw [Rep]
theorem Rep.of_bl {Γ : Ctx} {H : Hp} {b : Bool} : Rep Γ H (.bl b) (.bl b) := by rw [Rep]
theorem Rep.of_str {Γ : Ctx} {H : Hp} {x : Str} : Rep Γ H (.str x) (.str x) := by rw [Rep]
theorem Rep.of_non {Γ : Ctx} {H : Hp} : Rep Γ H .non .non := by rw [Rep]
theorem Rep.of_fn {Γ : Ctx} {H : Hp} {x : String} (hl : Γ.lam x = none) : Rep Γ H (.fn x) (.ref (Γ.fnA x)) := by
  rw [Rep]
  unfold FnR
  rw [hl]
theorem Rep.int_eq {Γ : Ctx} {H : Hp} {i : Int} {v : V} (h : Rep Γ H (.int i) v) : v = .int i := by rw [Rep] at h; exact h
theorem Rep.bl_eq {Γ : Ctx} {H : Hp} {b : Bool} {v : V} (h : Rep Γ H (.bl b) v) : v = .bl b := by rw [Rep] at h; exact h
theorem Rep.str_eq {Γ : Ctx} {H : Hp} {x : Str} {v : V} (h : Rep Γ H (.str x) v) : v = .str x := by rw [Rep] at h; exact h
theorem Rep.non_eq {Γ : Ctx} {H : Hp} {v : V} (h : Rep Γ H .non v) : v = .non := by rw [Rep] at h; exact h
theorem Rep.lst_at {Γ : Ctx} {A : List Addr} {H : Hp} {ds : List D} {v : V} (h : Rep Γ (hide A H) (.lst ds) v) : ∃ a xs, v = .ref a ∧ H a = some (.lst xs) ∧ RepL Γ (hide A H) ds xs ∧ a ∉ A := by
  rw [Rep_lst] at h
  obtain ⟨a, xs, e, e1, h⟩ := h
  obtain ⟨n, e1⟩ := hide_some e1
  exact ⟨a, xs, e, e1, h, n⟩
theorem Rep.tup_at {Γ : Ctx} {A : List Addr} {H : Hp} {ds : List D} {v : V} (h : Rep Γ (hide A H) (.tup ds) v) : ∃ a xs, v = .ref a ∧ TupO H a xs ∧ RepL Γ (hide A H) ds xs ∧ a ∉ A := by
  rw [Rep_tup] at h
  obtain ⟨a, xs, e, e1, h⟩ := h
  obtain ⟨n, e1⟩ := e1.o.unhide
  exact ⟨a, xs, e, e1, h, n⟩
/-- a new list, a new tuple -/
theorem Rep.new_lst {Γ : Ctx} {A : List Addr} {H : Hp} {ds : List D} {xs : List V} {p : Addr} (al : All A H) (h : H p = none) (r : RepL Γ (hide A H) ds xs) : Rep Γ (hide A (upd H p (.lst xs))) (.lst ds) (.ref p) :=
  Rep_lst.mpr ⟨p, xs, rfl, by rw [hide_out (all_out al h), upd_same], RepL.keep (Grow.keeps (grow_new h)) _ r⟩
/-- no tuple is known so well -/
class NoFz (Γ : Ctx) : Prop where
  no : Γ.fz = false
theorem fzI_no {Γ : Ctx} [h : NoFz Γ] {ds : List D} : Γ.fzI ds = false := by unfold Ctx.fzI; rw [h.no]; rfl
theorem TupO.r {z : Bool} {H : Hp} {a : Addr} {xs : List V} (h : TupO H a xs) (e : z = false) : TupR z H a xs := ⟨h, fun q => by rw [e] at q; cases q⟩
theorem Rep.new_tup0 {Γ : Ctx} {A : List Addr} {H : Hp} {ds : List D} {xs : List V} {p : Addr} (z : Γ.fzI ds = false) (al : All A H) (h : H p = none) (r : RepL Γ (hide A H) ds xs) : Rep Γ (hide A (upd H p (.tup xs))) (.tup ds) (.ref p) :=
  Rep_tup.mpr ⟨p, xs, rfl, TupO.r (.inl (by rw [hide_out (all_out al h), upd_same])) z, RepL.keep (Grow.keeps (grow_new h)) _ r⟩
theorem Rep.new_tup {Γ : Ctx} [NoFz Γ] {A : List Addr} {H : Hp} {ds : List D} {xs : List V} {p : Addr} (al : All A H) (h : H p = none) (r : RepL Γ (hide A H) ds xs) : Rep Γ (hide A (upd H p (.tup xs))) (.tup ds) (.ref p) := .new_tup0 fzI_no al h r
theorem Rep.new_tupF {Γ : Ctx} {A : List Addr} {H : Hp} {ds : List D} {xs : List V} {p : Addr} {o : Obj} (hd : o.dict = none) (al : All A H) (h : H p = none) (r : RepL Γ (hide A H) ds xs) : Rep Γ (hide A (upd H p (.frz o (.tup xs)))) (.tup ds) (.ref p) :=
  Rep_tup.mpr ⟨p, xs, rfl, .frz hd (by rw [hide_out (all_out al h), upd_same]), RepL.keep (Grow.keeps (grow_new h)) _ r⟩
section
variable {Γ : Ctx} {W : WX} {X : Cx} {e a b c : Expr} {es : List Expr} {fe fa fb fc : SEnv → M D} {ft fu : SEnv → M Bool} {fs : SEnv → M (List D)} {pos : Pos}
/-! ### names, constants -/
def dVar (i : Nat) : SEnv → M D := fun δ => match δ[i]? with
  | some (.dat d) => pure d
  | _ => M.stuck
theorem pd_var {i : Nat} (h : PE X e (tVar i)) : PE X e (tD Γ W (dVar i)) := h.imp fun σ H Q h => by
  obtain ⟨H0, A, B, P, R, δ, S, h⟩ := h
  unfold dVar at h
  cases q : δ[i]? with
  | none => rw [q] at h; exact h.elim
  | some s =>
    rw [q] at h
    cases s with
    | none => exact h.elim
    | ot _ => exact h.elim
    | dat d =>
      obtain ⟨v, e1, e2⟩ := S.slots.get q
      exact ⟨v, e1, h v H (.refl S.row) e2⟩
theorem pd_c {v : V} {d : D} (h : PE X e (tC v)) (r : ∀ Γ H, Rep Γ H d v) : PE X e (tD Γ W fun _ => pure d) := h.imp fun σ H Q h => by
  obtain ⟨H0, A, B, P, R, δ, S, h⟩ := h
  exact h v H (.refl S.row) (r _ _)
theorem pd_int {i : Int} (h : PE X e (tC (.int i))) : PE X e (tD Γ W fun _ => pure (.int i)) := pd_c h fun _ _ => Rep.of_int
theorem pd_str {x : Str} (h : PE X e (tC (.str x))) : PE X e (tD Γ W fun _ => pure (.str x)) := pd_c h fun _ _ => Rep.of_str
theorem pd_bl {x : Bool} (h : PE X e (tC (.bl x))) : PE X e (tD Γ W fun _ => pure (.bl x)) := pd_c h fun _ _ => Rep.of_bl
theorem pd_non (h : PE X e (tC .non)) : PE X e (tD Γ W fun _ => pure .non) := pd_c h fun _ _ => Rep.of_non
theorem pd_fn {x : String} (hl : Γ.lam x = none) (h : PE X e (tC (.ref (Γ.fnA x)))) : PE X e (tD Γ W fun _ => pure (.fn x)) := h.imp fun σ H Q h => by
  obtain ⟨H0, A, B, P, R, δ, S, h⟩ := h
  exact h (.ref (Γ.fnA x)) H (.refl S.row) (Rep.of_fn hl)
/-! ### operators, comparisons -/
def d2 (f : D → D → Option D) (fa fb : SEnv → M D) : SEnv → M D := fun δ => fa δ >>= fun x => fb δ >>= fun y => M.lift (f x y)
def d1 (f : D → Option D) (fa : SEnv → M D) : SEnv → M D := fun δ => fa δ >>= fun x => M.lift (f x)
theorem op_imp {r : R2} {f : D → D → Option D} (hr : OpD Γ r f) {σ : St} {H : Hp} {Q : VK} (h : tD Γ W (d2 f fa fb) σ H Q) : tOp r (tD Γ W fa) (tD Γ W fb) σ H Q := by
  obtain ⟨H0, A, B, P, R, δ, S, h⟩ := h
  refine ⟨H0, A, B, P, R, δ, S, go S h fun x vx R1 H1 m1 r1 S1 h1 => ⟨H0, A, B, P, R1, δ, S1, go S1 h1 fun y vy R2 H2 m2 r2 S2 h2 => ?_⟩⟩
  obtain ⟨d, e, q⟩ := lift_out S2 h2
  exact hr _ H2 vx vy x y d Q S2.all (Rep.keep (S1.keeps m2) _ r1) r2 e q
theorem un_imp {r : V → Hp → VK → Prop} {f : D → Option D} (hr : UnD Γ r f) {σ : St} {H : Hp} {Q : VK} (h : tD Γ W (d1 f fa) σ H Q) : tUn r (tD Γ W fa) σ H Q := by
  obtain ⟨H0, A, B, P, R, δ, S, h⟩ := h
  refine ⟨H0, A, B, P, R, δ, S, go S h fun x vx R1 H1 m1 r1 S1 h1 => ?_⟩
  obtain ⟨d, e, q⟩ := lift_out S1 h1
  exact hr _ H1 vx x d Q S1.all r1 e q
theorem pd_op {op : Operator} {r : R2} {f : D → D → Option D} (ho : OpR X (binaryOp op) r) (hr : OpD Γ r f) (ha : PE X a (tD Γ W fa)) (hb : PE X b (tD Γ W fb)) : PE X (.BinOp a op b pos) (tD Γ W (d2 f fa fb)) :=
  (pe_op ho ha hb).imp fun _ _ _ h => op_imp hr h
theorem pd_un {op : UnaryOp} {r : V → Hp → VK → Prop} {f : D → Option D} (ho : UnR X (unaryOp op) r) (hr : UnD Γ r f) (ha : PE X a (tD Γ W fa)) : PE X (.UnaryOp op a pos) (tD Γ W (d1 f fa)) :=
  (pe_un ho ha).imp fun _ _ _ h => un_imp hr h
theorem pd_cmp {op : CmpOp} {r : R2} {f : D → D → Option D} (ho : OpR X (compareOp op) r) (hr : OpD Γ r f) (ha : PE X a (tD Γ W fa)) (hb : PE X b (tD Γ W fb)) (hm : behindInMarks op b = false) : PE X (.Compare a [op] [b] pos) (tD Γ W (d2 f fa fb)) :=
  (pe_cmpR ho ha hb hm).imp fun _ _ _ h => op_imp hr h
def asB : D → Option Bool
  | .bl b => some b
  | _ => none
def dB (f : SEnv → M D) : SEnv → M Bool := fun δ => f δ >>= fun x => M.lift (asB x)
theorem asB_eq {d : D} {k : Bool} (h : asB d = some k) : d = .bl k := by
  cases d <;> simp [asB] at h
  rw [h]
/-- a value that is a bool, as a test -/
theorem test_imp {σ : St} {H : Hp} {Q : Bool → Hp → Prop} (h : tB Γ W (dB fe) σ H Q) : tTest (tD Γ W fe) σ H Q := by
  obtain ⟨H0, A, B, P, R, δ, S, h⟩ := h
  refine ⟨H0, A, B, P, R, δ, S, go S h fun x vx R1 H1 m1 r1 S1 h1 => ?_⟩
  obtain ⟨k, e, q⟩ := lift_out S1 h1
  rw [asB_eq e] at r1
  exact ⟨k, r1.bl_eq, q k H1 Grow.refl rfl⟩
theorem pt_imp2 {op : CmpOp} {r : R2} {f : D → D → Option D} (hr : OpD Γ r f) {σ : St} {H : Hp} {Q : Bool → Hp → Prop} (h : tB Γ W (dB (d2 f fa fb)) σ H Q) : tTest (tOp r (tD Γ W fa) (tD Γ W fb)) σ H Q := by
  have h1 := test_imp h
  exact op_imp hr h1
theorem pdt_cmp {op : CmpOp} {r : R2} {f : D → D → Option D} (ho : OpR X (compareOp op) r) (hr : OpD Γ r f) (ha : PE X a (tD Γ W fa)) (hb : PE X b (tD Γ W fb)) (hm : behindInMarks op b = false) : PT X (.Compare a [op] [b] pos) (tB Γ W (dB (d2 f fa fb))) :=
  (pt_cmpR ho ha hb hm).imp fun _ _ _ h => op_imp hr (test_imp h)
def dChain (f g : D → D → Option D) (fa fb fc : SEnv → M D) : SEnv → M D := fun δ => fa δ >>= fun x => fb δ >>= fun y => M.lift (f x y) >>= fun z => M.lift (asB z) >>= fun k => if k = true then fc δ >>= fun w => M.lift (g y w) else pure (.bl false)
theorem lift_bind {α β : Type} {o : Option α} {g : α → M β} {R : Option Rw} {Qk : β → Option Rw → Prop} {Qe : String → D → Option Rw → Prop} (h : ((M.lift o >>= g) R).run Qk Qe) : ∃ a, o = some a ∧ (g a R).run Qk Qe := by
  cases o with
  | none => exact h.elim
  | some a => exact ⟨a, rfl, h⟩
theorem chain_imp {r r' : R2} {f g : D → D → Option D} (hr : OpD Γ r f) (hr' : OpD Γ r' g) {σ : St} {H : Hp} {Q : VK} (h : tD Γ W (dChain f g fa fb fc) σ H Q) : tChain r r' (tD Γ W fa) (tD Γ W fb) (tD Γ W fc) σ H Q := by
  obtain ⟨H0, A, B, P, R, δ, S, h⟩ := h
  refine ⟨H0, A, B, P, R, δ, S, go S h fun x vx R1 H1 m1 r1 S1 h1 => ⟨H0, A, B, P, R1, δ, S1, go S1 h1 fun y vy R2 H2 m2 r2 S2 h2 => ?_⟩⟩
  obtain ⟨d, e, h3⟩ := lift_bind h2
  obtain ⟨k, e2, h4⟩ := lift_bind h3
  refine hr _ H2 vx vy x y d _ S2.all (Rep.keep (S1.keeps m2) _ r1) r2 e fun v H3 g3 r3 => ?_
  have m3 : Mv Γ B R2 R2 H2 H3 := .grow S2.row g3
  have S3 := S2.move m3
  rw [asB_eq e2] at r3
  refine ⟨k, r3.bl_eq, ?_⟩
  cases k with
  | false =>
    rw [if_neg Bool.false_ne_true] at h4 ⊢
    exact h4 (.bl false) H3 m3 Rep.of_bl
  | true =>
    rw [if_pos rfl] at h4 ⊢
    refine ⟨H0, A, B, P, R2, δ, S3, go S3 (Out.run_mono h4 (fun a' R4 _ q2 b' H4 m4 r4 => q2 b' H4 (m3.trans m4) r4) fun c d R4 _ q2 v dx H4 m4 => q2 v dx H4 (m3.trans m4)) fun w vw R4 H4 m4 r4 S4 h5 => ?_⟩
    obtain ⟨d2, e4, q⟩ := lift_out S4 h5
    exact hr' _ H4 vy vw y w d2 Q S4.all (Rep.keep (S3.keeps m4) _ (Rep.keep (Grow.keeps g3) _ r2)) r4 e4 q
theorem pd_chain {op op' : CmpOp} {r r' : R2} {f g : D → D → Option D} (ho : OpR X (compareOp op) r) (hr : OpD Γ r f) (ho' : OpR X (compareOp op') r') (hr' : OpD Γ r' g) (ha : PE X a (tD Γ W fa)) (hb : PE X b (tD Γ W fb)) (hc : PE X c (tD Γ W fc))
    (hm : lastMarks [op, op'] [b, c] = false := by with_unfolding_all rfl) : PE X (.Compare a [op, op'] [b, c] pos) (tD Γ W (dChain f g fa fb fc)) := (pe_chain ho ho' ha hb hc hm).imp fun _ _ _ h => chain_imp hr hr' h
theorem pdt_chain {op op' : CmpOp} {r r' : R2} {f g : D → D → Option D} (ho : OpR X (compareOp op) r) (hr : OpD Γ r f) (ho' : OpR X (compareOp op') r') (hr' : OpD Γ r' g) (ha : PE X a (tD Γ W fa)) (hb : PE X b (tD Γ W fb)) (hc : PE X c (tD Γ W fc))
    (hm : lastMarks [op, op'] [b, c] = false := by with_unfolding_all rfl) : PT X (.Compare a [op, op'] [b, c] pos) (tB Γ W (dB (dChain f g fa fb fc))) := (pt_chain ho ho' ha hb hc hm).imp fun _ _ _ h => chain_imp hr hr' (test_imp h)
/-! ### truth -/
def truD : D → Option Bool
  | .non => some false
  | .bl b => some b
  | .int i => some (i != 0)
  | .str x => if x.length ≤ sizeLine then some ((x.length : Int) != 0) else none
  | .lst ds => some (!ds.isEmpty)
  | .tup ds => some (!ds.isEmpty)
  | .dic => some false
  | _ => none
theorem isEmptyR {Γ : Ctx} {H : Hp} {ds : List D} {xs : List V} (r : RepL Γ H ds xs) : xs.isEmpty = ds.isEmpty := by
  have h := r.length
  cases ds <;> cases xs <;> simp at h <;> rfl
theorem tru_ok {K : PySem.W.Frag} {A : List Addr} {H : Hp} {d : D} {v : V} {k : Bool} (r : Rep Γ (hide A H) d v) (e : truD d = some k) : TruV K v H k := by
  cases d with
  | non => rw [r.non_eq]; exact (Option.some.inj e).symm
  | bl b => rw [r.bl_eq]; exact (Option.some.inj e).symm
  | int i => rw [r.int_eq]; exact (Option.some.inj e).symm
  | str x =>
    rw [r.str_eq]
    simp only [truD] at e
    split at e
    · exact ⟨by assumption, (Option.some.inj e).symm⟩
    · cases e
  | lst ds =>
    obtain ⟨p, xs, rfl, h1, h2, _⟩ := r.lst_at
    exact .inl ⟨xs, SqL.of h1, by rw [isEmptyR h2]; exact (Option.some.inj e).symm⟩
  | tup ds =>
    obtain ⟨p, xs, rfl, h1, h2, _⟩ := r.tup_at
    exact .inr (.inl ⟨xs, h1.sq, by rw [isEmptyR h2]; exact (Option.some.inj e).symm⟩)
  | dic =>
    rw [Rep] at r
    obtain ⟨p, rfl, h1⟩ := r
    exact .inr (.inr ⟨[], (hide_some h1).2, (Option.some.inj e).symm⟩)
  | web _ _ => cases e
  | row _ => cases e
  | fn _ => cases e
  | rng _ _ => cases e
  | dct _ _ _ => cases e
def dT (f : SEnv → M D) : SEnv → M Bool := fun δ => f δ >>= fun x => M.lift (truD x)
theorem pdt_tru (ha : PE X a (tD Γ W fa)) (he : ∀ whole, isTrue a X.env whole = (do let v ← whole; standAt a.pos; holding [v] (truthy v)) := by intro _; rfl) : PT X a (tB Γ W (dT fa)) :=
  (pt_truth ha he).imp fun σ H Q h => by
    obtain ⟨H0, A, B, P, R, δ, S, h⟩ := h
    refine ⟨H0, A, B, P, R, δ, S, go S h fun x vx R1 H1 m1 r1 S1 h1 => ?_⟩
    obtain ⟨k, e, q⟩ := lift_out S1 h1
    exact ⟨k, tru_ok r1 e, q k H1 Grow.refl rfl⟩
/-! ### and, or, not, if -/
def bAnd (f g : SEnv → M Bool) : SEnv → M Bool := fun δ => f δ >>= fun k => if k = true then g δ else pure false
def bOr (f g : SEnv → M Bool) : SEnv → M Bool := fun δ => f δ >>= fun k => if k = true then pure true else g δ
def bNot (f : SEnv → M Bool) : SEnv → M Bool := fun δ => f δ >>= fun k => pure (!k)
theorem and_imp {σ : St} {H : Hp} {Q : Bool → Hp → Prop} (h : tB Γ W (bAnd ft fu) σ H Q) : tAnd (tB Γ W ft) (tB Γ W fu) σ H Q := by
  obtain ⟨H0, A, B, P, R, δ, S, h⟩ := h
  refine ⟨H0, A, B, P, R, δ, S, go S h fun k k' R1 H1 m1 r1 S1 h1 => ?_⟩
  have r1 : k = k' := r1
  subst r1
  cases k with
  | true => exact ⟨H0, A, B, P, R1, δ, S1, h1⟩
  | false => exact h1 false H1 (.refl S1.row) rfl
theorem or_imp {σ : St} {H : Hp} {Q : Bool → Hp → Prop} (h : tB Γ W (bOr ft fu) σ H Q) : tOr (tB Γ W ft) (tB Γ W fu) σ H Q := by
  obtain ⟨H0, A, B, P, R, δ, S, h⟩ := h
  refine ⟨H0, A, B, P, R, δ, S, go S h fun k k' R1 H1 m1 r1 S1 h1 => ?_⟩
  have r1 : k = k' := r1
  subst r1
  cases k with
  | false => exact ⟨H0, A, B, P, R1, δ, S1, h1⟩
  | true => exact h1 true H1 (.refl S1.row) rfl
variable {rest : List Expr}
theorem pdw_and1 (ha : PT X a (tB Γ W ft)) : PW X (.BoolOp .And [a] pos) (tB Γ W ft) := pw_and1 ha
theorem pdw_or1 (ha : PT X a (tB Γ W ft)) : PW X (.BoolOp .Or [a] pos) (tB Γ W ft) := pw_or1 ha
theorem pdw_and (ha : PT X a (tB Γ W ft)) (hb : PW X (.BoolOp .And (b :: rest) pos) (tB Γ W fu)) : PW X (.BoolOp .And (a :: b :: rest) pos) (tB Γ W (bAnd ft fu)) := (pw_and ha hb).imp fun _ _ _ h => and_imp h
theorem pdw_or (ha : PT X a (tB Γ W ft)) (hb : PW X (.BoolOp .Or (b :: rest) pos) (tB Γ W fu)) : PW X (.BoolOp .Or (a :: b :: rest) pos) (tB Γ W (bOr ft fu)) := (pw_or ha hb).imp fun _ _ _ h => or_imp h
theorem pdt_w (h : PW X e (tB Γ W ft)) : PT X e (tB Γ W ft) := h.pt
theorem pdt_not (ha : PT X a (tB Γ W ft)) : PT X (.UnaryOp .Not a pos) (tB Γ W (bNot ft)) := (pt_not ha).imp fun σ H Q h => by
  obtain ⟨H0, A, B, P, R, δ, S, h⟩ := h
  refine ⟨H0, A, B, P, R, δ, S, go S h fun k k' R1 H1 m1 r1 S1 h1 => ?_⟩
  have r1 : k = k' := r1
  subst r1
  exact h1 (!k) H1 (.refl S1.row) rfl
/-- as values: bools -/
def dAnd (f g : SEnv → M D) : SEnv → M D := fun δ => f δ >>= fun x => M.lift (asB x) >>= fun k => if k = true then g δ else pure (.bl false)
def dOr (f g : SEnv → M D) : SEnv → M D := fun δ => f δ >>= fun x => M.lift (asB x) >>= fun k => if k = true then pure (.bl true) else g δ
def dNot (f : SEnv → M D) : SEnv → M D := fun δ => f δ >>= fun x => M.lift (asB x) >>= fun k => pure (.bl (!k))
theorem pd_one {op} (h : PE X a (tD Γ W fa)) : PE X (.BoolOp op [a] pos) (tD Γ W fa) := pe_one h
theorem pd_and (ha : PE X a (tD Γ W fa)) (hb : PE X (.BoolOp .And (b :: rest) pos) (tD Γ W fb)) : PE X (.BoolOp .And (a :: b :: rest) pos) (tD Γ W (dAnd fa fb)) := (pe_and ha hb).imp fun σ H Q h => by
  obtain ⟨H0, A, B, P, R, δ, S, h⟩ := h
  refine ⟨H0, A, B, P, R, δ, S, go S h fun x vx R1 H1 m1 r1 S1 h1 => ?_⟩
  obtain ⟨k, e, h2⟩ := lift_bind h1
  rw [asB_eq e] at r1
  refine ⟨k, r1.bl_eq, ?_⟩
  cases k with
  | true => exact ⟨H0, A, B, P, R1, δ, S1, h2⟩
  | false => exact h2 (.bl false) H1 (.refl S1.row) Rep.of_bl
theorem pd_or (ha : PE X a (tD Γ W fa)) (hb : PE X (.BoolOp .Or (b :: rest) pos) (tD Γ W fb)) : PE X (.BoolOp .Or (a :: b :: rest) pos) (tD Γ W (dOr fa fb)) := (pe_or ha hb).imp fun σ H Q h => by
  obtain ⟨H0, A, B, P, R, δ, S, h⟩ := h
  refine ⟨H0, A, B, P, R, δ, S, go S h fun x vx R1 H1 m1 r1 S1 h1 => ?_⟩
  obtain ⟨k, e, h2⟩ := lift_bind h1
  rw [asB_eq e] at r1
  refine ⟨k, r1.bl_eq, ?_⟩
  cases k with
  | false => exact ⟨H0, A, B, P, R1, δ, S1, h2⟩
  | true => exact h2 (.bl true) H1 (.refl S1.row) Rep.of_bl
theorem pd_not (ha : PE X a (tD Γ W fa)) : PE X (.UnaryOp .Not a pos) (tD Γ W (dNot fa)) := (pe_not ha).imp fun σ H Q h => by
  obtain ⟨H0, A, B, P, R, δ, S, h⟩ := h
  refine ⟨H0, A, B, P, R, δ, S, go S h fun x vx R1 H1 m1 r1 S1 h1 => ?_⟩
  obtain ⟨k, e, h2⟩ := lift_bind h1
  rw [asB_eq e] at r1
  exact ⟨k, r1.bl_eq, h2 (.bl (!k)) H1 (.refl S1.row) Rep.of_bl⟩
def dIf (ft : SEnv → M Bool) (fa fb : SEnv → M D) : SEnv → M D := fun δ => ft δ >>= fun k => if k = true then fa δ else fb δ
theorem pd_if (hc : PT X c (tB Γ W ft)) (ha : PE X a (tD Γ W fa)) (hb : PE X b (tD Γ W fb)) : PE X (.IfExp c a b pos) (tD Γ W (dIf ft fa fb)) := (pe_ifExp hc ha hb).imp fun σ H Q h => by
  obtain ⟨H0, A, B, P, R, δ, S, h⟩ := h
  refine ⟨H0, A, B, P, R, δ, S, go S h fun k k' R1 H1 m1 r1 S1 h1 => ?_⟩
  have r1 : k = k' := r1
  subst r1
  cases k with
  | true => exact ⟨H0, A, B, P, R1, δ, S1, h1⟩
  | false => exact ⟨H0, A, B, P, R1, δ, S1, h1⟩
/-! ### arguments, displays -/
def lNil : SEnv → M (List D) := fun _ => pure []
def lCons (f : SEnv → M D) (g : SEnv → M (List D)) : SEnv → M (List D) := fun δ => f δ >>= fun x => g δ >>= fun xs => pure (x :: xs)
theorem pda_nil : PA X [] (tL Γ W lNil) := pa_nil.imp fun σ H Q h => by
  obtain ⟨H0, A, B, P, R, δ, S, h⟩ := h
  exact h [] H (.refl S.row) (RepL_nil.mpr rfl)
theorem pda_cons (ha : PE X e (tD Γ W fe)) (hr : PA X es (tL Γ W fs)) (hs : starEach (e :: es) X.env = (false, eval e X.env) :: starEach es X.env := by rfl) : PA X (e :: es) (tL Γ W (lCons fe fs)) := (pa_cons ha hr hs).imp fun σ H Q h => by
  obtain ⟨H0, A, B, P, R, δ, S, h⟩ := h
  refine ⟨H0, A, B, P, R, δ, S, go S h fun x vx R1 H1 m1 r1 S1 h1 => ⟨H0, A, B, P, R1, δ, S1, go S1 h1 fun xs vs R2 H2 m2 r2 S2 h2 => ?_⟩⟩
  exact h2 (vx :: vs) H2 (.refl S2.row) (RepL_cons.mpr ⟨_, _, rfl, Rep.keep (S1.keeps m2) _ r1, r2⟩)
def lenOk (ds : List D) : Option (List D) := if ds.length ≤ sizeLine then some ds else none
theorem lenOk_eq {ds d : List D} (h : lenOk ds = some d) : d = ds ∧ ds.length ≤ sizeLine := by
  unfold lenOk at h
  split at h
  · exact ⟨(Option.some.inj h).symm, by assumption⟩
  · cases h
def dTup (f : SEnv → M (List D)) : SEnv → M D := fun δ => f δ >>= fun xs => M.lift ((lenOk xs).map D.tup)
def dLst (f : SEnv → M (List D)) : SEnv → M D := fun δ => f δ >>= fun xs => M.lift ((lenOk xs).map D.lst)
theorem pd_tup [NoFz Γ] {x1} (h : PA X es (tL Γ W fs)) : PE X (.Tuple es x1 pos) (tD Γ W (dTup fs)) := (pe_tup h).imp fun σ H Q h => by
  obtain ⟨H0, A, B, P, R, δ, S, h⟩ := h
  refine ⟨H0, A, B, P, R, δ, S, go S h fun xs vs R1 H1 m1 r1 S1 h1 => ?_⟩
  obtain ⟨d, e, q⟩ := lift_out S1 h1
  obtain ⟨d', e', rfl⟩ := Option.map_eq_some_iff.mp e
  obtain ⟨rfl, hl⟩ := lenOk_eq e'
  exact ⟨by rw [r1.length]; exact hl, fun p hp => q _ _ (grow_new hp) (Rep.new_tup S1.all hp r1)⟩
theorem pd_lst (h : PA X es (tL Γ W fs)) : PE X (.List es pos) (tD Γ W (dLst fs)) := (pe_lst h).imp fun σ H Q h => by
  obtain ⟨H0, A, B, P, R, δ, S, h⟩ := h
  refine ⟨H0, A, B, P, R, δ, S, go S h fun xs vs R1 H1 m1 r1 S1 h1 => ?_⟩
  obtain ⟨d, e, q⟩ := lift_out S1 h1
  obtain ⟨d', e', rfl⟩ := Option.map_eq_some_iff.mp e
  obtain ⟨rfl, hl⟩ := lenOk_eq e'
  exact ⟨by rw [r1.length]; exact hl, fun p hp => q _ _ (grow_new hp) (Rep.new_lst S1.all hp r1)⟩
/-- {} -/
theorem pd_dic : PE X (.Dict [] [] pos) (tD Γ W fun _ => pure .dic) := pe_dnewK.imp fun σ H Q h => by
  obtain ⟨H0, A, B, P, R, δ, S, h⟩ := h
  intro p hp
  exact h (.ref p) _ (.grow S.row (grow_new hp)) (by rw [Rep]; exact ⟨p, rfl, by rw [hide_out (all_out S.all hp), upd_same]⟩)
/-! ### builtins -/
def dCall (f : List D → Option D) (fs : SEnv → M (List D)) : SEnv → M D := fun δ => fs δ >>= fun xs => M.lift (f xs)
theorem cb_imp {r : List V → Hp → VK → Prop} {f : List D → Option D} (hr : CallD Γ r f) {σ : St} {H : Hp} {Q : VK} (h : tD Γ W (dCall f fs) σ H Q) : tCB r (tL Γ W fs) σ H Q := by
  obtain ⟨H0, A, B, P, R, δ, S, h⟩ := h
  refine ⟨H0, A, B, P, R, δ, S, go S h fun xs vs R1 H1 m1 r1 S1 h1 => ?_⟩
  obtain ⟨d, e, q⟩ := lift_out S1 h1
  exact hr _ H1 vs xs d Q S1.all r1 e q
theorem pd_ix {r : R2} {f : D → D → Option D} (hi : IxR X r) (hr : OpD Γ r f) (ha : PE X a (tD Γ W fa)) (hb : PE X b (tD Γ W fb)) (hs : PlainIx b) : PE X (.Subscript a b pos) (tD Γ W (d2 f fa fb)) :=
  (pe_ix hi ha hb hs).imp fun _ _ _ h => op_imp hr h
end
end DL

set_option Elab.async false
set_option linter.all false
set_option maxRecDepth 100000
namespace DL
open PySem PySem.Spec L2
/-! ### statements -/
inductive SOut where
  | nx (δ : SEnv) (R : Option Rw)
  | rt (d : D) (R : Option Rw)
  | bk (δ : SEnv) (R : Option Rw)
  | ct (δ : SEnv) (R : Option Rw)
  | ex (c : String) (d : D) (R : Option Rw)
  | stuck
abbrev SM := SEnv → Option Rw → SOut
def SOut.run (o : SOut) (kn kb kc : SEnv → Option Rw → Prop) (kr : D → Option Rw → Prop) (ke : String → D → Option Rw → Prop) : Prop := match o with
  | .nx δ R => kn δ R
  | .rt d R => kr d R
  | .bk δ R => kb δ R
  | .ct δ R => kc δ R
  | .ex c d R => ke c d R
  | .stuck => False
/-- what a statement may have done -/
structure Stp (Γ : Ctx) (B P P' : List Addr) (R R' : Option Rw) (H H' : Hp) : Prop where
  ext : Ext Γ (B ++ P) H H'
  own : ∀ p ∈ P', p ∈ P ∨ H p = none
  adr : rAddr R' = rAddr R
theorem Stp.refl {Γ : Ctx} {B P : List Addr} {R : Option Rw} {H : Hp} : Stp Γ B P P R R H H := ⟨.refl, fun p hp => .inl hp, rfl⟩
theorem Stp.trans {Γ : Ctx} {B P P1 P2 : List Addr} {R R1 R2 : Option Rw} {H H1 H2 : Hp} (a : Stp Γ B P P1 R R1 H H1) (b : Stp Γ B P1 P2 R1 R2 H1 H2) : Stp Γ B P P2 R R2 H H2 where
  ext := by
    have nb : ∀ c, c ∉ B ++ P → H c ≠ none → c ∉ B ++ P1 := fun c n e z => by
      rcases List.mem_append.mp z with z | z
      · exact n (List.mem_append_left _ z)
      · rcases a.own c z with q | q
        · exact n (List.mem_append_right _ q)
        · exact e q
    exact ⟨fun c o n e s => b.ext.st c o (nb c n (by rw [e]; simp)) (a.ext.st c o n e s) s, fun c φ n m e => b.ext.ex c φ (nb c n (by rw [e]; simp)) m (a.ext.ex c φ n m e), fun c kvs n e => by
      obtain ⟨k1, e1⟩ := a.ext.ca c kvs n e
      exact b.ext.ca c k1 (nb c n (by rw [e]; simp)) e1, fun c o e => by
      obtain ⟨o1, e1, n1⟩ := a.ext.al c o e
      obtain ⟨o2, e2, n2⟩ := b.ext.al c o1 e1
      exact ⟨o2, e2, fun z => n2 (n1 z)⟩⟩
  own := fun p hp => by
    rcases b.own p hp with z | z
    · exact a.own p z
    · exact .inr (a.ext.free z)
  adr := b.adr.trans a.adr
theorem Stp.of_mv {Γ : Ctx} {B P : List Addr} {R R' : Option Rw} {H H' : Hp} (m : Mv Γ B R R' H H') : Stp Γ B P P R R' H H' := ⟨m.ext.mono fun a h => List.mem_append_left _ h, fun p hp => .inl hp, m.adr⟩
theorem Stp.sub {Γ : Ctx} {B P P1 P' : List Addr} {R R' : Option Rw} {H H' : Hp} (s : Stp Γ B P P1 R R' H H') (h : ∀ p ∈ P', p ∈ P1) : Stp Γ B P P' R R' H H' := ⟨s.ext, fun p hp => s.own p (h p hp), s.adr⟩
/-- what is seen stays seen -/
theorem Stp.keeps {Γ : Ctx} {A B P P' : List Addr} {R R' : Option Rw} {H H' : Hp} (s : Stp Γ B P P' R R' H H') (ba : ∀ a ∈ B, a ∈ A) : Keeps Γ (hide (A ++ P) H) (hide (A ++ P') H') := by
  have nb : ∀ b, b ∉ A ++ P → b ∉ B ++ P := fun b n z => by
    rcases List.mem_append.mp z with z | z
    · exact n (List.mem_append_left _ (ba b z))
    · exact n (List.mem_append_right _ z)
  have ap : ∀ b, b ∉ A ++ P → H b ≠ none → b ∉ A ++ P' := fun b n e z => by
    rcases List.mem_append.mp z with z | z
    · exact n (List.mem_append_left _ z)
    · rcases s.own b z with q | q
      · exact n (List.mem_append_right _ q)
      · exact e q
  have go : ∀ b o, hide (A ++ P) H b = some o → stays o = true → hide (A ++ P') H' b = some o := fun b o h st => by
    obtain ⟨n, h⟩ := hide_some h
    rw [hide_out (ap b n (by rw [h]; simp))]
    exact s.ext.st b o (nb b n) h st
  refine ⟨fun _ _ h => go _ _ h rfl, fun _ _ h => go _ _ h rfl, fun _ _ _ h => go _ _ h rfl, fun _ _ h => go _ _ h rfl, fun _ _ _ h => go _ _ h rfl, fun _ _ _ _ h => go _ _ h rfl, fun b k h => ?_, fun b φ m h => ?_⟩
  · obtain ⟨n, h⟩ := hide_some h
    rw [hide_out (ap b n (by rw [h]; simp))]
    exact s.ext.ca b k (nb b n) h
  · obtain ⟨n, h⟩ := hide_some h
    rw [hide_out (ap b n (by rw [h]; simp))]
    exact s.ext.ex b φ (nb b n) m h
abbrev NK (Γ : Ctx) (H0 : Hp) (A B P : List Addr) (R : Option Rw) (H : Hp) (K : St → Hp → Prop) : SEnv → Option Rw → Prop := fun δ' R' => ∀ σ' H' P', Stp Γ B P P' R R' H H' → RepS Γ H0 A B P' R' H' σ' δ' → K σ' H'
abbrev RK (Γ : Ctx) (H0 : Hp) (A B : List Addr) (R : Option Rw) (K : VK) : D → Option Rw → Prop := fun d R' => ∀ v H', Mv Γ B R R' H0 H' → Rep Γ (hide A H') d v → K v H'
abbrev EK (Γ : Ctx) (W : WX) (H0 : Hp) (A B : List Addr) (R : Option Rw) : String → D → Option Rw → Prop := fun c d R' => ∀ v dx σ' H', Mv Γ B R R' H0 H' → H' dx = some (.xd [(("value" : Str), v)]) → Rep Γ (hide A H') d v → W (.ref (Γ.cls c)) (some dx) σ' H'
abbrev AllK (Γ : Ctx) (W : WX) (H0 : Hp) (A B P : List Addr) (R : Option Rw) (H : Hp) (Dn : Ends) (o : SOut) : Prop := o.run (NK Γ H0 A B P R H Dn.nx) (NK Γ H0 A B P R H Dn.bk) (NK Γ H0 A B P R H Dn.ct) (RK Γ H0 A B R Dn.rt) (EK Γ W H0 A B R)
def tS (Γ : Ctx) (W : WX) (f : SM) : TS := fun Dn σ H => ∃ H0 A B P R δ, RepS Γ H0 A B P R H σ δ ∧ AllK Γ W H0 A B P R H Dn (f δ R)
section
variable {Γ : Ctx} {W : WX} {H0 H H1 : Hp} {A B P P1 : List Addr} {R R1 : Option Rw} {σ σ1 : St} {δ δ1 : SEnv} {Dn : Ends}
theorem NK.later {K : St → Hp → Prop} (s : Stp Γ B P P1 R R1 H H1) {δ' : SEnv} {R' : Option Rw} (h : NK Γ H0 A B P R H K δ' R') : NK Γ H0 A B P1 R1 H1 K δ' R' := fun σ' H' P' s' S' => h σ' H' P' (s.trans s') S'
theorem RK.later {K : VK} (e : rAddr R1 = rAddr R) {d : D} {R' : Option Rw} (h : RK Γ H0 A B R K d R') : RK Γ H0 A B R1 K d R' := fun v H' m r => h v H' ⟨m.ext, m.row, m.adr.trans e⟩ r
theorem EK.later (e : rAddr R1 = rAddr R) {c : String} {d : D} {R' : Option Rw} (h : EK Γ W H0 A B R c d R') : EK Γ W H0 A B R1 c d R' := fun v dx σ' H' m => h v dx σ' H' ⟨m.ext, m.row, m.adr.trans e⟩
theorem SOut.run_mono {o : SOut} {kn kb kc kn' kb' kc' : SEnv → Option Rw → Prop} {kr kr' : D → Option Rw → Prop} {ke ke' : String → D → Option Rw → Prop} (h : o.run kn kb kc kr ke) (h1 : ∀ a b, kn a b → kn' a b) (h2 : ∀ a b, kb a b → kb' a b) (h3 : ∀ a b, kc a b → kc' a b)
    (h4 : ∀ a b, kr a b → kr' a b) (h5 : ∀ a b c, ke a b c → ke' a b c) : o.run kn' kb' kc' kr' ke' := by
  cases o with
  | nx δ R => exact h1 _ _ h
  | rt d R => exact h4 _ _ h
  | bk δ R => exact h2 _ _ h
  | ct δ R => exact h3 _ _ h
  | ex c d R => exact h5 _ _ _ h
  | stuck => exact h
theorem AllK.later (s : Stp Γ B P P1 R R1 H H1) {o : SOut} (h : AllK Γ W H0 A B P R H Dn o) : AllK Γ W H0 A B P1 R1 H1 Dn o :=
  SOut.run_mono h (fun _ _ q => NK.later s q) (fun _ _ q => NK.later s q) (fun _ _ q => NK.later s q) (fun _ _ q => RK.later s.adr q) fun _ _ _ q => EK.later s.adr q
end
/-- a value, then what follows -/
def sBind {α : Type} (f : SEnv → M α) (g : α → SM) : SM := fun δ R => match f δ R with
  | .ok a R' => g a δ R'
  | .exn c d R' => .ex c d R'
  | .stuck => .stuck
section
variable {Γ : Ctx} {W : WX} {H0 H : Hp} {A B P : List Addr} {R : Option Rw} {σ : St} {δ : SEnv} {Dn : Ends} {α β : Type} {rep : Hp → α → β → Prop}
theorem sgo {f : SEnv → M α} {g : α → SM} {t : β → Hp → Prop} (S : RepS Γ H0 A B P R H σ δ) (h : AllK Γ W H0 A B P R H Dn (sBind f g δ R))
    (k : ∀ a b R1 H1, Mv Γ B R R1 H H1 → rep (hide (A ++ P) H1) a b → RepS Γ H0 A B P R1 H1 σ δ → AllK Γ W H0 A B P R1 H1 Dn (g a δ R1) → t b H1) :
    (f δ R).run (KK Γ B A P rep R H t) (KE Γ W B A P σ R H) := by
  unfold sBind at h
  cases e : f δ R with
  | ok a R1 =>
    rw [e] at h
    intro b H1 m r
    exact k a b R1 H1 m r (S.move m) (AllK.later (.of_mv m) h)
  | exn c d R1 =>
    rw [e] at h
    intro v dx H1 m hx r
    exact h v dx σ H1 ⟨S.ext.trans m.ext, m.row, m.adr⟩ hx (Rep.keep (hide_keeps fun a ha => List.mem_append_left _ ha) _ r)
  | stuck =>
    rw [e] at h
    exact h.elim
theorem nx_out {δ' : SEnv} (h : AllK Γ W H0 A B P R H Dn (.nx δ' R)) {σ' : St} {P' : List Addr} (s : ∀ p ∈ P', p ∈ P) (S : RepS Γ H0 A B P' R H σ' δ') : Dn.nx σ' H := h σ' H P' (Stp.sub .refl s) S
end
/-! ### targets -/
inductive Tgt where
  | nm (i : Nat)
  | tup (ts : List Tgt)
mutual
def bindT : Tgt → D → SEnv → Option SEnv
  | .nm i, d, δ => some (δ.set i (.dat d))
  | .tup ts, .tup ds, δ => bindTs ts ds δ
  | .tup _, _, _ => none
def bindTs : List Tgt → List D → SEnv → Option SEnv
  | [], [], δ => some δ
  | t :: ts, d :: ds, δ => match bindT t d δ with
    | some δ1 => bindTs ts ds δ1
    | none => none
  | _, _, _ => none
end
def Tgt.ix : Tgt → List Nat
  | .nm i => [i]
  | .tup ts => ixs ts
where ixs : List Tgt → List Nat
  | [] => []
  | t :: ts => t.ix ++ ixs ts
/-- the slots outside js are as they were -/
def Wp (js : List Nat) (σ σ' : St) : Prop := ∀ vs : List Nat, (∀ i ∈ js, i ∈ vs) → wipe σ' vs = wipe σ vs
theorem Wp.refl {js : List Nat} {σ : St} : Wp js σ σ := fun _ _ => rfl
theorem Wp.trans {js : List Nat} {σ σ1 σ2 : St} (a : Wp js σ σ1) (b : Wp js σ1 σ2) : Wp js σ σ2 := fun vs h => (b vs h).trans (a vs h)
theorem Wp.mono {js ks : List Nat} {σ σ1 : St} (a : Wp js σ σ1) (h : ∀ i ∈ js, i ∈ ks) : Wp ks σ σ1 := fun vs q => a vs fun i hi => q i (h i hi)
theorem wipe_set {σ : St} {i : Nat} {x : Option V} : ∀ {vs : List Nat}, i ∉ vs → wipe (σ.set i x) vs = (wipe σ vs).set i x
  | [], _ => rfl
  | v :: vs, h => by
    have hv : i ≠ v := fun z => h (by rw [z]; exact List.mem_cons_self)
    show (wipe (σ.set i x) vs).set v none = ((wipe σ vs).set v none).set i x
    rw [wipe_set fun z => h (List.mem_cons_of_mem _ z), List.set_comm _ _ hv]
theorem Wp.set {σ : St} {i : Nat} {x : Option V} : Wp [i] σ (σ.set i x) := fun vs h => by
  have hi : i ∈ vs := h i List.mem_cons_self
  clear h
  induction vs with
  | nil => cases hi
  | cons v vs ih =>
    show (wipe (σ.set i x) vs).set v none = (wipe σ vs).set v none
    by_cases q : i ∈ vs
    · rw [ih q]
    · have e : i = v := by
        rcases List.mem_cons.mp hi with z | z
        · exact z
        · exact absurd z q
      rw [wipe_set q, ← e, List.set_set]
theorem RepS.set {Γ : Ctx} {H0 H : Hp} {A B P : List Addr} {R : Option Rw} {σ : St} {δ : SEnv} {d : D} {v : V} (S : RepS Γ H0 A B P R H σ δ) (r : Rep Γ (hide (A ++ P) H) d v) (i : Nat) :
    ∃ P', RepS Γ H0 A B P' R H (σ.set i (some v)) (δ.set i (.dat d)) ∧ ∀ p ∈ P', p ∈ P := by
  obtain ⟨P', h1, h2⟩ := S.slots.set r i
  have sub : ∀ p ∈ P', p ∈ P := fun p hp => h2.subset hp
  exact ⟨P', ⟨S.row, S.ra, S.ba, S.rb, S.al, S.sc, S.sb, S.ext, fun p hp => S.own p (sub p hp), S.nd.sublist h2, h1.sub sub⟩, sub⟩
def gD (Γ : Ctx) (t : Tgt) : TG := fun v σ H Q => ∃ H0 A B P R δ d δ', RepS Γ H0 A B P R H σ δ ∧ Rep Γ (hide (A ++ P) H) d v ∧ bindT t d δ = some δ' ∧ ∀ σ' P', (∀ p ∈ P', p ∈ P) → Wp t.ix σ σ' → RepS Γ H0 A B P' R H σ' δ' → Q σ' H
def gDs (Γ : Ctx) (ts : List Tgt) : TGs := fun vs σ H Q => ∃ H0 A B P R δ ds δ', RepS Γ H0 A B P R H σ δ ∧ RepL Γ (hide (A ++ P) H) ds vs ∧ bindTs ts ds δ = some δ' ∧ ∀ σ' P', (∀ p ∈ P', p ∈ P) → Wp (Tgt.ix.ixs ts) σ σ' → RepS Γ H0 A B P' R H σ' δ' → Q σ' H
theorem _root_.L2.PG.imp {X : Cx} {e : Expr} {t t' : TG} (h : PG X e t) (i : ∀ v σ H Q, t' v σ H Q → t v σ H Q) : PG X e t' := ⟨fun pins s σ H v u Q I r q => h.run pins s σ H v u Q I r (i v σ H Q q)⟩
theorem _root_.L2.PGs.imp {X : Cx} {e : List Expr} {t t' : TGs} (h : PGs X e t) (i : ∀ v σ H Q, t' v σ H Q → t v σ H Q) : PGs X e t' := ⟨fun pins s σ H v u Q I r q => h.run pins s σ H v u Q I r (i v σ H Q q)⟩
section
variable {Γ : Ctx} {X : Cx} {e : Expr} {es : List Expr} {pos : Pos} {t : Tgt} {ts : List Tgt}
theorem gd_nm {i : Nat} (h : PG X e (gName i)) : PG X e (gD Γ (.nm i)) := h.imp fun v σ H Q q => by
  obtain ⟨H0, A, B, P, R, δ, d, δ', S, r, e, k⟩ := q
  simp only [bindT, Option.some.injEq] at e
  subst e
  obtain ⟨P', S', sub⟩ := S.set r i
  exact k _ P' sub Wp.set S'
theorem gds_nil : PGs X [] (gDs Γ []) := pgs_nil.imp fun vs σ H Q q => by
  obtain ⟨H0, A, B, P, R, δ, ds, δ', S, r, e, k⟩ := q
  cases ds with
  | nil =>
    simp only [bindTs, Option.some.injEq] at e
    subst e
    exact ⟨RepL_nil.mp r, k σ P (fun _ h => h) Wp.refl S⟩
  | cons d ds => simp [bindTs] at e
theorem gds_cons (h : PG X e (gD Γ t)) (hs : PGs X es (gDs Γ ts)) (hx : (assignEach (e :: es) X.env).map (·.2) = assign e X.env :: (assignEach es X.env).map (·.2) := by rfl) : PGs X (e :: es) (gDs Γ (t :: ts)) := (pgs_cons h hs hx).imp fun vs σ H Q q => by
  obtain ⟨H0, A, B, P, R, δ, ds, δ', S, r, e, k⟩ := q
  cases ds with
  | nil => simp [bindTs] at e
  | cons d ds =>
    rw [RepL_cons] at r
    obtain ⟨v, ws, rfl, r1, r2⟩ := r
    simp only [bindTs] at e
    cases e1 : bindT t d δ with
    | none => rw [e1] at e; cases e
    | some δ1 =>
      rw [e1] at e
      refine ⟨v, ws, rfl, H0, A, B, P, R, δ, d, δ1, S, r1, e1, fun σ1 P1 s1 w1 S1 => ?_⟩
      exact ⟨H0, A, B, P1, R, δ1, ds, δ', S1, RepL.keep (hide_keeps fun a ha => by
        rcases List.mem_append.mp ha with z | z
        · exact List.mem_append_left _ z
        · exact List.mem_append_right _ (s1 a z)) _ r2, e, fun σ2 P2 s2 w2 S2 => k σ2 P2 (fun p hp => s1 p (s2 p hp)) ((w1.mono fun i hi => List.mem_append_left _ hi).trans (w2.mono fun i hi => List.mem_append_right _ hi)) S2⟩
theorem gd_tup {k n : Nat} (hc : X.calm = true) (h : PGs X es (gDs Γ ts)) (hn : (assignEach es X.env).length = n := by rfl) (hst : (assignEach es X.env).findIdx? (·.1) = none := by rfl) (hl : ts.length = n := by rfl) : PG X (.Tuple es k pos) (gD Γ (.tup ts)) :=
  (pg_tup hc h hn hst).imp fun v σ H Q q => by
    obtain ⟨H0, A, B, P, R, δ, d, δ', S, r, e, k⟩ := q
    cases d <;> simp only [bindT] at e <;> try (cases e)
    rename_i ds
    obtain ⟨a, xs, rfl, h1, h2, _⟩ := r.tup_at
    have len : ∀ (ts : List Tgt) (ds : List D) (δ δ' : SEnv), bindTs ts ds δ = some δ' → ds.length = ts.length := by
      intro ts
      induction ts with
      | nil => intro ds δ δ' h; cases ds <;> simp [bindTs] at h ⊢
      | cons t ts ih =>
        intro ds δ δ' h
        cases ds with
        | nil => simp [bindTs] at h
        | cons d ds =>
          simp only [bindTs] at h
          cases e1 : bindT t d δ with
          | none => rw [e1] at h; cases h
          | some δ1 => rw [e1] at h; simp [ih ds δ1 δ' h]
    exact ⟨a, xs, rfl, h1.sq, by rw [h2.length, len _ _ _ _ e]; exact hl, H0, A, B, P, R, δ, ds, δ', S, h2, e, k⟩
end
section
variable {Γ : Ctx} {W : WX} {X : Cx} {e c : Expr} {st : Stmt} {rest a b : List Stmt} {fe : SEnv → M D} {ft : SEnv → M Bool} {f g : SM} {pos : Pos}
/-! ### blocks -/
def sNx : SM := fun δ R => .nx δ R
def sSeq (f g : SM) : SM := fun δ R => match f δ R with
  | .nx δ' R' => g δ' R'
  | o => o
theorem ds_nil : PSs X [] (tS Γ W sNx) := pss_nil.imp fun Dn σ H h => by
  obtain ⟨H0, A, B, P, R, δ, S, h⟩ := h
  exact nx_out h (fun _ z => z) S
theorem ds_cons (h1 : PS X st (tS Γ W f)) (h2 : PSs X rest (tS Γ W g)) : PSs X (st :: rest) (tS Γ W (sSeq f g)) := (pss_cons h1 h2).imp fun Dn σ H h => by
  obtain ⟨H0, A, B, P, R, δ, S, h⟩ := h
  refine ⟨H0, A, B, P, R, δ, S, ?_⟩
  unfold sSeq at h
  cases e : f δ R with
  | nx δ' R' =>
    rw [e] at h
    intro σ' H' P' s S'
    exact ⟨H0, A, B, P', R', δ', S', AllK.later s h⟩
  | rt d R' => rw [e] at h; exact h
  | bk δ' R' => rw [e] at h; exact h
  | ct δ' R' => rw [e] at h; exact h
  | ex c d R' => rw [e] at h; exact h
  | stuck => rw [e] at h; exact h.elim
theorem ds_one (h1 : PS X st (tS Γ W f)) : PSs X [st] (tS Γ W f) := pss_one h1
def sSet (i : Nat) (fe : SEnv → M D) : SM := sBind fe fun d δ R => .nx (δ.set i (.dat d)) R
def sAsg (t : Tgt) (fe : SEnv → M D) : SM := sBind fe fun d δ R => match bindT t d δ with
  | some δ' => .nx δ' R
  | none => .stuck
theorem asg_imp {i : Nat} {σ : St} {H : Hp} {Dn : Ends} (h : tS Γ W (sSet i fe) Dn σ H) : tAsg (tD Γ W fe) (gName i) Dn σ H := by
  obtain ⟨H0, A, B, P, R, δ, S, h⟩ := h
  refine ⟨H0, A, B, P, R, δ, S, sgo S h fun x vx R1 H1 m r S1 h1 => ?_⟩
  obtain ⟨P', S', sub⟩ := S1.set r i
  exact nx_out h1 sub S'
theorem ds_set {i : Nat} {x : Str} {pos' : Pos} (hN : X.N.Nodup) (hi : X.N[i]? = some x) (hx : Loc X.env.scope x) (he : PE X e (tD Γ W fe)) (hs : swapsWith e (some (.Name x pos')) pos.line X.env = pure false := by rfl) (hf : X.fn x = true ∨ X.env.scope.names.lookup x = some .local := by first | exact .inl rfl | exact .inr rfl | assumption) :
    PS X (.Assign [.Name x pos'] e pos) (tS Γ W (sSet i fe)) := (ps_set hN hi hx he hs hf).imp fun _ _ _ h => asg_imp h
theorem ds_asg {tg : Expr} {t : Tgt} (he : PE X e (tD Γ W fe)) (hg : PG X tg (gD Γ t)) (hs : swapsWithSole [tg] e pos.line X.env = pure false := by rfl) (hw : swappedStores [tg] e X.env = pure none := by rfl)
    (h1 : (assignEach [tg] X.env).map (·.2) = [assign tg X.env] := by rfl) : PS X (.Assign [tg] e pos) (tS Γ W (sAsg t fe)) := (ps_asg he hg hs hw h1).imp fun Dn σ H h => by
  obtain ⟨H0, A, B, P, R, δ, S, h⟩ := h
  refine ⟨H0, A, B, P, R, δ, S, sgo S h fun x vx R1 H1 m r S1 h1 => ?_⟩
  cases q : bindT t x δ with
  | none => simp only [q] at h1; exact h1.elim
  | some δ' =>
    simp only [q] at h1
    exact ⟨H0, A, B, P, R1, δ, x, δ', S1, r, q, fun σ' P' s' _ S' => nx_out h1 s' S'⟩
def sDrop (fe : SEnv → M D) : SM := sBind fe fun _ δ R => .nx δ R
theorem ds_expr (he : PE X e (tD Γ W fe)) (hs : swapsWith e none pos.line X.env = pure false := by rfl) : PS X (.Expr e pos) (tS Γ W (sDrop fe)) := (ps_expr he hs).imp fun Dn σ H h => by
  obtain ⟨H0, A, B, P, R, δ, S, h⟩ := h
  exact ⟨H0, A, B, P, R, δ, S, sgo S h fun x vx R1 H1 m r S1 h1 => nx_out h1 (fun _ z => z) S1⟩
def sRet (fe : SEnv → M D) : SM := sBind fe fun d _ R => .rt d R
theorem ds_ret (he : PE X e (tD Γ W fe)) : PS X (.Return (some e) pos) (tS Γ W (sRet fe)) := (ps_ret he).imp fun Dn σ H h => by
  obtain ⟨H0, A, B, P, R, δ, S, h⟩ := h
  refine ⟨H0, A, B, P, R, δ, S, sgo S h fun x vx R1 H1 m r S1 h1 => ?_⟩
  exact h1 vx H1 ⟨S1.ext, S1.row, rfl⟩ (Rep.keep (hide_keeps fun a ha => List.mem_append_left _ ha) _ r)
def sRetN : SM := fun _ R => .rt .non R
theorem ds_retN : PS X (.Return none pos) (tS Γ W sRetN) := ps_retN.imp fun Dn σ H h => by
  obtain ⟨H0, A, B, P, R, δ, S, h⟩ := h
  exact h .non H ⟨S.ext, S.row, rfl⟩ Rep.of_non
def sIf (ft : SEnv → M Bool) (f g : SM) : SM := sBind ft fun k => if k = true then f else g
theorem ds_if (hc : PT X c (tB Γ W ft)) (ha : PSs X a (tS Γ W f)) (hb : PSs X b (tS Γ W g)) : PS X (.If c a b pos) (tS Γ W (sIf ft f g)) := (ps_if hc ha hb).imp fun Dn σ H h => by
  obtain ⟨H0, A, B, P, R, δ, S, h⟩ := h
  refine ⟨H0, A, B, P, R, δ, S, sgo S h fun k k' R1 H1 m r S1 h1 => ?_⟩
  have r1 : k = k' := r
  subst r1
  cases k with
  | true => exact ⟨H0, A, B, P, R1, δ, S1, h1⟩
  | false => exact ⟨H0, A, B, P, R1, δ, S1, h1⟩
def sBk : SM := fun δ R => .bk δ R
def sCt : SM := fun δ R => .ct δ R
theorem ds_break : PS X (.Break pos) (tS Γ W sBk) := ps_break.imp fun Dn σ H h => by
  obtain ⟨H0, A, B, P, R, δ, S, h⟩ := h
  exact h σ H P .refl S
theorem ds_cont : PS X (.Continue pos) (tS Γ W sCt) := ps_continue.imp fun Dn σ H h => by
  obtain ⟨H0, A, B, P, R, δ, S, h⟩ := h
  exact h σ H P .refl S
theorem ds_pass : PS X (.Pass pos) (tS Γ W sNx) := ps_pass.imp fun Dn σ H h => by
  obtain ⟨H0, A, B, P, R, δ, S, h⟩ := h
  exact h σ H P .refl S
/-- a local's number, changed by an operator -/
def sAug (i : Nat) (f : D → D → Option D) (fe : SEnv → M D) : SM := fun δ R => match δ[i]? with
  | some (.dat x) => sBind fe (fun y => sBind (fun _ => M.lift (f x y)) fun d δ R => .nx (δ.set i (.dat d)) R) δ R
  | _ => .stuck
def addI : D → D → Option D
  | .int i, .int j => some (.int (i + j))
  | _, _ => none
def subI : D → D → Option D
  | .int i, .int j => some (.int (i - j))
  | _, _ => none
theorem addI_eq {a b d : D} (h : addI a b = some d) : ∃ i j, a = .int i ∧ b = .int j ∧ d = .int (i + j) := by
  cases a <;> cases b <;> simp [addI] at h
  exact ⟨_, _, rfl, rfl, h.symm⟩
theorem subI_eq {a b d : D} (h : subI a b = some d) : ∃ i j, a = .int i ∧ b = .int j ∧ d = .int (i - j) := by
  cases a <;> cases b <;> simp [subI] at h
  exact ⟨_, _, rfl, rfl, h.symm⟩
theorem ds_augI {i : Nat} {x : Str} {op : Operator} {k : Int → Int → Int} {pos' : Pos} {fo : D → D → Option D} (hfo : ∀ a b d, fo a b = some d → ∃ i j, a = .int i ∧ b = .int j ∧ d = .int (k i j)) (hp : PIp X op (ipI k)) (hN : X.N.Nodup) (hi : X.N[i]? = some x) (hx : Loc X.env.scope x) (he : PE X e (tD Γ W fe))
    (hf : X.fn x = true ∨ X.env.scope.names.lookup x = some .local := by first | exact .inl rfl | exact .inr rfl | assumption) : PS X (.AugAssign (.Name x pos') op e pos) (tS Γ W (sAug i fo fe)) := (ps_aug hN hi hx he hp hf).imp fun Dn σ H h => by
  obtain ⟨H0, A, B, P, R, δ, S, h⟩ := h
  unfold sAug at h
  cases q : δ[i]? with
  | none => rw [q] at h; exact h.elim
  | some sd =>
    rw [q] at h
    cases sd with
    | none => exact h.elim
    | ot _ => exact h.elim
    | dat d =>
      obtain ⟨v, e1, e2⟩ := S.slots.get q
      refine ⟨v, e1, H0, A, B, P, R, δ, S, sgo S h fun y vy R1 H1 m r S1 h1 => ?_⟩
      cases ho : fo d y with
      | none => rw [ho] at h1; exact h1.elim
      | some z =>
        rw [ho] at h1
        obtain ⟨i1, j1, rfl, rfl, rfl⟩ := hfo _ _ _ ho
        refine ⟨i1, j1, e2.int_eq, r.int_eq, ?_⟩
        obtain ⟨P', S', sub⟩ := S1.set (d := .int (k i1 j1)) (v := .int (k i1 j1)) Rep.of_int i
        exact nx_out h1 sub S'
theorem ds_addI {i : Nat} {x : Str} {pos' : Pos} (hN : X.N.Nodup) (hi : X.N[i]? = some x) (hx : Loc X.env.scope x) (he : PE X e (tD Γ W fe)) (hf : X.fn x = true ∨ X.env.scope.names.lookup x = some .local := by first | exact .inl rfl | exact .inr rfl | assumption) :
    PS X (.AugAssign (.Name x pos') .Add e pos) (tS Γ W (sAug i addI fe)) := ds_augI (fun _ _ _ => addI_eq) ip_add hN hi hx he hf
theorem ds_subI {i : Nat} {x : Str} {pos' : Pos} (hN : X.N.Nodup) (hi : X.N[i]? = some x) (hx : Loc X.env.scope x) (he : PE X e (tD Γ W fe)) (hf : X.fn x = true ∨ X.env.scope.names.lookup x = some .local := by first | exact .inl rfl | exact .inr rfl | assumption) :
    PS X (.AugAssign (.Name x pos') .Sub e pos) (tS Γ W (sAug i subI fe)) := ds_augI (fun _ _ _ => subI_eq) ip_sub hN hi hx he hf
end
end DL

set_option Elab.async false
set_option linter.all false
set_option maxRecDepth 100000
namespace DL
open PySem PySem.Spec L2
/-! ### walks over data -/
/-- the walk J yields ds while what was seen stands -/
structure DW (Γ : Ctx) (A : List Addr) (J : It) (ds : List D) (H : Hp) (n : Nat) (G : Hp → Prop) (Y : Nat → Hp → V → Hp → Prop) : Prop where
  w : Walk J n G Y
  len : n = ds.length
  g0 : ∀ A2 H2, Keeps Γ (hide A H) (hide A2 H2) → G H2
  y : ∀ A2 H2, Keeps Γ (hide A H) (hide A2 H2) → All A2 H2 → ∀ i x H3, i < n → Y i H2 x H3 → ∃ d, ds[i]? = some d ∧ Grow Γ H2 H3 ∧ Rep Γ (hide A2 H3) d x
def DWk (Γ : Ctx) (A : List Addr) (J : It) (ds : List D) (H : Hp) : Prop := ∃ n G Y, DW Γ A J ds H n G Y
abbrev IK (Γ : Ctx) (B A P : List Addr) (R : Option Rw) (H : Hp) (K : It → Hp → Prop) : List D → Option Rw → Prop := fun ds R' => ∀ J H', Mv Γ B R R' H H' → DWk Γ (A ++ P) J ds H' → K J H'
def iD (Γ : Ctx) (W : WX) (f : SEnv → M (List D)) : TI := fun σ H K => ∃ H0 A B P R δ, RepS Γ H0 A B P R H σ δ ∧ (f δ R).run (IK Γ B A P R H K) (KE Γ W B A P σ R H)
theorem _root_.L2.PI.imp {X : Cx} {tg e : Expr} {t t' : TI} (h : PI X tg e t) (i : ∀ σ H Q, t' σ H Q → t σ H Q) : PI X tg e t' := ⟨fun pins s σ H Q I q => h.run pins s σ H Q I (i σ H Q q)⟩
theorem Keeps.seen_lst {Γ : Ctx} {A A2 : List Addr} {H H2 : Hp} (k : Keeps Γ (hide A H) (hide A2 H2)) {a : Addr} {xs : List V} (n : a ∉ A) (h : H a = some (.lst xs)) : H2 a = some (.lst xs) := (hide_some (k.lst a xs (by rw [hide_out n]; exact h))).2
theorem Keeps.seen_tup {Γ : Ctx} {A A2 : List Addr} {H H2 : Hp} (k : Keeps Γ (hide A H) (hide A2 H2)) {a : Addr} {xs : List V} (n : a ∉ A) (h : TupO H a xs) : TupO H2 a xs := (k.tup a xs (h.hide n)).unhide.2
theorem dw_list {Γ : Ctx} {K : PySem.W.Frag} {A : List Addr} {H : Hp} {a : Addr} {xs : List V} {ds : List D} (n : a ∉ A) (h : H a = some (.lst xs)) (r : RepL Γ (hide A H) ds xs) : DWk Γ A (Itl K a) ds H :=
  ⟨_, _, _, walk_list (K := K) (a := a) (xs := xs), r.length, fun A2 H2 k => SqL.of (k.seen_lst n h), fun A2 H2 k al i x H3 hi y => by
    obtain ⟨rfl, hx⟩ := y
    obtain ⟨d, e1, e2⟩ := (RepL.keep k _ r).getV hx
    exact ⟨d, e1, Grow.refl, e2⟩⟩
theorem dw_tup {Γ : Ctx} {K : PySem.W.Frag} {A : List Addr} {H : Hp} {a : Addr} {xs : List V} {ds : List D} (n : a ∉ A) (h : TupO H a xs) (r : RepL Γ (hide A H) ds xs) : DWk Γ A (Itt K a) ds H :=
  ⟨_, _, _, walk_tup (K := K) (a := a) (xs := xs), r.length, fun A2 H2 k => TupO.sq (k.seen_tup n h), fun A2 H2 k al i x H3 hi y => by
    obtain ⟨rfl, hx⟩ := y
    obtain ⟨d, e1, e2⟩ := (RepL.keep k _ r).getV hx
    exact ⟨d, e1, Grow.refl, e2⟩⟩
def rangeD (lo : Int) (n : Nat) : List D := (List.range n).map fun (i : Nat) => D.int (lo + (i : Int))
theorem rangeD_length (lo : Int) (n : Nat) : (rangeD lo n).length = n := by simp [rangeD]
theorem dw_range {Γ : Ctx} {A : List Addr} {H : Hp} {lo : Int} {n : Nat} : DWk Γ A (Itr lo n) (rangeD lo n) H :=
  ⟨_, _, _, walk_range (lo := lo) (n := n), (rangeD_length lo n).symm, fun _ _ _ => trivial, fun A2 H2 k al i x H3 hi y => by
    obtain ⟨rfl, rfl⟩ := y
    refine ⟨.int (lo + (i : Int)), by simp [rangeD, hi], Grow.refl, Rep.of_int⟩⟩
/-- new pairs -/
theorem pair_y {Γ : Ctx} [NoFz Γ] {A2 : List Addr} {H2 H3 : Hp} {f g : Nat → Option V} {i : Nat} {x : V} {d e : D} (al : All A2 H2) (y : YPair f g i H2 x H3) (hf : ∀ v, f i = some v → Rep Γ (hide A2 H2) d v) (hg : ∀ v, g i = some v → Rep Γ (hide A2 H2) e v) :
    Grow Γ H2 H3 ∧ Rep Γ (hide A2 H3) (.tup [d, e]) x := by
  obtain ⟨T, u, v, rfl, hT, rfl, e1, e2⟩ := y
  exact ⟨grow_new hT, Rep.new_tup al hT (RepL_cons.mpr ⟨u, [v], rfl, hf u e1, RepL.one (hg v e2)⟩)⟩
def enumD (ds : List D) : List D := ds.mapIdx fun i d => D.tup [.int (i : Int), d]
theorem dw_enum {Γ : Ctx} [NoFz Γ] {K : PySem.W.Frag} {A : List Addr} {H : Hp} {a : Addr} {xs : List V} {ds : List D} (n : a ∉ A) (h : H a = some (.lst xs)) (r : RepL Γ (hide A H) ds xs) : DWk Γ A (Ite K a) (enumD ds) H :=
  ⟨_, _, _, walk_enum (K := K) (a := a) (xs := xs), by rw [r.length]; simp [enumD], fun A2 H2 k => SqL.of (k.seen_lst n h), fun A2 H2 k al i x H3 hi y => by
    have r2 := RepL.keep k _ r
    have hi' : i < ds.length := by rw [← r.length]; exact hi
    obtain ⟨g, rp⟩ := pair_y (Γ := Γ) (d := .int (i : Int)) (e := ds[i]) al y (fun v e => by rw [← Option.some.inj e]; exact Rep.of_int) (fun v e => by
      obtain ⟨d, e1, e2⟩ := r2.getV e
      rw [List.getElem?_eq_getElem hi'] at e1
      rw [Option.some.inj e1]
      exact e2)
    exact ⟨_, by simp [enumD, List.getElem?_mapIdx, hi'], g, rp⟩⟩
def zipD (ds es : List D) : List D := (ds.zip es).map fun p => D.tup [p.1, p.2]
theorem walk_zipT {K : PySem.W.Frag} {a b : Addr} {xs ys : List V} {n : Nat} (hn : n = min xs.length ys.length) : Walk (RZ.ItzT K a b) n (fun H => SqT K H a xs ∧ SqT K H b ys) (YPair (fun i => xs[i]?) (fun i => ys[i]?)) := by
  subst hn
  refine ⟨fun i _ hi q => ?_, fun _ q => ⟨xs, ys, q.1, q.2, by omega⟩, fun i H v H' _ q y => ?_⟩
  · have h1 : i < xs.length := by omega
    have h2 : i < ys.length := by omega
    exact ⟨xs, ys, xs[i], ys[i], q.1, q.2, by simp [h1], by simp [h2]⟩
  · obtain ⟨T, x, z, h1, h2, h3, h4, h5⟩ := y
    exact ⟨T, x, z, h1, h2, h3, h4 xs q.1, h5 ys q.2⟩
theorem zip_y {Γ : Ctx} [NoFz Γ] {A2 : List Addr} {H2 H3 : Hp} {xs ys : List V} {ds es : List D} {i : Nat} {x : V} (al : All A2 H2) (r : RepL Γ (hide A2 H2) ds xs) (r' : RepL Γ (hide A2 H2) es ys) (hi : i < min xs.length ys.length) (y : YPair (fun i => xs[i]?) (fun i => ys[i]?) i H2 x H3) :
    ∃ d, (zipD ds es)[i]? = some d ∧ Grow Γ H2 H3 ∧ Rep Γ (hide A2 H3) d x := by
  have hx : i < ds.length := by rw [← r.length]; omega
  have hy : i < es.length := by rw [← r'.length]; omega
  obtain ⟨g, rp⟩ := pair_y (Γ := Γ) (d := ds[i]) (e := es[i]) al y (fun v e => by
    obtain ⟨d, e1, e2⟩ := r.getV e
    rw [List.getElem?_eq_getElem hx] at e1
    rw [Option.some.inj e1]
    exact e2) (fun v e => by
    obtain ⟨d, e1, e2⟩ := r'.getV e
    rw [List.getElem?_eq_getElem hy] at e1
    rw [Option.some.inj e1]
    exact e2)
  refine ⟨_, ?_, g, rp⟩
  unfold zipD
  rw [List.getElem?_map, List.zip_eq_zipWith, List.getElem?_zipWith, List.getElem?_eq_getElem hx, List.getElem?_eq_getElem hy]
  rfl
theorem dw_zip {Γ : Ctx} [NoFz Γ] {K : PySem.W.Frag} {A : List Addr} {H : Hp} {a b : Addr} {xs ys : List V} {ds es : List D} (n : a ∉ A) (h : H a = some (.lst xs)) (r : RepL Γ (hide A H) ds xs) (n' : b ∉ A) (h' : H b = some (.lst ys)) (r' : RepL Γ (hide A H) es ys) : DWk Γ A (Itz K a b) (zipD ds es) H :=
  ⟨_, _, _, walk_zip (K := K) (a := a) (b := b) (xs := xs) (ys := ys) rfl, by rw [r.length, r'.length]; simp [zipD], fun A2 H2 k => ⟨SqL.of (k.seen_lst n h), SqL.of (k.seen_lst n' h')⟩, fun A2 H2 k al i x H3 hi y => zip_y al (RepL.keep k _ r) (RepL.keep k _ r') hi y⟩
theorem dw_zipT {Γ : Ctx} [NoFz Γ] {K : PySem.W.Frag} {A : List Addr} {H : Hp} {a b : Addr} {xs ys : List V} {ds es : List D} (n : a ∉ A) (h : TupO H a xs) (r : RepL Γ (hide A H) ds xs) (n' : b ∉ A) (h' : TupO H b ys) (r' : RepL Γ (hide A H) es ys) : DWk Γ A (RZ.ItzT K a b) (zipD ds es) H :=
  ⟨_, _, _, walk_zipT (K := K) (a := a) (b := b) (xs := xs) (ys := ys) rfl, by rw [r.length, r'.length]; simp [zipD], fun A2 H2 k => ⟨TupO.sq (k.seen_tup n h), TupO.sq (k.seen_tup n' h')⟩, fun A2 H2 k al i x H3 hi y => zip_y al (RepL.keep k _ r) (RepL.keep k _ r') hi y⟩
section
variable {Γ : Ctx} {W : WX} {X : Cx} {tg e e2 c : Expr} {fe fa fb : SEnv → M D} {fi : SEnv → M (List D)} {ft : SEnv → M Bool} {pos : Pos} {t : Tgt}
/-! ### iterables -/
/-- what a list, a tuple holds -/
def seqD : D → Option (List D)
  | .lst ds => some ds
  | .tup ds => some ds
  | _ => none
def lstD : D → Option (List D)
  | .lst ds => some ds
  | _ => none
def tupD : D → Option (List D)
  | .tup ds => some ds
  | _ => none
theorem lstD_eq {d : D} {ds : List D} (h : lstD d = some ds) : d = .lst ds := by
  cases d <;> simp [lstD] at h; rw [h]
theorem tupD_eq {d : D} {ds : List D} (h : tupD d = some ds) : d = .tup ds := by
  cases d <;> simp [tupD] at h; rw [h]
def iLst (fe : SEnv → M D) : SEnv → M (List D) := fun δ => fe δ >>= fun x => M.lift (lstD x)
def iTpl (fe : SEnv → M D) : SEnv → M (List D) := fun δ => fe δ >>= fun x => M.lift (tupD x)
theorem igo {α β γ : Type} {rep : Hp → α → β → Prop} {f : M α} {g : α → M (List D)} {K : It → Hp → Prop} {t : β → Hp → Prop} {H0 H : Hp} {A B P : List Addr} {R : Option Rw} {σ : St} {δ : SEnv} (S : RepS Γ H0 A B P R H σ δ) (h : ((f >>= g) R).run (IK Γ B A P R H K) (KE Γ W B A P σ R H))
    (k : ∀ a b R1 H1, Mv Γ B R R1 H H1 → rep (hide (A ++ P) H1) a b → RepS Γ H0 A B P R1 H1 σ δ → (g a R1).run (IK Γ B A P R1 H1 K) (KE Γ W B A P σ R1 H1) → t b H1) :
    (f R).run (KK Γ B A P rep R H t) (KE Γ W B A P σ R H) :=
  Out.run_mono (run_bind.mp h) (fun a R1 _ q b H1 m r => k a b R1 H1 m r (S.move m) (Out.run_mono q (fun a' R2 _ q2 J H2 m2 r2 => q2 J H2 (m.trans m2) r2) fun c d R2 _ q2 v dx H2 m2 => q2 v dx H2 (m.trans m2))) fun c d R1 _ q => q
theorem ilift {o : Option (List D)} {K : It → Hp → Prop} {E : String → D → Option Rw → Prop} {B A P : List Addr} {R : Option Rw} {H : Hp} (h : (M.lift o R).run (IK Γ B A P R H K) E) (row : RowOk Γ H R) : ∃ ds, o = some ds ∧ ∀ J, DWk Γ (A ++ P) J ds H → K J H := by
  cases o with
  | none => exact h.elim
  | some d => exact ⟨d, rfl, fun J w => h J H (.refl row) w⟩
theorem di_lst (he : PE X e (tD Γ W fe)) : PI X tg e (iD Γ W (iLst fe)) := (pi_list he).imp fun σ H K h => by
  obtain ⟨H0, A, B, P, R, δ, S, h⟩ := h
  refine ⟨H0, A, B, P, R, δ, S, igo (γ := Nat) S h fun x vx R1 H1 m r S1 h1 => ?_⟩
  obtain ⟨ds, e1, q⟩ := ilift h1 S1.row
  rw [lstD_eq e1] at r
  obtain ⟨a, xs, rfl, h2, h3, n⟩ := r.lst_at
  exact ⟨a, rfl, ⟨xs, SqL.of h2⟩, q _ (dw_list n h2 h3)⟩
theorem di_tup (he : PE X e (tD Γ W fe)) : PI X tg e (iD Γ W (iTpl fe)) := (pi_tup he).imp fun σ H K h => by
  obtain ⟨H0, A, B, P, R, δ, S, h⟩ := h
  refine ⟨H0, A, B, P, R, δ, S, igo (γ := Nat) S h fun x vx R1 H1 m r S1 h1 => ?_⟩
  obtain ⟨ds, e1, q⟩ := ilift h1 S1.row
  rw [tupD_eq e1] at r
  obtain ⟨a, xs, rfl, h2, h3, n⟩ := r.tup_at
  exact ⟨a, rfl, ⟨xs, (h2).sq⟩, q _ (dw_tup n h2 h3)⟩
def rng1 : List D → Option (List D)
  | [.int j] => if -(2 ^ 62) ≤ j ∧ j < 2 ^ 62 then some (rangeD 0 j.toNat) else none
  | _ => none
def rng2 : List D → Option (List D)
  | [.int i, .int j] => if -(2 ^ 62) ≤ i ∧ i < 2 ^ 62 ∧ -(2 ^ 62) ≤ j ∧ j < 2 ^ 62 then some (rangeD i (j - i).toNat) else none
  | _ => none
def iCall (f : List D → Option (List D)) (fs : SEnv → M (List D)) : SEnv → M (List D) := fun δ => fs δ >>= fun xs => M.lift (f xs)
variable {fs : SEnv → M (List D)} {a b : Expr} {p : Pos}
theorem di_rng1 (hg : Gl X "range") (hm : X.mg "range" = none) (ha : PA X [a] (tL Γ W fs)) (hs : starEach [a] X.env = [(false, eval a X.env)] := by rfl) : PI X tg (.Call (.Name "range" p) [a] [] pos) (iD Γ W (iCall rng1 fs)) := (pi_range1 hg hm ha hs).imp fun σ H K h => by
  obtain ⟨H0, A, B, P, R, δ, S, h⟩ := h
  refine ⟨H0, A, B, P, R, δ, S, igo (γ := Nat) S h fun xs vs R1 H1 m r S1 h1 => ?_⟩
  obtain ⟨ds, e1, q⟩ := ilift h1 S1.row
  unfold rng1 at e1
  split at e1
  · rename_i j
    split at e1
    · rename_i hj
      rw [RepL_cons] at r
      obtain ⟨v, ws, rfl, r1, r2⟩ := r
      rw [RepL_nil] at r2
      subst r2
      have e2 := Option.some.inj e1
      subst e2
      exact ⟨j, by rw [r1.int_eq], hj.1, hj.2, q _ dw_range⟩
    · cases e1
  · cases e1
theorem di_rng2 (hg : Gl X "range") (hm : X.mg "range" = none) (ha : PA X [a, b] (tL Γ W fs)) (hs : starEach [a, b] X.env = [(false, eval a X.env), (false, eval b X.env)] := by rfl) (hs2 : starEach [b] X.env = [(false, eval b X.env)] := by rfl) : PI X tg (.Call (.Name "range" p) [a, b] [] pos) (iD Γ W (iCall rng2 fs)) := (pi_range2 hg hm ha hs hs2).imp fun σ H K h => by
  obtain ⟨H0, A, B, P, R, δ, S, h⟩ := h
  refine ⟨H0, A, B, P, R, δ, S, igo (γ := Nat) S h fun xs vs R1 H1 m r S1 h1 => ?_⟩
  obtain ⟨ds, e1, q⟩ := ilift h1 S1.row
  unfold rng2 at e1
  split at e1
  · rename_i i j
    split at e1
    · rename_i hj
      rw [RepL_cons] at r
      obtain ⟨v, ws, rfl, r1, r2⟩ := r
      rw [RepL_cons] at r2
      obtain ⟨v2, ws2, rfl, r3, r4⟩ := r2
      rw [RepL_nil] at r4
      subst r4
      have e2 := Option.some.inj e1
      subst e2
      exact ⟨i, j, by rw [r1.int_eq, r3.int_eq], hj, q _ dw_range⟩
    · cases e1
  · cases e1
def enumOf : List D → Option (List D)
  | [.lst ds] => some (enumD ds)
  | _ => none
theorem di_enum [NoFz Γ] {tpos : Pos} {elts : List Expr} {kk : Nat} (hg : Gl X "enumerate") (hm : X.mg "enumerate" = none) (ha : PA X [e] (tL Γ W fs)) (hs : starEach [e] X.env = [(false, eval e X.env)] := by rfl) :
    PI X (.Tuple elts kk tpos) (.Call (.Name "enumerate" p) [e] [] pos) (iD Γ W (iCall enumOf fs)) := (pi_enum hg hm ha hs).imp fun σ H K h => by
  obtain ⟨H0, A, B, P, R, δ, S, h⟩ := h
  refine ⟨H0, A, B, P, R, δ, S, igo (γ := Nat) S h fun xs vs R1 H1 m r S1 h1 => ?_⟩
  obtain ⟨ds, e1, q⟩ := ilift h1 S1.row
  unfold enumOf at e1
  split at e1
  · rename_i es
    rw [RepL_cons] at r
    obtain ⟨v, ws, rfl, r1, r2⟩ := r
    rw [RepL_nil] at r2
    subst r2
    have e2 := Option.some.inj e1
    subst e2
    obtain ⟨a, xs, rfl, h2, h3, n⟩ := r1.lst_at
    exact ⟨a, xs, rfl, SqL.of h2, q _ (dw_enum n h2 h3)⟩
  · cases e1
def zipOf : List D → Option (List D)
  | [.lst ds, .lst es] => some (zipD ds es)
  | [.tup ds, .tup es] => some (zipD ds es)
  | _ => none
theorem di_zip [NoFz Γ] {tpos : Pos} {elts : List Expr} {kk : Nat} (hg : Gl X "zip") (hm : X.mg "zip" = none) (ha : PA X [e, e2] (tL Γ W fs)) (hs : starEach [e, e2] X.env = (false, eval e X.env) :: starEach [e2] X.env := by rfl) (hpl : (backTo pos (starEach [e2] X.env)).any (·.1) = false := by rfl) :
    PI X (.Tuple elts kk tpos) (.Call (.Name "zip" p) [e, e2] [] pos) (iD Γ W (iCall zipOf fs)) := (RZ.pi_zipA hg hm ha hs hpl).imp fun σ H K h => by
  obtain ⟨H0, A, B, P, R, δ, S, h⟩ := h
  refine ⟨H0, A, B, P, R, δ, S, igo (γ := Nat) S h fun xs vs R1 H1 m r S1 h1 => ?_⟩
  obtain ⟨ds, e1, q⟩ := ilift h1 S1.row
  unfold zipOf at e1
  split at e1
  · rename_i d1 d2
    rw [RepL_cons] at r
    obtain ⟨v, ws, rfl, r1, r2⟩ := r
    rw [RepL_cons] at r2
    obtain ⟨v2, ws2, rfl, r3, r4⟩ := r2
    rw [RepL_nil] at r4
    subst r4
    have e2 := Option.some.inj e1
    subst e2
    obtain ⟨a, xs, rfl, h2, h3, n⟩ := r1.lst_at
    obtain ⟨b, ys, rfl, h4, h5, n'⟩ := r3.lst_at
    exact ⟨a, b, xs, ys, rfl, .inl ⟨SqL.of h2, SqL.of h4, q _ (dw_zip n h2 h3 n' h4 h5)⟩⟩
  · rename_i d1 d2
    rw [RepL_cons] at r
    obtain ⟨v, ws, rfl, r1, r2⟩ := r
    rw [RepL_cons] at r2
    obtain ⟨v2, ws2, rfl, r3, r4⟩ := r2
    rw [RepL_nil] at r4
    subst r4
    have e2 := Option.some.inj e1
    subst e2
    obtain ⟨a, xs, rfl, h2, h3, n⟩ := r1.tup_at
    obtain ⟨b, ys, rfl, h4, h5, n'⟩ := r3.tup_at
    exact ⟨a, b, xs, ys, rfl, .inr ⟨(h2).sq, (h4).sq, q _ (dw_zipT n h2 h3 n' h4 h5)⟩⟩
  · cases e1
end
end DL

set_option Elab.async false
set_option linter.all false
set_option maxRecDepth 100000
namespace DL
open PySem PySem.Spec L2
/-! ### loops -/
def sLoop (t : Tgt) (body : SM) : List D → SM
  | [], δ, R => .nx δ R
  | d :: ds, δ, R => match bindT t d δ with
    | none => .stuck
    | some δ1 => match body δ1 R with
      | .nx δ2 R2 => sLoop t body ds δ2 R2
      | .ct δ2 R2 => sLoop t body ds δ2 R2
      | .bk δ2 R2 => .nx δ2 R2
      | .rt d R2 => .rt d R2
      | .ex c d R2 => .ex c d R2
      | .stuck => .stuck
def sFor (t : Tgt) (fi : SEnv → M (List D)) (body : SM) : SM := sBind fi fun ds => sLoop t body ds
section
variable {Γ : Ctx} {W : WX} {X : Cx} {tg e c iter : Expr} {fi : SEnv → M (List D)} {ft : SEnv → M Bool} {fe : SEnv → M D} {body : List Stmt} {fb : SM} {pos : Pos} {t : Tgt}
theorem sgoI {g : List D → SM} {K : It → Hp → Prop} {H0 H : Hp} {A B P : List Addr} {R : Option Rw} {σ : St} {δ : SEnv} {Dn : Ends} (S : RepS Γ H0 A B P R H σ δ) (h : AllK Γ W H0 A B P R H Dn (sBind fi g δ R))
    (k : ∀ ds J R1 H1, Mv Γ B R R1 H H1 → DWk Γ (A ++ P) J ds H1 → RepS Γ H0 A B P R1 H1 σ δ → AllK Γ W H0 A B P R1 H1 Dn (g ds δ R1) → K J H1) :
    (fi δ R).run (IK Γ B A P R H K) (KE Γ W B A P σ R H) := by
  unfold sBind at h
  cases e : fi δ R with
  | ok a R1 =>
    rw [e] at h
    intro b H1 m r
    exact k a b R1 H1 m r (S.move m) (AllK.later (.of_mv m) h)
  | exn c d R1 =>
    rw [e] at h
    intro v dx H1 m hx r
    exact h v dx σ H1 ⟨S.ext.trans m.ext, m.row, m.adr⟩ hx (Rep.keep (hide_keeps fun a ha => List.mem_append_left _ ha) _ r)
  | stuck =>
    rw [e] at h
    exact h.elim
theorem ds_for (hp : PassesOwn (model X.prog X.w) X.A X.env X.xe) (hc : X.calm = true) (hi : PI X tg iter (iD Γ W fi)) (hg : PG X tg (gD Γ t)) (hb : PSs X body (tS Γ W fb))
    (hs : ∀ x, foldedSetIterable iter X.env x = pure x := by intro _; rfl) : PS X (.For tg iter body [] pos) (tS Γ W (sFor t fi fb)) := (ps_for hp hc hi hg hb hs).imp fun Dn σ H h => by
  obtain ⟨H0, A, B, P, R, δ, S, h⟩ := h
  refine ⟨H0, A, B, P, R, δ, S, sgoI S h fun ds J R1 H1 m w S1 h1 => ?_⟩
  obtain ⟨n, G, Y, w⟩ := w
  refine for_it w.w (fun i σ' H' => ∃ δ' R' P', Stp Γ B P P' R1 R' H1 H' ∧ RepS Γ H0 A B P' R' H' σ' δ' ∧ AllK Γ W H0 A B P' R' H' Dn (sLoop t fb (ds.drop i) δ' R')) ⟨δ, R1, P, .refl, S1, h1⟩ ?_ ?_ ?_
  · rintro i σ' H' hi ⟨δ', R', P', s, S', h'⟩
    exact w.g0 _ _ (s.keeps S1.ba)
  · rintro i x σ' H' H'' hi ⟨δ', R', P', s, S', h'⟩ y
    obtain ⟨d, e1, g1, r1⟩ := w.y _ _ (s.keeps S1.ba) S'.all i x H'' hi y
    have hi' : i < ds.length := by rw [← w.len]; exact hi
    rw [List.drop_eq_getElem_cons hi'] at h'
    rw [List.getElem?_eq_getElem hi'] at e1
    rw [Option.some.inj e1] at h'
    have mg : Mv Γ B R' R' H' H'' := .grow S'.row g1
    have S2 := S'.move mg
    have s2 := s.trans (.of_mv mg)
    have h2 := AllK.later (.of_mv mg) h'
    simp only [sLoop] at h2
    cases q : bindT t d δ' with
    | none => simp only [q] at h2; exact h2.elim
    | some δ1 =>
      simp only [q] at h2
      refine ⟨H0, A, B, P', R', δ', d, δ1, S2, r1, q, fun σ2 P2 sub w2 S3 => ⟨H0, A, B, P2, R', δ1, S3, ?_⟩⟩
      have s3 : Stp Γ B P' P2 R' R' H'' H'' := Stp.sub .refl sub
      have h3 := AllK.later s3 h2
      have go : ∀ δ4 R4, AllK Γ W H0 A B P2 R' H'' Dn (sLoop t fb (ds.drop (i + 1)) δ4 R4) → NK Γ H0 A B P2 R' H'' (fun σ' H' => ∃ δ' R' P', Stp Γ B P P' R1 R' H1 H' ∧ RepS Γ H0 A B P' R' H' σ' δ' ∧ AllK Γ W H0 A B P' R' H' Dn (sLoop t fb (ds.drop (i + 1)) δ' R')) δ4 R4 := fun δ4 R4 h4 σ5 H5 P5 s5 S5 => ⟨δ4, R4, P5, (s2.trans s3).trans s5, S5, AllK.later s5 h4⟩
      cases qb : fb δ1 R' with
      | nx δ4 R4 => simp only [qb] at h3; exact go δ4 R4 h3
      | ct δ4 R4 => simp only [qb] at h3; exact go δ4 R4 h3
      | bk δ4 R4 => simp only [qb] at h3; exact h3
      | rt d4 R4 => simp only [qb] at h3; exact h3
      | ex c4 d4 R4 => simp only [qb] at h3; exact h3
      | stuck => simp only [qb] at h3; exact h3.elim
  · rintro σ' H' ⟨δ', R', P', s, S', h'⟩
    have e : ds.drop n = [] := by rw [w.len]; exact List.drop_length
    rw [e] at h'
    exact nx_out h' (fun _ z => z) S'
def sWhile : Nat → (SEnv → M Bool) → SM → SM
  | 0, _, _ => fun _ _ => .stuck
  | n + 1, ft, body => sBind ft fun k δ R => if k = true then (match body δ R with
      | .nx δ2 R2 => sWhile n ft body δ2 R2
      | .ct δ2 R2 => sWhile n ft body δ2 R2
      | .bk δ2 R2 => .nx δ2 R2
      | .rt d R2 => .rt d R2
      | .ex c d R2 => .ex c d R2
      | .stuck => .stuck) else .nx δ R
theorem ds_while (n : Nat) (hp : PassesOwn (model X.prog X.w) X.A X.env X.xe) (hc : PT X c (tB Γ W ft)) (hb : PSs X body (tS Γ W fb)) : PS X (.While c body [] pos) (tS Γ W (sWhile n ft fb)) := (ps_while hp hc hb).imp fun Dn σ H h => by
  obtain ⟨H0, A, B, P, R, δ, S, h⟩ := h
  refine ⟨fun m σ' H' => ∃ δ' R' P', RepS Γ H0 A B P' R' H' σ' δ' ∧ AllK Γ W H0 A B P' R' H' Dn (sWhile m ft fb δ' R'), ⟨n, δ, R, P, S, h⟩, ?_⟩
  rintro m σ' H' ⟨δ', R', P', S', h'⟩
  cases m with
  | zero => exact h'.elim
  | succ m =>
    refine ⟨H0, A, B, P', R', δ', S', sgo S' h' fun k k' R1 H1 mv r S1 h1 => ?_⟩
    have r1 : k = k' := r
    subst r1
    cases k with
    | false =>
      rw [if_neg Bool.false_ne_true] at h1 ⊢
      exact nx_out h1 (fun _ z => z) S1
    | true =>
      rw [if_pos rfl] at h1 ⊢
      refine ⟨fun σ' H' => ∃ δ' R' P', RepS Γ H0 A B P' R' H' σ' δ' ∧ AllK Γ W H0 A B P' R' H' Dn (sWhile m ft fb δ' R'), fun σ2 H2 q => ⟨m, Nat.lt_succ_self _, q⟩, H0, A, B, P', R1, δ', S1, ?_⟩
      cases qb : fb δ' R1 with
      | nx δ4 R4 => simp only [qb] at h1; exact fun σ5 H5 P5 s5 S5 => ⟨δ4, R4, P5, S5, AllK.later s5 h1⟩
      | ct δ4 R4 => simp only [qb] at h1; exact fun σ5 H5 P5 s5 S5 => ⟨δ4, R4, P5, S5, AllK.later s5 h1⟩
      | bk δ4 R4 => simp only [qb] at h1; exact h1
      | rt d4 R4 => simp only [qb] at h1; exact h1
      | ex c4 d4 R4 => simp only [qb] at h1; exact h1
      | stuck => simp only [qb] at h1; exact h1.elim
/-! ### comprehensions -/
def blkD (δ : SEnv) : List Nat → SEnv
  | [] => δ.map fun s => match s with
    | .ot _ => .none
    | s => s
  | v :: vs => (blkD δ vs).set v .none
theorem SlotsR.unown {Γ : Ctx} {Hh H : Hp} {σ : St} {δ : SEnv} {P : List Addr} (h : SlotsR Γ Hh H σ δ P) : SlotsR Γ Hh H σ (blkD δ []) [] := by
  induction h with
  | nil => exact .nil
  | none _ ih => exact .none ih
  | dat r _ ih => exact .dat r ih
  | ot _ _ ih => exact .none ih
theorem SlotsR.blk {Γ : Ctx} {Hh H : Hp} {σ : St} {δ : SEnv} {P : List Addr} (h : SlotsR Γ Hh H σ δ P) : ∀ vs : List Nat, SlotsR Γ Hh H (wipe σ vs) (blkD δ vs) []
  | [] => h.unown
  | v :: vs => by
    obtain ⟨P', h1, h2⟩ := (SlotsR.blk h vs).wipe1 v
    have e : P' = [] := List.sublist_nil.mp h2
    rw [e] at h1
    exact h1
abbrev W0 : WX := fun _ _ _ _ => False
def compL (t : Tgt) (ft : SEnv → M Bool) (fe : SEnv → M D) (δ : SEnv) : List D → M (List D)
  | [], R => .ok [] R
  | d :: ds, R => match bindT t d δ with
    | none => .stuck
    | some δ1 => match ft δ1 R with
      | .ok true R1 => (match fe δ1 R1 with
        | .ok y R2 => (match compL t ft fe δ ds R2 with
          | .ok ys R3 => .ok (y :: ys) R3
          | _ => .stuck)
        | _ => .stuck)
      | .ok false R1 => compL t ft fe δ ds R1
      | _ => .stuck
def dComp (vs : List Nat) (t : Tgt) (fi : SEnv → M (List D)) (ft : SEnv → M Bool) (fe : SEnv → M D) : SEnv → M D := fun δ => fi δ >>= fun ds => M.lift (lenOk ds) >>= fun ds => compL t ft fe (blkD δ vs) ds >>= fun rs => pure (.lst rs)
def bYes : SEnv → M Bool := fun _ => pure true
theorem dts_nil : PTs X [] (tB Γ W bYes) := ⟨fun pins s σ H Q I h => by
  obtain ⟨H0, A, B, P, R, δ, S, h⟩ := h
  exact pts_nil.run pins s σ H Q I (h true H (.refl S.row) rfl)⟩
theorem dts_one (h : PT X c (tB Γ W ft)) : PTs X [c] (tB Γ W ft) := pts_one h
/-- a new list -/
def tF (Γ : Ctx) (W : WX) (f : SEnv → M (List D)) : TE := fun σ H Q => ∃ H0 A B P R δ, RepS Γ H0 A B P R H σ δ ∧
  (f δ R).run (fun ds R' => ∀ p vs H', Mv Γ B R R' H H' → H p = none → H' p = some (.lst vs) → RepL Γ (hide (p :: (A ++ P)) H') ds vs → Q (.ref p) H') (KE Γ W B A P σ R H)
def cComp (vs : List Nat) (t : Tgt) (fi : SEnv → M (List D)) (ft : SEnv → M Bool) (fe : SEnv → M D) : SEnv → M (List D) := fun δ => fi δ >>= fun ds => M.lift (lenOk ds) >>= fun ds => compL t ft fe (blkD δ vs) ds
theorem dComp_eq {vs : List Nat} {t : Tgt} {fi : SEnv → M (List D)} {ft : SEnv → M Bool} {fe : SEnv → M D} {δ : SEnv} : dComp vs t fi ft fe δ = (cComp vs t fi ft fe δ >>= fun rs => pure (.lst rs)) := by
  unfold dComp cComp
  rw [M.assoc]
  congr 1
  funext ds
  rw [M.assoc]
theorem comp_impF {own : List (Str × Nat)} (hix : ∀ i ∈ t.ix, i ∈ own.map (·.2)) {σ : St} {H : Hp} {Q : VK} (h : tF Γ W (cComp (own.map (·.2)) t fi ft fe) σ H Q) : tLc (iD Γ W fi) (gD Γ t) (tB Γ W0 ft) (tD Γ W0 fe) (own.map (·.2)) σ H Q := by
  obtain ⟨H0, A, B, P, R, δ, S, h⟩ := h
  refine ⟨H0, A, B, P, R, δ, S, Out.run_mono (run_bind.mp h) (fun ds R1 _ q J H1 m w => ?_) fun _ _ _ _ q => q⟩
  have S1 := S.move m
  obtain ⟨n, G, Y, w⟩ := w
  obtain ⟨ds2, el, q1⟩ := lift_bind q
  obtain ⟨rfl, hlen⟩ := lenOk_eq el
  have q2 := q1
  intro Da hD
  have nB : Da ∉ B := fun z => by
    obtain ⟨o, e, _⟩ := S1.al Da (S1.ba Da z)
    rw [hD] at e; cases e
  have nAP : Da ∉ A ++ P := all_out S1.all hD
  -- the invariant
  let Inv2 : Nat → Hp → Prop := fun i H' => ∃ R' accV acc, Ext Γ B H1 H' ∧ RowOk Γ H' R' ∧ rAddr R' = rAddr R1 ∧ H' Da = some (.lst accV) ∧ RepL Γ (hide (Da :: (A ++ P)) H') acc accV ∧ accV.length ≤ i ∧
    (compL t ft fe (blkD δ (own.map (·.2))) (ds2.drop i) R').run (fun ys R2 => ∀ p vs H2, Mv Γ B R R2 H H2 → H p = none → H2 p = some (.lst vs) → RepL Γ (hide (p :: (A ++ P)) H2) (acc ++ ys) vs → Q (.ref p) H2) fun _ _ _ => False
  have kp : ∀ {H'}, Ext Γ B H1 H' → Keeps Γ (hide (A ++ P) H1) (hide (Da :: (A ++ P)) H') := fun {H'} e => by
    have k1 : Keeps Γ (hide (A ++ P) H1) (hide (A ++ P) H') := e.keeps S1.bap
    have nn : ∀ {b o}, hide (A ++ P) H1 b = some o → b ∉ Da :: (A ++ P) := fun {b o} z y => by
      obtain ⟨n1, z⟩ := hide_some z
      rcases List.mem_cons.mp y with y | y
      · rw [y, hD] at z; cases z
      · exact n1 y
    have up : ∀ {b o}, b ∉ Da :: (A ++ P) → hide (A ++ P) H' b = some o → hide (Da :: (A ++ P)) H' b = some o := fun {b o} n1 z => by
      rw [hide_out n1]
      exact (hide_some z).2
    exact ⟨fun a xs z => up (nn z) (k1.lst a xs z), fun a xs z => up (nn z) (k1.tupp a xs z), fun a o xs z => up (nn z) (k1.frz a o xs z), fun a xs z => up (nn z) (k1.dic a xs z), fun a lo hi z => up (nn z) (k1.rng a lo hi z), fun a C dx fs z => up (nn z) (k1.ins a C dx fs z), fun b kvs z => by
      obtain ⟨kvs', e1⟩ := k1.ca b kvs z
      exact ⟨kvs', up (nn z) e1⟩, fun a φ n z => up (nn z) (k1.ext a φ n z)⟩
  have ext0 : Ext Γ B H1 (upd H1 Da (.lst [])) := .new hD
  refine lc_it w.w Inv2 ⟨R1, [], [], ext0, S1.row.new hD, rfl, upd_same, RepL_nil.mpr rfl, Nat.le_refl _, ?_⟩ ?_ ?_ ?_
  · rw [List.drop_zero]
    refine Out.run_mono q2 (fun ys R2 _ z p vs H2 mv hp hv r => ?_) fun c d R2 e _ => ?_
    · exact z p vs H2 mv hp hv (by simpa using r)
    · -- nothing leaves a comprehension
      exfalso
      have nox : ∀ (l : List D) (R : Option Rw) (c : String) (d : D) (R2 : Option Rw), compL t ft fe (blkD δ (own.map (·.2))) l R ≠ .exn c d R2 := by
        intro l
        induction l with
        | nil => intro R c d R2 z; simp [compL] at z
        | cons x l ih =>
          intro R c d R2 z
          simp only [compL] at z
          split at z
          · cases z
          · split at z
            · split at z
              · split at z <;> cases z
              · cases z
            · exact ih _ _ _ _ z
            · cases z
      exact nox _ _ _ _ _ e
  · rintro i H' hi ⟨R', accV, acc, e1, e2, e3, e4, e5, e6, e7⟩
    exact w.g0 _ _ (kp e1)
  · rintro i x H' H'' hi ⟨R', accV, acc, e1, e2, e3, e4, e5, e6, e7⟩ y
    have al' : All (Da :: (A ++ P)) H' := fun p hp => by
      rcases List.mem_cons.mp hp with z | z
      · exact ⟨_, by rw [z]; exact e4, nx_lst⟩
      · obtain ⟨o, z, n⟩ := S1.all p z
        obtain ⟨o', z', n'⟩ := e1.al p o z
        exact ⟨o', z', n' n⟩
    obtain ⟨d, d1, g1, r1⟩ := w.y _ _ (kp e1) al' i x H'' hi y
    have hi' : i < ds2.length := by rw [← w.len]; exact hi
    rw [List.drop_eq_getElem_cons hi'] at e7
    rw [List.getElem?_eq_getElem hi'] at d1
    rw [Option.some.inj d1] at e7
    have e1'' : Ext Γ B H1 H'' := e1.trans (.of g1.k)
    have Sb : RepS Γ H1 (Da :: (A ++ P)) B [] R' H'' (wipe σ (own.map (·.2))) (blkD δ (own.map (·.2))) := {
      row := e2.grow g1
      ra := fun a ha => List.mem_cons_of_mem _ (List.mem_append_left _ (S1.ra a (by rw [← e3]; exact ha)))
      ba := fun a ha => List.mem_cons_of_mem _ (S1.bap a ha)
      rb := fun a ha => S1.rb a (by rw [← e3]; exact ha)
      al := fun a ha => by
        obtain ⟨o, z, n⟩ := al' a ha
        exact ⟨o, g1 a o z, n⟩
      sc := S1.scr
      sb := S1.sb
      ext := e1''
      own := fun p hp => by cases hp
      nd := .nil
      slots := by
        rw [List.append_nil]
        exact (S1.slots.blk (own.map (·.2))).keep (kp e1'') fun p hp => by cases hp }
    simp only [compL] at e7
    cases qt : bindT t d (blkD δ (own.map (·.2))) with
    | none => simp only [qt] at e7; exact e7.elim
    | some δ1 =>
      simp only [qt] at e7
      refine ⟨H1, _, B, [], R', _, d, δ1, Sb, by rw [List.append_nil]; exact r1, qt, fun σ2 P2 sub w2 S2 => ⟨?_, ?_⟩⟩
      · have e := w2 (own.map (·.2)) hix
        rw [e]
        have idem : ∀ (vs us : List Nat), (∀ v ∈ vs, v ∈ us) → wipe (wipe σ us) vs = wipe σ us := by
          intro vs
          induction vs with
          | nil => intro us _; rfl
          | cons v vs ih =>
            intro us hv
            show (wipe (wipe σ us) vs).set v none = wipe σ us
            rw [ih us fun u hu => hv u (List.mem_cons_of_mem _ hu)]
            have hm := hv v List.mem_cons_self
            have at_ : ∀ (us : List Nat), v ∈ us → v < (wipe σ us).length → (wipe σ us)[v]? = some none := by
              intro us
              induction us with
              | nil => intro h; cases h
              | cons u us ih2 =>
                intro h hl
                show ((wipe σ us).set u none)[v]? = some none
                have hl2 : v < (wipe σ us).length := by
                  have : (wipe σ (u :: us)).length = (wipe σ us).length := by show ((wipe σ us).set u none).length = _; rw [List.length_set]
                  rw [← this]; exact hl
                by_cases q : u = v
                · rw [q, List.getElem?_set_self hl2]
                · rw [List.getElem?_set_ne q]
                  rcases List.mem_cons.mp h with z | z
                  · exact absurd z.symm q
                  · exact ih2 z hl2
            by_cases hl : v < (wipe σ us).length
            · have e1 := at_ us hm hl
              apply List.ext_getElem?
              intro j
              by_cases q : v = j
              · rw [← q, List.getElem?_set_self hl, e1]
              · rw [List.getElem?_set_ne q]
            · exact List.set_eq_of_length_le (by omega)
        exact idem _ _ fun _ h => h
      · have sub0 : P2 = [] := List.eq_nil_iff_forall_not_mem.mpr fun p hp => by cases sub p hp
        subst sub0
        refine ⟨H1, _, B, [], R', δ1, S2, ?_⟩
        cases qf : ft δ1 R' with
        | ok k R2 =>
          simp only [qf] at e7
          intro b H3 m3 rb
          have rb1 : k = b := rb
          subst rb1
          have S3 := S2.move m3
          cases k with
          | false =>
            rw [if_neg Bool.false_ne_true]
            simp only at e7
            exact ⟨R2, accV, acc, e1''.trans m3.ext, m3.row, m3.adr.trans e3, m3.ext.st _ _ nB (g1 _ _ e4) rfl, RepL.keep (by have z := S2.keeps m3; rw [List.append_nil] at z; exact z) _ (RepL.keep (Grow.keeps g1) _ e5), Nat.le_succ_of_le e6, e7⟩
          | true =>
            rw [if_pos rfl]
            simp only at e7
            refine ⟨H1, _, B, [], R2, δ1, S3, ?_⟩
            cases qe : fe δ1 R2 with
            | ok z R3 =>
              simp only [qe] at e7
              intro y4 H4 m4 r4
              have D4 : H4 Da = some (.lst accV) := m4.ext.st _ _ nB (m3.ext.st _ _ nB (g1 _ _ e4) rfl) rfl
              refine ⟨accV, D4, by omega, ?_⟩
              have nR : Da ∉ rAddr R3 := fun z => nB (S1.rb Da (by rw [← e3, ← m3.adr, ← m4.adr]; exact z))
              have hid : hide (Da :: (A ++ P)) (upd H4 Da (.lst (accV ++ [y4]))) = hide (Da :: (A ++ P)) H4 := hide_upd List.mem_cons_self
              have extU : Ext Γ B H1 (upd H4 Da (.lst (accV ++ [y4]))) := by
                have e4' := (e1''.trans m3.ext).trans m4.ext
                refine ⟨fun b o n e s => ?_, fun b φ n m e => ?_, fun b kvs n e => ?_, fun b o e => ?_⟩
                · rw [upd_ne (ne_of_none e hD)]; exact e4'.st b o n e s
                · rw [upd_ne (ne_of_none e hD)]; exact e4'.ex b φ n m e
                · rw [upd_ne (ne_of_none e hD)]; exact e4'.ca b kvs n e
                · rw [upd_ne (ne_of_none e hD)]; exact e4'.al b o e
              have accr : RepL Γ (hide (Da :: (A ++ P)) H4) acc accV := RepL.keep (by have z := S3.keeps m4; rw [List.append_nil] at z; exact z) _ (RepL.keep (by have z := S2.keeps m3; rw [List.append_nil] at z; exact z) _ (RepL.keep (Grow.keeps g1) _ e5))
              refine ⟨R3, accV ++ [y4], acc ++ [z], extU, m4.row.upd D4 nR (own_free S1.row hD), (m4.adr.trans m3.adr).trans e3, upd_same, by rw [hid]; exact accr.append (RepL.one (by rw [List.append_nil] at r4; exact r4)), by rw [List.length_append]; simp; omega, ?_⟩
              cases qc : compL t ft fe (blkD δ (own.map (·.2))) (ds2.drop (i + 1)) R3 with
              | ok ys R5 =>
                simp only [qc] at e7
                intro p vs H2 mv hp hv r
                exact e7 p vs H2 mv hp hv (by simpa using r)
              | exn c d R5 => simp only [qc] at e7; exact e7.elim
              | stuck => simp only [qc] at e7; exact e7.elim
            | exn c d R3 => simp only [qe] at e7; exact e7.elim
            | stuck => simp only [qe] at e7; exact e7.elim
        | exn c d R2 => simp only [qf] at e7; exact e7.elim
        | stuck => simp only [qf] at e7; exact e7.elim
  · rintro H' ⟨R', accV, acc, e1, e2, e3, e4, e5, e6, e7⟩
    have e : ds2.drop n = [] := by rw [w.len]; exact List.drop_length
    rw [e] at e7
    refine e7 Da accV H' ⟨m.ext.trans e1, e2, e3.trans m.adr⟩ (m.ext.free hD) e4 ?_
    rw [List.append_nil]
    exact e5
theorem comp_imp {own : List (Str × Nat)} (hix : ∀ i ∈ t.ix, i ∈ own.map (·.2)) {σ : St} {H : Hp} {Q : VK} (h : tD Γ W (dComp (own.map (·.2)) t fi ft fe) σ H Q) : tLc (iD Γ W fi) (gD Γ t) (tB Γ W0 ft) (tD Γ W0 fe) (own.map (·.2)) σ H Q := by
  refine comp_impF (W := W) hix ?_
  obtain ⟨H0, A, B, P, R, δ, S, h⟩ := h
  refine ⟨H0, A, B, P, R, δ, S, ?_⟩
  rw [dComp_eq] at h
  refine Out.run_mono (run_bind.mp h) (fun ds R1 _ q p vs H1 m hp hv r => ?_) fun c d R1 _ q => q
  exact q (.ref p) H1 m (Rep_lst.mpr ⟨p, vs, rfl, by rw [hide_out (all_out S.all hp)]; exact hv, RepL.keep (hide_keeps fun a ha => List.mem_cons_of_mem _ ha) _ r⟩)
section
variable {own : List (Str × Nat)} {scope : Scope} {elt : Expr} {ifs : List Expr}
theorem pd_lc (hc : X.calm = true) (hN : X.N.Nodup) (hi : PI X tg iter (iD Γ W fi)) (ok : BlkOk X.N X.env.scope scope own) (hix : ∀ i ∈ t.ix, i ∈ own.map (·.2))
    (hg : ∀ (s : Shared) (H : Hp) (C : Addr) (cl : List (Str × Addr)) (fp : List Addr), PG (X.blk s H scope (compEnvC scope cl C X.env) fp) tg (gD Γ t)) (ht : ∀ (s : Shared) (H : Hp) (C : Addr) (cl : List (Str × Addr)) (fp : List Addr), PTs (X.blk s H scope (compEnvC scope cl C X.env) fp) ifs (tB Γ W0 ft))
    (he : ∀ (s : Shared) (H : Hp) (C : Addr) (cl : List (Str × Addr)) (fp : List Addr), PE (X.blk s H scope (compEnvC scope cl C X.env) fp) elt (tD Γ W0 fe)) (hs : ∀ x, foldedSetIterable iter X.env x = pure x := by intro _; rfl) :
    PE X (.ListComp elt [⟨tg, iter, ifs, 0⟩] scope pos) (tD Γ W (dComp (own.map (·.2)) t fi ft fe)) := (pe_lc hc hN hi ok hg ht he hs).imp fun _ _ _ h => comp_imp hix h
theorem pf_lc (hc : X.calm = true) (hN : X.N.Nodup) (hi : PI X tg iter (iD Γ W fi)) (ok : BlkOk X.N X.env.scope scope own) (hix : ∀ i ∈ t.ix, i ∈ own.map (·.2))
    (hg : ∀ (s : Shared) (H : Hp) (C : Addr) (cl : List (Str × Addr)) (fp : List Addr), PG (X.blk s H scope (compEnvC scope cl C X.env) fp) tg (gD Γ t)) (ht : ∀ (s : Shared) (H : Hp) (C : Addr) (cl : List (Str × Addr)) (fp : List Addr), PTs (X.blk s H scope (compEnvC scope cl C X.env) fp) ifs (tB Γ W0 ft))
    (he : ∀ (s : Shared) (H : Hp) (C : Addr) (cl : List (Str × Addr)) (fp : List Addr), PE (X.blk s H scope (compEnvC scope cl C X.env) fp) elt (tD Γ W0 fe)) (hs : ∀ x, foldedSetIterable iter X.env x = pure x := by intro _; rfl) :
    PE X (.ListComp elt [⟨tg, iter, ifs, 0⟩] scope pos) (tF Γ W (cComp (own.map (·.2)) t fi ft fe)) := (pe_lc hc hN hi ok hg ht he hs).imp fun _ _ _ h => comp_impF hix h
theorem ds_setLc {i : Nat} {y : Str} {py spos : Pos} (hc : X.calm = true) (hN : X.N.Nodup) (hy : X.N[i]? = some y) (hyl : X.env.scope.names.lookup y = some .local)
    (hsw : swapsWith (.ListComp elt [⟨tg, iter, ifs, 0⟩] scope pos) (some (.Name y py)) spos.line X.env = pure true) (hi : PI X tg iter (iD Γ W fi)) (ok : BlkOk X.N X.env.scope scope own) (hix : ∀ i ∈ t.ix, i ∈ own.map (·.2))
    (hg : ∀ (s : Shared) (H : Hp) (C : Addr) (cl : List (Str × Addr)) (fp : List Addr), PG (X.blk s H scope (compEnvC scope cl C X.env) fp) tg (gD Γ t)) (ht : ∀ (s : Shared) (H : Hp) (C : Addr) (cl : List (Str × Addr)) (fp : List Addr), PTs (X.blk s H scope (compEnvC scope cl C X.env) fp) ifs (tB Γ W0 ft))
    (he : ∀ (s : Shared) (H : Hp) (C : Addr) (cl : List (Str × Addr)) (fp : List Addr), PE (X.blk s H scope (compEnvC scope cl C X.env) fp) elt (tD Γ W0 fe)) (hs : ∀ x, foldedSetIterable iter X.env x = pure x := by intro _; rfl) :
    PS X (.Assign [.Name y py] (.ListComp elt [⟨tg, iter, ifs, 0⟩] scope pos) spos) (tS Γ W (sSet i (dComp (own.map (·.2)) t fi ft fe))) := (ps_setLc hc hN hy hyl hsw hi ok hg ht he hs).imp fun Dn σ H h => by
  obtain ⟨H0, A, B, P, R, δ, S, h⟩ := h
  show tLc _ _ _ _ _ σ H (fun x H1 => gName i x σ H1 Dn.nx)
  refine comp_imp (W := W) hix ⟨H0, A, B, P, R, δ, S, sgo S h fun x vx R1 H1 m r S1 h1 => ?_⟩
  obtain ⟨P', S', sub⟩ := S1.set r i
  exact nx_out h1 sub S'
end
end
end DL

set_option Elab.async false
set_option linter.all false
set_option maxRecDepth 100000
namespace DL
open PySem PySem.Spec L2
/-! ### what a def promises -/
def spD (Γ : Ctx) (n : Nat) (F : List D → M D) : Sp := fun vs H Q E => ∃ ds R A, RepL Γ (hide A H) ds vs ∧ ds.length = n ∧ RowOk Γ H R ∧ (∀ a ∈ rAddr R, a ∈ A) ∧ All A H ∧ SqL Γ.K H Γ.scr (Γ.cells.map V.int) ∧ (Γ.scr ∈ rAddr R → ScrK Γ) ∧
  (F ds R).run (fun d R' => ∀ v H', Mv Γ (rAddr R) R R' H H' → Rep Γ (hide A H') d v → Q v H')
    (fun c d R' => ∀ v dx H', Mv Γ (rAddr R) R R' H H' → H' dx = some (.xd [(("value" : Str), v)]) → Rep Γ (hide A H') d v → E (.ref (Γ.cls c)) (some dx) H')
/-- a def of the module that can be called by its name -/
structure Cal (P : Program) (w : World) (K : PySem.W.Frag) (mg : Str → Option Value) (base : Heap) (Γ : Ctx) (k : Nat) (x : Str) (n : Nat) (F : List D → M D) : Prop where
  ex : ∃ (f : Addr) (fd : FuncData) (ps : List Str), FnOk P w K mg base (L2.CX P w) k f fd ps (spD Γ n F) ∧ mg x = some (.ref f) ∧ PySem.W.keepIn K (.ref f) = true ∧ L2.Binds K fd ps []
def dFn (n : Nat) (F : List D → M D) (fs : SEnv → M (List D)) : SEnv → M D := fun δ => fs δ >>= fun ds => if ds.length = n then F ds else M.stuck
section
variable {Γ : Ctx} {W : WX} {X : Cx} {e : Expr} {es : List Expr} {fs : SEnv → M (List D)} {pos p : Pos} {k n : Nat} {x : Str} {F : List D → M D}
theorem fn_imp {fs : SEnv → M (List D)} {σ : St} {H : Hp} {Q : VK} (h : tD Γ W (dFn n F fs) σ H Q) : tL Γ W fs σ H fun vs H1 => spD Γ n F vs H1 Q (WE W σ) := by
  obtain ⟨H0, A, B, P, R, δ, S, h⟩ := h
  refine ⟨H0, A, B, P, R, δ, S, go S h fun ds vs R1 H1 m1 r1 S1 h1 => ?_⟩
  split at h1
  · rename_i hn
    refine ⟨ds, R1, A ++ P, r1, hn, S1.row, fun a ha => List.mem_append_left _ (S1.ra a ha), S1.all, S1.scr, fun z => S1.sb (S1.rb _ z), ?_⟩
    have up : ∀ {R2 H2}, Mv Γ (rAddr R1) R1 R2 H1 H2 → Mv Γ B R1 R2 H1 H2 := fun m => ⟨m.ext.mono S1.rb, m.row, m.adr⟩
    exact Out.run_mono h1 (fun d R2 _ q v H2 m2 r2 => q v H2 (up m2) r2) fun c d R2 _ q v dx H2 m2 hx r2 => q v dx H2 (up m2) hx r2
  · exact h1.elim
theorem pd_call (C : Cal X.prog X.w X.K X.mg X.base Γ k x n F) (hr : Room k X.A) (tk : Takes X W) (ha : PA X (e :: es) (tL Γ W fs)) (hg : Gl X x := by rfl)
    (hdb : (x == ("__debug__" : Str)) = false := by decide) (he : starEach (e :: es) X.env = (false, eval e X.env) :: starEach es X.env := by rfl) (hpl : (backTo pos (starEach es X.env)).any (·.1) = false := by rfl) :
    PE X (.Call (.Name x p) (e :: es) [] pos) (tD Γ W (dFn n F fs)) := by
  obtain ⟨f, fd, ps, ok, gx, kp, b⟩ := C.ex
  exact (pe_callS ok hr hg gx kp b (fun σ => passAt tk σ) ha hdb he hpl).imp fun _ _ _ h => fn_imp h
end
def fin : SOut → Out D
  | .nx _ R => .ok .non R
  | .rt d R => .ok d R
  | .ex c d R => .exn c d R
  | _ => .stuck
def startD (N : List Str) (ds : List D) : SEnv := ds.map SD.dat ++ List.replicate (N.length - ds.length) SD.none
theorem slots_start {Γ : Ctx} {Hh H : Hp} {N : List Str} : ∀ {ds : List D} {vs : List V}, RepL Γ Hh ds vs → ∀ m, SlotsR Γ Hh H (vs.map some ++ List.replicate m none) (ds.map SD.dat ++ List.replicate m SD.none) []
  | [], vs, h, m => by
    rw [RepL_nil] at h
    subst h
    induction m with
    | zero => exact .nil
    | succ m ih => exact .none ih
  | d :: ds, vs, h, m => by
    rw [RepL_cons] at h
    obtain ⟨v, ws, rfl, h1, h2⟩ := h
    exact .dat h1 (slots_start (N := N) h2 m)
section
variable {Γ : Ctx} {P : Program} {w : World} {K : PySem.W.Frag} {mg : Str → Option Value} {base : Heap}
abbrev WD (E : XK) : WX := fun cls d _ H => E cls d H
/-- a def's promise holds by its body's reading -/
theorem sp_imp {N : List Str} {n : Nat} {F : List D → M D} {sem : SM} (hF : ∀ ds R, ds.length = n → F ds R ≠ .stuck → fin (sem (startD N ds) R) = F ds R) {vs : List V} {H : Hp} {Q : VK} {E : XK} (h : spD Γ n F vs H Q E) :
    tS Γ (WD E) sem { nx := fun _ H' => Q .non H', rt := Q } (L2.start N vs) H := by
  obtain ⟨ds, R, A, r, hn, row, ra, al, sc, sb, h⟩ := h
  have hl := r.length
  have S : RepS Γ H A (rAddr R) [] R H (L2.start N vs) (startD N ds) := {
    row := row
    ra := ra
    ba := ra
    rb := fun _ h => h
    al := al
    sc := sc
    sb := sb
    ext := .refl
    own := fun p hp => by cases hp
    nd := .nil
    slots := by
      rw [List.append_nil]
      unfold L2.start startD
      rw [hl]
      exact slots_start (N := N) r _ }
  refine ⟨H, A, rAddr R, [], R, _, S, ?_⟩
  have ns : F ds R ≠ .stuck := fun z => by rw [z] at h; exact h
  have e := hF ds R hn ns
  cases q : sem (startD N ds) R with
  | nx δ' R' =>
    rw [q] at e
    rw [← e] at h
    intro σ' H' P' s S'
    exact h .non H' ⟨S'.ext, S'.row, s.adr⟩ Rep.of_non
  | rt d R' =>
    rw [q] at e
    rw [← e] at h
    exact fun v H' m r => h v H' m r
  | ex c d R' =>
    rw [q] at e
    rw [← e] at h
    exact fun v dx σ' H' m hx r => h v dx H' m hx r
  | bk δ' R' => rw [q] at e; exact absurd e.symm ns
  | ct δ' R' => rw [q] at e; exact absurd e.symm ns
  | stuck => rw [q] at e; exact absurd e.symm ns
theorem cal_mk {x : Str} {params : Arguments} {body : List Stmt} {scope : Scope} {f : Addr} {fd : FuncData} {N ps : List Str} {k : Nat} {F : List D → M D} (FD : FunD K x x params body scope [] [] f fd) (gx : mg x = some (.ref f)) (S : FnScope N ps scope) (hb : L2.Binds K fd ps [])
    (hbody : ∀ (cdv : Value) (A : Around) (outer : List Env) (s : Shared) (H : Hp) (E : XK), Room k (A.deeper (PyProof.Rows.envOfC x scope s.heap.objs.size f cdv)) →
      ∃ sem, PSs (cxOf (L2.CX P w) P w K mg base N x scope f cdv A outer s H E) body (tS Γ (WD E) sem) ∧ ∀ ds R, ds.length = ps.length → F ds R ≠ .stuck → fin (sem (startD N ds) R) = F ds R) : Cal P w K mg base Γ (k + 1) x ps.length F := by
  refine ⟨f, fd, ps, FD.ok S (fun vs H Q E h => ?_) (fun cdv A outer s H vs Q E hr h => ?_), gx, FD.kp, hb⟩
  · obtain ⟨ds, R, A, r, hn, _⟩ := h
    rw [r.length, hn]
  · obtain ⟨sem, h1, h2⟩ := hbody cdv A outer s H E hr
    exact ⟨_, h1, sp_imp h2 h⟩
theorem Cal.mono {j k n : Nat} {x : Str} {F : List D → M D} (C : Cal P w K mg base Γ j x n F) (h : j ≤ k) : Cal P w K mg base Γ k x n F := by
  obtain ⟨f, fd, ps, ok, gx, kp, b⟩ := C.ex
  exact ⟨f, fd, ps, ok.mono h, gx, kp, b⟩
/-- a smaller promise -/
theorem Cal.imp {k n : Nat} {x : Str} {F G : List D → M D} (C : Cal P w K mg base Γ k x n F) (h : ∀ ds R, ds.length = n → G ds R ≠ .stuck → F ds R = G ds R) : Cal P w K mg base Γ k x n G := by
  obtain ⟨f, fd, ps, ok, gx, kp, b⟩ := C.ex
  refine ⟨f, fd, ps, ok.imp fun vs H Q E q => ?_, gx, kp, b⟩
  obtain ⟨ds, R, A, r, hn, row, ra, al, sc, sb, h'⟩ := q
  refine ⟨ds, R, A, r, hn, row, ra, al, sc, sb, ?_⟩
  rw [h ds R hn (fun z => by rw [z] at h'; exact h')]
  exact h'
end
/-! ### errors -/
/-- the maker of all errors: BoxError.__init__(self, value=None) -/
def spBox (K : PySem.W.Frag) : Sp := fun vs H Q _ => ∃ (a C : Addr) (v : V), vs = [.ref a, v] ∧ OexC K C ∧ PySem.W.findIn K (.ref C) "value" = some none ∧ H a = some (exo a C none) ∧
  ∀ dx, H dx = none → dx ≠ a → Q .non (upd (upd H dx (exd dx [(("value" : Str), v)])) a (exo a C (some dx)))
structure BoxI (P : Program) (w : World) (K : PySem.W.Frag) (mg : Str → Option Value) (base : Heap) (k : Nat) (fI : Addr) : Prop where
  ex : ∃ (fd : FuncData) (ps : List Str), FnOk P w K mg base (L2.CX P w) k fI fd ps (spBox K) ∧ L2.Binds K fd ps [] ∧ PySem.W.typeIn K (.ref fI) = some (.type "function")
/-- an error class C of the module, its maker at fI -/
structure ExcF (K : PySem.W.Frag) (mg : Str → Option Value) (Γ : Ctx) (fI : Addr) (c : String) : Prop where
  oex : OexC K (Γ.cls c)
  ini : PySem.W.findIn K (.ref (Γ.cls c)) "__init__" = some (some (.ref fI))
  mgC : mg (Str.ofString c) = some (.ref (Γ.cls c))
  noV : PySem.W.findIn K (.ref (Γ.cls c)) "value" = some none
  xf : XfC K (Γ.cls c)
def sRaise (c : String) (fe : SEnv → M D) : SM := sBind fe fun d _ R => .ex c d R
theorem ds_raise {Γ : Ctx} {W : WX} {X : Cx} {k : Nat} {fI : Addr} {c : String} {e : Expr} {fe : SEnv → M D} {p pos pos2 : Pos} (Bx : BoxI X.prog X.w X.K X.mg X.base k fI) (T : ExcF X.K X.mg Γ fI c) (hr : Room (k + 1) X.A) (tk : Takes X W) (ha : PE X e (tD Γ W fe)) (hc : X.calm = true := by rfl)
    (hg : Gl X (Str.ofString c) := by rfl) (hdb : (Str.ofString c == ("__debug__" : Str)) = false := by decide) (he : starEach (e :: []) X.env = (false, eval e X.env) :: starEach [] X.env := by rfl) (hpl : (backTo pos (starEach [] X.env)).any (·.1) = false := by rfl) :
    PS X (.Raise (some (.Call (.Name (Str.ofString c) p) [e] [] pos)) none pos2) (tS Γ W (sRaise c fe)) := by
  obtain ⟨fd, ps, ok, hb, tI⟩ := Bx.ex
  refine (ps_raise hc tk (pmk_oex T.oex T.ini tI ok hr hb .nil (passL) hg T.mgC (pa_cons ha pa_nil he) hdb he hpl)).imp fun Dn σ H h => ?_
  obtain ⟨H0, A, B, P, R, δ, S, h⟩ := h
  refine ⟨H0, A, B, P, R, δ, S, sgo S h fun x vx R1 H1 m r S1 h1 => ?_⟩
  refine ⟨by simp, fun a ha => ⟨a, Γ.cls c, vx, rfl, T.oex, T.noV, upd_same, fun dx hdx ne => ⟨rfl, dx, [(("value" : Str), vx)], upd_same, ?_, ?_, ?_⟩⟩⟩
  · rw [upd_ne ne, upd_same]
  · rw [upd_ne ne] at hdx
    exact hdx
  · have hdx1 : H1 dx = none := by
      rw [upd_ne ne] at hdx
      exact hdx
    have gr : Grow Γ H1 (upd (del (upd (upd (upd H1 a (exo a (Γ.cls c) none)) dx (exd dx [(("value" : Str), vx)])) a (exo a (Γ.cls c) (some dx))) a) dx (.xd [(("value" : Str), vx)])) := ⟨fun b o q => by
      have n1 : b ≠ dx := ne_of_none q hdx1
      have n2 : b ≠ a := ne_of_none q ha
      rw [upd_ne n1, del_ne n2, upd_ne n2, upd_ne n1, upd_ne n2]
      exact q, fun b dx' fs q => by
      by_cases z1 : b = dx
      · rw [z1, upd_same] at q; cases q
      · rw [upd_ne z1] at q
        by_cases z2 : b = a
        · rw [z2] at q
          unfold del at q
          rw [if_pos rfl] at q
          cases q
        · rw [del_ne z2, upd_ne z2, upd_ne z1, upd_ne z2] at q
          exact q⟩
    refine h1 vx dx σ _ ⟨S1.ext.trans (.of gr.k), S1.row.grow gr, rfl⟩ upd_same ?_
    exact Rep.keep (Grow.keeps gr) _ (Rep.keep (hide_keeps fun a ha => List.mem_append_left _ ha) _ r)
end DL

set_option Elab.async false
set_option linter.all false
set_option maxRecDepth 100000
namespace DL
open PySem PySem.Spec L2
/-! ### numbers -/
def liftI (g : Int → Int → Int) : D → D → Option D
  | .int i, .int j => some (.int (g i j))
  | _, _ => none
def liftB (g : Int → Int → Bool) : D → D → Option D
  | .int i, .int j => some (.bl (g i j))
  | _, _ => none
def liftC (C : Int → Int → Prop) [∀ i j, Decidable (C i j)] (g : Int → Int → Int) : D → D → Option D
  | .int i, .int j => if C i j then some (.int (g i j)) else none
  | _, _ => none
theorem od_I0 {Γ : Ctx} (g : Int → Int → Int) : OpD Γ (rI0 fun i j => .int (g i j)) (liftI g) := fun A H x y a b d Q al ra rb e q => by
  cases a <;> cases b <;> simp only [liftI] at e <;> try (cases e)
  exact ⟨_, _, ra.int_eq, rb.int_eq, q _ H .refl Rep.of_int⟩
theorem od_B0 {Γ : Ctx} (g : Int → Int → Bool) : OpD Γ (rI0 fun i j => .bl (g i j)) (liftB g) := fun A H x y a b d Q al ra rb e q => by
  cases a <;> cases b <;> simp only [liftB] at e <;> try (cases e)
  exact ⟨_, _, ra.int_eq, rb.int_eq, q _ H .refl Rep.of_bl⟩
theorem od_I {Γ : Ctx} (C : Int → Int → Prop) [∀ i j, Decidable (C i j)] (g : Int → Int → Int) : OpD Γ (rI C fun i j => .int (g i j)) (liftC C g) := fun A H x y a b d Q al ra rb e q => by
  cases a <;> cases b <;> simp only [liftC] at e <;> try (cases e)
  split at e
  · cases e
    exact ⟨_, _, ra.int_eq, rb.int_eq, by assumption, q _ H .refl Rep.of_int⟩
  · cases e
instance (i j : Int) : Decidable (CDiv i j) := by unfold CDiv; infer_instance
instance (i j : Int) : Decidable (CPow i j) := by unfold CPow; infer_instance
instance (i j : Int) : Decidable (CMul i j) := by unfold CMul; infer_instance
abbrev oAdd : D → D → Option D := liftI fun i j => i + j
abbrev oSub : D → D → Option D := liftI fun i j => i - j
abbrev oMul : D → D → Option D := liftC CMul fun i j => i * j
abbrev oDiv : D → D → Option D := liftC CDiv fun i j => i / j
abbrev oMod : D → D → Option D := liftC (fun _ j => 0 < j) fun i j => i % j
abbrev oPow : D → D → Option D := liftC CPow fun i j => i ^ j.toNat
abbrev oShl : D → D → Option D := liftC CPow fun i j => i * 2 ^ j.toNat
abbrev oShr : D → D → Option D := liftC (fun _ j => 0 ≤ j) fun i j => i / 2 ^ j.toNat
abbrev oLt : D → D → Option D := liftB fun i j => decide (i < j)
abbrev oLe : D → D → Option D := liftB fun i j => decide (i ≤ j)
abbrev oGt : D → D → Option D := liftB fun i j => decide (j < i)
abbrev oGe : D → D → Option D := liftB fun i j => decide (j ≤ i)
theorem od_add {Γ : Ctx} : OpD Γ (rI0 fun i j => .int (i + j)) oAdd := od_I0 _
theorem od_sub {Γ : Ctx} : OpD Γ (rI0 fun i j => .int (i - j)) oSub := od_I0 _
theorem od_mul {Γ : Ctx} : OpD Γ (rI CMul fun i j => .int (i * j)) oMul := od_I _ _
theorem od_div {Γ : Ctx} : OpD Γ (rI CDiv fun i j => .int (i / j)) oDiv := od_I _ _
theorem od_mod {Γ : Ctx} : OpD Γ (rI (fun _ j => 0 < j) fun i j => .int (i % j)) oMod := od_I _ _
theorem od_pow {Γ : Ctx} : OpD Γ (rI CPow fun i j => .int (i ^ j.toNat)) oPow := od_I _ _
theorem od_shl {Γ : Ctx} : OpD Γ (rI CPow fun i j => .int (i * 2 ^ j.toNat)) oShl := od_I _ _
theorem od_shr {Γ : Ctx} : OpD Γ (rI (fun _ j => 0 ≤ j) fun i j => .int (i / 2 ^ j.toNat)) oShr := od_I _ _
theorem od_lt {Γ : Ctx} : OpD Γ (rI0 fun i j => .bl (decide (i < j))) oLt := od_B0 _
theorem od_le {Γ : Ctx} : OpD Γ (rI0 fun i j => .bl (decide (i ≤ j))) oLe := od_B0 _
theorem od_gt {Γ : Ctx} : OpD Γ (rI0 fun i j => .bl (decide (j < i))) oGt := od_B0 _
theorem od_ge {Γ : Ctx} : OpD Γ (rI0 fun i j => .bl (decide (j ≤ i))) oGe := od_B0 _
def oNeg : D → Option D
  | .int i => some (.int (-i))
  | _ => none
theorem ud_neg {Γ : Ctx} : UnD Γ (rU fun i => .int (-i)) oNeg := fun A H x a d Q al ra e q => by
  cases a <;> simp only [oNeg] at e <;> try (cases e)
  exact ⟨_, ra.int_eq, q _ H .refl Rep.of_int⟩
/-! ### is -/
def oIsN : D → D → Option D
  | .non, .non => some (.bl true)
  | .bl _, .non | .int _, .non | .str _, .non | .lst _, .non | .tup _, .non | .dic, .non | .web _ _, .non => some (.bl false)
  | _, _ => none
def oNotN : D → D → Option D
  | .non, .non => some (.bl false)
  | .bl _, .non | .int _, .non | .str _, .non | .lst _, .non | .tup _, .non | .dic, .non | .web _ _, .non => some (.bl true)
  | _, _ => none
theorem isN_of {Γ : Ctx} {H : Hp} {a : D} {x : V} {k : D} (ra : Rep Γ H a x) (e : oIsN a .non = some k) : k = .bl (decide (x = .non)) := by
  cases a <;> simp only [oIsN, Option.some.injEq] at e <;> try (cases e)
  · rw [ra.non_eq]; rfl
  · rw [ra.bl_eq]; rfl
  · rw [ra.int_eq]; rfl
  · rw [ra.str_eq]; rfl
  · rw [Rep_lst] at ra; obtain ⟨_, _, rfl, _⟩ := ra; rfl
  · rw [Rep_tup] at ra; obtain ⟨_, _, rfl, _⟩ := ra; rfl
  · rw [Rep] at ra; obtain ⟨_, rfl, _⟩ := ra; rfl
  · rw [Rep] at ra; obtain ⟨_, _, _, _, _, _, rfl, _⟩ := ra; rfl
theorem od_isN {Γ : Ctx} : OpD Γ (fun x y H Q => y = .non ∧ Q (.bl (decide (x = .non))) H) oIsN := fun A H x y a b d Q al ra rb e q => by
  have hb : b = .non := by cases a <;> cases b <;> simp [oIsN] at e <;> rfl
  subst hb
  have := isN_of ra e
  subst this
  exact ⟨rb.non_eq, q _ H .refl Rep.of_bl⟩
theorem od_notN {Γ : Ctx} : OpD Γ (fun x y H Q => y = .non ∧ Q (.bl (!decide (x = .non))) H) oNotN := fun A H x y a b d Q al ra rb e q => by
  have hb : b = .non := by cases a <;> cases b <;> simp [oNotN] at e <;> rfl
  subst hb
  have e2 : ∃ k, oIsN a .non = some (.bl k) ∧ d = .bl (!k) := by
    cases a <;> simp only [oNotN, Option.some.injEq] at e <;> try (cases e)
    all_goals first
      | exact ⟨true, rfl, rfl⟩
      | exact ⟨false, rfl, rfl⟩
  obtain ⟨k, e3, rfl⟩ := e2
  have := isN_of ra e3
  injection this with this
  subst this
  exact ⟨rb.non_eq, q _ H .refl Rep.of_bl⟩
def oIsB : D → D → Option D
  | .bl a, .bl b => some (.bl (decide (a = b)))
  | _, _ => none
def oNotB : D → D → Option D
  | .bl a, .bl b => some (.bl (!decide (a = b)))
  | _, _ => none
theorem od_isB {Γ : Ctx} : OpD Γ rIsB oIsB := fun A H x y a b d Q al ra rb e q => by
  cases a <;> cases b <;> simp only [oIsB] at e <;> try (cases e)
  exact ⟨_, _, ra.bl_eq, rb.bl_eq, q _ H .refl Rep.of_bl⟩
theorem od_notB {Γ : Ctx} : OpD Γ rNotB oNotB := fun A H x y a b d Q al ra rb e q => by
  cases a <;> cases b <;> simp only [oNotB] at e <;> try (cases e)
  exact ⟨_, _, ra.bl_eq, rb.bl_eq, q _ H .refl Rep.of_bl⟩
/-! ### == -/
mutual
def isPd : D → Bool
  | .non | .bl _ | .int _ | .str _ => true
  | .lst ds | .tup ds => isPds ds
  | .dic | .rng _ _ | .dct _ _ _ | .web _ _ | .row _ | .fn _ => false
def isPds : List D → Bool
  | [] => true
  | d :: ds => isPd d && isPds ds
end
mutual
def toPy : D → PyData
  | .bl b => .bool b
  | .int i => .int i
  | .str x => .str x
  | .lst ds => .list (toPys ds)
  | .tup ds => .tuple (toPys ds)
  | .dic => .dict []
  | .non | .rng _ _ | .dct _ _ _ | .web _ _ | .row _ | .fn _ => .none
def toPys : List D → List PyData
  | [] => []
  | d :: ds => toPy d :: toPys ds
end
mutual
theorem Rep.dp {Γ : Ctx} {K : PySem.W.Frag} {A : List Addr} {H : Hp} : ∀ (d : D) {v : V}, Rep Γ (hide A H) d v → isPd d = true → Dp K H v (toPy d)
  | .non, v, r, _ => by rw [r.non_eq, toPy]; exact .non
  | .bl b, v, r, _ => by rw [r.bl_eq, toPy]; exact .bl b
  | .int i, v, r, _ => by rw [r.int_eq, toPy]; exact .int i
  | .str x, v, r, _ => by rw [r.str_eq, toPy]; exact .str x
  | .lst ds, v, r, h => by
    obtain ⟨a, xs, rfl, h1, h2, _⟩ := r.lst_at
    rw [toPy]
    exact .lst (SqL.of h1) (RepL.dp ds h2 (by rw [isPd] at h; exact h))
  | .tup ds, v, r, h => by
    obtain ⟨a, xs, rfl, h1, h2, _⟩ := r.tup_at
    rw [toPy]
    exact .tup (h1.sq) (RepL.dp ds h2 (by rw [isPd] at h; exact h))
  | .dic, v, r, h => by rw [isPd] at h; cases h
  | .rng _ _, v, r, h => by rw [isPd] at h; cases h
  | .dct _ _ _, v, r, h => by rw [isPd] at h; cases h
  | .web _ _, v, r, h => by rw [isPd] at h; cases h
  | .row _, v, r, h => by rw [isPd] at h; cases h
  | .fn _, v, r, h => by rw [isPd] at h; cases h
theorem RepL.dp {Γ : Ctx} {K : PySem.W.Frag} {A : List Addr} {H : Hp} : ∀ (ds : List D) {vs : List V}, RepL Γ (hide A H) ds vs → isPds ds = true → DpAll K H vs (toPys ds)
  | [], vs, r, _ => by rw [RepL_nil] at r; rw [r, toPys]; exact .nil
  | d :: ds, vs, r, h => by
    rw [RepL_cons] at r
    obtain ⟨v, ws, rfl, h1, h2⟩ := r
    rw [isPds, Bool.and_eq_true] at h
    rw [toPys]
    exact .cons (Rep.dp d h1 h.1) (RepL.dp ds h2 h.2)
end
def okEq (d : D) : Bool := isPd d && SeqAt.shaped (toPy d)
def oEq (a b : D) : Option D := if okEq a && okEq b then some (.bl (PyData.eqv (toPy a) (toPy b))) else none
def oNe (a b : D) : Option D := if okEq a && okEq b then some (.bl (!PyData.eqv (toPy a) (toPy b))) else none
theorem od_eq {Γ : Ctx} {K : PySem.W.Frag} : OpD Γ (rEqD K) oEq := fun A H x y a b d Q al ra rb e q => by
  unfold oEq okEq at e
  split at e
  · rename_i h
    simp only [Bool.and_eq_true] at h
    cases e
    exact ⟨_, _, Rep.dp a ra h.1.1, Rep.dp b rb h.2.1, h.1.2, h.2.2, q _ H .refl Rep.of_bl⟩
  · cases e
theorem od_ne {Γ : Ctx} {K : PySem.W.Frag} : OpD Γ (rNeD K) oNe := fun A H x y a b d Q al ra rb e q => by
  unfold oNe okEq at e
  split at e
  · rename_i h
    simp only [Bool.and_eq_true] at h
    cases e
    exact ⟨_, _, Rep.dp a ra h.1.1, Rep.dp b rb h.2.1, h.1.2, h.2.2, q _ H .refl Rep.of_bl⟩
  · cases e
/-! ### in: flat items -/
def flatD : D → Bool
  | .non | .bl _ | .int _ | .str _ => true
  | _ => false
def eqF : D → D → Bool
  | .non, .non => true
  | .bl a, .bl b => a == b
  | .bl a, .int b => (if a then 1 else 0) == b
  | .int a, .bl b => a == (if b then 1 else 0)
  | .int a, .int b => a == b
  | .str a, .str b => a == b
  | _, _ => false
def vOf : D → V
  | .bl b => .bl b
  | .int i => .int i
  | .str x => .str x
  | _ => .non
theorem vOf_eq {Γ : Ctx} {H : Hp} {d : D} {v : V} (f : flatD d = true) (r : Rep Γ H d v) : v = vOf d := by
  cases d <;> simp [flatD] at f
  · exact r.non_eq
  · exact r.bl_eq
  · exact r.int_eq
  · exact r.str_eq
theorem flatV_of {d : D} (f : flatD d = true) : flatV (vOf d) = true := by cases d <;> simp [flatD] at f <;> rfl
theorem eqV_of {d e : D} (f : flatD d = true) (g : flatD e = true) : eqV (vOf d) (vOf e) = eqF d e := by cases d <;> simp [flatD] at f <;> cases e <;> simp [flatD] at g <;> rfl
theorem flats_of {Γ : Ctx} {H : Hp} : ∀ {ds : List D} {xs : List V}, RepL Γ H ds xs → ds.all flatD = true → xs = ds.map vOf
  | [], xs, r, _ => by rw [RepL_nil] at r; rw [r]; rfl
  | d :: ds, xs, r, f => by
    rw [RepL_cons] at r
    obtain ⟨v, ws, rfl, h1, h2⟩ := r
    rw [List.all_cons, Bool.and_eq_true] at f
    rw [List.map_cons, vOf_eq f.1 h1, flats_of h2 f.2]
def inF (x : D) (ds : List D) : Bool := ds.any fun y => eqF y x
theorem inV_of {x : D} (f : flatD x = true) : ∀ {ds : List D}, ds.all flatD = true → inV (vOf x) (ds.map vOf) = inF x ds
  | [], _ => rfl
  | d :: ds, g => by
    rw [List.all_cons, Bool.and_eq_true] at g
    show (eqV (vOf d) (vOf x) || inV (vOf x) (ds.map vOf)) = (eqF d x || inF x ds)
    rw [eqV_of g.1 f, inV_of f g.2]
def oIn : D → D → Option D
  | x, .lst ds => if flatD x && ds.all flatD then some (.bl (inF x ds)) else none
  | x, .tup ds => if flatD x && ds.all flatD then some (.bl (inF x ds)) else none
  | _, _ => none
def oNotIn : D → D → Option D
  | x, .lst ds => if flatD x && ds.all flatD then some (.bl (!inF x ds)) else none
  | x, .tup ds => if flatD x && ds.all flatD then some (.bl (!inF x ds)) else none
  | _, _ => none
theorem all_flatV : ∀ {ds : List D}, ds.all flatD = true → (ds.map vOf).all flatV = true
  | [], _ => rfl
  | d :: ds, g => by
    rw [List.all_cons, Bool.and_eq_true] at g
    rw [List.map_cons, List.all_cons, flatV_of g.1, all_flatV g.2] <;> rfl
theorem od_in {Γ : Ctx} {K : PySem.W.Frag} : OpD Γ (rIn K false) oIn := fun A H x y a b d Q al ra rb e q => by
  cases b <;> simp only [oIn] at e <;> try (cases e)
  · rename_i ds
    split at e
    · rename_i h
      simp only [Bool.and_eq_true] at h
      cases e
      obtain ⟨p, xs, rfl, h1, h2, _⟩ := rb.lst_at
      have ex := flats_of h2 h.2
      subst ex
      have ea := vOf_eq h.1 ra
      subst ea
      exact ⟨p, _, rfl, .inl (SqL.of h1), flatV_of h.1, all_flatV h.2, by rw [if_neg Bool.false_ne_true, inV_of h.1 h.2]; exact q _ H .refl Rep.of_bl⟩
    · cases e
  · rename_i ds
    split at e
    · rename_i h
      simp only [Bool.and_eq_true] at h
      cases e
      obtain ⟨p, xs, rfl, h1, h2, _⟩ := rb.tup_at
      have ex := flats_of h2 h.2
      subst ex
      have ea := vOf_eq h.1 ra
      subst ea
      exact ⟨p, _, rfl, .inr (h1.sq), flatV_of h.1, all_flatV h.2, by rw [if_neg Bool.false_ne_true, inV_of h.1 h.2]; exact q _ H .refl Rep.of_bl⟩
    · cases e
theorem od_notIn {Γ : Ctx} {K : PySem.W.Frag} : OpD Γ (rIn K true) oNotIn := fun A H x y a b d Q al ra rb e q => by
  cases b <;> simp only [oNotIn] at e <;> try (cases e)
  · rename_i ds
    split at e
    · rename_i h
      simp only [Bool.and_eq_true] at h
      cases e
      obtain ⟨p, xs, rfl, h1, h2, _⟩ := rb.lst_at
      have ex := flats_of h2 h.2
      subst ex
      have ea := vOf_eq h.1 ra
      subst ea
      exact ⟨p, _, rfl, .inl (SqL.of h1), flatV_of h.1, all_flatV h.2, by rw [if_pos rfl, inV_of h.1 h.2]; exact q _ H .refl Rep.of_bl⟩
    · cases e
  · rename_i ds
    split at e
    · rename_i h
      simp only [Bool.and_eq_true] at h
      cases e
      obtain ⟨p, xs, rfl, h1, h2, _⟩ := rb.tup_at
      have ex := flats_of h2 h.2
      subst ex
      have ea := vOf_eq h.1 ra
      subst ea
      exact ⟨p, _, rfl, .inr (h1.sq), flatV_of h.1, all_flatV h.2, by rw [if_pos rfl, inV_of h.1 h.2]; exact q _ H .refl Rep.of_bl⟩
    · cases e
/-! ### + of lists, tuples; * -/
def oCat : D → D → Option D
  | .lst a, .lst b => if a.length + b.length ≤ sizeLine then some (.lst (a ++ b)) else none
  | _, _ => none
theorem od_cat {Γ : Ctx} : OpD Γ rCat oCat := fun A H x y a b d Q al ra rb e q => by
  cases a <;> cases b <;> simp only [oCat] at e <;> try (cases e)
  split at e
  · rename_i h
    cases e
    obtain ⟨l, xs, rfl, h1, h2, _⟩ := ra.lst_at
    obtain ⟨m, ys, rfl, h3, h4, _⟩ := rb.lst_at
    exact ⟨l, m, xs, ys, rfl, rfl, h1, h3, by rw [h2.length, h4.length]; exact h, fun p hp => q _ _ (grow_new hp) (Rep.new_lst al hp (h2.append h4))⟩
  · cases e
def oCatT : D → D → Option D
  | .tup a, .tup b => if a.length + b.length ≤ sizeLine then some (.tup (a ++ b)) else none
  | _, _ => none
theorem od_catT {Γ : Ctx} [NoFz Γ] {K : PySem.W.Frag} : OpD Γ (rCatA K) oCatT := fun A H x y a b d Q al ra rb e q => by
  cases a <;> cases b <;> simp only [oCatT] at e <;> try (cases e)
  rename_i as bs
  split at e
  · rename_i h
    cases e
    have ra' := ra
    have rb' := rb
    obtain ⟨l, xs, rfl, h1, h2, _⟩ := ra.tup_at
    obtain ⟨m, ys, rfl, h3, h4, _⟩ := rb.tup_at
    refine ⟨l, m, xs, ys, rfl, rfl, h1.sq, (h3).sq, by rw [h2.length, h4.length]; exact h, fun z => ?_, fun _ z => ?_, fun _ _ p hp => q _ _ (grow_new hp) (Rep.new_tup al hp (h2.append h4))⟩
    · have e1 : as = [] := by have := h2.length; rw [z] at this; exact List.length_eq_zero_iff.mp this.symm
      rw [e1] at q
      exact q _ H .refl rb'
    · have e1 : bs = [] := by have := h4.length; rw [z] at this; exact List.length_eq_zero_iff.mp this.symm
      rw [e1, List.append_nil] at q
      exact q _ H .refl ra'
  · cases e
theorem RepL.rep {Γ : Ctx} {H : Hp} {ds : List D} {xs : List V} (r : RepL Γ H ds xs) : ∀ n, RepL Γ H (List.replicate n ds).flatten (List.replicate n xs).flatten
  | 0 => RepL_nil.mpr rfl
  | n + 1 => by
    rw [List.replicate_succ, List.replicate_succ, List.flatten_cons, List.flatten_cons]
    exact r.append (RepL.rep r n)
def oRep : D → D → Option D
  | .lst a, .int k => if -(2 ^ 63) ≤ k ∧ k < 2 ^ 63 ∧ a.length * k.toNat ≤ sizeLine then some (.lst (List.replicate k.toNat a).flatten) else none
  | _, _ => none
theorem od_rep {Γ : Ctx} : OpD Γ rRep oRep := fun A H x y a b d Q al ra rb e q => by
  cases a <;> cases b <;> simp only [oRep] at e <;> try (cases e)
  split at e
  · rename_i h
    cases e
    obtain ⟨l, xs, rfl, h1, h2, _⟩ := ra.lst_at
    exact ⟨l, _, xs, rfl, rb.int_eq, h1, h.1, h.2.1, by rw [h2.length]; exact h.2.2, fun p hp => q _ _ (grow_new hp) (Rep.new_lst al hp (h2.rep _))⟩
  · cases e
def oAddS : D → D → Option D
  | .str a, .str b => if a.length + b.length ≤ sizeLine then some (.str (a ++ b)) else none
  | _, _ => none
theorem od_addS {Γ : Ctx} : OpD Γ (fun x y H Q => ∃ i j, x = .str i ∧ y = .str j ∧ i.length + j.length ≤ sizeLine ∧ Q (.str (i ++ j)) H) oAddS := fun A H x y a b d Q al ra rb e q => by
  cases a <;> cases b <;> simp only [oAddS] at e <;> try (cases e)
  split at e
  · cases e
    exact ⟨_, _, ra.str_eq, rb.str_eq, by assumption, q _ H .refl Rep.of_str⟩
  · cases e
/-! ### items -/
def oIx : D → D → Option D
  | .lst ds, .int i => atI ds i
  | .tup ds, .int i => atI ds i
  | .str z, .int i => if z.length ≤ sizeLine then (atI z.cps.toList i).map fun c => .str ⟨#[c]⟩ else none
  | _, _ => none
theorem RepL.atI {Γ : Ctx} {H : Hp} {ds : List D} {xs : List V} (r : RepL Γ H ds xs) {i : Int} {d : D} (e : L2.atI ds i = some d) : ∃ v, L2.atI xs i = some v ∧ Rep Γ H d v := by
  unfold L2.atI at e ⊢
  rw [r.length]
  cases q : ixN ds.length i with
  | none => rw [q] at e; cases e
  | some j =>
    rw [q] at e
    exact r.get e
theorem od_ix {Γ : Ctx} {K : PySem.W.Frag} : OpD Γ (rIx K) oIx := fun A H x y a b d Q al ra rb e q => by
  cases a <;> cases b <;> simp only [oIx] at e <;> try (cases e)
  · split at e
    · rename_i hz
      obtain ⟨c, h1, rfl⟩ := Option.map_eq_some_iff.mp e
      exact .inr (.inr ⟨_, _, c, ra.str_eq, rb.int_eq, hz, h1, q _ H .refl Rep.of_str⟩)
    · cases e
  · obtain ⟨p, xs, rfl, h1, h2, _⟩ := ra.lst_at
    obtain ⟨v, e1, e2⟩ := h2.atI e
    exact .inl ⟨p, xs, _, v, rfl, rb.int_eq, SqL.of h1, e1, q v H .refl e2⟩
  · obtain ⟨p, xs, rfl, h1, h2, _⟩ := ra.tup_at
    obtain ⟨v, e1, e2⟩ := h2.atI e
    exact .inr (.inl ⟨p, xs, _, v, rfl, rb.int_eq, h1.sq, e1, q v H .refl e2⟩)
/-! ### slices -/
def cutD (ds : List D) (lo hi : Option Int) : List D := (ds.drop (HT.sIx ds.length 0 lo)).take (HT.sIx ds.length ds.length hi - HT.sIx ds.length 0 lo)
theorem RepL.cut {Γ : Ctx} {H : Hp} {ds : List D} {xs : List V} (r : RepL Γ H ds xs) (lo hi : Option Int) : RepL Γ H (cutD ds lo hi) (cutV xs lo hi) := by
  unfold cutD cutV
  rw [r.length]
  exact (r.drop _).take _
def oCut : D → Option Int → Option Int → Option D
  | .lst ds, lo, hi => some (.lst (cutD ds lo hi))
  | .tup ds, lo, hi => some (.tup (cutD ds lo hi))
  | .str z, lo, hi => if z.length ≤ sizeLine then some (.str (cutS z lo hi)) else none
  | _, _, _ => none
def intP : D → Option (Option Int)
  | .int i => some (some i)
  | _ => none
def pNone : SEnv → M (Option Int) := fun _ => pure none
def pSome (f : SEnv → M D) : SEnv → M (Option Int) := fun δ => f δ >>= fun x => M.lift (intP x)
def repO : Hp → Option Int → Option Int → Prop := fun _ a b => a = b
abbrev tO (Γ : Ctx) (W : WX) (f : SEnv → M (Option Int)) : TO := tG Γ W repO f
def dCut (fe : SEnv → M D) (fl fh : SEnv → M (Option Int)) : SEnv → M D := fun δ => fe δ >>= fun x => fl δ >>= fun l => fh δ >>= fun h => M.lift (oCut x l h)
abbrev rSlAll (K : PySem.W.Frag) : V → Option Int → Option Int → Hp → VK → Prop := fun x lo hi H Q => rSlL K x lo hi H Q ∨ (rSlA K x lo hi H Q ∨ rSlS x lo hi H Q)
theorem sl_all {X : Cx} : SlR X (rSlAll X.K) := sl_list.or (sl_tupA.or sl_str)
section
variable {Γ : Ctx} {W : WX} {X : Cx} {e b : Expr} {es : List Expr} {fe fa : SEnv → M D} {fl fh : SEnv → M (Option Int)} {fs : SEnv → M (List D)} {pos p2 p : Pos} {lo hi : Option Expr}
theorem po_non : PO X none (tO Γ W pNone) := ⟨fun pins s σ H Q I h => by
  obtain ⟨H0, A, B, P, R, δ, S, h⟩ := h
  exact po_none.run pins s σ H Q I (h none H (.refl S.row) rfl)⟩
theorem po_som (h : PE X e (tD Γ W fe)) : PO X (some e) (tO Γ W (pSome fe)) := ⟨fun pins s σ H Q I hq => by
  refine (po_some h).run pins s σ H Q I ?_
  obtain ⟨H0, A, B, P, R, δ, S, h⟩ := hq
  refine ⟨H0, A, B, P, R, δ, S, go S h fun x vx R1 H1 m1 r1 S1 h1 => ?_⟩
  obtain ⟨k, e, q⟩ := lift_out S1 h1
  cases x <;> simp [intP] at e
  subst e
  exact ⟨_, r1.int_eq, q _ H1 .refl rfl⟩⟩
theorem pd_slice [NoFz Γ] (he : PE X e (tD Γ W fe)) (hl : PO X lo (tO Γ W fl)) (hu : PO X hi (tO Γ W fh)) : PE X (.Subscript e (.Slice lo hi none p2) pos) (tD Γ W (dCut fe fl fh)) := (pe_slice sl_all he hl hu).imp fun σ H Q h => by
  obtain ⟨H0, A, B, P, R, δ, S, h⟩ := h
  refine ⟨H0, A, B, P, R, δ, S, go S h fun x vx R1 H1 m1 r1 S1 h1 => ⟨H0, A, B, P, R1, δ, S1, go S1 h1 fun l l' R2 H2 m2 r2 S2 h2 => ⟨H0, A, B, P, R2, δ, S2, go S2 h2 fun u u' R3 H3 m3 r3 S3 h3 => ?_⟩⟩⟩
  have e1 : l = l' := r2
  have e2 : u = u' := r3
  subst e1 e2
  obtain ⟨d, e, q⟩ := lift_out S3 h3
  have r4 := Rep.keep (S2.keeps m3) _ (Rep.keep (S1.keeps m2) _ r1)
  cases x <;> simp only [oCut] at e <;> try (cases e)
  · split at e
    · cases e
      exact .inr (.inr ⟨_, r4.str_eq, by assumption, q _ H3 .refl Rep.of_str⟩)
    · cases e
  · obtain ⟨p, xs, rfl, h1, h2, _⟩ := r4.lst_at
    exact .inl ⟨p, xs, rfl, SqL.of h1, fun q' hq => q _ _ (grow_new hq) (Rep.new_lst S3.all hq (h2.cut l u))⟩
  · rename_i ds
    have r4' := r4
    obtain ⟨p, xs, rfl, h1, h2, _⟩ := r4.tup_at
    refine .inr (.inl ⟨p, xs, rfl, h1.sq, fun w => ?_, fun _ q' hq => q _ _ (grow_new hq) (Rep.new_tup S3.all hq (h2.cut l u))⟩)
    have ec : cutD ds l u = ds := by
      unfold cutD
      rw [h2.length] at w
      rw [w.1, w.2, List.drop_zero, Nat.sub_zero, List.take_length]
    rw [ec] at q
    exact q _ H3 .refl r4'
end
/-! ### calls of builtins -/
def fLen : List D → Option D
  | [.lst ds] => some (.int ds.length)
  | [.tup ds] => some (.int ds.length)
  | [.str z] => if z.length ≤ sizeLine then some (.int z.length) else none
  | _ => none
abbrev rLenA (K : PySem.W.Frag) : List V → Hp → VK → Prop := fun xs H Q => (∃ p ys, xs = [.ref p] ∧ (SqL K H p ys ∨ SqT K H p ys) ∧ Q (.int ys.length) H) ∨ (∃ z, xs = [.str z] ∧ z.length ≤ sizeLine ∧ Q (.int z.length) H)
theorem cr_len {X : Cx} : CallR X (.builtin "len") (rLenA X.K) := call_len_seq.or call_len_str
theorem RepL.one_inv {Γ : Ctx} {H : Hp} {d : D} {xs : List V} (r : RepL Γ H [d] xs) : ∃ v, xs = [v] ∧ Rep Γ H d v := by
  rw [RepL_cons] at r
  obtain ⟨v, ws, rfl, h1, h2⟩ := r
  rw [RepL_nil] at h2
  subst h2
  exact ⟨v, rfl, h1⟩
theorem RepL.two_inv {Γ : Ctx} {H : Hp} {d e : D} {xs : List V} (r : RepL Γ H [d, e] xs) : ∃ v w, xs = [v, w] ∧ Rep Γ H d v ∧ Rep Γ H e w := by
  rw [RepL_cons] at r
  obtain ⟨v, ws, rfl, h1, h2⟩ := r
  obtain ⟨w, rfl, h3⟩ := h2.one_inv
  exact ⟨v, w, rfl, h1, h3⟩
theorem cd_len {Γ : Ctx} {K : PySem.W.Frag} : CallD Γ (rLenA K) fLen := fun A H xs as d Q al r e q => by
  unfold fLen at e
  split at e
  · obtain ⟨v, rfl, r1⟩ := r.one_inv
    obtain ⟨p, ys, rfl, h1, h2, _⟩ := r1.lst_at
    cases e
    exact .inl ⟨p, ys, rfl, .inl (SqL.of h1), by rw [h2.length]; exact q _ H .refl Rep.of_int⟩
  · obtain ⟨v, rfl, r1⟩ := r.one_inv
    obtain ⟨p, ys, rfl, h1, h2, _⟩ := r1.tup_at
    cases e
    exact .inl ⟨p, ys, rfl, .inr (h1.sq), by rw [h2.length]; exact q _ H .refl Rep.of_int⟩
  · obtain ⟨v, rfl, r1⟩ := r.one_inv
    split at e
    · cases e
      exact .inr ⟨_, by rw [r1.str_eq], by assumption, q _ H .refl Rep.of_int⟩
    · cases e
  · cases e
def fList : List D → Option D
  | [.lst ds] => some (.lst ds)
  | [.tup ds] => some (.lst ds)
  | _ => none
theorem cd_list {Γ : Ctx} {K : PySem.W.Frag} : CallD Γ (fun xs H Q => ∃ p ys, xs = [.ref p] ∧ (SqL K H p ys ∨ SqT K H p ys) ∧ ∀ l, H l = none → Q (.ref l) (upd H l (.lst ys))) fList := fun A H xs as d Q al r e q => by
  unfold fList at e
  split at e
  · obtain ⟨v, rfl, r1⟩ := r.one_inv
    obtain ⟨p, ys, rfl, h1, h2, _⟩ := r1.lst_at
    cases e
    exact ⟨p, ys, rfl, .inl (SqL.of h1), fun l hl => q _ _ (grow_new hl) (Rep.new_lst al hl h2)⟩
  · obtain ⟨v, rfl, r1⟩ := r.one_inv
    obtain ⟨p, ys, rfl, h1, h2, _⟩ := r1.tup_at
    cases e
    exact ⟨p, ys, rfl, .inr (h1.sq), fun l hl => q _ _ (grow_new hl) (Rep.new_lst al hl h2)⟩
  · cases e
def fTuple : List D → Option D
  | [.lst ds] => some (.tup ds)
  | [.tup ds] => some (.tup ds)
  | _ => none
theorem cd_tuple {Γ : Ctx} [NoFz Γ] {K : PySem.W.Frag} : CallD Γ (fun xs H Q => ∃ p ys, xs = [.ref p] ∧ ((SqL K H p ys ∧ ∀ l, H l = none → Q (.ref l) (upd H l (.tup ys))) ∨ (SqT K H p ys ∧ Q (.ref p) H))) fTuple := fun A H xs as d Q al r e q => by
  unfold fTuple at e
  split at e
  · obtain ⟨v, rfl, r1⟩ := r.one_inv
    obtain ⟨p, ys, rfl, h1, h2, _⟩ := r1.lst_at
    cases e
    exact ⟨p, ys, rfl, .inl ⟨SqL.of h1, fun l hl => q _ _ (grow_new hl) (Rep.new_tup al hl h2)⟩⟩
  · obtain ⟨v, rfl, r1⟩ := r.one_inv
    have r1' := r1
    obtain ⟨p, ys, rfl, h1, h2, _⟩ := r1.tup_at
    cases e
    exact ⟨p, ys, rfl, .inr ⟨h1.sq, q _ H .refl r1'⟩⟩
  · cases e
def fInt : List D → Option D
  | [.int i] => some (.int i)
  | [.bl k] => some (.int (if k then 1 else 0))
  | _ => none
theorem cd_int {Γ : Ctx} : CallD Γ (fun xs H Q => (∃ i, xs = [.int i] ∧ Q (.int i) H) ∨ ∃ k, xs = [.bl k] ∧ Q (.int (if k then 1 else 0)) H) fInt := fun A H xs as d Q al r e q => by
  unfold fInt at e
  split at e
  · obtain ⟨v, rfl, r1⟩ := r.one_inv
    cases e
    exact .inl ⟨_, by rw [r1.int_eq], q _ H .refl Rep.of_int⟩
  · obtain ⟨v, rfl, r1⟩ := r.one_inv
    cases e
    exact .inr ⟨_, by rw [r1.bl_eq], q _ H .refl Rep.of_int⟩
  · cases e
def fMax2 : List D → Option D
  | [.int i, .int j] => some (.int (if j > i then j else i))
  | _ => none
def fMin2 : List D → Option D
  | [.int i, .int j] => some (.int (if j < i then j else i))
  | _ => none
theorem cd_max2 {Γ : Ctx} : CallD Γ (fun xs H Q => ∃ i j, xs = [.int i, .int j] ∧ Q (.int (if j > i then j else i)) H) fMax2 := fun A H xs as d Q al r e q => by
  unfold fMax2 at e
  split at e
  · obtain ⟨v, w, rfl, r1, r2⟩ := r.two_inv
    cases e
    exact ⟨_, _, by rw [r1.int_eq, r2.int_eq], q _ H .refl Rep.of_int⟩
  · cases e
theorem cd_min2 {Γ : Ctx} : CallD Γ (fun xs H Q => ∃ i j, xs = [.int i, .int j] ∧ Q (.int (if j < i then j else i)) H) fMin2 := fun A H xs as d Q al r e q => by
  unfold fMin2 at e
  split at e
  · obtain ⟨v, w, rfl, r1, r2⟩ := r.two_inv
    cases e
    exact ⟨_, _, by rw [r1.int_eq, r2.int_eq], q _ H .refl Rep.of_int⟩
  · cases e
def bools : List D → Option (List Bool)
  | [] => some []
  | .bl b :: ds => (bools ds).map (b :: ·)
  | _ => none
theorem bools_of {Γ : Ctx} {H : Hp} : ∀ {ds : List D} {xs : List V} {bs : List Bool}, RepL Γ H ds xs → bools ds = some bs → xs = bs.map V.bl
  | [], xs, bs, r, e => by
    rw [RepL_nil] at r
    simp [bools] at e
    rw [r, e]; rfl
  | d :: ds, xs, bs, r, e => by
    rw [RepL_cons] at r
    obtain ⟨v, ws, rfl, h1, h2⟩ := r
    cases d <;> simp only [bools] at e <;> try (cases e)
    obtain ⟨cs, e1, rfl⟩ := Option.map_eq_some_iff.mp e
    rw [List.map_cons, h1.bl_eq, bools_of h2 e1]
def fAll : List D → Option D
  | [.lst ds] => (bools ds).map fun bs => .bl (bs.all id)
  | _ => none
def fAny : List D → Option D
  | [.lst ds] => (bools ds).map fun bs => .bl (bs.any id)
  | _ => none
theorem cd_all {Γ : Ctx} {K : PySem.W.Frag} : CallD Γ (rAll K) fAll := fun A H xs as d Q al r e q => by
  unfold fAll at e
  split at e
  · obtain ⟨v, rfl, r1⟩ := r.one_inv
    obtain ⟨p, ys, rfl, h1, h2, _⟩ := r1.lst_at
    obtain ⟨bs, e1, rfl⟩ := Option.map_eq_some_iff.mp e
    have := bools_of h2 e1
    subst this
    exact ⟨p, bs, rfl, SqL.of h1, q _ H .refl Rep.of_bl⟩
  · cases e
theorem cd_any {Γ : Ctx} {K : PySem.W.Frag} : CallD Γ (rAny K) fAny := fun A H xs as d Q al r e q => by
  unfold fAny at e
  split at e
  · obtain ⟨v, rfl, r1⟩ := r.one_inv
    obtain ⟨p, ys, rfl, h1, h2, _⟩ := r1.lst_at
    obtain ⟨bs, e1, rfl⟩ := Option.map_eq_some_iff.mp e
    have := bools_of h2 e1
    subst this
    exact ⟨p, bs, rfl, SqL.of h1, q _ H .refl Rep.of_bl⟩
  · cases e
end DL

set_option Elab.async false
set_option linter.all false
set_option maxRecDepth 100000
namespace DL
open PySem PySem.Spec L2
/-! ### isinstance -/
def typeN : D → Option String
  | .non => some "NoneType"
  | .bl _ => some "bool"
  | .int _ => some "int"
  | .str _ => some "str"
  | .lst _ => some "list"
  | .tup _ => some "tuple"
  | .dic => some "dict"
  | .rng _ _ | .dct _ _ _ | .web _ _ | .row _ | .fn _ => none
theorem tyX_of {Γ : Ctx} {K : PySem.W.Frag} {A : List Addr} {H : Hp} {d : D} {v : V} {t : String} (r : Rep Γ (hide A H) d v) (e : typeN d = some t) : TyX K H v (.type t) := by
  cases d <;> simp only [typeN, Option.some.injEq] at e <;> try (cases e)
  · rw [r.non_eq]; exact .base .non
  · rw [r.bl_eq]; exact .base (.bl _)
  · rw [r.int_eq]; exact .base (.int _)
  · rw [r.str_eq]; exact .base (.str _)
  · obtain ⟨a, xs, rfl, h1, _⟩ := r.lst_at; exact .base (.lst h1)
  · obtain ⟨a, xs, rfl, h1, _⟩ := r.tup_at
    rcases h1 with h1 | ⟨o, _, h1⟩
    · exact .base (.tup h1)
    · exact .fTuple h1
  · rw [Rep] at r; obtain ⟨a, rfl, h1⟩ := r; exact .base (.dK (hide_some h1).2)
def isiD (T : String) (d : D) : Option D := (typeN d).bind fun a => (kitB a T).map D.bl
def isiD2 (T U : String) (d : D) : Option D := (typeN d).bind fun a => (kitB a T).bind fun k => if k = true then some (.bl true) else (kitB a U).map D.bl
/-- what is asked of the web's class -/
structure WebF (K : PySem.W.Frag) (mg : Str → Option Value) (Γ : Ctx) : Prop where
  cl : Cls K Γ.web
  ha : PySem.W.findIn K (.ref Γ.web) "__class__" = some (some (.builtin "object.__class__"))
  hn : PySem.W.specialIn K (.builtin "object.__class__") "__get__" = some (some (.builtin "getset_descriptor.__get__"))
  htk : PySem.W.takesIn K (.builtin "object.__class__") = some true
  hm : PySem.W.mroIn K Γ.web (.type "object") = some true
  no : ∀ T ∈ ["NoneType", "bool", "int", "str", "list", "tuple", "dict"], PySem.W.kitOne K (.type T) (.ref Γ.web) = some false
  nC : NoAttr K Γ.web "coins"
  nS : NoAttr K Γ.web "strings"
  nW : NoAttr K Γ.web "worths"
  gW : mg "Web" = some (.ref Γ.web)
def isiW : D → Option D
  | .web _ _ => some (.bl true)
  | .non | .bl _ | .int _ | .str _ | .lst _ | .tup _ | .dic => some (.bl false)
  | .row _ | .fn _ | .rng _ _ | .dct _ _ _ => none
section
variable {Γ : Ctx} {W : WX} {X : Cx} {e b c : Expr} {fe : SEnv → M D} {fs : SEnv → M (List D)} {pos p : Pos}
theorem pd_isi {T : String} (hm : X.mg "isinstance" = none) (ha : PE X e (tD Γ W fe)) (hT : PE X b (tC (.ty T))) (hg : Gl X "isinstance" := by rfl) (h1 : starEach [e, b] X.env = (false, eval e X.env) :: starEach [b] X.env := by rfl) (h2 : starEach [b] X.env = (false, eval b X.env) :: starEach [] X.env := by rfl)
    (h3 : (backTo pos (starEach [b] X.env)).any (·.1) = false := by rfl) :
    PE X (.Call (.Name "isinstance" p) [e, b] [] pos) (tD Γ W (d1 (isiD T) fe)) := (pe_callB call_isi hg hm (by decide +kernel) (pa_cons ha (pa_cons hT pa_nil h2) h1) (by decide) (by decide) h1 h3).imp fun σ H Q h => by
  obtain ⟨H0, A, B, P, R, δ, S, h⟩ := h
  refine ⟨H0, A, B, P, R, δ, S, go S h fun x vx R1 H1 m1 r1 S1 h1 => ?_⟩
  obtain ⟨d, ed, q⟩ := lift_out S1 h1
  unfold isiD at ed
  obtain ⟨t, e1, e2⟩ := Option.bind_eq_some_iff.mp ed
  obtain ⟨k, e3, rfl⟩ := Option.map_eq_some_iff.mp e2
  exact ⟨vx, .ty T, .type t, .type T, k, rfl, .ty T, tyX_of r1 e1, kit_ty e3, q _ H1 .refl Rep.of_bl⟩
theorem pd_isi2 {T U : String} {k0 : Nat} {tpos : Pos} (hm : X.mg "isinstance" = none) (ha : PE X e (tD Γ W fe)) (hT : PE X b (tC (.ty T))) (hU : PE X c (tC (.ty U))) (hg : Gl X "isinstance" := by rfl)
    (g1 : starEach [b, c] X.env = (false, eval b X.env) :: starEach [c] X.env := by rfl) (g2 : starEach [c] X.env = (false, eval c X.env) :: starEach [] X.env := by rfl)
    (h1 : starEach [e, .Tuple [b, c] k0 tpos] X.env = (false, eval e X.env) :: starEach [.Tuple [b, c] k0 tpos] X.env := by rfl) (h2 : starEach [.Tuple [b, c] k0 tpos] X.env = (false, eval (.Tuple [b, c] k0 tpos) X.env) :: starEach [] X.env := by rfl)
    (h3 : (backTo pos (starEach [.Tuple [b, c] k0 tpos] X.env)).any (·.1) = false := by rfl) :
    PE X (.Call (.Name "isinstance" p) [e, .Tuple [b, c] k0 tpos] [] pos) (tD Γ W (d1 (isiD2 T U) fe)) := (pe_callB call_isiT hg hm (by decide +kernel) (pa_cons ha (pa_cons (pe_tup (pa_cons hT (pa_cons hU pa_nil g2) g1)) pa_nil h2) h1) (by decide) (by decide) h1 h3).imp fun σ H Q h => by
  obtain ⟨H0, A, B, P, R, δ, S, h⟩ := h
  refine ⟨H0, A, B, P, R, δ, S, go S h fun x vx R1 H1 m1 r1 S1 h1 => ⟨by show 2 ≤ sizeLine; decide, fun tp htp => ?_⟩⟩
  obtain ⟨d, ed, q⟩ := lift_out S1 h1
  unfold isiD2 at ed
  obtain ⟨t, e1, e2⟩ := Option.bind_eq_some_iff.mp ed
  obtain ⟨k, e3, e4⟩ := Option.bind_eq_some_iff.mp e2
  have r2 := Rep.keep (Grow.keeps (Γ := Γ) (A := A ++ P) (grow_new (o := .tup [.ty T, .ty U]) htp)) _ r1
  have end_ : ∀ k2, d = .bl k2 → PySem.W.kitAny X.K (.type t) [.type T, .type U] = some k2 → rIsiT X.K [vx, .ref tp] (upd H1 tp (.tup [.ty T, .ty U])) Q := fun k2 ek e5 =>
    ⟨vx, tp, [.ty T, .ty U], .type t, [.type T, .type U], k2, rfl, upd_same, .cons (.ty T) (.cons (.ty U) .nil), tyX_of r2 e1, e5, q _ _ (grow_new htp) (by rw [ek]; exact Rep.of_bl)⟩
  cases k with
  | true =>
    rw [if_pos rfl] at e4
    exact end_ true (Option.some.inj e4).symm (kitAny_cons (kit_ty e3) (fun z => by cases z) fun _ => rfl)
  | false =>
    rw [if_neg Bool.false_ne_true] at e4
    obtain ⟨k2, e5, rfl⟩ := Option.map_eq_some_iff.mp e4
    refine end_ k2 rfl (kitAny_cons (kit_ty e3) (fun _ => ?_) fun z => by cases z)
    refine kitAny_cons (kit_ty e5) (fun z => by rw [z]; exact kitAny_nil) fun z => z
theorem pd_isiW (T : WebF X.K X.mg Γ) (hm : X.mg "isinstance" = none) (ha : PE X e (tD Γ W fe)) (hg : Gl X "isinstance" := by rfl) (hg2 : Gl X "Web" := by rfl) {p2 : Pos} (h1 : starEach [e, .Name "Web" p2] X.env = (false, eval e X.env) :: starEach [.Name "Web" p2] X.env := by rfl)
    (h2 : starEach [.Name "Web" p2] X.env = (false, eval (.Name "Web" p2) X.env) :: starEach [] X.env := by rfl) (h3 : (backTo pos (starEach [.Name "Web" p2] X.env)).any (·.1) = false := by rfl) :
    PE X (.Call (.Name "isinstance" p) [e, .Name "Web" p2] [] pos) (tD Γ W (d1 isiW fe)) := (pe_callB call_isi hg hm (by decide +kernel) (pa_cons ha (pa_cons (pe_glob (v := .ref Γ.web) hg2 T.gW rfl) pa_nil h2) h1) (by decide) (by decide) h1 h3).imp fun σ H Q h => by
  obtain ⟨H0, A, B, P, R, δ, S, h⟩ := h
  refine ⟨H0, A, B, P, R, δ, S, go S h fun x vx R1 H1 m1 r1 S1 h1 => ?_⟩
  obtain ⟨d, ed, q⟩ := lift_out S1 h1
  have bl : ∀ t, typeN x = some t → d = .bl false → rIsi X.K [vx, .ref Γ.web] H1 Q := fun t et eb => by
    refine ⟨vx, .ref Γ.web, .type t, .ref Γ.web, false, rfl, .own _, tyX_of r1 et, T.no t ?_, q _ H1 .refl (by rw [eb]; exact Rep.of_bl)⟩
    cases x <;> simp only [typeN, Option.some.injEq] at et <;> try (cases et)
    all_goals decide
  cases x <;> simp only [isiW, Option.some.injEq] at ed <;> try (cases ed)
  · exact bl _ rfl rfl
  · exact bl _ rfl rfl
  · exact bl _ rfl rfl
  · exact bl _ rfl rfl
  · exact bl _ rfl rfl
  · exact bl _ rfl rfl
  · exact bl _ rfl rfl
  · rw [Rep] at r1
    obtain ⟨a, dx, t, q', xs, kvs, rfl, h2, _⟩ := r1
    refine ⟨.ref a, .ref Γ.web, .ref Γ.web, .ref Γ.web, true, rfl, .own _, .base (.ins (hide_some h2).2 T.cl T.ha T.hn T.htk T.hm), ?_, q _ H1 .refl Rep.of_bl⟩
    unfold PySem.W.kitOne
    rw [if_pos (by simp)]
/-! ### the web's fields -/
def pairD (p : Int × Int) : D := .tup [.int p.1, .int p.2]
theorem PairsR.rep {Γ : Ctx} [NoFz Γ] {H : Hp} : ∀ {ss : List (Int × Int)} {xs : List V}, PairsR H ss xs → RepL Γ H (ss.map pairD) xs
  | [], [], _ => RepL_nil.mpr rfl
  | p :: ps, v :: vs, h => by
    obtain ⟨⟨a, rfl, e⟩, h2⟩ := h
    rw [List.map_cons, RepL_cons]
    exact ⟨_, _, rfl, Rep_tup.mpr ⟨a, _, rfl, e.r fzI_no, RepL_cons.mpr ⟨_, _, rfl, Rep.of_int, RepL.one Rep.of_int⟩⟩, h2.rep⟩
  | [], _ :: _, h => h.elim
  | _ :: _, [], h => h.elim
def webCoins : D → Option D
  | .web n _ => some (.int n)
  | _ => none
def webStrs : D → Option D
  | .web _ ss => some (.tup (ss.map pairD))
  | _ => none
theorem lookC (n : Int) (t q : Addr) : (webF n t q).lookup ("coins" : Str) = some (V.int n) := by simp [webF, List.lookup]
theorem ne1 : (("strings" : Str) == ("coins" : Str)) = false := by decide +kernel
theorem lookS (n : Int) (t q : Addr) : (webF n t q).lookup ("strings" : Str) = some (V.ref t) := by simp only [webF, List.lookup, ne1, beq_self_eq_true]
theorem ne2 : (("worths" : Str) == ("coins" : Str)) = false := by decide +kernel
theorem ne3 : (("worths" : Str) == ("strings" : Str)) = false := by decide +kernel
theorem lookW (n : Int) (t q : Addr) : (webF n t q).lookup ("worths" : Str) = some (V.ref q) := by simp only [webF, List.lookup, ne2, ne3, beq_self_eq_true]
theorem pd_coins (T : WebF X.K X.mg Γ) (he : PE X e (tD Γ W fe)) (hb : attributeBase e "coins" X.env (eval e X.env) = eval e X.env := by rfl) : PE X (.Attribute e "coins" pos) (tD Γ W (d1 webCoins fe)) := (pe_fld he hb).imp fun σ H Q h => by
  obtain ⟨H0, A, B, P, R, δ, S, h⟩ := h
  refine ⟨H0, A, B, P, R, δ, S, go S h fun x vx R1 H1 m1 r1 S1 h1 => ?_⟩
  obtain ⟨d, ed, q⟩ := lift_out S1 h1
  cases x <;> simp only [webCoins, Option.some.injEq] at ed <;> try (cases ed)
  rw [Rep] at r1
  obtain ⟨a, dx, t, q', xs, kvs, rfl, h2, _⟩ := r1
  exact ⟨a, Γ.web, dx, _, _, rfl, (hide_some h2).2, T.cl, T.nC, lookC _ _ _, q _ H1 .refl Rep.of_int⟩
theorem pd_strings [NoFz Γ] (T : WebF X.K X.mg Γ) (he : PE X e (tD Γ W fe)) (hb : attributeBase e "strings" X.env (eval e X.env) = eval e X.env := by rfl) : PE X (.Attribute e "strings" pos) (tD Γ W (d1 webStrs fe)) := (pe_fld he hb).imp fun σ H Q h => by
  obtain ⟨H0, A, B, P, R, δ, S, h⟩ := h
  refine ⟨H0, A, B, P, R, δ, S, go S h fun x vx R1 H1 m1 r1 S1 h1 => ?_⟩
  obtain ⟨d, ed, q⟩ := lift_out S1 h1
  cases x <;> simp only [webStrs, Option.some.injEq] at ed <;> try (cases ed)
  rw [Rep] at r1
  obtain ⟨a, dx, t, q', xs, kvs, rfl, h2, h3, h4, _⟩ := r1
  exact ⟨a, Γ.web, dx, _, _, rfl, (hide_some h2).2, T.cl, T.nS, lookS _ _ _, q _ H1 .refl (Rep_tup.mpr ⟨t, xs, rfl, h3.r fzI_no, h4.rep⟩)⟩
/-! ### methods of a web -/
structure CalM (P : Program) (w : World) (K : PySem.W.Frag) (mg : Str → Option Value) (base : Heap) (Γ : Ctx) (k : Nat) (m : Str) (n : Nat) (F : List D → M D) : Prop where
  ex : ∃ (f : Addr) (fd : FuncData) (ps : List Str), FnOk P w K mg base (L2.CX P w) k f fd ps (spD Γ n F) ∧ Meth K Γ.web m f ∧ L2.Binds K fd ps []
  no : (("coins" : Str) == m) = false ∧ (("strings" : Str) == m) = false ∧ (("worths" : Str) == m) = false
def M.nox {α : Type} (m : M α) : M α := fun R => match m R with
  | .ok a R' => .ok a R'
  | _ => .stuck
def dMeth (n : Nat) (F : List D → M D) (fe : SEnv → M D) (fs : SEnv → M (List D)) : SEnv → M D := fun δ => fe δ >>= fun x => M.lift (match x with | .web _ _ => some () | _ => none) >>= fun _ => fs δ >>= fun ds => if (x :: ds).length = n then M.nox (F (x :: ds)) else M.stuck
theorem pd_meth {a : Expr} {es : List Expr} {k n : Nat} {m : Str} {F : List D → M D} {apos : Pos} {pl : Sem Bool} (T : WebF X.K X.mg Γ) (C : CalM X.prog X.w X.K X.mg X.base Γ k m n F) (hr : Room k X.A) (he : PE X e (tD Γ W fe)) (ha : PA X (a :: es) (tL Γ W fs))
    (hst : starEach (a :: es) X.env = (false, eval a X.env) :: starEach es X.env := by rfl) (hpl : (backTo pos (starEach es X.env)).any (·.1) = false := by rfl)
    (ht : eval (.Call (.Attribute e m apos) (a :: es) [] pos) X.env = (do
      let ov ← eval e X.env
      standAt apos.atName
      let (f, first) ← holding [ov] (getMethod ov m pl)
      callWith pos f first (backTo pos (starEach (a :: es) X.env)) (backToKw pos (keywordEach [] X.env))) := by rfl) :
    PE X (.Call (.Attribute e m apos) (a :: es) [] pos) (tD Γ W (dMeth n F fe fs)) := by
  obtain ⟨f, fd, ps, ok, me, b⟩ := C.ex
  refine (pe_meth (pl := pl) he T.cl me ok hr b .nil passL ha hst hpl ht).imp fun σ H Q h => ?_
  obtain ⟨H0, A, B, P, R, δ, S, h⟩ := h
  refine ⟨H0, A, B, P, R, δ, S, go S h fun x vx R1 H1 m1 r1 S1 h1 => ?_⟩
  obtain ⟨u, eu, h2⟩ := lift_bind h1
  cases x <;> simp only at eu <;> try (cases eu)
  rename_i n0 ss
  have r1' := r1
  rw [Rep] at r1'
  obtain ⟨o, dx, t, q', xs, kvs, rfl, h3, _⟩ := r1'
  refine ⟨o, dx, _, rfl, (hide_some h3).2, ?_, H0, A, B, P, R1, δ, S1, go S1 h2 fun ds vs R2 H2 m2 r2 S2 h4 => ?_⟩
  · obtain ⟨c1, c2, c3⟩ := C.no
    have sy : ∀ {x : Str}, (x == m) = false → (m == x) = false := fun {x} z => by
      rw [beq_eq_false_iff_ne] at z ⊢
      exact fun q => z q.symm
    simp only [webF, List.lookup, sy c1, sy c2, sy c3]
  · split at h4
    · rename_i hn
      refine ⟨.web n0 ss :: ds, R2, A ++ P, RepL_cons.mpr ⟨_, _, by rw [List.append_nil], Rep.keep (S1.keeps m2) _ r1, r2⟩, hn, S2.row, fun a ha => List.mem_append_left _ (S2.ra a ha), S2.all, S2.scr, fun z => S2.sb (S2.rb _ z), ?_⟩
      unfold M.nox at h4
      cases q : F (.web n0 ss :: ds) R2 with
      | ok d R3 =>
        rw [q] at h4
        exact fun v H3 m3 r3 => h4 v H3 ⟨m3.ext.mono S2.rb, m3.row, m3.adr⟩ r3
      | exn c d R3 => rw [q] at h4; exact h4.elim
      | stuck => rw [q] at h4; exact h4.elim
    · exact h4.elim
theorem calM_mk {P : Program} {w : World} {K : PySem.W.Frag} {mg : Str → Option Value} {base : Heap} {m qual : Str} {params : Arguments} {body : List Stmt} {scope : Scope} {f : Addr} {fd : FuncData} {N ps : List Str} {k : Nat} {F : List D → M D} (FD : FunD K m qual params body scope [] [] f fd) (me : Meth K Γ.web m f) (S : FnScope N ps scope) (hb : L2.Binds K fd ps [])
    (no : (("coins" : Str) == m) = false ∧ (("strings" : Str) == m) = false ∧ (("worths" : Str) == m) = false)
    (hbody : ∀ (cdv : Value) (A : Around) (outer : List Env) (s : Shared) (H : Hp) (E : XK), Room k (A.deeper (PyProof.Rows.envOfC qual scope s.heap.objs.size f cdv)) →
      ∃ sem, PSs (cxOf (L2.CX P w) P w K mg base N qual scope f cdv A outer s H E) body (tS Γ (WD E) sem) ∧ ∀ ds R, ds.length = ps.length → F ds R ≠ .stuck → fin (sem (startD N ds) R) = F ds R) : CalM P w K mg base Γ (k + 1) m ps.length F := by
  refine ⟨⟨f, fd, ps, FD.ok S (fun vs H Q E h => ?_) (fun cdv A outer s H vs Q E hr h => ?_), me, hb⟩, no⟩
  · obtain ⟨ds, R, A, r, hn, _⟩ := h
    rw [r.length, hn]
  · obtain ⟨sem, h1, h2⟩ := hbody cdv A outer s H E hr
    exact ⟨_, h1, sp_imp h2 h⟩
/-! ### tuple(range(..)) -/
def rgTup : List D → Option D
  | [.int n] => if 0 ≤ n ∧ n ≤ 16777216 then some (.tup (rangeD 0 n.toNat)) else none
  | _ => none
theorem rgV_rep {Γ : Ctx} {H : Hp} (a : Int) : ∀ (n : Nat) (f : Nat → Nat), RepL Γ H ((List.range n).map fun i => D.int (a + (f i : Nat))) ((List.range n).map fun i => V.int (a + (f i : Nat)))
  | 0, _ => RepL_nil.mpr rfl
  | n + 1, f => by
    rw [List.range_succ_eq_map, List.map_cons, List.map_cons, List.map_map, List.map_map, RepL_cons]
    exact ⟨_, _, rfl, Rep.of_int, rgV_rep a n (fun i => f (i + 1))⟩
theorem pd_tupRg [NoFz Γ] {a : Expr} {fa : SEnv → M D} {p2 pos2 : Pos} (hc : X.calm = true) (hm : X.mg "tuple" = none) (hm2 : X.mg "range" = none) (ha : PE X a (tD Γ W fa)) (hg : Gl X "tuple" := by rfl) (hg2 : Gl X "range" := by rfl) (na : starEach [a] X.env = (false, eval a X.env) :: starEach [] X.env := by rfl)
    (na2 : starEach [.Call (.Name "range" p2) [a] [] pos2] X.env = (false, eval (.Call (.Name "range" p2) [a] [] pos2) X.env) :: starEach [] X.env := by rfl) :
    PE X (.Call (.Name "tuple" p) [.Call (.Name "range" p2) [a] [] pos2] [] pos) (tD Γ W (dCall rgTup (lCons fa lNil))) := (pe_tupRg hc hg hm (prg_1 hg2 hm2 ha na) na2).imp fun σ H Q h => by
  obtain ⟨H0, A, B, P, R, δ, S, h⟩ := h
  have h' : ((fa δ >>= fun x => M.lift (rgTup [x])) R).run (KK Γ B A P (Rep Γ) R H Q) (KE Γ W B A P σ R H) := by
    have e : dCall rgTup (lCons fa lNil) δ = (fa δ >>= fun x => M.lift (rgTup [x])) := by
      unfold dCall lCons lNil
      rw [M.assoc]
      rfl
    rw [← e]
    exact h
  refine ⟨H0, A, B, P, R, δ, S, go S h' fun x vx R1 H1 m1 r1 S1 h1 => ?_⟩
  obtain ⟨d, ed, q⟩ := lift_out S1 h1
  unfold rgTup at ed
  split at ed
  · rename_i n hx
    split at ed
    · rename_i hn
      cases ed
      cases hx
      refine ⟨n, r1.int_eq, RgOk.of_le (Int.le_refl 0) hn.2 (by omega) hn.1, fun q' hq => q _ _ (grow_new hq) ?_⟩
      refine Rep.new_tup S1.all hq ?_
      unfold rangeD rgV
      rw [Int.sub_zero]
      exact rgV_rep 0 n.toNat id
    · cases ed
  · cases ed
end
end DL

set_option Elab.async false
set_option linter.all false
set_option maxRecDepth 100000
namespace DL
open PySem PySem.Spec L2
/-! ### enumerate over a tuple -/
set_option maxHeartbeats 1000000 in
theorem en_newT (t : Addr) (its : Array Value) (k : Nat) (dx : Option Addr) (slo : Array (Option Value)) :
    Meets (Builtin.«enumerate.__new__» ⟨[.type "enumerate", .ref t], []⟩) (fun _ R st => st.heap.get? t = some { cls := .type "tuple", dict := dx, data := .seq its k, slots := slo } ∧
      R (.ok (.ret (.ref (st.heap.push { cls := .type "tuple_iterator", data := .fields #[.ref t, .int 0 0] }).objs.size)))
        { st with heap := (st.heap.push { cls := .type "tuple_iterator", data := .fields #[.ref t, .int 0 0] }).push { cls := .type "enumerate", data := .fields #[.none, .bool false, .ref st.heap.objs.size, rawInt 0, .none, .none] } }) :=
  .of_wp fun P w A R st hyp => by
    obtain ⟨h0, g0, d0, k0, o0⟩ := st
    obtain ⟨ht, fin⟩ := hyp
    have hs0 := sub_enumerate
    have isT : Heap.IsTuple (Shared.heap ⟨h0, g0, d0, k0, o0⟩) t its := ⟨_, ht, rfl, k, rfl⟩
    wp_walk using AutoSeq1.wpAny_loadPart' ht
    refine wpAny_stack_any fun stk => wpAny_pure ?_
    split
    · rename_i cc _ _ _ _ _
      cases (cc == Value.type "enumerate")
      · wp_walk using AutoSeq1.wpAny_loadPart' ht, wpAny_pyIter_tuple isT
        exact ⟨_, rfl, fin⟩
      · wp_walk using AutoSeq1.wpAny_loadPart' ht, wpAny_pyIter_tuple isT
        exact ⟨_, rfl, fin⟩
    · wp_walk using AutoSeq1.wpAny_loadPart' ht, wpAny_pyIter_tuple isT
      exact ⟨_, rfl, fin⟩
theorem call_enT {P : Program} {w : World} {A : Around} {E : Value → Shared → Prop} {s : Shared} {t : Addr} {its : Array Value} {Q : Value → Shared → Prop} (hT : s.heap.IsTuple t its)
    (q : ∀ h', IsEnum h' (s.heap.objs.size + 1) s.heap.objs.size 0 .none → h'.IsTupleIter s.heap.objs.size t 0 → h'.objs.size = s.heap.objs.size + 2 → (∀ b o, s.heap.get? b = some o → h'.get? b = some o) → Q (.ref (s.heap.objs.size + 1)) { s with heap := h' }) :
    wpAny (model P w) A (call (.type "enumerate") [.ref t]) Q E s := by
  obtain ⟨⟨cl, dx, dt, slo⟩, ht, e1, k, e2⟩ := hT
  have e1' : cl = .type "tuple" := e1
  have e2' : dt = .seq its k := e2
  subst e1' e2'
  refine callType_new F.called_enumerate (by decide) (F.typeCall_enumerate_1 _) (F.newCall_enumerate_1 _) (fun ob => F.args_object_init_2 ob _) F.entry_enumerate_new (en_newT t its k dx slo) ⟨ht, ?_⟩
  have sz : (s.heap.push { cls := .type "tuple_iterator", data := .fields #[.ref t, .int 0 0] }).objs.size = s.heap.objs.size + 1 := Heap.size_push ..
  show _ ∧ _
  rw [sz]
  have en : IsEnum ((s.heap.push { cls := .type "tuple_iterator", data := .fields #[.ref t, .int 0 0] }).push { cls := .type "enumerate", data := .fields #[.none, .bool false, .ref s.heap.objs.size, rawInt 0, .none, .none] }) (s.heap.objs.size + 1) s.heap.objs.size 0 .none := by
    have z := Heap.get?_push_size (s.heap.push { cls := .type "tuple_iterator", data := .fields #[.ref t, .int 0 0] }) (o := { cls := .type "enumerate", data := .fields #[.none, .bool false, .ref s.heap.objs.size, rawInt 0, .none, .none] }) rfl
    rw [sz] at z
    exact z
  exact ⟨⟨_, en, rfl⟩, q _ en ⟨_, Heap.get?_push_of_some _ (Heap.get?_push_size _ rfl), rfl, rfl⟩ (by rw [Heap.size_push, sz]) fun b o z => Heap.get?_push_of_some _ (Heap.get?_push_of_some _ z)⟩
def IteT (K : PySem.W.Frag) (a : Addr) : It :=
  ⟨fun i H => ∃ (xs : List V) (x : V), SqT K H a xs ∧ xs[i]? = some x, fun i H v H' => ∃ T x, v = .ref T ∧ H T = none ∧ H' = upd H T (.tup [.int (i : Nat), x]) ∧ ∀ xs, SqT K H a xs → xs[i]? = some x, fun i H => ∃ xs : List V, SqT K H a xs ∧ xs.length ≤ i⟩
theorem turn_enT {P : Program} {w : World} {K : PySem.W.Frag} {elts : List Expr} {kk : Nat} {tpos : Pos} (a e it : Addr) (items : Array Value) (hai : a ≠ it) (hea : e ≠ a) :
    Turn P w K (.Tuple elts kk tpos) (IteT K a) [e, it] e (fun i h => (∃ old, IsEnum h e it ((i : Nat) : Int) old) ∧ h.IsTupleIter it a i ∧ e ≠ it) where
  mem := by simp
  obj := fun i h st b hb => by
    obtain ⟨⟨old, he⟩, ⟨o, ho, hc, hd⟩, _⟩ := st
    have e' : b = e ∨ b = it := by simpa using hb
    rcases e' with z | z
    · rw [z]; exact ⟨_, he, fun v q => nomatch q⟩
    · rw [z]; exact ⟨o, ho, fun v q => by rw [hd] at q; cases q⟩
  keep := fun i h h' st k => let ⟨⟨old, he⟩, hi, hne⟩ := st; ⟨⟨old, k e (by simp) _ he⟩, hi.at fun o q => k it (by simp) o q, hne⟩
  item := by
    intro X hP hw hK hc i pins s σ H E I hf st hg
    subst hP hw hK
    obtain ⟨⟨old, he⟩, hit, hne⟩ := st
    obtain ⟨xs, x, hq, hx⟩ := hg
    obtain ⟨its, rv, p, hz⟩ := I.tuple hq
    obtain ⟨u, hu, ru⟩ := rv.get hx
    have hel : e < s.heap.objs.size := Heap.lt_size he
    have hil : it < s.heap.objs.size := by obtain ⟨_, q, _⟩ := hit; exact Heap.lt_size q
    have hlt : i < its.toArray.size := by
      have := List.getElem?_eq_some_iff.mp hu
      obtain ⟨h1, _⟩ := this
      simpa using h1
    have hea' : e ∉ [it, a] := by simp [hne, hea]
    refine wpAny_pyNext_enum_itemD (Draws.tuple (A := X.A.in1) (show X.A.in1.handled = none from I.ok.hd hc) it a hai its.toArray) he ⟨hit, show s.heap.IsTuple a its.toArray from p⟩ hlt hne hea' fun y h' tk hy ho hit' hT hsz hk => ?_
    have hyu : y = u := by
      have : its.toArray[i]? = some u := by simpa using hu
      rw [this] at hy
      exact (Option.some.inj hy).symm
    subst hyu
    refine ⟨_, rfl, wpAny_letOwnedTupleGo_enum (s := { s with heap := h', toks := tk + 1 }) ho fun h'' he' sb => ?_⟩
    have hT2 : h''.get? s.heap.objs.size = some { cls := .type "tuple", data := .seq #[.int i tk, y] } := (sb.2 _ (Nat.ne_of_gt hel)).trans hT
    have new : ObjOk X.prog X.w (upd H s.heap.objs.size (.tup [.int (i : Nat), x])) h'' s.heap.objs.size (.tup [.int (i : Nat), x]) :=
      ⟨by show 2 ≤ sizeLine; decide, [.int i tk, y], .cons ⟨_, rfl⟩ (.cons ru .nil), ⟨_, hT2, rfl, _, rfl⟩⟩
    have I1 : Inv X pins σ (upd H s.heap.objs.size (.tup [.int (i : Nat), x])) { s with heap := h'', toks := tk + 1 } :=
      I.turnedNew (ch := [e, it]) (fun b ob hb q => (sb.2 b (fun z => hb (by simp [z]))).trans (hk b ob (fun z => hb (by simp [z])) (fun z => hb (by simp [z])) q)) hf (Nat.le_refl _) new
    refine ⟨.ref s.heap.objs.size, _, I1, rfl, ⟨_, x, rfl, I.hok.fresh (Nat.le_refl _), rfl, fun ys hy => by rw [I.tuple_inj hy hq]; exact hx⟩, ⟨⟨y, ?_⟩, hit'.1.at fun o q => (sb.2 it (Ne.symm hne)).trans q, hne⟩, fun b hb => ?_⟩
    · have e1 : ((i + 1 : Nat) : Int) = (i : Int) + 1 := by omega
      rw [e1]; exact he'
    · have hb' : b < s.heap.objs.size := by
        have e' : b = e ∨ b = it := by simpa using hb
        rcases e' with z | z
        · rw [z]; exact hel
        · rw [z]; exact hil
      rw [upd_ne (Nat.ne_of_lt hb')]
      exact (hf b hb).1
  done := by
    intro X hP hw hK hc i pins s σ H E I hf st hg
    subst hP hw hK
    obtain ⟨⟨old, he⟩, hit, hne⟩ := st
    obtain ⟨xs, hq, hx⟩ := hg
    obtain ⟨its, rv, p, hz⟩ := I.tuple hq
    obtain ⟨f0, f1, f2, f3, f4, f5⟩ := hf it (by simp)
    have hl := rv.length
    have hT : s.TypeIs (.ref e) "enumerate" := ⟨_, he, rfl⟩
    unfold pyNext
    refine wpAny_bind (wpAny_attempt (wpAny_callSpecial?_slot (name := Str.ofString "__next__") hT F.slot_enumerate_next (wpAny_call_entry F.slot_enumerate_next hT F.entry_enumerate_next ?_ (F.args_enumerate_next_1 _))))
    show wpAny _ _ (field (.ref e) 2 >>= _) _ _ _
    refine wpAny_bind (wpAny_field he rfl (x := .ref it) rfl ?_)
    refine wpAny_bind (RZ.nextOf_tuple_end (I.ok.hd hc) hit (show s.heap.IsTuple a its.toArray from p) (by simp; omega) fun h' x eb hx' => ?_)
    obtain ⟨ob, ho, hcl⟩ := hx'
    refine wpAny_bind (wpAny_isInstance (T := "StopIteration") (b := true) ⟨ob, ho, hcl⟩ isSubtype_stop ?_)
    exact wpAny_pure ⟨rfl, I.turned (t' := s.toks) (fun b o hb q => eb b o hb q) f0 f1 f3 f4 f5⟩
  self := fun A i s Q E st h => let ⟨⟨_, he⟩, _⟩ := st; wpAny_pyIter_enum he h
def iEnT (K : PySem.W.Frag) (ta : TA) : TI := fun σ H R => ta σ H fun vs H1 => ∃ a xs, vs = [.ref a] ∧ SqT K H1 a xs ∧ R (IteT K a) H1
theorem pi_enT {X : Cx} {e : Expr} {ta : TA} {p pos tpos : Pos} {elts : List Expr} {kk : Nat} (hg : Gl X "enumerate") (hm : X.mg "enumerate" = none) (ha : PA X [e] ta) (hs : starEach [e] X.env = [(false, eval e X.env)] := by rfl) :
    PI X (.Tuple elts kk tpos) (.Call (.Name "enumerate" p) [e] [] pos) (iEnT X.K ta) := by
  refine ⟨fun pins s σ H R I h => ?_⟩
  refine PyProof.Rows.Call_ (ld_blt I hg hm PyProof.Rows.boot_enumerate (PyProof.Rows.callWith_type1 (thn (ha.run pos pins s σ H _ I h) fun us s1 ⟨vs, H1, I1, r1, q1⟩ => ?_) hs rfl))
  obtain ⟨a, xs, ex, hq, q⟩ := q1
  subst ex
  cases r1 with
  | cons r rr =>
    cases rr
    cases r
    obtain ⟨its, rv, p', hz⟩ := I1.tuple hq
    have pT : s1.heap.IsTuple a its.toArray := p'
    have hal : a < s1.heap.objs.size := by obtain ⟨o, ho, _⟩ := pT; exact Heap.lt_size ho
    refine call_enT pT fun h' he hit hsz hk => wpAny_pyIter_enum he ?_
    have I2 : Inv X pins σ H1 { s1 with heap := h' } := I1.kept (t' := s1.toks) hk
    refine ⟨s1.heap.objs.size + 1, [s1.heap.objs.size + 1, s1.heap.objs.size], _, _, H1, rfl, I2, turn_enT a (s1.heap.objs.size + 1) s1.heap.objs.size its.toArray (Nat.ne_of_lt hal) (Nat.ne_of_gt (Nat.lt_succ_of_lt hal)), ⟨⟨.none, he⟩, hit, Nat.succ_ne_self _⟩, fun b hb => ?_, q⟩
    have e' : b = s1.heap.objs.size + 1 ∨ b = s1.heap.objs.size := by simpa using hb
    have hle : s1.heap.objs.size ≤ b := by
      rcases e' with z | z
      · rw [z]; exact Nat.le_add_right _ _
      · rw [z]; exact Nat.le_refl _
    exact I1.fpOk hle (I1.hok.fresh hle)
theorem walk_enT {K : PySem.W.Frag} {a : Addr} {xs : List V} : Walk (IteT K a) xs.length (fun H => SqT K H a xs) (YPair (fun i => some (.int (i : Nat))) (fun i => xs[i]?)) := by
  refine ⟨fun i _ hi q => ⟨xs, xs[i], q, by simp [hi]⟩, fun _ q => ⟨xs, q, Nat.le_refl _⟩, fun i H v H' _ q y => ?_⟩
  obtain ⟨T, x, h1, h2, h3, h4⟩ := y
  exact ⟨T, .int (i : Nat), x, h1, h2, h3, rfl, h4 xs q⟩
theorem dw_enT {Γ : Ctx} [NoFz Γ] {K : PySem.W.Frag} {A : List Addr} {H : Hp} {a : Addr} {xs : List V} {ds : List D} (n : a ∉ A) (h : TupO H a xs) (r : RepL Γ (hide A H) ds xs) : DWk Γ A (IteT K a) (enumD ds) H :=
  ⟨_, _, _, walk_enT (K := K) (a := a) (xs := xs), by rw [r.length]; simp [enumD], fun A2 H2 k => TupO.sq (k.seen_tup n h), fun A2 H2 k al i x H3 hi y => by
    have r2 := RepL.keep k _ r
    have hi' : i < ds.length := by rw [← r.length]; exact hi
    obtain ⟨g, rp⟩ := pair_y (Γ := Γ) (d := .int (i : Int)) (e := ds[i]) al y (fun v e => by rw [← Option.some.inj e]; exact Rep.of_int) (fun v e => by
      obtain ⟨d, e1, e2⟩ := r2.getV e
      rw [List.getElem?_eq_getElem hi'] at e1
      rw [Option.some.inj e1]
      exact e2)
    exact ⟨_, by simp [enumD, List.getElem?_mapIdx, hi'], g, rp⟩⟩
section
variable {Γ : Ctx} {W : WX} {X : Cx} {tg e e2 : Expr} {es : List Expr} {fe : SEnv → M D} {fs : SEnv → M (List D)} {pos p : Pos}
/-- a list or a tuple -/
def iSeq (fe : SEnv → M D) : SEnv → M (List D) := fun δ => fe δ >>= fun x => M.lift (seqD x)
theorem pi_or {t t' : TI} (h : PI X tg e t) (h' : PI X tg e t') : PI X tg e (fun σ H K => t σ H K ∨ t' σ H K) := ⟨fun pins s σ H Q I q => q.elim (h.run pins s σ H Q I) (h'.run pins s σ H Q I)⟩
theorem di_seq (he : PE X e (tD Γ W fe)) : PI X tg e (iD Γ W (iSeq fe)) := (pi_or (di_lst (tg := tg) he) (di_tup he)).imp fun σ H K h => by
  obtain ⟨H0, A, B, P, R, δ, S, h⟩ := h
  cases q : fe δ R with
  | ok d R1 =>
    cases d with
    | lst ds =>
      refine .inl ⟨H0, A, B, P, R, δ, S, ?_⟩
      have e1 : iLst fe δ R = iSeq fe δ R := by unfold iLst iSeq; rw [bind_run, bind_run, q]; rfl
      rw [e1]
      exact h
    | tup ds =>
      refine .inr ⟨H0, A, B, P, R, δ, S, ?_⟩
      have e1 : iTpl fe δ R = iSeq fe δ R := by unfold iTpl iSeq; rw [bind_run, bind_run, q]; rfl
      rw [e1]
      exact h
    | _ => unfold iSeq at h; rw [bind_run, q] at h; exact h.elim
  | exn c d R1 =>
    refine .inl ⟨H0, A, B, P, R, δ, S, ?_⟩
    have e1 : iLst fe δ R = iSeq fe δ R := by unfold iLst iSeq; rw [bind_run, bind_run, q]
    rw [e1]
    exact h
  | stuck => unfold iSeq at h; rw [bind_run, q] at h; exact h.elim
def enumTf : List D → Option (List D)
  | [.tup ds] => some (enumD ds)
  | _ => none
def enumAf : List D → Option (List D)
  | [.lst ds] => some (enumD ds)
  | [.tup ds] => some (enumD ds)
  | _ => none
theorem di_enT [NoFz Γ] {tpos : Pos} {elts : List Expr} {kk : Nat} (hg : Gl X "enumerate") (hm : X.mg "enumerate" = none) (ha : PA X [e] (tL Γ W fs)) (hs : starEach [e] X.env = [(false, eval e X.env)] := by rfl) :
    PI X (.Tuple elts kk tpos) (.Call (.Name "enumerate" p) [e] [] pos) (iD Γ W (iCall enumTf fs)) := (pi_enT hg hm ha hs).imp fun σ H K h => by
  obtain ⟨H0, A, B, P, R, δ, S, h⟩ := h
  refine ⟨H0, A, B, P, R, δ, S, igo (γ := Nat) S h fun xs vs R1 H1 m r S1 h1 => ?_⟩
  obtain ⟨ds, e1, q⟩ := ilift h1 S1.row
  unfold enumTf at e1
  split at e1
  · rename_i es
    obtain ⟨v, rfl, r1⟩ := r.one_inv
    have e2 := Option.some.inj e1
    subst e2
    obtain ⟨a, xs, rfl, h2, h3, n⟩ := r1.tup_at
    exact ⟨a, xs, rfl, (h2).sq, q _ (dw_enT n h2 h3)⟩
  · cases e1
theorem di_enumA [NoFz Γ] {tpos : Pos} {elts : List Expr} {kk : Nat} (hg : Gl X "enumerate") (hm : X.mg "enumerate" = none) (ha : PA X [e] (tL Γ W fs)) (hs : starEach [e] X.env = [(false, eval e X.env)] := by rfl) :
    PI X (.Tuple elts kk tpos) (.Call (.Name "enumerate" p) [e] [] pos) (iD Γ W (iCall enumAf fs)) := (pi_or (di_enum (kk := kk) (tpos := tpos) (elts := elts) hg hm ha hs) (di_enT hg hm ha hs)).imp fun σ H K h => by
  obtain ⟨H0, A, B, P, R, δ, S, h⟩ := h
  cases q : fs δ R with
  | ok ds R1 =>
    have h' := h
    unfold iCall at h'
    rw [bind_run, q] at h'
    cases e : enumAf ds with
    | none => simp only [e] at h'; exact h'.elim
    | some es =>
      unfold enumAf at e
      split at e
      · refine .inl ⟨H0, A, B, P, R, δ, S, ?_⟩
        have e1 : iCall enumOf fs δ R = iCall enumAf fs δ R := by unfold iCall; rw [bind_run, bind_run, q]; rfl
        rw [e1]
        exact h
      · refine .inr ⟨H0, A, B, P, R, δ, S, ?_⟩
        have e1 : iCall enumTf fs δ R = iCall enumAf fs δ R := by unfold iCall; rw [bind_run, bind_run, q]; rfl
        rw [e1]
        exact h
      · cases e
  | exn c d R1 =>
    refine .inl ⟨H0, A, B, P, R, δ, S, ?_⟩
    have e1 : iCall enumOf fs δ R = iCall enumAf fs δ R := by unfold iCall; rw [bind_run, bind_run, q]
    rw [e1]
    exact h
  | stuck => unfold iCall at h; rw [bind_run, q] at h; exact h.elim
/-! ### names of the module, built-ins -/
theorem pd_gint {x : Str} {i : Int} (hm : ∃ t, X.mg x = some (.int i t)) (hg : Gl X x := by rfl) (hd : (x == ("__debug__" : Str)) = false := by decide) : PE X (.Name x pos) (tD Γ W fun _ => pure (.int i)) := by
  obtain ⟨t, hm⟩ := hm
  exact pd_c (pe_glob (v := .int i) hg hm ⟨t, rfl⟩ hd) fun _ _ => Rep.of_int
theorem pd_gstr {x z : Str} (hm : ∃ t, X.mg x = some (.str z t)) (hg : Gl X x := by rfl) (hd : (x == ("__debug__" : Str)) = false := by decide) : PE X (.Name x pos) (tD Γ W fun _ => pure (.str z)) := by
  obtain ⟨t, hm⟩ := hm
  exact pd_c (pe_glob (v := .str z) hg hm ⟨t, rfl⟩ hd) fun _ _ => Rep.of_str
theorem pd_callB {x : Str} {id : String} {r : List V → Hp → VK → Prop} {f : List D → Option D} (hc : CallR X (.builtin id) r) (hr : CallD Γ r f) (hm : X.mg x = none) (hv : bootBuiltins x = some (.builtin id)) (ha : PA X (e :: es) (tL Γ W fs)) (hg : Gl X x := by rfl)
    (hn : x ≠ "__name__" := by decide) (hdb : (x == ("__debug__" : Str)) = false := by decide) (he : starEach (e :: es) X.env = (false, eval e X.env) :: starEach es X.env := by rfl) (hpl : (backTo pos (starEach es X.env)).any (·.1) = false := by rfl) :
    PE X (.Call (.Name x p) (e :: es) [] pos) (tD Γ W (dCall f fs)) := (pe_callB hc hg hm hv ha hn hdb he hpl).imp fun _ _ _ h => cb_imp hr h
theorem pd_callTy {x : Str} {id : String} {r : List V → Hp → VK → Prop} {f : List D → Option D} (hc : CallR X (.type id) r) (hr : CallD Γ r f) (hm : X.mg x = none) (hv : bootBuiltins x = some (.type id)) (ha : PA X (e :: es) (tL Γ W fs)) (hg : Gl X x := by rfl)
    (hn : x ≠ "__name__" := by decide) (hdb : (x == ("__debug__" : Str)) = false := by decide) (he : starEach (e :: es) X.env = (false, eval e X.env) :: starEach es X.env := by rfl) (hpl : (backTo pos (starEach es X.env)).any (·.1) = false := by rfl) :
    PE X (.Call (.Name x p) (e :: es) [] pos) (tD Γ W (dCall f fs)) := (pe_callTy hc hg hm hv ha hn hdb he hpl).imp fun _ _ _ h => cb_imp hr h
end
/-! ### one operation on several kinds -/
def orO (f g : D → D → Option D) : D → D → Option D := fun a b => match f a b with
  | some d => some d
  | none => g a b
theorem OpD.or {Γ : Ctx} {r r' : R2} {f g : D → D → Option D} (h : OpD Γ r f) (h' : OpD Γ r' g) : OpD Γ (fun x y H Q => r x y H Q ∨ r' x y H Q) (orO f g) := fun A H x y a b d Q al ra rb e q => by
  unfold orO at e
  cases q1 : f a b with
  | some d' =>
    rw [q1] at e
    exact .inl (h A H x y a b d Q al ra rb (q1.trans e) q)
  | none =>
    rw [q1] at e
    exact .inr (h' A H x y a b d Q al ra rb e q)
def orC (f g : List D → Option D) : List D → Option D := fun a => match f a with
  | some d => some d
  | none => g a
theorem CallD.or {Γ : Ctx} {r r' : List V → Hp → VK → Prop} {f g : List D → Option D} (h : CallD Γ r f) (h' : CallD Γ r' g) : CallD Γ (fun xs H Q => r xs H Q ∨ r' xs H Q) (orC f g) := fun A H xs as d Q al ra e q => by
  unfold orC at e
  cases q1 : f as with
  | some d' =>
    rw [q1] at e
    exact .inl (h A H xs as d Q al ra (q1.trans e) q)
  | none =>
    rw [q1] at e
    exact .inr (h' A H xs as d Q al ra e q)
def oPlus : D → D → Option D
  | .int i, .int j => some (.int (i + j))
  | .lst a, .lst b => oCat (.lst a) (.lst b)
  | .tup a, .tup b => oCatT (.tup a) (.tup b)
  | .str a, .str b => oAddS (.str a) (.str b)
  | _, _ => none
theorem op_plus {X : Cx} : OpR X (binaryOp .Add) (fun x y H Q => (rI0 (fun i j => .int (i + j))) x y H Q ∨ (rCat x y H Q ∨ (rCatA X.K x y H Q ∨ (∃ i j, x = .str i ∧ y = .str j ∧ i.length + j.length ≤ sizeLine ∧ Q (.str (i ++ j)) H)))) := op_add.or (op_cat.or (op_catA.or op_add_str))
theorem od_plus {Γ : Ctx} [NoFz Γ] {K : PySem.W.Frag} : OpD Γ (fun x y H Q => (rI0 (fun i j => .int (i + j))) x y H Q ∨ (rCat x y H Q ∨ (rCatA K x y H Q ∨ (∃ i j, x = .str i ∧ y = .str j ∧ i.length + j.length ≤ sizeLine ∧ Q (.str (i ++ j)) H)))) oPlus := fun A H x y a b d Q al ra rb e q => by
  unfold oPlus at e
  split at e
  · exact .inl (od_add A H x y _ _ d Q al ra rb e q)
  · exact .inr (.inl (od_cat A H x y _ _ d Q al ra rb e q))
  · exact .inr (.inr (.inl (od_catT A H x y _ _ d Q al ra rb e q)))
  · exact .inr (.inr (.inr (od_addS A H x y _ _ d Q al ra rb e q)))
  · cases e
def oRepT : D → D → Option D
  | .tup a, .int k => if a ≠ [] ∧ 2 ≤ k ∧ k ≤ 1000 ∧ a.length ≤ 1000 then some (.tup (List.replicate k.toNat a).flatten) else none
  | _, _ => none
theorem od_repT {Γ : Ctx} [NoFz Γ] {K : PySem.W.Frag} : OpD Γ (rRepT K) oRepT := fun A H x y a b d Q al ra rb e q => by
  cases a <;> cases b <;> simp only [oRepT] at e <;> try (cases e)
  split at e
  · rename_i h
    cases e
    obtain ⟨l, xs, rfl, h1, h2, _⟩ := ra.tup_at
    exact ⟨l, _, xs, rfl, rb.int_eq, h1.sq, fun z => h.1 (by have := h2.length; rw [z] at this; exact List.length_eq_zero_iff.mp this.symm), h.2.1, h.2.2.1, by rw [h2.length]; exact h.2.2.2, fun p hp => q _ _ (grow_new hp) (Rep.new_tup al hp (h2.rep _))⟩
  · cases e
def oTimes : D → D → Option D
  | .int i, .int j => oMul (.int i) (.int j)
  | .lst a, .int k => oRep (.lst a) (.int k)
  | .tup a, .int k => oRepT (.tup a) (.int k)
  | _, _ => none
theorem op_times {X : Cx} : OpR X (binaryOp .Mult) (fun x y H Q => (rI CMul (fun i j => .int (i * j))) x y H Q ∨ (rRep x y H Q ∨ rRepT X.K x y H Q)) := op_mul.or (op_rep.or op_repT)
theorem od_times {Γ : Ctx} [NoFz Γ] {K : PySem.W.Frag} : OpD Γ (fun x y H Q => (rI CMul (fun i j => .int (i * j))) x y H Q ∨ (rRep x y H Q ∨ rRepT K x y H Q)) oTimes := fun A H x y a b d Q al ra rb e q => by
  unfold oTimes at e
  split at e
  · exact .inl (od_mul A H x y _ _ d Q al ra rb e q)
  · exact .inr (.inl (od_rep A H x y _ _ d Q al ra rb e q))
  · exact .inr (.inr (od_repT A H x y _ _ d Q al ra rb e q))
  · cases e
/-! ### in: flat items, deep lists, texts -/
theorem hu65 {k : Nat} {A : Around} (r : Room k A) : A.units + 65 < cLine := by have := r.un; omega
def oInD : D → D → Option D
  | x, .lst ds => if okEq x && okEq (.lst ds) then some (.bl ((toPys ds).any fun z => PyData.eqv z (toPy x))) else none
  | _, _ => none
def oNotInD : D → D → Option D
  | x, .lst ds => if okEq x && okEq (.lst ds) then some (.bl (!(toPys ds).any fun z => PyData.eqv z (toPy x))) else none
  | _, _ => none
theorem od_inD {Γ : Ctx} {K : PySem.W.Frag} : OpD Γ (rInD K) oInD := fun A H x y a b d Q al ra rb e q => by
  cases b <;> simp only [oInD] at e <;> try (cases e)
  rename_i ds
  split at e
  · rename_i h
    simp only [okEq, Bool.and_eq_true] at h
    cases e
    have e1 : Dp K H y (.list (toPys ds)) := by have z := Rep.dp (K := K) (.lst ds) rb h.2.1; rw [toPy] at z; exact z
    exact ⟨_, _, Rep.dp a ra h.1.1, e1, h.1.2, by have z := h.2.2; rw [toPy] at z; exact z, q _ H .refl Rep.of_bl⟩
  · cases e
theorem od_notInD {Γ : Ctx} {K : PySem.W.Frag} : OpD Γ (rNotInD K) oNotInD := fun A H x y a b d Q al ra rb e q => by
  cases b <;> simp only [oNotInD] at e <;> try (cases e)
  rename_i ds
  split at e
  · rename_i h
    simp only [okEq, Bool.and_eq_true] at h
    cases e
    have e1 : Dp K H y (.list (toPys ds)) := by have z := Rep.dp (K := K) (.lst ds) rb h.2.1; rw [toPy] at z; exact z
    exact ⟨_, _, Rep.dp a ra h.1.1, e1, h.1.2, by have z := h.2.2; rw [toPy] at z; exact z, q _ H .refl Rep.of_bl⟩
  · cases e
abbrev oInA : D → D → Option D := orO oIn oInD
abbrev oNotInA : D → D → Option D := orO oNotIn oNotInD
theorem op_inA {X : Cx} (hu : X.A.units + 65 < cLine) : OpR X (compareOp .In) (fun x y H Q => rIn X.K false x y H Q ∨ rInD X.K x y H Q) := op_in_seq.or (op_inD hu)
theorem op_notInA {X : Cx} (hu : X.A.units + 65 < cLine) : OpR X (compareOp .NotIn) (fun x y H Q => rIn X.K true x y H Q ∨ rNotInD X.K x y H Q) := op_notIn_seq.or (op_notInD hu)
theorem od_inA {Γ : Ctx} {K : PySem.W.Frag} : OpD Γ (fun x y H Q => rIn K false x y H Q ∨ rInD K x y H Q) oInA := od_in.or od_inD
theorem od_notInA {Γ : Ctx} {K : PySem.W.Frag} : OpD Γ (fun x y H Q => rIn K true x y H Q ∨ rNotInD K x y H Q) oNotInA := od_notIn.or od_notInD
/-! ### int, str, abs, sum -/
def fIntS : List D → Option D
  | [.str z] => match PySem.intText? z with
    | some n => if z.length ≤ 640 then some (.int n) else none
    | none => none
  | _ => none
theorem cd_intS {Γ : Ctx} : CallD Γ (fun xs H Q => ∃ a n, xs = [.str a] ∧ PySem.intText? a = some n ∧ a.length ≤ 640 ∧ Q (.int n) H) fIntS := fun A H xs as d Q al r e q => by
  unfold fIntS at e
  split at e
  · obtain ⟨v, rfl, r1⟩ := r.one_inv
    split at e
    · split at e
      · cases e
        exact ⟨_, _, by rw [r1.str_eq], by assumption, by assumption, q _ H .refl Rep.of_int⟩
      · cases e
    · cases e
  · cases e
abbrev fIntA : List D → Option D := orC fInt fIntS
theorem cr_int {X : Cx} : CallR X (.type "int") (fun xs H Q => ((∃ i, xs = [.int i] ∧ Q (.int i) H) ∨ ∃ k, xs = [.bl k] ∧ Q (.int (if k then 1 else 0)) H) ∨ ∃ a n, xs = [.str a] ∧ PySem.intText? a = some n ∧ a.length ≤ 640 ∧ Q (.int n) H) := call_int1.or call_int_str
theorem cd_intA {Γ : Ctx} : CallD Γ (fun xs H Q => ((∃ i, xs = [.int i] ∧ Q (.int i) H) ∨ ∃ k, xs = [.bl k] ∧ Q (.int (if k then 1 else 0)) H) ∨ ∃ a n, xs = [.str a] ∧ PySem.intText? a = some n ∧ a.length ≤ 640 ∧ Q (.int n) H) fIntA := cd_int.or cd_intS
def fAbs : List D → Option D
  | [.int i] => some (.int (if i < 0 then -i else i))
  | _ => none
theorem cd_abs {Γ : Ctx} : CallD Γ (fun xs H Q => ∃ i, xs = [.int i] ∧ Q (.int (if i < 0 then -i else i)) H) fAbs := fun A H xs as d Q al r e q => by
  unfold fAbs at e
  split at e
  · obtain ⟨v, rfl, r1⟩ := r.one_inv
    cases e
    exact ⟨_, by rw [r1.int_eq], q _ H .refl Rep.of_int⟩
  · cases e
def fStr : List D → Option D
  | [.int i] => if i.natAbs.log2 < 1920 then some (.str (toString i : Str)) else none
  | _ => none
theorem cd_str {Γ : Ctx} : CallD Γ (fun xs H Q => ∃ i : Int, xs = [.int i] ∧ i.natAbs.log2 < 1920 ∧ Q (.str (toString i)) H) fStr := fun A H xs as d Q al r e q => by
  unfold fStr at e
  split at e
  · obtain ⟨v, rfl, r1⟩ := r.one_inv
    split at e
    · cases e
      exact ⟨_, by rw [r1.int_eq], by assumption, q _ H .refl Rep.of_str⟩
    · cases e
  · cases e
/-! ### a statement, an expression that is never reached -/
def mDead {α : Type} : SEnv → M α := fun _ => M.stuck
def sDead : SM := fun _ _ => .stuck
theorem pd_dead {Γ : Ctx} {W : WX} {X : Cx} {e : Expr} : PE X e (tD Γ W mDead) := ⟨fun pins s σ H Q I h => by obtain ⟨_, _, _, _, _, _, _, h⟩ := h; exact h.elim⟩
theorem ds_dead {Γ : Ctx} {W : WX} {X : Cx} {st : List Stmt} : PSs X st (tS Γ W sDead) := ⟨fun pins s σ H Q I h => by obtain ⟨_, _, _, _, _, _, _, h⟩ := h; exact h.elim⟩
theorem ds_dead1 {Γ : Ctx} {W : WX} {X : Cx} {st : Stmt} : PS X st (tS Γ W sDead) := ⟨fun pins s σ H Q I h => by obtain ⟨_, _, _, _, _, _, _, h⟩ := h; exact h.elim⟩
end DL

set_option Elab.async false
set_option linter.all false
set_option maxRecDepth 100000
namespace DL
open PySem PySem.Spec L2
/-! ### making a web -/
section
variable {X : Cx} {CX : CXT} {k : Nat} {f C : Addr} {fd : FuncData} {ps : List Str} {sp : Sp} {E : L2.St → XK} {x : Str} {p pos : Pos} {e : Expr} {es : List Expr} {t : TA}
def tMakeS (C : Addr) (sp : Sp) (E : L2.St → XK) (t : TA) : TE := fun σ H Q => t σ H fun vs H1 => ∀ x dx, H1 x = none → H1 dx = none → dx ≠ x →
  sp (.ref x :: vs) (upd (upd H1 dx (.own x)) x (.ins C dx [])) (fun v H2 => v = .non ∧ Q (.ref x) H2) (E σ)
theorem run_makeS {pins : List (Addr × Obj)} {σ : L2.St} {H : Hp} {s : Shared} {Q : VK} {us : List Value} {vs : List V} (M : Mk X.K C f) (F : FnOk X.prog X.w X.K X.mg X.base CX k f fd ps sp) (hr : Room (k + 1) X.A) (hb : Binds X.K fd ps []) (hx : PassesAt CX X σ (E σ))
    (I : Inv X pins σ H s) (r : Vals vs us) (h : ∀ x dx, H x = none → H dx = none → dx ≠ x → sp (.ref x :: vs) (upd (upd H dx (.own x)) x (.ins C dx [])) (fun v H2 => v = .non ∧ Q (.ref x) H2) (E σ)) :
    wpAny (model X.prog X.w) X.A (call (.ref C) us) (EP X pins σ Q) X.xe s := by
  have want := h (s.heap.objs.size + 1) s.heap.objs.size (I.hok.fresh (Nat.le_succ _)) (I.hok.fresh (Nat.le_refl _)) (Nat.ne_of_lt (Nat.lt_succ_self _))
  have J := Inv.made (C := C) I
  have rr : Vals (V.ref (s.heap.objs.size + 1) :: vs) (Value.ref (s.heap.objs.size + 1) :: us) := .cons rfl r
  have len : ((Value.ref (s.heap.objs.size + 1) :: us) ++ []).length = ps.length := by
    rw [List.append_nil, ← rr.length]
    exact F.len _ _ _ _ want
  have bb := hb _ (Value.ref (s.heap.objs.size + 1) :: us) J.kIn len
  rw [List.append_nil] at bb
  refine wpAny_call (make_map (f := f) I.kIn M.makes M.init (beq_iff_eq.mp M.fn) (codeAny_mono (F.run _ X.stack _ _ ⟨Value.ref (s.heap.objs.size + 1) :: us, []⟩ _ _ _ (E σ) (hr.make C us []) (J.env0.make C us []) bb rr want) fun res s' got => ?_))
  cases res with
  | error ev => exact hx pins _ _ ev s' J got
  | ok fl =>
    cases fl with
    | ret u =>
      obtain ⟨v, H', J3, rv, ev, fin⟩ := J.after got
      subst ev
      exact ⟨rv, ⟨V.ref (s.heap.objs.size + 1), H', J3, rfl, fin⟩⟩
    | next => exact False.elim got
    | brk => exact False.elim got
    | cont => exact False.elim got
theorem pe_makeS (M : Mk X.K C f) (F : FnOk X.prog X.w X.K X.mg X.base CX k f fd ps sp) (hr : Room (k + 1) X.A) (hg : Gl X x) (hm : X.mg x = some (.ref C)) (hb : Binds X.K fd ps []) (hx : ∀ σ, PassesAt CX X σ (E σ))
    (ha : PA X (e :: es) t) (hdb : (x == ("__debug__" : Str)) = false := by decide) (he : starEach (e :: es) X.env = (false, eval e X.env) :: starEach es X.env := by rfl) (hpl : (backTo pos (starEach es X.env)).any (·.1) = false := by rfl) :
    PE X (.Call (.Name x p) (e :: es) [] pos) (tMakeS C sp E t) := by
  refine ⟨fun pins s σ H Q I h => ?_⟩
  refine wpAny_Call_Name_kw (ld_glob I hg hm ?_ hdb)
  refine PySem.W.callWith_K (h₀ := X.base) I.ok.mod.kin M.kp (thn (ha.run pos pins s σ H _ I h) fun us s1 ⟨vs, H1, J, r, q⟩ => ⟨J.kIn, ?_⟩) he hpl
  exact run_makeS M F hr hb (hx σ) J r q
end
theorem Ext.updB {Γ : Ctx} {A : List Addr} {H H1 : Hp} {x : Addr} {o : HO} (e : Ext Γ A H H1) (h : x ∈ A) (ho : nx o) : Ext Γ A H (upd H1 x o) :=
  ⟨fun b u n q s => by rw [upd_ne (fun z => n (by rw [z]; exact h))]; exact e.st b u n q s, fun b u n m q => by rw [upd_ne (fun z => n (by rw [z]; exact h))]; exact e.ex b u n m q, fun b kvs n q => by rw [upd_ne (fun z => n (by rw [z]; exact h))]; exact e.ca b kvs n q, fun b u q => by
    by_cases z : b = x
    · rw [z, upd_same]; exact ⟨_, rfl, fun _ => ho⟩
    · rw [upd_ne z]; exact e.al b u q⟩
theorem PairsR.of_rep {Γ : Ctx} {H : Hp} : ∀ {ss : List (Int × Int)} {xs : List V}, RepL Γ H (ss.map pairD) xs → PairsR H ss xs
  | [], xs, h => by
    rw [List.map_nil, RepL_nil] at h
    subst h
    exact trivial
  | s :: ss, xs, h => by
    rw [List.map_cons, RepL_cons] at h
    obtain ⟨v, ws, rfl, h1, h2⟩ := h
    refine ⟨?_, PairsR.of_rep h2⟩
    unfold pairD at h1
    rw [Rep_tup] at h1
    obtain ⟨a, ys, rfl, e1, e2⟩ := h1
    obtain ⟨u, w, rfl, r1, r2⟩ := e2.two_inv
    rw [r1.int_eq, r2.int_eq] at e1
    exact ⟨a, rfl, e1.o⟩
def spWeb (Γ : Ctx) (F : List D → M D) : Sp := fun vs H Q E => ∃ x dx ws ds R A, vs = .ref x :: ws ∧ RepL Γ (hide A H) ds ws ∧ ds.length = 2 ∧ RowOk Γ H R ∧ (∀ a ∈ rAddr R, a ∈ A) ∧ All A H ∧ SqL Γ.K H Γ.scr (Γ.cells.map V.int) ∧ (Γ.scr ∈ rAddr R → ScrK Γ) ∧ H x = some (.ins Γ.web dx []) ∧ x ∈ A ∧
  (F ds R).run (fun d R' => match d with
      | .web n ss => ∀ H' t q xs, Ext Γ (x :: rAddr R) H H' → RowOk Γ H' R' → rAddr R' = rAddr R → H' x = some (.ins Γ.web dx (webF n t q)) → TupO H' t xs → PairsR (hide A H') ss xs → t ∉ A → H' q = some (.dT []) → q ∉ A → Q .non H'
      | _ => False)
    (fun c d R' => ∀ v dx H', Mv Γ (rAddr R) R R' H H' → H' dx = some (.xd [(("value" : Str), v)]) → Rep Γ (hide A H') d v → E (.ref (Γ.cls c)) (some dx) H')
structure CalW (P : Program) (w : World) (K : PySem.W.Frag) (mg : Str → Option Value) (base : Heap) (Γ : Ctx) (k : Nat) (F : List D → M D) : Prop where
  ex : ∃ (f : Addr) (fd : FuncData) (ps : List Str), FnOk P w K mg base (L2.CX P w) k f fd ps (spWeb Γ F) ∧ Mk K Γ.web f ∧ L2.Binds K fd ps []
def onlyWeb : D → M D
  | .web n ss => pure (.web n ss)
  | _ => M.stuck
def dWeb (F : List D → M D) (fs : SEnv → M (List D)) : SEnv → M D := fun δ => fs δ >>= fun ds => if ds.length = 2 then F ds >>= onlyWeb else M.stuck
section
variable {Γ : Ctx} {W : WX} {X : Cx} {e : Expr} {es : List Expr} {fs : SEnv → M (List D)} {pos p : Pos} {k : Nat} {F : List D → M D}
theorem web_imp {σ : L2.St} {H : Hp} {Q : VK} (h : tD Γ W (dWeb F fs) σ H Q) : tMakeS Γ.web (spWeb Γ F) (WE W) (tL Γ W fs) σ H Q := by
  obtain ⟨H0, A, B, P, R, δ, S, h⟩ := h
  refine ⟨H0, A, B, P, R, δ, S, go S h fun ds vs R1 H1 m1 r1 S1 h1 => ?_⟩
  split at h1
  · rename_i hn
    intro x dx hx hdx ne
    have hdx' : (upd H1 dx (.own x)) x = none := by rw [upd_ne (fun z => ne z.symm)]; exact hx
    have gr : ∀ b o, H1 b = some o → (upd (upd H1 dx (.own x)) x (.ins Γ.web dx [])) b = some o := fun b o q => by
      rw [upd_ne (ne_of_none q hx), upd_ne (ne_of_none q hdx)]
      exact q
    have wk : WebsOk Γ (upd (upd H1 dx (.own x)) x (.ins Γ.web dx [])) := WebsOk.newI (S1.row.1.2.2.grow (grow_new hdx)) hdx' (by simp)
    have nA : x ∉ A ++ P := fun z => by obtain ⟨o, q, _⟩ := S1.all x z; rw [hx] at q; cases q
    refine ⟨x, dx, vs, ds, R1, x :: (A ++ P), rfl, ?_, hn, S1.row.grow2 gr wk, fun a ha => List.mem_cons_of_mem _ (List.mem_append_left _ (S1.ra a ha)), ?_, ?_, fun z => S1.sb (S1.rb _ z), upd_same, List.mem_cons_self, ?_⟩
    · refine RepL.keep ?_ _ r1
      refine Keeps.of fun b o q => ?_
      obtain ⟨n, q⟩ := hide_some q
      rw [hide_out (fun z => by
        rcases List.mem_cons.mp z with z | z
        · rw [z, hx] at q; cases q
        · exact n z)]
      exact gr b o q
    · intro a ha
      rcases List.mem_cons.mp ha with z | z
      · rw [z]; exact ⟨_, upd_same, nx_ins⟩
      · obtain ⟨o, q, n⟩ := S1.all a z
        exact ⟨o, gr a o q, n⟩
    · exact SqL.grow gr S1.scr
    · have nb : ∀ {b o}, H1 b = some o → b ∉ B → b ∉ x :: rAddr R1 := fun {b o} q n z => by
        rcases List.mem_cons.mp z with z | z
        · rw [z, hx] at q; cases q
        · exact n (S1.rb b z)
      have up : ∀ {H2}, Ext Γ (x :: rAddr R1) (upd (upd H1 dx (.own x)) x (.ins Γ.web dx [])) H2 → Ext Γ B H1 H2 := fun {H2} m => ⟨fun b o n q s => m.st b o (nb q n) (gr b o q) s, fun b φ n m1 q => m.ex b φ (nb q n) m1 (gr b _ q), fun b kvs n q => m.ca b kvs (nb q n) (gr b _ q), fun b o q => m.al b o (gr b o q)⟩
      refine Out.run_mono (run_bind.mp h1) (fun d R2 _ q => ?_) fun c d R2 _ q v dx2 H2 m2 hx2 r2 => q v dx2 H2 ⟨up (m2.ext.mono fun a h => List.mem_cons_of_mem _ h), m2.row, m2.adr⟩ hx2 (Rep.keep (hide_keeps fun a ha => List.mem_cons_of_mem _ ha) _ r2)
      cases d with
      | web n ss =>
        intro H2 t q' xs ex row adr hx2 ht hp nt hq nq
        refine ⟨rfl, q (.ref x) H2 ⟨up ex, row, adr⟩ ?_⟩
        rw [Rep]
        refine ⟨x, dx, t, q', xs, [], rfl, by rw [hide_out nA]; exact hx2, ht.hide fun z => nt (List.mem_cons_of_mem _ z), ?_, by rw [hide_out fun z => nq (List.mem_cons_of_mem _ z)]; exact hq⟩
        exact hp.imp (hide_keeps (Γ := Γ) fun a ha => List.mem_cons_of_mem _ ha).tup
      | _ => exact q.elim
  · exact h1.elim
theorem pd_web (T : WebF X.K X.mg Γ) (C : CalW X.prog X.w X.K X.mg X.base Γ k F) (hr : Room (k + 1) X.A) (tk : Takes X W) (ha : PA X (e :: es) (tL Γ W fs)) (hg : Gl X "Web" := by rfl)
    (he : starEach (e :: es) X.env = (false, eval e X.env) :: starEach es X.env := by rfl) (hpl : (backTo pos (starEach es X.env)).any (·.1) = false := by rfl) :
    PE X (.Call (.Name "Web" p) (e :: es) [] pos) (tD Γ W (dWeb F fs)) := by
  obtain ⟨f, fd, ps, ok, mk, b⟩ := C.ex
  exact (pe_makeS mk ok hr hg T.gW b (fun σ => passAt tk σ) ha (by decide) he hpl).imp fun _ _ _ h => web_imp h
/-! ### Web.__init__ -/
/-- a statement of the layer, then a raw rest -/
def tThen (Γ : Ctx) (W : WX) (f : SM) (t : TS) : TS := fun Dn σ H => ∃ H0 A B P R δ, RepS Γ H0 A B P R H σ δ ∧ AllK Γ W H0 A B P R H { Dn with nx := t Dn } (f δ R)
theorem then_seq {f g : SM} {t : TS} {Dn : Ends} {σ : L2.St} {H : Hp} (h : tThen Γ W (sSeq f g) t Dn σ H) : tThen Γ W f (tThen Γ W g t) Dn σ H := by
  obtain ⟨H0, A, B, P, R, δ, S, h⟩ := h
  refine ⟨H0, A, B, P, R, δ, S, ?_⟩
  unfold sSeq at h
  cases e : f δ R with
  | nx δ' R' =>
    rw [e] at h
    intro σ' H' P' s S'
    exact ⟨H0, A, B, P', R', δ', S', AllK.later s h⟩
  | rt d R' => rw [e] at h; exact h
  | bk δ' R' => rw [e] at h; exact h
  | ct δ' R' => rw [e] at h; exact h
  | ex c d R' => rw [e] at h; exact h
  | stuck => rw [e] at h; exact h.elim
theorem ds_then {st : Stmt} {rest : List Stmt} {f : SM} {t : TS} (h1 : PS X st (tS Γ W f)) (h2 : PSs X rest t) : PSs X (st :: rest) (tThen Γ W f t) := (pss_cons h1 h2).imp fun Dn σ H h => h
/-- self.coins = coins; self.strings = tuple(strings); self.worths = {} -/
def tInit (Γ : Ctx) : TS := fun Dn σ H => ∃ x dx vc p ys, σ[0]? = some (some (.ref x)) ∧ σ[1]? = some (some vc) ∧ σ[2]? = some (some (.ref p)) ∧ H x = some (.ins Γ.web dx []) ∧ (H p = some (.lst ys) ∨ TupO H p ys) ∧
  ∀ H3 t q, (∀ b o, b ≠ x → H b = some o → H3 b = some o) → H3 x = some (.ins Γ.web dx [(("coins" : Str), vc), (("strings" : Str), V.ref t), (("worths" : Str), V.ref q)]) → TupO H3 t ys → (t = p ∨ H t = none) → H q = none → H3 q = some (.dT []) → (∀ b C dx fs, b ≠ x → H3 b = some (.ins C dx fs) → H b = some (.ins C dx fs)) → Dn.nx σ H3
theorem ps_init (T : WebF X.K X.mg Γ) {sp cp p1 p2 p3 p4 p5 p6 p7 p8 p9 p10 p11 : Pos} (n0 : X.N[0]? = some ("self" : Str)) (n1 : X.N[1]? = some ("coins" : Str)) (n2 : X.N[2]? = some ("strings" : Str)) (v0 : Vis X.env.scope "self") (v1 : Vis X.env.scope "coins") (v2 : Vis X.env.scope "strings") (hm : X.mg "tuple" = none)
    (hg : Gl X "tuple" := by rfl) (s1 : swapsWith (.Name "coins" cp) (some (.Attribute (.Name "self" p1) "coins" p2)) p3.line X.env = pure false := by rfl)
    (s2 : swapsWith (.Call (.Name "tuple" p7) [.Name "strings" p8] [] p9) (some (.Attribute (.Name "self" p4) "strings" p5)) p6.line X.env = pure false := by rfl)
    (he : starEach [.Name "strings" p8] X.env = (false, eval (.Name "strings" p8) X.env) :: starEach [] X.env := by rfl) {p12 : Pos}
    (s4 : swapsWith (.Dict [] [] p10) (some (.Attribute (.Name "self" sp) "worths" p11)) p12.line X.env = pure false := by rfl) :
    PSs X [.Assign [.Attribute (.Name "self" p1) "coins" p2] (.Name "coins" cp) p3, .Assign [.Attribute (.Name "self" p4) "strings" p5] (.Call (.Name "tuple" p7) [.Name "strings" p8] [] p9) p6, .Assign [.Attribute (.Name "self" sp) "worths" p11] (.Dict [] [] p10) p12] (tInit Γ) := by
  refine (pss_cons (ps_fld (pe_var n0 v0) (pe_var n1 v1) s1) (pss_cons (ps_fld (pe_var n0 v0) (pe_callTy call_tuple_of hg hm (by decide +kernel) (pa_cons (pe_var n2 v2) pa_nil he) (by decide) (by decide) he) s2) (pss_one (ps_fld (pe_var n0 v0) pe_dnewT s4)))).imp fun Dn σ H h => ?_
  obtain ⟨x, dx, vc, p, ys, e0, e1, e2, hx, hp, fin⟩ := h
  have px : p ≠ x := fun z => by
    rcases hp with hp | hp | ⟨_, _, hp⟩ <;> (rw [z, hx] at hp; cases hp)
  refine ⟨vc, e1, .ref x, e0, x, Γ.web, dx, _, rfl, hx, T.cl, T.nC, by simp, ?_⟩
  have eq1 : putF ("coins" : Str) vc [] = [(("coins" : Str), vc)] := rfl
  rw [eq1]
  have tail : ∀ (Ha : Hp) (t : Addr), (∀ b o, b ≠ x → H b = some o → Ha b = some o) → Ha x = some (.ins Γ.web dx [(("coins" : Str), vc)]) → TupO Ha t ys → (t = p ∨ H t = none) → t ≠ x → (∀ b, Ha b = none → H b = none) → (∀ b C dx fs, b ≠ x → Ha b = some (.ins C dx fs) → H b = some (.ins C dx fs)) →
      ∃ v, σ[0]? = some (some v) ∧ ∃ a C dx fs, v = .ref a ∧ Ha a = some (.ins C dx fs) ∧ Cls X.K C ∧ NoAttr X.K C "strings" ∧ fs.length < 1000 ∧ (tDNewT σ (upd Ha a (.ins C dx (putF "strings" (.ref t) fs))) fun y H1 => ∃ v, σ[0]? = some (some v) ∧ ∃ a C dx fs, v = .ref a ∧ H1 a = some (.ins C dx fs) ∧ Cls X.K C ∧ NoAttr X.K C "worths" ∧ fs.length < 1000 ∧ Dn.nx σ (upd H1 a (.ins C dx (putF "worths" y fs)))) := by
    intro Ha t k1 k2 k3 k4 k5 k6 k7
    refine ⟨.ref x, e0, x, Γ.web, dx, _, rfl, k2, T.cl, T.nS, by simp, fun q hq => ⟨.ref x, e0, x, Γ.web, dx, putF ("strings" : Str) (.ref t) [(("coins" : Str), vc)], rfl, ?_, T.cl, T.nW, ?_, ?_⟩⟩
    · have nq : x ≠ q := fun z => by rw [← z, upd_same] at hq; cases hq
      rw [upd_ne nq, upd_same]
    · rw [show putF ("strings" : Str) (V.ref t) [(("coins" : Str), vc)] = [(("coins" : Str), vc), (("strings" : Str), V.ref t)] from rfl]
      simp
    · have nq : x ≠ q := fun z => by rw [← z, upd_same] at hq; cases hq
      have hq2 : Ha q = none := by rw [upd_ne (fun z => nq z.symm)] at hq; exact hq
      have ntq : t ≠ q := fun z => by
        obtain ⟨_, e⟩ := k3.some
        rw [← z, e] at hq2
        cases hq2
      refine fin _ t q (fun b o nb hb => ?_) ?_ ?_ k4 (k6 q hq2) ?_ (fun b C dx' fs nb hb => ?_)
      · have nbq : b ≠ q := fun z => by rw [z, k6 q hq2] at hb; cases hb
        rw [upd_ne nb, upd_ne nbq, upd_ne nb]
        exact k1 b o nb hb
      · rw [upd_same]
        have eq2 : putF ("worths" : Str) (V.ref q) (putF ("strings" : Str) (V.ref t) [(("coins" : Str), vc)]) = [(("coins" : Str), vc), (("strings" : Str), V.ref t), (("worths" : Str), V.ref q)] := by rfl
        rw [eq2]
      · exact k3.congr fun o e => by rw [upd_ne k5, upd_ne ntq, upd_ne k5]; exact e
      · rw [upd_ne (fun z => nq z.symm), upd_same]
      · rw [upd_ne nb] at hb
        by_cases z : b = q
        · rw [z, upd_same] at hb; cases hb
        · rw [upd_ne z, upd_ne nb] at hb; exact k7 b C dx' fs nb hb
  refine ⟨.ref p, e2, p, ys, rfl, ?_⟩
  have h1 : ∀ b o, b ≠ x → H b = some o → upd H x (.ins Γ.web dx [(("coins" : Str), vc)]) b = some o := fun b o nb hb => by rw [upd_ne nb]; exact hb
  have h2 : ∀ b, upd H x (.ins Γ.web dx [(("coins" : Str), vc)]) b = none → H b = none := fun b hb => by
    by_cases z : b = x
    · rw [z, upd_same] at hb; cases hb
    · rw [upd_ne z] at hb; exact hb
  rcases hp with hp | hp
  · refine .inl ⟨SqL.of (h1 p _ px hp), fun l hl => ?_⟩
    have nl : l ≠ x := fun z => by rw [z, upd_same] at hl; cases hl
    refine tail _ l (fun b o nb hb => ?_) ?_ (.inl upd_same) (.inr (h2 l hl)) nl (fun b hb => ?_) fun b C dx' fs nb hb => ?_
    · rw [upd_ne (fun z => by rw [z, h2 l hl] at hb; cases hb)]
      exact h1 b o nb hb
    · rw [upd_ne (fun z => nl z.symm), upd_same]
    · by_cases z : b = l
      · rw [z, upd_same] at hb; cases hb
      · rw [upd_ne z] at hb; exact h2 b hb
    · by_cases z : b = l
      · rw [z, upd_same] at hb; cases hb
      · rw [upd_ne z, upd_ne nb] at hb; exact hb
  · exact .inr ⟨TupO.sq (hp.congr fun o => h1 p o px), tail _ p h1 upd_same (hp.congr fun o => h1 p o px) (.inl rfl) px h2 fun b C dx' fs nb hb => by rw [upd_ne nb] at hb; exact hb⟩
end
def WebSem (x : Addr) (o : Out D) (so : SOut) : Prop := match o with
  | .ok (.web n ss) R' => ∃ δ', so = .nx δ' R' ∧ δ'[0]? = some (.dat (.row x)) ∧ δ'[1]? = some (.dat (.int n)) ∧ (δ'[2]? = some (.dat (.lst (ss.map pairD))) ∨ δ'[2]? = some (.dat (.tup (ss.map pairD))))
  | .ok _ _ => True
  | .exn c d R' => so = .ex c d R'
  | .stuck => True
theorem calW_mk {Γ : Ctx} {P : Program} {w : World} {K : PySem.W.Frag} {mg : Str → Option Value} {base : Heap} {params : Arguments} {body : List Stmt} {scope : Scope} {f : Addr} {fd : FuncData} {N ps : List Str} {k : Nat} {F : List D → M D} (FD : FunD K "__init__" "Web.__init__" params body scope [] [] f fd) (M : Mk K Γ.web f) (S : FnScope N ps scope) (hps : ps.length = 3) (hb : L2.Binds K fd ps [])
    (hbody : ∀ (cdv : Value) (A : Around) (outer : List Env) (s : Shared) (H : Hp) (E : XK), Room k (A.deeper (PyProof.Rows.envOfC "Web.__init__" scope s.heap.objs.size f cdv)) →
      ∃ sem, PSs (cxOf (L2.CX P w) P w K mg base N "Web.__init__" scope f cdv A outer s H E) body (tThen Γ (WD E) sem (tInit Γ)) ∧ ∀ x ds R, ds.length = 2 → WebSem x (F ds R) (sem (startD N (.row x :: ds)) R)) : CalW P w K mg base Γ (k + 1) F := by
  refine ⟨f, fd, ps, FD.ok S (fun vs H Q E h => ?_) (fun cdv A outer s H vs Q E hr h => ?_), M, hb⟩
  · obtain ⟨x, dx, ws, ds, R, A, rfl, r, hn, _⟩ := h
    rw [List.length_cons, r.length, hn, hps]
  · obtain ⟨sem, h1, h2⟩ := hbody cdv A outer s H E hr
    refine ⟨_, h1, ?_⟩
    obtain ⟨x, dx, ws, ds, R, A0, rfl, r, hn, row, ra, al, sc, sb, hx, xA, h⟩ := h
    have nB : x ∉ rAddr R := fun z => by
      cases R with
      | none => cases z
      | some rw0 =>
        have e : x = rw0.addr := by simpa [rAddr] using z
        have e2 : H rw0.addr = _ := row.2
        rw [← e, hx] at e2
        cases e2
    have rr : RepL Γ (hide A0 H) (.row x :: ds) (.ref x :: ws) := RepL_cons.mpr ⟨_, _, rfl, by rw [Rep], r⟩
    have hl := rr.length
    have S0 : RepS Γ H A0 (rAddr R) [] R H (L2.start N (.ref x :: ws)) (startD N (.row x :: ds)) := {
      row := row
      ra := ra
      ba := ra
      rb := fun _ h => h
      al := al
      sc := sc
      sb := sb
      ext := .refl
      own := fun p hp => by cases hp
      nd := .nil
      slots := by
        rw [List.append_nil]
        unfold L2.start startD
        rw [hl]
        exact slots_start (N := N) rr _ }
    refine ⟨H, A0, rAddr R, [], R, _, S0, ?_⟩
    have ws := h2 x ds R hn
    cases q : F ds R with
    | stuck => rw [q] at h; exact h.elim
    | exn c d R' =>
      rw [q] at h ws
      have ws : sem (startD N (.row x :: ds)) R = .ex c d R' := ws
      rw [ws]
      exact fun v dx' σ' H' m hx' r' => h v dx' H' m hx' r'
    | ok d R' =>
      rw [q] at h ws
      cases d with
      | web n ss =>
        obtain ⟨δ', e0, e1, e2, e3⟩ := ws
        rw [e0]
        intro σ' H' P' st S'
        have hx' : H' x = some (.ins Γ.web dx []) := S'.ext.st x _ nB hx rfl
        obtain ⟨v0, g0, k0⟩ := S'.slots.get e1
        rw [Rep] at k0
        subst k0
        obtain ⟨v1, g1, k1⟩ := S'.slots.get e2
        rw [k1.int_eq] at g1
        have e4 : ∃ p ys, σ'[2]? = some (some (.ref p)) ∧ (H' p = some (.lst ys) ∨ TupO H' p ys) ∧ RepL Γ (hide (A0 ++ P') H') (ss.map pairD) ys ∧ (TupO H' p ys → p ∉ A0 ++ P') ∧ p ∉ A0 ++ P' := by
          rcases e3 with e3 | e3
          · obtain ⟨v2, g2, k2⟩ := S'.slots.get e3
            obtain ⟨p, ys, rfl, l1, l2, l3⟩ := k2.lst_at
            exact ⟨p, ys, g2, .inl l1, l2, fun _ => l3, l3⟩
          · obtain ⟨v2, g2, k2⟩ := S'.slots.get e3
            obtain ⟨p, ys, rfl, l1, l2, l3⟩ := k2.tup_at
            exact ⟨p, ys, g2, .inr l1, l2, fun _ => l3, l3⟩
        obtain ⟨p, ys, g2, hp, rp, _, np⟩ := e4
        refine ⟨x, dx, .int n, p, ys, g0, g1, g2, hx', hp, fun H3 t q' keep hx3 ht htp hq0 hq3 ni => ?_⟩
        have alN : ∀ b, H' b = none → b ∉ A0 := fun b hb z => by
          obtain ⟨o, e, _⟩ := S'.al b z
          rw [hb] at e; cases e
        have kp : Keeps Γ (hide (A0 ++ P') H') (hide A0 H3) := Keeps.of fun b o e => by
          obtain ⟨n, e⟩ := hide_some e
          have nA : b ∉ A0 := fun z => n (List.mem_append_left _ z)
          rw [hide_out nA]
          exact keep b o (fun z => nA (by rw [z]; exact xA)) e
        have pr : PairsR (hide A0 H3) ss ys := PairsR.of_rep (RepL.keep kp _ rp)
        refine h H3 t q' ys ⟨fun b o n e s => ?_, fun b φ n m e => ?_, fun b kvs n e => ?_, fun b o e => ?_⟩ ?_ st.adr hx3 ht pr ?_ hq3 (alN q' hq0)
        · exact keep b o (fun z => n (by rw [z]; exact List.mem_cons_self)) (S'.ext.st b o (fun z => n (List.mem_cons_of_mem _ z)) e s)
        · exact keep b _ (fun z => n (by rw [z]; exact List.mem_cons_self)) (S'.ext.ex b φ (fun z => n (List.mem_cons_of_mem _ z)) m e)
        · obtain ⟨kvs', e1⟩ := S'.ext.ca b kvs (fun z => n (List.mem_cons_of_mem _ z)) e
          exact ⟨kvs', keep b _ (fun z => n (by rw [z]; exact List.mem_cons_self)) e1⟩
        · by_cases z : b = x
          · rw [z, hx3]; exact ⟨_, rfl, fun _ => nx_ins⟩
          · obtain ⟨o1, e1, n1⟩ := S'.ext.al b o e
            exact ⟨o1, keep b o1 z e1, n1⟩
        · obtain ⟨⟨t1, t0, tw⟩, t2⟩ := S'.row
          have nxk : ∀ b o, H' b = some o → (∀ C dx fs, o ≠ .ins C dx fs) → H3 b = some o := fun b o e z => keep b o (fun y => by
            rw [y, hx'] at e
            exact z _ _ _ (Option.some.inj e).symm) e
          refine ⟨⟨fun q hq => ?_, t0.keep (fun b φ hb => nxk b _ hb (fun _ _ _ z => by cases z)) (fun b xs hb => by
            rcases hb with hb | ⟨o, d, hb⟩
            · exact .inl (nxk b _ hb (fun _ _ _ z => by cases z))
            · exact .inr ⟨o, d, nxk b _ hb (fun _ _ _ z => by cases z)⟩), ⟨fun a dx' n' t' q h1 => ?_, fun a a' dx1 dx2 n1 n2 t1 t2 q h1 h2 => ?_⟩⟩, ?_⟩
          · obtain ⟨ps', a1, a2, a3⟩ := t1 q hq
            refine ⟨ps', nxk _ _ a1 (fun _ _ _ z => by cases z), a2, fun pos cv hc => ?_⟩
            obtain ⟨c, e1, e2⟩ := a3 pos cv hc
            exact ⟨c, e1, nxk _ _ e2 (fun _ _ _ z => by unfold LamX.CodeO at z; cases z)⟩
          · by_cases z : a = x
            · rw [z, hx3] at h1
              have e2 := HO.ins.inj (Option.some.inj h1)
              have e3 := e2.2.2
              simp only [webF, List.cons.injEq, Prod.mk.injEq, V.int.injEq, V.ref.injEq, true_and, and_true] at e3
              obtain ⟨rfl, rfl, rfl⟩ := e3
              refine ⟨ss, ys, [], ht, pr.imp fun b zs e => e.unhide.2, hq3, List.nodup_nil, fun _ z => by cases z⟩
            · obtain ⟨ss', xs', kvs', k1, k2, k3, k4⟩ := tw.at_ a dx' n' t' q (ni a _ _ _ z h1)
              have tp : ∀ b zs, TupO H' b zs → TupO H3 b zs := fun b zs e => by
                rcases e with e | ⟨o, d, e⟩
                · exact .inl (nxk _ _ e (fun _ _ _ z => by cases z))
                · exact .inr ⟨o, d, nxk _ _ e (fun _ _ _ z => by cases z)⟩
              exact ⟨ss', xs', kvs', tp _ _ k1, k2.imp tp, nxk _ _ k3 (fun _ _ _ z => by cases z), k4⟩
          · have notq : ∀ b dx3 n3 t3, b ≠ x → H3 b = some (.ins Γ.web dx3 (webF n3 t3 q')) → False := fun b dx3 n3 t3 nb e => by
              obtain ⟨_, _, kvs', _, _, k3, _⟩ := tw.at_ b dx3 n3 t3 q' (ni b _ _ _ nb e)
              rw [hq0] at k3
              cases k3
            have isq : ∀ dx3 n3 t3, H3 x = some (.ins Γ.web dx3 (webF n3 t3 q)) → q = q' := fun dx3 n3 t3 e => by
              rw [hx3] at e
              have e3 := (HO.ins.inj (Option.some.inj e)).2.2
              simp only [webF, List.cons.injEq, Prod.mk.injEq, V.int.injEq, V.ref.injEq, true_and, and_true] at e3
              exact e3.2.2.symm
            by_cases z : a = x
            · by_cases z' : a' = x
              · rw [z, z']
              · rw [z] at h1
                have := isq _ _ _ h1
                subst this
                exact (notq _ _ _ _ z' h2).elim
            · by_cases z' : a' = x
              · rw [z'] at h2
                have := isq _ _ _ h2
                subst this
                exact (notq _ _ _ _ z h1).elim
              · exact tw.uq a a' dx1 dx2 n1 n2 t1 t2 q (ni _ _ _ _ z h1) (ni _ _ _ _ z' h2)
          · cases R' with
            | none => trivial
            | some r' => exact nxk _ _ t2 (fun _ _ _ z => by cases z)
        · rcases htp with rfl | z
          · exact fun z => np (List.mem_append_left _ z)
          · exact alN t z
      | _ => exact h.elim
end DL

set_option Elab.async false
set_option linter.all false
set_option maxRecDepth 100000
namespace DL
open PySem PySem.Spec L2
/-! ### the row of draws: [script, place, mix, carry] -/
def rowItem (Γ : Ctx) (r : Rw) : Nat → Option D
  | 0 => some (.row Γ.scr)
  | 1 => some (.int r.idx)
  | 2 => some (.int r.mix)
  | 3 => some (.int r.carry)
  | _ => none
def rowAt (Γ : Ctx) (i : Nat) (x : D) : M D := fun R => match x, R with
  | .row a, some r => if a = r.addr then (match rowItem Γ r i with
    | some d => .ok d (some r)
    | none => .stuck) else .stuck
  | _, _ => .stuck
def dRow (Γ : Ctx) (i : Nat) (fe : SEnv → M D) : SEnv → M D := fun δ => fe δ >>= rowAt Γ i
def rowPut (i : Nat) (x : Int) (r : Rw) : Rw := match i with
  | 1 => { r with idx := x }
  | 2 => { r with mix := x }
  | _ => { r with carry := x }
theorem rowPut_addr (i : Nat) (x : Int) (r : Rw) : (rowPut i x r).addr = r.addr := by unfold rowPut; split <;> rfl
def sRowSet (i j : Nat) (fe : SEnv → M D) : SM := sBind fe fun d δ R => match δ[i]?, d, R with
  | some (.dat (.row a)), .int x, some r => if a = r.addr ∧ 1 ≤ j ∧ j ≤ 3 then .nx δ (some (rowPut j x r)) else .stuck
  | _, _, _ => .stuck
section
variable {Γ : Ctx} {W : WX} {X : Cx} {e a b : Expr} {fe fa fb : SEnv → M D} {pos p p3 : Pos} {c0 : Nat}
theorem pd_row {i : Nat} (he : PE X e (tD Γ W fe)) : PE X (.Subscript e (.Constant (.int (i : Int)) c0 p) pos) (tD Γ W (dRow Γ i fe)) := (pe_ix ix_seq he pe_int (fun _ _ => rfl)).imp fun σ H Q h => by
  obtain ⟨H0, A, B, P, R, δ, S, h⟩ := h
  refine ⟨H0, A, B, P, R, δ, S, go S h fun x vx R1 H1 m r1 S1 h1 => ?_⟩
  unfold rowAt at h1
  cases x <;> try exact h1.elim
  rename_i ad
  cases R1 with
  | none => exact h1.elim
  | some r =>
    simp only at h1
    split at h1
    · rename_i ea
      cases q : rowItem Γ r i with
      | none => rw [q] at h1; exact h1.elim
      | some d =>
        rw [q] at h1
        have hv : vx = .ref ad := by rw [Rep] at r1; exact r1
        subst hv
        have hrow : H1 r.addr = some (.lst [.ref Γ.scr, .int r.idx, .int r.mix, .int r.carry]) := S1.row.2
        have fin : ∃ v, atI [V.ref Γ.scr, V.int r.idx, V.int r.mix, V.int r.carry] (i : Int) = some v ∧ Rep Γ (hide (A ++ P) H1) d v := by
          unfold rowItem at q
          split at q <;> cases q
          · exact ⟨_, rfl, by rw [Rep]⟩
          · exact ⟨_, rfl, Rep.of_int⟩
          · exact ⟨_, rfl, Rep.of_int⟩
          · exact ⟨_, rfl, Rep.of_int⟩
        obtain ⟨v, e1, e2⟩ := fin
        show rIx X.K _ _ H1 Q
        exact .inl ⟨r.addr, _, (i : Int), v, by rw [ea], rfl, SqL.of hrow, e1, h1 v H1 (.refl S1.row) e2⟩
    · exact h1.elim
def scrLen (Γ : Ctx) : D → Option D
  | .row a => if a = Γ.scr then some (.int Γ.cells.length) else none
  | _ => none
def scrAt (Γ : Ctx) : D → D → Option D
  | .row a, .int i => if a = Γ.scr then (atI Γ.cells i).map .int else none
  | _, _ => none
theorem pd_scrLen (hK : Γ.K = X.K) (he : PE X e (tD Γ W fe)) (hm : X.mg "len" = none) (hg : Gl X "len" := by rfl) (h1 : starEach [e] X.env = (false, eval e X.env) :: starEach [] X.env := by rfl) (h2 : (backTo pos (starEach [] X.env)).any (·.1) = false := by rfl) :
    PE X (.Call (.Name "len" p) [e] [] pos) (tD Γ W (d1 (scrLen Γ) fe)) := (pe_callB cr_len hg hm (by decide +kernel) (pa_cons he pa_nil h1) (by decide) (by decide) h1 h2).imp fun σ H Q h => by
  obtain ⟨H0, A, B, P, R, δ, S, h⟩ := h
  refine ⟨H0, A, B, P, R, δ, S, go S h fun x vx R1 H1 m r1 S1 h1 => ?_⟩
  obtain ⟨d, ed, q⟩ := lift_out S1 h1
  cases x <;> simp only [scrLen] at ed <;> try (cases ed)
  rename_i ad
  split at ed
  · rename_i ea
    cases ed
    have hv : vx = .ref ad := by rw [Rep] at r1; exact r1
    subst hv
    exact .inl ⟨ad, _, rfl, .inl (by rw [ea, ← hK]; exact S1.scr), by rw [List.length_map]; exact q _ H1 .refl Rep.of_int⟩
  · cases ed
theorem atI_map {α β : Type} (f : α → β) (xs : List α) (i : Int) : atI (xs.map f) i = (atI xs i).map f := by
  unfold atI
  rw [List.length_map]
  cases ixN xs.length i with
  | none => rfl
  | some j => simp
theorem pd_scrAt (hK : Γ.K = X.K) (ha : PE X a (tD Γ W fa)) (hb : PE X b (tD Γ W fb)) (hs : PlainIx b) : PE X (.Subscript a b pos) (tD Γ W (d2 (scrAt Γ) fa fb)) := (pe_ix ix_seq ha hb hs).imp fun σ H Q h => by
  obtain ⟨H0, A, B, P, R, δ, S, h⟩ := h
  refine ⟨H0, A, B, P, R, δ, S, go S h fun x vx R1 H1 m1 r1 S1 h1 => ⟨H0, A, B, P, R1, δ, S1, go S1 h1 fun y vy R2 H2 m2 r2 S2 h2 => ?_⟩⟩
  obtain ⟨d, ed, q⟩ := lift_out S2 h2
  cases x <;> cases y <;> simp only [scrAt] at ed <;> try (cases ed)
  rename_i ad i
  split at ed
  · rename_i ea
    obtain ⟨c, e1, rfl⟩ := Option.map_eq_some_iff.mp ed
    have hv : vx = .ref ad := by rw [Rep] at r1; exact r1
    subst hv
    exact .inl ⟨ad, _, i, .int c, rfl, r2.int_eq, by rw [ea, ← hK]; exact S2.scr, by rw [atI_map, e1]; rfl, q _ H2 .refl Rep.of_int⟩
  · cases ed
theorem RepS.rowPut {Γ : Ctx} {H0 H : Hp} {A B P : List Addr} {r r' : Rw} {σ : L2.St} {δ : SEnv} (S : RepS Γ H0 A B P (some r) H σ δ) (ea : r'.addr = r.addr) :
    RepS Γ H0 A B P (some r') (upd H r.addr (.lst [.ref Γ.scr, .int r'.idx, .int r'.mix, .int r'.carry])) σ δ ∧ Ext Γ B H (upd H r.addr (.lst [.ref Γ.scr, .int r'.idx, .int r'.mix, .int r'.carry])) := by
  have hB : r.addr ∈ B := S.rb _ (by simp [rAddr])
  have hA : r.addr ∈ A := S.ba _ hB
  have hrow : H r.addr = some (.lst [.ref Γ.scr, .int r.idx, .int r.mix, .int r.carry]) := S.row.2
  have ex : Ext Γ B H (upd H r.addr (.lst [.ref Γ.scr, .int r'.idx, .int r'.mix, .int r'.carry])) := Ext.updB .refl hB nx_lst
  have hd : hide (A ++ P) (upd H r.addr (.lst [.ref Γ.scr, .int r'.idx, .int r'.mix, .int r'.carry])) = hide (A ++ P) H := hide_upd (List.mem_append_left _ hA)
  refine ⟨{
    row := ?_
    ra := by intro a ha; have : a = r'.addr := by simpa [rAddr] using ha
             rw [this, ea]; exact hA
    ba := S.ba
    rb := by intro a ha; have : a = r'.addr := by simpa [rAddr] using ha
             rw [this, ea]; exact hB
    al := fun a ha => by
      obtain ⟨o, h, n⟩ := S.al a ha
      obtain ⟨o', h', n'⟩ := ex.al a o h
      exact ⟨o', h', n' n⟩
    sc := S.sc
    sb := S.sb
    ext := S.ext.trans ex
    own := S.own
    nd := S.nd
    slots := by
      rw [hd]
      exact S.slots.keep (Γ := Γ) (Keeps.of fun _ _ z => z) fun p hp o _ e => by
        rw [upd_ne (fun z => (S.own p hp).2.1 (by rw [z]; exact hA))]
        exact e }, ex⟩
  have z : RowOk Γ (upd H r.addr (.lst [.ref Γ.scr, .int r'.idx, .int r'.mix, .int r'.carry])) none := RowOk.upd (Γ := Γ) (H := H) (R := none) ⟨S.row.1, trivial⟩ hrow (by simp [rAddr]) (own_not S.row hrow)
  exact ⟨z.1, by show upd H r.addr _ r'.addr = _; rw [ea, upd_same]⟩
theorem ds_rowSet {i j : Nat} {x : Str} (hN : X.N[i]? = some x) (hv : Vis X.env.scope x) (he : PE X e (tD Γ W fe)) (hd : (x == ("__debug__" : Str)) = false := by decide) (hcd : (x == ("__classdict__" : Str)) = false := by decide)
    (hs : swapsWithSole [.Subscript (.Name x p) (.Constant (.int (j : Int)) c0 p3) pos] e pos.line X.env = pure false := by rfl) {pos2 : Pos} (hs2 : swapsWithSole [.Subscript (.Name x p) (.Constant (.int (j : Int)) c0 p3) pos] e pos2.line X.env = pure false := by rfl) (hw : swappedStores [.Subscript (.Name x p) (.Constant (.int (j : Int)) c0 p3) pos] e X.env = pure none := by rfl)
    (h1 : (assignEach [.Subscript (.Name x p) (.Constant (.int (j : Int)) c0 p3) pos] X.env).map (·.2) = [assign (.Subscript (.Name x p) (.Constant (.int (j : Int)) c0 p3) pos) X.env] := by rfl)
    (ha : ∀ v, assign (.Subscript (.Name x p) (.Constant (.int (j : Int)) c0 p3) pos) X.env v = (do
      let ov ← holding [v] (eval (.Name x p) X.env)
      let iv ← holding [v, ov] (eval (.Constant (.int (j : Int)) c0 p3) X.env)
      standAt pos
      holding [v, ov, iv] (setItem ov iv v)
      release [v, ov, iv] []) := by intro _; rfl) :
    PS X (.Assign [.Subscript (.Name x p) (.Constant (.int (j : Int)) c0 p3) pos] e pos2) (tS Γ W (sRowSet i j fe)) := (ps_asg he (pg_sub (pe_var hN hv hd hcd) pe_int set_list ha) hs2 hw h1).imp fun Dn σ H h => by
  obtain ⟨H0, A, B, P, R, δ, S, h⟩ := h
  refine ⟨H0, A, B, P, R, δ, S, sgo S h fun x vx R1 H1 m r S1 h1 => ?_⟩
  split at h1
  · rename_i ad k r0 e1
    split at h1
    · rename_i hc
      obtain ⟨ea, j1, j3⟩ := hc
      obtain ⟨v0, g0, k0⟩ := S1.slots.get e1
      rw [Rep] at k0
      subst k0
      have hrow : H1 r0.addr = some (.lst [.ref Γ.scr, .int r0.idx, .int r0.mix, .int r0.carry]) := S1.row.2
      obtain ⟨S2, ex⟩ := S1.rowPut (r' := DL.rowPut j k r0) (rowPut_addr j k r0)
      refine ⟨.ref ad, g0, ad, _, (j : Int), j, rfl, rfl, by rw [ea]; exact hrow, ?_, ?_⟩
      · unfold ixN
        rw [if_pos (by omega), if_pos (by simp; omega)]
        simp
      · rw [r.int_eq, ea]
        have e2 : ([V.ref Γ.scr, V.int r0.idx, V.int r0.mix, V.int r0.carry].set j (V.int k)) = [V.ref Γ.scr, V.int (DL.rowPut j k r0).idx, V.int (DL.rowPut j k r0).mix, V.int (DL.rowPut j k r0).carry] := by
          have : j = 1 ∨ j = 2 ∨ j = 3 := by omega
          rcases this with z | z | z <;> subst z <;> rfl
        rw [e2]
        exact h1 σ _ P ⟨ex.mono fun a h => List.mem_append_left _ h, fun p hp => .inl hp, by simp [rAddr, rowPut_addr]⟩ S2
    · exact h1.elim
  · exact h1.elim
end
end DL

set_option Elab.async false
set_option linter.all false
set_option maxRecDepth 100000
namespace DL
open PySem PySem.Spec L2
/-! ### what is one's own -/
def frzD : OT → D
  | .lst ds => .lst ds
  | .dct n ks us => .dct n ks us
  | .mat rows => .lst (rows.map .lst)
section
variable {Γ : Ctx} {Hh H : Hp}
theorem MatR.rep {Hh' : Hp} (k : Keeps Γ Hh Hh') : ∀ {rows : List (List D)} {qs : List Addr}, MatR Γ Hh H rows qs → (∀ a ∈ qs, Hh' a = H a) → RepL Γ Hh' (rows.map .lst) (qs.map .ref)
  | [], qs, h, _ => by rw [show qs = [] from h]; exact RepL_nil.mpr rfl
  | r :: rs, _, h, e => by
    obtain ⟨q, qs', vs, rfl, h1, h2, h3⟩ := h
    exact RepL_cons.mpr ⟨_, _, rfl, Rep_lst.mpr ⟨q, vs, rfl, (e q List.mem_cons_self).trans h1, RepL.keep k _ h2⟩, MatR.rep k h3 fun a ha => e a (List.mem_cons_of_mem _ ha)⟩
theorem Own.rep {Hh' : Hp} (k : Keeps Γ Hh Hh') {t : OT} {p : Addr} {Ps : List Addr} (h : Own Γ Hh H t p Ps) (e : ∀ a ∈ Ps, Hh' a = H a) (n : ∀ a ∈ Ps, a ∉ Γ.ownA) : Rep Γ Hh' (frzD t) (.ref p) := by
  cases t with
  | lst ds =>
    obtain ⟨rfl, vs, h1, h2⟩ := h
    exact Rep_lst.mpr ⟨p, vs, rfl, (e p List.mem_cons_self).trans h1, RepL.keep k _ h2⟩
  | dct b ks us =>
    cases b with
    | true =>
      obtain ⟨rfl, xs, h1, h2, h3, h4⟩ := h
      unfold frzD
      rw [Rep]
      exact ⟨p, rfl, n p List.mem_cons_self, xs, (e p List.mem_cons_self).trans h1, RepL.keep k _ h2, RepL.keep k _ h3, h4⟩
    | false =>
      obtain ⟨rfl, xs, h1, h3, h4⟩ := h
      unfold frzD
      rw [Rep]
      exact ⟨p, rfl, xs, (e p List.mem_cons_self).trans h1, RepL.keep k _ h3, h4⟩
  | mat rows =>
    obtain ⟨qs, rfl, h1, h2⟩ := h
    exact Rep_lst.mpr ⟨p, _, rfl, (e p List.mem_cons_self).trans h1, h2.rep k fun a ha => e a (List.mem_cons_of_mem _ ha)⟩
theorem SlotsR.setOt {p : Addr} {t : OT} {Ps : List Addr} (e : Own Γ Hh H t p Ps) {σ : L2.St} {δ : SEnv} {P : List Addr} (h : SlotsR Γ Hh H σ δ P) : ∀ (i : Nat), ∃ P' P1, SlotsR Γ Hh H (σ.set i (some (.ref p))) (δ.set i (.ot t)) P' ∧ P1.Sublist P ∧ (P' = P1 ∨ P'.Perm (Ps ++ P1)) := by
  induction h with
  | nil => intro i; exact ⟨[], [], by simpa using SlotsR.nil, .refl _, .inl rfl⟩
  | none h ih =>
    intro i
    cases i with
    | zero => exact ⟨_, _, .ot e h, .refl _, .inr (.refl _)⟩
    | succ i => obtain ⟨P', P1, h1, h2, h3⟩ := ih i; exact ⟨P', P1, .none h1, h2, h3⟩
  | dat r' h ih =>
    intro i
    cases i with
    | zero => exact ⟨_, _, .ot e h, .refl _, .inr (.refl _)⟩
    | succ i => obtain ⟨P', P1, h1, h2, h3⟩ := ih i; exact ⟨P', P1, .dat r' h1, h2, h3⟩
  | @ot p0 t0 Ps0 σ δ P0 e' h ih =>
    intro i
    cases i with
    | zero => exact ⟨_, P0, .ot e h, List.sublist_append_right _ _, .inr (.refl _)⟩
    | succ i =>
      obtain ⟨P', P1, h1, h2, h3⟩ := ih i
      refine ⟨Ps0 ++ P', Ps0 ++ P1, .ot e' h1, h2.append_left _, ?_⟩
      rcases h3 with h3 | h3
      · exact .inl (by rw [h3])
      · refine .inr ((h3.append_left Ps0).trans ?_)
        rw [← List.append_assoc, ← List.append_assoc]
        exact List.perm_append_comm.append_right P1
/-- a slot's own is looked at, changed -/
theorem SlotsR.open' {σ : L2.St} {δ : SEnv} {P : List Addr} (h : SlotsR Γ Hh H σ δ P) : ∀ {i : Nat} {t : OT}, P.Nodup → δ[i]? = some (.ot t) → ∃ p Ps, σ[i]? = some (some (.ref p)) ∧ Own Γ Hh H t p Ps ∧ (∀ q ∈ Ps, q ∈ P) ∧
    ∀ H' t', (∀ b, b ∉ Ps → ∀ o, H b = some o → H' b = some o) → Own Γ Hh H' t' p Ps → SlotsR Γ Hh H' σ (δ.set i (.ot t')) P := by
  have other : ∀ {σ : L2.St} {δ : SEnv} {P Ps : List Addr} {H' : Hp}, SlotsR Γ Hh H σ δ P → (∀ q ∈ P, q ∉ Ps) → (∀ b, b ∉ Ps → ∀ o, H b = some o → H' b = some o) → SlotsR Γ Hh H' σ δ P := fun h n k => h.keep (Keeps.of fun _ _ z => z) fun q hq o _ e => k q (n q hq) o e
  induction h with
  | nil => intro i t _ e; simp at e
  | none h ih =>
    intro i t nd e
    cases i with
    | zero => simp at e
    | succ i =>
      obtain ⟨p, Ps, h1, h2, h3, h4⟩ := ih nd (by simpa using e)
      exact ⟨p, Ps, by simpa using h1, h2, h3, fun H' t' k o => .none (h4 H' t' k o)⟩
  | dat r' h ih =>
    intro i t nd e
    cases i with
    | zero => simp at e
    | succ i =>
      obtain ⟨p, Ps, h1, h2, h3, h4⟩ := ih nd (by simpa using e)
      exact ⟨p, Ps, by simpa using h1, h2, h3, fun H' t' k o => .dat r' (h4 H' t' k o)⟩
  | @ot p0 t0 Ps0 σ δ P0 e' h ih =>
    intro i t nd e
    obtain ⟨n1, n2, n3⟩ := List.nodup_append.mp nd
    cases i with
    | zero =>
      simp at e
      subst e
      exact ⟨p0, Ps0, rfl, e', fun q hq => List.mem_append_left _ hq, fun H' t' k o => .ot o (other h (fun q hq z => n3 q z q hq rfl) k)⟩
    | succ i =>
      obtain ⟨p, Ps, h1, h2, h3, h4⟩ := ih n2 (by simpa using e)
      refine ⟨p, Ps, by simpa using h1, h2, fun q hq => List.mem_append_right _ (h3 q hq), fun H' t' k o => ?_⟩
      exact .ot (e'.keep (Keeps.of fun _ _ z => z) fun q hq o e => k q (fun z => n3 q hq q (h3 q z) rfl) o e) (h4 H' t' k o)
/-- what is owned becomes plain data -/
theorem SlotsR.freeze : ∀ {σ : L2.St} {δ : SEnv} {Q : List Addr} (i : Nat) {t : OT} {Hh : Hp}, SlotsR Γ Hh H σ δ Q → Q.Nodup → (∀ p ∈ Q, p ∉ Γ.ownA) → δ[i]? = some (.ot t) →
    ∃ Ps Q' : List Addr, (∀ a, a ∈ Q ↔ a ∈ Ps ∨ a ∈ Q') ∧ Q'.Nodup ∧ (∀ a ∈ Ps, a ∉ Q') ∧ ∀ Hh', Keeps Γ Hh Hh' → (∀ a ∈ Ps, Hh' a = H a) → SlotsR Γ Hh' H σ (δ.set i (.dat (frzD t))) Q' := by
  intro σ δ Q i t Hh h
  induction h generalizing i with
  | nil => intro _ _ e; simp at e
  | none h ih =>
    intro nd no e
    cases i with
    | zero => simp at e
    | succ i =>
      obtain ⟨Ps, Q', h2, h3, h4, h5⟩ := ih i nd no (by simpa using e)
      exact ⟨Ps, Q', h2, h3, h4, fun Hh' k e2 => .none (h5 Hh' k e2)⟩
  | dat r h ih =>
    intro nd no e
    cases i with
    | zero => simp at e
    | succ i =>
      obtain ⟨Ps, Q', h2, h3, h4, h5⟩ := ih i nd no (by simpa using e)
      exact ⟨Ps, Q', h2, h3, h4, fun Hh' k e2 => .dat (Rep.keep k _ r) (h5 Hh' k e2)⟩
  | @ot p0 t0 Ps0 σ δ P0 e' h ih =>
    intro nd no e
    obtain ⟨n1, n2, n3⟩ := List.nodup_append.mp nd
    cases i with
    | zero =>
      simp at e
      subst e
      exact ⟨Ps0, P0, fun a => List.mem_append, n2, fun a ha z => n3 a ha a z rfl, fun Hh' k e2 => .dat (e'.rep k e2 fun a ha => no a (List.mem_append_left _ ha)) (h.keep k fun _ _ _ _ z => z)⟩
    | succ i =>
      obtain ⟨Ps, Q', h2, h3, h4, h5⟩ := ih i n2 (fun q hq => no q (List.mem_append_right _ hq)) (by simpa using e)
      refine ⟨Ps, Ps0 ++ Q', fun a => ?_, List.nodup_append.mpr ⟨n1, h3, fun a ha b hb z => n3 a ha b ((h2 b).mpr (.inr hb)) z⟩, fun a ha z => ?_, fun Hh' k e2 => .ot (e'.keep k fun _ _ _ z => z) (h5 Hh' k e2)⟩
      · rw [List.mem_append, h2 a, List.mem_append]
        constructor
        · rintro (z | z | z)
          · exact .inr (.inl z)
          · exact .inl z
          · exact .inr (.inr z)
        · rintro (z | z | z)
          · exact .inr (.inl z)
          · exact .inl z
          · exact .inr (.inr z)
      · rcases List.mem_append.mp z with z | z
        · exact n3 a z a ((h2 a).mpr (.inl ha)) rfl
        · exact h4 a ha z
end
section
variable {Γ : Ctx} {H0 H H' : Hp} {A B P : List Addr} {R R' : Option Rw} {σ : L2.St} {δ : SEnv}
/-- new things are not seen -/
theorem hide_news {L : List Addr} (nw : ∀ q ∈ L, H q = none) (nA : ∀ q ∈ L, q ∉ A) : hide (L ++ A) H = hide A H := by
  funext b
  by_cases z : b ∈ L
  · rw [hide_in (List.mem_append_left _ z), hide_out (nA b z), nw b z]
  · by_cases z2 : b ∈ A
    · rw [hide_in (List.mem_append_right _ z2), hide_in z2]
    · rw [hide_out (fun y => by
        rcases List.mem_append.mp y with y | y
        · exact z y
        · exact z2 y), hide_out z2]
theorem RepS.setOt {p : Addr} {t : OT} {Ps : List Addr} (S : RepS Γ H0 A B P R H σ δ) (m : Mv Γ B R R' H H') (hp : ∀ q ∈ Ps, H q = none) (nd : Ps.Nodup) (e : Own Γ (hide (Ps ++ (A ++ P)) H') H' t p Ps) (i : Nat) :
    ∃ P', RepS Γ H0 A B P' R' H' (σ.set i (some (.ref p))) (δ.set i (.ot t)) ∧ Stp Γ B P P' R R' H H' := by
  have S1 := S.move m
  have nA : ∀ q ∈ Ps, q ∉ A ++ P := fun q hq => all_out S.all (hp q hq)
  have k : Keeps Γ (hide (A ++ P) H) (hide (Ps ++ (A ++ P)) H') := by
    have k1 := m.ext.keeps (A := Ps ++ (A ++ P)) (fun a ha => List.mem_append_right _ (S.bap a ha))
    rw [hide_news hp nA] at k1
    exact k1
  have sl : SlotsR Γ (hide (Ps ++ (A ++ P)) H') H' σ δ P := S.slots.keep k (S.stand m)
  obtain ⟨P', P1, h1, h2, h3⟩ := sl.setOt e i
  have sub : ∀ q ∈ P', q ∈ Ps ∨ q ∈ P := fun q hq => by
    rcases h3 with h3 | h3
    · rw [h3] at hq; exact .inr (h2.subset hq)
    · rcases List.mem_append.mp (h3.mem_iff.mp hq) with z | z
      · exact .inl z
      · exact .inr (h2.subset z)
  have nd : P'.Nodup := by
    rcases h3 with h3 | h3
    · rw [h3]; exact S.nd.sublist h2
    · exact h3.nodup_iff.mpr (List.nodup_append.mpr ⟨nd, S.nd.sublist h2, fun a ha b hb z => nA a ha (List.mem_append_right _ (by rw [z]; exact h2.subset hb))⟩)
  refine ⟨P', ⟨S1.row, S1.ra, S1.ba, S1.rb, S1.al, S1.sc, S1.sb, S1.ext, fun q hq => ?_, nd, ?_⟩, ⟨m.ext.mono fun a h => List.mem_append_left _ h, fun q hq => ?_, m.adr⟩⟩
  · rcases sub q hq with z | z
    · exact ⟨S.ext.free (hp q z), fun y => nA q z (List.mem_append_left _ y), own_free S.row (hp q z)⟩
    · exact S1.own q z
  · refine h1.keep (hide_keeps fun a ha => ?_) fun _ _ _ _ z => z
    rcases List.mem_append.mp ha with z | z
    · exact List.mem_append_right _ (List.mem_append_left _ z)
    · rcases sub a z with y | y
      · exact List.mem_append_left _ y
      · exact List.mem_append_right _ (List.mem_append_right _ y)
  · rcases sub q hq with z | z
    · exact .inr (hp q z)
    · exact .inl z
theorem RepS.setOwn {p : Addr} {vs : List V} {ds : List D} (S : RepS Γ H0 A B P R H σ δ) (m : Mv Γ B R R' H H') (hp : H p = none) (e : H' p = some (.lst vs)) (r : RepL Γ (hide (p :: (A ++ P)) H') ds vs) (i : Nat) :
    ∃ P', RepS Γ H0 A B P' R' H' (σ.set i (some (.ref p))) (δ.set i (.own ds)) ∧ Stp Γ B P P' R R' H H' :=
  S.setOt (Ps := [p]) (t := .lst ds) m (fun q hq => by rw [List.mem_singleton.mp hq]; exact hp) (by simp) ⟨rfl, vs, e, r⟩ i
/-- an object of one's own is changed -/
theorem RepS.mutG {t : OT} {i : Nat} (S : RepS Γ H0 A B P R H σ δ) (e1 : δ[i]? = some (.ot t)) : ∃ p Ps, σ[i]? = some (some (.ref p)) ∧ Own Γ (hide (A ++ P) H) H t p Ps ∧ (∀ q ∈ Ps, q ∈ P) ∧
    ∀ q o' t', q ∈ Ps → nx o' → (∀ C dx fs, o' ≠ .ins C dx fs) → Own Γ (hide (A ++ P) H) (upd H q o') t' p Ps → RepS Γ H0 A B P R (upd H q o') σ (δ.set i (.ot t')) ∧ Stp Γ B P P R R H (upd H q o') := by
  obtain ⟨p, Ps, h1, h2, h3, h4⟩ := S.slots.open' S.nd e1
  refine ⟨p, Ps, h1, h2, h3, fun q o' t' hq no ni ow => ?_⟩
  have hP := h3 q hq
  obtain ⟨o1, o2, o3⟩ := S.own q hP
  obtain ⟨o, ho, hO⟩ := S.slots.objs q hP
  have hd : hide (A ++ P) (upd H q o') = hide (A ++ P) H := hide_upd (List.mem_append_right _ hP)
  have row : RowOk Γ (upd H q o') R := by
    refine S.row.upd ho (fun z => o2 (S.ra q z)) o3 hO.nx ?_ ?_ ?_ ?_ ?_ ni
    · rcases hO with ⟨_, rfl⟩ | ⟨_, rfl⟩ | ⟨_, rfl⟩ <;> (intro ps z; first | cases z | (unfold dN at z; cases z))
    · rcases hO with ⟨_, rfl⟩ | ⟨_, rfl⟩ | ⟨_, rfl⟩ <;> (intro _ _ _ z; first | cases z | (unfold dN at z; cases z))
    · rcases hO with ⟨_, rfl⟩ | ⟨_, rfl⟩ | ⟨_, rfl⟩ <;> (intro ps z; first | cases z | (unfold dN at z; cases z))
    · rcases hO with ⟨_, rfl⟩ | ⟨_, rfl⟩ | ⟨_, rfl⟩ <;> (intro _ _ z; first | cases z | (unfold dN at z; cases z))
    · rcases hO with ⟨_, rfl⟩ | ⟨_, rfl⟩ | ⟨_, rfl⟩ <;> (intro ps z; first | cases z | (unfold dN at z; cases z))
  refine ⟨⟨row, S.ra, S.ba, S.rb, fun a ha => ?_, S.sc, S.sb, ⟨fun b o n e s => ?_, fun b φ n m e => ?_, fun b kvs n e => ?_, fun b o e => ?_⟩, S.own, S.nd, ?_⟩, ⟨Ext.updB .refl (List.mem_append_right _ hP) no, fun q hq => .inl hq, rfl⟩⟩
  · rw [upd_ne (fun z => o2 (by rw [← z]; exact ha))]
    exact S.al a ha
  · rw [upd_ne (ne_of_none e o1)]; exact S.ext.st b o n e s
  · rw [upd_ne (ne_of_none e o1)]; exact S.ext.ex b φ n m e
  · rw [upd_ne (ne_of_none e o1)]; exact S.ext.ca b kvs n e
  · rw [upd_ne (ne_of_none e o1)]; exact S.ext.al b o e
  · rw [hd]
    exact h4 _ _ (fun b nb o e => by rw [upd_ne (fun z => nb (by rw [z]; exact hq))]; exact e) ow
theorem RepS.mut {p : Addr} {ys vs : List V} {ds ds' : List D} {i : Nat} (S : RepS Γ H0 A B P R H σ δ) (e1 : δ[i]? = some (.ot (.lst ds))) (e2 : σ[i]? = some (some (.ref p))) (hP : p ∈ P) (hv : H p = some (.lst vs)) (r : RepL Γ (hide (A ++ P) H) ds' ys) :
    RepS Γ H0 A B P R (upd H p (.lst ys)) σ (δ.set i (.own ds')) ∧ Stp Γ B P P R R H (upd H p (.lst ys)) := by
  obtain ⟨q, Ps, h1, ⟨rfl, _⟩, _, h4⟩ := S.mutG e1
  rw [e2] at h1
  have : q = p := by injection (Option.some.inj (Option.some.inj h1)).symm
  subst this
  exact h4 q _ (.lst ds') List.mem_cons_self nx_lst (by intro _ _ _ z; cases z) ⟨rfl, ys, upd_same, r⟩
theorem RepS.freeze {t : OT} {i : Nat} (S : RepS Γ H0 A B P R H σ δ) (e1 : δ[i]? = some (.ot t)) : ∃ P', RepS Γ H0 A B P' R H σ (δ.set i (.dat (frzD t))) ∧ ∀ q ∈ P', q ∈ P := by
  obtain ⟨Ps, Q', h2, h3, h4, h5⟩ := S.slots.freeze i S.nd (fun p hp => (S.own p hp).2.2) e1
  have sub : ∀ q ∈ Q', q ∈ P := fun q hq => (h2 q).mpr (.inr hq)
  refine ⟨Q', ⟨S.row, S.ra, S.ba, S.rb, S.al, S.sc, S.sb, S.ext, fun q hq => S.own q (sub q hq), h3, h5 _ (hide_keeps fun a ha => ?_) (fun q hq => hide_out fun z => ?_)⟩, sub⟩
  · rcases List.mem_append.mp ha with z | z
    · exact List.mem_append_left _ z
    · exact List.mem_append_right _ (sub a z)
  · rcases List.mem_append.mp z with z | z
    · exact (S.own q ((h2 q).mpr (.inl hq))).2.1 z
    · exact h4 q hq z
end
theorem new_own {Γ : Ctx} {A : List Addr} {H : Hp} {p : Addr} {ds : List D} {vs : List V} (hp : H p = none) (r : RepL Γ (hide A H) ds vs) : RepL Γ (hide (p :: A) (upd H p (.lst vs))) ds vs := by
  rw [hide_upd List.mem_cons_self]
  exact RepL.keep (hide_new hp) _ r
section
variable {Γ : Ctx} {W : WX} {X : Cx} {e a b : Expr} {es : List Expr} {fe fa fb : SEnv → M D} {fs ff : SEnv → M (List D)} {pos p p3 : Pos} {c0 : Nat}
def lenL (f : SEnv → M (List D)) : SEnv → M (List D) := fun δ => f δ >>= fun xs => M.lift (lenOk xs)
theorem fgo {α β : Type} {rep : Hp → α → β → Prop} {f : M α} {g : α → M (List D)} {Q : VK} {t : β → Hp → Prop} {H0 H : Hp} {A B P : List Addr} {R : Option Rw} {σ : L2.St} {δ : SEnv} (S : RepS Γ H0 A B P R H σ δ)
    (h : ((f >>= g) R).run (fun ds R' => ∀ p vs H', Mv Γ B R R' H H' → H p = none → H' p = some (.lst vs) → RepL Γ (hide (p :: (A ++ P)) H') ds vs → Q (.ref p) H') (KE Γ W B A P σ R H))
    (k : ∀ a b R1 H1, Mv Γ B R R1 H H1 → rep (hide (A ++ P) H1) a b → RepS Γ H0 A B P R1 H1 σ δ → (g a R1).run (fun ds R' => ∀ p vs H', Mv Γ B R1 R' H1 H' → H1 p = none → H' p = some (.lst vs) → RepL Γ (hide (p :: (A ++ P)) H') ds vs → Q (.ref p) H') (KE Γ W B A P σ R1 H1) → t b H1) :
    (f R).run (KK Γ B A P rep R H t) (KE Γ W B A P σ R H) :=
  Out.run_mono (run_bind.mp h) (fun a R1 _ q b H1 m r => k a b R1 H1 m r (S.move m) (Out.run_mono q (fun a' R2 _ q2 p vs H2 m2 hp => q2 p vs H2 (m.trans m2) (m.ext.free hp)) fun c d R2 _ q2 v dx H2 m2 => q2 v dx H2 (m.trans m2))) fun c d R1 _ q => q
theorem flift {o : Option (List D)} {Q : VK} {H0 H : Hp} {A B P : List Addr} {R : Option Rw} {σ : L2.St} {δ : SEnv} {E : String → D → Option Rw → Prop} (S : RepS Γ H0 A B P R H σ δ)
    (h : (M.lift o R).run (fun ds R' => ∀ p vs H', Mv Γ B R R' H H' → H p = none → H' p = some (.lst vs) → RepL Γ (hide (p :: (A ++ P)) H') ds vs → Q (.ref p) H') E) :
    ∃ ds, o = some ds ∧ ∀ p vs, H p = none → RepL Γ (hide (A ++ P) H) ds vs → Q (.ref p) (upd H p (.lst vs)) := by
  cases o with
  | none => exact h.elim
  | some ds => exact ⟨ds, rfl, fun p vs hp r => h p vs _ (.grow S.row (grow_new hp)) hp upd_same (new_own hp r)⟩
/-- a new thing of one's own -/
def tOT (Γ : Ctx) (W : WX) (f : SEnv → M OT) : TE := fun σ H Q => ∃ H0 A B P R δ, RepS Γ H0 A B P R H σ δ ∧
  (f δ R).run (fun t R' => ∀ p Ps H', Mv Γ B R R' H H' → (∀ q ∈ Ps, H q = none) → Ps.Nodup → Own Γ (hide (Ps ++ (A ++ P)) H') H' t p Ps → Q (.ref p) H') (KE Γ W B A P σ R H)
def oLst (f : SEnv → M (List D)) : SEnv → M OT := fun δ => f δ >>= fun ds => pure (.lst ds)
theorem pf_ot (h : PE X e (tF Γ W ff)) : PE X e (tOT Γ W (oLst ff)) := h.imp fun σ H Q h => by
  obtain ⟨H0, A, B, P, R, δ, S, h⟩ := h
  exact ⟨H0, A, B, P, R, δ, S, Out.run_mono (run_bind.mp h) (fun ds R1 _ q p vs H1 m hp ep r => q p [p] H1 m (fun q hq => by rw [List.mem_singleton.mp hq]; exact hp) (by simp) ⟨rfl, vs, ep, r⟩) fun c d R1 _ q => q⟩
def sOt (i : Nat) (fo : SEnv → M OT) : SM := sBind fo fun t δ R => .nx (δ.set i (.ot t)) R
theorem ds_ot {i : Nat} {x : Str} {pos' : Pos} {fo : SEnv → M OT} (hN : X.N.Nodup) (hi : X.N[i]? = some x) (hx : Loc X.env.scope x) (he : PE X e (tOT Γ W fo)) (hs : swapsWith e (some (.Name x pos')) pos.line X.env = pure false := by rfl) (hf : X.fn x = true ∨ X.env.scope.names.lookup x = some .local := by first | exact .inl rfl | exact .inr rfl | assumption) :
    PS X (.Assign [.Name x pos'] e pos) (tS Γ W (sOt i fo)) := (ps_set hN hi hx he hs hf).imp fun Dn σ H h => by
  obtain ⟨H0, A, B, P, R, δ, S, h⟩ := h
  refine ⟨H0, A, B, P, R, δ, S, ?_⟩
  unfold sOt sBind at h
  cases e : fo δ R with
  | ok t R1 =>
    rw [e] at h
    intro p Ps H1 m hp nd ow
    obtain ⟨P', S', st⟩ := S.setOt m hp nd ow i
    exact h _ H1 P' st S'
  | exn c d R1 =>
    rw [e] at h
    intro v dx H1 m hx r
    exact h v dx σ H1 ⟨S.ext.trans m.ext, m.row, m.adr⟩ hx (Rep.keep (hide_keeps fun a ha => List.mem_append_left _ ha) _ r)
  | stuck => rw [e] at h; exact h.elim
theorem pf_lst (h : PA X es (tL Γ W fs)) : PE X (.List es pos) (tF Γ W (lenL fs)) := (pe_lst h).imp fun σ H Q h => by
  obtain ⟨H0, A, B, P, R, δ, S, h⟩ := h
  refine ⟨H0, A, B, P, R, δ, S, fgo S h fun xs vs R1 H1 m1 r1 S1 h1 => ?_⟩
  obtain ⟨d, e, q⟩ := flift S1 h1
  obtain ⟨rfl, hl⟩ := lenOk_eq e
  exact ⟨by rw [r1.length]; exact hl, fun p hp => q p _ hp r1⟩
def repO2 : D → D → Option (List D)
  | .lst a, .int k => if -(2 ^ 63) ≤ k ∧ k < 2 ^ 63 ∧ a.length * k.toNat ≤ sizeLine then some (List.replicate k.toNat a).flatten else none
  | _, _ => none
def lRep (fa fb : SEnv → M D) : SEnv → M (List D) := fun δ => fa δ >>= fun x => fb δ >>= fun y => M.lift (repO2 x y)
theorem pf_rep (ha : PE X a (tD Γ W fa)) (hb : PE X b (tD Γ W fb)) : PE X (.BinOp a .Mult b pos) (tF Γ W (lRep fa fb)) := (pe_op op_rep ha hb).imp fun σ H Q h => by
  obtain ⟨H0, A, B, P, R, δ, S, h⟩ := h
  refine ⟨H0, A, B, P, R, δ, S, fgo S h fun x vx R1 H1 m1 r1 S1 h1 => ⟨H0, A, B, P, R1, δ, S1, fgo S1 h1 fun y vy R2 H2 m2 r2 S2 h2 => ?_⟩⟩
  obtain ⟨ds, e, q⟩ := flift S2 h2
  unfold repO2 at e
  split at e
  · split at e
    · rename_i hk
      cases e
      obtain ⟨l, xs, rfl, h1, h2, _⟩ := (Rep.keep (S1.keeps m2) _ r1).lst_at
      exact ⟨l, _, xs, rfl, r2.int_eq, h1, hk.1, hk.2.1, by rw [h2.length]; exact hk.2.2, fun p hp => q p _ hp (h2.rep _)⟩
    · cases e
  · cases e
def lstOf : List D → Option (List D)
  | [.lst ds] => some ds
  | [.tup ds] => some ds
  | _ => none
def lList (fs : SEnv → M (List D)) : SEnv → M (List D) := fun δ => fs δ >>= fun x => M.lift (lstOf x)
theorem pf_list (ha : PA X (e :: es) (tL Γ W fs)) (hm : X.mg "list" = none) (hg : Gl X "list" := by rfl) (he : starEach (e :: es) X.env = (false, eval e X.env) :: starEach es X.env := by rfl) (hpl : (backTo pos (starEach es X.env)).any (·.1) = false := by rfl) :
    PE X (.Call (.Name "list" p) (e :: es) [] pos) (tF Γ W (lList fs)) := (pe_callTy call_list_of hg hm (by decide +kernel) ha (by decide) (by decide) he hpl).imp fun σ H Q h => by
  obtain ⟨H0, A, B, P, R, δ, S, h⟩ := h
  refine ⟨H0, A, B, P, R, δ, S, fgo S h fun xs vs R1 H1 m1 r1 S1 h1 => ?_⟩
  obtain ⟨ds, e, q⟩ := flift S1 h1
  unfold lstOf at e
  split at e
  · obtain ⟨v, rfl, r2⟩ := r1.one_inv
    obtain ⟨p, ys, rfl, g1, g2, _⟩ := r2.lst_at
    cases e
    exact ⟨p, ys, rfl, .inl (SqL.of g1), fun l hl => q l _ hl g2⟩
  · obtain ⟨v, rfl, r2⟩ := r1.one_inv
    obtain ⟨p, ys, rfl, g1, g2, _⟩ := r2.tup_at
    cases e
    exact ⟨p, ys, rfl, .inr ((g1).sq), fun l hl => q l _ hl g2⟩
  · cases e
def sOwn (i : Nat) (ff : SEnv → M (List D)) : SM := sBind ff fun ds δ R => .nx (δ.set i (.own ds)) R
theorem ds_own {i : Nat} {x : Str} {pos' : Pos} (hN : X.N.Nodup) (hi : X.N[i]? = some x) (hx : Loc X.env.scope x) (he : PE X e (tF Γ W ff)) (hs : swapsWith e (some (.Name x pos')) pos.line X.env = pure false := by rfl) (hf : X.fn x = true ∨ X.env.scope.names.lookup x = some .local := by first | exact .inl rfl | exact .inr rfl | assumption) :
    PS X (.Assign [.Name x pos'] e pos) (tS Γ W (sOwn i ff)) := (ps_set hN hi hx he hs hf).imp fun Dn σ H h => by
  obtain ⟨H0, A, B, P, R, δ, S, h⟩ := h
  refine ⟨H0, A, B, P, R, δ, S, ?_⟩
  unfold sOwn sBind at h
  cases e : ff δ R with
  | ok ds R1 =>
    rw [e] at h
    intro p vs H1 m hp ep r
    obtain ⟨P', S', st⟩ := S.setOwn m hp ep r i
    exact h _ H1 P' st S'
  | exn c d R1 =>
    rw [e] at h
    intro v dx H1 m hx r
    exact h v dx σ H1 ⟨S.ext.trans m.ext, m.row, m.adr⟩ hx (Rep.keep (hide_keeps fun a ha => List.mem_append_left _ ha) _ r)
  | stuck => rw [e] at h; exact h.elim
/-- an owned list is owned no longer -/
def sFrz (i : Nat) (f : SM) : SM := fun δ R => match δ[i]? with
  | some (.ot t) => f (δ.set i (.dat (frzD t))) R
  | _ => .stuck
theorem frz_imp {i : Nat} {f : SM} {Dn : Ends} {σ : L2.St} {H : Hp} (h : tS Γ W (sFrz i f) Dn σ H) : tS Γ W f Dn σ H := by
  obtain ⟨H0, A, B, P, R, δ, S, h⟩ := h
  unfold sFrz at h
  split at h
  · rename_i ds e
    obtain ⟨P', S', sub⟩ := S.freeze e
    exact ⟨H0, A, B, P', R, _, S', AllK.later (Stp.sub .refl sub) h⟩
  · exact h.elim
theorem ds_frz {i : Nat} {f : SM} {st : Stmt} (h : PS X st (tS Γ W f)) : PS X st (tS Γ W (sFrz i f)) := h.imp fun _ _ _ q => frz_imp q
theorem ds_frzs {i : Nat} {f : SM} {st : List Stmt} (h : PSs X st (tS Γ W f)) : PSs X st (tS Γ W (sFrz i f)) := h.imp fun _ _ _ q => frz_imp q
/-- x.append(e) -/
def sApp (i : Nat) (fe : SEnv → M D) : SM := fun δ R => match δ[i]? with
  | some (.ot (.lst ds)) => sBind fe (fun d δ R => if ds.length < sizeLine then .nx (δ.set i (.own (ds ++ [d]))) R else .stuck) δ R
  | _ => .stuck
theorem ds_app {i : Nat} {x : Str} {apos : Pos} (hN : X.N[i]? = some x) (hv : Vis X.env.scope x) (he : PE X e (tD Γ W fe)) (hd : (x == ("__debug__" : Str)) = false := by decide) (hcd : (x == ("__classdict__" : Str)) = false := by decide)
    (hbase : attributeBase (.Name x p) "append" X.env (eval (.Name x p) X.env) = eval (.Name x p) X.env := by rfl)
    (hfew : ((backTo pos (starEach [e] X.env)).all (fun x => !x.1) && (backToKw pos (keywordEach [] X.env)).all (fun x => x.1.isSome) && decide ([e].length + ([] : List Keyword).length + (if ([] : List Keyword).isEmpty then 0 else 1) < 30)) = true := by rfl)
    (hline : (apos.endLine == pos.line) = true := by rfl) (hs : starEach [e] X.env = (false, eval e X.env) :: starEach [] X.env := by rfl) (hpl : (backTo pos (starEach [] X.env)).any (·.1) = false := by rfl)
    (hsw : swapsWith (.Call (.Attribute (.Name x p) "append" apos) [e] [] pos) none p3.line X.env = pure false := by rfl) :
    PS X (.Expr (.Call (.Attribute (.Name x p) "append" apos) [e] [] pos) p3) (tS Γ W (sApp i fe)) :=
  (ps_expr (pe_bm PySem.F.plainAttrs_list PySem.F.slot_list_append PySem.F.type_list_append mt_append (pe_var hN hv hd hcd) (pa_cons he pa_nil hs) hbase hfew hline hs hpl) hsw).imp fun Dn σ H h => by
    obtain ⟨H0, A, B, P, R, δ, S, h⟩ := h
    unfold sApp at h
    split at h
    · rename_i ds e1
      obtain ⟨q, vs, f1, f2, f3, f4⟩ := S.slots.getOwn e1
      refine ⟨.ref q, f1, .inl ⟨rfl, _, SqL.of f2⟩, H0, A, B, P, R, δ, S, sgo S h fun y vy R1 H1 m r S1 h1 => ?_⟩
      split at h1
      · rename_i hl
        obtain ⟨q', vs', g1, g2, g3, g4⟩ := S1.slots.getOwn e1
        rw [f1] at g1
        have eq : q' = q := by injection (Option.some.inj (Option.some.inj g1)).symm
        subst eq
        obtain ⟨S2, st⟩ := S1.mut e1 f1 g4 g2 (g3.append (RepL.one r))
        exact ⟨q', vs', vy, rfl, rfl, g2, by rw [g3.length]; exact hl, h1 σ _ P st S2⟩
      · exact h1.elim
    · exact h.elim
/-- x[k] = e -/
def ownPut (i : Nat) (k d : D) : SM := fun δ R => match δ[i]?, k with
  | some (.ot (.lst ds)), .int z => match ixN ds.length z with
    | some j => .nx (δ.set i (.own (ds.set j d))) R
    | none => .stuck
  | _, _ => .stuck
def sPut (i : Nat) (fk fe : SEnv → M D) : SM := fun δ R => match δ[i]? with
  | some (.ot (.lst _)) => sBind fe (fun d => sBind fk fun k => ownPut i k d) δ R
  | _ => .stuck
theorem ownPut_ok {i : Nat} {k d : D} {vk vd : V} {H0 H : Hp} {A B P : List Addr} {R : Option Rw} {σ : L2.St} {δ : SEnv} {Dn : Ends} {x : V} (S : RepS Γ H0 A B P R H σ δ) (rk : Rep Γ (hide (A ++ P) H) k vk) (rd : Rep Γ (hide (A ++ P) H) d vd) (h : AllK Γ W H0 A B P R H Dn (ownPut i k d δ R))
    (hx : σ[i]? = some (some x)) : rSetL x vk vd H fun H3 => Dn.nx σ H3 := by
  unfold ownPut at h
  split at h
  · rename_i ds z e1
    split at h
    · rename_i j ej
      obtain ⟨q, vs, f1, f2, f3, f4⟩ := S.slots.getOwn e1
      rw [hx] at f1
      have ex : x = .ref q := Option.some.inj (Option.some.inj f1)
      subst ex
      obtain ⟨S2, st⟩ := S.mut e1 hx f4 f2 (RepL.set rd j f3)
      exact ⟨q, vs, z, j, rfl, rk.int_eq, f2, by rw [f3.length]; exact ej, h σ _ P st S2⟩
    · exact h.elim
  · exact h.elim
theorem own_at {i : Nat} {k d : D} {H0 H : Hp} {A B P : List Addr} {R : Option Rw} {σ : L2.St} {δ : SEnv} {Dn : Ends} (S : RepS Γ H0 A B P R H σ δ) (h : AllK Γ W H0 A B P R H Dn (ownPut i k d δ R)) : ∃ x, σ[i]? = some (some x) := by
  unfold ownPut at h
  split at h
  · rename_i ds z e1
    obtain ⟨q, vs, f1, _⟩ := S.slots.getOwn e1
    exact ⟨_, f1⟩
  · exact h.elim
theorem ds_put {i : Nat} {x : Str} {k : Expr} {fk : SEnv → M D} {pos2 : Pos} (hN : X.N[i]? = some x) (hv : Vis X.env.scope x) (hk : PE X k (tD Γ W fk)) (he : PE X e (tD Γ W fe)) (hd : (x == ("__debug__" : Str)) = false := by decide) (hcd : (x == ("__classdict__" : Str)) = false := by decide)
    (hs2 : swapsWithSole [.Subscript (.Name x p) k pos] e pos2.line X.env = pure false := by rfl) (hw : swappedStores [.Subscript (.Name x p) k pos] e X.env = pure none := by rfl)
    (h1 : (assignEach [.Subscript (.Name x p) k pos] X.env).map (·.2) = [assign (.Subscript (.Name x p) k pos) X.env] := by rfl)
    (ha : ∀ v, assign (.Subscript (.Name x p) k pos) X.env v = (do
      let ov ← holding [v] (eval (.Name x p) X.env)
      let iv ← holding [v, ov] (eval k X.env)
      standAt pos
      holding [v, ov, iv] (setItem ov iv v)
      release [v, ov, iv] []) := by intro _; rfl) :
    PS X (.Assign [.Subscript (.Name x p) k pos] e pos2) (tS Γ W (sPut i fk fe)) := (ps_asg he (pg_sub (pe_var hN hv hd hcd) hk set_list ha) hs2 hw h1).imp fun Dn σ H h => by
  obtain ⟨H0, A, B, P, R, δ, S, h⟩ := h
  unfold sPut at h
  split at h
  · rename_i ds e1
    refine ⟨H0, A, B, P, R, δ, S, sgo S h fun d vd R1 H1 m r S1 h1 => ?_⟩
    obtain ⟨q, vs, f1, _⟩ := S1.slots.getOwn e1
    refine ⟨.ref q, f1, H0, A, B, P, R1, δ, S1, sgo S1 h1 fun kk vk R2 H2 m2 r2 S2 h2 => ?_⟩
    exact ownPut_ok S2 r2 (Rep.keep (S1.keeps m2) _ r) h2 f1
  · exact h.elim
/-- xs[i], any sign, as it is read ahead of a store -/
theorem get_lst : PGet X (rIxL X.K) := by
  intro pins s σ H x y v u Q I rx ry h
  obtain ⟨p, xs, i, z, rfl, rfl, hq, he, q⟩ := h
  cases rx
  obtain ⟨t, rfl⟩ := ry
  obtain ⟨its, r, pl, hz⟩ := I.list hq
  obtain ⟨j, h1, h2, h3, h4, h5⟩ := atI_get he
  obtain ⟨w, ew, rw'⟩ := r.get h2
  have hl := r.length
  have hn := line63
  have fin : EP X pins σ Q w s := ⟨z, H, I, rw', q⟩
  by_cases h0 : 0 ≤ i
  · have hj : i.toNat = j := by
      rw [seqIndex_of h0 h5] at h1
      exact Option.some.inj h1
    exact wpAny_getItem_list pl.isList h0 (by omega) (by rw [hj]; simpa using ew) fin
  · have hj : (i + (its.toArray.size : Int)).toNat = j := by
      rw [seqIndex_neg (by omega) h4] at h1
      rw [List.size_toArray, ← hl]
      exact Option.some.inj h1
    exact wpAny_getItem_list_neg pl.isList (by omega) (by rw [List.size_toArray] <;> omega) (by omega) (by rw [hj]; simpa using ew) fin
def ownGet (δ : SEnv) (i : Nat) (k : D) : Option D := match δ[i]?, k with
  | some (.ot (.lst ds)), .int z => atI ds z
  | _, _ => none
/-- x[k] += e -/
def sAugO (i : Nat) (fo : D → D → Option D) (fk fe : SEnv → M D) : SM := fun δ R => match δ[i]? with
  | some (.ot (.lst _)) => sBind fk (fun k δ R => match ownGet δ i k with
    | some z => sBind fe (fun y δ R => match fo z y with
      | some w => ownPut i k w δ R
      | none => .stuck) δ R
    | none => .stuck) δ R
  | _ => .stuck
theorem ds_augO {i : Nat} {x : Str} {op : Operator} {g : Int → Int → Int} {k : Expr} {fk : SEnv → M D} {fo : D → D → Option D} {tpos : Pos} (hfo : ∀ a b d, fo a b = some d → ∃ i j, a = .int i ∧ b = .int j ∧ d = .int (g i j)) (hp : PIp X op (ipI g)) (hN : X.N[i]? = some x) (hv : Vis X.env.scope x) (hk : PE X k (tD Γ W fk)) (he : PE X e (tD Γ W fe))
    (hd : (x == ("__debug__" : Str)) = false := by decide) (hcd : (x == ("__classdict__" : Str)) = false := by decide)
    (ha : ∀ ov iv new, augStore k ov iv new = (do holding [new, ov, iv] (setItem ov iv new); release [new, ov, iv] []; pure .next) := by intros; rfl) :
    PS X (.AugAssign (.Subscript (.Name x p) k tpos) op e pos) (tS Γ W (sAugO i fo fk fe)) := (ps_augS (pe_var hN hv hd hcd) hk get_lst he hp set_list ha).imp fun Dn σ H h => by
  obtain ⟨H0, A, B, P, R, δ, S, h⟩ := h
  unfold sAugO at h
  split at h
  · rename_i ds e1
    obtain ⟨q, vs, f1, _⟩ := S.slots.getOwn e1
    refine ⟨.ref q, f1, H0, A, B, P, R, δ, S, sgo S h fun kk vk R1 H1 m r S1 h1 => ?_⟩
    split at h1
    · rename_i z ez
      obtain ⟨q', vs', g1, g2, g3, g4⟩ := S1.slots.getOwn e1
      rw [f1] at g1
      have eq : q' = q := by injection (Option.some.inj (Option.some.inj g1)).symm
      subst eq
      unfold ownGet at ez
      rw [e1] at ez
      cases kk <;> simp only at ez <;> try (cases ez)
      rename_i iz
      obtain ⟨vz, ev, rz⟩ := g3.atI ez
      refine ⟨q', vs', iz, vz, rfl, r.int_eq, SqL.of g2, ev, H0, A, B, P, R1, δ, S1, sgo S1 h1 fun y vy R2 H2 m2 r2 S2 h2 => ?_⟩
      split at h2
      · rename_i w ew
        obtain ⟨i1, j1, rfl, rfl, rfl⟩ := hfo _ _ _ ew
        refine ⟨i1, j1, rz.int_eq, r2.int_eq, ?_⟩
        exact ownPut_ok S2 (by rw [r.int_eq]; exact Rep.of_int) Rep.of_int h2 f1
      · exact h2.elim
    · exact h1.elim
  · exact h.elim
theorem ds_augOadd {i : Nat} {x : Str} {k : Expr} {fk : SEnv → M D} {tpos : Pos} (hN : X.N[i]? = some x) (hv : Vis X.env.scope x) (hk : PE X k (tD Γ W fk)) (he : PE X e (tD Γ W fe)) (hd : (x == ("__debug__" : Str)) = false := by decide) (hcd : (x == ("__classdict__" : Str)) = false := by decide)
    (ha : ∀ ov iv new, augStore k ov iv new = (do holding [new, ov, iv] (setItem ov iv new); release [new, ov, iv] []; pure .next) := by intros; rfl) :
    PS X (.AugAssign (.Subscript (.Name x p) k tpos) .Add e pos) (tS Γ W (sAugO i addI fk fe)) := ds_augO (fun _ _ _ => addI_eq) ip_add hN hv hk he hd hcd ha
end
end DL

set_option Elab.async false
set_option linter.all false
set_option maxRecDepth 100000
namespace DL
open PySem PySem.Spec L2
/-! ### what the head tells of a def -/
structure FnI (K : PySem.W.Frag) (mg : Str → Option Value) (x : Str) (st : Stmt) : Prop where
  ex : ∃ (f : Addr) (fd : FuncData), FunD K x x (defArgs st) (defBody st) (defScope st) [] [] f fd ∧ mg x = some (.ref f)
structure MeI (K : PySem.W.Frag) (Γ : Ctx) (m qual : Str) (st : Stmt) : Prop where
  ex : ∃ (f : Addr) (fd : FuncData), FunD K m qual (defArgs st) (defBody st) (defScope st) [] [] f fd ∧ Meth K Γ.web m f
structure MkI (K : PySem.W.Frag) (Γ : Ctx) (st : Stmt) : Prop where
  ex : ∃ (f : Addr) (fd : FuncData), FunD K "__init__" "Web.__init__" (defArgs st) (defBody st) (defScope st) [] [] f fd ∧ Mk K Γ.web f
theorem then_mono {Γ : Ctx} {W : WX} {f : SM} {t t' : TS} (h : ∀ Dn σ H, t Dn σ H → t' Dn σ H) {Dn : Ends} {σ : L2.St} {H : Hp} (q : tThen Γ W f t Dn σ H) : tThen Γ W f t' Dn σ H := by
  obtain ⟨H0, A, B, P, R, δ, S, q⟩ := q
  exact ⟨H0, A, B, P, R, δ, S, SOut.run_mono q (fun _ _ z σ' H' P' s S' => h _ _ _ (z σ' H' P' s S')) (fun _ _ z => z) (fun _ _ z => z) (fun _ _ z => z) fun _ _ _ z => z⟩
theorem then_imp2 {Γ : Ctx} {W : WX} {f g k : SM} {t : TS} {Dn : Ends} {σ : L2.St} {H : Hp} (h : tThen Γ W (sSeq f (sSeq g k)) t Dn σ H) : tThen Γ W f (tThen Γ W g (tThen Γ W k t)) Dn σ H := then_mono (fun _ _ _ q => then_seq q) (then_seq h)
def inCls (s : Stmt) (j : Nat) : Stmt := match s with
  | .ClassDef (body := b) .. => b.getD j (.Pass ⟨0, 0, 0, 0⟩)
  | _ => .Pass ⟨0, 0, 0, 0⟩
/-- the maker of errors keeps its promise -/
theorem boxI_mk {P : Program} {w : World} {K : PySem.W.Frag} {mg : Str → Option Value} {base : Heap} {params : Arguments} {scope : Scope} {f : Addr} {fd : FuncData} {p1 p2 p3 p4 : Pos} (FD : FunD K "__init__" "BoxError.__init__" params [.Assign [.Attribute (.Name "self" p1) "value" p2] (.Name "value" p3) p4] scope [.non] [] f fd)
    (S : FnScope ["self", "value"] ["self", "value"] scope) (v0 : Vis scope "self") (v1 : Vis scope "value") (hb : L2.Binds K fd ["self", "value"] []) (ty : PySem.W.typeIn K (.ref f) = some (.type "function")) : BoxI P w K mg base 1 f := by
  refine ⟨fd, ["self", "value"], FD.ok S (fun vs H Q E h => ?_) (fun cdv A outer s H vs Q E hr h => ?_), hb, ty⟩
  · obtain ⟨a, C, v, rfl, _⟩ := h
    rfl
  · obtain ⟨a, C, v, rfl, oc, no, ha, q⟩ := h
    refine ⟨_, pss_one (ps_ost (pe_var (i := 0) rfl v0) (pe_var (i := 1) rfl v1) (by rfl)), ?_⟩
    exact ⟨_, rfl, _, rfl, a, C, rfl, oc, no, .inl ⟨ha, fun dx h1 h2 => q dx h1 h2⟩⟩
end DL

set_option Elab.async false
set_option linter.all false
set_option maxRecDepth 100000
set_option maxHeartbeats 2000000
namespace DL
open PySem PySem.Spec L2
/-! ### a lambda that is handed over -/
abbrev lamN (X : Cx) : Str := X.env.qual ++ "<lambda>"
abbrev lamOb (X : Cx) (params : Arguments) (body : Expr) (scope : Scope) (pm : Value) (c' : Addr) (ctv : Value) : Obj := PySem.W.kla_obj "<lambda>" (lamN X) params body scope (cloFrom X.env.cells scope.names []) pm c' ctv
/-- nothing tracked is lost, no instance is new -/
structure LamAl (H H1 : Hp) : Prop where
  al : ∀ b o, H b = some o → ∃ o', H1 b = some o' ∧ (nx o → nx o')
  ni : ∀ b C dx fs, H1 b = some (.ins C dx fs) → H b = some (.ins C dx fs)
section
variable {X : Cx} {pins : List (Addr × Obj)} {σ : L2.St} {H : Hp} {s : Shared}
/-- the making of a lambda: where it stands is new, nothing that was tracked is lost -/
theorem lam_new {tabs : List (Addr × Str)} {cd tab : Addr} {params : Arguments} {body : Expr} {scope : Scope} {pos : Pos} {E Q : Value → Shared → Prop} (I : Inv X pins σ H s) (TB : LamX.TabB X.base X.mg cd tab) (hcd : X.env.code = .ref cd)
    (hin : (tab, lamN X) ∈ tabs) (honly : ∀ p ∈ tabs, p.1 = tab → p.2 = lamN X) (htabs : LamX.Tabs tabs H) (hdef : defaultsOf params X.env = ([], [])) (hfree : ∀ y ∈ scope.names, y.2 = .free → ∃ c, X.env.cells.lookup y.1 = some c)
    (fin : ∀ (f c' : Addr) (pm ctv : Value) (H1 : Hp) (s1 : Shared), Inv X pins σ H1 s1 → LamX.ExtN H H1 → LamAl H H1 → LamX.Tabs tabs H1 → s.heap.objs.size ≤ f → s1.heap.get? f = some (lamOb X params body scope pm c' ctv) → H1 f = none → f ∉ frs X.stack →
      H1 c' = some (LamX.CodeO c' (lamN X)) → Q (.ref f) s1) :
    wpAny (model X.prog X.w) X.A (eval (.Lambda params body scope pos) X.env) Q E s := by
  obtain ⟨items, hT, ok3, known⟩ := htabs _ hin
  have hT : H tab = some (.tbl items) := hT
  have objT : s.heap.get? tab = some { cls := .none, data := .fields items } := I.hok tab _ hT
  have bi : s.heap.BuiltinsAt X.mg tab := TB.bm.keeps I.bk
  have new_nofr : ∀ {f : Addr}, s.heap.objs.size ≤ f → f ∉ frs X.stack := fun {f} hf hm => by
    rcases List.mem_cons.mp (I.stkSub _ hm) with eq | old
    · have below := I.lt
      rw [← eq] at below
      exact Nat.lt_irrefl _ (Nat.lt_of_lt_of_le below hf)
    · exact I.nofs hf old
  refine PySem.W.kla_eval hdef ?_
  cases found : codeAmong pos items.toList with
  | some cv =>
    obtain ⟨c', rfl, hc'⟩ := known pos cv found
    refine PySem.W.kla_makeFunctionHit (mg := X.mg) (c := cd) (P := tab) (ps := items) (closure_ok hfree) I.ok.glob (I.mod.glob.keeps I.bk) hcd (TB.code.keeps I.bk) objT ok3 found bi fun ctv h2 tk keep size => ?_
    have J : Inv X pins σ H { s with heap := h2.push (lamOb X params body scope ((X.mg "__name__").getD .none) c' ctv), toks := tk } := I.kept fun b o e => Heap.get?_push_of_some _ (keep b o e)
    exact fin h2.objs.size c' ((X.mg "__name__").getD .none) ctv H _ J (LamX.ExtN.refl H) ⟨fun b o e => ⟨o, e, id⟩, fun _ _ _ _ z => z⟩ htabs size (Heap.get?_push_size _ rfl) (I.hok.fresh size) (new_nofr size) hc'
  | none =>
    refine PySem.W.kla_makeFunction (mg := X.mg) (c := cd) (P := tab) (ps := items) (closure_ok hfree) I.ok.glob (I.mod.glob.keeps I.bk) hcd (TB.code.keeps I.bk) objT ok3 found TB.gP bi fun c' ctv h2 tk keep cnew clt crec tabNow => ?_
    obtain ⟨c2, oc, fields, tn, ec, hoc, hdata, hname⟩ := crec
    cases ec
    have fsize : s.heap.objs.size ≤ h2.objs.size := by omega
    have free' : H c' = none := I.hok.fresh cnew
    have tne : tab ≠ c' := ne_of_none hT free'
    have J := LamX.inv_table (t' := tk) (more := #[rawInt pos.line, rawInt pos.col, .ref c']) (h' := h2.push (lamOb X params body scope ((X.mg "__name__").getD .none) c' ctv)) I hT (fun b o nb e => Heap.get?_push_of_some _ (keep b o nb e)) (Heap.get?_push_of_some _ tabNow) cnew
      ⟨oc, fields, tn, Heap.get?_push_of_some _ hoc, hdata, hname⟩
    have grow : LamX.ExtN H (upd (upd H tab (.tbl (items ++ #[rawInt pos.line, rawInt pos.col, .ref c']))) c' (LamX.CodeO c' (lamN X))) := fun b o e notT => by
      have n1 : b ≠ c' := ne_of_none e free'
      have n2 : b ≠ tab := fun z => by
        rw [z, hT] at e
        exact notT items (Option.some.inj e).symm
      rw [upd_ne n1, upd_ne n2]
      exact e
    have listed : (items ++ #[rawInt pos.line, rawInt pos.col, .ref c']).toList = items.toList ++ [rawInt pos.line, rawInt pos.col, .ref c'] := by simp
    refine fin h2.objs.size c' ((X.mg "__name__").getD .none) ctv _ _ J grow ⟨fun b o e => ?_, fun b C dx fs e => ?_⟩ (fun p hp => ?_) fsize (Heap.get?_push_size _ rfl) ?_ (new_nofr fsize) upd_same
    · by_cases z : b = tab
      · rw [z, upd_ne tne, upd_same]
        exact ⟨_, rfl, fun _ => nx_tbl⟩
      · rw [upd_ne (ne_of_none e free'), upd_ne z]
        exact ⟨o, e, id⟩
    · by_cases z : b = c'
      · rw [z, upd_same] at e; unfold LamX.CodeO at e; cases e
      · rw [upd_ne z] at e
        by_cases z2 : b = tab
        · rw [z2, upd_same] at e; cases e
        · rwa [upd_ne z2] at e
    · by_cases same : p.1 = tab
      · rw [honly p hp same, same]
        refine ⟨_, by rw [upd_ne tne, upd_same], by rw [listed]; exact PySem.TriplesOk_snoc _ _ _ _ ok3, fun pos2 cv found2 => ?_⟩
        rw [listed] at found2
        rcases LamX.among_app _ ok3 found2 with old | now
        · obtain ⟨c0, e1, e2⟩ := known pos2 cv old
          exact ⟨c0, e1, grow _ _ e2 LamX.codeO_ne⟩
        · exact ⟨c', now, upd_same⟩
      · obtain ⟨its2, a1, a2, a3⟩ := htabs p hp
        refine ⟨its2, by rw [upd_ne (ne_of_none a1 free'), upd_ne same]; exact a1, a2, fun pos2 cv found2 => ?_⟩
        obtain ⟨c0, e1, e2⟩ := a3 pos2 cv found2
        exact ⟨c0, e1, grow _ _ e2 LamX.codeO_ne⟩
    · rw [upd_ne (Nat.ne_of_gt clt), upd_ne (fun z => by
        have small := Heap.lt_size objT
        rw [← (show h2.objs.size = tab from z)] at small
        exact Nat.lt_irrefl _ (Nat.lt_of_lt_of_le small fsize))]
      exact I.hok.fresh fsize
end
/-- what stands behind the making of a lambda -/
structure AftL (Γ : Ctx) (H H1 : Hp) : Prop where
  ext : LamX.ExtN H H1
  al : LamAl H H1
  tabs : LamX.Tabs Γ.tabs H1
theorem AftL.tup {Γ : Ctx} {H H1 : Hp} (a : AftL Γ H H1) {b : Addr} {xs : List V} (h : TupO H b xs) : TupO H1 b xs := by
  rcases h with h | ⟨o, d, h⟩
  · exact .inl (a.ext _ _ h (fun ps z => by cases z))
  · exact .inr ⟨o, d, a.ext _ _ h (fun ps z => by cases z)⟩
theorem AftL.mv {Γ : Ctx} {B : List Addr} {R : Option Rw} {H H1 : Hp} (a : AftL Γ H H1) (row : RowOk Γ H R) : Mv Γ B R R H H1 := by
  refine ⟨⟨fun b o _ e s => a.ext b o e (fun ps z => by rw [z] at s; cases s), fun b φ _ _ e => a.ext b _ e (fun ps z => by cases z), fun b kvs _ e => ⟨kvs, a.ext b _ e (fun ps z => by cases z)⟩, a.al.al⟩, ⟨⟨a.tabs, row.1.2.1.keep (fun b φ e => a.ext b _ e (fun ps z => by cases z)) (fun b xs e => a.tup e), ?_⟩, ?_⟩, rfl⟩
  · have w := row.1.2.2
    refine ⟨fun b dx n t q h => ?_, fun b b' dx dx' n n' t t' q h h' => w.uq b b' dx dx' n n' t t' q (a.al.ni _ _ _ _ h) (a.al.ni _ _ _ _ h')⟩
    obtain ⟨ss, xs, kvs, h1, h2, h3, h4⟩ := w.at_ b dx n t q (a.al.ni _ _ _ _ h)
    exact ⟨ss, xs, kvs, a.tup h1, h2.imp fun b ys e => a.tup e, a.ext _ _ h3 (fun ps z => by cases z), h4⟩
  · obtain ⟨h1, h2⟩ := row
    cases R with
    | none => trivial
    | some r => exact a.ext _ _ h2 (fun ps z => by cases z)
/-- x(lambda: body): x the module's def that calls what it gets -/
def tLamD (Γ : Ctx) (TT : (XK → Hp → VK → Prop) → Hp → VK → Prop) (t : XK → TE) : TE := fun σ H Q => LamX.Tabs Γ.tabs H ∧ ∀ H1, AftL Γ H H1 → TT (fun E H' Q' => t E σ H' Q') H1 Q
section
variable {X : Cx} {Γ : Ctx}
theorem pe_lamD {TT : (XK → Hp → VK → Prop) → Hp → VK → Prop} {x a : Str} {g cd tab : Addr} {k : Nat} {pg params : Arguments} {bg : List Stmt} {sg scope : Scope} {gd : FuncData} {Ng : List Str} {body : Expr} {t : XK → TE} {p lpos pos : Pos} (hg : Gl X x) (hm : X.mg x = some (.ref g)) (FD : FunD X.K x x pg bg sg [] [] g gd)
    (Sg : FnScope Ng [a] sg) (hb : L2.Binds X.K gd [a] []) (h0 : Ng[0]? = some a) (va : Vis sg a) (gives : ∀ cdg, LamX.GivesTo X Ng x sg g cdg bg a (lamN X) TT)
    (TB : LamX.TabB X.base X.mg cd tab) (hcd : X.env.code = .ref cd) (hin : (tab, lamN X) ∈ Γ.tabs) (honly : ∀ p ∈ Γ.tabs, p.1 = tab → p.2 = lamN X) (hr : Room (k + 2) X.A) (L : LamX.LamS X.env.scope scope) (hdef : defaultsOf params X.env = ([], []))
    (hbind : ∀ (q : Str) (cl : List (Str × Addr)) (pm cv ctv : Value), bindArgs (PySem.W.kla_fn "<lambda>" q params body scope cl pm cv ctv) ⟨[], []⟩ = pure [])
    (hbody : ∀ (A : Around) (outer : List Env) (s : Shared) (H : Hp) (E : XK) (f c' : Addr), Room k (A.deeper (LamX.lamEnv X scope s.heap.objs.size f c')) → PE (LamX.lamCx X A outer s H E scope f c') body (t E))
    (db1 : (x == ("__debug__" : Str)) = false := by decide) (db2 : (a == ("__debug__" : Str)) = false := by decide) (db3 : (a == ("__classdict__" : Str)) = false := by decide) :
    PE X (.Call (.Name x p) [.Lambda params body scope lpos] [] pos) (tLamD Γ TT t) := by
  obtain ⟨oc, od, dV, kV, doc, pm0, an, cdv, ct, osl, rfl, lk, hcg, _, _⟩ := FD.ex
  refine ⟨fun pins s σ H Q I want => ?_⟩
  obtain ⟨htabs, want⟩ := want
  refine wpAny_Call_Name_kw (ld_glob I hg hm ?_ db1)
  refine PySem.W.callWith_K (h₀ := X.base) I.ok.mod.kin FD.kp ?_ (by rfl) (by rfl)
  show wpAny _ _ (spliced ((false, eval (.Lambda params body scope lpos) X.env) :: backTo pos (starEach [] X.env))) _ _ s
  refine Calls.spliced_cons (lam_new I TB hcd hin honly htabs hdef (L.has I.ok) fun f c' pm ctv H1 s1 J grow al tabs1 _ isF fF frF isC => ?_)
  refine Calls.spliced_nil ⟨J.kIn, ?_⟩
  have runs : codeAny (model X.prog X.w) X.A (.call (.ref g) ⟨[.ref f], []⟩) (CR C8.CX0 X.stack X.prog X.w H1 s1 Q C8.E0) s1 := by
    refine LamX.run_ofS (N := Ng) (ps := [a]) (us := [.ref f]) (vs := [.ref f]) lk hcg Sg hr J.env0 (hb s1 [.ref f] J.kIn rfl) (.cons rfl .nil) rfl fun hr2 => ?_
    obtain ⟨t', ht', hq'⟩ := gives cdv f c' s1 H1 Q (fun E H' Q' => t E σ H' Q') (fun W pn xe E p1 p2 tk hW => LamX.pe_act (i := 0) J L isF fF frF (hbind _ _ _ _ _) tk hW hr2 (fun A outer s H hr3 => hbody A outer s H E f c' hr3) h0 va db2 db3) isC (want H1 ⟨grow, al, tabs1⟩)
    exact ⟨t', ht'.nox, hq'⟩
  refine wpAny_call (codeAny_mono runs fun res s2 got => ?_)
  cases res with
  | error ev => exact (show False from got).elim
  | ok fl =>
    cases fl with
    | ret u => exact J.after got
    | next => exact False.elim got
    | brk => exact False.elim got
    | cont => exact False.elim got
end
end DL

set_option Elab.async false
set_option linter.all false
set_option maxRecDepth 100000
set_option maxHeartbeats 2000000
namespace DL
open PySem PySem.Spec L2
/-! ### several clauses 'except C as e', nothing else comes -/
abbrev Suite := Addr → Value → Option Addr → TS
abbrev offE (i : Nat) (D : Ends) : Ends := { nx := fun τ G => D.nx (τ.set i none) G, rt := D.rt, bk := fun τ G => D.bk (τ.set i none) G, ct := fun τ G => D.ct (τ.set i none) G }
def wClauses (K : PySem.W.Frag) (i : Nat) (D : Ends) : List (Value × Suite) → WX
  | [] => fun _ _ _ _ => False
  | q :: rest => fun cls d τ G => ∃ yes, PySem.W.exmOne K cls q.1 = some yes ∧ (yes = true → ∀ a, G a = none → q.2 a cls d (offE i D) (τ.set i (some (.ref a))) G) ∧ (yes = false → wClauses K i D rest cls d τ G)
inductive Clauses (X : Cx) (n : Str) : List ExceptHandler → List (Value × Suite) → Prop
  | none : Clauses X n [] []
  | more {x : Str} {c : Value} {ts : Suite} {b₀ : Stmt} {suite : List Stmt} {np pos' : Pos} {hds : List ExceptHandler} {l : List (Value × Suite)} (hc : Names X x c)
      (hsu : ∀ (a : Addr) (oe : Obj) (cls : Value) (d : Option Addr) (pn : List (Addr × Obj)), Zc cls d oe → (∃ vs, oe.data = .fields vs) → PSs (X.suite a ((a, oe) :: pn)) (b₀ :: suite) (ts a cls d)) (r : Clauses X n hds l) :
      Clauses X n (.ExceptHandler (some (.Name x np)) (some n) (b₀ :: suite) pos' :: hds) ((c, ts) :: l)
section
variable {X : Cx} {n : Str} {i : Nat} {body : List Stmt} {h₀ : ExceptHandler} {hds : List ExceptHandler} {l : List (Value × Suite)} {pos : Pos} {tb : WX → TS}
theorem ps_try_clauses (hs : X.stack = X.env :: X.outer) (hf : X.env.frame = some X.env.locals) (hN : X.N.Nodup) (hi : X.N[i]? = some n) (hln : X.env.kindOf n = some .local)
    (hb : ∀ (W : WX) (pn : List (Addr × Obj)) (xe : Value → Shared → Prop), Takes (X.tr pn xe) W → PassesOwn (model X.prog X.w) X.A X.env xe → PSs (X.tr pn xe) body (tb W))
    (cl : Clauses X n (h₀ :: hds) l) : PS X (.Try body (h₀ :: hds) [] [] pos) (fun D σ H => tb (fun cls d τ G => τ.length = X.N.length → wClauses X.K i D l cls d τ G) D σ H) := by
  refine ⟨fun pins s σ H D I want => ?_⟩
  have okX := I.ok
  have frX : X.A.frames = some (X.env :: X.outer) := by rw [okX.frames, hs]
  refine wpAny_Try_except ?_
  have bodyRun := (hb (fun cls d τ G => τ.length = X.N.length → wClauses X.K i D l cls d τ G) (X.pn ++ pins) (fun ev s₁ => wpAny (model X.prog X.w) X.A (noteFrame ev X.env) (fun _ s₂ => wpAny (model X.prog X.w) X.A (setFlight ev none) (fun _ s₃ =>
    wpAny (model X.prog X.w) X.A (handleBy ev X.env (h₀ :: hds)) (SP X pins D) X.xe s₃) X.xe s₂) X.xe s₁) (fun u sE thrown => ?_) PassesOwn.looking).run [] s σ H D (I.toTry _) want
  · refine wpAny_mono bodyRun (fun fl sB out => ?_) (fun ev sB z => z)
    cases fl with
    | ret u =>
      obtain ⟨v, τ, G, J, rv, q⟩ := out
      exact ⟨v, τ, G, J.ofTry okX, rv, q⟩
    | next =>
      obtain ⟨τ, G, J, q⟩ := out
      exact wpAny_execs_nil ⟨τ, G, J.ofTry okX, q⟩
    | brk =>
      obtain ⟨τ, G, J, q⟩ := out
      exact ⟨τ, G, J.ofTry okX, q⟩
    | cont =>
      obtain ⟨τ, G, J, q⟩ := out
      exact ⟨τ, G, J.ofTry okX, q⟩
  · obtain ⟨ea, gB, sI, pinsI, τ, G, cls, d, rfl, J0, keepB, upS, skyS, unk, osS, bareS, wish⟩ := thrown
    have J : Inv X pins τ G sI := J0.ofTry okX
    have skyX : Sky gB (X.env :: X.outer) ea (Zc cls d) X.env.locals sE.heap := by rw [← hs]; exact skyS
    show wpAny (model X.prog X.w) X.A (noteFrame (.ref ea) X.env) _ _ _
    refine Sky.land Zc.steady frX hf skyX fun hL flL upL => ?_
    have JL : Inv X pins τ G { sE with heap := hL } := J.landed keepB flL.1 (upS.trans upL) osS bareS
    obtain ⟨oL, fieldsL, isL, zL, dataL⟩ := flL.there
    have outside : ea ∉ frs (X.env :: X.outer) := fun hm => by
      obtain ⟨_, o2, e2, notF⟩ := (flL.2.2.1).mem hm
      rw [isL] at e2
      cases e2
      exact notF _ dataL
    have notLoc : ea ≠ X.env.locals := fun z => outside (List.mem_filterMap.mpr ⟨X.env, List.mem_cons_self, by rw [hf, z]⟩)
    have notFs : ea ∉ X.fs := fun hm => by
      obtain ⟨en, hen, q⟩ := List.mem_filterMap.mp hm
      exact outside (List.mem_filterMap.mpr ⟨en, List.mem_cons_of_mem _ hen, q⟩)
    have SL := JL.suite isL dataL unk notLoc notFs
    have loop : ∀ {hs' : List ExceptHandler} {l' : List (Value × Suite)}, Clauses X n hs' l' → wClauses X.K i D l' cls d τ G → wpAny (model X.prog X.w) X.A (handleBy (.ref ea) X.env hs') (SP X pins D) X.xe { sE with heap := hL } := by
      intro hs' l' cs
      induction cs with
      | none => exact fun z => z.elim
      | @more x c ts b₀ suite np pos' hs2 l2 hc hsu r ih =>
        intro wish2
        obtain ⟨yes, isYes, onYes, onNo⟩ := wish2
        refine wpAny_handleBy_cons (codeAny_handlers_test ?_) (by intro z; cases z)
        have typ : PySem.W.Looks (model X.prog X.w) hL (typeOf (.ref ea)) cls := fun A Q E st kp q => wpAny_typeOf_ref (kp _ _ isL) (by rw [zL.1]; exact q)
        have sub := PySem.W.exm_one (M := model X.prog X.w) (JL.kIn) typ isYes
        have named : ∀ {Q E : Value → Shared → Prop}, Q c { sE with heap := hL } → wpAny (model X.prog X.w) (X.A.mark (some (.ref ea))) (eval (.Name x np) X.env) Q E { sE with heap := hL } := fun {Q E} q => by
          obtain ⟨g1, g2, own | ⟨notOwn, boot, nn⟩⟩ := hc
          · exact ld_glob (X := X.suite ea ((ea, oL) :: (X.pn ++ pins))) SL g1 own q g2
          · exact ld_blt (X := X.suite ea ((ea, oL) :: (X.pn ++ pins))) SL g1 notOwn boot q nn g2
        refine named (sub.here ?_)
        cases yes with
        | false =>
          show wpAny _ X.A (handleBy (.ref ea) X.env hs2) _ _ _
          exact ih (onNo rfl)
        | true =>
          refine codeAny_handlers_suite_as ?_
          refine HandSPX.lands_againZ flL fun hM flM upM => ?_
          have JM : Inv X pins τ G { sE with heap := hM } := J.landed keepB flM.1 ((upS.trans upL).trans upM) osS bareS
          obtain ⟨oM, fieldsM, isM, zM, dataM⟩ := flM.there
          have SM' := JM.suite isM dataM unk notLoc notFs
          refine store_ok (X := X.suite ea ((ea, oM) :: (X.pn ++ pins))) (v := .ref ea) SM' hN hi (.inl hln) rfl (fun sN SN => ?_) (.inr hln)
          refine wpAny_mono ((hsu ea oM cls d (X.pn ++ pins) zM ⟨_, dataM⟩).run [] sN _ G _ SN (onYes rfl ea unk)) (fun fl sO out => ?_) (fun _ _ z => False.elim z)
          have leave : ∀ {τ2 : L2.St} {G2 : Hp} {Q : Shared → Prop}, Inv (X.suite ea ((ea, oM) :: (X.pn ++ pins))) [] τ2 G2 sO → (∀ sZ, Inv X pins (τ2.set i none) G2 sZ → Q sZ) →
              wpAny (model X.prog X.w) X.A (do bindName X.env n .none; unbindBehindTheSuite X.env n pos') (fun _ sZ => Q sZ) X.xe sO := fun {τ2 G2 Q} S2 hq => gone_ok (S2.unsuite okX) hN hi hln hq
          cases fl with
          | ret u =>
            obtain ⟨v2, τ2, G2, S2, r2, q2⟩ := out
            exact leave S2 fun sZ JZ => ⟨_, _, _, JZ, r2, q2⟩
          | next =>
            obtain ⟨τ2, G2, S2, q2⟩ := out
            exact leave S2 fun sZ JZ => ⟨_, _, JZ, q2⟩
          | brk =>
            obtain ⟨τ2, G2, S2, q2⟩ := out
            exact leave S2 fun sZ JZ => ⟨_, _, JZ, q2⟩
          | cont =>
            obtain ⟨τ2, G2, S2, q2⟩ := out
            exact leave S2 fun sZ JZ => ⟨_, _, JZ, q2⟩
    exact loop cl (wish J.len)
end
/-! ### def refused(ask): try: ask() / except C as e: return (word, e.value) / .. / return ('', None) -/
def chain (K : PySem.W.Frag) (Q : VK) : List (Addr × Str) → XK
  | [] => fun _ _ _ => False
  | p :: r => fun cls d H => ∃ b, PySem.W.exmOne K cls (.ref p.1) = some b ∧ (b = true → cls = .ref p.1 ∧ ∃ dd v, d = some dd ∧ H dd = some (.xd [(("value" : Str), v)]) ∧ ∀ q, H q = none → Q (.ref q) (upd H q (.tup [.str p.2, v]))) ∧ (b = false → chain K Q r cls d H)
def TTref (K : PySem.W.Frag) (ws : List (Addr × Str)) : (XK → Hp → VK → Prop) → Hp → VK → Prop := fun tl H Q => tl (chain K Q ws) H fun _ H1 => [V.str ("" : Str), V.non].length ≤ sizeLine ∧ ∀ q, H1 q = none → Q (.ref q) (upd H1 q (.tup [.str ("" : Str), .non]))
def tsOf (p : Addr × Str) : Suite := fun a cls d => tRet (tTup (tCons (tC (.str p.2)) (tCons (tXf a cls d p.1 ("value" : Str) (tVar 1)) tNil)))
theorem clauses_ok {K : PySem.W.Frag} {D : Ends} : ∀ {ws : List (Addr × Str)} {cls : Value} {d : Option Addr} {σ : L2.St} {H : Hp}, σ.length = 2 → chain K D.rt ws cls d H → wClauses K 1 D (ws.map fun p => (Value.ref p.1, tsOf p)) cls d σ H
  | [], _, _, _, _, _, h => h.elim
  | p :: r, cls, d, σ, H, hl, h => by
    obtain ⟨b, e1, e2, e3⟩ := h
    refine ⟨b, e1, fun hb a ha => ?_, fun hb => clauses_ok hl (e3 hb)⟩
    obtain ⟨ec, dd, v, ed, hx, q⟩ := e2 hb
    show tTup (tCons (tC (.str p.2)) (tCons (tXf a cls d p.1 ("value" : Str) (tVar 1)) tNil)) (σ.set 1 (some (.ref a))) H D.rt
    refine ⟨.ref a, by rw [List.getElem?_set_self (by omega)], rfl, ec, dd, _, v, ed, hx, by simp [List.lookup], ?_⟩
    exact ⟨by show 2 ≤ sizeLine; decide, fun q' hq => q q' hq⟩
theorem clause_su {Z : Cx} {C : Addr} {w : Str} {k j : Nat} {p1 p2 p3 p4 p5 : Pos} (T : XfC Z.K C) (no : PySem.W.findIn Z.K (.ref C) ("value" : Str) = some none) (hN : Z.N[1]? = some ("e" : Str)) (hv : Vis Z.env.scope "e") (a : Addr) (oe : Obj) (cls : Value) (d : Option Addr) (pn : List (Addr × Obj)) (hz : Zc cls d oe) (hf : ∃ vs, oe.data = .fields vs)
    (hs1 : starEach [.Constant (.str w) k p1, .Attribute (.Name "e" p2) "value" p3] (Z.suite a ((a, oe) :: pn)).env = (false, eval (.Constant (.str w) k p1) (Z.suite a ((a, oe) :: pn)).env) :: starEach [.Attribute (.Name "e" p2) "value" p3] (Z.suite a ((a, oe) :: pn)).env := by rfl)
    (hs2 : starEach [.Attribute (.Name "e" p2) "value" p3] (Z.suite a ((a, oe) :: pn)).env = (false, eval (.Attribute (.Name "e" p2) "value" p3) (Z.suite a ((a, oe) :: pn)).env) :: starEach [] (Z.suite a ((a, oe) :: pn)).env := by rfl) :
    PSs (Z.suite a ((a, oe) :: pn)) [.Return (some (.Tuple [.Constant (.str w) k p1, .Attribute (.Name "e" p2) "value" p3] j p4)) p5] (tsOf (C, w) a cls d) :=
  pss_one (ps_ret (pe_tup (pa_cons pe_str (pa_cons (pe_xf T no hz hf (pe_var (X := Z.suite a ((a, oe) :: pn)) hN hv)) pa_nil hs2) hs1)))
theorem refused_gives {X : Cx} {ws : List (Addr × Str)} {x q : Str} {sg : Scope} {g : Addr} {cdg : Value} {hds : List ExceptHandler} {h₀ : ExceptHandler} {k1 k2 k3 : Nat} {p1 p2 p3 p4 p5 p6 p7 p8 : Pos} (nd : (["ask", "e"] : List Str).Nodup) (le : sg.names.lookup ("e" : Str) = some NameKind.local)
    (cl : ∀ (s : Shared) (H : Hp), Clauses (cxOf C8.CX0 X.prog X.w X.K X.mg X.base ["ask", "e"] x sg g cdg X.A X.stack s H C8.E0).nox "e" (h₀ :: hds) (ws.map fun p => (Value.ref p.1, tsOf p))) :
    LamX.GivesTo X ["ask", "e"] x sg g cdg [.Try [.Expr (.Call (.Name "ask" p1) [] [] p2) p3] (h₀ :: hds) [] [] p4, .Return (some (.Tuple [.Constant (.str ("" : Str)) k1 p5, .Constant .none k2 p6] k3 p7)) p8] "ask" q (TTref X.K ws) := by
  intro f c' s H Q tl act hc h
  refine ⟨_, pss_cons (ps_try_clauses (X := (cxOf C8.CX0 X.prog X.w X.K X.mg X.base ["ask", "e"] x sg g cdg X.A X.stack s H C8.E0).nox) (i := 1) (n := "e")
      (tb := fun W D σ H => ∃ Ech : XK, (∀ cls d σ' H', Ech cls d H' → W cls d σ' H') ∧ σ[0]? = some (some (.ref f)) ∧ H c' = some (LamX.CodeO c' q) ∧ tl Ech H fun _ H1 => D.nx σ H1)
      rfl rfl nd rfl le (fun W pn xe tk _ => ?_) (cl s H)) (pss_one (ps_ret (pe_tup (pa_cons pe_str (pa_cons pe_non pa_nil))))), ?_⟩
  · refine ⟨fun pins s' σ H' D I h' => ?_⟩
    obtain ⟨Ech, hW, h1, h2, h3⟩ := h'
    exact (pss_one (ps_expr (pos := p3) (act W pn xe Ech p1 p2 tk hW))).run pins s' σ H' D I ⟨h1, h2, h3⟩
  · refine ⟨chain X.K Q ws, fun cls d σ' H' hch hl => clauses_ok hl hch, rfl, hc, ?_⟩
    refine h
end DL

set_option Elab.async false
set_option linter.all false
set_option maxRecDepth 100000
set_option maxHeartbeats 2000000
namespace DL
open PySem PySem.Spec L2
/-! ### x(lambda: body) as data -/
def dRef (ws : List (String × Str)) (fb : SEnv → M D) : SEnv → M D := fun δ R => match fb δ R with
  | .ok _ R' => .ok (.tup [.str ("" : Str), .non]) R'
  | .exn c d R' => match ws.lookup c with
    | some w => .ok (.tup [.str w, d]) R'
    | none => .stuck
  | .stuck => .stuck
theorem chain_of {K : PySem.W.Frag} {Γ : Ctx} {Q : VK} {c : String} {w : Str} {dx : Addr} {v : V} {H : Hp} (hx : H dx = some (.xd [(("value" : Str), v)])) (fin : ∀ q, H q = none → Q (.ref q) (upd H q (.tup [.str w, v]))) :
    ∀ {ws : List (String × Str)}, (∀ p ∈ ws, PySem.W.exmOne K (.ref (Γ.cls c)) (.ref (Γ.cls p.1)) = some (decide (c = p.1))) → ws.lookup c = some w → chain K Q (ws.map fun p => (Γ.cls p.1, p.2)) (.ref (Γ.cls c)) (some dx) H
  | [], _, h => by cases h
  | p :: r, hm, h => by
    refine ⟨decide (c = p.1), hm p List.mem_cons_self, fun hb => ?_, fun hb => ?_⟩
    · have e : c = p.1 := of_decide_eq_true hb
      refine ⟨by rw [e], dx, v, rfl, hx, ?_⟩
      have e2 : p.2 = w := by
        obtain ⟨p1, p2⟩ := p
        simp only at e
        subst e
        simpa [List.lookup] using h
      rw [e2]
      exact fin
    · have e : c ≠ p.1 := of_decide_eq_false hb
      refine chain_of hx fin (fun q hq => hm q (List.mem_cons_of_mem _ hq)) ?_
      obtain ⟨p1, p2⟩ := p
      have e2 : (c == p1) = false := by simpa using e
      simpa only [List.lookup, e2] using h
theorem ref_imp {Γ : Ctx} {W : WX} {K : PySem.W.Frag} {ws : List (String × Str)} {fb : SEnv → M D} (hm : ∀ c, (ws.lookup c).isSome = true → ∀ p ∈ ws, PySem.W.exmOne K (.ref (Γ.cls c)) (.ref (Γ.cls p.1)) = some (decide (c = p.1))) {σ : L2.St} {H : Hp} {Q : VK} (h : tD Γ W (dRef ws fb) σ H Q) :
    tLamD Γ (TTref K (ws.map fun p => (Γ.cls p.1, p.2))) (fun E => tD Γ (WD E) fb) σ H Q := by
  obtain ⟨H0, A, B, P, R, δ, S, h⟩ := h
  refine ⟨S.row.1.1, fun H1 aft => ?_⟩
  have m := aft.mv (B := B) S.row
  have S1 := S.move m
  refine ⟨H0, A, B, P, R, δ, S1, ?_⟩
  have hd : dRef ws fb δ R = (match fb δ R with
    | .ok _ R' => .ok (.tup [.str ("" : Str), .non]) R'
    | .exn c d R' => (match ws.lookup c with
      | some w => .ok (.tup [.str w, d]) R'
      | none => .stuck)
    | .stuck => .stuck) := rfl
  rw [hd] at h
  cases e : fb δ R with
  | ok d R' =>
    rw [e] at h
    intro b H2 m2 r2
    have S2 := S1.move m2
    exact ⟨by show 2 ≤ sizeLine; decide, fun q hq => h (.ref q) _ ((m.trans m2).trans (.grow m2.row (grow_new hq))) (Rep.new_tup0 (by simp [Ctx.fzI, intsB, isID]) S2.all hq (RepL_cons.mpr ⟨_, _, rfl, Rep.of_str, RepL.one Rep.of_non⟩))⟩
  | exn c d R' =>
    rw [e] at h
    cases el : ws.lookup c with
    | none => simp only [el] at h; exact h.elim
    | some w =>
      simp only [el] at h
      intro v dx H2 m2 hx r2
      have S2 := S1.move m2
      refine chain_of hx (fun q hq => ?_) (hm c (by rw [el]; rfl)) el
      exact h (.ref q) _ ((m.trans m2).trans (.grow m2.row (grow_new hq))) (Rep.new_tup0 (by simp [Ctx.fzI, intsB, isID]) S2.all hq (RepL_cons.mpr ⟨_, _, rfl, Rep.of_str, RepL.one r2⟩))
  | stuck => rw [e] at h; exact h.elim
/-! ### repr -/
mutual
def shwD : D → Bool
  | .non | .bl _ | .int _ | .str _ | .dic => true
  | .lst ds | .tup ds => shwDs ds
  | .rng _ _ | .dct _ _ _ | .web _ _ | .row _ | .fn _ => false
def shwDs : List D → Bool
  | [] => true
  | d :: ds => shwD d && shwDs ds
end
mutual
def noLst : D → Bool
  | .lst _ => false
  | .tup ds => noLsts ds
  | _ => true
def noLsts : List D → Bool
  | [] => true
  | d :: ds => noLst d && noLsts ds
end
section
variable {X : Cx} {pins : List (Addr × Obj)} {σ : L2.St} {H : Hp} {s : Shared} {Γ : Ctx} {A : List Addr}
mutual
theorem Rep.reads (I : Inv X pins σ H s) : ∀ (d : D) (v : V) (u : Value), Rep Γ (hide A H) d v → RelV v u → shwD d = true → ∃ as, Reads s.heap u (toPy d) as ∧ (noLst d = true → sysModules ∉ as)
  | .non, v, u, h, r, _ => by
    have := h.non_eq; subst this; cases r
    rw [toPy]; exact ⟨_, Reads.none, fun _ => by simp⟩
  | .bl b, v, u, h, r, _ => by
    have := h.bl_eq; subst this; cases r
    rw [toPy]; exact ⟨_, Reads.bool b, fun _ => by simp⟩
  | .int i, v, u, h, r, _ => by
    have := h.int_eq; subst this; obtain ⟨t, rfl⟩ := r
    rw [toPy]; exact ⟨_, Reads.int i t, fun _ => by simp⟩
  | .str x, v, u, h, r, _ => by
    have := h.str_eq; subst this; obtain ⟨t, rfl⟩ := r
    rw [toPy]; exact ⟨_, Reads.str x t, fun _ => by simp⟩
  | .lst ds, v, u, h, r, hs => by
    obtain ⟨a, xs, rfl, h1, h2, _⟩ := h.lst_at
    cases r
    obtain ⟨its, rv, ⟨o, n, ho, hc, _, hd⟩, _⟩ := I.list (SqL.of h1)
    obtain ⟨as, hr, _⟩ := RepL.reads I ds xs its h2 rv (by rw [shwD] at hs; exact hs)
    rw [toPy]
    exact ⟨_, Reads.list ho hc hd hr, fun z => by rw [noLst] at z; cases z⟩
  | .tup ds, v, u, h, r, hs => by
    obtain ⟨a, xs, rfl, h1, h2, _⟩ := h.tup_at
    cases r
    obtain ⟨its, rv, ⟨o, ho, hc, n, hd⟩, _⟩ := I.tuple (h1.sq)
    obtain ⟨as, hr, hn⟩ := RepL.reads I ds xs its h2 rv (by rw [shwD] at hs; exact hs)
    rw [toPy]
    exact ⟨_, Reads.tuple ho hc hd hr, fun z => hn (by rw [noLst] at z; exact z)⟩
  | .dic, v, u, h, r, _ => by
    rw [Rep] at h
    obtain ⟨a, rfl, h1⟩ := h
    cases r
    obtain ⟨_, e1, vs, kv, ob, es, ep, ho, ex, hd, _, prs, _⟩ := dk_of I.hok (hide_some h1).2
    cases kv
    have ee : es = #[] := by
      obtain ⟨l⟩ := es
      cases prs
      rfl
    subst ee
    rw [toPy]
    refine ⟨_, Reads.dict (kvs := []) ho ex.1 hd .nil .nil, fun _ m => ?_⟩
    have e2 : sysModules = a := by simpa using m
    rw [e2] at e1
    simp at e1
  | .web _ _, _, _, _, _, hs => by rw [shwD] at hs; cases hs
  | .rng _ _, _, _, _, _, hs => by rw [shwD] at hs; cases hs
  | .dct _ _ _, _, _, _, _, hs => by rw [shwD] at hs; cases hs
  | .row _, _, _, _, _, hs => by rw [shwD] at hs; cases hs
  | .fn _, _, _, _, _, hs => by rw [shwD] at hs; cases hs
theorem RepL.reads (I : Inv X pins σ H s) : ∀ (ds : List D) (vs : List V) (us : List Value), RepL Γ (hide A H) ds vs → Vals vs us → shwDs ds = true → ∃ as, ReadsAll s.heap us (toPys ds) as ∧ (noLsts ds = true → sysModules ∉ as)
  | [], vs, us, h, r, _ => by
    rw [RepL_nil] at h; subst h; cases r
    rw [toPys]; exact ⟨_, ReadsAll.nil, fun _ => by simp⟩
  | d :: ds, vs, us, h, r, hs => by
    rw [RepL_cons] at h
    obtain ⟨v, ws, rfl, h1, h2⟩ := h
    rw [shwDs, Bool.and_eq_true] at hs
    cases r with
    | cons r1 r2 =>
      obtain ⟨as, q1, n1⟩ := Rep.reads I d _ _ h1 r1 hs.1
      obtain ⟨bs, q2, n2⟩ := RepL.reads I ds _ _ h2 r2 hs.2
      rw [toPys]
      refine ⟨_, ReadsAll.cons q1 q2, fun z => ?_⟩
      rw [noLsts, Bool.and_eq_true] at z
      intro m
      rcases List.mem_append.mp m with m | m
      · exact n1 z.1 m
      · exact n2 z.2 m
end
end
def fRepr : List D → Option D
  | [.tup ds] => if shwDs ds = true ∧ (toPy (.tup ds)).showable = true ∧ (toPy (.tup ds)).shown.length ≤ sizeLine ∧ (toPy (.tup ds)).depth ≤ 60 ∧ ((toPy (.tup ds)).hasDict = true → noLsts ds = true) then some (.str (toPy (.tup ds)).shown) else none
  | _ => none
section
variable {Γ : Ctx} {W : WX} {X : Cx} {e : Expr} {fs : SEnv → M (List D)} {pos p : Pos}
theorem pd_repr (hu : X.A.units + 64 < cLine) (hgd : X.A.guards = some []) (hm : X.mg "repr" = none) (ha : PA X [e] (tL Γ W fs)) (hg : Gl X "repr" := by rfl) (he : starEach [e] X.env = (false, eval e X.env) :: starEach [] X.env := by rfl) (hpl : (backTo pos (starEach [] X.env)).any (·.1) = false := by rfl) :
    PE X (.Call (.Name "repr" p) [e] [] pos) (tD Γ W (dCall fRepr fs)) := by
  have rule : CallR X (.builtin "repr") (fun xs H Q => ∃ (A : List Addr) (v : V) (ds : List D), xs = [v] ∧ Rep Γ (hide A H) (.tup ds) v ∧ shwDs ds = true ∧ (toPy (.tup ds)).showable = true ∧ (toPy (.tup ds)).shown.length ≤ sizeLine ∧ (toPy (.tup ds)).depth ≤ 60 ∧ ((toPy (.tup ds)).hasDict = true → noLsts ds = true) ∧ Q (.str (toPy (.tup ds)).shown) H) := by
    intro pins s σ H xs us Q I r h
    obtain ⟨A, v, ds, rfl, h1, h2, h3, h4, h5, h6, q⟩ := h
    obtain ⟨u, rfl, ru⟩ := vals1 r
    obtain ⟨as, rd, hn⟩ := Rep.reads I (.tup ds) v u h1 ru (by rw [shwD]; exact h2)
    obtain ⟨a, xs, rfl, _⟩ := h1.tup_at
    cases ru
    exact repr_of_reads' rd h3 (fun z => hn (by rw [noLst]; exact h6 z)) hgd (by omega) (fun _ _ z => z) (fun h' u tk kp => ⟨.str _, H, I.kept kp, ⟨_, rfl⟩, q⟩) h4
  refine (pe_callB rule hg hm (by decide +kernel) ha (by decide) (by decide) he hpl).imp fun σ H Q h => ?_
  obtain ⟨H0, A, B, P, R, δ, S, h⟩ := h
  refine ⟨H0, A, B, P, R, δ, S, go S h fun xs vs R1 H1 m1 r1 S1 h1 => ?_⟩
  obtain ⟨d, e, q⟩ := lift_out S1 h1
  unfold fRepr at e
  split at e
  · rename_i ds
    split at e
    · rename_i hc
      cases e
      obtain ⟨v, rfl, r2⟩ := r1.one_inv
      obtain ⟨c1, c2, c3, c4, c5⟩ := hc
      exact ⟨_, v, ds, rfl, r2, c1, c2, c3, c4, c5, q _ H1 .refl Rep.of_str⟩
    · cases e
  · cases e
end
/-! ### the end: the law is called; its frame is known -/
section
open PyProof.Rows
/-- the ground that the law is called on -/
structure Grd (K : PySem.W.Frag) (mg mb : Str → Option Value) (cs : List (Addr × Addr)) (st : Shared) : Prop where
  kin : K.In st.heap
  glob : st.heap.Ns mainGlobals mg
  bns : st.heap.Ns builtinsNs mb
  boots : ∀ x : Str, x ≠ "__name__" → mb x = bootBuiltins x
  lim : st.heap.NoLimit
  noGen : st.gens = #[]
  tabE : ∀ p ∈ cs, st.heap.get? p.2 = some { cls := .none, data := .fields #[] }
  tabK : ∀ p ∈ cs, K.lookup p.2 = none
  codes : ∀ p ∈ cs, PySem.W.CodeHd st.heap p.1 p.2
  bMain : ∃ (bm : Addr) (ob : Obj), mg "__builtins__" = some (.ref bm) ∧ bm ≠ builtinsNs ∧ st.heap.get? bm = some ob ∧ ob.cls = .type "module" ∧ ob.dict = some builtinsNs ∧ ob.data = .plain
abbrev tabsOf (cs : List (Addr × Addr)) : List Addr := cs.map (·.2)
/-- what the first abstract heap is: the script, empty tables -/
structure H0Ok (P : Program) (w : World) (K : PySem.W.Frag) (cs : List (Addr × Addr)) (st : Shared) (a : Addr) (ns : List Int) (H : Hp) : Prop where
  tb : ∀ p ∈ cs, H p.2 = some (.tbl #[])
  shape : ∀ b, H b = none ∨ b ∈ tabsOf cs ∨ ∃ o xs, H b = some (.frz o (.lst xs))
  scr : SqL K H a (ns.map V.int)
  ok : HOk P w H st.heap
  only : ∀ b, H b ≠ none → b = a ∨ b ∈ tabsOf cs
  own : H a ≠ none → K.lookup a = none
variable {P : Program} {w : World} {K : PySem.W.Frag} {mg mb : Str → Option Value} {fa a : Addr} {cs : List (Addr × Addr)} {st : Shared} {vs : List Value} {ns : List Int} {H : Hp}
theorem H0Ok.noI (h : H0Ok P w K cs st a ns H) : ∀ b C dx fs, H b ≠ some (.ins C dx fs) := fun b C dx fs e => by
  rcases h.shape b with z | z | ⟨o, xs, z⟩
  · rw [z] at e; cases e
  · obtain ⟨p, hp, rfl⟩ := List.mem_map.mp z
    rw [h.tb p hp] at e; cases e
  · rw [z] at e; cases e
theorem Grd.at_tab (G : Grd K mg mb cs st) {b : Addr} (hb : b ∈ tabsOf cs) : st.heap.get? b = some { cls := .none, data := .fields #[] } := by
  obtain ⟨p, hp, rfl⟩ := List.mem_map.mp hb
  exact G.tabE p hp
theorem mem_tabs {p : Addr × Addr} (hp : p ∈ cs) : p.2 ∈ tabsOf cs := List.mem_map.mpr ⟨p, hp, rfl⟩
/-- an object that is neither a list nor an empty table stands in the base -/
theorem Grd.base (G : Grd K mg mb cs st) (hscr : st.heap.get? a = some { cls := .type "list", data := .seq vs.toArray }) (h : H0Ok P w K cs st a ns H) {b : Addr} {o : Obj} (e : st.heap.get? b = some o) (n1 : ∀ us k, o.data ≠ .seq us k) (n2 : o.data ≠ .fields #[]) : (hidT st.heap H).get? b = some o := by
  refine hidT_get e ?_
  cases q : H b with
  | none => rfl
  | some u =>
    have tracked : H b ≠ none := by rw [q]; exact fun z => by cases z
    rcases h.only b tracked with z | z
    · rw [z, hscr] at e
      cases e
      exact absurd rfl (n1 _ _)
    · rw [G.at_tab z] at e
      cases e
      exact absurd rfl n2
theorem Grd.nsB (G : Grd K mg mb cs st) (hscr : st.heap.get? a = some { cls := .type "list", data := .seq vs.toArray }) (h : H0Ok P w K cs st a ns H) {b : Addr} {m : Str → Option Value} (x : st.heap.Ns b m) : (hidT st.heap H).Ns b m := by
  obtain ⟨o, es, ep, e, d, r⟩ := x
  exact ⟨o, es, ep, G.base hscr h e (fun us k z => by rw [d] at z; cases z) (fun z => by rw [d] at z; cases z), d, r⟩
theorem Grd.kbase (G : Grd K mg mb cs st) (h : H0Ok P w K cs st a ns H) : K.In (hidT st.heap H) := fun b o e => by
  refine hidT_get (G.kin b o e) ?_
  cases q : H b with
  | none => rfl
  | some u =>
    have tracked : H b ≠ none := by rw [q]; exact fun z => by cases z
    rcases h.only b tracked with z | z
    · rw [z] at e tracked
      rw [h.own tracked] at e
      cases e
    · obtain ⟨p, hp, rfl⟩ := List.mem_map.mp z
      rw [G.tabK p hp] at e
      cases e
theorem Grd.tabB (G : Grd K mg mb cs st) (hscr : st.heap.get? a = some { cls := .type "list", data := .seq vs.toArray }) (h : H0Ok P w K cs st a ns H) {p : Addr × Addr} (hp : p ∈ cs) : LamX.TabB (hidT st.heap H) mg p.1 p.2 := by
  have isE := G.tabE p hp
  refine ⟨?_, ?_, ?_⟩
  · obtain ⟨o, us, file, tf, flags, tg, inF, text, tt, e1, r1, r2, r3, rest⟩ := G.codes p hp
    refine ⟨o, us, file, tf, flags, tg, inF, text, tt, G.base hscr h e1 (fun xs k z => by rw [r2] at z; cases z) (fun z => ?_), r1, r2, r3, rest⟩
    rw [r2] at z
    cases z
    simp at r3
  · obtain ⟨bm, ob, b1, b2, b3, b4, b5, b6⟩ := G.bMain
    refine ⟨bm, ob, b1, b2, fun z => ?_, fun z => ?_, G.base hscr h b3 (fun xs k z => by rw [b6] at z; cases z) (fun z => by rw [b6] at z; cases z), b4, b5, b6⟩
    · obtain ⟨o, es, ep, e, hd, _⟩ := G.glob
      rw [z, e] at b3
      cases b3
      rw [hd] at b6
      cases b6
    · rw [z, isE] at b3
      cases b3
      cases b6
  · intro z
    obtain ⟨o, es, ep, e, hd, _⟩ := G.glob
    rw [z, isE] at e
    cases e
    cases hd
abbrev EndR (st : Shared) : Result → Shared → Prop := fun r s' => r = .ok (.ret (.bool true)) ∧ OldK st.heap s'.heap ∧ s'.os = st.os ∧ AllBare s'.gens
theorem Grd.go (G : Grd K mg mb cs st) (hscr : st.heap.get? a = some { cls := .type "list", data := .seq vs.toArray }) (h : H0Ok P w K cs st a ns H)
    (core : ∀ base : Heap, K.In base → base.Ns mainGlobals mg → (∀ p ∈ cs, LamX.TabB base mg p.1 p.2) → Env0 P w K mg base callerA [] st H → codeAny (model P w) callerA (.call (.ref fa) ⟨[.ref a], []⟩) (CR (L2.CX P w) [] P w H st (fun v _ => v = .bl true) fun _ _ _ => False) st) :
    codeAny (model P w) callerA (.call (.ref fa) ⟨[.ref a], []⟩) (EndR st) st := by
  have modB : L2.Mod K mg (hidT st.heap H) := ⟨G.kbase h, G.nsB hscr h G.glob, ⟨mb, G.nsB hscr h G.bns, G.boots⟩, by
    obtain ⟨mc, h1, h2⟩ := G.lim
    exact ⟨mc, G.nsB hscr h h1, h2⟩⟩
  have env : Env0 P w K mg (hidT st.heap H) callerA [] st H := ⟨rfl, modB, fun b o e => of_hidT e, Nat.le_of_eq (hidT_size _ _), trivial, fun b hb => (by cases hb), h.ok, .of_eq G.noGen⟩
  refine codeAny_mono (core _ (G.kbase h) (G.nsB hscr h G.glob) (fun p hp => G.tabB hscr h hp) env) fun r s' got => ?_
  cases r with
  | error ev =>
    obtain ⟨_, _, _, _, _, _, _, _, _, _, _, _, z⟩ := got
    exact z.elim
  | ok fl =>
    cases fl with
    | next => exact False.elim got
    | brk => exact False.elim got
    | cont => exact False.elim got
    | ret u =>
      obtain ⟨v, H', os, bare, un, ok', rv, isT⟩ := got
      have isT : v = .bl true := isT
      subst isT
      have eu : u = Value.bool true := rv
      subst eu
      have stays : ∀ {b : Addr} {o : Obj}, b ∉ tabsOf cs → st.heap.get? b = some o → s'.heap.get? b = some o := fun {b o} nb e => by
        cases q : H b with
        | none => exact un.keep b o e q (fun z => by cases z) (fun z => by cases z)
        | some x =>
          rcases h.shape b with z | z | ⟨ob, xs, z⟩
          · rw [q] at z
            cases z
          · exact absurd z nb
          · obtain ⟨before, _⟩ := h.ok b _ z
            obtain ⟨behind, _⟩ := ok' b _ (un.frzs b ob _ z)
            rw [e] at before
            cases before
            exact behind
      have table : ∀ {b : Addr}, b ∈ tabsOf cs → ∃ more : Array Value, s'.heap.get? b = some { cls := .none, data := .fields more } := fun {b} hb => by
        obtain ⟨p, hp, rfl⟩ := List.mem_map.mp hb
        obtain ⟨more, z⟩ := un.tbls p.2 #[] (h.tb p hp)
        exact ⟨_, ok' p.2 _ z⟩
      refine ⟨rfl, ⟨fun b o e => ?_, fun b o e => ?_⟩, os, bare⟩
      · by_cases hb : b ∈ tabsOf cs
        · obtain ⟨more, hm⟩ := table hb
          obtain ⟨p, hp, rfl⟩ := List.mem_map.mp hb
          have e2 := G.tabE p hp
          rw [e2] at e
          cases e
          exact .inr (.inl ⟨((G.codes p hp).tab e2).isCodeTable, rfl, #[], more, rfl, by rw [Array.empty_append]; exact hm⟩)
        · exact .inl (stays hb e)
      · by_cases hb : b ∈ tabsOf cs
        · obtain ⟨more, hm⟩ := table hb
          exact ⟨_, hm⟩
        · exact ⟨o, stays hb e⟩
theorem own_end (G : Grd K mg mb cs st) (hscr : st.heap.get? a = some { cls := .type "list", data := .seq vs.toArray }) (are : IntsAre vs ns) (len : ns.length ≤ sizeLine)
    (core : ∀ (base : Heap) (H : Hp), K.In base → base.Ns mainGlobals mg → (∀ p ∈ cs, LamX.TabB base mg p.1 p.2) → Env0 P w K mg base callerA [] st H → (∀ p ∈ cs, H p.2 = some (.tbl #[])) → SqL K H a (ns.map V.int) → (∀ b C dx fs, H b ≠ some (.ins C dx fs)) →
      codeAny (model P w) callerA (.call (.ref fa) ⟨[.ref a], []⟩) (CR (L2.CX P w) [] P w H st (fun v _ => v = .bl true) fun _ _ _ => False) st) :
    codeAny (model P w) callerA (.call (.ref fa) ⟨[.ref a], []⟩) (EndR st) st := by
  have vals := vals_ints are
  have notTab : a ∉ tabsOf cs := fun z => by
    have e := G.at_tab z
    rw [hscr] at e
    have e2 : Data.seq vs.toArray _ = Data.fields #[] := congrArg Obj.data (Option.some.inj e)
    cases e2
  have fin : ∀ H : Hp, H0Ok P w K cs st a ns H → codeAny (model P w) callerA (.call (.ref fa) ⟨[.ref a], []⟩) (EndR st) st := fun H h => G.go hscr h fun base k1 k2 k3 k4 => core base H k1 k2 k3 k4 h.tb h.scr h.noI
  cases known : K.lookup a with
  | some o =>
    have e := G.kin a o known
    rw [hscr] at e
    cases e
    let H1 : Hp := fun b => if b ∈ tabsOf cs then some (.tbl #[]) else none
    have inT : ∀ {b}, b ∈ tabsOf cs → H1 b = some (.tbl #[]) := fun h => if_pos h
    have outT : ∀ {b}, b ∉ tabsOf cs → H1 b = none := fun h => if_neg h
    refine fin H1 ⟨fun p hp => inT (mem_tabs hp), fun b => ?_, .inr ⟨_, vs.toArray, _, known, rfl, rfl, rfl, by rw [List.size_toArray, are.length]; exact len, by simpa using vals⟩, fun b u z => ?_, fun b z => ?_, fun z => absurd (outT notTab) z⟩
    · by_cases hb : b ∈ tabsOf cs
      · exact .inr (.inl hb)
      · exact .inl (outT hb)
    · by_cases hb : b ∈ tabsOf cs
      · rw [inT hb] at z
        cases z
        exact G.at_tab hb
      · rw [outT hb] at z
        cases z
    · by_cases hb : b ∈ tabsOf cs
      · exact .inr hb
      · exact absurd (outT hb) z
  | none =>
    let H1 : Hp := fun b => if b = a then some (.frz { cls := .type "list", data := .seq vs.toArray } (.lst (ns.map V.int))) else if b ∈ tabsOf cs then some (.tbl #[]) else none
    have atA : H1 a = some (.frz { cls := .type "list", data := .seq vs.toArray } (.lst (ns.map V.int))) := if_pos rfl
    have inT : ∀ {b}, b ∈ tabsOf cs → H1 b = some (.tbl #[]) := fun {b} h => (if_neg (fun z => notTab (by rw [← z]; exact h))).trans (if_pos h)
    have outT : ∀ {b}, b ≠ a → b ∉ tabsOf cs → H1 b = none := fun h1 h2 => (if_neg h1).trans (if_neg h2)
    refine fin H1 ⟨fun p hp => inT (mem_tabs hp), fun b => ?_, .inl (.inr ⟨_, atA⟩), fun b u z => ?_, fun b z => ?_, fun _ => known⟩
    · by_cases hb : b ∈ tabsOf cs
      · exact .inr (.inl hb)
      · by_cases ha : b = a
        · rw [ha]; exact .inr (.inr ⟨_, _, atA⟩)
        · exact .inl (outT ha hb)
    · by_cases ha : b = a
      · rw [ha, atA] at z
        cases z
        rw [ha]
        exact ⟨hscr, by rw [List.length_map]; exact len, vs, _, vals, hscr⟩
      · by_cases hb : b ∈ tabsOf cs
        · rw [inT hb] at z
          cases z
          exact G.at_tab hb
        · rw [outT ha hb] at z
          cases z
    · by_cases ha : b = a
      · exact .inl ha
      · by_cases hb : b ∈ tabsOf cs
        · exact .inr hb
        · exact absurd (outT ha hb) z
end
end DL

set_option Elab.async false
set_option linter.all false
set_option maxRecDepth 100000
set_option maxHeartbeats 2000000
namespace DL
open PySem PySem.Spec L2
/-! ### defs as values -/
section
variable {Γ : Ctx} {W : WX} {X : Cx} {e : Expr} {es : List Expr} {fs : SEnv → M (List D)} {pos p : Pos}
theorem pd_fnG {x : String} (hl : Γ.lam x = none) (hm : X.mg (Str.ofString x) = some (.ref (Γ.fnA x))) (hg : Gl X (Str.ofString x) := by rfl) (hd : (Str.ofString x == ("__debug__" : Str)) = false := by decide) : PE X (.Name (Str.ofString x) pos) (tD Γ W fun _ => pure (.fn x)) :=
  pd_fn hl (pe_glob (v := .ref (Γ.fnA x)) hg hm rfl hd)
/-- a def that may be held by a name: x, how many arguments, what it gives -/
structure Hld (P : Program) (w : World) (K : PySem.W.Frag) (mg : Str → Option Value) (base : Heap) (Γ : Ctx) (k : Nat) (x : String) (n : Nat) (F : List D → M D) : Prop where
  nl : Γ.lam x = none
  ex : ∃ (fd : FuncData) (ps : List Str), FnOk P w K mg base (L2.CX P w) k (Γ.fnA x) fd ps (spD Γ n F) ∧ PySem.W.keepIn K (.ref (Γ.fnA x)) = true ∧ L2.Binds K fd ps []
theorem Cal.hld {P : Program} {w : World} {K : PySem.W.Frag} {mg : Str → Option Value} {base : Heap} {k j n : Nat} {x : String} {F : List D → M D} (C : Cal P w K mg base Γ k (Str.ofString x) n F) (hl : Γ.lam x = none) (g : mg (Str.ofString x) = some (.ref (Γ.fnA x))) (hj : k ≤ j := by decide) : Hld P w K mg base Γ j x n F := by
  obtain ⟨f, fd, ps, ok, gx, kp, b⟩ := C.ex
  rw [g] at gx
  have e : Γ.fnA x = f := by injection (Option.some.inj gx)
  subst e
  exact ⟨hl, fd, ps, ok.mono hj, kp, b⟩
abbrev FTab := List (String × Nat × (List D → M D))
def dHeld (i : Nat) (tb : FTab) (fs : SEnv → M (List D)) : SEnv → M D := fun δ => match δ[i]? with
  | some (.dat (.fn x)) => (match tb.lookup x with
    | some q => dFn q.1 q.2 fs δ
    | none => M.stuck)
  | _ => M.stuck
theorem pd_held {k i : Nat} {x : Str} {tb : FTab} {E : XK} (T : ∀ (y : String) (q : Nat × (List D → M D)), tb.lookup y = some q → Hld X.prog X.w X.K X.mg X.base Γ k y q.1 q.2) (hr : Room k X.A) (tk : Takes X (WD E)) (hN : X.N[i]? = some x) (hv : Vis X.env.scope x) (ha : PA X (e :: es) (tL Γ (WD E) fs))
    (hdb : (x == ("__debug__" : Str)) = false := by decide) (hcd : (x == ("__classdict__" : Str)) = false := by decide) (he : starEach (e :: es) X.env = (false, eval e X.env) :: starEach es X.env := by rfl) (hpl : (backTo pos (starEach es X.env)).any (·.1) = false := by rfl) :
    PE X (.Call (.Name x p) (e :: es) [] pos) (tD Γ (WD E) (dHeld i tb fs)) := by
  refine ⟨fun pins s σ H Q I h => ?_⟩
  obtain ⟨H0, A, B, P, R, δ, S, h⟩ := h
  cases e1 : δ[i]? with
  | none => unfold dHeld at h; rw [e1] at h; exact h.elim
  | some sd =>
  cases sd with
  | none => unfold dHeld at h; rw [e1] at h; exact h.elim
  | ot _ => unfold dHeld at h; rw [e1] at h; exact h.elim
  | dat d =>
  cases d with
  | fn y =>
    cases eq : tb.lookup y with
    | none => unfold dHeld at h; rw [e1] at h; simp only [eq] at h; exact h.elim
    | some q =>
      have h : (dFn q.1 q.2 fs δ R).run (KK Γ B A P (Rep Γ) R H Q) (KE Γ (WD E) B A P σ R H) := by
        have e2 : dHeld i tb fs δ = dFn q.1 q.2 fs δ := by
          unfold dHeld
          rw [e1]
          simp only [eq]
        rw [← e2]
        exact h
      obtain ⟨v, g1, r1⟩ := S.slots.get e1
      rw [Rep] at r1
      unfold FnR at r1
      rw [(T y q eq).nl] at r1
      simp only at r1
      subst r1
      obtain ⟨fd, ps, ok, kp, b⟩ := (T y q eq).ex
      have hx : Passes (L2.CX X.prog X.w) X E := fun pins σ H s e s' I c => passAt tk σ pins H s e s' I c
      refine (pe_callL (i := i) (dvs := []) (E := E) ok hr hN hv kp b .nil hx ha hdb hcd he hpl).run pins s σ H Q I ⟨g1, ?_⟩
      have z := fn_imp (W := WD E) (n := q.1) (F := q.2) (fs := fs) ⟨H0, A, B, P, R, δ, S, h⟩
      have e0 : (fun (vs : List V) (H1 : Hp) => spD Γ q.1 q.2 (vs ++ []) H1 Q E) = fun vs H1 => spD Γ q.1 q.2 vs H1 Q (WE (WD E) σ) := by
        funext vs H1
        rw [List.append_nil]
      show tL Γ (WD E) fs σ H (fun vs H1 => spD Γ q.1 q.2 (vs ++ []) H1 Q E)
      rw [e0]
      exact z
  | _ => unfold dHeld at h; rw [e1] at h; exact h.elim
/-! ### the body of a lambda -/
theorem takes_lam {A : Around} {outer : List Env} {s : Shared} {H : Hp} {E : XK} {scope : Scope} {f c' : Addr} : Takes (LamX.lamCx X A outer s H E scope f c') (WD E) := takes_of rfl rfl rfl rfl
theorem pd_ref {k : Nat} {st : Stmt} {ws : List (String × Str)} {fb : SEnv → M D} {cd tab : Addr} {params : Arguments} {body : Expr} {scope : Scope} {lpos : Pos} (FI : FnI X.K X.mg "_law_refused" st) (Sg : FnScope ["ask", "e"] ["ask"] (defScope st)) (va : Vis (defScope st) "ask")
    (hb : ∀ {g : Addr} {gd : FuncData}, FunD X.K "_law_refused" "_law_refused" (defArgs st) (defBody st) (defScope st) [] [] g gd → L2.Binds X.K gd ["ask"] [])
    (gives : ∀ g cdg, LamX.GivesTo X ["ask", "e"] "_law_refused" (defScope st) g cdg (defBody st) "ask" (lamN X) (TTref X.K (ws.map fun p => (Γ.cls p.1, p.2))))
    (hex : ∀ c, (ws.lookup c).isSome = true → ∀ p ∈ ws, PySem.W.exmOne X.K (.ref (Γ.cls c)) (.ref (Γ.cls p.1)) = some (decide (c = p.1)))
    (TB : LamX.TabB X.base X.mg cd tab) (hcd : X.env.code = .ref cd) (hin : (tab, lamN X) ∈ Γ.tabs) (honly : ∀ p ∈ Γ.tabs, p.1 = tab → p.2 = lamN X) (hr : Room (k + 2) X.A) (L : LamX.LamS X.env.scope scope)
    (hbody : ∀ (A : Around) (outer : List Env) (s : Shared) (H : Hp) (E : XK) (f c' : Addr), Room k (A.deeper (LamX.lamEnv X scope s.heap.objs.size f c')) → PE (LamX.lamCx X A outer s H E scope f c') body (tD Γ (WD E) fb))
    (hdef : defaultsOf params X.env = ([], []) := by rfl) (hbind : ∀ (q : Str) (cl : List (Str × Addr)) (pm cv ctv : Value), bindArgs (PySem.W.kla_fn "<lambda>" q params body scope cl pm cv ctv) ⟨[], []⟩ = pure [] := by intros; rfl) (hg : Gl X "_law_refused" := by rfl) :
    PE X (.Call (.Name "_law_refused" p) [.Lambda params body scope lpos] [] pos) (tD Γ W (dRef ws fb)) := by
  obtain ⟨g, gd, FD, gx⟩ := FI.ex
  exact (pe_lamD hg gx FD Sg (hb FD) rfl va (gives g) TB hcd hin honly hr L hdef hbind hbody).imp fun _ _ _ h => ref_imp hex h
end
/-! ### the law: row = [script, 0, 313, 0], then the rest -/
def startLaw (N : List Str) (i : Nat) (q : Addr) : SEnv := (List.replicate N.length SD.none).set i (.dat (.row q))
theorem slots_none {Γ : Ctx} {Hh H : Hp} : ∀ {σ : L2.St} {n : Nat}, σ.length = n → SlotsR Γ Hh H σ (List.replicate n SD.none) []
  | [], _, h => by subst h; exact .nil
  | x :: σ, _, h => by subst h; exact .none (slots_none rfl)
theorem WebsOk.none {Γ : Ctx} {H : Hp} (h : ∀ b C dx fs, H b ≠ some (.ins C dx fs)) : WebsOk Γ H := ⟨fun a dx n t q e => (h _ _ _ _ e).elim, fun a a' dx dx' n n' t t' q e => (h _ _ _ _ e).elim⟩
theorem ds_law {X : Cx} {Γ : Ctx} {N : List Str} {i : Nat} {rest : List Stmt} {sem : SM} {k1 k2 k3 : Nat} {p0 p1 p2 p3 p4 p5 p6 : Pos} (hN : X.N.Nodup) (eN : X.N = N) (h0 : X.N[0]? = some ("script" : Str)) (hi : X.N[i]? = some ("row" : Str)) (v0 : Vis X.env.scope "script") (hx : Loc X.env.scope "row")
    (hf : X.fn "row" = true ∨ X.env.scope.names.lookup ("row" : Str) = some .local) (hr : PSs X rest (tS Γ (fun _ _ _ _ => False) sem)) (hs : swapsWith (.List [.Name "script" p1, .Constant (.int 0) k1 p2, .Constant (.int 313) k2 p3, .Constant (.int 0) k3 p4] p5) (some (.Name "row" p0)) p6.line X.env = pure false := by rfl)
    (e1 : starEach [.Name "script" p1, .Constant (.int 0) k1 p2, .Constant (.int 313) k2 p3, .Constant (.int 0) k3 p4] X.env = (false, eval (.Name "script" p1) X.env) :: starEach [.Constant (.int 0) k1 p2, .Constant (.int 313) k2 p3, .Constant (.int 0) k3 p4] X.env := by rfl)
    (e2 : starEach [.Constant (.int 0) k1 p2, .Constant (.int 313) k2 p3, .Constant (.int 0) k3 p4] X.env = (false, eval (.Constant (.int 0) k1 p2) X.env) :: starEach [.Constant (.int 313) k2 p3, .Constant (.int 0) k3 p4] X.env := by rfl)
    (e3 : starEach [.Constant (.int 313) k2 p3, .Constant (.int 0) k3 p4] X.env = (false, eval (.Constant (.int 313) k2 p3) X.env) :: starEach [.Constant (.int 0) k3 p4] X.env := by rfl) (e4 : starEach [.Constant (.int 0) k3 p4] X.env = (false, eval (.Constant (.int 0) k3 p4) X.env) :: starEach [] X.env := by rfl)
    {vs : List V} {H : Hp} (hvs : vs = [.ref Γ.scr]) (htab : LamX.Tabs Γ.tabs H) (hown : Γ.own = []) (hni : ∀ b C dx fs, H b ≠ some (.ins C dx fs)) (hscr : SqL Γ.K H Γ.scr (Γ.cells.map V.int)) (ok : ∀ q, ∃ R', sem (startLaw N i q) (some ⟨q, 0, 313, 0⟩) = .rt (.bl true) R') :
    ∃ t, PSs X (.Assign [.Name "row" p0] (.List [.Name "script" p1, .Constant (.int 0) k1 p2, .Constant (.int 313) k2 p3, .Constant (.int 0) k3 p4] p5) p6 :: rest) t ∧ t { nx := fun _ H' => V.non = .bl true, rt := fun v _ => v = .bl true } (L2.start N vs) H := by
  refine ⟨_, pss_cons (ps_set hN hi hx (pe_lst (pa_cons (pe_var h0 v0) (pa_cons pe_int (pa_cons pe_int (pa_cons pe_int pa_nil e4) e3) e2) e1)) hs hf) hr, ?_⟩
  subst hvs eN
  have lenN : 0 < X.N.length := by
    rw [List.getElem?_eq_some_iff] at h0
    obtain ⟨h, _⟩ := h0
    exact h
  have st0 : (L2.start X.N [V.ref Γ.scr])[0]? = some (some (.ref Γ.scr)) := rfl
  refine ⟨.ref Γ.scr, st0, by show 4 ≤ sizeLine; decide, fun q hq => ?_⟩
  obtain ⟨R', fin⟩ := ok q
  have gr : ∀ b o, H b = some o → upd H q (.lst [.ref Γ.scr, .int 0, .int 313, .int 0]) b = some o := fun b o e => by rw [upd_ne (ne_of_none e hq)]; exact e
  have sl : (L2.start X.N [V.ref Γ.scr]).length = X.N.length := by
    unfold L2.start
    simp
    omega
  have nsq : Γ.scr ≠ q ∨ Γ.scr = q := by by_cases z : Γ.scr = q <;> simp [z]
  have hsc2 : SqL Γ.K (upd H q (.lst [.ref Γ.scr, .int 0, .int 313, .int 0])) Γ.scr (Γ.cells.map V.int) := SqL.grow gr hscr
  have nscr : Γ.scr ∈ [q] → ScrK Γ := fun z => by
    have e : Γ.scr = q := by simpa using z
    rcases hscr with (h | ⟨o, h⟩) | h
    · rw [e, hq] at h; cases h
    · rw [e, hq] at h; cases h
    · exact .inr h
  have S : RepS Γ (upd H q (.lst [.ref Γ.scr, .int 0, .int 313, .int 0])) [q] [q] [] (some ⟨q, 0, 313, 0⟩) (upd H q (.lst [.ref Γ.scr, .int 0, .int 313, .int 0])) ((L2.start X.N [V.ref Γ.scr]).set i (some (.ref q))) (startLaw X.N i q) := {
    row := ⟨⟨htab.ext gr, (fun p hp => by rw [hown] at hp; cases hp), (WebsOk.none hni).grow (grow_new hq)⟩, upd_same⟩
    ra := fun a ha => ha
    ba := fun a ha => ha
    rb := fun a ha => ha
    al := fun a ha => by
      have e : a = q := by simpa using ha
      subst e
      exact ⟨_, upd_same, nx_lst⟩
    sc := hsc2
    sb := nscr
    ext := .refl
    own := fun p hp => by cases hp
    nd := .nil
    slots := by
      obtain ⟨P', h1, h2⟩ := (slots_none (Γ := Γ) (Hh := hide ([q] ++ []) (upd H q (.lst [.ref Γ.scr, .int 0, .int 313, .int 0]))) (H := upd H q (.lst [.ref Γ.scr, .int 0, .int 313, .int 0])) sl).set (v := .ref q) (d := .row q) (by rw [Rep]) i
      have : P' = [] := List.sublist_nil.mp h2
      subst this
      exact h1 }
  refine ⟨_, [q], [q], [], some ⟨q, 0, 313, 0⟩, startLaw X.N i q, S, ?_⟩
  show AllK Γ _ _ _ _ _ _ _ _ (sem (startLaw X.N i q) (some ⟨q, 0, 313, 0⟩))
  rw [fin]
  intro v H' m r
  exact r.bl_eq
end DL

set_option Elab.async false
set_option linter.all false
set_option maxRecDepth 100000
set_option maxHeartbeats 2000000
namespace DL
open PySem PySem.Spec L2
/-! ### what is asked of the written part beyond the plain facts -/
def oexB (K : PySem.W.Frag) (C : Addr) : Bool := match K.lookup C with
  | some ⟨.type t, _, .cls cd, sl⟩ => t == "type" && (match cd.mro, sl.toList with
    | .ref C' :: bm, [_, _, _, _, some (.builtin n), _] => C' == C && (n == "ValueError.__new__" && (cd.hasDict && (!cd.hasDel && PySem.HandSPX.refsVE bm)))
    | _, _ => false)
  | _ => false
theorem oexB_ok {K : PySem.W.Frag} {C : Addr} (h : oexB K C = true) : ∃ nm q N bs bm sn sub ab col dd k0 k1 k2 k3 k5, K.lookup C = some (excClassObj nm q C N bs bm true sn sub ab col dd k0 k1 k2 k3 k5 "ValueError.__new__") ∧ PySem.HandSPX.refsVE bm = true := by
  unfold oexB at h
  split at h
  · rename_i t dd cd sl ho
    obtain ⟨h0, h⟩ := Bool.and_eq_true_iff.mp h
    split at h
    · rename_i C' bm k0 k1 k2 k3 n k5 hm hs
      simp only [Bool.and_eq_true, beq_iff_eq, Bool.not_eq_true'] at h h0
      obtain ⟨rfl, rfl, hd, hdel, hr⟩ := h
      subst h0
      obtain ⟨nm, bs, mro, ns, qn, hdct, sn, sub, ab, col, del⟩ := cd
      dsimp only at hm hdel hd
      subst hm hdel hd
      obtain ⟨l⟩ := sl
      simp only at hs
      subst hs
      exact ⟨nm, qn, ns, bs, bm, sn, sub, ab, col, dd, k0, k1, k2, k3, k5, ho, hr⟩
    · cases h
  · cases h
def errB (K : PySem.W.Frag) (c : Str) : Bool :=
  oexB K (He.ga K c) && (decide (PySem.W.findIn K (.ref (He.ga K c)) "__setattr__" = some (some (.builtin "object.__setattr__"))) && (decide (PySem.W.subIn K (.ref (He.ga K c)) (.type "BaseException") = some true) && (decide (PySem.W.typeIn K (.ref (He.ga K c)) = some (.type "type")) &&
    (PySem.W.keepIn K (.ref (He.ga K c)) && (decide (PySem.W.findIn K (.ref (He.ga K c)) "__init__" = some (some (.ref (He.fAd K ("BoxError", some "__init__"))))) && (decide (PySem.W.findIn K (.ref (He.ga K c)) "value" = some none) && xfB K (He.ga K c)))))))
theorem errB_ok {K : PySem.W.Frag} {mg : Str → Option Value} {Γ : Ctx} {c : String} (e : Γ.cls c = He.ga K (Str.ofString c)) (g : mg (Str.ofString c) = some (.ref (He.ga K (Str.ofString c)))) (h : errB K (Str.ofString c) = true) : ExcF K mg Γ (He.fAd K ("BoxError", some "__init__")) c := by
  unfold errB at h
  simp only [Bool.and_eq_true, decide_eq_true_eq] at h
  obtain ⟨h1, h2, h3, h4, h5, h6, h7, h8⟩ := h
  have x := xfB_ok h8
  refine ⟨?_, by rw [e]; exact h6, by rw [e]; exact g, by rw [e]; exact h7, by rw [e]; exact x⟩
  rw [e]
  exact ⟨oexB_ok h1, h2, h3, h4, h5⟩
def webB (K : PySem.W.Frag) (C : Addr) : Bool :=
  decide (PySem.W.findIn K (.ref C) "__class__" = some (some (.builtin "object.__class__"))) && (decide (PySem.W.specialIn K (.builtin "object.__class__") "__get__" = some (some (.builtin "getset_descriptor.__get__"))) && (decide (PySem.W.takesIn K (.builtin "object.__class__") = some true) &&
    (decide (PySem.W.mroIn K C (.type "object") = some true) && (["NoneType", "bool", "int", "str", "list", "tuple", "dict"].all fun T => decide (PySem.W.kitOne K (.type T) (.ref C) = some false)))))
theorem webF_of {K : PySem.W.Frag} {mg : Str → Option Value} {Γ : Ctx} (e : Γ.web = He.ga K "Web") (g : mg "Web" = some (.ref (He.ga K "Web"))) (c : Cls K (He.ga K "Web")) (n1 : NoAttr K (He.ga K "Web") "coins") (n2 : NoAttr K (He.ga K "Web") "strings") (n3 : NoAttr K (He.ga K "Web") "worths") (h : webB K (He.ga K "Web") = true) : WebF K mg Γ := by
  unfold webB at h
  simp only [Bool.and_eq_true, decide_eq_true_eq, List.all_eq_true] at h
  obtain ⟨h1, h2, h3, h4, h5⟩ := h
  exact ⟨by rw [e]; exact c, by rw [e]; exact h1, h2, h3, by rw [e]; exact h4, by rw [e]; exact h5, by rw [e]; exact n1, by rw [e]; exact n2, by rw [e]; exact n3, by rw [e]; exact g⟩
/-- what is fixed, by the written part -/
def mkΓ (K : PySem.W.Frag) (w : World) (val : Int → List (Int × Int) → List Int → Int) (own : List (Addr × Memo)) (a : Addr) (cells : List Int) (lam : String → Option LamF := fun _ => none) (mem : String → D → Memo := fun _ _ => Memo.no) (fz : Bool := false) : Ctx where
  K := K
  wd := w
  web := He.ga K "Web"
  cls := fun c => He.ga K (Str.ofString c)
  fnA := fun c => He.ga K (Str.ofString c)
  val := val
  mem := mem
  fz := fz
  own := own
  lam := lam
  tabs := [((He.cT K ("law", none)).2, (("law" : Str) ++ ".<locals>.") ++ ("<lambda>" : Str))]
  scr := a
  cells := cells
open PySem.W PyProof.Rows in
/-- the law called: what its body needs, given at its own frame -/
theorem walk_own {l : OpenLaw} {q : Program} {loose : List Str} {XP : (Str → Option Value) → Heap → Prop} {d : DefRec} {fa : List He.Fa} {fn : List He.DefD} {ex : Frag → Bool} {lawI : Nat} {N : List Str} {k : Nat} {lawD : He.DefD} (hl : l.most = some 63) (hdf : d.params.defaults = []) (hname : d.name = ("law" : Str)) (hroom : Room (k + 1) callerA)
    (hD : fn[lawI]? = some lawD) (dn : lawD.name = ("law" : Str)) (dq : lawD.qual = ("law" : Str)) (da : lawD.at_ = (("law" : Str), (none : Option Str))) (dd : lawD.dfl = []) (dk : lawD.kwd = []) (S : FnScope N ["script"] lawD.scope)
    (hglo : He.Fa.glo "law" ∈ fa) (hb : ∀ {K : Frag} {f : Addr} {fd : FuncData}, FunD K "law" "law" lawD.params lawD.body lawD.scope [] [] f fd → L2.Binds K fd ["script"] [])
    (body : ∀ (w : World) (K : Frag) (mg : Str → Option Value) (h base : Heap) (f a : Addr) (cells : List Int) (cdv : Value) (st : Shared) (H : Hp), K.In h → h.Ns mainGlobals mg → K.In base → base.Ns mainGlobals mg → He.SaysX fa fn [] [("law", none)] ex w h K → cells.length ≤ 63 → (∀ z ∈ cells, Builtin.Int.intBits z ≤ 1048576) →
      cdv = .ref (He.cT K ("law", none)).1 → LamX.TabB base mg (He.cT K ("law", none)).1 (He.cT K ("law", none)).2 → H (He.cT K ("law", none)).2 = some (.tbl #[]) → SqL K H a (cells.map V.int) → (∀ b C dx fs, H b ≠ some (.ins C dx fs)) → Room k (callerA.deeper (envOfC "law" lawD.scope st.heap.objs.size f cdv)) →
      ∃ t, PSs (cxOf (L2.CX l.prog w) l.prog w K mg base N "law" lawD.scope f cdv callerA [] st H fun _ _ _ => False) lawD.body t ∧ t { nx := fun _ H' => V.non = .bl true, rt := fun v _ => v = .bl true } (L2.start N [.ref a]) H) :
    WalkO q loose XP (fun w h => ∃ K : Frag, K.In h ∧ He.SaysX fa fn [] [("law", none)] ex w h K) l.row.toRowW d [] (fun f vs => PySem.call f vs) := by
  refine Att.attach_callB hl hdf fun w s₀ st mg mb f o pm cd doc a vs ns G Y ho hd hcd hmg hobj hints hlen hbits hg => ?_
  obtain ⟨K, KX, c⟩ := Y
  rw [hname] at hmg
  have says := He.SaysT.d c.t
  obtain ⟨fd, FD⟩ := He.SaysD.def_ says lawI hD
  have gl := He.glo_ok KX G.T.g (He.SaysD.facts says hglo)
  rw [gl] at hmg
  have ef : He.ga K "law" = f := by injection (Option.some.inj hmg)
  have e1 : lawD.dvs K = [] := by unfold He.DefD.dvs; rw [dd]; rfl
  have e2 : lawD.kws K = [] := by unfold He.DefD.kws; rw [dk]; rfl
  rw [dn, dq, da, e1, e2] at FD
  have ef2 : He.fAd K (("law" : Str), (none : Option Str)) = f := ef
  rw [ef2] at FD
  have mem1 : (("law" : Str), (none : Option Str)) ∈ [(("law" : Str), (none : Option Str))] := List.mem_cons_self
  have all1 : ∀ p ∈ [He.cT K ("law", none)], p = He.cT K ("law", none) := fun p hp => by simpa using hp
  refine own_end (cs := [He.cT K ("law", none)]) (ns := ns) ⟨KX, G.T.g, G.T.b, G.T.builtins, G.T.nolimit, hg, fun p hp => ?_, fun p hp => ?_, fun p hp => ?_, G.T.bmain⟩ hobj hints (Nat.le_trans hlen (by decide)) fun base H k1 k2 TB env htb hscr hni => ?_
  · rw [all1 p hp]; exact c.empty _ mem1
  · rw [all1 p hp]; exact c.out _ mem1
  · rw [all1 p hp]; exact PySem.W.codeHd_of_K KX (c.hd _ mem1)
  · have b := hb FD
    obtain ⟨oc, od, dV, kV, doc2, pm2, an, cdv, ct, osl, rfl, lk, hcdv, _, _⟩ := FD.ex
    obtain ⟨cc, ec⟩ := He.codeIn_ref hcdv
    have e3 : He.codeOf K ("law", none) = cc := He.codeOf_eq (p := ("law", none)) (by rw [ef2]; exact lk) ec
    have inS : K.In st.heap := KX
    refine LamX.run_ofS (N := N) (ps := ["script"]) (us := [.ref a]) (vs := [.ref a]) lk hcdv S hroom env (b st [.ref a] inS rfl) (.cons rfl .nil) rfl fun hr => ?_
    exact body w K mg st.heap base f a ns cdv st H KX G.T.g k1 k2 c hlen hbits (by rw [ec, ← e3]; rfl) (TB _ List.mem_cons_self) (htb _ List.mem_cons_self) hscr hni hr
end DL

set_option Elab.async false
set_option linter.all false
set_option maxRecDepth 100000
set_option maxHeartbeats 2000000
namespace DL
open PySem PySem.Spec L2
/-! ### several values at once, some of them new lists -/
theorem keepsT {Γ : Ctx} {A B T : List Addr} {H H' : Hp} (e : Ext Γ B H H') (hb : ∀ a ∈ B, a ∈ A) (hT : ∀ t ∈ T, H t = none) : Keeps Γ (hide A H) (hide (T ++ A) H') := by
  have k1 := e.keeps (A := T ++ A) (fun a ha => List.mem_append_right _ (hb a ha))
  have e1 : hide (T ++ A) H = hide A H := by
    funext b
    by_cases z : b ∈ A
    · rw [hide_in z, hide_in (List.mem_append_right _ z)]
    · rw [hide_out z]
      by_cases z2 : b ∈ T
      · rw [hide_in (List.mem_append_left _ z2), hT b z2]
      · rw [hide_out (fun y => by
          rcases List.mem_append.mp y with y | y
          · exact z2 y
          · exact z y)]
  rw [e1] at k1
  exact k1
theorem Keeps.trans {Γ : Ctx} {H H1 H2 : Hp} (a : Keeps Γ H H1) (b : Keeps Γ H1 H2) : Keeps Γ H H2 :=
  ⟨fun _ _ h => b.lst _ _ (a.lst _ _ h), fun _ _ h => b.tupp _ _ (a.tupp _ _ h), fun _ _ _ h => b.frz _ _ _ (a.frz _ _ _ h), fun _ _ h => b.dic _ _ (a.dic _ _ h), fun _ _ _ h => b.rng _ _ _ (a.rng _ _ _ h), fun _ _ _ _ h => b.ins _ _ _ _ (a.ins _ _ _ _ h), fun c k h => by
    obtain ⟨k1, e1⟩ := a.ca c k h
    exact b.ca c k1 e1, fun c φ n h => b.ext c φ n (a.ext c φ n h)⟩
theorem SlotsR.tracked {Γ : Ctx} {Hh H : Hp} {σ : L2.St} {δ : SEnv} {P : List Addr} (h : SlotsR Γ Hh H σ δ P) : ∀ a ∈ P, ∃ o, H a = some o ∧ nx o := fun a ha => by
  obtain ⟨o, e, n⟩ := h.objs a ha
  exact ⟨o, e, n.nx⟩
def tM (Γ : Ctx) (W : WX) (f : SEnv → M (List SD)) : TA := fun σ H K => ∃ H0 A B P R δ, RepS Γ H0 A B P R H σ δ ∧
  (f δ R).run (fun sds R' => ∀ vs H' T, Mv Γ B R R' H H' → T.Nodup → (∀ t ∈ T, H t = none) → SlotsR Γ (hide (T ++ (A ++ P)) H') H' (vs.map some) sds T → K vs H') (KE Γ W B A P σ R H)
def mNil : SEnv → M (List SD) := fun _ => pure []
def mDat (f : SEnv → M D) (g : SEnv → M (List SD)) : SEnv → M (List SD) := fun δ => f δ >>= fun d => g δ >>= fun r => pure (.dat d :: r)
def mOt (f : SEnv → M OT) (g : SEnv → M (List SD)) : SEnv → M (List SD) := fun δ => f δ >>= fun t => g δ >>= fun r => pure (.ot t :: r)
def mOwn (f : SEnv → M (List D)) (g : SEnv → M (List SD)) : SEnv → M (List SD) := fun δ => f δ >>= fun d => g δ >>= fun r => pure (.own d :: r)
section
variable {Γ : Ctx} {W : WX} {X : Cx} {e : Expr} {es : List Expr} {fe : SEnv → M D} {ff : SEnv → M (List D)} {fr : SEnv → M (List SD)} {pos : Pos}
theorem pm_nil : PA X [] (tM Γ W mNil) := pa_nil.imp fun σ H Q h => by
  obtain ⟨H0, A, B, P, R, δ, S, h⟩ := h
  exact h [] H [] (.refl S.row) .nil (fun t ht => by cases ht) .nil
theorem pm_dat (he : PE X e (tD Γ W fe)) (hr : PA X es (tM Γ W fr)) (hs : starEach (e :: es) X.env = (false, eval e X.env) :: starEach es X.env := by rfl) : PA X (e :: es) (tM Γ W (mDat fe fr)) := (pa_cons he hr hs).imp fun σ H Q h => by
  obtain ⟨H0, A, B, P, R, δ, S, h⟩ := h
  refine ⟨H0, A, B, P, R, δ, S, Out.run_mono (run_bind.mp h) (fun d R1 _ q v H1 m1 r1 => ?_) fun c d R1 _ q => q⟩
  have S1 := S.move m1
  refine ⟨H0, A, B, P, R1, δ, S1, Out.run_mono (run_bind.mp q) (fun sds R2 _ q2 vs H2 T m2 nd hT sl => ?_) fun c d R2 _ q2 v2 dx H2 m2 => q2 v2 dx H2 (m1.trans m2)⟩
  exact q2 (v :: vs) H2 T (m1.trans m2) nd (fun t ht => m1.ext.free (hT t ht)) (.dat (Rep.keep (keepsT m2.ext S1.bap hT) _ r1) sl)
theorem pm_ot {fo : SEnv → M OT} (he : PE X e (tOT Γ W fo)) (hr : PA X es (tM Γ W fr)) (hs : starEach (e :: es) X.env = (false, eval e X.env) :: starEach es X.env := by rfl) : PA X (e :: es) (tM Γ W (mOt fo fr)) := (pa_cons he hr hs).imp fun σ H Q h => by
  obtain ⟨H0, A, B, P, R, δ, S, h⟩ := h
  refine ⟨H0, A, B, P, R, δ, S, Out.run_mono (run_bind.mp h) (fun t R1 _ q p Ps H1 m1 hp ndP ow => ?_) fun c d R1 _ q => q⟩
  have nA : ∀ q ∈ Ps, q ∉ A ++ P := fun q hq => all_out S.all (hp q hq)
  have kp : Keeps Γ (hide (A ++ P) H) (hide ((Ps ++ A) ++ P) H1) := by
    rw [List.append_assoc]
    exact keepsT m1.ext S.bap hp
  have S0 := S.move m1
  have S1 : RepS Γ H0 (Ps ++ A) B P R1 H1 σ δ := ⟨S0.row, fun a ha => List.mem_append_right _ (S0.ra a ha), fun a ha => List.mem_append_right _ (S0.ba a ha), S0.rb, fun a ha => by
    rcases List.mem_append.mp ha with z | z
    · obtain ⟨o, e, n⟩ := ow.objs a z
      exact ⟨o, e, n.nx⟩
    · exact S0.al a z, S0.sc, S0.sb, S0.ext, fun q hq => by
    obtain ⟨a1, a2, a3⟩ := S0.own q hq
    exact ⟨a1, fun z => by
      rcases List.mem_append.mp z with z | z
      · exact nA q z (List.mem_append_right _ hq)
      · exact a2 z, a3⟩, S0.nd, S.slots.keep kp (S.stand m1)⟩
  refine ⟨H0, Ps ++ A, B, P, R1, δ, S1, Out.run_mono (run_bind.mp q) (fun sds R2 _ q2 vs H2 T m2 nd hT sl => ?_) fun c d R2 _ q2 v2 dx H2 m2 hx r2 => q2 v2 dx H2 (m1.trans m2) hx (Rep.keep (hide_keeps fun a ha => by
    rcases List.mem_append.mp ha with z | z
    · exact List.mem_append_left _ (List.mem_append_right _ z)
    · exact List.mem_append_right _ z) _ r2)⟩
  have npT : ∀ q ∈ Ps, q ∉ T := fun q hq z => by
    obtain ⟨o, e, _⟩ := ow.objs q hq
    rw [hT q z] at e; cases e
  have sub : ∀ a, a ∈ (Ps ++ T) ++ (A ++ P) → a ∈ T ++ ((Ps ++ A) ++ P) := fun a ha => by
    simp only [List.mem_append] at ha ⊢
    rcases ha with (z | z) | (z | z)
    · exact .inr (.inl (.inl z))
    · exact .inl z
    · exact .inr (.inl (.inr z))
    · exact .inr (.inr z)
  refine q2 (.ref p :: vs) H2 (Ps ++ T) (m1.trans m2) (List.nodup_append.mpr ⟨ndP, nd, fun a ha b hb z => npT a ha (by rw [z]; exact hb)⟩) (fun t ht => ?_) (.ot (ow.keep ?_ fun q hq o eo => ?_) ?_)
  · rcases List.mem_append.mp ht with z | z
    · exact hp t z
    · exact m1.ext.free (hT t z)
  · have k := keepsT (T := T) (A := Ps ++ (A ++ P)) m2.ext (fun a ha => List.mem_append_right _ (S.bap a ha)) hT
    exact k.trans (hide_keeps fun a ha => by
      have := sub a ha
      rwa [List.append_assoc] at this)
  · obtain ⟨o', e', n'⟩ := ow.objs q hq
    rw [eo] at e'
    cases e'
    exact m2.ext.ownO n' (fun z => nA q hq (S.bap q z)) (own_free S.row (hp q hq)) eo
  · exact sl.keep (hide_keeps sub) fun _ _ _ _ z => z
theorem pm_own (he : PE X e (tF Γ W ff)) (hr : PA X es (tM Γ W fr)) (hs : starEach (e :: es) X.env = (false, eval e X.env) :: starEach es X.env := by rfl) : PA X (e :: es) (tM Γ W (mOwn ff fr)) := by
  have e1 : mOwn ff fr = mOt (oLst ff) fr := by
    funext δ
    show (ff δ >>= fun d => fr δ >>= fun r => pure (SD.ot (.lst d) :: r)) = ((ff δ >>= fun d => pure (OT.lst d)) >>= fun t => fr δ >>= fun r => pure (SD.ot t :: r))
    rw [M.assoc]
    rfl
  rw [e1]
  exact pm_ot (pf_ot he) hr hs
end
def setsV : L2.St → List Nat → List V → L2.St
  | σ, i :: is, v :: vs => setsV (σ.set i (some v)) is vs
  | σ, _, _ => σ
def setsD : SEnv → List Nat → List SD → SEnv
  | δ, i :: is, d :: ds => setsD (δ.set i d) is ds
  | δ, _, _ => δ
section
variable {Γ : Ctx} {H0 H : Hp} {A B P : List Addr} {R : Option Rw} {σ : L2.St} {δ : SEnv}
theorem RepS.adopt1 {p : Addr} {t : OT} {Ps : List Addr} (S : RepS Γ H0 (Ps ++ A) B P R H σ δ) (np : ∀ q ∈ Ps, q ∉ A) (ndP : Ps.Nodup) (h0 : ∀ q ∈ Ps, H0 q = none ∧ q ∉ Γ.ownA) (ba : ∀ a ∈ B, a ∈ A) (e : Own Γ (hide ((Ps ++ A) ++ P) H) H t p Ps) (i : Nat) :
    ∃ P', RepS Γ H0 A B P' R H (σ.set i (some (.ref p))) (δ.set i (.ot t)) ∧ ∀ q ∈ P', q ∈ Ps ∨ q ∈ P := by
  obtain ⟨P', P1, h1, h2, h3⟩ := S.slots.setOt e i
  have nP : ∀ q ∈ Ps, q ∉ P := fun q hq z => (S.own q z).2.1 (List.mem_append_left _ hq)
  have sub : ∀ q ∈ P', q ∈ Ps ∨ q ∈ P := fun q hq => by
    rcases h3 with h3 | h3
    · rw [h3] at hq; exact .inr (h2.subset hq)
    · rcases List.mem_append.mp (h3.mem_iff.mp hq) with z | z
      · exact .inl z
      · exact .inr (h2.subset z)
  have nd : P'.Nodup := by
    rcases h3 with h3 | h3
    · rw [h3]; exact S.nd.sublist h2
    · exact h3.nodup_iff.mpr (List.nodup_append.mpr ⟨ndP, S.nd.sublist h2, fun a ha b hb z => nP a ha (h2.subset (by rw [z]; exact hb))⟩)
  refine ⟨P', ⟨S.row, fun a ha => ba a (S.rb a ha), ba, S.rb, fun a ha => S.al a (List.mem_append_right _ ha), S.sc, S.sb, S.ext, fun q hq => ?_, nd, ?_⟩, sub⟩
  · rcases sub q hq with z | z
    · exact ⟨(h0 q z).1, np q z, (h0 q z).2⟩
    · obtain ⟨a1, a2, a3⟩ := S.own q z
      exact ⟨a1, fun y => a2 (List.mem_append_right _ y), a3⟩
  · refine h1.keep (hide_keeps fun a ha => ?_) fun _ _ _ _ z => z
    rcases List.mem_append.mp ha with z | z
    · exact List.mem_append_left _ (List.mem_append_right _ z)
    · rcases sub a z with y | y
      · exact List.mem_append_left _ (List.mem_append_left _ y)
      · exact List.mem_append_right _ y
theorem RepS.adopts (ba : ∀ a ∈ B, a ∈ A) : ∀ {vs : List V} {sds : List SD} {T : List Addr} {P : List Addr} {σ : L2.St} {δ : SEnv} (ix : List Nat), RepS Γ H0 (T ++ A) B P R H σ δ → T.Nodup → (∀ t ∈ T, t ∉ A ∧ H0 t = none ∧ t ∉ Γ.ownA) → SlotsR Γ (hide ((T ++ A) ++ P) H) H (vs.map some) sds T → ix.length = vs.length →
    ∃ P', RepS Γ H0 A B P' R H (setsV σ ix vs) (setsD δ ix sds) ∧ ∀ q ∈ P', q ∈ P ∨ q ∈ T
  | [], sds, T, P, σ, δ, ix, S, nd, hT, sl, hl => by
    cases sl
    cases ix with
    | nil => exact ⟨P, S, fun q hq => .inl hq⟩
    | cons i is => cases hl
  | v :: vs, sds, T, P, σ, δ, ix, S, nd, hT, sl, hl => by
    cases ix with
    | nil => cases hl
    | cons i is =>
      have hl' : is.length = vs.length := by simpa using hl
      cases sl with
      | none sl =>
        obtain ⟨P1, h1, h2⟩ := S.slots.setN (y := some v) i
        have sub : ∀ p ∈ P1, p ∈ P := fun p hp => h2.subset hp
        have S1 : RepS Γ H0 (T ++ A) B P1 R H (σ.set i (some v)) (δ.set i .none) := ⟨S.row, S.ra, S.ba, S.rb, S.al, S.sc, S.sb, S.ext, fun p hp => S.own p (sub p hp), S.nd.sublist h2, h1.sub sub⟩
        obtain ⟨P2, S2, sub2⟩ := RepS.adopts ba is S1 nd hT (sl.keep (hide_keeps fun a ha => by
          rcases List.mem_append.mp ha with z | z
          · exact List.mem_append_left _ z
          · exact List.mem_append_right _ (sub a z)) fun _ _ _ _ z => z) hl'
        exact ⟨P2, S2, fun q hq => (sub2 q hq).imp (sub q) id⟩
      | dat r sl =>
        obtain ⟨P1, S1, sub⟩ := S.set r i
        obtain ⟨P2, S2, sub2⟩ := RepS.adopts ba is S1 nd hT (sl.keep (hide_keeps fun a ha => by
          rcases List.mem_append.mp ha with z | z
          · exact List.mem_append_left _ z
          · exact List.mem_append_right _ (sub a z)) fun _ _ _ _ z => z) hl'
        exact ⟨P2, S2, fun q hq => (sub2 q hq).imp (sub q) id⟩
      | @ot p t0 Ps _ _ T' e sl =>
        obtain ⟨n0, n2, n1⟩ := List.nodup_append.mp nd
        rw [List.append_assoc] at S
        rw [List.append_assoc Ps T' A] at e sl
        obtain ⟨P1, S1, sub⟩ := RepS.adopt1 (A := T' ++ A) S (fun q hq z => by
          rcases List.mem_append.mp z with z | z
          · exact n1 q hq q z rfl
          · exact (hT q (List.mem_append_left _ hq)).1 z) n0 (fun q hq => (hT q (List.mem_append_left _ hq)).2) (fun a ha => List.mem_append_right _ (ba a ha)) e i
        obtain ⟨P2, S2, sub2⟩ := RepS.adopts ba is S1 n2 (fun t ht => hT t (List.mem_append_right _ ht)) (sl.keep (hide_keeps fun a ha => by
          rcases List.mem_append.mp ha with z | z
          · exact List.mem_append_left _ (List.mem_append_right _ z)
          · rcases sub a z with y | y
            · exact List.mem_append_left _ (List.mem_append_left _ y)
            · exact List.mem_append_right _ y) fun _ _ _ _ z => z) hl'
        refine ⟨P2, S2, fun q hq => ?_⟩
        rcases sub2 q hq with z | z
        · rcases sub q z with y | y
          · exact .inr (List.mem_append_left _ y)
          · exact .inl y
        · exact .inr (List.mem_append_right _ z)
/-- behind the values -/
theorem RepS.tempT {R' : Option Rw} {H' : Hp} {T : List Addr} {vs : List V} {sds : List SD} (S : RepS Γ H0 A B P R H σ δ) (m : Mv Γ B R R' H H') (hT : ∀ t ∈ T, H t = none) (sl : SlotsR Γ (hide (T ++ (A ++ P)) H') H' (vs.map some) sds T) : RepS Γ H0 (T ++ A) B P R' H' σ δ := by
  have S0 := S.move m
  refine ⟨S0.row, fun a ha => List.mem_append_right _ (S0.ra a ha), fun a ha => List.mem_append_right _ (S0.ba a ha), S0.rb, fun a ha => ?_, S0.sc, S0.sb, S0.ext, fun q hq => ?_, S0.nd, ?_⟩
  · rcases List.mem_append.mp ha with z | z
    · exact sl.tracked a z
    · exact S0.al a z
  · obtain ⟨a1, a2, a3⟩ := S0.own q hq
    refine ⟨a1, fun z => ?_, a3⟩
    rcases List.mem_append.mp z with z | z
    · obtain ⟨o, e, _⟩ := S.slots.objs q hq
      rw [hT q z] at e
      cases e
    · exact a2 z
  · rw [List.append_assoc]
    exact S.slots.keep (keepsT m.ext S.bap hT) (S.stand m)
/-- all of it: the values are stored -/
theorem RepS.takesM {R' : Option Rw} {H' : Hp} {T : List Addr} {vs : List V} {sds : List SD} (S : RepS Γ H0 A B P R H σ δ) (m : Mv Γ B R R' H H') (nd : T.Nodup) (hT : ∀ t ∈ T, H t = none) (sl : SlotsR Γ (hide (T ++ (A ++ P)) H') H' (vs.map some) sds T) (ix : List Nat) (hl : ix.length = vs.length) :
    ∃ P', RepS Γ H0 A B P' R' H' (setsV σ ix vs) (setsD δ ix sds) ∧ Stp Γ B P P' R R' H H' := by
  have S1 := S.tempT m hT sl
  obtain ⟨P', S2, sub⟩ := RepS.adopts S.ba ix S1 nd (fun t ht => ⟨fun z => by
    obtain ⟨o, e, _⟩ := S.al t z
    rw [hT t ht] at e
    exact absurd e (by simp), S.ext.free (hT t ht), own_free S.row (hT t ht)⟩) (by rw [List.append_assoc]; exact sl) hl
  refine ⟨P', S2, m.ext.mono fun a h => List.mem_append_left _ h, fun q hq => ?_, m.adr⟩
  rcases sub q hq with z | z
  · exact .inl z
  · exact .inr (hT q z)
end
def sParM (ix : List Nat) (f : SEnv → M (List SD)) : SM := sBind f fun sds δ R => if sds.length = ix.length then .nx (setsD δ ix sds) R else .stuck
section
variable {Γ : Ctx} {W : WX} {X : Cx} {a b c : Expr} {es : List Expr} {fm : SEnv → M (List SD)} {pos : Pos}
theorem mgo {Dn : Ends} {ix : List Nat} {σ : L2.St} {H : Hp} {K : List V → Hp → Prop} (h : tS Γ W (sParM ix fm) Dn σ H) (k : ∀ vs H', vs.length = ix.length → Dn.nx (setsV σ ix vs) H' → K vs H') : tM Γ W fm σ H K := by
  obtain ⟨H0, A, B, P, R, δ, S, h⟩ := h
  refine ⟨H0, A, B, P, R, δ, S, ?_⟩
  unfold sParM sBind at h
  cases e : fm δ R with
  | ok sds R1 =>
    rw [e] at h
    simp only at h
    split at h
    · rename_i hl
      intro vs H' T m nd hT sl
      have lv : vs.length = sds.length := by have := sl.length; simpa using this
      obtain ⟨P', S', st⟩ := S.takesM m nd hT sl ix (by rw [lv, hl])
      exact k vs H' (by rw [lv, hl]) (h _ H' P' st S')
    · exact h.elim
  | exn c d R1 =>
    rw [e] at h
    intro v dx H1 m hx r
    exact h v dx σ H1 ⟨S.ext.trans m.ext, m.row, m.adr⟩ hx (Rep.keep (hide_keeps fun a ha => List.mem_append_left _ ha) _ r)
  | stuck => rw [e] at h; exact h.elim
theorem ds_parM2 {i j : Nat} {x y : Str} {px py pt : Pos} {kt k2 : Nat} {pt2 : Pos} (hc : X.calm = true) (hN : X.N.Nodup) (hi : X.N[i]? = some x) (hj : X.N[j]? = some y) (hij : i ≠ j) (hx : X.env.scope.names.lookup x = some .local) (hy : X.env.scope.names.lookup y = some .local) (ha : PA X [a, b] (tM Γ W fm))
    (hw : swappedStores [.Tuple [.Name x px, .Name y py] kt pt] (.Tuple [a, b] k2 pt2) X.env = pure (some [x, y])) (hs : swapsWithSole [.Tuple [.Name x px, .Name y py] kt pt] (.Tuple [a, b] k2 pt2) pos.line X.env = pure false := by rfl) :
    PS X (.Assign [.Tuple [.Name x px, .Name y py] kt pt] (.Tuple [a, b] k2 pt2) pos) (tS Γ W (sParM [i, j] fm)) := (ps_par hc hN hi hj hij hx hy ha hw hs).imp fun Dn σ H h => mgo h fun vs H' hl q => by
  match vs, hl with
  | [v, w], _ => exact ⟨v, w, rfl, q⟩
theorem ds_parM3 {i j l : Nat} {x y z : Str} {px py pz pt : Pos} {kt k2 : Nat} {pt2 : Pos} (hc : X.calm = true) (hN : X.N.Nodup) (hi : X.N[i]? = some x) (hj : X.N[j]? = some y) (hl : X.N[l]? = some z) (hij : i ≠ j) (hil : i ≠ l) (hjl : j ≠ l) (hx : X.env.scope.names.lookup x = some .local) (hy : X.env.scope.names.lookup y = some .local) (hz : X.env.scope.names.lookup z = some .local)
    (ha : PA X [a, b, c] (tM Γ W fm)) (hw : swappedStores [.Tuple [.Name x px, .Name y py, .Name z pz] kt pt] (.Tuple [a, b, c] k2 pt2) X.env = pure (some [x, y, z])) (hs : swapsWithSole [.Tuple [.Name x px, .Name y py, .Name z pz] kt pt] (.Tuple [a, b, c] k2 pt2) pos.line X.env = pure false := by rfl) :
    PS X (.Assign [.Tuple [.Name x px, .Name y py, .Name z pz] kt pt] (.Tuple [a, b, c] k2 pt2) pos) (tS Γ W (sParM [i, j, l] fm)) := (ps_par3 hc hN hi hj hl hij hil hjl hx hy hz ha hw hs).imp fun Dn σ H h => mgo h fun vs H' hl q => by
  match vs, hl with
  | [u, v, w], _ => exact ⟨u, v, w, rfl, q⟩
/-- names, stored one after the other from a tuple -/
def gNames : List Nat → TGs
  | [] => fun vs σ H Q => vs = [] ∧ Q σ H
  | i :: is => fun vs σ H Q => ∃ v ws, vs = v :: ws ∧ gNames is ws (σ.set i (some v)) H Q
theorem pgn_nil : PGs X [] (gNames []) := pgs_nil.imp fun vs σ H Q q => q
theorem pgn_cons {e : Expr} {i : Nat} {is : List Nat} (h : PG X e (gName i)) (hs : PGs X es (gNames is)) (hx : (assignEach (e :: es) X.env).map (·.2) = assign e X.env :: (assignEach es X.env).map (·.2) := by rfl) : PGs X (e :: es) (gNames (i :: is)) := (pgs_cons h hs hx).imp fun vs σ H Q q => by
  obtain ⟨v, ws, e1, q⟩ := q
  exact ⟨v, ws, e1, q⟩
theorem gNames_sets : ∀ {is : List Nat} {vs : List V} {σ : L2.St} {H : Hp} {Q : L2.St → Hp → Prop}, vs.length = is.length → Q (setsV σ is vs) H → gNames is vs σ H Q
  | [], [], _, _, _, _, q => ⟨rfl, q⟩
  | i :: is, v :: vs, σ, H, Q, hl, q => ⟨v, vs, rfl, gNames_sets (by simpa using hl) q⟩
  | [], v :: vs, _, _, _, hl, _ => by cases hl
  | i :: is, [], _, _, _, hl, _ => by cases hl
theorem mgoT {Dn : Ends} {ix : List Nat} {σ : L2.St} {H : Hp} {K : List V → Hp → Prop} (h : tS Γ W (sParM ix fm) Dn σ H) (k : ∀ vs H', vs.length = ix.length → (∀ p, H' p = none → Dn.nx (setsV σ ix vs) (upd H' p (.tup vs))) → K vs H') : tM Γ W fm σ H K := by
  obtain ⟨H0, A, B, P, R, δ, S, h⟩ := h
  refine ⟨H0, A, B, P, R, δ, S, ?_⟩
  unfold sParM sBind at h
  cases e : fm δ R with
  | ok sds R1 =>
    rw [e] at h
    simp only at h
    split at h
    · rename_i hl
      intro vs H' T m nd hT sl
      have lv : vs.length = sds.length := by have := sl.length; simpa using this
      obtain ⟨P', S', st⟩ := S.takesM m nd hT sl ix (by rw [lv, hl])
      refine k vs H' (by rw [lv, hl]) fun p hp => ?_
      have g : Mv Γ B R1 R1 H' (upd H' p (.tup vs)) := .grow S'.row (grow_new hp)
      exact h _ _ P' (st.trans (.of_mv g)) (S'.move g)
    · exact h.elim
  | exn c d R1 =>
    rw [e] at h
    intro v dx H1 m hx r
    exact h v dx σ H1 ⟨S.ext.trans m.ext, m.row, m.adr⟩ hx (Rep.keep (hide_keeps fun a ha => List.mem_append_left _ ha) _ r)
  | stuck => rw [e] at h; exact h.elim
/-- (a, b, ..) = (e1, e2, ..): any number of names, some of the values new lists -/
theorem ds_asgM {tg : List Expr} {ix : List Nat} {n k1 k2 : Nat} {tp pt2 : Pos} (hc : X.calm = true) (ha : PA X es (tM Γ W fm)) (hg : PGs X tg (gNames ix)) (hn : (assignEach tg X.env).length = n := by rfl) (hst : (assignEach tg X.env).findIdx? (·.1) = none := by rfl) (hix : ix.length = n := by rfl) (hsz : n ≤ sizeLine := by decide)
    (hs : swapsWithSole [.Tuple tg k1 tp] (.Tuple es k2 pt2) pos.line X.env = pure false := by rfl) (hw : swappedStores [.Tuple tg k1 tp] (.Tuple es k2 pt2) X.env = pure none := by rfl)
    (h1 : (assignEach [.Tuple tg k1 tp] X.env).map (·.2) = [assign (.Tuple tg k1 tp) X.env] := by rfl) :
    PS X (.Assign [.Tuple tg k1 tp] (.Tuple es k2 pt2) pos) (tS Γ W (sParM ix fm)) := (ps_asg (pe_tup ha) (pg_tup hc hg hn hst) hs hw h1).imp fun Dn σ H h => mgoT h fun vs H' hl q => by
  refine ⟨by rw [hl, hix]; exact hsz, fun p hp => ⟨p, vs, rfl, SqT.of upd_same, by rw [hl]; exact hix, gNames_sets hl (q p hp)⟩⟩
end
end DL

set_option Elab.async false
set_option linter.all false
set_option maxRecDepth 100000
set_option maxHeartbeats 2000000
namespace DL
open PySem PySem.Spec L2
section
open PyProof.Rows SrtO
variable {P : Program} {w : World} {A : Around} {E : Value → Shared → Prop} {s : Shared}
abbrev collT (h : Heap) (vs : List Value) : Heap := (h.push (seqObj "list" #[] 0)).update h.objs.size (Obj.mapSeq (· ++ vs.toArray))
/-- a tuple's items, collected into a new list -/
theorem coll_tup {t : Addr} {vs : List Value} {Q : List Value → Shared → Prop} (ht : s.heap.IsTuple t vs.toArray) (fin : Q vs { s with heap := collT s.heap vs }) (small : vs.length ≤ sizeLine) : wpAny (model P w) A (collect (.ref t)) Q E s := by
  obtain ⟨ob, isAt, isT, k, dat⟩ := id ht
  unfold collect
  refine wpAny_bind (wpAny_runValue (codeAny_builtin F.entry_proto_collect ?_))
  show wpAny _ _ (do again (.builtin "list.__iadd__" ⟨[← newList [], .ref t], []⟩)) _ _ s
  refine wpAny_bind (wpAny_newList (wpAny_pure ⟨Code.quiet_builtin _ (by decide +kernel), codeAny_builtin F.entry_list_iadd ?_⟩))
  show wpAny _ _ (Builtin.List.listExtendWith (.ref s.heap.objs.size) (.ref t) (.ref s.heap.objs.size)) _ _ { s with heap := s.heap.push (seqObj "list" #[] 0) }
  unfold Builtin.List.listExtendWith
  have at2 : (s.heap.push (seqObj "list" #[] 0)).get? t = some ob := Heap.get?_push_of_some _ isAt
  refine wpAny_bind (wpAny_typeOf (T := "tuple") ⟨ob, at2, isT⟩ ?_)
  have isTup : (Value.type "tuple" == Value.type "tuple") = true := by rfl
  rw [if_pos (by rw [isTup]; simp)]
  refine wpAny_bind (listItems_at at2 dat ?_)
  refine wpAny_bind (listItems_at (xs := #[]) (n := 0) (Heap.get?_push_size _ rfl) rfl ?_)
  rw [if_neg (by simp)]
  refine wpAny_bind (listUpdate_at (xs := #[]) (n := 0) (Heap.get?_push_size _ rfl) rfl ?_ (Nat.zero_le _) (by show (#[] ++ vs.toArray).size ≤ sizeLine + 1; simp only [Array.size_append, List.size_toArray, List.length_nil]; omega))
  refine wpAny_pure ?_
  show wpAny (model P w) A (do
      let ob ← load s.heap.objs.size
      match ob.data with
      | .seq xs _ => pure xs.toList
      | _ => unsupported "internal:collect") Q E { s with heap := collT s.heap vs }
  refine wpAny_bind (wpAny_load (get?_update_seq (Heap.get?_push_size _ rfl) _) ?_)
  show wpAny _ _ (pure ((#[] : Array Value) ++ vs.toArray).toList) Q E _
  rw [show ((#[] : Array Value) ++ vs.toArray).toList = vs by simp]
  exact wpAny_pure fin
theorem sorted_tup {t : Addr} {vs : List Value} {ltv : Value → Value → Bool} {Q : Value → Shared → Prop} (O : Swo ltv) (ht : s.heap.IsTuple t vs.toArray) (small : vs.length ≤ sizeLine)
    (can : 2 ≤ vs.length → ∀ (h₁ : Heap) (a : Addr), h₁.get? a = some (seqObj "list" vs.toArray 0) → (∀ b o, s.heap.get? b = some o → b ≠ a ∧ h₁.get? b = some o) → SortableO P w A.in1.in1 { s with heap := h₁ } a vs ltv)
    (fin : ∀ out : List Value, Srtd ltv out → Stb ltv out vs → Q (.ref (s.heap.objs.size + 1)) { s with heap := sortedAll s.heap vs out.toArray }) : wpAny (model P w) A (call (.builtin "sorted") [.ref t]) Q E s := by
  refine Calls.call_function_entry kind_sorted plain_sorted entry_sorted (args_sorted1 _) ?_
  unfold Builtin.«sorted»
  refine wpAny_bind (m := checkCount "sorted" 1 1 _) (wpAny_pure ?_)
  refine wpAny_bind (coll_tup ht ?_ small)
  refine wpAny_bind (wpAny_newList ?_ small)
  have size1 : (collT s.heap vs).objs.size = s.heap.objs.size + 1 := by
    rw [Heap.size_update, size_push']
  have newL : ((collT s.heap vs).push (seqObj "list" vs.toArray 0)).get? (s.heap.objs.size + 1) = some (seqObj "list" vs.toArray 0) := by
    rw [← size1]
    exact Heap.get?_push_size _ rfl
  have old : ∀ b o, s.heap.get? b = some o → b ≠ s.heap.objs.size + 1 ∧ ((collT s.heap vs).push (seqObj "list" vs.toArray 0)).get? b = some o := fun b o q => by
    have lt := Heap.lt_size q
    refine ⟨Nat.ne_of_lt (Nat.lt_succ_of_lt lt), Heap.get?_push_of_some _ ?_⟩
    rw [Heap.get?_update_ne _ _ _ _ (Nat.ne_of_lt lt)]
    exact Heap.get?_push_of_some _ q
  show wpAny _ _ _ _ _ { s with heap := (collT s.heap vs).push (seqObj "list" vs.toArray 0) }
  rw [size1]
  refine wpAny_bind (wpAny_holding (wpAny_call_entry slot_list_sort ⟨_, newL, rfl⟩ entry_list_sort (list_sort_ord O newL small (fun two => can two _ _ newL old) fun out so st => ⟨_, rfl, ?_⟩) (args_list_sort _)))
  exact wpAny_pure ⟨_, rfl, fin out so st⟩
end
/-- numbers -/
def nums : List D → Option (List Int)
  | [] => some []
  | .int i :: ds => (nums ds).map (i :: ·)
  | _ => none
theorem nums_of {Γ : Ctx} {H : Hp} : ∀ {ds : List D} {xs : List V} {ns : List Int}, RepL Γ H ds xs → nums ds = some ns → xs = ns.map V.int
  | [], xs, ns, r, e => by
    rw [RepL_nil] at r
    simp [nums] at e
    rw [r, e]; rfl
  | d :: ds, xs, ns, r, e => by
    rw [RepL_cons] at r
    obtain ⟨v, ws, rfl, h1, h2⟩ := r
    cases d <;> simp only [nums] at e <;> try (cases e)
    obtain ⟨cs, e1, rfl⟩ := Option.map_eq_some_iff.mp e
    rw [List.map_cons, h1.int_eq, nums_of h2 e1]
theorem nums_map : ∀ ns : List Int, nums (ns.map D.int) = some ns
  | [] => rfl
  | n :: ns => by rw [List.map_cons, nums, nums_map ns]; rfl
theorem repL_ints {Γ : Ctx} {H : Hp} : ∀ ns : List Int, RepL Γ H (ns.map D.int) (ns.map V.int)
  | [] => RepL_nil.mpr rfl
  | n :: ns => RepL_cons.mpr ⟨_, _, rfl, Rep.of_int, repL_ints ns⟩
def insI (x : Int) : List Int → List Int
  | [] => [x]
  | y :: r => if x ≤ y then x :: y :: r else y :: insI x r
def srt : List Int → List Int
  | [] => []
  | x :: r => insI x (srt r)
theorem insI_perm (x : Int) : ∀ l, (insI x l).Perm (x :: l)
  | [] => .refl _
  | y :: r => by
    unfold insI
    split
    · exact .refl _
    · exact ((insI_perm x r).cons y).trans (List.Perm.swap _ _ _)
theorem insI_sorted {x : Int} : ∀ {l : List Int}, l.Pairwise (· ≤ ·) → (insI x l).Pairwise (· ≤ ·)
  | [], _ => by simp [insI]
  | y :: r, h => by
    obtain ⟨h1, h2⟩ := List.pairwise_cons.mp h
    unfold insI
    split
    · rename_i z
      exact List.pairwise_cons.mpr ⟨fun a ha => by
        rcases List.mem_cons.mp ha with e | e
        · rw [e]; exact z
        · exact Int.le_trans z (h1 a e), h⟩
    · rename_i z
      refine List.pairwise_cons.mpr ⟨fun a ha => ?_, insI_sorted h2⟩
      rcases List.mem_cons.mp ((insI_perm x r).mem_iff.mp ha) with e | e
      · rw [e]; omega
      · exact h1 a e
theorem srt_perm : ∀ ns : List Int, (srt ns).Perm ns
  | [] => .nil
  | x :: r => (insI_perm x (srt r)).trans ((srt_perm r).cons x)
theorem srt_sorted : ∀ ns : List Int, (srt ns).Pairwise (· ≤ ·)
  | [] => .nil
  | x :: r => insI_sorted (srt_sorted r)
theorem sorted_uniq {a b : List Int} (p : a.Perm b) (h1 : a.Pairwise (· ≤ ·)) (h2 : b.Pairwise (· ≤ ·)) : a = b := by
  exact List.Perm.eq_of_pairwise (le := (· ≤ ·)) (fun x y _ _ h3 h4 => Int.le_antisymm h3 h4) h1 h2 p
theorem srt_eq {ns ms : List Int} (p : ms.Perm ns) (h : ms.Pairwise (· ≤ ·)) : ms = srt ns := sorted_uniq (p.trans (srt_perm ns).symm) h (srt_sorted ns)
def fSorted : List D → Option D
  | [.lst ds] => (nums ds).map fun ns => .lst ((srt ns).map .int)
  | [.tup ds] => (nums ds).map fun ns => .lst ((srt ns).map .int)
  | _ => none
def rSortedA (K : PySem.W.Frag) : List V → Hp → VK → Prop := fun vs H Q => ∃ (a : Addr) (ns : List Int), vs = [V.ref a] ∧ (SqL K H a (ns.map V.int) ∨ SqT K H a (ns.map V.int)) ∧
  ∀ (ns' : List Int) (p : Addr), ns'.Perm ns → ns'.Pairwise (· ≤ ·) → H p = none → Q (.ref p) (upd H p (.lst (ns'.map V.int)))
theorem cr_sortedA {X : Cx} : CallR X (.builtin "sorted") (rSortedA X.K) := by
  intro pins s σ H vs us Q I r h
  obtain ⟨a, ns, rfl, hs | hs, q⟩ := h
  · exact cr_sortedI pins s σ H _ us Q I r ⟨a, ns, rfl, hs, q⟩
  · obtain ⟨its, rv, ht, hz⟩ := I.tuple hs
    rw [Vals.ref1 r]
    have hi := rv.ints
    refine sorted_tup SrtO.swo_int (show s.heap.IsTuple a its.toArray from ht) (by rw [← rv.length]; exact hz) (fun h2 h₁ a' _ _ => SrtO.ints_sortable hi h2) fun out h1 h2 => ?_
    obtain ⟨k1, k2, k3⟩ := SrtO.ints_out hi h1 h2
    obtain ⟨ep, he⟩ := PyProof.Rows.sortedAll_at s.heap its out.toArray
    have len : ((out.map SrtO.iv).map V.int).length ≤ sizeLine := by
      rw [List.length_map, k2.length_eq]
      rw [List.length_map] at hz
      exact hz
    exact ⟨.ref _, upd H (s.heap.objs.size + 1) (.lst ((out.map SrtO.iv).map V.int)), I.laid (t' := s.toks) (fun _ _ => PyProof.Rows.sortedAll_old) (Nat.le_succ _) ⟨len, out, ep, L2.vals_of_ints k1, he⟩, rfl, q _ _ k2 k3 (I.hok.fresh (Nat.le_succ _))⟩
theorem cd_sortedA {Γ : Ctx} {K : PySem.W.Frag} : CallD Γ (rSortedA K) fSorted := fun A H xs as d Q al r e q => by
  unfold fSorted at e
  split at e
  · obtain ⟨v, rfl, r1⟩ := r.one_inv
    obtain ⟨p, ys, rfl, h1, h2, _⟩ := r1.lst_at
    obtain ⟨ns, en, rfl⟩ := Option.map_eq_some_iff.mp e
    have := nums_of h2 en
    subst this
    refine ⟨p, ns, rfl, .inl (SqL.of h1), fun ns' p' pm so hp => ?_⟩
    rw [srt_eq pm so]
    exact q _ _ (grow_new hp) (Rep.new_lst al hp (repL_ints _))
  · obtain ⟨v, rfl, r1⟩ := r.one_inv
    obtain ⟨p, ys, rfl, h1, h2, _⟩ := r1.tup_at
    obtain ⟨ns, en, rfl⟩ := Option.map_eq_some_iff.mp e
    have := nums_of h2 en
    subst this
    refine ⟨p, ns, rfl, .inr (h1.sq), fun ns' p' pm so hp => ?_⟩
    rw [srt_eq pm so]
    exact q _ _ (grow_new hp) (Rep.new_lst al hp (repL_ints _))
  · cases e
/-! ### sum -/
def fSum : List D → Option D
  | [.lst ds] => (nums ds).map fun ns => .int ns.sum
  | [.tup ds] => (nums ds).map fun ns => .int ns.sum
  | _ => none
def rSumA (K : PySem.W.Frag) : List V → Hp → VK → Prop := fun vs H Q => ∃ (a : Addr) (ns : List Int), vs = [V.ref a] ∧ (SqL K H a (ns.map V.int) ∨ SqT K H a (ns.map V.int)) ∧ Q (.int ns.sum) H
theorem cr_sumA {X : Cx} (hc : X.calm = true) : CallR X (.builtin "sum") (rSumA X.K) := by
  intro pins s σ H vs us Q I r h
  obtain ⟨a, ns, rfl, hs | hs, q⟩ := h
  · exact cr_sum hc pins s σ H _ us Q I r ⟨a, ns, rfl, hs, q⟩
  · obtain ⟨its, rv, ht, hz⟩ := I.tuple hs
    rw [Vals.ref1 r]
    have hi := rv.ints
    have ht' : s.heap.IsTuple a its.toArray := ht
    obtain ⟨xs, hx⟩ := hi.allInts.items
    have hn : numsOf its.toArray.toList = ns := by rw [show its.toArray.toList = its from rfl, hi.numsOf]
    rw [hx] at ht' hn
    rw [nums_intItems] at hn
    refine PySem.W.ktm_sumG (I.ok.hd hc) ht' fun h' tk t' hk => ?_
    rw [preSum_eq, List.take_of_length_le (by simp), hn]
    exact ⟨.int _, H, I.kept hk, ⟨_, rfl⟩, q⟩
theorem cd_sumA {Γ : Ctx} {K : PySem.W.Frag} : CallD Γ (rSumA K) fSum := fun A H xs as d Q al r e q => by
  unfold fSum at e
  split at e
  · obtain ⟨v, rfl, r1⟩ := r.one_inv
    obtain ⟨p, ys, rfl, h1, h2, _⟩ := r1.lst_at
    obtain ⟨ns, en, rfl⟩ := Option.map_eq_some_iff.mp e
    have := nums_of h2 en
    subst this
    exact ⟨p, ns, rfl, .inl (SqL.of h1), q _ H .refl Rep.of_int⟩
  · obtain ⟨v, rfl, r1⟩ := r.one_inv
    obtain ⟨p, ys, rfl, h1, h2, _⟩ := r1.tup_at
    obtain ⟨ns, en, rfl⟩ := Option.map_eq_some_iff.mp e
    have := nums_of h2 en
    subst this
    exact ⟨p, ns, rfl, .inr (h1.sq), q _ H .refl Rep.of_int⟩
  · cases e
/-! ### x[k], x a list of one's own -/
def dIxOwn (i : Nat) (fk : SEnv → M D) : SEnv → M D := fun δ => match δ[i]? with
  | some (.ot (.lst ds)) => fk δ >>= fun k => M.lift (oIx (.lst ds) k)
  | _ => M.stuck
section
variable {Γ : Ctx} {W : WX} {X : Cx} {k : Expr} {fk : SEnv → M D} {pos p : Pos}
theorem pd_ixOwn {i : Nat} {x : Str} (hN : X.N[i]? = some x) (hv : Vis X.env.scope x) (hk : PE X k (tD Γ W fk)) (hs : PlainIx k := by intro _ _; rfl) (hd : (x == ("__debug__" : Str)) = false := by decide) (hcd : (x == ("__classdict__" : Str)) = false := by decide) :
    PE X (.Subscript (.Name x p) k pos) (tD Γ W (dIxOwn i fk)) := (pe_ix ix_seq (pe_var hN hv hd hcd) hk hs).imp fun σ H Q h => by
  obtain ⟨H0, A, B, P, R, δ, S, h⟩ := h
  unfold dIxOwn at h
  cases e1 : δ[i]? with
  | none => rw [e1] at h; exact h.elim
  | some sd =>
  cases sd with
  | none => rw [e1] at h; exact h.elim
  | dat _ => rw [e1] at h; exact h.elim
  | ot t =>
  cases t with
  | dct _ _ _ => rw [e1] at h; exact h.elim
  | mat _ => rw [e1] at h; exact h.elim
  | lst ds =>
    rw [e1] at h
    obtain ⟨q, vs, f1, _⟩ := S.slots.getOwn e1
    refine ⟨.ref q, f1, H0, A, B, P, R, δ, S, go S h fun kk vk R1 H1 m r S1 h1 => ?_⟩
    obtain ⟨d, ed, qq⟩ := lift_out S1 h1
    obtain ⟨q', vs', g1, g2, g3, g4⟩ := S1.slots.getOwn e1
    rw [f1] at g1
    have eq : q' = q := by injection (Option.some.inj (Option.some.inj g1)).symm
    subst eq
    cases kk <;> simp only [oIx] at ed <;> try (cases ed)
    rename_i iz
    obtain ⟨v, ev, rv⟩ := g3.atI ed
    exact .inl ⟨q', vs', iz, v, rfl, r.int_eq, SqL.of g2, ev, qq v H1 .refl rv⟩
end
theorem lookup_mem' {α β : Type} [BEq α] [LawfulBEq α] {a : α} {b : β} : ∀ {l : List (α × β)}, l.lookup a = some b → (a, b) ∈ l
  | [], h => by cases h
  | (c, d) :: r, h => by
    rw [List.lookup] at h
    split at h
    · rename_i e
      rw [beq_iff_eq.mp e, Option.some.inj h]
      exact List.mem_cons_self
    · exact List.mem_cons_of_mem _ (lookup_mem' h)
end DL

set_option Elab.async false
set_option linter.all false
set_option maxRecDepth 100000
set_option maxHeartbeats 2000000
namespace DL
open PySem PySem.Spec L2
/-! ### a web's table stays small -/
open Classical in
theorem nodup_le {α : Type} : ∀ {L M : List α}, L.Nodup → (∀ x ∈ L, x ∈ M) → L.length ≤ M.length
  | [], M, _, _ => Nat.zero_le _
  | x :: L, M, h, hs => by
    obtain ⟨h1, h2⟩ := List.nodup_cons.mp h
    have hx := hs x List.mem_cons_self
    have ih := nodup_le (L := L) (M := M.erase x) h2 fun y hy => (List.mem_erase_of_ne (fun e => h1 (by rw [← e]; exact hy))).mpr (hs y (List.mem_cons_of_mem _ hy))
    rw [List.length_erase_of_mem hx] at ih
    have : 0 < M.length := List.length_pos_of_mem hx
    rw [List.length_cons]
    omega
def rls : Nat → Int → List (List Int)
  | 0, _ => [[]]
  | f + 1, lo => rls f (lo + 1) ++ (rls f (lo + 1)).map (lo :: ·)
theorem rls_len : ∀ (f : Nat) (lo : Int), (rls f lo).length = 2 ^ f
  | 0, _ => rfl
  | f + 1, lo => by
    rw [rls, List.length_append, List.length_map, rls_len f, Nat.pow_succ]
    omega
theorem rls_mem : ∀ (f : Nat) (lo : Int) (st : List Int), st.Pairwise (· < ·) → (∀ k ∈ st, lo ≤ k ∧ k < lo + (f : Int)) → st ∈ rls f lo
  | 0, lo, [], _, _ => by simp [rls]
  | 0, lo, k :: st, _, h => by
    have := h k List.mem_cons_self
    omega
  | f + 1, lo, [], _, _ => by
    rw [rls]
    exact List.mem_append_left _ (rls_mem f (lo + 1) [] .nil fun k hk => nomatch hk)
  | f + 1, lo, k :: st, hp, h => by
    obtain ⟨p1, p2⟩ := List.pairwise_cons.mp hp
    have hk := h k List.mem_cons_self
    rw [rls]
    by_cases e : k = lo
    · subst e
      refine List.mem_append_right _ (List.mem_map.mpr ⟨st, rls_mem f (k + 1) st p2 fun j hj => ?_, rfl⟩)
      have a := p1 j hj
      have b := h j (List.mem_cons_of_mem _ hj)
      omega
    · refine List.mem_append_left _ (rls_mem f (lo + 1) (k :: st) hp fun j hj => ?_)
      have b := h j hj
      cases hj with
      | head => omega
      | tail _ hj =>
        have a := p1 j hj
        omega
theorem CacheOk.small {f : List Int → Int} {kvs : List (List Key × V)} (h : CacheOk f kvs) : kvs.length < sizeLine := by
  have l := nodup_le (L := kvs.map (·.1)) (M := (rls 12 0).map (·.map Sum.inl)) h.1 fun x hx => by
    obtain ⟨p, hp, rfl⟩ := List.mem_map.mp hx
    obtain ⟨st, s, e, _⟩ := h.2 p hp
    rw [e]
    exact List.mem_map.mpr ⟨st, rls_mem 12 0 st s.1 fun k hk => by have := s.2 k hk; omega, rfl⟩
  rw [List.length_map, List.length_map, rls_len] at l
  exact Nat.lt_of_le_of_lt l (by decide)
/-! ### what is kept in a web's table -/
instance : DecidableEq Rw := fun a b => decidable_of_iff (a.addr = b.addr ∧ a.idx = b.idx ∧ a.mix = b.mix ∧ a.carry = b.carry) ⟨fun h => by cases a; cases b; simp_all, fun h => by subst h; exact ⟨rfl, rfl, rfl, rfl⟩⟩
instance (st : List Int) : Decidable (StI st) := by unfold StI; infer_instance
def sCache (Γ : Ctx) (i j : Nat) (fe : SEnv → M D) : SM := fun δ R => match δ[i]?, δ[j]? with
  | some (.dat (.web n ss)), some (.dat (.tup ds)) => (match nums ds with
    | some st => (match fe δ R with
      | .ok (.int v) R' => if v = Γ.val n ss st ∧ R' = R ∧ StI st then .rt (.int v) R else .stuck
      | _ => .stuck)
    | none => .stuck)
  | _, _ => .stuck
theorem CacheOk.put {f : List Int → Int} {kvs : List (List Key × V)} {st : List Int} (h : CacheOk f kvs) (hs : StI st) : CacheOk f (putK kvs (st.map Sum.inl) (.int (f st))) := by
  obtain ⟨h1, h2⟩ := h
  unfold putK
  split
  · refine ⟨?_, fun p hp => ?_⟩
    · rw [List.map_map]
      have e : ((fun p : List Key × V => p.1) ∘ fun kv : List Key × V => if kv.1 = st.map Sum.inl then (kv.1, V.int (f st)) else kv) = fun p : List Key × V => p.1 := by
        funext kv
        show (if kv.1 = st.map Sum.inl then (kv.1, V.int (f st)) else kv).1 = kv.1
        split <;> rfl
      rw [e]; exact h1
    · obtain ⟨kv, hk, rfl⟩ := List.mem_map.mp hp
      by_cases e : kv.1 = st.map Sum.inl
      · rw [if_pos e]
        exact ⟨st, hs, e, rfl⟩
      · rw [if_neg e]
        exact h2 kv hk
  · rename_i ha
    refine ⟨?_, fun p hp => ?_⟩
    · rw [List.map_append, List.nodup_append]
      refine ⟨h1, by simp, fun a hA b hB => ?_⟩
      simp only [List.map_cons, List.map_nil, List.mem_singleton] at hB
      subst hB
      intro e
      subst e
      obtain ⟨kv, hk, e⟩ := List.mem_map.mp hA
      exact ha (List.any_eq_true.mpr ⟨kv, hk, decide_eq_true e⟩)
    · rcases List.mem_append.mp hp with z | z
      · exact h2 p z
      · rw [List.mem_singleton] at z
        subst z
        exact ⟨st, hs, rfl, rfl⟩
theorem RowOk.updT {Γ : Ctx} {H : Hp} {R : Option Rw} {p : Addr} {kvs kvs' : List (List Key × V)} (h : RowOk Γ H R) (hp : H p = some (.dT kvs)) {a dx t : Addr} {n : Int} {ss : List (Int × Int)} {xs : List V} (ha : H a = some (.ins Γ.web dx (webF n t p))) (ht : TupO H t xs) (hps : PairsR H ss xs) (hk : CacheOk (Γ.val n ss) kvs → CacheOk (Γ.val n ss) kvs') : RowOk Γ (L2.upd H p (.dT kvs')) R := by
  obtain ⟨⟨h1, h0, hw⟩, h2⟩ := h
  have nt : ∀ b o, H b = some o → (∀ k, o ≠ .dT k) → L2.upd H p (.dT kvs') b = some o := fun b o e z => by
    rw [upd_ne (ne_of e hp (z kvs))]; exact e
  have bk : ∀ b dx fs, L2.upd H p (.dT kvs') b = some (.ins Γ.web dx fs) → H b = some (.ins Γ.web dx fs) := fun b dx fs e => by
    by_cases z : b = p
    · rw [z, upd_same] at e; cases e
    · rwa [upd_ne z] at e
  refine ⟨⟨Tabs_upd h1 hp (by intro _ z; cases z) nx_dT, h0.keep (fun b φ e => nt b _ e (by intro _ z; cases z)) (fun b ys e => by
    rcases e with e | ⟨o, d, e⟩
    · exact .inl (nt b _ e (by intro _ z; cases z))
    · exact .inr ⟨o, d, nt b _ e (by intro _ z; cases z)⟩), ⟨fun b dx' n' t' q e => ?_, fun b b' dx dx' n n' t t' q e e' => hw.uq b b' dx dx' n n' t t' q (bk _ _ _ e) (bk _ _ _ e')⟩⟩, ?_⟩
  · have e0 := bk _ _ _ e
    clear e
    obtain ⟨ss', xs', k', g1, g2, g3, g4⟩ := hw.at_ b dx' n' t' q e0
    have tp : ∀ c ys, TupO H c ys → TupO (L2.upd H p (.dT kvs')) c ys := fun c ys z => by
      rcases z with z | ⟨o, d, z⟩
      · exact .inl (nt c _ z (by intro _ z; cases z))
      · exact .inr ⟨o, d, nt c _ z (by intro _ z; cases z)⟩
    by_cases z : q = p
    · subst z
      have := hw.uq _ _ _ _ _ _ _ _ _ e0 ha
      subst this
      rw [e0] at ha
      have e3 := (HO.ins.inj (Option.some.inj ha)).2.2
      simp only [webF, List.cons.injEq, Prod.mk.injEq, V.int.injEq, V.ref.injEq, true_and, and_true] at e3
      obtain ⟨rfl, rfl⟩ := e3
      have := ht.inj g1
      subst this
      have := PairsR.inj g2 hps
      subst this
      rw [hp] at g3
      have := HO.dT.inj (Option.some.inj g3)
      subst this
      exact ⟨ss', xs, kvs', tp _ _ ht, g2.imp tp, upd_same, hk g4⟩
    · exact ⟨ss', xs', k', tp _ _ g1, g2.imp tp, by rw [upd_ne z]; exact g3, g4⟩
  · cases R with
    | none => trivial
    | some r => exact nt _ _ h2 (by intro _ z; cases z)
theorem Ext.put {Γ : Ctx} {B : List Addr} {H : Hp} {q : Addr} {kvs kvs' : List (List Key × V)} (hq : H q = some (.dT kvs)) : Ext Γ B H (L2.upd H q (.dT kvs')) where
  st := fun b o _ h s => by
    have : b ≠ q := fun e => by
      subst e
      rw [hq] at h
      cases h
      cases s
    rw [upd_ne this]; exact h
  ex := fun b φ _ _ h => by rw [upd_ne (ne_of h hq (by intro z; cases z))]; exact h
  ca := fun b k _ h => by
    by_cases e : b = q
    · subst e
      exact ⟨_, upd_same⟩
    · exact ⟨k, by rw [upd_ne e]; exact h⟩
  al := fun b o h => by
    by_cases e : b = q
    · subst e
      exact ⟨_, upd_same, fun _ => nx_dT⟩
    · exact ⟨o, by rw [upd_ne e]; exact h, id⟩
/-- what a table tells of a key -/
theorem CacheOk.val {f : List Int → Int} {kvs : List (List Key × V)} {st : List Int} {x : V} (h : CacheOk f kvs) (hv : valV kvs (st.map Sum.inl) = some x) : x = .int (f st) := by
  unfold valV at hv
  obtain ⟨p, hp, rfl⟩ := Option.map_eq_some_iff.mp hv
  obtain ⟨st', _, e5, e6⟩ := h.2 p (List.mem_of_find?_eq_some hp)
  have e7 := List.find?_some hp
  rw [decide_eq_true_eq, e5] at e7
  have inj : ∀ {as bs : List Int}, (as.map Sum.inl : List Key) = bs.map Sum.inl → as = bs := fun {as bs} z => by
    have z2 := congrArg (fun l : List Key => l.map fun k => match k with | .inl i => i | .inr _ => 0) z
    simpa [List.map_map, Function.comp_def] using z2
  rw [e6, inj e7]
/-- a web's table, as the state tells it -/
theorem web_table {Γ : Ctx} {A : List Addr} {H : Hp} {R : Option Rw} {n : Int} {ss : List (Int × Int)} {v : V} (row : RowOk Γ H R) (r : Rep Γ (hide A H) (.web n ss) v) : ∃ a dx t q xs kvs, v = .ref a ∧ H a = some (.ins Γ.web dx (webF n t q)) ∧ TupO H t xs ∧ PairsR H ss xs ∧ H q = some (.dT kvs) ∧ CacheOk (Γ.val n ss) kvs := by
  rw [Rep] at r
  obtain ⟨a, dx, t, q, xs, kvs, rfl, h1, h2, h3, h4⟩ := r
  have h1 := (hide_some h1).2
  have h2 := h2.unhide.2
  have h3 : PairsR H ss xs := h3.imp fun b ys e => e.unhide.2
  obtain ⟨ss', xs', kvs', g1, g2, g3, g4⟩ := row.1.2.2.at_ a dx n t q h1
  have := h2.inj g1
  subst this
  have := PairsR.inj g2 h3
  subst this
  exact ⟨a, dx, t, q, xs, kvs', rfl, h1, h2, h3, g3, g4⟩
section
variable {Γ : Ctx} {W : WX} {X : Cx} {e ew et ew2 et2 ew3 et3 : Expr} {fe : SEnv → M D} {i j : Nat} {p1 p2 p3 p4 p5 p6 p7 p8 p9 : Pos}
theorem ds_cache (nf : ∀ (H : Hp) (R : Option Rw), RowOk Γ H R → ∀ a o xs, H a ≠ some (.frz o (.tup xs))) (T : WebF X.K X.mg Γ) (hu : X.A.units + 1 < cLine) (hw : PE X ew (tVar i)) (ht : PE X et (tVar j)) (hw2 : PE X ew2 (tVar i)) (ht2 : PE X et2 (tVar j)) (hw3 : PE X ew3 (tVar i)) (ht3 : PE X et3 (tVar j)) (he : PE X e (tD Γ W fe)) (hsl : NoSl et3) (hb : attributeBase ew "worths" X.env (eval ew X.env) = eval ew X.env := by rfl) (hb2 : attributeBase ew2 "worths" X.env (eval ew2 X.env) = eval ew2 X.env := by rfl) (hb3 : attributeBase ew3 "worths" X.env (eval ew3 X.env) = eval ew3 X.env := by rfl)
    (hm : behindInMarks .NotIn (.Attribute ew "worths" p1) = false := by first | exact nobehind _ (by decide) (by decide) | rfl)
    (hs : swapsWith e (some (.Subscript (.Attribute ew2 "worths" p3) et2 p4)) p5.line X.env = pure false := by rfl) :
    PSs X [.If (.Compare et [.NotIn] [.Attribute ew "worths" p1] p2) [.Assign [.Subscript (.Attribute ew2 "worths" p3) et2 p4] e p5] [] p6, .Return (some (.Subscript (.Attribute ew3 "worths" p7) et3 p8)) p9] (tS Γ W (sCache Γ i j fe)) :=
  (pss_cons (ps_if (pt_cmp (pc_dnotin hu ht (pe_fld hw hb)) hm) (pss_one (ps_dput hu (pe_fld hw2 hb2) ht2 he hs)) pss_nil) (pss_one (ps_ret (pe_dget hu (pe_fld hw3 hb3) ht3 hsl)))).imp fun Dn σ H h => by
  obtain ⟨H0, A, B, P, R, δ, S, h⟩ := h
  unfold sCache at h
  split at h
  · rename_i n ss ds e1 e2
    split at h
    · rename_i st e3
      split at h
      · rename_i v R' e4
        split at h
        · rename_i hc
          obtain ⟨rfl, rfl, hst⟩ := hc
          have ek : (st.map V.int) = ((st.map Sum.inl : List Key).map kV) := by rw [List.map_map]; rfl
          have look : ∀ {R H}, RepS Γ H0 A B P R H σ δ → ∃ a dx t q xs kvs b, σ[i]? = some (some (.ref a)) ∧ σ[j]? = some (some (.ref b)) ∧ H a = some (.ins Γ.web dx (webF n t q)) ∧ TupO H t xs ∧ PairsR H ss xs ∧ H q = some (.dT kvs) ∧ CacheOk (Γ.val n ss) kvs ∧ H b = some (.tup ((st.map Sum.inl : List Key).map kV)) := fun {R H} S => by
            obtain ⟨vw, g1, r1⟩ := S.slots.get e1
            obtain ⟨vt, g2, r2⟩ := S.slots.get e2
            obtain ⟨a, dx, t, q, xs, kvs, rfl, k1, k2, k3, k4, k5⟩ := web_table S.row r1
            obtain ⟨b, ys, rfl, hB, hL⟩ := Rep_tup.mp r2
            have ey := nums_of hL e3
            subst ey
            rw [ek] at hB
            have hB := hB.o.unhide.2
            rcases hB with hB | ⟨o, _, hB⟩
            · exact ⟨a, dx, t, q, xs, kvs, b, g1, g2, k1, k2, k3, k4, k5, hB⟩
            · exact (nf _ _ S.row _ _ _ hB).elim
          obtain ⟨a, dx, t, q, xs, kvs, b, g1, g2, hA', hT, hP, hQ', hC, hB'⟩ := look S
          cases hv : valV kvs (st.map Sum.inl) with
          | some x =>
            have gt := DGet.t hQ' hB'
            rw [hv] at gt
            refine ⟨_, g2, _, g1, a, Γ.web, dx, _, _, rfl, hA', T.cl, T.nW, lookW _ _ _, q, _, rfl, gt, false, rfl, ?_⟩
            simp only [Bool.false_eq_true, if_false]
            show tDGet (tFld X.K (tVar i) ("worths" : Str)) (tVar j) σ H Dn.rt
            refine ⟨_, g1, a, Γ.web, dx, _, _, rfl, hA', T.cl, T.nW, lookW _ _ _, _, g2, q, _, rfl, gt, ?_⟩
            have ex : x = .int (Γ.val n ss st) := hC.val hv
            subst ex
            exact h _ H ⟨S.ext, S.row, rfl⟩ Rep.of_int
          | none =>
            have gt := DGet.t hQ' hB'
            rw [hv] at gt
            refine ⟨_, g2, _, g1, a, Γ.web, dx, _, _, rfl, hA', T.cl, T.nW, lookW _ _ _, q, _, rfl, gt, true, rfl, ?_⟩
            simp only [if_true]
            refine ⟨H0, A, B, P, R', δ, S, ?_⟩
            rw [e4]
            intro v1 H1 m rv
            have := rv.int_eq
            subst this
            have S1 := S.move m
            obtain ⟨a1, dx1, t1, q1, xs1, kvs1, b1, g1', g2', hA1', hT1, hP1, hQ1', hC1, hB1'⟩ := look S1
            refine ⟨_, g1', a1, Γ.web, dx1, _, _, rfl, hA1', T.cl, T.nW, lookW _ _ _, _, g2', q1, _, rfl, DPut.t hQ1' hB1' hC1.small, ?_⟩
            have ne1 : a1 ≠ q1 := ne_of hA1' hQ1' (by intro z; cases z)
            have ne2 : b1 ≠ q1 := ne_of hB1' hQ1' (by intro z; cases z)
            have gt4 := DGet.t (H := L2.upd H1 q1 (.dT (putK kvs1 (st.map Sum.inl) (.int (Γ.val n ss st))))) (b := b1) (k := st.map Sum.inl) upd_same (by rw [upd_ne ne2]; exact hB1')
            rw [valV_put, if_pos rfl] at gt4
            show tDGet (tFld X.K (tVar i) ("worths" : Str)) (tVar j) σ _ Dn.rt
            refine ⟨_, g1', a1, Γ.web, dx1, _, _, rfl, by rw [upd_ne ne1]; exact hA1', T.cl, T.nW, lookW _ _ _, _, g2', q1, _, rfl, gt4, ?_⟩
            exact h _ _ ⟨S1.ext.trans (Ext.put hQ1'), S1.row.updT hQ1' hA1' hT1 hP1 fun c => c.put hst, rfl⟩ Rep.of_int
        · exact h.elim
      · exact h.elim
    · exact h.elim
  · exact h.elim
end
/-! ### max, min of a list -/
def mxI : List Int → Int
  | [] => 0
  | [a] => a
  | a :: b :: r => if mxI (b :: r) < a then a else mxI (b :: r)
def mnI : List Int → Int
  | [] => 0
  | [a] => a
  | a :: b :: r => if a < mnI (b :: r) then a else mnI (b :: r)
theorem mxI_mem : ∀ {ns : List Int}, ns ≠ [] → mxI ns ∈ ns
  | [], h => absurd rfl h
  | [a], _ => by simp [mxI]
  | a :: b :: r, _ => by
    have ih := mxI_mem (ns := b :: r) (by simp)
    rw [mxI]
    split
    · exact List.mem_cons_self
    · exact List.mem_cons_of_mem _ ih
theorem mxI_le : ∀ {ns : List Int} {y : Int}, y ∈ ns → y ≤ mxI ns
  | [], _, h => nomatch h
  | [a], y, h => by
    have : y = a := by simpa using h
    rw [this, mxI]
    exact Int.le_refl _
  | a :: b :: r, y, h => by
    rw [mxI]
    cases h with
    | head => split <;> omega
    | tail _ h =>
      have := mxI_le (ns := b :: r) h
      split <;> omega
theorem mnI_mem : ∀ {ns : List Int}, ns ≠ [] → mnI ns ∈ ns
  | [], h => absurd rfl h
  | [a], _ => by simp [mnI]
  | a :: b :: r, _ => by
    have ih := mnI_mem (ns := b :: r) (by simp)
    rw [mnI]
    split
    · exact List.mem_cons_self
    · exact List.mem_cons_of_mem _ ih
theorem mnI_le : ∀ {ns : List Int} {y : Int}, y ∈ ns → mnI ns ≤ y
  | [], _, h => nomatch h
  | [a], y, h => by
    have : y = a := by simpa using h
    rw [this, mnI]
    exact Int.le_refl _
  | a :: b :: r, y, h => by
    rw [mnI]
    cases h with
    | head => split <;> omega
    | tail _ h =>
      have := mnI_le (ns := b :: r) h
      split <;> omega
def fMax : List D → Option D
  | [.lst ds] => (nums ds).bind fun ns => if ns = [] then none else some (.int (mxI ns))
  | _ => none
def fMin : List D → Option D
  | [.lst ds] => (nums ds).bind fun ns => if ns = [] then none else some (.int (mnI ns))
  | _ => none
theorem cd_max {Γ : Ctx} {K : PySem.W.Frag} : CallD Γ (rMax K) fMax := fun A H xs as d Q al r e q => by
  unfold fMax at e
  split at e
  · obtain ⟨v, rfl, r1⟩ := r.one_inv
    obtain ⟨p, ys, rfl, h1, h2, _⟩ := r1.lst_at
    obtain ⟨ns, en, e2⟩ := Option.bind_eq_some_iff.mp e
    split at e2
    · cases e2
    · rename_i hn
      cases e2
      have := nums_of h2 en
      subst this
      refine ⟨p, ns, rfl, SqL.of h1, List.length_pos_iff.mpr hn, fun m hm hy => ?_⟩
      have : m = mxI ns := Int.le_antisymm (mxI_le hm) (hy _ (mxI_mem hn))
      rw [this]
      exact q _ H .refl Rep.of_int
  · cases e
theorem cd_min {Γ : Ctx} {K : PySem.W.Frag} : CallD Γ (rMin K) fMin := fun A H xs as d Q al r e q => by
  unfold fMin at e
  split at e
  · obtain ⟨v, rfl, r1⟩ := r.one_inv
    obtain ⟨p, ys, rfl, h1, h2, _⟩ := r1.lst_at
    obtain ⟨ns, en, e2⟩ := Option.bind_eq_some_iff.mp e
    split at e2
    · cases e2
    · rename_i hn
      cases e2
      have := nums_of h2 en
      subst this
      refine ⟨p, ns, rfl, SqL.of h1, List.length_pos_iff.mpr hn, fun m hm hy => ?_⟩
      have : m = mnI ns := Int.le_antisymm (hy _ (mnI_mem hn)) (mnI_le hm)
      rw [this]
      exact q _ H .refl Rep.of_int
  · cases e
end DL

set_option Elab.async false
set_option linter.all false
set_option maxRecDepth 100000
set_option maxHeartbeats 2000000
namespace DL
open PySem PySem.Spec L2
/-! ### texts: methods of one argument -/
def dM1 (f : Str → D → Option D) (fa fb : SEnv → M D) : SEnv → M D := fun δ => fa δ >>= fun x => match x with
  | .str a => fb δ >>= fun y => M.lift (f a y)
  | _ => M.stuck
def M1D (Γ : Ctx) (r : V → List V → Hp → VK → Prop) (f : Str → D → Option D) : Prop := ∀ (A : List Addr) (H : Hp) (a : Str) (y : V) (b d : D) (Q : VK), All A H → Rep Γ (hide A H) b y → f a b = some d → (∀ v H', Grow Γ H H' → Rep Γ (hide A H') d v → Q v H') → r (.str a) [y] H Q
def oSplit (a : Str) : D → Option D
  | .str b => if (b.length == 0) = false ∧ a.length + 2 ≤ sizeLine then some (.lst ((Txt.split a b).map D.str)) else none
  | _ => none
def strsD : List D → Option (List Str)
  | [] => some []
  | .str x :: ds => (strsD ds).map (x :: ·)
  | _ => none
def oJoin (a : Str) : D → Option D
  | .lst ds => (strsD ds).bind fun ys => if (ys.map (·.length)).sum + ys.length * a.length ≤ 16777216 then some (.str (Txt.join a ys)) else none
  | _ => none
def oEndswith (a : Str) : D → Option D
  | .str b => some (.bl (Txt.endswith a b))
  | _ => none
def oFind (a : Str) : D → Option D
  | .str b => some (.int (Txt.find a b))
  | _ => none
theorem repL_strs {Γ : Ctx} {H : Hp} : ∀ ys : List Str, RepL Γ H (ys.map D.str) (ys.map V.str)
  | [] => RepL_nil.mpr rfl
  | y :: ys => RepL_cons.mpr ⟨_, _, rfl, Rep.of_str, repL_strs ys⟩
theorem strsD_of {Γ : Ctx} {H : Hp} : ∀ {ds : List D} {xs : List V} {ys : List Str}, RepL Γ H ds xs → strsD ds = some ys → xs = ys.map V.str
  | [], xs, ys, r, e => by
    rw [RepL_nil] at r
    simp [strsD] at e
    rw [r, e]; rfl
  | d :: ds, xs, ys, r, e => by
    rw [RepL_cons] at r
    obtain ⟨v, ws, rfl, h1, h2⟩ := r
    cases d <;> simp only [strsD] at e <;> try (cases e)
    obtain ⟨cs, e1, rfl⟩ := Option.map_eq_some_iff.mp e
    rw [List.map_cons, h1.str_eq, strsD_of h2 e1]
section
variable {Γ : Ctx} {W : WX} {X : Cx} {o e a b tg : Expr} {fo fe fa fb : SEnv → M D} {pos apos : Pos}
theorem m1_imp {r : V → List V → Hp → VK → Prop} {f : Str → D → Option D} (hr : M1D Γ r f) {σ : St} {H : Hp} {Q : VK} (h : tD Γ W (dM1 f fo fe) σ H Q) : tM1 r (tD Γ W fo) (tD Γ W fe) σ H Q := by
  obtain ⟨H0, A, B, P, R, δ, S, h⟩ := h
  refine ⟨H0, A, B, P, R, δ, S, go S h fun x vx R1 H1 m1 r1 S1 h1 => ?_⟩
  cases x with
  | str z =>
    refine ⟨⟨z, r1.str_eq⟩, H0, A, B, P, R1, δ, S1, go S1 h1 fun y vy R2 H2 m2 r2 S2 h2 => ?_⟩
    obtain ⟨d, e, q⟩ := lift_out S2 h2
    rw [r1.str_eq]
    exact hr _ H2 z vy y d Q S2.all r2 e q
  | _ => exact h1.elim
theorem m1d_split : M1D Γ (fun x xs H Q => ∃ a b, x = .str a ∧ xs = [.str b] ∧ (b.length == 0) = false ∧ a.length + 2 ≤ sizeLine ∧ rNewStrs (Txt.split a b) H Q) oSplit := fun A H a y b d Q al r e q => by
  unfold oSplit at e
  split at e
  · split at e
    · rename_i hc
      cases e
      refine ⟨a, _, rfl, by rw [r.str_eq], hc.1, hc.2, fun p hp => ?_⟩
      exact q _ _ (grow_new hp) (Rep.new_lst al hp (repL_strs _))
    · cases e
  · cases e
theorem m1d_join {K : PySem.W.Frag} : M1D Γ (fun x xs H Q => ∃ a p, ∃ ys : List Str, x = .str a ∧ xs = [.ref p] ∧ (SqL K H p (ys.map V.str) ∨ SqT K H p (ys.map V.str)) ∧ (ys.map (·.length)).sum + ys.length * a.length ≤ 16777216 ∧ Q (.str (Txt.join a ys)) H) oJoin := fun A H a y b d Q al r e q => by
  unfold oJoin at e
  split at e
  · obtain ⟨ys, e1, e2⟩ := Option.bind_eq_some_iff.mp e
    split at e2
    · rename_i hc
      cases e2
      obtain ⟨p, xs, rfl, h1, h2, _⟩ := r.lst_at
      have := strsD_of h2 e1
      subst this
      exact ⟨a, p, ys, rfl, rfl, .inl (SqL.of h1), hc, q _ H .refl Rep.of_str⟩
    · cases e2
  · cases e
theorem m1d_endswith : M1D Γ (fun x xs H Q => ∃ a b, x = .str a ∧ xs = [.str b] ∧ Q (.bl (Txt.endswith a b)) H) oEndswith := fun A H a y b d Q al r e q => by
  unfold oEndswith at e
  split at e
  · cases e
    exact ⟨a, _, rfl, by rw [r.str_eq], q _ H .refl Rep.of_bl⟩
  · cases e
theorem m1d_find : M1D Γ (fun x xs H Q => ∃ a b, x = .str a ∧ xs = [.str b] ∧ Q (.int (Txt.find a b)) H) oFind := fun A H a y b d Q al r e q => by
  unfold oFind at e
  split at e
  · cases e
    exact ⟨a, _, rfl, by rw [r.str_eq], q _ H .refl Rep.of_int⟩
  · cases e
theorem pd_split (ho : PE X o (tD Γ W fo)) (he : PE X e (tD Γ W fe)) (hs : starEach [e] X.env = [(false, eval e X.env)] := by rfl) (hbase : attributeBase o "split" X.env (eval o X.env) = eval o X.env := by rfl) (hline : (apos.endLine == pos.line) = true := by rfl) :
    PE X (.Call (.Attribute o "split" apos) [e] [] pos) (tD Γ W (dM1 oSplit fo fe)) := (pe_split ho he hs hbase hline).imp fun _ _ _ h => m1_imp m1d_split h
theorem pd_join (ho : PE X o (tD Γ W fo)) (he : PE X e (tD Γ W fe)) (hs : starEach [e] X.env = [(false, eval e X.env)] := by rfl) (hbase : attributeBase o "join" X.env (eval o X.env) = eval o X.env := by rfl) (hline : (apos.endLine == pos.line) = true := by rfl) :
    PE X (.Call (.Attribute o "join" apos) [e] [] pos) (tD Γ W (dM1 oJoin fo fe)) := (pe_join ho he hs hbase hline).imp fun _ _ _ h => m1_imp m1d_join h
theorem pd_endswith (ho : PE X o (tD Γ W fo)) (he : PE X e (tD Γ W fe)) (hs : starEach [e] X.env = [(false, eval e X.env)] := by rfl) (hbase : attributeBase o "endswith" X.env (eval o X.env) = eval o X.env := by rfl) (hline : (apos.endLine == pos.line) = true := by rfl) :
    PE X (.Call (.Attribute o "endswith" apos) [e] [] pos) (tD Γ W (dM1 oEndswith fo fe)) := (pe_m1 F.slot_str_endswith F.type_str_endswith mt_endswith ho he hs hbase hline).imp fun _ _ _ h => m1_imp m1d_endswith h
theorem pd_find (ho : PE X o (tD Γ W fo)) (he : PE X e (tD Γ W fe)) (hs : starEach [e] X.env = [(false, eval e X.env)] := by rfl) (hbase : attributeBase o "find" X.env (eval o X.env) = eval o X.env := by rfl) (hline : (apos.endLine == pos.line) = true := by rfl) :
    PE X (.Call (.Attribute o "find" apos) [e] [] pos) (tD Γ W (dM1 oFind fo fe)) := (pe_m1 F.slot_str_find F.type_str_find mt_find ho he hs hbase hline).imp fun _ _ _ h => m1_imp m1d_find h
/-! ### signs -/
def signD (c : Nat) : D := .str ⟨#[c]⟩
def signsD : D → Option (List D)
  | .str z => some (z.cps.toList.map signD)
  | _ => none
def iSign (fe : SEnv → M D) : SEnv → M (List D) := fun δ => fe δ >>= fun x => M.lift (signsD x)
theorem dw_str {A : List Addr} {H : Hp} {z : Str} : DWk Γ A (Its z) (z.cps.toList.map signD) H :=
  ⟨_, _, _, walk_str (z := z), by simp, fun A2 H2 k => trivial, fun A2 H2 k al i x H3 hi y => by
    obtain ⟨rfl, c, hc, rfl⟩ := y
    refine ⟨signD c, ?_, Grow.refl, Rep.of_str⟩
    rw [List.getElem?_map, Array.getElem?_toList, hc]
    rfl⟩
theorem di_sign (he : PE X e (tD Γ W fe)) : PI X tg e (iD Γ W (iSign fe)) := (pi_str he).imp fun σ H K h => by
  obtain ⟨H0, A, B, P, R, δ, S, h⟩ := h
  refine ⟨H0, A, B, P, R, δ, S, igo (γ := Nat) S h fun x vx R1 H1 m r S1 h1 => ?_⟩
  obtain ⟨ds, e1, q⟩ := ilift h1 S1.row
  cases x with
  | str z =>
    cases e1
    refine ⟨z, r.str_eq, ?_⟩
    exact q _ dw_str
  | _ => cases e1
def oInS : D → D → Option D
  | .str x, .str z => match x.cps.toList with
    | [c] => some (.bl (decide (c ∈ z.cps.toList)))
    | _ => none
  | _, _ => none
def oNotInS : D → D → Option D
  | .str x, .str z => match x.cps.toList with
    | [c] => some (.bl (!decide (c ∈ z.cps.toList)))
    | _ => none
  | _, _ => none
theorem one_sign {x : Str} {c : Nat} (h : x.cps.toList = [c]) : x = ⟨#[c]⟩ := TL.ext_tl h
theorem od_inS : OpD Γ (fun x y H Q => ∃ (c : Nat) (z : Str), x = .str ⟨#[c]⟩ ∧ y = .str z ∧ Q (.bl (decide (c ∈ z.cps.toList))) H) oInS := fun A H x y a b d Q al ra rb e q => by
  unfold oInS at e
  split at e
  · split at e
    · rename_i hx
      cases e
      exact ⟨_, _, by rw [ra.str_eq, one_sign hx], rb.str_eq, q _ H .refl Rep.of_bl⟩
    · cases e
  · cases e
theorem od_notInS : OpD Γ (fun x y H Q => ∃ (c : Nat) (z : Str), x = .str ⟨#[c]⟩ ∧ y = .str z ∧ Q (.bl (!decide (c ∈ z.cps.toList))) H) oNotInS := fun A H x y a b d Q al ra rb e q => by
  unfold oNotInS at e
  split at e
  · split at e
    · rename_i hx
      cases e
      exact ⟨_, _, by rw [ra.str_eq, one_sign hx], rb.str_eq, q _ H .refl Rep.of_bl⟩
    · cases e
  · cases e
end
end DL

set_option Elab.async false
set_option linter.all false
set_option maxRecDepth 100000
set_option maxHeartbeats 2000000
namespace DL
open PySem PySem.Spec L2 PyProof.Rows
/-! ### dicts whose keys are tuples -/
abbrev NEnt := NestedKey × Addr × V
def valN (xs : List NEnt) (k : NestedKey) : Option V := (xs.find? fun x => decide (x.1 = k)).map (·.2.2)
def putN (xs : List NEnt) (k : NestedKey) (b : Addr) (v : V) : List NEnt :=
  if (valN xs k).isSome then xs.map (fun x => if x.1 = k then (x.1, x.2.1, v) else x) else xs ++ [(k, b, v)]
theorem valN_nil {k : NestedKey} : valN [] k = none := rfl
theorem valN_cons {x : NEnt} {r : List NEnt} {k : NestedKey} : valN (x :: r) k = if x.1 = k then some x.2.2 else valN r k := by
  unfold valN
  rw [List.find?_cons]
  by_cases e : x.1 = k <;> simp [e]
theorem valN_map {k j : NestedKey} {v : V} : ∀ xs : List NEnt, valN (xs.map fun x => if x.1 = k then (x.1, x.2.1, v) else x) j = if j = k then (valN xs j).map fun _ => v else valN xs j
  | [] => by simp [valN]
  | x :: r => by
    rw [List.map_cons, valN_cons, valN_cons, valN_map r]
    by_cases e : x.1 = k
    · rw [if_pos e]
      by_cases f : x.1 = j
      · rw [if_pos f, if_pos (f.symm.trans e), if_pos f]; rfl
      · rw [if_neg f, if_neg f]
    · rw [if_neg e]
      by_cases f : x.1 = j
      · rw [if_pos f, if_neg (fun z => e (f.trans z)), if_pos f]
      · rw [if_neg f, if_neg f]
theorem valN_snoc {k j : NestedKey} {b : Addr} {v : V} : ∀ xs : List NEnt, valN xs k = none → valN (xs ++ [(k, b, v)]) j = if j = k then some v else valN xs j
  | [], _ => by
    rw [List.nil_append, valN_cons, valN_nil]
    by_cases e : k = j
    · rw [if_pos e, if_pos e.symm]
    · rw [if_neg e, if_neg (fun z => e z.symm)]
  | x :: r, h => by
    rw [valN_cons] at h
    split at h
    · cases h
    · rename_i n
      rw [List.cons_append, valN_cons, valN_cons, valN_snoc r h]
      by_cases f : x.1 = j
      · rw [if_pos f, if_pos f, if_neg (fun z => n (f.trans z))]
      · rw [if_neg f, if_neg f]
theorem valN_put (xs : List NEnt) (k j : NestedKey) (b : Addr) (v : V) : valN (putN xs k b v) j = if j = k then some v else valN xs j := by
  unfold putN
  split
  · rename_i h
    rw [valN_map]
    by_cases e : j = k
    · subst e
      obtain ⟨x, hx⟩ := Option.isSome_iff_exists.mp h
      rw [if_pos rfl, if_pos rfl, hx]; rfl
    · rw [if_neg e, if_neg e]
  · rename_i h
    exact valN_snoc xs (by simpa using h)
theorem valN_mem {xs : List NEnt} {k : NestedKey} {v : V} (h : valN xs k = some v) : ∃ b, (k, b, v) ∈ xs := by
  unfold valN at h
  obtain ⟨x, hx, rfl⟩ := Option.map_eq_some_iff.mp h
  have e := List.find?_some hx
  rw [decide_eq_true_eq] at e
  exact ⟨x.2.1, by rw [← e]; exact List.mem_of_find?_eq_some hx⟩
theorem valN_none {xs : List NEnt} {k : NestedKey} (h : valN xs k = none) : k ∉ xs.map (·.1) := fun z => by
  obtain ⟨x, hx, e⟩ := List.mem_map.mp z
  unfold valN at h
  rw [Option.map_eq_none_iff, List.find?_eq_none] at h
  exact h x hx (decide_eq_true e)
theorem putN_keys {xs : List NEnt} {k : NestedKey} {b : Addr} {v : V} (h : (xs.map (·.1)).Nodup) : ((putN xs k b v).map (·.1)).Nodup := by
  unfold putN
  split
  · rw [List.map_map]
    have e : ((fun x : NEnt => x.1) ∘ fun x : NEnt => if x.1 = k then (x.1, x.2.1, v) else x) = fun x : NEnt => x.1 := by
      funext x
      show (if x.1 = k then (x.1, x.2.1, v) else x).1 = x.1
      split <;> rfl
    rw [e]; exact h
  · rename_i n
    rw [List.map_append, List.nodup_append]
    refine ⟨h, by simp, fun a ha b' hb e => ?_⟩
    simp only [List.map_cons, List.map_nil, List.mem_singleton] at hb
    exact valN_none (by simpa using n) (by rw [← hb, ← e]; exact ha)
theorem putN_len {xs : List NEnt} {k : NestedKey} {b : Addr} {v : V} : (putN xs k b v).length ≤ xs.length + 1 := by
  unfold putN
  split
  · rw [List.length_map]; omega
  · rw [List.length_append]; simp
theorem putN_mem {xs : List NEnt} {k : NestedKey} {b : Addr} {v : V} {x : NEnt} (h : x ∈ putN xs k b v) : x ∈ xs ∨ (x.1 = k ∧ x.2.2 = v ∧ (x.2.1 = b ∨ ∃ w, (k, x.2.1, w) ∈ xs)) := by
  unfold putN at h
  split at h
  · obtain ⟨y, hy, rfl⟩ := List.mem_map.mp h
    by_cases e : y.1 = k
    · rw [if_pos e]
      exact .inr ⟨e, rfl, .inr ⟨y.2.2, by rw [← e]; exact hy⟩⟩
    · rw [if_neg e]; exact .inl hy
  · rcases List.mem_append.mp h with z | z
    · exact .inl z
    · rw [List.mem_singleton] at z
      subst z
      exact .inr ⟨rfl, rfl, .inl rfl⟩
abbrev NRel (p : NEnt) (q : NestedKey × Addr × Value) : Prop := p.1 = q.1 ∧ p.2.1 = q.2.1 ∧ RelV p.2.2 q.2.2
theorem nrel_val {xs : List NEnt} {ys : List (NestedKey × Addr × Value)} (r : Paired NRel xs ys) (k : NestedKey) : RelO (valN xs k) ((atKey ys k).map (·.2)) := by
  induction r with
  | nil => exact True.intro
  | @cons p q ps qs h t ih =>
    rw [valN_cons]
    obtain ⟨h1, _, h2⟩ := h
    by_cases e : p.1 = k
    · have b : atKey (q :: qs) k = some q.2 := by simp [atKey, List.find?_cons, h1.symm.trans e]
      rw [if_pos e, b]; exact h2
    · have nq : ¬ q.1 = k := fun z => e (h1.trans z)
      have b : atKey (q :: qs) k = atKey qs k := by simp [atKey, List.find?_cons, nq]
      rw [if_neg e, b]; exact ih
theorem nrel_map {xs : List NEnt} {ys : List (NestedKey × Addr × Value)} (r : Paired NRel xs ys) (k : NestedKey) {v : V} {u : Value} (rv : RelV v u) : Paired NRel (xs.map fun x => if x.1 = k then (x.1, x.2.1, v) else x) (ys.map (putAt k u)) := by
  induction r with
  | nil => exact .nil
  | @cons p q ps qs h t ih =>
    rw [List.map_cons, List.map_cons]
    refine .cons ?_ ih
    obtain ⟨h1, h2, h3⟩ := h
    unfold putAt
    by_cases e : p.1 = k
    · rw [if_pos e, if_pos (h1.symm.trans e)]; exact ⟨h1, h2, rv⟩
    · rw [if_neg e, if_neg (fun z => e (h1.trans z))]; exact ⟨h1, h2, h3⟩
theorem nrel_put {xs : List NEnt} {ys : List (NestedKey × Addr × Value)} (r : Paired NRel xs ys) (k : NestedKey) {b : Addr} {v : V} {u : Value} (rv : RelV v u) : Paired NRel (putN xs k b v) (storedH ys k b u) := by
  have e : (valN xs k).isSome = (atKey ys k).isSome := by rw [(nrel_val r k).isSome_eq, Option.isSome_map]
  unfold putN storedH
  rw [e]
  by_cases q : (atKey ys k).isSome = true
  · rw [if_pos q, if_pos q]; exact nrel_map r k rv
  · rw [if_neg q, if_neg q]; exact Paired.snoc r ⟨rfl, rfl, rv⟩
theorem nrel_keys {xs : List NEnt} {ys : List (NestedKey × Addr × Value)} (r : Paired NRel xs ys) : ys.map (·.1) = xs.map (·.1) := by
  induction r with
  | nil => rfl
  | cons h t ih => rw [List.map_cons, List.map_cons, ih, h.1]
theorem nrel_mem {xs : List NEnt} {ys : List (NestedKey × Addr × Value)} (r : Paired NRel xs ys) : ∀ y ∈ ys, ∃ x ∈ xs, x.1 = y.1 ∧ x.2.1 = y.2.1 := by
  induction r with
  | nil => intro y hy; cases hy
  | @cons p q ps qs h t ih =>
    intro y hy
    rcases List.mem_cons.mp hy with z | z
    · rw [z]; exact ⟨p, List.mem_cons_self, h.1, h.2.1⟩
    · obtain ⟨x, hx, e⟩ := ih y z
      exact ⟨x, List.mem_cons_of_mem _ hx, e⟩
/-- the keys stand -/
def KeysAt (H : Hp) (xs : List NEnt) : Prop := ∀ x ∈ xs, KeyV H x.1 (.ref x.2.1)
def NGet (w : World) (H : Hp) (a : Addr) (y : V) (r : Option V) : Prop := ∃ (xs : List NEnt) (k : NestedKey) (b : Addr), H a = some (dN w a xs) ∧ KeysAt H xs ∧ y = .ref b ∧ KeyV H k (.ref b) ∧ k.depth ≤ 8 ∧ r = valN xs k
def NPut (w : World) (H : Hp) (a : Addr) (y v : V) (H' : Hp) : Prop := ∃ (xs : List NEnt) (k : NestedKey) (b : Addr), H a = some (dN w a xs) ∧ KeysAt H xs ∧ y = .ref b ∧ KeyV H k (.ref b) ∧ k.depth ≤ 8 ∧ xs.length < sizeLine ∧ H' = upd H a (dN w a (putN xs k b v))
def AGet (w : World) (H : Hp) (a : Addr) (y : V) (r : Option V) : Prop := DGet H a y r ∨ NGet w H a y r
def APut (w : World) (H : Hp) (a : Addr) (y v : V) (H' : Hp) : Prop := DPut H a y v H' ∨ NPut w H a y v H'
section
variable {X : Cx} {pins : List (Addr × Obj)} {σ : L2.St} {H : Hp} {s : Shared} {a : Addr} {y v : V} {u r : Value} {o : Option V} {A : Around} {E : Value → Shared → Prop}
theorem dn_open {P : Program} {w : World} {h : Heap} {xs : List NEnt} (ok : HOk P w H h) (e : H a = some (dN w a xs)) (ks : KeysAt H xs) : xs.length ≤ sizeLine ∧ (a == sysModules) = false ∧ (∀ x ∈ xs, x.1.depth ≤ 8) ∧ ∃ ys, Paired NRel xs ys ∧ h.DictOfH (nestedKind P w) a ys := by
  obtain ⟨⟨⟨h1, h2, h3⟩, ys, h4, ob, es, ep, h5, h6, h7, h8, h9⟩, _⟩ := (show ObjOk P w H h a (dN w a xs) from ok a _ e)
  refine ⟨h1, h2, h3, ys, h4, ob, es, ep, h5, h6, h7, h8, fun y hy => ?_, h9⟩
  obtain ⟨x, hx, e1, e2⟩ := nrel_mem h4 y hy
  exact ⟨by rw [← e1, ← e2]; exact KeyV.is ok _ (ks x hx) rfl, by rw [← e1]; exact h3 x hx⟩
theorem dn_ok {P : Program} {w : World} {h' : Heap} {H' : Hp} {xs : List NEnt} {ys : List (NestedKey × Addr × Value)} (h1 : xs.length ≤ sizeLine) (h2 : (a == sysModules) = false) (h3 : ∀ x ∈ xs, x.1.depth ≤ 8) (h4 : Paired NRel xs ys) (d : h'.DictOfH (nestedKind P w) a ys) : ObjOk P w H' h' a (dN w a xs) := by
  obtain ⟨ob, es, ep, h5, h6, h7, h8, _, h9⟩ := d
  exact ⟨⟨⟨h1, h2, h3⟩, ys, h4, ob, es, ep, h5, h6, h7, h8, h9⟩, ⟨_, h5⟩, fun h1 h2 ⟨q, ys, q4, ob, es, ep, q5, q6⟩ st => ⟨q, ys, q4, ob, es, ep, st _ q5, q6⟩⟩
theorem n_room {A : Around} (hu : A.units + 65 < cLine) : (nestedKind X.prog X.w).room A.in1 := by
  show A.in1.units + 8 < cLine
  have : A.in1.units ≤ A.units + 1 := by first | exact Nat.le_refl _ | (unfold Around.in1; simp) | (show A.units + 1 ≤ A.units + 1; omega)
  omega
theorem a_getItem {Q : Value → Shared → Prop} (hu : A.units + 65 < cLine) (I : Inv X pins σ H s) (g : AGet X.w H a y (some v)) (ry : RelV y u) (h : ∀ w' s', Inv X pins σ H s' → RelV v w' → Q w' s') :
    wpAny (model X.prog X.w) A (getItem (.ref a) u) Q E s := by
  rcases g with g | ⟨xs, k, b, e, ks, rfl, hk, hd, l⟩
  · exact d_getItem (by omega) I g ry h
  · cases (show u = Value.ref b from ry)
    obtain ⟨z1, z2, z3, ys, rel, dd⟩ := dn_open I.hok e ks
    have rv := nrel_val rel k
    rw [← l] at rv
    obtain ⟨w', hw, rw'⟩ := RelO.some_of (v := v) (o := (atKey ys k).map (·.2)) rv
    obtain ⟨p, hp, hp2⟩ := Option.map_eq_some_iff.mp hw
    refine wpAny_getItem_heap (n_room hu) ⟨KeyV.is I.hok k hk rfl, hd⟩ dd hp ?_
    rw [hp2]
    exact h w' _ (I.tok _) rw'
theorem a_in {Q : Value → Shared → Prop} (hu : A.units + 65 < cLine) (I : Inv X pins σ H s) (g : AGet X.w H a y o) (ry : RelV y u) (h : ∀ s', Inv X pins σ H s' → Q (.bool o.isSome) s') :
    wpAny (model X.prog X.w) A (compareOp .In u (.ref a)) Q E s := by
  rcases g with g | ⟨xs, k, b, e, ks, rfl, hk, hd, l⟩
  · exact d_in (by omega) I g ry h
  · cases (show u = Value.ref b from ry)
    obtain ⟨z1, z2, z3, ys, rel, dd⟩ := dn_open I.hok e ks
    refine wpAny_in_heap (n_room hu) ⟨KeyV.is I.hok k hk rfl, hd⟩ z2 dd ?_
    have q := (nrel_val rel k).isSome_eq
    rw [Option.isSome_map] at q
    rw [← q, ← l]
    exact h _ (I.tok _)
theorem a_notIn {Q : Value → Shared → Prop} (hu : A.units + 65 < cLine) (I : Inv X pins σ H s) (g : AGet X.w H a y o) (ry : RelV y u) (h : ∀ s', Inv X pins σ H s' → Q (.bool (!o.isSome)) s') :
    wpAny (model X.prog X.w) A (compareOp .NotIn u (.ref a)) Q E s := by
  rcases g with g | ⟨xs, k, b, e, ks, rfl, hk, hd, l⟩
  · exact d_notIn (by omega) I g ry h
  · cases (show u = Value.ref b from ry)
    obtain ⟨z1, z2, z3, ys, rel, dd⟩ := dn_open I.hok e ks
    refine wpAny_notIn_heap (n_room hu) ⟨KeyV.is I.hok k hk rfl, hd⟩ z2 dd ?_
    have q := (nrel_val rel k).isSome_eq
    rw [Option.isSome_map] at q
    rw [← q, ← l]
    exact h _ (I.tok _)
theorem a_setItem {H' : Hp} {Q : Unit → Shared → Prop} (hu : A.units + 65 < cLine) (I : Inv X pins σ H s) (g : APut X.w H a y v H') (ry : RelV y u) (rv : RelV v r) (h : ∀ s', Inv X pins σ H' s' → Q () s') :
    wpAny (model X.prog X.w) A (setItem (.ref a) u r) Q E s := by
  rcases g with g | ⟨xs, k, b, e, ks, rfl, hk, hd, l, eH⟩
  · exact d_setItem (by omega) I g ry rv h
  · subst eH
    cases (show u = Value.ref b from ry)
    obtain ⟨z1, z2, z3, ys, rel, dd⟩ := dn_open I.hok e ks
    have hz : ys.length ≤ sizeLine := by rw [← Paired.length rel]; exact z1
    have hl : (putN xs k b v).length ≤ sizeLine := by have := putN_len (xs := xs) (k := k) (b := b) (v := v); omega
    refine wpAny_setItem_heap (hsz := hz) (n_room hu) ⟨KeyV.is I.hok k hk rfl, hd⟩ dd fun h' dd' hs => h _ ?_
    have hd' : ∀ x ∈ putN xs k b v, x.1.depth ≤ 8 := fun x hx => by
      rcases putN_mem hx with z | ⟨z, _⟩
      · exact z3 x z
      · rw [z]; exact hd
    obtain ⟨q, es, ep, hq, _⟩ := id dd'
    exact d_write I (by rw [e]; exact True.intro) hs ⟨q, hq⟩ (dn_ok hl z2 hd' (nrel_put rel k rv) dd')
theorem a_typeIs (I : Inv X pins σ H s) (g : AGet X.w H a y o) : s.TypeIs (.ref a) "dict" := by
  rcases g with g | ⟨xs, k, b, e, ks, _⟩
  · exact dict_typeIs I g
  · obtain ⟨z1, z2, z3, ys, rel, dd⟩ := dn_open I.hok e ks
    exact dd.typeIs
end
/-- d[y] -/
def tAGet (w : World) (td ty : TE) : TE := fun σ H Q => td σ H fun x H1 => ty σ H1 fun y H2 => ∃ a v, x = .ref a ∧ AGet w H2 a y (some v) ∧ Q v H2
def tAIn (w : World) (ty td : TE) : TE := fun σ H Q => ty σ H fun y H1 => td σ H1 fun x H2 => ∃ a o, x = .ref a ∧ AGet w H2 a y o ∧ Q (.bl o.isSome) H2
def tANotIn (w : World) (ty td : TE) : TE := fun σ H Q => ty σ H fun y H1 => td σ H1 fun x H2 => ∃ a o, x = .ref a ∧ AGet w H2 a y o ∧ Q (.bl (!o.isSome)) H2
def sAPut (w : World) (td ty tv : TE) : TS := fun D σ H => tv σ H fun v H1 => td σ H1 fun x H2 => ty σ H2 fun y H3 => ∃ a H4, x = .ref a ∧ APut w H3 a y v H4 ∧ D.nx σ H4
section
variable {X : Cx} {o i e value : Expr} {pos pos' tpos : Pos} {td ty tv : TE}
theorem pe_aget (hu : X.A.units + 65 < cLine) (ho : PE X o td) (hi : PE X i ty) (hs : NoSl i) : PE X (.Subscript o i pos) (tAGet X.w td ty) := by
  refine ⟨fun pins s σ H Q I h => ?_⟩
  refine subD_of PySem.F.slot_dict_getitem.lookup hs (thn (ho.run pins s σ H _ I h) fun u s1 ⟨x, H1, I1, rx, q1⟩ => thn (hi.run pins s1 σ H1 _ I1 q1) fun iv s2 ⟨y, H2, I2, ry, a, v, ex, g, q2⟩ => ?_)
  subst ex
  obtain rfl : u = Value.ref a := rx
  exact ⟨a_typeIs I2 g, a_getItem hu I2 g ry fun w' s3 I3 rw' => ⟨v, H2, I3, rw', q2⟩⟩
theorem pc_ain (hu : X.A.units + 65 < cLine) (hi : PE X i ty) (ho : PE X o td) : PC X .In i o (tAIn X.w ty td) := by
  refine ⟨fun pins s σ H Q I h => ?_⟩
  refine thn (hi.run pins s σ H _ I h) fun iv s1 ⟨y, H1, I1, ry, q1⟩ => thn (ho.run pins s1 σ H1 _ I1 q1) fun u s2 ⟨x, H2, I2, rx, a, ov, ex, g, q2⟩ => ?_
  subst ex
  obtain rfl : u = Value.ref a := rx
  exact a_in hu I2 g ry fun s3 I3 => ⟨.bl ov.isSome, H2, I3, rfl, q2⟩
theorem pc_anotin (hu : X.A.units + 65 < cLine) (hi : PE X i ty) (ho : PE X o td) : PC X .NotIn i o (tANotIn X.w ty td) := by
  refine ⟨fun pins s σ H Q I h => ?_⟩
  refine thn (hi.run pins s σ H _ I h) fun iv s1 ⟨y, H1, I1, ry, q1⟩ => thn (ho.run pins s1 σ H1 _ I1 q1) fun u s2 ⟨x, H2, I2, rx, a, ov, ex, g, q2⟩ => ?_
  subst ex
  obtain rfl : u = Value.ref a := rx
  exact a_notIn hu I2 g ry fun s3 I3 => ⟨.bl (!ov.isSome), H2, I3, rfl, q2⟩
theorem ps_aput (hu : X.A.units + 65 < cLine) (ho : PE X o td) (hi : PE X i ty) (hv : PE X value tv) (hs : swapsWith value (some (.Subscript o i pos')) pos.line X.env = pure false) :
    PS X (.Assign [.Subscript o i pos'] value pos) (sAPut X.w td ty tv) := by
  refine ⟨fun pins s σ H D I h => ?_⟩
  refine wpAny_Assign_Subscript (thn (hv.run pins s σ H _ I h) fun r s1 ⟨v, H1, I1, rv, q1⟩ => thn (ho.run pins s1 σ H1 _ I1 q1) fun u s2 ⟨x, H2, I2, rx, q2⟩ => thn (hi.run pins s2 σ H2 _ I2 q2) fun iv s3 ⟨y, H3, I3, ry, a, H4, ex, g, q3⟩ => ?_) hs
  subst ex
  obtain rfl : u = Value.ref a := rx
  exact a_setItem hu I3 g ry rv fun s4 I4 => ⟨σ, H4, I4, q3⟩
/-- {}, its keys tuples -/
def tDNewN (w : World) : TE := fun _ H Q => ∀ p, H p = none → Q (.ref p) (upd H p (dN w p []))
theorem pe_dnewN : PE X (.Dict [] [] pos) (tDNewN X.w) := ⟨fun pins s σ H Q I h =>
  wpAny_Dict_empty ⟨.ref s.heap.objs.size, _, I.laid (a := s.heap.objs.size) (o := dN X.w s.heap.objs.size []) (t' := s.toks) (fun _ _ q => Heap.get?_push_of_some _ q) (Nat.le_refl _) (by
    have e := Heap.get?_push_size s.heap (show ({ cls := .type "dict", data := .dict #[] } : Obj).isFreed = false from rfl)
    exact ⟨⟨⟨Nat.zero_le _, beq_eq_false_iff_ne.mpr (Ne.symm (Nat.ne_of_lt I.big)), fun x hx => by cases hx⟩, [], .nil, _, #[], 0, e, ⟨rfl, rfl, rfl⟩, rfl, rfl, List.nodup_nil⟩, ⟨_, e⟩, fun h1 h2 ⟨q, ys, q4, ob, es, ep, q5, q6⟩ st => ⟨q, ys, q4, ob, es, ep, st _ q5, q6⟩⟩), rfl, h _ (I.hok.fresh (Nat.le_refl _))⟩⟩
end
end DL

set_option Elab.async false
set_option linter.all false
set_option maxRecDepth 100000
set_option maxHeartbeats 2000000
namespace DL
open PySem PySem.Spec L2
/-! ### lambdas with parameters: made, kept, called -/
theorem lamO_at {P : Program} {w : World} {H : Hp} {h : Heap} {f : Addr} {F : NdefX.NF} {e : Expr} (hok : HOk P w H h) (z : H f = some (LamO f F e)) : ∃ (od : Option Addr) (sl : Array (Option Value)) (pm ctv : Value), h.get? f = some (⟨.type "function", od, .func (PySem.W.kla_fn F.name F.qual F.params e F.scope F.cl pm (.ref F.c) ctv), sl⟩ : Obj) := (hok f _ z).1
abbrev lamF (X : Cx) (params : Arguments) (scope : Scope) (c' : Addr) : NdefX.NF := ⟨"<lambda>", lamN X, params, [], scope, cloFrom X.env.cells scope.names [], c'⟩
section
variable {X : Cx} {pins : List (Addr × Obj)} {σ : L2.St} {H : Hp} {s : Shared}
theorem inv_lamO {params : Arguments} {body : Expr} {scope : Scope} {c' : Addr} {pm ctv : Value} {t' : Nat} (J : Inv X pins σ H s) :
    Inv X pins σ (upd H s.heap.objs.size (LamO s.heap.objs.size (lamF X params scope c') body)) { s with heap := s.heap.push (lamOb X params body scope pm c' ctv), toks := t' } := by
  refine J.laid (a := s.heap.objs.size) (fun b u e => Heap.get?_push_of_some _ e) (Nat.le_refl _) ?_
  have e : (s.heap.push (lamOb X params body scope pm c' ctv)).get? s.heap.objs.size = some (lamOb X params body scope pm c' ctv) := Heap.get?_push_size _ rfl
  exact ⟨⟨_, _, pm, ctv, e⟩, ⟨_, e⟩, fun h1 h2 ⟨od, sl, p, t, z⟩ st => ⟨od, sl, p, t, st _ z⟩⟩
/-- the making of a lambda that stays known -/
theorem lam_kept {tabs : List (Addr × Str)} {cd tab : Addr} {params : Arguments} {body : Expr} {scope : Scope} {pos : Pos} {E Q : Value → Shared → Prop} (I : Inv X pins σ H s) (TB : LamX.TabB X.base X.mg cd tab) (hcd : X.env.code = .ref cd)
    (hin : (tab, lamN X) ∈ tabs) (honly : ∀ p ∈ tabs, p.1 = tab → p.2 = lamN X) (htabs : LamX.Tabs tabs H) (hdef : defaultsOf params X.env = ([], [])) (hfree : ∀ y ∈ scope.names, y.2 = .free → ∃ c, X.env.cells.lookup y.1 = some c)
    (fin : ∀ (f c' : Addr) (H1 : Hp) (s1 : Shared), Inv X pins σ H1 s1 → LamX.ExtN H H1 → LamAl H H1 → LamX.Tabs tabs H1 → H f = none →
      H1 f = some (LamO f (lamF X params scope c') body) → H1 c' = some (LamX.CodeO c' (lamN X)) → (H c' = none ∨ H c' = some (LamX.CodeO c' (lamN X))) → Q (.ref f) s1) :
    wpAny (model X.prog X.w) X.A (eval (.Lambda params body scope pos) X.env) Q E s := by
  obtain ⟨items, hT, ok3, known⟩ := htabs _ hin
  have hT : H tab = some (.tbl items) := hT
  have objT : s.heap.get? tab = some { cls := .none, data := .fields items } := I.hok tab _ hT
  have bi : s.heap.BuiltinsAt X.mg tab := TB.bm.keeps I.bk
  refine PySem.W.kla_eval hdef ?_
  cases found : codeAmong pos items.toList with
  | some cv =>
    obtain ⟨c', rfl, hc'⟩ := known pos cv found
    refine PySem.W.kla_makeFunctionHit (mg := X.mg) (c := cd) (P := tab) (ps := items) (closure_ok hfree) I.ok.glob (I.mod.glob.keeps I.bk) hcd (TB.code.keeps I.bk) objT ok3 found bi fun ctv h2 tk keep size => ?_
    have J : Inv X pins σ H { s with heap := h2, toks := tk } := I.kept keep
    have fr : H h2.objs.size = none := J.hok.fresh (Nat.le_refl _)
    have gr : ∀ b o, H b = some o → upd H h2.objs.size (LamO h2.objs.size (lamF X params scope c') body) b = some o := fun b o e => (upd_ne (ne_of_none e fr)).trans e
    exact fin h2.objs.size c' _ _ (inv_lamO (t' := tk) (pm := (X.mg "__name__").getD .none) (ctv := ctv) J) (fun b o e _ => gr b o e) ⟨fun b o e => ⟨o, gr b o e, id⟩, fun b C dx fs e => by
      by_cases z : b = h2.objs.size
      · rw [z, upd_same] at e; unfold LamO at e; cases e
      · rwa [upd_ne z] at e⟩ (htabs.ext gr) fr upd_same (gr _ _ hc') (.inr hc')
  | none =>
    refine PySem.W.kla_makeFunction (mg := X.mg) (c := cd) (P := tab) (ps := items) (closure_ok hfree) I.ok.glob (I.mod.glob.keeps I.bk) hcd (TB.code.keeps I.bk) objT ok3 found TB.gP bi fun c' ctv h2 tk keep cnew clt crec tabNow => ?_
    obtain ⟨c2, oc, fields, tn, ec, hoc, hdata, hname⟩ := crec
    cases ec
    have fsize : s.heap.objs.size ≤ h2.objs.size := by omega
    have free' : H c' = none := I.hok.fresh cnew
    have tne : tab ≠ c' := ne_of_none hT free'
    have J := LamX.inv_table (t' := tk) (more := #[rawInt pos.line, rawInt pos.col, .ref c']) (h' := h2) I hT (fun b o nb e => keep b o nb e) tabNow cnew ⟨oc, fields, tn, hoc, hdata, hname⟩
    have grow : LamX.ExtN H (upd (upd H tab (.tbl (items ++ #[rawInt pos.line, rawInt pos.col, .ref c']))) c' (LamX.CodeO c' (lamN X))) := fun b o e notT => by
      have n1 : b ≠ c' := ne_of_none e free'
      have n2 : b ≠ tab := fun z => by
        rw [z, hT] at e
        exact notT items (Option.some.inj e).symm
      rw [upd_ne n1, upd_ne n2]
      exact e
    have listed : (items ++ #[rawInt pos.line, rawInt pos.col, .ref c']).toList = items.toList ++ [rawInt pos.line, rawInt pos.col, .ref c'] := by simp
    have tabs1 : LamX.Tabs tabs (upd (upd H tab (.tbl (items ++ #[rawInt pos.line, rawInt pos.col, .ref c']))) c' (LamX.CodeO c' (lamN X))) := fun p hp => by
      by_cases same : p.1 = tab
      · rw [honly p hp same, same]
        refine ⟨_, by rw [upd_ne tne, upd_same], by rw [listed]; exact PySem.TriplesOk_snoc _ _ _ _ ok3, fun pos2 cv found2 => ?_⟩
        rw [listed] at found2
        rcases LamX.among_app _ ok3 found2 with old | now
        · obtain ⟨c0, e1, e2⟩ := known pos2 cv old
          exact ⟨c0, e1, grow _ _ e2 LamX.codeO_ne⟩
        · exact ⟨c', now, upd_same⟩
      · obtain ⟨its2, a1, a2, a3⟩ := htabs p hp
        refine ⟨its2, by rw [upd_ne (ne_of_none a1 free'), upd_ne same]; exact a1, a2, fun pos2 cv found2 => ?_⟩
        obtain ⟨c0, e1, e2⟩ := a3 pos2 cv found2
        exact ⟨c0, e1, grow _ _ e2 LamX.codeO_ne⟩
    have fr := J.hok.fresh (Nat.le_refl _)
    have fr0 : H h2.objs.size = none := I.hok.fresh fsize
    refine fin h2.objs.size c' _ _ (inv_lamO (t' := tk) (pm := (X.mg "__name__").getD .none) (ctv := ctv) J) (fun b o e n => ?_) ⟨fun b o e => ?_, fun b C dx fs e => ?_⟩ (tabs1.ext fun b o e => (upd_ne (ne_of_none e fr)).trans e) fr0 upd_same ((upd_ne (Nat.ne_of_lt clt)).trans upd_same) (.inl free')
    · have e1 := grow b o e n
      exact (upd_ne (ne_of_none e1 fr)).trans e1
    · by_cases z : b = tab
      · refine ⟨.tbl (items ++ #[rawInt pos.line, rawInt pos.col, .ref c']), ?_, fun _ => nx_tbl⟩
        · have e1 : (upd (upd H tab (.tbl (items ++ #[rawInt pos.line, rawInt pos.col, .ref c']))) c' (LamX.CodeO c' (lamN X))) b = some (.tbl (items ++ #[rawInt pos.line, rawInt pos.col, .ref c'])) := by rw [z, upd_ne tne, upd_same]
          exact (upd_ne (ne_of_none e1 fr)).trans e1
      · have e1 : (upd (upd H tab (.tbl (items ++ #[rawInt pos.line, rawInt pos.col, .ref c']))) c' (LamX.CodeO c' (lamN X))) b = some o := by rw [upd_ne (ne_of_none e free'), upd_ne z]; exact e
        exact ⟨o, (upd_ne (ne_of_none e1 fr)).trans e1, id⟩
    · by_cases z : b = h2.objs.size
      · rw [z, upd_same] at e; unfold LamO at e; cases e
      · rw [upd_ne z] at e
        by_cases z1 : b = c'
        · rw [z1, upd_same] at e; unfold LamX.CodeO at e; cases e
        · rw [upd_ne z1] at e
          by_cases z2 : b = tab
          · rw [z2, upd_same] at e; cases e
          · rwa [upd_ne z2] at e
end
def tLamK (tabs : List (Addr × Str)) (m : LamF) : TE := fun _ H Q => LamX.Tabs tabs H ∧ ∀ f c' H1, LamX.ExtN H H1 → LamAl H H1 → LamX.Tabs tabs H1 → H f = none → H1 f = some (LamO f (m c').1 (m c').2) → H1 (m c').1.c = some (LamX.CodeO (m c').1.c (m c').1.qual) →
  (H (m c').1.c = none ∨ H (m c').1.c = some (LamX.CodeO (m c').1.c (m c').1.qual)) → Q (.ref f) H1
section
variable {X : Cx} {Γ : Ctx} {W : WX}
theorem pe_lamK {tabs : List (Addr × Str)} {cd tab : Addr} {params : Arguments} {body : Expr} {scope : Scope} {pos : Pos} (TB : LamX.TabB X.base X.mg cd tab) (hcd : X.env.code = .ref cd) (hin : (tab, lamN X) ∈ tabs) (honly : ∀ p ∈ tabs, p.1 = tab → p.2 = lamN X)
    (hfree : ∀ y ∈ scope.names, y.2 = .free → X.env.scope.names.lookup y.1 = some .cell ∨ X.env.scope.names.lookup y.1 = some .free) (hdef : defaultsOf params X.env = ([], [])) : PE X (.Lambda params body scope pos) (tLamK tabs fun c' => (lamF X params scope c', body)) := by
  refine ⟨fun pins s σ H Q I h => ?_⟩
  obtain ⟨hT, h⟩ := h
  refine lam_kept I TB hcd hin honly hT hdef (fun y hy e => (hfree y hy e).elim (fun z => I.ok.has _ (.inl z)) fun z => I.ok.has _ (.inr z)) fun f c' H1 s1 J gr al tb nf isF isC old => ?_
  exact ⟨.ref f, H1, J, rfl, h f c' H1 gr al tb nf isF isC old⟩
theorem pd_lam {x : String} {cd tab : Addr} {params : Arguments} {body : Expr} {scope : Scope} {pos : Pos} (hl : Γ.lam x = some fun c' => (lamF X params scope c', body)) (TB : LamX.TabB X.base X.mg cd tab) (hcd : X.env.code = .ref cd) (hin : (tab, lamN X) ∈ Γ.tabs) (honly : ∀ p ∈ Γ.tabs, p.1 = tab → p.2 = lamN X)
    (hfree : ∀ y ∈ scope.names, y.2 = .free → X.env.scope.names.lookup y.1 = some .cell ∨ X.env.scope.names.lookup y.1 = some .free) (hdef : defaultsOf params X.env = ([], []) := by rfl) : PE X (.Lambda params body scope pos) (tD Γ W fun _ => pure (.fn x)) := (pe_lamK TB hcd hin honly hfree hdef).imp fun σ H Q h => by
  obtain ⟨H0, A, B, P, R, δ, S, h⟩ := h
  refine ⟨S.row.1.1, fun f c' H1 gr al tb nf isF isC old => ?_⟩
  have m : Mv Γ B R R H H1 := AftL.mv ⟨gr, al, tb⟩ S.row
  have nA : f ∉ A ++ P := fun z => by obtain ⟨o, e, _⟩ := S.all f z; rw [nf] at e; cases e
  have nC : c' ∉ A ++ P := fun z => by
    obtain ⟨o, e, n⟩ := S.all c' z
    rcases old with old | old
    · rw [show H c' = none from old] at e; cases e
    · rw [show H c' = some (LamX.CodeO c' (lamN X)) from old] at e
      cases e
      exact n _ _ rfl
  have oC : c' ∉ Γ.ownA := by
    rcases old with old | old
    · exact own_free S.row old
    · intro z
      obtain ⟨q, hq, e⟩ := List.mem_map.mp z
      obtain ⟨xs, h1, _⟩ := S.row.1.2.1 q hq
      rw [e, show H c' = some (LamX.CodeO c' (lamN X)) from old] at h1
      exact dN_ne_code _ _ (Option.some.inj h1).symm
  refine h (.ref f) H1 m ?_
  rw [Rep]
  unfold FnR
  rw [hl]
  exact ⟨f, c', rfl, own_free S.row nf, oC, by rw [hide_out nA]; exact isF, by rw [hide_out nC]; exact isC⟩
end
end DL

set_option Elab.async false
set_option linter.all false
set_option maxRecDepth 100000
set_option maxHeartbeats 2000000
namespace DL
open PySem PySem.Spec L2 NdefX
/-! ### what a lambda promises -/
structure LOk (P : Program) (w : World) (K : PySem.W.Frag) (mg : Str → Option Value) (base : Heap) (CX : CXT) (k : Nat) (F : NF) (e : Expr) (ps fr : List Str) (sp : List (Option V) → Sp) : Prop where
  len : ∀ ws vs H Q E, sp ws vs H Q E → vs.length = ps.length
  run : ∀ (f : Addr) (A : Around) (outer : List Env) (s : Shared) (H : Hp) (us : List Value) (vs : List V) (ws : List (Option V)) (Q : VK) (E : XK), Room k A → Env0 P w K mg base A outer s H → H f = some (LamO f F e) → H F.c = some (LamX.CodeO F.c F.qual) →
    CellsAt F.cl fr ws s.heap H → Vals vs us → sp ws vs H Q E → codeAny (model P w) A (.call (.ref f) ⟨us, []⟩) (CR CX outer P w H s Q E) s
section
variable {CX : CXT} {P : Program} {w : World} {K : PySem.W.Frag} {mg : Str → Option Value} {base : Heap} {N ps fr : List Str} {F : NF} {e : Expr} {k j : Nat} {sp : List (Option V) → Sp}
theorem LOk.mono (o : LOk P w K mg base CX j F e ps fr sp) (h : j ≤ k) : LOk P w K mg base CX k F e ps fr sp := ⟨o.len, fun f A outer s H us vs ws Q E hr => o.run f A outer s H us vs ws Q E (hr.mono h)⟩
theorem lok_of (S : NScope N ps fr F.scope) (hb : ∀ (pm ctv : Value) (us : List Value), us.length = ps.length → bindArgs (PySem.W.kla_fn F.name F.qual F.params e F.scope F.cl pm (.ref F.c) ctv) ⟨us, []⟩ = pure (ps.zip us)) (len : ∀ ws vs H Q E, sp ws vs H Q E → vs.length = ps.length)
    (hbody : ∀ (f : Addr) (A : Around) (outer : List Env) (s : Shared) (H : Hp) (vs : List V) (ws : List (Option V)) (Q : VK) (E : XK), Room k (A.deeper (envF F f s.heap.objs.size)) → ws.length = fr.length → sp ws vs H Q E →
      ∃ t, PE (ncx CX P w K mg base N F f A outer s H E) e t ∧ t (startF N vs ws) H Q) : LOk P w K mg base CX (k + 1) F e ps fr sp := by
  refine ⟨len, fun f A outer s H us vs ws Q E hr e0 hf hc C r hsp => ?_⟩
  have hl := len _ _ _ _ _ hsp
  have lim : s.heap.NoLimit := e0.mod.nolimit.keeps fun b o e => (e0.bs b o e).1
  obtain ⟨od, sl, pm, ctv, ho⟩ := lamO_at e0.hok hf
  refine PySem.W.kla_callFunE hr.depth ho rfl S.co S.gen rfl (codeO_at e0.hok hc) ?_
  rw [hb pm ctv us (by rw [← r.length]; exact hl)]
  refine wpAny_pure (wpAny_newFunctionEnv S.nocell (fun ⟨n, _⟩ hy => S.par n (List.of_mem_zip hy).1) (fun h₁ hns hsb => ⟨lim.fresh _ hsb, ?_⟩) S.kind)
  show codeAny _ _ (.expr e (envF F f s.heap.objs.size)) _ _
  have kp : ∀ b o, s.heap.get? b = some o → h₁.get? b = some o := fun b o e => hsb.extBut b o (Nat.ne_of_lt (Heap.lt_size e)) (Heap.get?_push_of_some _ e)
  obtain ⟨t, ht, hq⟩ := hbody f A outer s H vs ws Q E (hr.deeper _) C.len hsp
  have I : Inv (ncx CX P w K mg base N F f A outer s H E) [] (startF N vs ws) H { s with heap := h₁, toks := s.toks + (ps.zip us).length } := inv_startN S hr.hd e0 hl r C hns kp
  refine PySem.W.kla_codeExpr (wpAny_mono (ht.run [] _ (startF N vs ws) H Q I hq) (fun v s' got => ?_) fun e s' z => z)
  obtain ⟨w', H', J, rv, q⟩ := got
  exact ⟨w', H', J.os, J.bare, J.base, J.hok, rv, q⟩
end
theorem cells_un {fs : List Addr} {cl : List (Str × Addr)} {fr : List Str} {ws : List (Option V)} {H H' : Hp} {h h' : Heap} (u : Un fs [] H H' h h') (C : CellsAt cl fr ws h H) : CellsAt cl fr ws h' H' := by
  have kp : ∀ {c : Addr} {v : Option Value}, H c = none → h.IsCell c v → h'.IsCell c v := fun {c v} n ⟨o, ho, hd⟩ => by
    obtain ⟨sl, q⟩ := u.any ho n (by simp)
    exact ⟨_, q, hd⟩
  refine ⟨C.len, fun y c e => ?_, C.inj, fun i y e => ?_⟩
  · obtain ⟨n, v, z⟩ := C.all y c e
    refine ⟨?_, v, kp n z⟩
    obtain ⟨o, ho, _⟩ := z
    exact u.free c o ho n (by simp)
  · obtain ⟨c, hc, hv⟩ := C.has i y e
    refine ⟨c, hc, fun v ev => ?_⟩
    obtain ⟨u2, r, z⟩ := hv v ev
    exact ⟨u2, r, kp (C.all y c hc).1 z⟩
/-! ### the lambda's body over data -/
def spLam (Γ : Ctx) (n : Nat) (G : SEnv → M D) (ws : List (Option V)) : Sp := fun vs H Q E => ∃ ds δw R A, RepL Γ (hide A H) ds vs ∧ ds.length = n ∧ SlotsR Γ (hide A H) H ws δw [] ∧ RowOk Γ H R ∧ (∀ a ∈ rAddr R, a ∈ A) ∧ All A H ∧ SqL Γ.K H Γ.scr (Γ.cells.map V.int) ∧ (Γ.scr ∈ rAddr R → ScrK Γ) ∧
  (G (ds.map SD.dat ++ δw) R).run (fun d R' => ∀ v H', Mv Γ (rAddr R) R R' H H' → Rep Γ (hide A H') d v → Q v H')
    (fun c d R' => ∀ v dx H', Mv Γ (rAddr R) R R' H H' → H' dx = some (.xd [(("value" : Str), v)]) → Rep Γ (hide A H') d v → E (.ref (Γ.cls c)) (some dx) H')
theorem SlotsR.front {Γ : Ctx} {Hh H : Hp} : ∀ {ds : List D} {vs : List V} {σ : L2.St} {δ : SEnv}, RepL Γ Hh ds vs → SlotsR Γ Hh H σ δ [] → SlotsR Γ Hh H (vs.map some ++ σ) (ds.map SD.dat ++ δ) []
  | [], vs, σ, δ, h, k => by
    rw [RepL_nil] at h
    subst h
    exact k
  | d :: ds, vs, σ, δ, h, k => by
    rw [RepL_cons] at h
    obtain ⟨v, ws, rfl, h1, h2⟩ := h
    exact .dat h1 (SlotsR.front h2 k)
theorem lam_imp {Γ : Ctx} {N : List Str} {n : Nat} {G : SEnv → M D} {ws : List (Option V)} {vs : List V} {H : Hp} {Q : VK} {E : XK} (hN : N.length = n + ws.length) (h : spLam Γ n G ws vs H Q E) : tD Γ (WD E) G (startF N vs ws) H Q := by
  obtain ⟨ds, δw, R, A, r, hn, sl, row, ra, al, sc, sb, h⟩ := h
  have hl := r.length
  have e0 : startF N vs ws = vs.map some ++ ws := by
    unfold startF
    rw [show N.length - vs.length - ws.length = 0 by omega, List.replicate_zero, List.append_nil]
  rw [e0]
  have S : RepS Γ H A (rAddr R) [] R H (vs.map some ++ ws) (ds.map SD.dat ++ δw) := {
    row := row
    ra := ra
    ba := ra
    rb := fun _ h => h
    al := al
    sc := sc
    sb := sb
    ext := .refl
    own := fun p hp => by cases hp
    nd := .nil
    slots := by
      rw [List.append_nil]
      exact SlotsR.front r sl }
  refine ⟨H, A, rAddr R, [], R, _, S, ?_⟩
  rw [List.append_nil]
  exact h
/-! ### calls of what a name holds: a def, or a lambda -/
structure LEnt where
  nm : String
  m : LamF
  cl : List (Str × Addr)
  ps : List Str
  fr : List Str
  js : List Nat
  G : SEnv → M D
abbrev LSem := List (String × Nat × List Nat × (SEnv → M D))
def capD (δ : SEnv) : List Nat → Option SEnv
  | [] => some []
  | j :: js => match δ[j]? with
    | some (.dat d) => (capD δ js).map (.dat d :: ·)
    | some .none => (capD δ js).map (.none :: ·)
    | _ => none
theorem cap_slots {Γ : Ctx} {Hh H : Hp} {σ : L2.St} {δ : SEnv} {P : List Addr} (h : SlotsR Γ Hh H σ δ P) : ∀ {js : List Nat} {δw : SEnv}, capD δ js = some δw → SlotsR Γ Hh H (js.map (slotAt σ)) δw []
  | [], δw, e => by
    cases e
    exact .nil
  | j :: js, δw, e => by
    unfold capD at e
    split at e
    · rename_i d ej
      obtain ⟨δ2, e2, rfl⟩ := Option.map_eq_some_iff.mp e
      obtain ⟨v, g, r⟩ := h.get ej
      rw [List.map_cons, slotAt_of g]
      exact .dat r (cap_slots h e2)
    · obtain ⟨δ2, e2, rfl⟩ := Option.map_eq_some_iff.mp e
      exact .none (cap_slots h e2)
    · cases e
def dHeldL (i : Nat) (tb : FTab) (lt : LSem) (fs : SEnv → M (List D)) : SEnv → M D := fun δ => match δ[i]? with
  | some (.dat (.fn x)) => (match lt.lookup x with
    | some q => fs δ >>= fun ds => if ds.length = q.1 then (match capD δ q.2.1 with
      | some δw => q.2.2 (ds.map SD.dat ++ δw)
      | none => M.stuck) else M.stuck
    | none => dHeld i tb fs δ)
  | _ => M.stuck
/-- what is known of the lambdas' entries -/
structure LEOk (P : Program) (w : World) (K : PySem.W.Frag) (mg : Str → Option Value) (base : Heap) (Γ : Ctx) (k : Nat) (t : LEnt) : Prop where
  lam : Γ.lam t.nm = some t.m
  cl : ∀ c', (t.m c').1.cl = t.cl
  ok : ∀ c', LOk P w K mg base (L2.CX P w) k (t.m c').1 (t.m c').2 t.ps t.fr (spLam Γ t.ps.length t.G)
abbrev LEnt.sem (t : LEnt) : String × Nat × List Nat × (SEnv → M D) := (t.nm, t.ps.length, t.js, t.G)
theorem lsem_of {x : String} {q : Nat × List Nat × (SEnv → M D)} : ∀ {lt : List LEnt}, (lt.map LEnt.sem).lookup x = some q → ∃ t ∈ lt, t.nm = x ∧ q = (t.ps.length, t.js, t.G)
  | [], h => by cases h
  | t :: lt, h => by
    rw [List.map_cons] at h
    show ∃ t' ∈ t :: lt, _
    have h : List.lookup x ((t.nm, t.ps.length, t.js, t.G) :: lt.map LEnt.sem) = some q := h
    rw [List.lookup] at h
    split at h
    · rename_i e
      exact ⟨t, List.mem_cons_self, (beq_iff_eq.mp e).symm, (Option.some.inj h).symm⟩
    · obtain ⟨t', a, b, c⟩ := lsem_of h
      exact ⟨t', List.mem_cons_of_mem _ a, b, c⟩
section
variable {X : Cx} {Γ : Ctx}
theorem lamFn_at {σ : L2.St} {H : Hp} {s : Shared} {pins : List (Addr × Obj)} {f : Addr} {F : NF} {e : Expr} (I : Inv X pins σ H s) (h : H f = some (LamO f F e)) : PySem.W.FnAt f s.heap := by
  obtain ⟨od, sl, pm, ctv, ho⟩ := lamO_at I.hok h
  exact ⟨_, od, _, sl, ho⟩
/-- x(..), x a name that holds a def or a lambda; the lambdas' cells are known from the frame's start -/
theorem run_heldL {k i : Nat} {x : Str} {tb : FTab} {lt : List LEnt} {fs : SEnv → M (List D)} {E : XK} {e : Expr} {es : List Expr} {p pos : Pos} {σ : L2.St} {H : Hp} {s : Shared} {Q : VK} (T : ∀ (y : String) (q : Nat × (List D → M D)), tb.lookup y = some q → Hld X.prog X.w X.K X.mg X.base Γ k y q.1 q.2)
    (TL : ∀ t ∈ lt, LEOk X.prog X.w X.K X.mg X.base Γ k t) (hex : X.ex = []) (CS : ∀ t ∈ lt, CellsAt t.cl t.fr (t.js.map (slotAt σ)) X.s_0.heap X.H_0) (hr : Room k X.A) (tk : Takes X (WD E)) (hN : X.N[i]? = some x) (hv : Vis X.env.scope x) (ha : PA X (e :: es) (tL Γ (WD E) fs))
    (I : Inv X [] σ H s) (h : tD Γ (WD E) (dHeldL i tb (lt.map LEnt.sem) fs) σ H Q)
    (hdb : (x == ("__debug__" : Str)) = false := by decide) (hcd : (x == ("__classdict__" : Str)) = false := by decide) (he : starEach (e :: es) X.env = (false, eval e X.env) :: starEach es X.env := by rfl) (hpl : (backTo pos (starEach es X.env)).any (·.1) = false := by rfl) :
    wpAny (model X.prog X.w) X.A (eval (.Call (.Name x p) (e :: es) [] pos) X.env) (EP X [] σ Q) X.xe s := by
  obtain ⟨H0, A, B, P, R, δ, S, h⟩ := h
  cases e1 : δ[i]? with
  | none => unfold dHeldL at h; rw [e1] at h; exact h.elim
  | some sd =>
  cases sd with
  | none => unfold dHeldL at h; rw [e1] at h; exact h.elim
  | ot _ => unfold dHeldL at h; rw [e1] at h; exact h.elim
  | dat d =>
  cases d with
  | fn y =>
    cases eq : (lt.map LEnt.sem).lookup y with
    | some q =>
      have e2 : dHeldL i tb (lt.map LEnt.sem) fs δ = (fs δ >>= fun ds => if ds.length = q.1 then (match capD δ q.2.1 with
          | some δw => q.2.2 (ds.map SD.dat ++ δw)
          | none => M.stuck) else M.stuck) := by
        unfold dHeldL
        rw [e1]
        simp only [eq]
      rw [e2] at h
      obtain ⟨t, ht, rfl, rfl⟩ := lsem_of eq
      have L := TL t ht
      obtain ⟨v, g1, r1⟩ := S.slots.get e1
      rw [Rep] at r1
      unfold FnR at r1
      rw [L.lam] at r1
      obtain ⟨f, c', rfl, of, oc, hf, hc⟩ := r1
      obtain ⟨nf, hf⟩ := hide_some hf
      obtain ⟨nc, hc⟩ := hide_some hc
      refine wpAny_Call_Name_kw (thn ((pe_var (pos := p) hN hv hdb hcd).run [] s σ H (fun v H1 => v = .ref f ∧ H1 = H) I ⟨.ref f, g1, rfl, rfl⟩) fun u s1 ⟨v, H1, I1, r1, q1⟩ => ?_)
      obtain ⟨ev, eH⟩ := q1
      subst ev
      rw [eH] at I1
      obtain rfl : u = Value.ref f := r1
      have want : tL Γ (WD E) fs σ H fun vs H1 => H1 f = some (LamO f (t.m c').1 (t.m c').2) ∧ H1 (t.m c').1.c = some (LamX.CodeO (t.m c').1.c (t.m c').1.qual) ∧ spLam Γ t.ps.length t.G (t.js.map (slotAt σ)) vs H1 Q E := by
        refine ⟨H0, A, B, P, R, δ, S, go S h fun ds vs R1 H1 m1 r1 S1 h1 => ?_⟩
        split at h1
        · rename_i hn
          cases ec : capD δ t.js with
          | none => simp only [ec] at h1; exact h1.elim
          | some δw =>
            simp only [ec] at h1
            have nb : ∀ {b}, b ∉ A ++ P → b ∉ B := fun n z => n (S.bap _ z)
            refine ⟨m1.ext.ex _ _ (nb nf) of hf, m1.ext.ex _ _ (nb nc) oc hc, ds, δw, R1, A ++ P, r1, hn, cap_slots S1.slots ec, S1.row, fun a ha => List.mem_append_left _ (S1.ra a ha), S1.all, S1.scr, fun z => S1.sb (S1.rb _ z), ?_⟩
            exact Out.run_mono h1 (fun d R2 _ q v H2 m2 r2 => q v H2 ⟨m2.ext.mono S1.rb, m2.row, m2.adr⟩ r2) fun c d R2 _ q v dx H2 m2 hx r2 => q v dx H2 ⟨m2.ext.mono S1.rb, m2.row, m2.adr⟩ hx r2
        · exact h1.elim
      refine PySem.W.callWith_F (first := []) (lamFn_at I1 hf) (thn (ha.run pos [] s1 σ H _ I1 want) fun us s2 ⟨vs, H2, I2, r, h1, h2, q⟩ => ⟨lamFn_at I2 h1, ?_⟩) he hpl
      show wpAny _ _ (call (.ref f) us) _ _ _
      have C2 : CellsAt (t.m c').1.cl t.fr (t.js.map (slotAt σ)) s2.heap H2 := by
        rw [L.cl c']
        have u : Un X.fs [] X.H_0 H2 X.s_0.heap s2.heap := by
          have u := I2.base
          rw [hex] at u
          exact u
        exact cells_un u (CS t ht)
      refine wpAny_call (codeAny_mono ((L.ok c').run f X.A X.stack s2 H2 us vs _ Q E hr I2.env0 h1 h2 C2 r q) fun r s' hq => ?_)
      cases r with
      | error ev => exact passAt tk σ [] H2 s2 ev s' I2 hq
      | ok fl =>
        cases fl with
        | ret u => exact I2.after hq
        | next => exact False.elim hq
        | brk => exact False.elim hq
        | cont => exact False.elim hq
    | none =>
      have e2 : dHeldL i tb (lt.map LEnt.sem) fs δ = dHeld i tb fs δ := by
        unfold dHeldL
        rw [e1]
        simp only [eq]
      rw [e2] at h
      exact (pd_held (p := p) (pos := pos) T hr tk hN hv ha hdb hcd he hpl).run [] s σ H Q I ⟨H0, A, B, P, R, δ, S, h⟩
  | _ => unfold dHeldL at h; rw [e1] at h; exact h.elim
end
/-! ### handed over: lambda: x(..), x a name that holds a def or a lambda -/
section
open PyProof.Rows LamX
variable {X : Cx} {pins : List (Addr × Obj)} {σ : L2.St} {H : Hp} {s : Shared}
theorem pe_act2 {CS : Heap → Hp → Prop} {CXg : CXT} {Eg : XK} {Ng : List Str} {qg : Str} {sg : Scope} {g f c' : Addr} {cdg pm ctv : Value} {params : Arguments} {body : Expr} {scope : Scope} {k i : Nat} {a : Str} {pn : List (Addr × Obj)} {xe : Value → Shared → Prop} {W : WX} {E : XK} {tb : TE} {p1 p2 : Pos}
    (I : Inv X pins σ H s) (L : LamS X.env.scope scope) (isF : s.heap.get? f = some (lamOb X params body scope pm c' ctv)) (fF : H f = none) (frF : f ∉ frs X.stack)
    (hbind : bindArgs (PySem.W.kla_fn "<lambda>" (lamN X) params body scope (cloFrom X.env.cells scope.names []) pm (.ref c') ctv) ⟨[], []⟩ = pure [])
    (tk : Takes ((cxOf CXg X.prog X.w X.K X.mg X.base Ng qg sg g cdg X.A X.stack s H Eg).tr pn xe) W) (hW : ∀ cls d σ' H', E cls d H' → W cls d σ' H') (hr : Room (k + 1) (X.A.deeper (envOfC qg sg s.heap.objs.size g cdg)))
    (hcs : ∀ {H' : Hp} {h' : Heap}, Un (frs X.stack) [] H H' s.heap h' → CS h' H')
    (hbody : ∀ (A : Around) (outer : List Env) (s1 : Shared) (H1 : Hp) (s2 : Shared) (Q : VK), CS s1.heap H1 → Room k (A.deeper (lamEnv X scope s1.heap.objs.size f c')) → Inv (lamCx X A outer s1 H1 E scope f c') [] σ H1 s2 → tb σ H1 Q →
      wpAny (model X.prog X.w) (lamCx X A outer s1 H1 E scope f c').A (eval body (lamCx X A outer s1 H1 E scope f c').env) (EP (lamCx X A outer s1 H1 E scope f c') [] σ Q) (lamCx X A outer s1 H1 E scope f c').xe s2)
    (hN : Ng[i]? = some a) (hv : Vis sg a) (db1 : (a == ("__debug__" : Str)) = false) (db2 : (a == ("__classdict__" : Str)) = false) :
    PE ((cxOf CXg X.prog X.w X.K X.mg X.base Ng qg sg g cdg X.A X.stack s H Eg).tr pn xe) (.Call (.Name a p1) [] [] p2)
      (fun σZ HZ Q => σZ[i]? = some (some (.ref f)) ∧ HZ c' = some (CodeO c' (lamN X)) ∧ tb σ HZ Q) := by
  refine ⟨fun pinsZ sZ σZ HZ Q IZ want => ?_⟩
  obtain ⟨at_i, isC, wish⟩ := want
  refine wpAny_Call_Name_kw (thn ((pe_var (pos := p1) (i := i) hN hv db1 db2).run pinsZ sZ σZ HZ (fun v G => v = .ref f ∧ G = HZ) IZ ⟨.ref f, at_i, rfl, rfl⟩) fun u s1 ⟨v, G, J, rv, e1, e2⟩ => ?_)
  subst e1 e2
  obtain rfl : u = Value.ref f := rv
  have un : Un (frs X.stack) [] H G s.heap s1.heap := J.base
  have now : s1.heap.get? f = some (lamOb X params body scope pm c' ctv) := un.keep f _ isF fF frF (by simp)
  refine PySem.W.callWith_F0 ⟨_, _, _, _, now⟩ ?_
  obtain ⟨⟨oc, fields, t, hoc, hdata, hname⟩, _, _⟩ := J.hok c' _ isC
  have runs : codeAny (model X.prog X.w) (X.A.deeper (envOfC qg sg s.heap.objs.size g cdg)) (.call (.ref f) ⟨[], []⟩) (CR (L2.CX X.prog X.w) (envOfC qg sg s.heap.objs.size g cdg :: X.stack) X.prog X.w G s1 Q E) s1 := by
    refine PySem.W.kla_callFunE hr.depth now rfl L.co L.gen rfl ⟨c', oc, fields, t, rfl, hoc, hdata, hname⟩ ?_
    rw [hbind]
    refine wpAny_pure (wpAny_newFunctionEnv (fun y hy => (L.own y hy).2) (fun y hy => absurd hy (by simp)) (fun h₁ hns hsb => ⟨J.nolimit.fresh _ hsb, ?_⟩) L.kind)
    have keep : ∀ b o, s1.heap.get? b = some o → h₁.get? b = some o := fun b o e => hsb.extBut b o (Nat.ne_of_lt (Heap.lt_size e)) (Heap.get?_push_of_some _ e)
    have J2 : Inv (lamCx X (X.A.deeper (envOfC qg sg s.heap.objs.size g cdg)) (envOfC qg sg s.heap.objs.size g cdg :: X.stack) s1 G E scope f c') [] σ G { s1 with heap := h₁, toks := s1.toks + ([] : List (Str × Value)).length } := lam_start2 I L J.env0 hr.hd un hns keep
    refine PySem.W.kla_codeExpr (wpAny_mono (hbody _ _ s1 G _ Q (hcs un) (hr.deeper _) J2 wish) (fun v s' got => ?_) fun e s' z => z)
    obtain ⟨w', H', J3, r3, q⟩ := got
    exact ⟨w', H', J3.os, J3.bare, J3.base, J3.hok, r3, q⟩
  have out : Passes (L2.CX X.prog X.w) ((cxOf CXg X.prog X.w X.K X.mg X.base Ng qg sg g cdg X.A X.stack s H Eg).tr pn xe) E := passes_call tk hW
  refine wpAny_call (codeAny_mono runs fun res s' got => ?_)
  cases res with
  | error ev => exact out pinsZ σZ G s1 ev s' J got
  | ok fl =>
    cases fl with
    | ret u => exact J.after got
    | next => exact False.elim got
    | brk => exact False.elim got
    | cont => exact False.elim got
end
section
variable {X : Cx} {Γ : Ctx} {W : WX}
theorem pe_lamD2 {CS : L2.St → Heap → Hp → Prop} {TT : (XK → Hp → VK → Prop) → Hp → VK → Prop} {x a : Str} {g cd tab : Addr} {k : Nat} {pg params : Arguments} {bg : List Stmt} {sg scope : Scope} {gd : FuncData} {Ng : List Str} {body : Expr} {t : XK → TE} {p lpos pos : Pos} (hg : Gl X x) (hm : X.mg x = some (.ref g)) (FD : FunD X.K x x pg bg sg [] [] g gd)
    (Sg : FnScope Ng [a] sg) (hb : L2.Binds X.K gd [a] []) (h0 : Ng[0]? = some a) (va : Vis sg a) (gives : ∀ cdg, LamX.GivesTo X Ng x sg g cdg bg a (lamN X) TT)
    (TB : LamX.TabB X.base X.mg cd tab) (hcd : X.env.code = .ref cd) (hin : (tab, lamN X) ∈ Γ.tabs) (honly : ∀ p ∈ Γ.tabs, p.1 = tab → p.2 = lamN X) (hr : Room (k + 2) X.A) (L : LamX.LamS X.env.scope scope) (hdef : defaultsOf params X.env = ([], []))
    (hbind : ∀ (q : Str) (cl : List (Str × Addr)) (pm cv ctv : Value), bindArgs (PySem.W.kla_fn "<lambda>" q params body scope cl pm cv ctv) ⟨[], []⟩ = pure [])
    (init : ∀ {pins : List (Addr × Obj)} {σ : L2.St} {H : Hp} {s : Shared}, Inv X pins σ H s → CS σ s.heap H) (hcs : ∀ {σ : L2.St} {H H' : Hp} {h h' : Heap}, Un (frs X.stack) [] H H' h h' → CS σ h H → CS σ h' H')
    (hbody : ∀ (A : Around) (outer : List Env) (s : Shared) (H : Hp) (E : XK) (f c' : Addr) (σ : L2.St) (s2 : Shared) (Q : VK), CS σ s.heap H → Room k (A.deeper (LamX.lamEnv X scope s.heap.objs.size f c')) → Inv (LamX.lamCx X A outer s H E scope f c') [] σ H s2 → t E σ H Q →
      wpAny (model X.prog X.w) (LamX.lamCx X A outer s H E scope f c').A (eval body (LamX.lamCx X A outer s H E scope f c').env) (EP (LamX.lamCx X A outer s H E scope f c') [] σ Q) (LamX.lamCx X A outer s H E scope f c').xe s2)
    (db1 : (x == ("__debug__" : Str)) = false := by decide) (db2 : (a == ("__debug__" : Str)) = false := by decide) (db3 : (a == ("__classdict__" : Str)) = false := by decide) :
    PE X (.Call (.Name x p) [.Lambda params body scope lpos] [] pos) (tLamD Γ TT t) := by
  obtain ⟨oc, od, dV, kV, doc, pm0, an, cdv, ct, osl, rfl, lk, hcg, _, _⟩ := FD.ex
  refine ⟨fun pins s σ H Q I want => ?_⟩
  obtain ⟨htabs, want⟩ := want
  refine wpAny_Call_Name_kw (ld_glob I hg hm ?_ db1)
  refine PySem.W.callWith_K (h₀ := X.base) I.ok.mod.kin FD.kp ?_ (by rfl) (by rfl)
  show wpAny _ _ (spliced ((false, eval (.Lambda params body scope lpos) X.env) :: backTo pos (starEach [] X.env))) _ _ s
  refine Calls.spliced_cons (lam_new I TB hcd hin honly htabs hdef (L.has I.ok) fun f c' pm ctv H1 s1 J grow al tabs1 _ isF fF frF isC => ?_)
  refine Calls.spliced_nil ⟨J.kIn, ?_⟩
  have runs : codeAny (model X.prog X.w) X.A (.call (.ref g) ⟨[.ref f], []⟩) (CR C8.CX0 X.stack X.prog X.w H1 s1 Q C8.E0) s1 := by
    refine LamX.run_ofS (N := Ng) (ps := [a]) (us := [.ref f]) (vs := [.ref f]) lk hcg Sg hr J.env0 (hb s1 [.ref f] J.kIn rfl) (.cons rfl .nil) rfl fun hr2 => ?_
    obtain ⟨t', ht', hq'⟩ := gives cdv f c' s1 H1 Q (fun E H' Q' => t E σ H' Q') (fun W pn xe E p1 p2 tk hW => pe_act2 (CS := CS σ) (i := 0) J L isF fF frF (hbind _ _ _ _ _) tk hW hr2 (fun un => hcs un (init J)) (fun A outer s H s2 Q c hr3 I2 tt => hbody A outer s H E f c' σ s2 Q c hr3 I2 tt) h0 va db2 db3) isC (want H1 ⟨grow, al, tabs1⟩)
    exact ⟨t', ht'.nox, hq'⟩
  refine wpAny_call (codeAny_mono runs fun res s2 got => ?_)
  cases res with
  | error ev => exact (show False from got).elim
  | ok fl =>
    cases fl with
    | ret u => exact J.after got
    | next => exact False.elim got
    | brk => exact False.elim got
    | cont => exact False.elim got
theorem pd_refL {k i : Nat} {st : Stmt} {ws : List (String × Str)} {x : Str} {tb : FTab} {lt : List LEnt} {fs : SEnv → M (List D)} {e : Expr} {es : List Expr} {cd tab : Addr} {params : Arguments} {scope : Scope} {p lpos pos p2 pos2 : Pos} (FI : FnI X.K X.mg "_law_refused" st) (Sg : FnScope ["ask", "e"] ["ask"] (defScope st)) (va : Vis (defScope st) "ask")
    (hb : ∀ {g : Addr} {gd : FuncData}, FunD X.K "_law_refused" "_law_refused" (defArgs st) (defBody st) (defScope st) [] [] g gd → L2.Binds X.K gd ["ask"] [])
    (gives : ∀ g cdg, LamX.GivesTo X ["ask", "e"] "_law_refused" (defScope st) g cdg (defBody st) "ask" (lamN X) (TTref X.K (ws.map fun p => (Γ.cls p.1, p.2))))
    (hex : ∀ c, (ws.lookup c).isSome = true → ∀ p ∈ ws, PySem.W.exmOne X.K (.ref (Γ.cls c)) (.ref (Γ.cls p.1)) = some (decide (c = p.1)))
    (TB : LamX.TabB X.base X.mg cd tab) (hcd : X.env.code = .ref cd) (hin : (tab, lamN X) ∈ Γ.tabs) (honly : ∀ p ∈ Γ.tabs, p.1 = tab → p.2 = lamN X) (hr : Room (k + 2) X.A) (L : LamX.LamS X.env.scope scope)
    (T : ∀ (y : String) (q : Nat × (List D → M D)), tb.lookup y = some q → Hld X.prog X.w X.K X.mg X.base Γ k y q.1 q.2) (TL : ∀ t ∈ lt, LEOk X.prog X.w X.K X.mg X.base Γ k t) (caps : ∀ t ∈ lt, X.Ok → Caps X t.cl t.fr t.js) (hN : X.N[i]? = some x) (hv : Vis scope x)
    (ha : ∀ (A : Around) (outer : List Env) (s : Shared) (H : Hp) (E : XK) (f c' : Addr), Room k (A.deeper (LamX.lamEnv X scope s.heap.objs.size f c')) → PA (LamX.lamCx X A outer s H E scope f c') (e :: es) (tL Γ (WD E) fs))
    (he : ∀ env, starEach (e :: es) env = (false, eval e env) :: starEach es env := by intros; rfl) (hpl : ∀ env, (backTo pos2 (starEach es env)).any (·.1) = false := by intros; rfl)
    (hdb : (x == ("__debug__" : Str)) = false := by decide) (hcdb : (x == ("__classdict__" : Str)) = false := by decide)
    (hdef : defaultsOf params X.env = ([], []) := by rfl) (hbind : ∀ (q : Str) (cl : List (Str × Addr)) (pm cv ctv : Value), bindArgs (PySem.W.kla_fn "<lambda>" q params (.Call (.Name x p2) (e :: es) [] pos2) scope cl pm cv ctv) ⟨[], []⟩ = pure [] := by intros; rfl) (hg : Gl X "_law_refused" := by rfl) :
    PE X (.Call (.Name "_law_refused" p) [.Lambda params (.Call (.Name x p2) (e :: es) [] pos2) scope lpos] [] pos) (tD Γ W (dRef ws (dHeldL i tb (lt.map LEnt.sem) fs))) := by
  obtain ⟨g, gd, FD, gx⟩ := FI.ex
  refine (pe_lamD2 (CS := fun σ h H => ∀ t ∈ lt, CellsAt t.cl t.fr (t.js.map (slotAt σ)) h H) (t := fun E => tD Γ (WD E) (dHeldL i tb (lt.map LEnt.sem) fs)) hg gx FD Sg (hb FD) rfl va (gives g) TB hcd hin honly hr L hdef hbind (fun I t ht => cells_of I (caps t ht I.ok)) (fun u c t ht => cells_un u (c t ht)) ?_).imp fun _ _ _ h => ref_imp hex h
  intro A outer s H E f c' σ s2 Q c hr2 I2 want
  exact run_heldL (X := LamX.lamCx X A outer s H E scope f c') T TL rfl c hr2 takes_lam hN hv (ha A outer s H E f c' hr2) I2 want hdb hcdb (he _) (hpl _)
end
end DL

set_option Elab.async false
set_option linter.all false
set_option maxRecDepth 100000
set_option maxHeartbeats 2000000
namespace DL
open PySem PySem.Spec L2
/-! ### dicts as data -/
def keyOf (n : Bool) (d : D) : Option NestedKey :=
  if n then (match d with
    | .tup ds => (nkD (.tup ds)).bind fun k => if k.depth ≤ 8 then some k else none
    | _ => none)
  else (match d with
    | .int i => some (.num i)
    | .str x => some (.text x)
    | _ => none)
def dLook (k : NestedKey) : List D → List D → Option D
  | d :: ks, v :: vs => if nkD d = some k then some v else dLook k ks vs
  | _, _ => none
def dHas (k : NestedKey) (ks : List D) : Bool := ks.any fun d => decide (nkD d = some k)
def dSetV (k : NestedKey) (w : D) : List D → List D → List D
  | d :: ks, v :: vs => (if nkD d = some k then w else v) :: dSetV k w ks vs
  | _, _ => []
def dPutK (k : NestedKey) (kd : D) (ks : List D) : List D := if dHas k ks then ks else ks ++ [kd]
def dPutV (k : NestedKey) (w : D) (ks vs : List D) : List D := if dHas k ks then dSetV k w ks vs else vs ++ [w]
/-- what stands at p -/
def DctAt (Γ : Ctx) (Hh H : Hp) (p : Addr) (n : Bool) (ks us : List D) : Prop := match n with
  | true => ∃ xs : List NEnt, H p = some (dN Γ.wd p xs) ∧ RepL Γ Hh ks (xs.map fun x => .ref x.2.1) ∧ RepL Γ Hh us (xs.map fun x => x.2.2) ∧ ks.map nkD = xs.map fun x => some x.1
  | false => ∃ kvs : List (Key × V), H p = some (.dK kvs) ∧ RepL Γ Hh us (kvs.map (·.2)) ∧ ks.map fkD = kvs.map fun x => some x.1
theorem own_dct {Γ : Ctx} {Hh H : Hp} {n : Bool} {ks us : List D} {p : Addr} {Ps : List Addr} : Own Γ Hh H (.dct n ks us) p Ps ↔ Ps = [p] ∧ DctAt Γ Hh H p n ks us := by cases n <;> rfl
theorem Rep.dct_at {Γ : Ctx} {A : List Addr} {H : Hp} {n : Bool} {ks us : List D} {v : V} (r : Rep Γ (hide A H) (.dct n ks us) v) : ∃ p, v = .ref p ∧ DctAt Γ (hide A H) H p n ks us := by
  rw [Rep] at r
  obtain ⟨p, rfl, r⟩ := r
  cases n with
  | true =>
    obtain ⟨_, xs, h1, h2⟩ := r
    exact ⟨p, rfl, xs, (hide_some h1).2, h2⟩
  | false =>
    obtain ⟨kvs, h1, h2⟩ := r
    exact ⟨p, rfl, kvs, (hide_some h1).2, h2⟩
section
variable {Γ : Ctx} {Hh H : Hp}
theorem look_t {k : NestedKey} : ∀ {xs : List NEnt} {ks us : List D}, RepL Γ Hh us (xs.map fun x => x.2.2) → ks.map nkD = xs.map (fun x => some x.1) → match dLook k ks us with
    | none => valN xs k = none
    | some d => ∃ v, valN xs k = some v ∧ Rep Γ Hh d v
  | [], ks, us, r, e => by
    have : ks = [] := by simpa using e
    subst this
    exact valN_nil
  | x :: xs, ks, us, r, e => by
    cases ks with
    | nil => simp at e
    | cons d ks =>
      cases us with
      | nil => rw [RepL_nil] at r; simp at r
      | cons u us =>
        rw [List.map_cons, RepL_cons] at r
        obtain ⟨v, ws, ev, r1, r2⟩ := r
        simp only [List.cons.injEq] at ev
        obtain ⟨rfl, rfl⟩ := ev
        simp only [List.map_cons, List.cons.injEq] at e
        have ih := look_t (k := k) r2 e.2
        rw [dLook, valN_cons, e.1]
        by_cases z : x.1 = k
        · rw [if_pos (by rw [z]), if_pos z]
          exact ⟨_, rfl, r1⟩
        · rw [if_neg (fun y => z (Option.some.inj y)), if_neg z]
          exact ih
def nkK : Key → NestedKey
  | .inl i => .num i
  | .inr x => .text x
theorem nkK_inj {a b : Key} (h : nkK a = nkK b) : a = b := by
  cases a <;> cases b <;> simp [nkK] at h <;> rw [h]
theorem fk_nk {d : D} {k : Key} (h : fkD d = some k) : nkD d = some (nkK k) := by
  cases d <;> simp [fkD] at h <;> (subst h; simp [nkD, nkK])
theorem look_f {k : Key} : ∀ {kvs : List (Key × V)} {ks us : List D}, RepL Γ Hh us (kvs.map fun x => x.2) → ks.map fkD = kvs.map (fun x => some x.1) → match dLook (nkK k) ks us with
    | none => valV kvs k = none
    | some d => ∃ v, valV kvs k = some v ∧ Rep Γ Hh d v
  | [], ks, us, r, e => by
    have : ks = [] := by simpa using e
    subst this
    exact valV_nil
  | x :: xs, ks, us, r, e => by
    cases ks with
    | nil => simp at e
    | cons d ks =>
      cases us with
      | nil => rw [RepL_nil] at r; simp at r
      | cons u us =>
        rw [List.map_cons, RepL_cons] at r
        obtain ⟨v, ws, ev, r1, r2⟩ := r
        simp only [List.cons.injEq] at ev
        obtain ⟨rfl, rfl⟩ := ev
        simp only [List.map_cons, List.cons.injEq] at e
        have ih := look_f (k := k) r2 e.2
        rw [dLook, fk_nk e.1]
        by_cases z : x.1 = k
        · rw [if_pos (by rw [z]), valV_pos z]
          exact ⟨_, rfl, r1⟩
        · rw [if_neg (fun y => z (nkK_inj (Option.some.inj y))), valV_neg z]
          exact ih
theorem has_t {k : NestedKey} : ∀ {xs : List NEnt} {ks : List D}, ks.map nkD = xs.map (fun x => some x.1) → dHas k ks = (valN xs k).isSome
  | [], ks, e => by
    have : ks = [] := by simpa using e
    subst this
    rfl
  | x :: xs, ks, e => by
    cases ks with
    | nil => simp at e
    | cons d ks =>
      simp only [List.map_cons, List.cons.injEq] at e
      have ih := has_t (k := k) e.2
      unfold dHas at ih ⊢
      rw [List.any_cons, e.1, valN_cons, ih]
      by_cases z : x.1 = k
      · rw [if_pos z, decide_eq_true (by rw [z])]; rfl
      · rw [if_neg z, decide_eq_false (fun y => z (Option.some.inj y)), Bool.false_or]
theorem has_f {k : Key} : ∀ {kvs : List (Key × V)} {ks : List D}, ks.map fkD = kvs.map (fun x => some x.1) → dHas (nkK k) ks = (valV kvs k).isSome
  | [], ks, e => by
    have : ks = [] := by simpa using e
    subst this
    rfl
  | x :: xs, ks, e => by
    cases ks with
    | nil => simp at e
    | cons d ks =>
      simp only [List.map_cons, List.cons.injEq] at e
      have ih := has_f (k := k) e.2
      unfold dHas at ih ⊢
      rw [List.any_cons, fk_nk e.1, ih]
      by_cases z : x.1 = k
      · rw [valV_pos z, decide_eq_true (by rw [z])]; rfl
      · rw [valV_neg z, decide_eq_false (fun y => z (nkK_inj (Option.some.inj y))), Bool.false_or]
theorem setV_t {k : NestedKey} {w : D} {v : V} (rw_ : Rep Γ Hh w v) : ∀ {xs : List NEnt} {ks us : List D}, RepL Γ Hh us (xs.map fun x => x.2.2) → ks.map nkD = xs.map (fun x => some x.1) → RepL Γ Hh (dSetV k w ks us) ((xs.map fun x => if x.1 = k then (x.1, x.2.1, v) else x).map fun x => x.2.2)
  | [], ks, us, r, e => by
    have : ks = [] := by simpa using e
    subst this
    exact RepL_nil.mpr rfl
  | x :: xs, ks, us, r, e => by
    cases ks with
    | nil => simp at e
    | cons d ks =>
      cases us with
      | nil => rw [RepL_nil] at r; simp at r
      | cons u us =>
        rw [List.map_cons, RepL_cons] at r
        obtain ⟨v', ws, ev, r1, r2⟩ := r
        simp only [List.cons.injEq] at ev
        obtain ⟨rfl, rfl⟩ := ev
        simp only [List.map_cons, List.cons.injEq] at e
        have ih := setV_t (k := k) rw_ r2 e.2
        rw [dSetV, List.map_cons, List.map_cons, e.1, RepL_cons]
        refine ⟨_, _, rfl, ?_, ih⟩
        by_cases z : x.1 = k
        · rw [if_pos (by rw [z]), if_pos z]; exact rw_
        · rw [if_neg (fun y => z (Option.some.inj y)), if_neg z]; exact r1
theorem setV_f {k : Key} {w : D} {v : V} (rw_ : Rep Γ Hh w v) : ∀ {kvs : List (Key × V)} {ks us : List D}, RepL Γ Hh us (kvs.map fun x => x.2) → ks.map fkD = kvs.map (fun x => some x.1) → RepL Γ Hh (dSetV (nkK k) w ks us) ((kvs.map fun kv => if kv.1 = k then (kv.1, v) else kv).map fun x => x.2)
  | [], ks, us, r, e => by
    have : ks = [] := by simpa using e
    subst this
    exact RepL_nil.mpr rfl
  | x :: xs, ks, us, r, e => by
    cases ks with
    | nil => simp at e
    | cons d ks =>
      cases us with
      | nil => rw [RepL_nil] at r; simp at r
      | cons u us =>
        rw [List.map_cons, RepL_cons] at r
        obtain ⟨v', ws, ev, r1, r2⟩ := r
        simp only [List.cons.injEq] at ev
        obtain ⟨rfl, rfl⟩ := ev
        simp only [List.map_cons, List.cons.injEq] at e
        have ih := setV_f (k := k) rw_ r2 e.2
        rw [dSetV, List.map_cons, List.map_cons, fk_nk e.1, RepL_cons]
        refine ⟨_, _, rfl, ?_, ih⟩
        by_cases z : x.1 = k
        · rw [if_pos (by rw [z]), if_pos z]; exact rw_
        · rw [if_neg (fun y => z (nkK_inj (Option.some.inj y))), if_neg z]; exact r1
end
section
variable {Γ : Ctx} {A : List Addr} {H : Hp} {p : Addr} {n : Bool} {ks us : List D} {kd d : D} {y v : V} {k : NestedKey}
theorem keys_at : ∀ {xs : List NEnt} {ks : List D}, RepL Γ (hide A H) ks (xs.map fun x => .ref x.2.1) → ks.map nkD = xs.map (fun x => some x.1) → KeysAt H xs
  | [], _, _, _ => fun x hx => by cases hx
  | x :: xs, ks, r, e => by
    cases ks with
    | nil => simp at e
    | cons d ks =>
      rw [List.map_cons, RepL_cons] at r
      obtain ⟨v', ws, ev, r1, r2⟩ := r
      simp only [List.cons.injEq] at ev
      obtain ⟨rfl, rfl⟩ := ev
      simp only [List.map_cons, List.cons.injEq] at e
      intro z hz
      rcases List.mem_cons.mp hz with q | q
      · rw [q]; exact Rep.keyV d r1 e.1
      · exact keys_at r2 e.2 z q
theorem key_t (h : keyOf true kd = some k) (r : Rep Γ (hide A H) kd y) : ∃ b, y = .ref b ∧ KeyV H k (.ref b) ∧ k.depth ≤ 8 ∧ nkD kd = some k := by
  unfold keyOf at h
  simp only [if_true] at h
  cases kd <;> simp only at h <;> try (cases h)
  rename_i ds
  obtain ⟨k', e1, e2⟩ := Option.bind_eq_some_iff.mp h
  split at e2
  · rename_i hd
    cases e2
    obtain ⟨b, xs, rfl, h1, h2, _⟩ := r.tup_at
    exact ⟨b, rfl, Rep.keyV _ r e1, hd, e1⟩
  · cases e2
theorem key_f (h : keyOf false kd = some k) (r : Rep Γ (hide A H) kd y) : ∃ c, k = nkK c ∧ y = kV c ∧ fkD kd = some c := by
  unfold keyOf at h
  simp only [Bool.false_eq_true, if_false] at h
  cases kd <;> simp only [Option.some.injEq] at h <;> try (cases h)
  · exact ⟨.inl _, rfl, r.int_eq, rfl⟩
  · exact ⟨.inr _, rfl, r.str_eq, rfl⟩
theorem dct_get (h : DctAt Γ (hide A H) H p n ks us) (r : Rep Γ (hide A H) kd y) (hk : keyOf n kd = some k) : ∃ o, AGet Γ.wd H p y o ∧ match dLook k ks us with
    | none => o = none
    | some d => ∃ v, o = some v ∧ Rep Γ (hide A H) d v := by
  cases n with
  | true =>
    obtain ⟨xs, h1, h2, h3, h4⟩ := h
    obtain ⟨b, rfl, k1, k2, _⟩ := key_t hk r
    exact ⟨_, .inr ⟨xs, k, b, h1, keys_at h2 h4, rfl, k1, k2, rfl⟩, look_t h3 h4⟩
  | false =>
    obtain ⟨kvs, h1, h3, h4⟩ := h
    obtain ⟨c, rfl, rfl, _⟩ := key_f hk r
    exact ⟨_, .inl (.k h1), look_f h3 h4⟩
theorem dct_len (h : DctAt Γ (hide A H) H p n ks us) : ks.length = us.length := by
  cases n with
  | true =>
    obtain ⟨xs, h1, h2, h3, h4⟩ := h
    have := congrArg List.length h4
    have l3 := h3.length
    simp only [List.length_map] at this l3
    omega
  | false =>
    obtain ⟨kvs, h1, h3, h4⟩ := h
    have := congrArg List.length h4
    have l3 := h3.length
    simp only [List.length_map] at this l3
    omega
theorem dct_put (h : DctAt Γ (hide A H) H p n ks us) (r : Rep Γ (hide A H) kd y) (hk : keyOf n kd = some k) (rv : Rep Γ (hide A H) d v) (hl : ks.length < sizeLine) : ∃ o', nx o' ∧ (∀ C dx fs, o' ≠ .ins C dx fs) ∧ APut Γ.wd H p y v (upd H p o') ∧ DctAt Γ (hide A H) (upd H p o') p n (dPutK k kd ks) (dPutV k d ks us) := by
  cases n with
  | true =>
    obtain ⟨xs, h1, h2, h3, h4⟩ := h
    obtain ⟨b, rfl, k1, k2, k3⟩ := key_t hk r
    have lx : xs.length < sizeLine := by
      have := congrArg List.length h4
      simp only [List.length_map] at this
      omega
    refine ⟨dN Γ.wd p (putN xs k b v), dN_ne_code, (fun _ _ _ z => by unfold dN at z; cases z), .inr ⟨xs, k, b, h1, keys_at h2 h4, rfl, k1, k2, lx, rfl⟩, putN xs k b v, upd_same, ?_⟩
    unfold dPutK dPutV putN
    rw [has_t h4]
    by_cases z : (valN xs k).isSome = true
    · rw [if_pos z, if_pos z, if_pos z]
      refine ⟨?_, setV_t rv h3 h4, ?_⟩
      · rw [List.map_map]
        have e : ((fun x : NEnt => V.ref x.2.1) ∘ fun x : NEnt => if x.1 = k then (x.1, x.2.1, v) else x) = fun x : NEnt => V.ref x.2.1 := by
          funext x
          show V.ref (if x.1 = k then (x.1, x.2.1, v) else x).2.1 = V.ref x.2.1
          split <;> rfl
        rw [e]; exact h2
      · rw [List.map_map, h4]
        refine List.map_congr_left fun x _ => ?_
        show some x.1 = some (if x.1 = k then (x.1, x.2.1, v) else x).1
        split <;> rfl
    · rw [if_neg z, if_neg z, if_neg z]
      refine ⟨?_, ?_, ?_⟩
      · rw [List.map_append]; exact h2.append (RepL.one r)
      · rw [List.map_append]; exact h3.append (RepL.one rv)
      · rw [List.map_append, List.map_append, h4]
        simp [k3]
  | false =>
    obtain ⟨kvs, h1, h3, h4⟩ := h
    obtain ⟨c, rfl, rfl, k3⟩ := key_f hk r
    have lx : kvs.length < sizeLine := by
      have := congrArg List.length h4
      simp only [List.length_map] at this
      omega
    refine ⟨.dK (putK kvs c v), nx_dK, (fun _ _ _ z => by cases z), .inl (.k h1 lx), putK kvs c v, upd_same, ?_⟩
    unfold dPutK dPutV putK
    rw [has_f h4, valV_any]
    by_cases z : (valV kvs c).isSome = true
    · rw [if_pos z, if_pos z, if_pos z]
      refine ⟨setV_f rv h3 h4, ?_⟩
      rw [List.map_map, h4]
      refine List.map_congr_left fun x _ => ?_
      show some x.1 = some (if x.1 = c then (x.1, v) else x).1
      split <;> rfl
    · rw [if_neg z, if_neg z, if_neg z]
      refine ⟨?_, ?_⟩
      · rw [List.map_append]; exact h3.append (RepL.one rv)
      · rw [List.map_append, List.map_append, h4]
        simp [k3]
end
/-! ### rules: a dict of one's own in a slot -/
section
variable {Γ : Ctx} {W : WX} {X : Cx} {e ek ed : Expr} {fk fd fe : SEnv → M D} {pos p p1 p2 p3 pos' : Pos} {i : Nat} {x : Str}
/-- {} -/
theorem pf_dic (n : Bool) (hw : Γ.wd = X.w) : PE X (.Dict [] [] pos) (tOT Γ W fun _ => pure (.dct n [] [])) := by
  cases n with
  | true =>
    refine pe_dnewN.imp fun σ H Q h => ?_
    obtain ⟨H0, A, B, P, R, δ, S, h⟩ := h
    intro q hq
    refine h q [q] _ (.grow S.row (grow_new hq (fun _ _ _ z => by unfold dN at z; cases z))) (fun z hz => by rw [List.mem_singleton.mp hz]; exact hq) (by simp) ⟨rfl, [], ?_, RepL_nil.mpr rfl, RepL_nil.mpr rfl, rfl⟩
    rw [upd_same, hw]
  | false =>
    refine pe_dnewK.imp fun σ H Q h => ?_
    obtain ⟨H0, A, B, P, R, δ, S, h⟩ := h
    intro q hq
    exact h q [q] _ (.grow S.row (grow_new hq)) (fun z hz => by rw [List.mem_singleton.mp hz]; exact hq) (by simp) ⟨rfl, [], upd_same, RepL_nil.mpr rfl, rfl⟩
def ownHas (δ : SEnv) (i : Nat) (kd : D) : Option Bool := match δ[i]? with
  | some (.ot (.dct n ks us)) => (keyOf n kd).map fun k => (dLook k ks us).isSome
  | _ => none
/-- k in x, k not in x -/
def dInO (neg : Bool) (i : Nat) (fk : SEnv → M D) : SEnv → M D := fun δ => fk δ >>= fun kd => M.lift ((ownHas δ i kd).map fun b => .bl (b != neg))
theorem S_dct {H0 H : Hp} {A B P : List Addr} {R : Option Rw} {σ : L2.St} {δ : SEnv} {n : Bool} {ks us : List D} (S : RepS Γ H0 A B P R H σ δ) (e : δ[i]? = some (.ot (.dct n ks us))) : ∃ q, σ[i]? = some (some (.ref q)) ∧ DctAt Γ (hide (A ++ P) H) H q n ks us := by
  obtain ⟨q, Ps, h1, h2, _⟩ := S.slots.getOt e
  exact ⟨q, h1, (own_dct.mp h2).2⟩
theorem inO_imp (neg : Bool) (hw : Γ.wd = X.w) {σ : L2.St} {H : Hp} {Q : VK} (h : tD Γ W (dInO neg i fk) σ H Q) : (if neg then tANotIn X.w (tD Γ W fk) (tVar i) else tAIn X.w (tD Γ W fk) (tVar i)) σ H Q := by
  obtain ⟨H0, A, B, P, R, δ, S, h⟩ := h
  have main : (fk δ R).run (KK Γ B A P (Rep Γ) R H fun y H1 => tVar i σ H1 fun x H2 => ∃ a o, x = .ref a ∧ AGet X.w H2 a y o ∧ Q (.bl (o.isSome != neg)) H2) (KE Γ W B A P σ R H) := by
    refine go S h fun kd y R1 H1 m r S1 h1 => ?_
    obtain ⟨d, ed, q⟩ := lift_out S1 h1
    obtain ⟨b, eb, rfl⟩ := Option.map_eq_some_iff.mp ed
    unfold ownHas at eb
    split at eb
    · rename_i n ks us e1
      obtain ⟨k, ek, rfl⟩ := Option.map_eq_some_iff.mp eb
      obtain ⟨a, g1, da⟩ := S_dct S1 e1
      obtain ⟨o, g2, g3⟩ := dct_get da r ek
      refine ⟨.ref a, g1, a, o, rfl, by rw [← hw]; exact g2, q _ H1 .refl ?_⟩
      have : o.isSome = (dLook k ks us).isSome := by
        cases e2 : dLook k ks us with
        | none => rw [e2] at g3; rw [show o = none from g3]; rfl
        | some d' => rw [e2] at g3; obtain ⟨v, rfl, _⟩ := g3; rfl
      rw [this]
      exact Rep.of_bl
    · cases eb
  cases neg with
  | true =>
    refine ⟨H0, A, B, P, R, δ, S, Out.run_mono main (fun kd R1 _ q y H1 m r => ?_) fun c d R1 _ q => q⟩
    obtain ⟨x, g1, a, o, rfl, g2, g3⟩ := q y H1 m r
    refine ⟨_, g1, a, o, rfl, g2, ?_⟩
    have : (o.isSome != true) = !o.isSome := by cases o <;> rfl
    rw [this] at g3
    exact g3
  | false =>
    refine ⟨H0, A, B, P, R, δ, S, Out.run_mono main (fun kd R1 _ q y H1 m r => ?_) fun c d R1 _ q => q⟩
    obtain ⟨x, g1, a, o, rfl, g2, g3⟩ := q y H1 m r
    refine ⟨_, g1, a, o, rfl, g2, ?_⟩
    have : (o.isSome != false) = o.isSome := by cases o <;> rfl
    rw [this] at g3
    exact g3
theorem pd_notInO (hw : Γ.wd = X.w) (hu : X.A.units + 65 < cLine) (hk : PE X ek (tD Γ W fk)) (hN : X.N[i]? = some x) (hv : Vis X.env.scope x) (hd : (x == ("__debug__" : Str)) = false := by decide) (hcd : (x == ("__classdict__" : Str)) = false := by decide)
    (hm : behindInMarks .NotIn (.Name x p1) = false := by first | exact nobehind _ (by decide) (by decide) | rfl) : PE X (.Compare ek [.NotIn] [.Name x p1] pos) (tD Γ W (dInO true i fk)) :=
  (pe_cmp (pc_anotin hu hk (pe_var hN hv hd hcd)) hm).imp fun _ _ _ h => inO_imp true hw h
theorem pdt_notInO (hw : Γ.wd = X.w) (hu : X.A.units + 65 < cLine) (hk : PE X ek (tD Γ W fk)) (hN : X.N[i]? = some x) (hv : Vis X.env.scope x) (hd : (x == ("__debug__" : Str)) = false := by decide) (hcd : (x == ("__classdict__" : Str)) = false := by decide)
    (hm : behindInMarks .NotIn (.Name x p1) = false := by first | exact nobehind _ (by decide) (by decide) | rfl) : PT X (.Compare ek [.NotIn] [.Name x p1] pos) (tB Γ W (dB (dInO true i fk))) :=
  (pt_cmp (pc_anotin hu hk (pe_var hN hv hd hcd)) hm).imp fun _ _ _ h => inO_imp true hw (test_imp h)
end
end DL

set_option Elab.async false
set_option linter.all false
set_option maxRecDepth 100000
set_option maxHeartbeats 2000000
namespace DL
open PySem PySem.Spec L2
section
variable {Γ : Ctx} {W : WX} {X : Cx} {e ek : Expr} {es : List Expr} {fk fe : SEnv → M D} {fs : SEnv → M (List D)} {pos p p1 p2 p3 pos' : Pos} {i j : Nat} {x y : Str}
/-! ### x[k] = e, x a dict of one's own -/
def sDPut (i : Nat) (fk fe : SEnv → M D) : SM := fun δ R => match δ[i]? with
  | some (.ot (.dct n ks us)) => sBind fe (fun d => sBind fk fun kd δ R => match keyOf n kd with
    | some k => if ks.length < sizeLine then .nx (δ.set i (.ot (.dct n (dPutK k kd ks) (dPutV k d ks us)))) R else .stuck
    | none => .stuck) δ R
  | _ => .stuck
theorem ds_dput (hw : Γ.wd = X.w) (hu : X.A.units + 65 < cLine) (hN : X.N[i]? = some x) (hv : Vis X.env.scope x) (hk : PE X ek (tD Γ W fk)) (he : PE X e (tD Γ W fe)) (hd : (x == ("__debug__" : Str)) = false := by decide) (hcd : (x == ("__classdict__" : Str)) = false := by decide)
    (hs : swapsWith e (some (.Subscript (.Name x p) ek pos')) pos.line X.env = pure false := by rfl) : PS X (.Assign [.Subscript (.Name x p) ek pos'] e pos) (tS Γ W (sDPut i fk fe)) :=
  (ps_aput hu (pe_var hN hv hd hcd) hk he hs).imp fun Dn σ H h => by
  obtain ⟨H0, A, B, P, R, δ, S, h⟩ := h
  unfold sDPut at h
  split at h
  · rename_i n ks us e1
    refine ⟨H0, A, B, P, R, δ, S, sgo S h fun d v R1 H1 m r S1 h1 => ?_⟩
    obtain ⟨q, g1, _⟩ := S_dct S1 e1
    refine ⟨.ref q, g1, H0, A, B, P, R1, δ, S1, sgo S1 h1 fun kd vk R2 H2 m2 r2 S2 h2 => ?_⟩
    split at h2
    · rename_i k ek
      split at h2
      · rename_i hl
        obtain ⟨q', Ps, f1, ow, f3, f4⟩ := S2.mutG e1
        rw [g1] at f1
        have eq : q' = q := by injection (Option.some.inj (Option.some.inj f1)).symm
        subst eq
        obtain ⟨rfl, da⟩ := own_dct.mp ow
        obtain ⟨o', n1, n2, ap, da'⟩ := dct_put da r2 ek (Rep.keep (S1.keeps m2) _ r) hl
        obtain ⟨S3, st⟩ := f4 q' o' (.dct n (dPutK k kd ks) (dPutV k d ks us)) List.mem_cons_self n1 n2 (own_dct.mpr ⟨rfl, da'⟩)
        exact ⟨q', _, rfl, by rw [← hw]; exact ap, h2 σ _ P st S3⟩
      · exact h2.elim
    · exact h2.elim
  · exact h.elim
/-! ### y = x.pop(), x a list of one's own -/
def sPop (j i : Nat) : SM := fun δ R => match δ[i]? with
  | some (.ot (.lst ds)) => (match ds.getLast? with
    | some d => .nx ((δ.set i (.own ds.dropLast)).set j (.dat d)) R
    | none => .stuck)
  | _ => .stuck
theorem RepL.dropLast {H : Hp} {ds : List D} {vs : List V} (r : RepL Γ H ds vs) : RepL Γ H ds.dropLast vs.dropLast := by
  rw [List.dropLast_eq_take, List.dropLast_eq_take, r.length]
  exact r.take _
theorem ds_pop {apos : Pos} (hN : X.N.Nodup) (hj : X.N[j]? = some y) (hy : Loc X.env.scope y) (hi : X.N[i]? = some x) (hv : Vis X.env.scope x) (hd : (x == ("__debug__" : Str)) = false := by decide) (hcd : (x == ("__classdict__" : Str)) = false := by decide)
    (hbase : attributeBase (.Name x p) "pop" X.env (eval (.Name x p) X.env) = eval (.Name x p) X.env := by rfl) (hline : (apos.endLine == p1.line) = true := by rfl)
    (hs : swapsWith (.Call (.Attribute (.Name x p) "pop" apos) [] [] p1) (some (.Name y pos')) pos.line X.env = pure false := by rfl) (hf : X.fn y = true ∨ X.env.scope.names.lookup y = some .local := by first | exact .inl rfl | exact .inr rfl | assumption) :
    PS X (.Assign [.Name y pos'] (.Call (.Attribute (.Name x p) "pop" apos) [] [] p1) pos) (tS Γ W (sPop j i)) :=
  (ps_set hN hj hy (pe_bm0 PySem.F.plainAttrs_list PySem.F.slot_list_pop PySem.F.type_list_pop mt_pop (pe_var hi hv hd hcd) hbase hline) hs hf).imp fun Dn σ H h => by
  obtain ⟨H0, A, B, P, R, δ, S, h⟩ := h
  unfold sPop at h
  split at h
  · rename_i ds e1
    split at h
    · rename_i d ed
      obtain ⟨q, vs, f1, f2, f3, f4⟩ := S.slots.getOwn e1
      obtain ⟨S2, st⟩ := S.mut (ys := vs.dropLast) (ds' := ds.dropLast) e1 f1 f4 f2 f3.dropLast
      rw [List.getLast?_eq_getElem?] at ed
      obtain ⟨v, ev, rv⟩ := f3.get ed
      have rv2 : Rep Γ (hide (A ++ P) (upd H q (.lst vs.dropLast))) d v := by rw [hide_upd (List.mem_append_right _ f4)]; exact rv
      obtain ⟨P', S3, sub⟩ := S2.set rv2 j
      exact ⟨.ref q, f1, .inl ⟨rfl, _, SqL.of f2⟩, q, vs, v, rfl, rfl, f2, by rw [f3.length]; exact ev, h _ _ P' (st.trans (Stp.sub .refl sub)) S3⟩
    · exact h.elim
  · exact h.elim
/-! ### x.extend(e), x a list of one's own -/
def sExt (i : Nat) (fe : SEnv → M D) : SM := fun δ R => match δ[i]? with
  | some (.ot (.lst ds)) => sBind fe (fun d δ R => match d with
    | .lst es => if ds.length + es.length ≤ sizeLine then .nx (δ.set i (.own (ds ++ es))) R else .stuck
    | _ => .stuck) δ R
  | _ => .stuck
theorem ds_ext {apos : Pos} (hN : X.N[i]? = some x) (hv : Vis X.env.scope x) (he : PE X e (tD Γ W fe)) (hd : (x == ("__debug__" : Str)) = false := by decide) (hcd : (x == ("__classdict__" : Str)) = false := by decide)
    (hbase : attributeBase (.Name x p) "extend" X.env (eval (.Name x p) X.env) = eval (.Name x p) X.env := by rfl)
    (hfew : ((backTo pos (starEach [e] X.env)).all (fun x => !x.1) && (backToKw pos (keywordEach [] X.env)).all (fun x => x.1.isSome) && decide ([e].length + ([] : List Keyword).length + (if ([] : List Keyword).isEmpty then 0 else 1) < 30)) = true := by rfl)
    (hline : (apos.endLine == pos.line) = true := by rfl) (hs : starEach [e] X.env = (false, eval e X.env) :: starEach [] X.env := by rfl) (hpl : (backTo pos (starEach [] X.env)).any (·.1) = false := by rfl)
    (hsw : swapsWith (.Call (.Attribute (.Name x p) "extend" apos) [e] [] pos) none p3.line X.env = pure false := by rfl) :
    PS X (.Expr (.Call (.Attribute (.Name x p) "extend" apos) [e] [] pos) p3) (tS Γ W (sExt i fe)) :=
  (ps_expr (pe_bm PySem.F.plainAttrs_list PySem.F.slot_list_extend PySem.F.type_list_extend mt_extend (pe_var hN hv hd hcd) (pa_cons he pa_nil hs) hbase hfew hline hs hpl) hsw).imp fun Dn σ H h => by
    obtain ⟨H0, A, B, P, R, δ, S, h⟩ := h
    unfold sExt at h
    split at h
    · rename_i ds e1
      obtain ⟨q, vs, f1, f2, f3, f4⟩ := S.slots.getOwn e1
      refine ⟨.ref q, f1, .inl ⟨rfl, _, SqL.of f2⟩, H0, A, B, P, R, δ, S, sgo S h fun d vd R1 H1 m r S1 h1 => ?_⟩
      split at h1
      · rename_i es
        split at h1
        · rename_i hl
          obtain ⟨q', vs', g1, g2, g3, g4⟩ := S1.slots.getOwn e1
          rw [f1] at g1
          have eq : q' = q := by injection (Option.some.inj (Option.some.inj g1)).symm
          subst eq
          obtain ⟨b, zs, rfl, b1, b2, _⟩ := r.lst_at
          obtain ⟨S2, st⟩ := S1.mut e1 f1 g4 g2 (g3.append b2)
          exact ⟨q', b, vs', zs, rfl, rfl, g2, b1, by rw [g3.length, b2.length]; exact hl, h1 σ _ P st S2⟩
        · exact h1.elim
      · exact h1.elim
    · exact h.elim
/-! ### sorted(x), x a dict of one's own with numbers as keys -/
def keysI : List D → Option (List Int)
  | [] => some []
  | .int i :: ds => (keysI ds).map (i :: ·)
  | _ => none
theorem keysI_of : ∀ {kvs : List (Key × V)} {ks : List D} {ns : List Int}, ks.map fkD = kvs.map (fun x => some x.1) → keysI ks = some ns → kvs.map (·.1) = ns.map Sum.inl
  | [], ks, ns, e, h => by
    have : ks = [] := by simpa using e
    subst this
    simp [keysI] at h
    rw [h]; rfl
  | q :: kvs, ks, ns, e, h => by
    cases ks with
    | nil => simp at e
    | cons d ks =>
      simp only [List.map_cons, List.cons.injEq] at e
      cases d <;> simp only [keysI] at h <;> try (cases h)
      obtain ⟨ms, h1, rfl⟩ := Option.map_eq_some_iff.mp h
      have e1 : some (Sum.inl _ : Key) = some q.1 := e.1
      rw [List.map_cons, List.map_cons, keysI_of e.2 h1, ← Option.some.inj e1]
def dSortO (i : Nat) : SEnv → M D := fun δ => match δ[i]? with
  | some (.ot (.dct false ks _)) => M.lift ((keysI ks).bind fun ns => if ns.length < 64 then some (.lst ((srt ns).map .int)) else none)
  | _ => M.stuck
theorem pd_sortO (hc : X.calm = true) (hN : X.N[i]? = some x) (hv : Vis X.env.scope x) (hm : X.mg "sorted" = none) (hg : Gl X "sorted" := by rfl) (hd : (x == ("__debug__" : Str)) = false := by decide) (hcd : (x == ("__classdict__" : Str)) = false := by decide)
    (he : starEach [.Name x p1] X.env = (false, eval (.Name x p1) X.env) :: starEach [] X.env := by rfl) (hpl : (backTo pos (starEach [] X.env)).any (·.1) = false := by rfl) :
    PE X (.Call (.Name "sorted" p) [.Name x p1] [] pos) (tD Γ W (dSortO i)) :=
  (pe_callB (call_sortedDI hc) hg hm (by decide +kernel) (pa_cons (pe_var hN hv hd hcd) pa_nil he) (by decide) (by decide) he hpl).imp fun σ H Q h => by
  obtain ⟨H0, A, B, P, R, δ, S, h⟩ := h
  unfold dSortO at h
  cases e1 : δ[i]? with
  | none => rw [e1] at h; exact h.elim
  | some sd =>
  cases sd with
  | none => rw [e1] at h; exact h.elim
  | dat _ => rw [e1] at h; exact h.elim
  | ot t =>
  cases t with
  | lst _ => rw [e1] at h; exact h.elim
  | mat _ => rw [e1] at h; exact h.elim
  | dct n ks us =>
  cases n with
  | true => rw [e1] at h; exact h.elim
  | false =>
    rw [e1] at h
    obtain ⟨q, g1, kvs, d1, d2, d3⟩ := S_dct S e1
    obtain ⟨d, ed, qq⟩ := lift_out S h
    obtain ⟨ns, en, e2⟩ := Option.bind_eq_some_iff.mp ed
    split at e2
    · rename_i hl
      cases e2
      refine ⟨.ref q, g1, q, kvs, ns, rfl, .inl d1, keysI_of d3 en, hl, fun ys a pm so ha => ?_⟩
      rw [srt_eq pm so]
      exact qq _ _ (grow_new ha) (Rep.new_lst S.all ha (repL_ints _))
    · cases e2
/-! ### ranges -/
theorem cr_range1 : CallR X (.type "range") (fun vs H Q => ∃ j, vs = [V.int j] ∧ ∀ p, H p = none → Q (.ref p) (upd H p (.rng 0 j))) := by
  intro pins s σ H vs us Q I r h
  obtain ⟨j, rfl, q⟩ := h
  obtain ⟨u1, rfl, ri⟩ := vals1 r
  obtain ⟨t, rfl⟩ := ri
  refine call_range_1 ⟨.ref s.heap.objs.size, upd H s.heap.objs.size (.rng 0 j), I.laid (t' := s.toks + 2) (fun b o e => Heap.get?_push_of_some _ e) (Nat.le_refl _) ?_, rfl, q _ (I.hok.fresh (Nat.le_refl _))⟩
  exact ⟨_, _, _, Heap.get?_push_size _ rfl⟩
def fRng : List D → Option D
  | [.int j] => some (.rng 0 j)
  | _ => none
theorem cd_rng : CallD Γ (fun vs H Q => ∃ j, vs = [V.int j] ∧ ∀ p, H p = none → Q (.ref p) (upd H p (.rng 0 j))) fRng := fun A H xs as d Q al r e q => by
  unfold fRng at e
  split at e
  · obtain ⟨v, rfl, r1⟩ := r.one_inv
    cases e
    refine ⟨_, by rw [r1.int_eq], fun a ha => q _ _ (grow_new ha) ?_⟩
    rw [Rep]
    exact ⟨a, rfl, by rw [hide_out (all_out al ha), upd_same]⟩
  · cases e
def rngL : D → Option (List D)
  | .rng lo hi => if -(2 ^ 62) ≤ lo ∧ lo < 2 ^ 62 ∧ -(2 ^ 62) ≤ hi ∧ hi < 2 ^ 62 then some (rangeD lo (hi - lo).toNat) else none
  | _ => none
def iRngV (fe : SEnv → M D) : SEnv → M (List D) := fun δ => fe δ >>= fun x => M.lift (rngL x)
theorem pi_rngv {tg l : Expr} {tl : TE} (hl : PE X l tl) : PI X tg l (fun σ H K => tl σ H fun x H1 => ∃ a lo hi, x = .ref a ∧ H1 a = some (.rng lo hi) ∧ -(2 ^ 62) ≤ lo ∧ lo < 2 ^ 62 ∧ -(2 ^ 62) ≤ hi ∧ hi < 2 ^ 62 ∧ K (Itr lo (hi - lo).toNat) H1) := by
  refine ⟨fun pins s σ H K I h => ?_⟩
  refine thn (hl.run pins s σ H _ I h) fun v s1 ⟨x, H1, I1, r1, q1⟩ => ?_
  obtain ⟨a, lo, hi, rfl, e, h1, h2, h3, h4, q⟩ := q1
  cases r1
  obtain ⟨t, u, v, eo⟩ := I1.hok a _ e
  refine wpAny_pyIter_range (show IsRange s1.heap a lo hi 1 t u v from eo) (small_one h1 h2 h3 h4) ?_
  refine ⟨s1.heap.objs.size, [s1.heap.objs.size], _, _, H1, rfl, I1.kept (t' := s1.toks) fun b o e => Heap.get?_push_of_some _ e, turn_range _ lo (hi - lo).toNat, ?_, fun b hb => ?_, q⟩
  · have e1 : lo + ((0 : Nat) : Int) * 1 = lo := by simp
    have e2 : (((hi - lo).toNat : Nat) : Int) - ((0 : Nat) : Int) = Builtin.Range.rangeSize lo hi 1 := by rw [rangeSize_one]; split <;> omega
    show IsRangeIter _ _ (lo + ((0 : Nat) : Int) * 1) ((((hi - lo).toNat : Nat) : Int) - ((0 : Nat) : Int)) 1
    rw [e1, e2]
    exact Heap.get?_push_size _ rfl
  · have e : b = s1.heap.objs.size := by simpa using hb
    subst e
    exact I1.fpOk (Nat.le_refl _) (I1.hok.fresh (Nat.le_refl _))
theorem di_rngv {tg : Expr} (he : PE X e (tD Γ W fe)) : PI X tg e (iD Γ W (iRngV fe)) := (pi_rngv he).imp fun σ H K h => by
  obtain ⟨H0, A, B, P, R, δ, S, h⟩ := h
  refine ⟨H0, A, B, P, R, δ, S, igo (γ := Nat) S h fun x vx R1 H1 m r S1 h1 => ?_⟩
  obtain ⟨ds, e1, q⟩ := ilift h1 S1.row
  cases x <;> simp only [rngL] at e1 <;> try (cases e1)
  rename_i lo hi
  split at e1
  · rename_i hb
    cases e1
    rw [Rep] at r
    obtain ⟨a, rfl, ha⟩ := r
    exact ⟨a, lo, hi, rfl, (hide_some ha).2, hb.1, hb.2.1, hb.2.2.1, hb.2.2.2, q _ dw_range⟩
  · cases e1
end
end DL

set_option Elab.async false
set_option linter.all false
set_option maxRecDepth 100000
set_option maxHeartbeats 2000000
namespace DL
open PySem PySem.Spec L2
open PySem.W (EachIs AllAlike Sortable dataLe dataLt alike alikeAll AlikeAll minD)
/-! ### sorted of data of any depth -/
def leD (a b : D) : Bool := !dataLt (toPy b) (toPy a)
def alikeL (ds : List D) : Bool := ds.all fun a => ds.all fun b => alike (toPy a) (toPy b)
def tup1 : D → Bool
  | .tup (_ :: _) => true
  | _ => false
def noTN : D → Bool
  | .bl _ | .int _ | .str _ | .lst _ => true
  | _ => false
def deepL (ds : List D) : Bool := ds.all fun d => decide ((toPy d).depth ≤ 40)
def canSort (ds : List D) : Bool := alikeL ds && (ds.all tup1 || ds.all noTN) && deepL ds && shwDs ds && decide (ds.length ≤ sizeLine)
def fSortD : List D → Option D
  | [.lst ds] => if canSort ds then some (.lst (ds.mergeSort leD)) else none
  | _ => none
def rSortD (Γ : Ctx) : List V → Hp → VK → Prop := fun vs H Q => ∃ (A : List Addr) (a : Addr) (xs : List V) (ds : List D), vs = [V.ref a] ∧ H a = some (.lst xs) ∧ RepL Γ (hide A H) ds xs ∧ canSort ds = true ∧
  ∀ (ys : List V) (p : Addr), H p = none → RepL Γ (hide A H) (ds.mergeSort leD) ys → Q (.ref p) (upd H p (.lst ys))
section
variable {Γ : Ctx} {A : List Addr} {X : Cx} {pins : List (Addr × Obj)} {σ : L2.St} {H : Hp} {s : Shared}
theorem shwDs_mem : ∀ {ds : List D}, shwDs ds = true → ∀ d ∈ ds, shwD d = true
  | [], _, d, h => nomatch h
  | e :: ds, hs, d, h => by
    rw [shwDs, Bool.and_eq_true] at hs
    rcases List.mem_cons.mp h with z | z
    · rw [z]; exact hs.1
    · exact shwDs_mem hs.2 d z
theorem each_pairs (I : Inv X pins σ H s) : ∀ {ds : List D} {xs : List V} {us : List Value}, RepL Γ (hide A H) ds xs → Vals xs us → shwDs ds = true → EachIs (fun u (p : V × D) => RelV p.1 u ∧ Rep Γ (hide A H) p.2 p.1) us (xs.zip ds) ∧ EachIs (fun u (p : V × D) => ∃ as, Reads s.heap u (toPy p.2) as) us (xs.zip ds)
  | [], xs, us, r, v, _ => by
    rw [RepL_nil] at r
    subst r
    cases v
    exact ⟨.nil, .nil⟩
  | d :: ds, xs, us, r, v, hs => by
    rw [RepL_cons] at r
    obtain ⟨x, ws, rfl, r1, r2⟩ := r
    rw [shwDs, Bool.and_eq_true] at hs
    cases v with
    | cons v1 v2 =>
      obtain ⟨h1, h2⟩ := each_pairs I r2 v2 hs.2
      obtain ⟨as, ra, _⟩ := Rep.reads I d x _ r1 v1 hs.1
      exact ⟨.cons ⟨v1, r1⟩ h1, .cons ⟨as, ra⟩ h2⟩
theorem each_back : ∀ {us : List Value} {ps : List (V × D)}, EachIs (fun u (p : V × D) => RelV p.1 u ∧ Rep Γ (hide A H) p.2 p.1) us ps → Vals (ps.map (·.1)) us ∧ RepL Γ (hide A H) (ps.map (·.2)) (ps.map (·.1))
  | _, _, .nil => ⟨.nil, RepL_nil.mpr rfl⟩
  | _, _, .cons h t => by
    obtain ⟨h1, h2⟩ := each_back t
    exact ⟨.cons h.1 h1, RepL_cons.mpr ⟨_, _, rfl, h.2, h2⟩⟩
theorem zip_snd {xs : List V} {ds : List D} (h : xs.length = ds.length) : (xs.zip ds).map (·.2) = ds := by
  rw [← List.unzip_snd, List.unzip_zip h]
theorem cr_sortD (hu : X.A.units + 65 < cLine) : CallR X (.builtin "sorted") (rSortD Γ) := by
  intro pins s σ H vs us Q I r h
  obtain ⟨A, a, xs, ds, rfl, ha, hr, hc, q⟩ := h
  rw [Vals.ref1 r]
  obtain ⟨its, rv, hl, hz⟩ := I.list (SqL.of ha)
  unfold canSort at hc
  simp only [Bool.and_eq_true, Bool.or_eq_true, decide_eq_true_eq] at hc
  obtain ⟨⟨⟨⟨h1, h2⟩, h3⟩, h4⟩, h5⟩ := hc
  have lx : xs.length = ds.length := hr.length
  obtain ⟨e1, e2⟩ := each_pairs I hr rv h4
  have hmap : (xs.zip ds).map (fun p : V × D => toPy p.2) = ds.map toPy := by
    rw [show (fun p : V × D => toPy p.2) = toPy ∘ (·.2) from rfl, ← List.map_map, zip_snd lx]
  have lz : (xs.zip ds).length = ds.length := by rw [List.length_zip, lx, Nat.min_self]
  have un : ∀ d ∈ ds, (toPy d).depth ≤ 40 := fun d hd => of_decide_eq_true (List.all_eq_true.mp h3 d hd)
  have room : X.A.units + 42 < cLine := by omega
  refine PySem.W.sorted_data (R := fun u (p : V × D) => RelV p.1 u ∧ Rep Γ (hide A H) p.2 p.1) (enc := fun p : V × D => toPy p.2) (bs := xs.zip ds) hl.isList e1 e2 ?_ ?_ (by rw [lz]; exact h5) (fun b hb => ?_) fun out lo eo => ?_
  · rw [hmap]
    intro d hd d' hd'
    obtain ⟨b, hb, rfl⟩ := List.mem_map.mp hd
    obtain ⟨b', hb', rfl⟩ := List.mem_map.mp hd'
    exact List.all_eq_true.mp (List.all_eq_true.mp h1 b hb) b' hb'
  · rw [hmap]
    rcases h2 with h2 | h2
    · refine .inl fun d hd => ?_
      obtain ⟨b, hb, rfl⟩ := List.mem_map.mp hd
      have := List.all_eq_true.mp h2 b hb
      cases b <;> simp only [tup1] at this <;> try (cases this)
      rename_i cs
      cases cs with
      | nil => cases this
      | cons c cs => exact ⟨_, _, by rw [toPy, toPys]⟩
    · refine .inr fun d hd => ?_
      obtain ⟨b, hb, rfl⟩ := List.mem_map.mp hd
      have := List.all_eq_true.mp h2 b hb
      cases b <;> simp only [noTN] at this <;> try (cases this)
      all_goals exact ⟨(by rw [toPy]; intro z; cases z), (fun xs z => by rw [toPy] at z; cases z)⟩
  · have := un b.2 (List.of_mem_zip hb).2
    show X.A.units + 2 + (toPy b.2).depth < cLine
    omega
  · obtain ⟨v1, v2⟩ := each_back eo
    have es : ((xs.zip ds).mergeSort (dataLe false fun p : V × D => toPy p.2)).map (·.2) = ds.mergeSort leD := by
      rw [List.map_mergeSort (r := dataLe false fun p : V × D => toPy p.2) (s := leD) (f := fun p : V × D => p.2) (l := xs.zip ds) (fun a _ b _ => rfl), zip_snd lx]
    rw [es] at v2
    obtain ⟨ep, he⟩ := PyProof.Rows.sortedAll_at s.heap its out.toArray
    refine ⟨.ref _, upd H (s.heap.objs.size + 1) (.lst _), I.laid (t' := s.toks) (fun _ _ => PyProof.Rows.sortedAll_old) (Nat.le_succ _) ⟨?_, out, ep, v1, he⟩, rfl, q _ _ (I.hok.fresh (Nat.le_succ _)) v2⟩
    rw [v1.length, lo, lz]
    exact h5
theorem cd_sortD {K : PySem.W.Frag} : CallD Γ (rSortD Γ) fSortD := fun A H xs as d Q al r e q => by
  unfold fSortD at e
  split at e
  · split at e
    · rename_i hc
      cases e
      obtain ⟨v, rfl, r1⟩ := r.one_inv
      obtain ⟨p, ys, rfl, h1, h2, _⟩ := r1.lst_at
      exact ⟨A, p, ys, _, rfl, h1, h2, hc, fun zs a ha rz => q _ _ (grow_new ha) (Rep.new_lst al ha rz)⟩
    · cases e
  · cases e
end
/-! ### min of data of any depth -/
mutual
theorem toPy_inj : ∀ (a b : D), isPd a = true → isPd b = true → toPy a = toPy b → a = b
  | .non, b, _, hb, h => by cases b <;> simp [isPd] at hb <;> simp [toPy] at h <;> rfl
  | .bl _, b, _, hb, h => by cases b <;> simp [isPd] at hb <;> simp [toPy] at h; rw [h]
  | .int _, b, _, hb, h => by cases b <;> simp [isPd] at hb <;> simp [toPy] at h; rw [h]
  | .str _, b, _, hb, h => by cases b <;> simp [isPd] at hb <;> simp [toPy] at h; rw [h]
  | .lst xs, b, ha, hb, h => by
    cases b <;> simp [isPd] at hb <;> simp [toPy] at h
    rw [toPys_inj xs _ (by rw [isPd] at ha; exact ha) hb h]
  | .tup xs, b, ha, hb, h => by
    cases b <;> simp [isPd] at hb <;> simp [toPy] at h
    rw [toPys_inj xs _ (by rw [isPd] at ha; exact ha) hb h]
  | .dic, _, ha, _, _ => by simp [isPd] at ha
  | .rng _ _, _, ha, _, _ => by simp [isPd] at ha
  | .dct _ _ _, _, ha, _, _ => by simp [isPd] at ha
  | .web _ _, _, ha, _, _ => by simp [isPd] at ha
  | .row _, _, ha, _, _ => by simp [isPd] at ha
  | .fn _, _, ha, _, _ => by simp [isPd] at ha
theorem toPys_inj : ∀ (as bs : List D), isPds as = true → isPds bs = true → toPys as = toPys bs → as = bs
  | [], [], _, _, _ => rfl
  | [], _ :: _, _, _, h => by simp [toPys] at h
  | _ :: _, [], _, _, h => by simp [toPys] at h
  | a :: as, b :: bs, ha, hb, h => by
    rw [isPds, Bool.and_eq_true] at ha hb
    simp only [toPys, List.cons.injEq] at h
    rw [toPy_inj a b ha.1 hb.1 h.1, toPys_inj as bs ha.2 hb.2 h.2]
end
def minDs : D → List D → D
  | a, [] => a
  | a, b :: r => minDs (if dataLt (toPy b) (toPy a) then b else a) r
theorem minDs_py : ∀ (a : D) (r : List D), toPy (minDs a r) = minD (toPy a) (r.map toPy)
  | a, [] => rfl
  | a, b :: r => by
    rw [minDs, minDs_py]
    unfold minD
    rw [List.map_cons, List.foldl_cons]
    congr 1
    split <;> rfl
theorem minDs_mem : ∀ (a : D) (r : List D), minDs a r ∈ a :: r
  | a, [] => by simp [minDs]
  | a, b :: r => by
    rw [minDs]
    have := minDs_mem (if dataLt (toPy b) (toPy a) then b else a) r
    rcases List.mem_cons.mp this with z | z
    · rw [z]
      split
      · exact List.mem_cons_of_mem _ List.mem_cons_self
      · exact List.mem_cons_self
    · exact List.mem_cons_of_mem _ (List.mem_cons_of_mem _ z)
def canMin (ds : List D) : Bool := alikeL ds && deepL ds && shwDs ds && isPds ds && ds.all (fun d => match d with | .non => false | _ => true)
def fMinD : List D → Option D
  | [.lst (d :: ds)] => if canMin (d :: ds) then some (minDs d ds) else none
  | _ => none
def rMinD (Γ : Ctx) : List V → Hp → VK → Prop := fun vs H Q => ∃ (A : List Addr) (a : Addr) (xs : List V) (d : D) (ds : List D), vs = [V.ref a] ∧ H a = some (.lst xs) ∧ RepL Γ (hide A H) (d :: ds) xs ∧ canMin (d :: ds) = true ∧ ∀ v, Rep Γ (hide A H) (minDs d ds) v → Q v H
theorem isPds_mem : ∀ {ds : List D}, isPds ds = true → ∀ d ∈ ds, isPd d = true
  | [], _, d, h => nomatch h
  | e :: ds, hs, d, h => by
    rw [isPds, Bool.and_eq_true] at hs
    rcases List.mem_cons.mp h with z | z
    · rw [z]; exact hs.1
    · exact isPds_mem hs.2 d z
theorem toPys_map : ∀ ds : List D, toPys ds = ds.map toPy
  | [] => by rw [toPys]; rfl
  | d :: ds => by rw [toPys, toPys_map ds]; rfl
theorem depthAll_le {ds : List D} (h : deepL ds = true) : PyData.depthAll (ds.map toPy) ≤ 40 := by
  induction ds with
  | nil => simp [PyData.depthAll]
  | cons d ds ih =>
    unfold deepL at h ih
    rw [List.all_cons, Bool.and_eq_true, decide_eq_true_eq] at h
    have := ih h.2
    simp only [List.map_cons, PyData.depthAll]
    omega
section
variable {Γ : Ctx} {A : List Addr} {X : Cx}
theorem cr_minD (hc : X.calm = true) (hu : X.A.units + 65 < cLine) : CallR X (.builtin "min") (rMinD Γ) := by
  intro pins s σ H vs us Q I r h
  obtain ⟨A, a, xs, d, ds, rfl, ha, hr, hcm, q⟩ := h
  rw [Vals.ref1 r]
  obtain ⟨its, rv, hl, hz⟩ := I.list (SqL.of ha)
  unfold canMin at hcm
  simp only [Bool.and_eq_true] at hcm
  obtain ⟨⟨⟨⟨h1, h3⟩, h4⟩, h5⟩, h6⟩ := hcm
  obtain ⟨as, ra, _⟩ := RepL.reads I (d :: ds) xs its hr rv h4
  rw [toPys_map, List.map_cons] at ra
  have hall : AlikeAll (toPy d :: ds.map toPy) := by
    refine ⟨fun x hx y hy => ?_, fun x hx => ?_⟩
    · rw [← List.map_cons] at hx hy
      obtain ⟨b, hb, rfl⟩ := List.mem_map.mp hx
      obtain ⟨b', hb', rfl⟩ := List.mem_map.mp hy
      exact List.all_eq_true.mp (List.all_eq_true.mp h1 b hb) b' hb'
    · rw [← List.map_cons] at hx
      obtain ⟨b, hb, rfl⟩ := List.mem_map.mp hx
      have p := isPds_mem h5 b hb
      have n := List.all_eq_true.mp h6 b hb
      cases b <;> simp [isPd] at p <;> simp at n <;> (rw [toPy]; intro z; cases z)
  refine PySem.W.min_list_data (I.ok.hd hc) (show s.heap.IsList a its.toArray from hl.isList) (by simpa using ra) hall ?_ fun i u h' tk bs hi rd kp => ?_
  · have := depthAll_le h3
    rw [List.map_cons] at this
    omega
  · have hi' : its[i]? = some u := by simpa using hi
    obtain ⟨x, ex⟩ : ∃ x, xs[i]? = some x := by
      have hlt := (List.getElem?_eq_some_iff.mp hi').1
      rw [← rv.length] at hlt
      exact ⟨xs[i], List.getElem?_eq_getElem hlt⟩
    obtain ⟨u', eu, ru⟩ := rv.get ex
    rw [hi'] at eu
    cases eu
    obtain ⟨e, ee, re⟩ := hr.getV ex
    have em : e ∈ d :: ds := List.mem_of_getElem? ee
    have pe := isPds_mem h5 e em
    have pm := isPds_mem h5 _ (minDs_mem d ds)
    obtain ⟨as', rd', _⟩ := Rep.reads I e x u re ru (shwDs_mem h4 e em)
    have al : alike (toPy e) (minD (toPy d) (ds.map toPy)) = true := by
      rw [← minDs_py]
      exact List.all_eq_true.mp (List.all_eq_true.mp h1 e em) _ (minDs_mem d ds)
    have eq := PySem.W.alike_unique _ _ u as' bs al (PyProof.Rows.Reads.keeps kp rd') rd
    rw [← minDs_py] at eq
    have := toPy_inj e _ pe pm eq
    subst this
    exact ⟨x, H, I.kept (t' := tk) kp, ru, q x re⟩
theorem cd_minD : CallD Γ (rMinD Γ) fMinD := fun A H xs as d Q al r e q => by
  unfold fMinD at e
  split at e
  · split at e
    · rename_i hc
      cases e
      obtain ⟨v, rfl, r1⟩ := r.one_inv
      obtain ⟨p, ys, rfl, h1, h2, _⟩ := r1.lst_at
      exact ⟨A, p, ys, _, _, rfl, h1, h2, hc, fun v rv => q v H .refl rv⟩
    · cases e
  · cases e
end
end DL

set_option Elab.async false
set_option linter.all false
set_option maxRecDepth 100000
set_option maxHeartbeats 4000000
namespace DL
open PySem PySem.Spec L2
/-! ### lists of lists of one's own -/
section
variable {Γ : Ctx} {Hh H : Hp}
theorem SlotsR.open2 {σ : L2.St} {δ : SEnv} {P : List Addr} (h : SlotsR Γ Hh H σ δ P) : ∀ {i : Nat} {t : OT}, δ[i]? = some (.ot t) → ∃ p Ps P1, σ[i]? = some (some (.ref p)) ∧ Own Γ Hh H t p Ps ∧ P.Perm (Ps ++ P1) ∧
    ∀ Hh' H' t' Ps', Keeps Γ Hh Hh' → (∀ b ∈ P1, ∀ o, ownO Γ.wd b o → H b = some o → H' b = some o) → Own Γ Hh' H' t' p Ps' → ∃ P', SlotsR Γ Hh' H' σ (δ.set i (.ot t')) P' ∧ P'.Perm (Ps' ++ P1) := by
  induction h with
  | nil => intro i t e; simp at e
  | none h ih =>
    intro i t e
    cases i with
    | zero => simp at e
    | succ i =>
      obtain ⟨p, Ps, P1, h1, h2, h3, h4⟩ := ih (i := i) (t := t) (by simpa using e)
      refine ⟨p, Ps, P1, by simpa using h1, h2, h3, fun Hh' H' t' Ps' k o ow => ?_⟩
      obtain ⟨P', a, b⟩ := h4 Hh' H' t' Ps' k o ow
      exact ⟨P', .none a, b⟩
  | dat r h ih =>
    intro i t e
    cases i with
    | zero => simp at e
    | succ i =>
      obtain ⟨p, Ps, P1, h1, h2, h3, h4⟩ := ih (i := i) (t := t) (by simpa using e)
      refine ⟨p, Ps, P1, by simpa using h1, h2, h3, fun Hh' H' t' Ps' k o ow => ?_⟩
      obtain ⟨P', a, b⟩ := h4 Hh' H' t' Ps' k o ow
      exact ⟨P', .dat (Rep.keep k _ r) a, b⟩
  | @ot p0 t0 Ps0 σ δ P0 e' h ih =>
    intro i t e
    cases i with
    | zero =>
      simp at e
      subst e
      exact ⟨p0, Ps0, P0, rfl, e', .refl _, fun Hh' H' t' Ps' k o ow => ⟨_, .ot ow (h.keep k o), .refl _⟩⟩
    | succ i =>
      obtain ⟨p, Ps, P1, h1, h2, h3, h4⟩ := ih (i := i) (t := t) (by simpa using e)
      refine ⟨p, Ps, Ps0 ++ P1, by simpa using h1, h2, ?_, fun Hh' H' t' Ps' k o ow => ?_⟩
      · refine (h3.append_left Ps0).trans ?_
        rw [← List.append_assoc, ← List.append_assoc]
        exact List.perm_append_comm.append_right P1
      · obtain ⟨P', a, b⟩ := h4 Hh' H' t' Ps' k (fun q hq => o q (List.mem_append_right _ hq)) ow
        refine ⟨Ps0 ++ P', .ot (e'.keep k fun q hq o' eo => ?_) a, ?_⟩
        · obtain ⟨o2, e2, e3⟩ := e'.objs q hq
          rw [eo] at e2
          cases e2
          exact o q (List.mem_append_left _ hq) o' e3 eo
        · refine (b.append_left Ps0).trans ?_
          rw [← List.append_assoc, ← List.append_assoc]
          exact List.perm_append_comm.append_right P1
theorem MatR.length : ∀ {rows : List (List D)} {qs : List Addr}, MatR Γ Hh H rows qs → qs.length = rows.length
  | [], qs, h => by rw [show qs = [] from h]; rfl
  | r :: rs, _, h => by
    obtain ⟨q, qs', vs, rfl, h1, h2, h3⟩ := h
    rw [List.length_cons, List.length_cons, h3.length]
theorem MatR.app {q : Addr} {vs : List V} {r : List D} (h1 : H q = some (.lst vs)) (h2 : RepL Γ Hh r vs) : ∀ {rows : List (List D)} {qs : List Addr}, MatR Γ Hh H rows qs → MatR Γ Hh H (rows ++ [r]) (qs ++ [q])
  | [], qs, h => by rw [show qs = [] from h]; exact ⟨q, [], vs, rfl, h1, h2, rfl⟩
  | r0 :: rs, _, h => by
    obtain ⟨q', qs', vs', rfl, a, b, c⟩ := h
    exact ⟨q', _, vs', rfl, a, b, MatR.app h1 h2 c⟩
theorem MatR.at : ∀ {rows : List (List D)} {qs : List Addr} {j : Nat} {r : List D}, MatR Γ Hh H rows qs → rows[j]? = some r → ∃ q vs, qs[j]? = some q ∧ H q = some (.lst vs) ∧ RepL Γ Hh r vs
  | [], _, j, r, _, e => by simp at e
  | r0 :: rs, _, j, r, h, e => by
    obtain ⟨q', qs', vs', rfl, a, b, c⟩ := h
    cases j with
    | zero => simp at e; subst e; exact ⟨q', vs', rfl, a, b⟩
    | succ j => simpa using MatR.at (j := j) c (by simpa using e)
theorem MatR.put {q : Addr} {vs : List V} {r : List D} (h2 : RepL Γ Hh r vs) : ∀ {rows : List (List D)} {qs : List Addr} {j : Nat}, MatR Γ Hh H rows qs → qs.Nodup → qs[j]? = some q → MatR Γ Hh (upd H q (.lst vs)) (rows.set j r) qs
  | [], qs, j, h, _, e => by rw [show qs = [] from h] at e; simp at e
  | r0 :: rs, _, j, h, nd, e => by
    obtain ⟨q', qs', vs', rfl, a, b, c⟩ := h
    obtain ⟨n1, n2⟩ := List.nodup_cons.mp nd
    cases j with
    | zero =>
      simp at e
      subst e
      exact ⟨q', qs', vs, rfl, upd_same, h2, c.keep (Keeps.of fun _ _ z => z) fun p hp o eo => by rw [upd_ne (fun z => n1 (by rw [← z]; exact hp))]; exact eo⟩
    | succ j =>
      have e' : qs'[j]? = some q := by simpa using e
      have ne : q' ≠ q := fun z => n1 (by rw [z]; exact List.mem_of_getElem? e')
      exact ⟨q', qs', vs', rfl, by rw [upd_ne ne]; exact a, b, MatR.put h2 c n2 e'⟩
end
section
variable {Γ : Ctx} {H0 H H' : Hp} {A B P : List Addr} {R R' : Option Rw} {σ : L2.St} {δ : SEnv}
theorem refs_inj {qs rs : List Addr} (h : qs.map V.ref = rs.map V.ref) : qs = rs := (List.map_inj_right (fun a b e => by injection e)).mp h
/-- a new row -/
theorem RepS.growM {r : Addr} {rows : List (List D)} {ds : List D} {vs : List V} {i : Nat} (S : RepS Γ H0 A B P R H σ δ) (m : Mv Γ B R R' H H') (e1 : δ[i]? = some (.ot (.mat rows))) (hr : H r = none) (hv : H' r = some (.lst vs)) (rr : RepL Γ (hide (r :: (A ++ P)) H') ds vs) :
    ∃ p qs P', σ[i]? = some (some (.ref p)) ∧ H' p = some (.lst (qs.map .ref)) ∧ qs.length = rows.length ∧
      RepS Γ H0 A B P' R' (upd H' p (.lst ((qs ++ [r]).map .ref))) σ (δ.set i (.ot (.mat (rows ++ [ds])))) ∧ Stp Γ B P P' R R' H (upd H' p (.lst ((qs ++ [r]).map .ref))) := by
  obtain ⟨p, Ps, P1, h1, ⟨qs, rfl, h2, h3⟩, h4, h5⟩ := S.slots.open2 e1
  have S1 := S.move m
  have nA : r ∉ A ++ P := all_out S.all hr
  have mem : ∀ q, q ∈ P ↔ q ∈ (p :: qs) ++ P1 := fun q => h4.mem_iff
  have hP : p ∈ P := (mem p).mpr (by simp)
  have ndP := h4.nodup_iff.mp S.nd
  obtain ⟨o1, o2, o3⟩ := S.own p hP
  have hp' : H' p = some (.lst (qs.map .ref)) := m.ext.st _ _ (fun z => o2 (S.ba p z)) h2 rfl
  have k : Keeps Γ (hide (A ++ P) H) (hide (r :: (A ++ P)) H') := by
    have k1 := m.ext.keeps (A := r :: (A ++ P)) (fun a ha => List.mem_cons_of_mem _ (S.bap a ha))
    rwa [show hide (r :: (A ++ P)) H = hide (A ++ P) H from hide_news (L := [r]) (fun q hq => by rw [List.mem_singleton.mp hq]; exact hr) (fun q hq => by rw [List.mem_singleton.mp hq]; exact nA)] at k1
  have k2 : Keeps Γ (hide (A ++ P) H) (hide (r :: (A ++ P)) (upd H' p (.lst ((qs ++ [r]).map .ref)))) := by
    rw [hide_upd (List.mem_cons_of_mem _ (List.mem_append_right _ hP))]
    exact k
  have npr : r ≠ p := fun z => nA (List.mem_append_right _ (by rw [z]; exact hP))
  have nq : ∀ q ∈ qs, q ≠ p := fun q hq z => by
    have := List.nodup_append.mp ndP
    exact (List.nodup_cons.mp this.1).1 (by rw [← z]; exact hq)
  have n1 : ∀ q ∈ P1, q ≠ p := fun q hq z => by
    have := List.nodup_append.mp ndP
    exact this.2.2 p List.mem_cons_self q hq z.symm
  have ow : Own Γ (hide (r :: (A ++ P)) (upd H' p (.lst ((qs ++ [r]).map .ref)))) (upd H' p (.lst ((qs ++ [r]).map .ref))) (.mat (rows ++ [ds])) p (p :: (qs ++ [r])) := by
    refine ⟨qs ++ [r], rfl, upd_same, ?_⟩
    rw [hide_upd (List.mem_cons_of_mem _ (List.mem_append_right _ hP))]
    refine MatR.app (by rw [upd_ne npr]; exact hv) rr (h3.keep k fun q hq o eo => ?_)
    rw [upd_ne (nq q hq)]
    obtain ⟨o', e', oo⟩ := h3.objs q hq
    rw [eo] at e'
    cases e'
    exact S.stand m q ((mem q).mpr (by simp [hq])) o oo eo
  obtain ⟨P', a, b⟩ := h5 _ _ _ _ k2 (fun q hq o oo eo => by
    rw [upd_ne (n1 q hq)]
    exact S.stand m q ((mem q).mpr (List.mem_append_right _ hq)) o oo eo) ow
  have mem' : ∀ q, q ∈ P' ↔ q = r ∨ q ∈ P := fun q => by
    rw [b.mem_iff, mem]
    simp only [List.mem_append, List.mem_cons, List.not_mem_nil, or_false]
    constructor
    · rintro ((z | z | z) | z)
      · exact .inr (.inl (.inl z))
      · exact .inr (.inl (.inr z))
      · exact .inl z
      · exact .inr (.inr z)
    · rintro (z | (z | z) | z)
      · exact .inl (.inr (.inr z))
      · exact .inl (.inl z)
      · exact .inl (.inr (.inl z))
      · exact .inr z
  have nd' : P'.Nodup := by
    have e : P'.Perm (r :: P) := b.trans ((show (p :: (qs ++ [r]) ++ P1).Perm (r :: ((p :: qs) ++ P1)) from by
      have : p :: (qs ++ [r]) ++ P1 = (p :: qs) ++ r :: P1 := by simp
      rw [this]
      exact List.perm_middle).trans (h4.symm.cons r))
    exact e.nodup_iff.mpr (List.nodup_cons.mpr ⟨fun z => nA (List.mem_append_right _ z), S.nd⟩)
  obtain ⟨oo1, oo2⟩ := S1.slots.objs p hP
  have row : RowOk Γ (upd H' p (.lst ((qs ++ [r]).map .ref))) R' := S1.row.upd hp' (fun z => o2 (S1.ra p z)) o3
  refine ⟨p, qs, P', h1, hp', h3.length, ⟨row, S1.ra, S1.ba, S1.rb, fun x hx => ?_, S1.sc, S1.sb, ⟨fun x o n e s => ?_, fun x φ n m e => ?_, fun x kvs n e => ?_, fun x o e => ?_⟩, fun q hq => ?_, nd', ?_⟩, ⟨Ext.updB (m.ext.mono fun a h => List.mem_append_left _ h) (List.mem_append_right _ hP) nx_lst, fun q hq => ?_, m.adr⟩⟩
  · rw [upd_ne (fun z => o2 (by rw [← z]; exact hx))]
    exact S1.al x hx
  · rw [upd_ne (ne_of_none e o1)]; exact S1.ext.st x o n e s
  · rw [upd_ne (ne_of_none e o1)]; exact S1.ext.ex x φ n m e
  · rw [upd_ne (ne_of_none e o1)]; exact S1.ext.ca x kvs n e
  · rw [upd_ne (ne_of_none e o1)]; exact S1.ext.al x o e
  · rcases (mem' q).mp hq with z | z
    · rw [z]
      exact ⟨S.ext.free hr, fun y => nA (List.mem_append_left _ y), own_free S.row hr⟩
    · exact S.own q z
  · refine a.keep (hide_keeps fun x hx => ?_) fun _ _ _ _ z => z
    rcases List.mem_append.mp hx with z | z
    · exact List.mem_cons_of_mem _ (List.mem_append_left _ z)
    · rcases (mem' x).mp z with y | y
      · rw [y]; exact List.mem_cons_self
      · exact List.mem_cons_of_mem _ (List.mem_append_right _ y)
  · rcases (mem' q).mp hq with z | z
    · rw [z]; exact .inr hr
    · exact .inl z
end
section
variable {Γ : Ctx} {W : WX} {X : Cx} {e a b : Expr} {es : List Expr} {fe fa fb : SEnv → M D} {ff : SEnv → M (List D)} {pos p p3 : Pos}
/-- [] as a list of lists -/
def oMat0 : SEnv → M OT := fun _ => pure (.mat [])
theorem pf_mat0 : PE X (.List [] pos) (tOT Γ W oMat0) := (pf_lst (Γ := Γ) (W := W) pda_nil).imp fun σ H Q h => by
  obtain ⟨H0, A, B, P, R, δ, S, h⟩ := h
  refine ⟨H0, A, B, P, R, δ, S, fun p vs H1 m hp hv r => ?_⟩
  have ev : vs = [] := RepL_nil.mp r
  subst ev
  exact h p [p] H1 m (fun q hq => by rw [List.mem_singleton.mp hq]; exact hp) (by simp) ⟨[], rfl, hv, rfl⟩
/-- x.append(e), x a list of lists, e a new list -/
def sAppM (i : Nat) (ff : SEnv → M (List D)) : SM := fun δ R => match δ[i]? with
  | some (.ot (.mat rows)) => sBind ff (fun ds δ R => if rows.length < sizeLine then .nx (δ.set i (.ot (.mat (rows ++ [ds])))) R else .stuck) δ R
  | _ => .stuck
theorem ds_appM {i : Nat} {x : Str} {apos : Pos} (hN : X.N[i]? = some x) (hv : Vis X.env.scope x) (he : PE X e (tF Γ W ff)) (hd : (x == ("__debug__" : Str)) = false := by decide) (hcd : (x == ("__classdict__" : Str)) = false := by decide)
    (hbase : attributeBase (.Name x p) "append" X.env (eval (.Name x p) X.env) = eval (.Name x p) X.env := by rfl)
    (hfew : ((backTo pos (starEach [e] X.env)).all (fun x => !x.1) && (backToKw pos (keywordEach [] X.env)).all (fun x => x.1.isSome) && decide ([e].length + ([] : List Keyword).length + (if ([] : List Keyword).isEmpty then 0 else 1) < 30)) = true := by rfl)
    (hline : (apos.endLine == pos.line) = true := by rfl) (hs : starEach [e] X.env = (false, eval e X.env) :: starEach [] X.env := by rfl) (hpl : (backTo pos (starEach [] X.env)).any (·.1) = false := by rfl)
    (hsw : swapsWith (.Call (.Attribute (.Name x p) "append" apos) [e] [] pos) none p3.line X.env = pure false := by rfl) :
    PS X (.Expr (.Call (.Attribute (.Name x p) "append" apos) [e] [] pos) p3) (tS Γ W (sAppM i ff)) :=
  (ps_expr (pe_bm PySem.F.plainAttrs_list PySem.F.slot_list_append PySem.F.type_list_append mt_append (pe_var hN hv hd hcd) (pa_cons he pa_nil hs) hbase hfew hline hs hpl) hsw).imp fun Dn σ H h => by
    obtain ⟨H0, A, B, P, R, δ, S, h⟩ := h
    unfold sAppM at h
    split at h
    · rename_i rows e1
      obtain ⟨q, Ps, f1, ⟨qs, f2, f3, f4⟩, _⟩ := S.slots.getOt e1
      refine ⟨.ref q, f1, .inl ⟨rfl, _, SqL.of f3⟩, H0, A, B, P, R, δ, S, ?_⟩
      unfold sBind at h
      cases ef : ff δ R with
      | ok ds R1 =>
        rw [ef] at h
        intro r vs H1 m hr hv r2
        simp only at h
        split at h
        · rename_i hl
          obtain ⟨p', qs', P', g1, g2, g3, S2, st⟩ := S.growM m e1 hr hv r2
          rw [f1] at g1
          have eq : p' = q := by injection (Option.some.inj (Option.some.inj g1)).symm
          subst eq
          refine ⟨p', _, .ref r, rfl, rfl, g2, by rw [List.length_map, g3]; exact hl, ?_⟩
          have z := h σ _ P' st S2
          rwa [List.map_append] at z
        · exact h.elim
      | exn c d R1 =>
        rw [ef] at h
        intro v dx H1 m hx r
        exact h v dx σ H1 ⟨S.ext.trans m.ext, m.row, m.adr⟩ hx (Rep.keep (hide_keeps fun a ha => List.mem_append_left _ ha) _ r)
      | stuck => rw [ef] at h; exact h.elim
    · exact h.elim
/-- x[j][k] = e -/
def rowIx (δ : SEnv) (i : Nat) (k : D) : Option Nat := match δ[i]?, k with
  | some (.ot (.mat rows)), .int z => if (ixN rows.length z).isSome then ixN rows.length z else none
  | _, _ => none
def matPut (i j : Nat) (k d : D) : SM := fun δ R => match δ[i]?, k with
  | some (.ot (.mat rows)), .int z => match rows[j]? with
    | some r => (match ixN r.length z with
      | some l => .nx (δ.set i (.ot (.mat (rows.set j (r.set l d))))) R
      | none => .stuck)
    | none => .stuck
  | _, _ => .stuck
def sPut2 (i : Nat) (f1 f2 fe : SEnv → M D) : SM := fun δ R => match δ[i]? with
  | some (.ot (.mat _)) => sBind fe (fun d => sBind f1 fun k1 δ R => match rowIx δ i k1 with
    | some j => sBind f2 (fun k => matPut i j k d) δ R
    | none => .stuck) δ R
  | _ => .stuck
theorem mat_put {i j : Nat} {k d : D} {vk vd : V} {H0 H : Hp} {A B P : List Addr} {R : Option Rw} {σ : L2.St} {δ : SEnv} {Dn : Ends} {p q : Addr} {qs : List Addr} (S : RepS Γ H0 A B P R H σ δ) (rk : Rep Γ (hide (A ++ P) H) k vk) (rd : Rep Γ (hide (A ++ P) H) d vd) (h : AllK Γ W H0 A B P R H Dn (matPut i j k d δ R))
    (hx : σ[i]? = some (some (.ref p))) (hp : H p = some (.lst (qs.map .ref))) (hq : qs[j]? = some q) : rSetL (.ref q) vk vd H fun H3 => Dn.nx σ H3 := by
  unfold matPut at h
  split at h
  · rename_i rows z e1
    split at h
    · rename_i r er
      split at h
      · rename_i l el
        obtain ⟨p', Ps, f1, ⟨qs', rfl, f3, f4⟩, f5, f6⟩ := S.mutG e1
        rw [hx] at f1
        have eq : p = p' := by injection (Option.some.inj (Option.some.inj f1))
        subst eq
        rw [hp] at f3
        have eqs : qs' = qs := by injection f3 with f3; injection f3 with f3; exact (refs_inj f3).symm
        subst eqs
        obtain ⟨q', vs, g1, g2, g3⟩ := f4.at er
        rw [hq] at g1
        cases g1
        obtain ⟨_, _, P1, w1, ⟨qs2, w2, w3, w4⟩, w5, _⟩ := S.slots.open2 e1
        rw [hx] at w1
        cases w1
        rw [hp] at w3
        have eqs2 : qs2 = qs' := by injection w3 with f3; injection f3 with f3; exact (refs_inj f3).symm
        subst eqs2
        subst w2
        have nd := (List.nodup_append.mp (w5.nodup_iff.mp S.nd)).1
        obtain ⟨nd1, nd2⟩ := List.nodup_cons.mp nd
        have hm : q ∈ qs2 := List.mem_of_getElem? hq
        have ne : p ≠ q := fun z => nd1 (by rw [z]; exact hm)
        obtain ⟨S2, st⟩ := f6 q (.lst (vs.set l vd)) (.mat (rows.set j (r.set l d))) (List.mem_cons_of_mem _ hm) nx_lst (by intro _ _ _ z; cases z) ⟨qs2, rfl, by rw [upd_ne ne]; exact hp, f4.put (RepL.set rd l g3) nd2 hq⟩
        exact ⟨q, vs, z, l, rfl, rk.int_eq, g2, by rw [g3.length]; exact el, h σ _ P st S2⟩
      · exact h.elim
    · exact h.elim
  · exact h.elim
theorem ds_put2 {i : Nat} {x : Str} {k1 k2 : Expr} {f1 f2 : SEnv → M D} {pos1 pos2 : Pos} (hN : X.N[i]? = some x) (hv : Vis X.env.scope x) (hk1 : PE X k1 (tD Γ W f1)) (hk2 : PE X k2 (tD Γ W f2)) (he : PE X e (tD Γ W fe)) (hd : (x == ("__debug__" : Str)) = false := by decide) (hcd : (x == ("__classdict__" : Str)) = false := by decide) (hsl : PlainIx k1 := by exact fun _ _ => rfl)
    (hs2 : swapsWithSole [.Subscript (.Subscript (.Name x p) k1 pos1) k2 pos] e pos2.line X.env = pure false := by rfl) (hw : swappedStores [.Subscript (.Subscript (.Name x p) k1 pos1) k2 pos] e X.env = pure none := by rfl)
    (h1 : (assignEach [.Subscript (.Subscript (.Name x p) k1 pos1) k2 pos] X.env).map (·.2) = [assign (.Subscript (.Subscript (.Name x p) k1 pos1) k2 pos) X.env] := by rfl)
    (ha : ∀ v, assign (.Subscript (.Subscript (.Name x p) k1 pos1) k2 pos) X.env v = (do
      let ov ← holding [v] (eval (.Subscript (.Name x p) k1 pos1) X.env)
      let iv ← holding [v, ov] (eval k2 X.env)
      standAt pos
      holding [v, ov, iv] (setItem ov iv v)
      release [v, ov, iv] []) := by intro _; rfl) :
    PS X (.Assign [.Subscript (.Subscript (.Name x p) k1 pos1) k2 pos] e pos2) (tS Γ W (sPut2 i f1 f2 fe)) := (ps_asg he (pg_sub (pe_ix ix_list (pe_var hN hv hd hcd) hk1 hsl) hk2 set_list ha) hs2 hw h1).imp fun Dn σ H h => by
  obtain ⟨H0, A, B, P, R, δ, S, h⟩ := h
  unfold sPut2 at h
  split at h
  · rename_i rows e1
    refine ⟨H0, A, B, P, R, δ, S, sgo S h fun d vd R1 H1 m r S1 h1 => ?_⟩
    obtain ⟨q, Ps, g1, ⟨qs, rfl, g3, g4⟩, _⟩ := S1.slots.getOt e1
    refine ⟨.ref q, g1, H0, A, B, P, R1, δ, S1, sgo S1 h1 fun kk vk R2 H2 m2 r2 S2 h2 => ?_⟩
    split at h2
    · rename_i j ej
      unfold rowIx at ej
      rw [e1] at ej
      cases kk <;> simp only at ej <;> try (cases ej)
      rename_i iz
      split at ej
      · obtain ⟨q', Ps', g1', ⟨qs', rfl, g3', g4'⟩, g5'⟩ := S2.slots.getOt e1
        have eq : q = q' := by injection (Option.some.inj (Option.some.inj (g1.symm.trans g1')))
        subst eq
        have hj : j < rows.length := (ixN_seq ej).2.1
        obtain ⟨q2, vs2, y1, y2, y3⟩ := g4'.at (List.getElem?_eq_getElem hj)
        refine ⟨q, _, iz, .ref q2, rfl, r2.int_eq, SqL.of g3', ?_, H0, A, B, P, R2, δ, S2, sgo S2 h2 fun k3 v3 R3 H3 m3 r3 S3 h3 => ?_⟩
        · unfold atI
          rw [List.length_map, g4'.length, ej]
          show (qs'.map V.ref)[j]? = _
          rw [List.getElem?_map, y1]
          rfl
        · refine mat_put S3 r3 (Rep.keep (S2.keeps m3) _ (Rep.keep (S1.keeps m2) _ r)) h3 g1' (m3.ext.st _ _ ?_ g3' rfl) y1
          exact fun z => (S2.own q (g5' q List.mem_cons_self)).2.1 (S2.ba q z)
      · cases ej
    · exact h2.elim
  · exact h.elim
end
/-! ### a def that gives what is one's own -/
def spO (Γ : Ctx) (n : Nat) (F : List D → M OT) : Sp := fun vs H Q E => ∃ ds R A, RepL Γ (hide A H) ds vs ∧ ds.length = n ∧ RowOk Γ H R ∧ (∀ a ∈ rAddr R, a ∈ A) ∧ All A H ∧ SqL Γ.K H Γ.scr (Γ.cells.map V.int) ∧ (Γ.scr ∈ rAddr R → ScrK Γ) ∧
  (F ds R).run (fun t R' => ∀ p Ps H', Mv Γ (rAddr R) R R' H H' → (∀ q ∈ Ps, H q = none) → Ps.Nodup → Own Γ (hide (Ps ++ A) H') H' t p Ps → Q (.ref p) H')
    (fun c d R' => ∀ v dx H', Mv Γ (rAddr R) R R' H H' → H' dx = some (.xd [(("value" : Str), v)]) → Rep Γ (hide A H') d v → E (.ref (Γ.cls c)) (some dx) H')
structure CalO (P : Program) (w : World) (K : PySem.W.Frag) (mg : Str → Option Value) (base : Heap) (Γ : Ctx) (k : Nat) (x : Str) (n : Nat) (F : List D → M OT) : Prop where
  ex : ∃ (f : Addr) (fd : FuncData) (ps : List Str), FnOk P w K mg base (L2.CX P w) k f fd ps (spO Γ n F) ∧ mg x = some (.ref f) ∧ PySem.W.keepIn K (.ref f) = true ∧ L2.Binds K fd ps []
theorem CalO.mono {P : Program} {w : World} {K : PySem.W.Frag} {mg : Str → Option Value} {base : Heap} {Γ : Ctx} {j k n : Nat} {x : Str} {F : List D → M OT} (C : CalO P w K mg base Γ j x n F) (h : j ≤ k) : CalO P w K mg base Γ k x n F := by
  obtain ⟨f, fd, ps, ok, gx, kp, b⟩ := C.ex
  exact ⟨f, fd, ps, ok.mono h, gx, kp, b⟩
def dFnO (n : Nat) (F : List D → M OT) (fs : SEnv → M (List D)) : SEnv → M OT := fun δ => fs δ >>= fun ds => if ds.length = n then F ds else M.stuck
section
variable {Γ : Ctx} {W : WX} {X : Cx} {e : Expr} {es : List Expr} {fs : SEnv → M (List D)} {pos p : Pos} {k n : Nat} {x : Str} {F : List D → M OT}
theorem fnO_imp {fs : SEnv → M (List D)} {σ : L2.St} {H : Hp} {Q : VK} (h : tOT Γ W (dFnO n F fs) σ H Q) : tL Γ W fs σ H fun vs H1 => spO Γ n F vs H1 Q (WE W σ) := by
  obtain ⟨H0, A, B, P, R, δ, S, h⟩ := h
  refine ⟨H0, A, B, P, R, δ, S, Out.run_mono (run_bind.mp h) (fun ds R1 _ h1 vs H1 m1 r1 => ?_) fun c d R1 _ q => q⟩
  have S1 := S.move m1
  split at h1
  · rename_i hn
    refine ⟨ds, R1, A ++ P, r1, hn, S1.row, fun a ha => List.mem_append_left _ (S1.ra a ha), S1.all, S1.scr, fun z => S1.sb (S1.rb _ z), ?_⟩
    have up : ∀ {R2 H2}, Mv Γ (rAddr R1) R1 R2 H1 H2 → Mv Γ B R R2 H H2 := fun m => m1.trans ⟨m.ext.mono S1.rb, m.row, m.adr⟩
    exact Out.run_mono h1 (fun t R2 _ q p Ps H2 m2 hp nd ow => q p Ps H2 (up m2) (fun x hx => m1.ext.free (hp x hx)) nd ow) fun c d R2 _ q v dx H2 m2 hx r2 => q v dx H2 (up m2) hx r2
  · exact h1.elim
theorem pf_callO (C : CalO X.prog X.w X.K X.mg X.base Γ k x n F) (hr : Room k X.A) (tk : Takes X W) (ha : PA X (e :: es) (tL Γ W fs)) (hg : Gl X x := by rfl)
    (hdb : (x == ("__debug__" : Str)) = false := by decide) (he : starEach (e :: es) X.env = (false, eval e X.env) :: starEach es X.env := by rfl) (hpl : (backTo pos (starEach es X.env)).any (·.1) = false := by rfl) :
    PE X (.Call (.Name x p) (e :: es) [] pos) (tOT Γ W (dFnO n F fs)) := by
  obtain ⟨f, fd, ps, ok, gx, kp, b⟩ := C.ex
  exact (pe_callS ok hr hg gx kp b (fun σ => passAt tk σ) ha hdb he hpl).imp fun _ _ _ h => fnO_imp h
/-- return x, x one's own -/
def tRO (i : Nat) : TS := fun Dn σ H => ∃ x, σ[i]? = some (some x) ∧ Dn.rt x H
theorem ps_retO {i : Nat} (h : PE X e (tVar i)) : PSs X [.Return (some e) pos] (tRO i) := pss_one ((ps_ret h).imp fun Dn σ H h => h)
def finO (i : Nat) : SOut → Out OT
  | .nx δ R => match δ[i]? with
    | some (.ot t) => .ok t R
    | _ => .stuck
  | .ex c d R => .exn c d R
  | _ => .stuck
end
section
variable {Γ : Ctx} {P : Program} {w : World} {K : PySem.W.Frag} {mg : Str → Option Value} {base : Heap}
theorem SlotsR.getOtN {Hh H : Hp} {σ : L2.St} {δ : SEnv} {P : List Addr} (h : SlotsR Γ Hh H σ δ P) (nd : P.Nodup) {i : Nat} {t : OT} (e : δ[i]? = some (.ot t)) : ∃ p Ps, σ[i]? = some (some (.ref p)) ∧ Own Γ Hh H t p Ps ∧ (∀ q ∈ Ps, q ∈ P) ∧ Ps.Nodup := by
  obtain ⟨p, Ps, P1, h1, h2, h3, _⟩ := h.open2 e
  exact ⟨p, Ps, h1, h2, fun q hq => h3.mem_iff.mpr (List.mem_append_left _ hq), (List.nodup_append.mp (h3.nodup_iff.mp nd)).1⟩
theorem spO_imp {N : List Str} {n i : Nat} {F : List D → M OT} {sem : SM} (hF : ∀ ds R, ds.length = n → F ds R ≠ .stuck → finO i (sem (startD N ds) R) = F ds R) {vs : List V} {H : Hp} {Q : VK} {E : XK} (h : spO Γ n F vs H Q E) :
    tThen Γ (WD E) sem (tRO i) { nx := fun _ H' => Q .non H', rt := Q } (L2.start N vs) H := by
  obtain ⟨ds, R, A, r, hn, row, ra, al, sc, sb, h⟩ := h
  have hl := r.length
  have S : RepS Γ H A (rAddr R) [] R H (L2.start N vs) (startD N ds) := {
    row := row
    ra := ra
    ba := ra
    rb := fun _ h => h
    al := al
    sc := sc
    sb := sb
    ext := .refl
    own := fun p hp => by cases hp
    nd := .nil
    slots := by
      rw [List.append_nil]
      unfold L2.start startD
      rw [hl]
      exact slots_start (N := N) r _ }
  refine ⟨H, A, rAddr R, [], R, _, S, ?_⟩
  have ns : F ds R ≠ .stuck := fun z => by rw [z] at h; exact h
  have e := hF ds R hn ns
  cases q : sem (startD N ds) R with
  | nx δ' R' =>
    rw [q] at e
    intro σ' H' P' s S'
    unfold finO at e
    simp only at e
    split at e
    · rename_i t et
      rw [← e] at h
      obtain ⟨p, Ps, g1, g2, g3, g4⟩ := S'.slots.getOtN S'.nd et
      refine ⟨.ref p, g1, h p Ps H' ⟨S'.ext, S'.row, s.adr⟩ (fun x hx => (S'.own x (g3 x hx)).1) g4 (g2.keep (hide_keeps fun x hx => ?_) fun _ _ _ z => z)⟩
      rcases List.mem_append.mp hx with z | z
      · exact List.mem_append_right _ (g3 x z)
      · exact List.mem_append_left _ z
    · exact absurd e.symm ns
  | rt d R' => rw [q] at e; exact absurd e.symm ns
  | ex c d R' =>
    rw [q] at e
    rw [← e] at h
    exact fun v dx σ' H' m hx r => h v dx H' m hx r
  | bk δ' R' => rw [q] at e; exact absurd e.symm ns
  | ct δ' R' => rw [q] at e; exact absurd e.symm ns
  | stuck => rw [q] at e; exact absurd e.symm ns
theorem calO_mk {x : Str} {params : Arguments} {body : List Stmt} {scope : Scope} {f : Addr} {fd : FuncData} {N ps : List Str} {k i : Nat} {F : List D → M OT} (FD : FunD K x x params body scope [] [] f fd) (gx : mg x = some (.ref f)) (S : FnScope N ps scope) (hb : L2.Binds K fd ps [])
    (hbody : ∀ (cdv : Value) (A : Around) (outer : List Env) (s : Shared) (H : Hp) (E : XK), Room k (A.deeper (PyProof.Rows.envOfC x scope s.heap.objs.size f cdv)) →
      ∃ sem, PSs (cxOf (L2.CX P w) P w K mg base N x scope f cdv A outer s H E) body (tThen Γ (WD E) sem (tRO i)) ∧ ∀ ds R, ds.length = ps.length → F ds R ≠ .stuck → finO i (sem (startD N ds) R) = F ds R) : CalO P w K mg base Γ (k + 1) x ps.length F := by
  refine ⟨f, fd, ps, FD.ok S (fun vs H Q E h => ?_) (fun cdv A outer s H vs Q E hr h => ?_), gx, FD.kp, hb⟩
  · obtain ⟨ds, R, A, r, hn, _⟩ := h
    rw [r.length, hn]
  · obtain ⟨sem, h1, h2⟩ := hbody cdv A outer s H E hr
    exact ⟨_, h1, spO_imp h2 h⟩
end
end DL

set_option Elab.async false
set_option linter.all false
set_option maxRecDepth 100000
set_option maxHeartbeats 4000000
namespace DL
open PySem PySem.Spec L2
/-! ### methods of lists: index, count -/
def dML (o : List D → D → Option D) (fo fe : SEnv → M D) : SEnv → M D := fun δ => fo δ >>= fun x => M.lift (lstD x) >>= fun ds => fe δ >>= fun y => M.lift (o ds y)
section
variable {Γ : Ctx} {W : WX} {X : Cx} {o e : Expr} {fo fe : SEnv → M D} {apos pos : Pos} {r : V → List V → Hp → VK → Prop} {oo : List D → D → Option D}
theorem ml_imp (hr : ∀ (A : List Addr) (H : Hp) (a : Addr) (xs : List V) (ds : List D) (y : V) (b d : D) (Q : VK), H a = some (.lst xs) → RepL Γ (hide A H) ds xs → Rep Γ (hide A H) (.lst ds) (.ref a) → Rep Γ (hide A H) b y → oo ds b = some d → (∀ v, Rep Γ (hide A H) d v → Q v H) → r (.ref a) [y] H Q)
    {σ : L2.St} {H : Hp} {Q : VK} (h : tD Γ W (dML oo fo fe) σ H Q) (hs : starEach [e] X.env = (false, eval e X.env) :: starEach [] X.env) : tBM X.K "list" r (tD Γ W fo) (tCons (tD Γ W fe) tNil) σ H Q := by
  obtain ⟨H0, A, B, P, R, δ, S, h⟩ := h
  refine ⟨H0, A, B, P, R, δ, S, go S h fun x vx R1 H1 m1 r1 S1 h1 => ?_⟩
  obtain ⟨ds, el, h2⟩ := lift_bind h1
  have ex := lstD_eq el
  subst ex
  obtain ⟨l, ys, rfl, g1, g2, _⟩ := r1.lst_at
  refine ⟨.inl ⟨rfl, _, SqL.of g1⟩, H0, A, B, P, R1, δ, S1, go S1 h2 fun y vy R2 H2 m2 r2 S2 h3 => ?_⟩
  obtain ⟨d, ed, qq⟩ := lift_out S2 h3
  have r1' := Rep.keep (S1.keeps m2) _ r1
  obtain ⟨l', ys', e', g1', g2', _⟩ := r1'.lst_at
  cases e'
  exact hr _ _ _ _ _ _ _ _ _ g1' g2' r1' r2 ed fun v rv => qq v _ .refl rv
/-- where d stands first -/
def fstIx (p : PyData → Bool) : List PyData → Nat → Option Nat
  | [], _ => none
  | x :: xs, i => if p x then some i else fstIx p xs (i + 1)
theorem fstIx_at {p : PyData → Bool} : ∀ {xs : List PyData} {i j : Nat}, fstIx p xs i = some j → ∃ k z, j = i + k ∧ xs[k]? = some z ∧ p z = true ∧ ∀ m z', m < k → xs[m]? = some z' → p z' = false
  | [], i, j, h => by cases h
  | x :: xs, i, j, h => by
    rw [fstIx] at h
    split at h
    · rename_i hp
      cases h
      exact ⟨0, x, rfl, rfl, hp, fun m _ hm => absurd hm (Nat.not_lt_zero m)⟩
    · rename_i hp
      obtain ⟨k, z, e, e1, e2, e3⟩ := fstIx_at h
      refine ⟨k + 1, z, by omega, by simpa using e1, e2, fun m z' hm em => ?_⟩
      cases m with
      | zero =>
        simp at em
        rw [← em]
        simpa using hp
      | succ m => exact e3 m z' (by omega) (by simpa using em)
def oIndex (ds : List D) (b : D) : Option D := if okEq (.lst ds) && okEq b then (fstIx (fun z => PyData.eqv z (toPy b)) (toPys ds) 0).map fun j => .int (j : Nat) else none
theorem pd_index (hu : X.A.units + 65 < cLine) (ho : PE X o (tD Γ W fo)) (he : PE X e (tD Γ W fe)) (hbase : attributeBase o "index" X.env (eval o X.env) = eval o X.env := by rfl)
    (hfew : ((backTo pos (starEach [e] X.env)).all (fun x => !x.1) && (backToKw pos (keywordEach [] X.env)).all (fun x => x.1.isSome) && decide ([e].length + ([] : List Keyword).length + (if ([] : List Keyword).isEmpty then 0 else 1) < 30)) = true := by rfl)
    (hline : (apos.endLine == pos.line) = true := by rfl) (hs : starEach [e] X.env = (false, eval e X.env) :: starEach [] X.env := by rfl) (hpl : (backTo pos (starEach [] X.env)).any (·.1) = false := by rfl) :
    PE X (.Call (.Attribute o "index" apos) [e] [] pos) (tD Γ W (dML oIndex fo fe)) := (pe_bm PySem.F.plainAttrs_list PySem.F.slot_list_index PySem.F.type_list_index (mt_indexD hu) ho (pa_cons he pa_nil hs) hbase hfew hline hs hpl).imp fun σ H Q h =>
  ml_imp (fun A H a xs ds y b d Q h1 h2 h3 h4 ed q => by
    unfold oIndex at ed
    split at ed
    · rename_i ok
      simp only [okEq, Bool.and_eq_true] at ok
      obtain ⟨j, ej, rfl⟩ := Option.map_eq_some_iff.mp ed
      obtain ⟨k, z, e, e1, e2, e3⟩ := fstIx_at ej
      rw [Nat.zero_add] at e
      subst e
      have e0 : Dp X.K H (.ref a) (.list (toPys ds)) := by have z := Rep.dp (K := X.K) (.lst ds) h3 ok.1.1; rw [toPy] at z; exact z
      exact ⟨a, y, _, _, j, z, rfl, rfl, e0, Rep.dp b h4 ok.2.1, by have z := ok.1.2; rw [toPy] at z; exact z, ok.2.2, e1, e2, e3, q _ Rep.of_int⟩
    · cases ed) h hs
def oCount (ds : List D) (b : D) : Option D := match b with
  | .int k => (nums ds).map fun ns => .int (ns.count k : Nat)
  | _ => none
theorem pd_count (ho : PE X o (tD Γ W fo)) (he : PE X e (tD Γ W fe)) (hbase : attributeBase o "count" X.env (eval o X.env) = eval o X.env := by rfl)
    (hfew : ((backTo pos (starEach [e] X.env)).all (fun x => !x.1) && (backToKw pos (keywordEach [] X.env)).all (fun x => x.1.isSome) && decide ([e].length + ([] : List Keyword).length + (if ([] : List Keyword).isEmpty then 0 else 1) < 30)) = true := by rfl)
    (hline : (apos.endLine == pos.line) = true := by rfl) (hs : starEach [e] X.env = (false, eval e X.env) :: starEach [] X.env := by rfl) (hpl : (backTo pos (starEach [] X.env)).any (·.1) = false := by rfl) :
    PE X (.Call (.Attribute o "count" apos) [e] [] pos) (tD Γ W (dML oCount fo fe)) := (pe_bm PySem.F.plainAttrs_list PySem.F.slot_list_count PySem.F.type_list_count mt_lcount ho (pa_cons he pa_nil hs) hbase hfew hline hs hpl).imp fun σ H Q h =>
  ml_imp (fun A H a xs ds y b d Q h1 h2 h3 h4 ed q => by
    cases b <;> simp only [oCount] at ed <;> try (cases ed)
    rename_i k
    obtain ⟨ns, en, rfl⟩ := Option.map_eq_some_iff.mp ed
    have := nums_of h2 en
    subst this
    exact ⟨a, ns, k, rfl, by rw [h4.int_eq], SqL.of h1, q _ Rep.of_int⟩) h hs
end
/-! ### sorted, of numbers or of two things -/
def fSort2 : List D → Option D
  | [.lst [a, b]] => if canSort [a, b] then some (.lst (if leD a b then [a, b] else [b, a])) else none
  | _ => none
theorem sort2_eq (a b : D) : [a, b].mergeSort leD = if leD a b then [a, b] else [b, a] := by
  simp [List.mergeSort, List.MergeSort.Internal.splitInTwo, List.merge]
theorem fSort2_le {ds : List D} {d : D} (h : fSort2 ds = some d) : fSortD ds = some d := by
  unfold fSort2 at h
  split at h
  · rename_i a b
    unfold fSortD
    split at h
    · rename_i hc
      cases h
      simp only [hc, if_true]
      rw [sort2_eq]
    · cases h
  · cases h
theorem cd_sort2 {Γ : Ctx} {K : PySem.W.Frag} : CallD Γ (rSortD Γ) fSort2 := fun A H xs as d Q al r e q => cd_sortD (K := K) A H xs as d Q al r (fSort2_le e) q
abbrev fSortA : List D → Option D := orC fSorted fSort2
abbrev fSortB : List D → Option D := orC fSorted fSortD
theorem cr_sortA {Γ : Ctx} {X : Cx} (hu : X.A.units + 65 < cLine) : CallR X (.builtin "sorted") (fun vs H Q => rSortedA X.K vs H Q ∨ rSortD Γ vs H Q) := cr_sortedA.or (cr_sortD hu)
theorem cd_sortA {Γ : Ctx} {K : PySem.W.Frag} : CallD Γ (fun vs H Q => rSortedA K vs H Q ∨ rSortD Γ vs H Q) fSortA := cd_sortedA.or (cd_sort2 (K := K))
theorem cd_sortB {Γ : Ctx} {K : PySem.W.Frag} : CallD Γ (fun vs H Q => rSortedA K vs H Q ∨ rSortD Γ vs H Q) fSortB := cd_sortedA.or (cd_sortD (K := K))
abbrev fMinA : List D → Option D := orC fMin fMinD
theorem cr_minA {Γ : Ctx} {X : Cx} (hc : X.calm = true) (hu : X.A.units + 65 < cLine) : CallR X (.builtin "min") (fun vs H Q => rMin X.K vs H Q ∨ rMinD Γ vs H Q) := (cr_min hc).or (cr_minD hc hu)
theorem cd_minA {Γ : Ctx} {K : PySem.W.Frag} : CallD Γ (fun vs H Q => rMin K vs H Q ∨ rMinD Γ vs H Q) fMinA := cd_min.or cd_minD
end DL

set_option Elab.async false
set_option linter.all false
set_option maxRecDepth 100000
set_option maxHeartbeats 4000000
namespace DL
open PySem PySem.Spec L2 PyProof.Rows
/-! ### set(xs), xs a list of numbers; sorted of it -/
abbrev obS (w : World) : Obj := { cls := .type "set", dict := none, data := .set #[] 0 (.fresh 0 0 (!w.params.followText "set-order")) }
section
variable {P : Program} {w : World} {A : Around} {E : Value → Shared → Prop} {s : Shared}
theorem set_of_list {l : Addr} {xs : Array Value} (ns : List Int) {Q : Value → Shared → Prop} (calm : A.handled = none) (isL : s.heap.IsList l xs) (are : IntsAre xs.toList ns) (few : ns.length + 1 < scanBound)
    (fin : ∀ (g : Heap) (tk c : Nat), SetR w g s.heap.objs.size (fun j => decide (j ∈ ns)) c → c ≤ ns.length → (∀ b o, s.heap.get? b = some o → g.get? b = some o) → Q (.ref s.heap.objs.size) { s with heap := g, toks := tk }) :
    wpAny (model P w) A (call (.type "set") [.ref l]) Q E s := by
  have len : xs.size = ns.length := by have q := IntsAre.length are; rwa [Array.length_toList] at q
  obtain ⟨c0, tl0, mro0⟩ := F.called_set.mro
  have mad := F.called_set.made
  have sub0 := F.called_set.sub
  refine wpAny_call (codeAny_of_tree ?_)
  show wpAny _ _ (callAny (.type "set") _) _ _ _
  refine wpAny_pure ⟨Code.quiet_builtin _ (by decide +kernel), codeAny_builtin F.entry_type_call ?_⟩
  rw [Around.under_plain (weight_type_call_type "set" [.ref l] []) rfl]
  have nT := F.called_set.notType
  have cC := F.called_set.canCreate
  have tC := F.typeCall_set_1 (.ref l)
  repeat (any_goals (first | assumption | wp_step))
  refine codeAny_mono (code_set_led1 (.ref l) (E := E) (Q₁ := fun ob t => ob = .ref s.heap.objs.size ∧ t = { s with heap := s.heap.push (obS w) }) ⟨rfl, rfl⟩) fun res t got => ?_
  cases res with
  | error _ => exact got
  | ok fl => cases fl with
    | next => exact got.elim
    | brk => exact got.elim
    | cont => exact got.elim
    | ret ob =>
      obtain ⟨rfl, rfl⟩ := got
      have at0 : (s.heap.push (obS w)).get? s.heap.objs.size = some (obS w) := Heap.get?_push_size _ rfl
      have ty0 : Shared.TypeIs { s with heap := s.heap.push (obS w) } (.ref s.heap.objs.size) "set" := ⟨_, at0, rfl⟩
      have il := F.called_set.init.lookup
      have ib := F.called_set.init.bind (.ref s.heap.objs.size)
      repeat (any_goals (first | assumption | wp_step))
      refine codeAny_mono (codeAny_call_builtin (R := wants (fun r t2 => r = .none ∧ ∃ g tk c, t2 = { s with heap := g, toks := tk } ∧ SetR w g s.heap.objs.size (fun j => decide (j ∈ ns)) c ∧ c ≤ ns.length ∧ (∀ b o, s.heap.get? b = some o → g.get? b = some o)) E) F.called_set.init.plain F.entry_set_init (check_set_init_1 ty0 ?_)) fun res2 t2 got2 => ?_
      · obtain ⟨⟨oc, odd, oda, osl⟩, atL, cl0, nl, dl0⟩ := isL
        simp only at cl0 dl0
        subst cl0; subst dl0
        have atL2 : (s.heap.push (obS w)).get? l = some { cls := .type "list", dict := odd, data := .seq xs nl, slots := osl } := Heap.get?_push_of_some _ atL
        have q1 := F.sub_list_set
        have q2 := F.sub_list_frozenset
        have q3 : (Value.type "list" == Value.type "dict") = false := by decide
        have isL2 : (s.heap.push (obS w)).IsList l xs := ⟨_, atL2, rfl, nl, rfl⟩
        unfold Builtin.«set.__init__» noKeywords Builtin.Frozenset.updateFrom
        generalize gi : pyIter = PI
        wp_walk
        subst gi
        refine wpAny_pyIter_list isL2 ?_
        refine wpAny_bind (wpAny_runValue ?_)
        have ltl : l < s.heap.objs.size := Heap.lt_size atL
        have calm3 : A.in1.in1.in1.handled = none := by simp [calm]
        have sz : (s.heap.push (obS w)).objs.size = s.heap.objs.size + 1 := Heap.size_push ..
        have ne1 : l ≠ (s.heap.push (obS w)).objs.size := by
          rw [sz]
          exact Nat.ne_of_lt (Nat.lt_succ_of_lt ltl)
        have ne2 : s.heap.objs.size ∉ [(s.heap.push (obS w)).objs.size, l] := by
          rw [sz]
          intro z
          rcases List.mem_cons.mp z with z | z
          · exact Nat.ne_of_lt (Nat.lt_succ_self _) z
          · exact Nat.ne_of_gt ltl (List.mem_singleton.mp z)
        have vals : ∀ (i : Nat) (v : Value), xs[i]? = some v → ∃ k t, ns[i]? = some k ∧ v = .int k t := fun i v hv => by
          have hi : i < ns.length := by rw [← len]; exact (Array.getElem?_eq_some_iff.mp hv).1
          obtain ⟨t, e⟩ := IntsAre.int_at are i v (by rw [Array.getElem?_toList]; exact hv)
          exact ⟨ns[i], t, List.getElem?_eq_getElem hi, by rw [e, List.getD_eq_getElem?_getD, List.getElem?_eq_getElem hi]; rfl⟩
        refine set_update_ints ((Walks.list calm3 _ l ne1 xs).toS) s.heap.objs.size ne2 ns len few vals (xs.size - 0) 0 _ (by omega) (Nat.zero_le _) ⟨⟨_, Heap.get?_push_size _ rfl, rfl, rfl⟩, (isL2.push _)⟩ ⟨0, Nat.le_refl 0, setR_new_at (Heap.get?_push_of_some _ at0)⟩ ?_
        intro t3 c3 mv lc3 isS
        obtain ⟨g, gn, dr, tk, os⟩ := t3
        have e1 : gn = s.gens := mv.gens
        have e2 : dr = s.drawn := mv.drawn
        have e3 : os = s.os := mv.os
        subst e1; subst e2; subst e3
        show wpAny _ _ _ _ _ _
        refine wpAny_pure ?_
        show wpAny _ _ (ret Value.none) _ _ _
        rw [len] at lc3
        refine wpAny_pure ⟨rfl, g, tk, c3, rfl, isS, lc3, fun b o e => ?_⟩
        have ltb : b < s.heap.objs.size := Heap.lt_size e
        refine mv.heap b o ?_ (Heap.get?_push_of_some _ (Heap.get?_push_of_some _ e))
        rw [sz]
        intro z
        rcases List.mem_cons.mp z with z | z
        · exact Nat.ne_of_lt ltb z
        · exact Nat.ne_of_lt (Nat.lt_succ_of_lt ltb) (List.mem_singleton.mp z)
      · cases res2 with
        | error _ => exact got2
        | ok fl2 => cases fl2 with
          | next => exact got2.elim
          | brk => exact got2.elim
          | cont => exact got2.elim
          | ret r =>
            obtain ⟨rfl, g, tk, c, rfl, k1, k2, k3⟩ := got2
            repeat (any_goals (first | assumption | wp_step))
            exact fin _ _ _ k1 k2 k3
end
section
variable {X : Cx} {Γ : Ctx} {W : WX} {a : Expr} {fa : SEnv → M D} {p p2 q pos : Pos}
def srtSet (ns : List Int) : List Int := (srt ns).eraseDups
theorem dedup_unique {a b : List Int} (h1 : a.Pairwise (· < ·)) (h2 : b.Pairwise (· < ·)) (h : ∀ k, k ∈ a ↔ k ∈ b) : a = b := by
  refine sorted_uniq ?_ (h1.imp Int.le_of_lt) (h2.imp Int.le_of_lt)
  have n1 : a.Nodup := h1.imp Int.ne_of_lt
  have n2 : b.Nodup := h2.imp Int.ne_of_lt
  exact (List.perm_ext_iff_of_nodup n1 n2).mpr h
/-- the numbers, each once, rising -/
def upS : List Int → List Int
  | [] => []
  | a :: r => if a ∈ upS r then upS r else (upS r).filter (· < a) ++ a :: (upS r).filter (a < ·)
theorem upS_mem {k : Int} : ∀ {l : List Int}, k ∈ upS l ↔ k ∈ l
  | [] => by simp [upS]
  | a :: r => by
    have ih := upS_mem (k := k) (l := r)
    rw [upS]
    split
    · rename_i h
      rw [ih, List.mem_cons]
      constructor
      · exact .inr
      · rintro (z | z)
        · rw [z]; exact (upS_mem (l := r)).mp h
        · exact z
    · simp only [List.mem_append, List.mem_filter, List.mem_cons, decide_eq_true_eq, ih]
      constructor
      · rintro (z | z | z)
        · exact .inr z.1
        · exact .inl z
        · exact .inr z.1
      · rintro (z | z)
        · exact .inr (.inl z)
        · rcases Int.lt_trichotomy k a with y | y | y
          · exact .inl ⟨z, y⟩
          · exact .inr (.inl y)
          · exact .inr (.inr ⟨z, y⟩)
theorem upS_inc : ∀ l : List Int, (upS l).Pairwise (· < ·)
  | [] => .nil
  | a :: r => by
    have ih := upS_inc r
    rw [upS]
    split
    · exact ih
    · refine List.pairwise_append.mpr ⟨ih.filter _, List.pairwise_cons.mpr ⟨fun b hb => by simpa using (List.mem_filter.mp hb).2, ih.filter _⟩, fun x hx y hy => ?_⟩
      have h1 : x < a := by simpa using (List.mem_filter.mp hx).2
      rcases List.mem_cons.mp hy with z | z
      · rw [z]; exact h1
      · have h2 : a < y := by simpa using (List.mem_filter.mp z).2
        omega
/-- sorted(set(e)) -/
def fSortSet (d : D) : Option D := match d with
  | .lst ds => (nums ds).bind fun ns => if ns.length < 60 then some (.lst ((upS ns).map .int)) else none
  | _ => none
theorem pe_sortSet {ta : TE} (hc : X.calm = true) (hg : Gl X "sorted") (hm : X.mg "sorted" = none) (hg2 : Gl X "set") (hm2 : X.mg "set" = none) (ha : PE X a ta)
    (na : starEach [a] X.env = (false, eval a X.env) :: starEach [] X.env := by rfl) : PE X (.Call (.Name "sorted" p) [.Call (.Name "set" p2) [a] [] q] [] pos) (fun σ H Q => ta σ H fun x H1 => ∃ (l : Addr) (ns : List Int), x = V.ref l ∧ SqL X.K H1 l (ns.map V.int) ∧ ns.length < 60 ∧ ∀ r, H1 r = none → Q (.ref r) (upd H1 r (.lst ((upS ns).map V.int)))) := by
  refine ⟨fun pins s σ H Q I h => ?_⟩
  refine Call_ (ld_blt I hg hm (show bootBuiltins "sorted" = some (.builtin "sorted") from by decide +kernel) ?_)
  refine callWith_builtin1 (args_cons ?_ rfl) rfl rfl
  refine Call_ (ld_blt I hg2 hm2 boot_set ?_)
  refine callWith_type1 (args_cons (thn (ha.run pins s σ H _ I h) fun v s1 ⟨x, H1, I1, r1, q1⟩ => args_nil ?_) na) na rfl
  obtain ⟨l, ns, rfl, hq, hl60, q1⟩ := q1
  cases r1
  obtain ⟨its, r, pl, hz⟩ := I1.list hq
  refine set_of_list ns (I1.ok.hd hc) pl.isList (by simpa using r.ints) (by unfold scanBound; omega) fun g tk c isS hle keep => ?_
  refine args_nil ?_
  have I2 : Inv X pins σ (upd H1 s1.heap.objs.size (SetO X.w s1.heap.objs.size (fun j => decide (j ∈ ns)) c)) { s1 with heap := g, toks := tk } := I1.laid (t' := tk) keep (Nat.le_refl _) (setO_new isS)
  have fr : H1 s1.heap.objs.size = none := I1.hok.fresh (Nat.le_refl _)
  refine sorted_set isS (I1.ok.hd hc) (by omega) fun s' r' out c' ms k gn os hp hg' hi hs hm' hlen => ?_
  have I3 : Inv X pins σ H1 { s1 with heap := g, toks := tk } := I1.kept keep
  have hlen' : (ms.map V.int).length ≤ sizeLine := by rw [List.length_map, hlen, sizeLine_eq]; omega
  have hn : H1 r' = none := I3.hok.fresh hp
  have J : Inv X pins σ (upd H1 r' (.lst (ms.map V.int))) { ({ s1 with heap := g, toks := tk } : Shared) with heap := s'.heap, gens := s'.gens, drawn := s'.drawn, toks := s'.toks } :=
    I3.call (ch := []) (Un.laid k hp hn) (I3.hok.laid k hp ⟨hlen', out.toList, c', vals_of_ints hi, hg'⟩) (by rw [gn]; exact I3.bare) (fun _ z => nomatch z)
  have e : s' = { ({ s1 with heap := g, toks := tk } : Shared) with heap := s'.heap, gens := s'.gens, drawn := s'.drawn, toks := s'.toks } := by
    cases s'
    cases s1
    cases os
    rfl
  rw [e]
  have em : ms = upS ns := dedup_unique hs (upS_inc ns) fun z => by rw [hm' z, upS_mem, decide_eq_true_eq]
  exact ⟨.ref r', _, J, rfl, by rw [em]; exact q1 r' hn⟩
theorem pd_sortSet (hc : X.calm = true) (hm : X.mg "sorted" = none) (hm2 : X.mg "set" = none) (ha : PE X a (tD Γ W fa)) (hg : Gl X "sorted" := by rfl) (hg2 : Gl X "set" := by rfl) (na : starEach [a] X.env = (false, eval a X.env) :: starEach [] X.env := by rfl) :
    PE X (.Call (.Name "sorted" p) [.Call (.Name "set" p2) [a] [] q] [] pos) (tD Γ W (d1 fSortSet fa)) := (pe_sortSet hc hg hm hg2 hm2 ha na).imp fun σ H Q h => by
  obtain ⟨H0, A, B, P, R, δ, S, h⟩ := h
  refine ⟨H0, A, B, P, R, δ, S, go S h fun x vx R1 H1 m1 r1 S1 h1 => ?_⟩
  obtain ⟨d, ed, qq⟩ := lift_out S1 h1
  cases x <;> simp only [fSortSet] at ed <;> try (cases ed)
  obtain ⟨ns, en, e2⟩ := Option.bind_eq_some_iff.mp ed
  split at e2
  · rename_i hl
    cases e2
    obtain ⟨l, ys, rfl, g1, g2, _⟩ := r1.lst_at
    have := nums_of g2 en
    subst this
    exact ⟨l, ns, rfl, SqL.of g1, hl, fun r hr => qq _ _ (grow_new hr) (Rep.new_lst S1.all hr (repL_ints _))⟩
  · cases e2
end
end DL

set_option Elab.async false
set_option linter.all false
set_option maxRecDepth 100000
set_option maxHeartbeats 4000000
namespace DL
open PySem PySem.Spec L2 PyProof.Rows
/-! ### dicts that are data: read -/
def oGet : D → D → Option D
  | .dct n ks us, kd => (keyOf n kd).bind fun k => dLook k ks us
  | _, _ => none
def oHas (neg : Bool) : D → D → Option D
  | kd, .dct n ks us => (keyOf n kd).map fun k => .bl ((dLook k ks us).isSome != neg)
  | _, _ => none
section
variable {Γ : Ctx} {W : WX} {X : Cx} {o i : Expr} {fo fi : SEnv → M D} {pos : Pos}
theorem pd_dget (hw : Γ.wd = X.w) (hu : X.A.units + 65 < cLine) (ho : PE X o (tD Γ W fo)) (hi : PE X i (tD Γ W fi)) (hs : NoSl i) : PE X (.Subscript o i pos) (tD Γ W (d2 oGet fo fi)) := (pe_aget hu ho hi hs).imp fun σ H Q h => by
  obtain ⟨H0, A, B, P, R, δ, S, h⟩ := h
  refine ⟨H0, A, B, P, R, δ, S, go S h fun x vx R1 H1 m1 r1 S1 h1 => ⟨H0, A, B, P, R1, δ, S1, go S1 h1 fun y vy R2 H2 m2 r2 S2 h2 => ?_⟩⟩
  obtain ⟨d, ed, qq⟩ := lift_out S2 h2
  cases x <;> simp only [oGet] at ed <;> try (cases ed)
  obtain ⟨k, ek, el⟩ := Option.bind_eq_some_iff.mp ed
  obtain ⟨p, rfl, da⟩ := (Rep.keep (S1.keeps m2) _ r1).dct_at
  obtain ⟨ov, g1, g2⟩ := dct_get da r2 ek
  rw [el] at g2
  obtain ⟨v, rfl, rv⟩ := g2
  exact ⟨p, v, rfl, by rw [← hw]; exact g1, qq v _ .refl rv⟩
theorem has_imp (neg : Bool) (hw : Γ.wd = X.w) {σ : L2.St} {H : Hp} {Q : VK} (h : tD Γ W (d2 (oHas neg) fi fo) σ H Q) : (if neg then tANotIn X.w (tD Γ W fi) (tD Γ W fo) else tAIn X.w (tD Γ W fi) (tD Γ W fo)) σ H Q := by
  obtain ⟨H0, A, B, P, R, δ, S, h⟩ := h
  have main : (fi δ R).run (KK Γ B A P (Rep Γ) R H fun y H1 => tD Γ W fo σ H1 fun x H2 => ∃ a ov, x = .ref a ∧ AGet X.w H2 a y ov ∧ Q (.bl (ov.isSome != neg)) H2) (KE Γ W B A P σ R H) := by
    refine go S h fun kd y R1 H1 m1 r1 S1 h1 => ⟨H0, A, B, P, R1, δ, S1, go S1 h1 fun x vx R2 H2 m2 r2 S2 h2 => ?_⟩
    obtain ⟨d, ed, qq⟩ := lift_out S2 h2
    cases x <;> simp only [oHas] at ed <;> try (cases ed)
    rename_i n ks us
    obtain ⟨k, ek, rfl⟩ := Option.map_eq_some_iff.mp ed
    obtain ⟨p, rfl, da⟩ := r2.dct_at
    obtain ⟨ov, g1, g2⟩ := dct_get da (Rep.keep (S1.keeps m2) _ r1) ek
    refine ⟨p, ov, rfl, by rw [← hw]; exact g1, qq _ _ .refl ?_⟩
    have : ov.isSome = (dLook k ks us).isSome := by
      cases e2 : dLook k ks us with
      | none => rw [e2] at g2; rw [show ov = none from g2]; rfl
      | some d' => rw [e2] at g2; obtain ⟨v, rfl, _⟩ := g2; rfl
    rw [this]
    exact Rep.of_bl
  cases neg with
  | true =>
    refine ⟨H0, A, B, P, R, δ, S, Out.run_mono main (fun kd R1 _ q y H1 m r => ?_) fun c d R1 _ q => q⟩
    obtain ⟨H0', A', B', P', R', δ', S', h'⟩ := q y H1 m r
    refine ⟨H0', A', B', P', R', δ', S', Out.run_mono h' (fun x R2 _ q2 vx H2 m2 r2 => ?_) fun c d R2 _ q2 => q2⟩
    obtain ⟨a, ov, rfl, g2, g3⟩ := q2 vx H2 m2 r2
    refine ⟨a, ov, rfl, g2, ?_⟩
    have : (ov.isSome != true) = !ov.isSome := by cases ov <;> rfl
    rw [this] at g3
    exact g3
  | false =>
    refine ⟨H0, A, B, P, R, δ, S, Out.run_mono main (fun kd R1 _ q y H1 m r => ?_) fun c d R1 _ q => q⟩
    obtain ⟨H0', A', B', P', R', δ', S', h'⟩ := q y H1 m r
    refine ⟨H0', A', B', P', R', δ', S', Out.run_mono h' (fun x R2 _ q2 vx H2 m2 r2 => ?_) fun c d R2 _ q2 => q2⟩
    obtain ⟨a, ov, rfl, g2, g3⟩ := q2 vx H2 m2 r2
    refine ⟨a, ov, rfl, g2, ?_⟩
    have : (ov.isSome != false) = ov.isSome := by cases ov <;> rfl
    rw [this] at g3
    exact g3
theorem pd_hasN (hw : Γ.wd = X.w) (hu : X.A.units + 65 < cLine) (hi : PE X i (tD Γ W fi)) (ho : PE X o (tD Γ W fo)) (hm : behindInMarks .NotIn o = false) : PE X (.Compare i [.NotIn] [o] pos) (tD Γ W (d2 (oHas true) fi fo)) :=
  (pe_cmp (pc_anotin hu hi ho) hm).imp fun _ _ _ h => has_imp true hw h
theorem pd_has (hw : Γ.wd = X.w) (hu : X.A.units + 65 < cLine) (hi : PE X i (tD Γ W fi)) (ho : PE X o (tD Γ W fo)) (hm : behindInMarks .In o = false) : PE X (.Compare i [.In] [o] pos) (tD Γ W (d2 (oHas false) fi fo)) :=
  (pe_cmp (pc_ain hu hi ho) hm).imp fun _ _ _ h => has_imp false hw h
theorem pdt_hasN (hw : Γ.wd = X.w) (hu : X.A.units + 65 < cLine) (hi : PE X i (tD Γ W fi)) (ho : PE X o (tD Γ W fo)) (hm : behindInMarks .NotIn o = false) : PT X (.Compare i [.NotIn] [o] pos) (tB Γ W (dB (d2 (oHas true) fi fo))) :=
  (pt_cmp (pc_anotin hu hi ho) hm).imp fun _ _ _ h => has_imp true hw (test_imp h)
theorem pdt_has (hw : Γ.wd = X.w) (hu : X.A.units + 65 < cLine) (hi : PE X i (tD Γ W fi)) (ho : PE X o (tD Γ W fo)) (hm : behindInMarks .In o = false) : PT X (.Compare i [.In] [o] pos) (tB Γ W (dB (d2 (oHas false) fi fo))) :=
  (pt_cmp (pc_ain hu hi ho) hm).imp fun _ _ _ h => has_imp false hw (test_imp h)
end
/-! ### dict(pairs), the keys tuples -/
def entsV (H : Hp) (K : PySem.W.Frag) : List Addr → List NEnt → Prop := Paired fun p e => SqT K H p [.ref e.2.1, e.2.2]
def putAll (ents : List NEnt) : List NEnt := ents.foldl (fun acc e => putN acc e.1 e.2.1 e.2.2) []
def rDictN (w : World) (K : PySem.W.Frag) : List V → Hp → VK → Prop := fun vs H Q => ∃ (a : Addr) (ps : List Addr) (ents : List NEnt), vs = [.ref a] ∧ SqL K H a (ps.map V.ref) ∧ entsV H K ps ents ∧ KeysAt H ents ∧ (∀ e ∈ ents, e.1.depth ≤ 8) ∧
  ∀ q, H q = none → Q (.ref q) (upd H q (dN w q (putAll ents)))
section
variable {X : Cx} {pins : List (Addr × Obj)} {σ : L2.St} {H : Hp} {s : Shared}
theorem ents_of (I : Inv X pins σ H s) : ∀ {ps : List Addr} {ents : List NEnt}, entsV H X.K ps ents → ∃ prs : List (NestedKey × Addr × Value), Paired NRel ents prs ∧ prs.length = ps.length ∧ ∀ (j : Nat) (q : NestedKey × Addr × Value), prs[j]? = some q → ∃ b, ps[j]? = some b ∧ s.heap.IsTuple b #[.ref q.2.1, q.2.2]
  | _, _, .nil => ⟨[], .nil, rfl, fun j q e => by simp at e⟩
  | _, _, .cons (a := p) (b := e0) h t => by
    obtain ⟨prs, r, hl, hp⟩ := ents_of I t
    obtain ⟨its, rv, ht, _⟩ := I.tuple h
    obtain ⟨u, y, ei, ru, ry⟩ := vals2 rv
    subst ei
    have eu : u = .ref e0.2.1 := ru
    subst eu
    refine ⟨(e0.1, e0.2.1, y) :: prs, .cons ⟨rfl, rfl, ry⟩ r, by rw [List.length_cons, List.length_cons, hl], fun j q e => ?_⟩
    cases j with
    | zero =>
      have e' : (e0.1, e0.2.1, y) = q := Option.some.inj e
      subst e'
      exact ⟨p, rfl, ht⟩
    | succ j =>
      obtain ⟨b, e1, e2⟩ := hp j q (by simpa using e)
      exact ⟨b, by simpa using e1, e2⟩
theorem nrel_putAll : ∀ {ents : List NEnt} {prs : List (NestedKey × Addr × Value)} {acc : List NEnt} {acc' : List (NestedKey × Addr × Value)}, Paired NRel acc acc' → Paired NRel ents prs → Paired NRel (ents.foldl (fun acc e => putN acc e.1 e.2.1 e.2.2) acc) (storedAllH acc' prs)
  | _, _, acc, acc', ra, .nil => ra
  | _, _, acc, acc', ra, .cons (a := e) (b := q) h t => by
    obtain ⟨h1, h2, h3⟩ := h
    have := nrel_put ra e.1 (b := e.2.1) h3
    unfold storedAllH
    rw [List.foldl_cons, List.foldl_cons, ← h1, ← h2]
    exact nrel_putAll this t
theorem putAll_mem : ∀ {ents acc : List NEnt} {x : NEnt}, x ∈ ents.foldl (fun acc e => putN acc e.1 e.2.1 e.2.2) acc → (∃ y ∈ acc, y.1 = x.1) ∨ ∃ y ∈ ents, y.1 = x.1
  | [], acc, x, h => .inl ⟨x, h, rfl⟩
  | e :: r, acc, x, h => by
    rw [List.foldl_cons] at h
    rcases putAll_mem h with ⟨y, hy, e1⟩ | ⟨y, hy, e1⟩
    · rcases putN_mem hy with z | ⟨z, _⟩
      · exact .inl ⟨y, z, e1⟩
      · exact .inr ⟨e, List.mem_cons_self, z.symm.trans e1⟩
    · exact .inr ⟨y, List.mem_cons_of_mem _ hy, e1⟩
theorem putAll_len : ∀ {ents acc : List NEnt}, (ents.foldl (fun acc e => putN acc e.1 e.2.1 e.2.2) acc).length ≤ acc.length + ents.length
  | [], acc => by simp
  | e :: r, acc => by
    rw [List.foldl_cons]
    have h1 := putAll_len (ents := r) (acc := putN acc e.1 e.2.1 e.2.2)
    have h2 := putN_len (xs := acc) (k := e.1) (b := e.2.1) (v := e.2.2)
    rw [List.length_cons]
    omega
theorem cr_dictN (hcalm : X.calm = true) (hu : X.A.units + 65 < cLine) : CallR X (.type "dict") (rDictN X.w X.K) := by
  intro pins s σ H xs us Q I r q
  obtain ⟨a, ps, ents, ex, hq, hp, hk, hd8, q⟩ := q
  subst ex
  obtain ⟨u, eu, rx⟩ := vals1 r
  subst eu
  cases rx
  obtain ⟨its, rv, pl, hz⟩ := I.list hq
  have ei := refs_at rv
  subst ei
  rw [List.length_map] at hz
  obtain ⟨prs, rel, hl, hpr⟩ := ents_of I hp
  have lents : ents.length = ps.length := (Paired.length rel).trans hl
  obtain ⟨o, n, ho, hc, hd, hdat⟩ := pl
  have P := PairArg.list (prog := X.prog) (w := X.w) a (ps.map Value.ref).toArray (fun j => ps.getD j 0) (prs.map fun q => (Value.ref q.2.1, q.2.2))
  have at_ : ∀ (h' : Heap), (∀ b u, s.heap.get? b = some u → h'.get? b = some u) → ∀ x ∈ prs, (nestedKind X.prog X.w).is h' x.1 x.2.1 := fun h' keep x hx => by
    obtain ⟨e, he, e1, e2⟩ := nrel_mem rel x hx
    exact ⟨by rw [← e1, ← e2]; exact KeyV.is (I.kept (t' := s.toks) keep).hok _ (show KeyV H e.1 (.ref e.2.1) from hk e he) rfl, by rw [← e1]; exact hd8 e he⟩
  refine PySem.call_dict_pairsH (knd := nestedKind X.prog X.w) (ps := prs) P (I.ok.hd hcalm) ?_ ⟨⟨o, n, ho, hc, hd, hdat⟩, by simp [hl], fun j k v e => ?_⟩ ⟨by simp, fun i key v e => ?_⟩ (fun h' keep x hx => ?_) (by rw [List.length_map, hl]; exact hz) fun h' tk hd' keep => ?_
  · show X.A.in1.in1.units + 8 < cLine
    have h1 : X.A.in1.units ≤ X.A.units + 1 := by first | exact Nat.le_refl _ | (unfold Around.in1; simp)
    have h2 : X.A.in1.in1.units ≤ X.A.in1.units + 1 := by first | exact Nat.le_refl _ | (unfold Around.in1; simp)
    omega
  · rw [List.getElem?_map] at e
    obtain ⟨q', e1, e2⟩ := Option.map_eq_some_iff.mp e
    cases e2
    obtain ⟨b, g1, g2⟩ := hpr j q' e1
    have : ps.getD j 0 = b := by rw [List.getD_eq_getElem?_getD, g1]; rfl
    refine ⟨by simp [this, g1], ?_⟩
    show PairAt s.heap (ps.getD j 0) _ _
    rw [this]
    exact .inl g2
  · have e : (prs.map fun q => (Value.ref q.2.1, q.2.2))[i]? = some (key, v) := e
    rw [List.getElem?_map] at e
    obtain ⟨q', e1, e2⟩ := Option.map_eq_some_iff.mp e
    cases e2
    exact ⟨q'.1, q'.2.1, e1, rfl⟩
  · exact at_ h' (fun b u e => keep b u (Nat.ne_of_lt (Heap.lt_size e)) (by simp) e) x hx
  · have hm : (s.heap.objs.size == sysModules) = false := beq_eq_false_iff_ne.mpr (Nat.ne_of_gt I.big)
    have hlen : (putAll ents).length ≤ sizeLine := by
      have := putAll_len (ents := ents) (acc := [])
      unfold putAll
      simp only [List.length_nil, Nat.zero_add] at this
      omega
    have h8 : ∀ x ∈ putAll ents, x.1.depth ≤ 8 := fun x hx => by
      rcases putAll_mem hx with ⟨y, hy, _⟩ | ⟨y, hy, e⟩
      · cases hy
      · rw [← e]; exact hd8 y hy
    exact ⟨.ref s.heap.objs.size, upd H s.heap.objs.size (dN X.w s.heap.objs.size (putAll ents)), I.laid (t' := tk) (fun b u e => keep b u (by simp) e) (Nat.le_refl _) (dn_ok hlen hm h8 (nrel_putAll .nil rel) hd'), rfl, q _ (I.hok.fresh (Nat.le_refl _))⟩
end
/-- the pairs of a list -/
def pairsD : List D → Option (List (D × D))
  | [] => some []
  | .tup [k, v] :: r => (pairsD r).map ((k, v) :: ·)
  | _ => none
theorem pairsD_cons {d : D} {ds : List D} {ps : List (D × D)} (h : pairsD (d :: ds) = some ps) : ∃ kd vd ps', d = .tup [kd, vd] ∧ pairsD ds = some ps' ∧ ps = (kd, vd) :: ps' := by
  unfold pairsD at h
  split at h
  · rename_i heq
    cases heq
  · rename_i k v r heq
    cases heq
    obtain ⟨ps', e1, rfl⟩ := Option.map_eq_some_iff.mp h
    exact ⟨k, v, ps', rfl, e1, rfl⟩
  · cases h
def putAllD (ps : List (D × D)) : List D × List D := ps.foldl (fun acc p => match keyOf true p.1 with
  | some k => (dPutK k p.1 acc.1, dPutV k p.2 acc.1 acc.2)
  | none => acc) ([], [])
def fDictN : List D → Option D
  | [.lst ds] => (pairsD ds).bind fun ps => if ps.all (fun p => (keyOf true p.1).isSome) then some (.dct true (putAllD ps).1 (putAllD ps).2) else none
  | _ => none
section
variable {Γ : Ctx} {A : List Addr} {H : Hp}
theorem ents_rep {K : PySem.W.Frag} : ∀ {ds : List D} {xs : List V} {ps : List (D × D)}, RepL Γ (hide A H) ds xs → pairsD ds = some ps → (∀ p ∈ ps, (keyOf true p.1).isSome = true) →
    ∃ (as : List Addr) (ents : List NEnt), xs = as.map V.ref ∧ entsV H K as ents ∧ KeysAt H ents ∧ (∀ e ∈ ents, e.1.depth ≤ 8) ∧ Paired (fun (e : NEnt) (p : D × D) => keyOf true p.1 = some e.1 ∧ nkD p.1 = some e.1 ∧ Rep Γ (hide A H) p.1 (.ref e.2.1) ∧ Rep Γ (hide A H) p.2 e.2.2) ents ps
  | [], xs, ps, r, e, _ => by
    rw [RepL_nil] at r
    subst r
    cases e
    exact ⟨[], [], rfl, Paired.nil, (fun x hx => nomatch hx), (fun x hx => nomatch hx), Paired.nil⟩
  | d :: ds, xs, ps, r, e, hk => by
    rw [RepL_cons] at r
    obtain ⟨v, ws, rfl, r1, r2⟩ := r
    obtain ⟨kd, vd, ps', rfl, e1, rfl⟩ := pairsD_cons e
    obtain ⟨as, ents, rfl, g1, g2, g3, g4⟩ := ents_rep (K := K) r2 e1 fun p hp => hk p (List.mem_cons_of_mem _ hp)
    obtain ⟨k, ek⟩ := Option.isSome_iff_exists.mp (hk (kd, vd) List.mem_cons_self)
    obtain ⟨a, ys, rfl, h1, h2, _⟩ := r1.tup_at
    rw [RepL_cons] at h2
    obtain ⟨y1, w1, rfl, t1, t2⟩ := h2
    rw [RepL_cons] at t2
    obtain ⟨y2, w2, rfl, t2, t3⟩ := t2
    rw [RepL_nil] at t3
    subst t3
    obtain ⟨b, rfl, k1, k2, k3⟩ := key_t ek t1
    refine ⟨a :: as, (k, b, y2) :: ents, rfl, Paired.cons (h1.sq) g1, (fun x hx => ?_), (fun x hx => ?_), Paired.cons ⟨ek, k3, t1, t2⟩ g4⟩
    · rcases List.mem_cons.mp hx with z | z
      · rw [z]; exact k1
      · exact g2 x z
    · rcases List.mem_cons.mp hx with z | z
      · rw [z]; exact k2
      · exact g3 x z
theorem putAll_rep : ∀ {ents : List NEnt} {ps : List (D × D)} {acc : List NEnt} {ks us : List D}, Paired (fun (e : NEnt) (p : D × D) => keyOf true p.1 = some e.1 ∧ nkD p.1 = some e.1 ∧ Rep Γ (hide A H) p.1 (.ref e.2.1) ∧ Rep Γ (hide A H) p.2 e.2.2) ents ps →
    RepL Γ (hide A H) ks (acc.map fun x => .ref x.2.1) → RepL Γ (hide A H) us (acc.map fun x => x.2.2) → ks.map nkD = acc.map (fun x => some x.1) →
    RepL Γ (hide A H) (ps.foldl (fun acc p => match keyOf true p.1 with | some k => (dPutK k p.1 acc.1, dPutV k p.2 acc.1 acc.2) | none => acc) (ks, us)).1 ((ents.foldl (fun acc e => putN acc e.1 e.2.1 e.2.2) acc).map fun x => .ref x.2.1) ∧
    RepL Γ (hide A H) (ps.foldl (fun acc p => match keyOf true p.1 with | some k => (dPutK k p.1 acc.1, dPutV k p.2 acc.1 acc.2) | none => acc) (ks, us)).2 ((ents.foldl (fun acc e => putN acc e.1 e.2.1 e.2.2) acc).map fun x => x.2.2) ∧
    (ps.foldl (fun acc p => match keyOf true p.1 with | some k => (dPutK k p.1 acc.1, dPutV k p.2 acc.1 acc.2) | none => acc) (ks, us)).1.map nkD = (ents.foldl (fun acc e => putN acc e.1 e.2.1 e.2.2) acc).map fun x => some x.1
  | _, _, acc, ks, us, .nil, r1, r2, r3 => ⟨r1, r2, r3⟩
  | _, _, acc, ks, us, .cons (a := e) (b := p) h t, r1, r2, r3 => by
    obtain ⟨h1, h2, h3, h4⟩ := h
    rw [List.foldl_cons, List.foldl_cons, h1]
    simp only
    refine putAll_rep t ?_ ?_ ?_
    · unfold dPutK putN
      rw [has_t r3]
      by_cases z : (valN acc e.1).isSome = true
      · rw [if_pos z, if_pos z, List.map_map]
        have e' : ((fun x : NEnt => V.ref x.2.1) ∘ fun x : NEnt => if x.1 = e.1 then (x.1, x.2.1, e.2.2) else x) = fun x : NEnt => V.ref x.2.1 := by
          funext x
          show V.ref (if x.1 = e.1 then (x.1, x.2.1, e.2.2) else x).2.1 = V.ref x.2.1
          split <;> rfl
        rw [e']; exact r1
      · rw [if_neg z, if_neg z, List.map_append]
        exact r1.append (RepL.one h3)
    · unfold dPutV putN
      rw [has_t r3]
      by_cases z : (valN acc e.1).isSome = true
      · rw [if_pos z, if_pos z]
        exact setV_t h4 r2 r3
      · rw [if_neg z, if_neg z, List.map_append]
        exact r2.append (RepL.one h4)
    · unfold dPutK putN
      rw [has_t r3]
      by_cases z : (valN acc e.1).isSome = true
      · rw [if_pos z, if_pos z, List.map_map, r3]
        refine List.map_congr_left fun x _ => ?_
        show some x.1 = some (if x.1 = e.1 then (x.1, x.2.1, e.2.2) else x).1
        split <;> rfl
      · rw [if_neg z, if_neg z, List.map_append, List.map_append, r3]
        simp [h2]
end
section
variable {Γ : Ctx} {W : WX} {X : Cx} {e : Expr} {fe : SEnv → M D} {pos p : Pos}
theorem pd_dictN (hw : Γ.wd = X.w) (hcalm : X.calm = true) (hu : X.A.units + 65 < cLine) (he : PE X e (tD Γ W fe)) (hm : X.mg "dict" = none) (hg : Gl X "dict" := by rfl) (h1 : starEach [e] X.env = (false, eval e X.env) :: starEach [] X.env := by rfl) (h2 : (backTo pos (starEach [] X.env)).any (·.1) = false := by rfl) :
    PE X (.Call (.Name "dict" p) [e] [] pos) (tD Γ W (d1 (fun d => fDictN [d]) fe)) := (pe_callTy (cr_dictN hcalm hu) hg hm (by decide +kernel) (pa_cons he pa_nil h1) (by decide) (by decide) h1 h2).imp fun σ H Q h => by
  obtain ⟨H0, A, B, P, R, δ, S, h⟩ := h
  refine ⟨H0, A, B, P, R, δ, S, go S h fun x vx R1 H1 m1 r1 S1 h1 => ?_⟩
  obtain ⟨d, ed, qq⟩ := lift_out S1 h1
  have ed : fDictN [x] = some d := ed
  unfold fDictN at ed
  split at ed
  · rename_i ds eds
    simp only [List.cons.injEq, and_true] at eds
    subst eds
    obtain ⟨ps, e1, e2⟩ := Option.bind_eq_some_iff.mp ed
    split at e2
    · rename_i hk
      cases e2
      obtain ⟨a, ys, rfl, g1, g2, _⟩ := r1.lst_at
      obtain ⟨bs, ents, rfl, k1, k2, k3, k4⟩ := ents_rep (K := X.K) g2 e1 fun p hp => List.all_eq_true.mp hk p hp
      refine ⟨a, bs, ents, rfl, SqL.of g1, k1, k2, k3, fun z hz => ?_⟩
      rw [← hw]
      have gr : Grow Γ H1 (upd H1 z (dN Γ.wd z (putAll ents))) := grow_new hz (fun _ _ _ y => by unfold dN at y; cases y)
      refine qq _ _ gr ?_
      obtain ⟨t1, t2, t3⟩ := putAll_rep (acc := []) (ks := []) (us := []) k4 (RepL_nil.mpr rfl) (RepL_nil.mpr rfl) rfl
      rw [Rep]
      exact ⟨z, rfl, own_free S1.row hz, putAll ents, by rw [hide_out (all_out S1.all hz), upd_same], RepL.keep (Grow.keeps gr) _ t1, RepL.keep (Grow.keeps gr) _ t2, t3⟩
    · cases e2
  · cases ed
end
end DL

set_option Elab.async false
set_option linter.all false
set_option maxRecDepth 100000
set_option maxHeartbeats 4000000
namespace DL
open PySem PySem.Spec L2
/-! ### truth of a list of one's own -/
def bOwn (i : Nat) : SEnv → M Bool := fun δ => match δ[i]? with
  | some (.ot (.lst ds)) => pure (!ds.isEmpty)
  | _ => M.stuck
section
variable {Γ : Ctx} {W : WX} {X : Cx} {i : Nat} {x : Str} {p : Pos}
theorem pdt_own (hN : X.N[i]? = some x) (hv : Vis X.env.scope x) (hd : (x == ("__debug__" : Str)) = false := by decide) (hcd : (x == ("__classdict__" : Str)) = false := by decide)
    (he : ∀ whole, isTrue (.Name x p) X.env whole = (do let v ← whole; standAt (Expr.Name x p).pos; holding [v] (truthy v)) := by intro _; rfl) : PT X (.Name x p) (tB Γ W (bOwn i)) :=
  (pt_truth (pe_var hN hv hd hcd) he).imp fun σ H Q h => by
    obtain ⟨H0, A, B, P, R, δ, S, h⟩ := h
    unfold bOwn at h
    cases e1 : δ[i]? with
    | none => rw [e1] at h; exact h.elim
    | some sd =>
    cases sd with
    | none => rw [e1] at h; exact h.elim
    | dat _ => rw [e1] at h; exact h.elim
    | ot t =>
    cases t with
    | dct _ _ _ => rw [e1] at h; exact h.elim
    | mat _ => rw [e1] at h; exact h.elim
    | lst ds =>
    rw [e1] at h
    obtain ⟨q, vs, f1, f2, f3, f4⟩ := S.slots.getOwn e1
    have r : Rep Γ (hide A H) (.lst ds) (.ref q) := Rep_lst.mpr ⟨q, vs, rfl, by rw [hide_out (S.own q f4).2.1]; exact f2, RepL.keep (hide_keeps fun a ha => List.mem_append_left _ ha) _ f3⟩
    exact ⟨.ref q, f1, !ds.isEmpty, tru_ok r rfl, h _ H (.refl S.row) rfl⟩
end
end DL

set_option Elab.async false
set_option linter.all false
set_option maxRecDepth 100000
set_option maxHeartbeats 4000000
namespace DL
open PySem PySem.Spec L2 PyProof.Rows
/-! ### d.get(key), d data -/
def IsN (w : World) (H : Hp) (a : Addr) : Prop := IsD H a ∨ ∃ xs, H a = some (dN w a xs) ∧ KeysAt H xs
section
variable {X : Cx} {pins : List (Addr × Obj)} {σ : L2.St} {H : Hp} {s : Shared} {a : Addr} {y v : V} {u r : Value} {o : Option V} {A : Around} {E : Value → Shared → Prop}
theorem isN_at (I : Inv X pins σ H s) (d : IsN X.w H a) : s.TypeIs (.ref a) "dict" ∧ (∀ b, Value.ref a = .ref b → ∃ ob, s.heap.get? b = some ob ∧ ob.dict = none) := by
  rcases d with d | ⟨xs, e, ks⟩
  · obtain ⟨t1, t2, _⟩ := isD_at I d
    exact ⟨t1, t2⟩
  · obtain ⟨z1, z2, z3, ys, rel, dd⟩ := dn_open I.hok e ks
    refine ⟨dd.typeIs, fun b q => ?_⟩
    cases q
    obtain ⟨ob, _, _, h1, h2, _⟩ := dd
    exact ⟨ob, h1, h2.2.1⟩
theorem a_get1 {Q : Value → Shared → Prop} (hu : A.units + 65 < cLine) (I : Inv X pins σ H s) (g : AGet X.w H a y o) (ry : RelV y u) (h : ∀ w' s', Inv X pins σ H s' → RelV (o.getD .non) w' → Q w' s') :
    wpAny (model X.prog X.w) A (call (.builtin "dict.get") [.ref a, u]) Q E s := by
  rcases g with g | ⟨xs, k, b, e, ks, rfl, hk, hd, l⟩
  · exact d_get1 (by omega) I g ry h
  · cases (show u = Value.ref b from ry)
    obtain ⟨z1, z2, z3, ys, rel, dd⟩ := dn_open I.hok e ks
    refine call_meetsIn PySem.F.slot_dict_get dd.typeIs PySem.F.entry_dict_get (PySem.F.args_dict_get_2 _ _) (meetsH_dict_get (nestedKind X.prog X.w) a b z2) ⟨n_room hu, k, ys, ⟨KeyV.is I.hok k hk rfl, hd⟩, dd, h _ _ (I.tok _) ?_⟩
    rw [l]
    exact (nrel_val rel k).getD rfl
end
def tAGet1 (w : World) (td ty : TE) : TE := fun σ H Q => td σ H fun x H1 => ∃ a, x = .ref a ∧ IsN w H1 a ∧ ty σ H1 fun y H2 => ∃ o, AGet w H2 a y o ∧ Q (o.getD .non) H2
theorem pe_aget1 {X : Cx} {o e : Expr} {apos cpos : Pos} {td ty : TE} (hu : X.A.units + 65 < cLine) (ho : PE X o td) (he : PE X e ty) (m : M1 X o "get" apos e cpos) : PE X (.Call (.Attribute o "get" apos) [e] [] cpos) (tAGet1 X.w td ty) := by
  refine ⟨fun pins s σ H Q I h => ?_⟩
  refine wpAny_Call_method m.base m.few m.line PySem.F.plainAttrs_dict PySem.F.slot_dict_get PySem.F.type_dict_get (thn (ho.run pins s σ H _ I h) fun u s1 ⟨x, H1, I1, rx, a, ex, d, q1⟩ => ?_)
  subst ex
  obtain rfl : u = Value.ref a := rx
  obtain ⟨t1, t2⟩ := isN_at I1 d
  refine ⟨t1, t2, ?_⟩
  rw [m.trees]
  refine Calls.callWith_builtin rfl (Calls.evalArgs_plain (Calls.spliced_cons (thn (he.run pins s1 σ H1 _ I1 q1) fun iv s2 ⟨y, H2, I2, ry, ov, g, q2⟩ => Calls.spliced_nil ?_)))
  exact a_get1 hu I2 g ry fun w' s3 I3 rw' => ⟨_, H2, I3, rw', q2⟩
def oGetN : D → D → Option D
  | .dct n ks us, kd => (keyOf n kd).map fun k => (dLook k ks us).getD .non
  | _, _ => none
def dctD : D → Option D
  | .dct n ks us => some (.dct n ks us)
  | _ => none
def dDG (fo fe : SEnv → M D) : SEnv → M D := fun δ => fo δ >>= fun x => M.lift (dctD x) >>= fun d => fe δ >>= fun y => M.lift (oGetN d y)
section
variable {Γ : Ctx} {W : WX} {X : Cx} {o e : Expr} {fo fe : SEnv → M D} {apos cpos : Pos} {A : List Addr} {H : Hp}
theorem dct_isN {p : Addr} {n : Bool} {ks us : List D} (h : DctAt Γ (hide A H) H p n ks us) : IsN Γ.wd H p := by
  cases n with
  | true =>
    obtain ⟨xs, h1, h2, h3, h4⟩ := h
    exact .inr ⟨xs, h1, keys_at h2 h4⟩
  | false =>
    obtain ⟨kvs, h1, h3, h4⟩ := h
    exact .inl (.inl ⟨kvs, .of h1⟩)
theorem pd_getN (hw : Γ.wd = X.w) (hu : X.A.units + 65 < cLine) (ho : PE X o (tD Γ W fo)) (he : PE X e (tD Γ W fe)) (m : M1 X o "get" apos e cpos) : PE X (.Call (.Attribute o "get" apos) [e] [] cpos) (tD Γ W (dDG fo fe)) := (pe_aget1 hu ho he m).imp fun σ H Q h => by
  obtain ⟨H0, A, B, P, R, δ, S, h⟩ := h
  refine ⟨H0, A, B, P, R, δ, S, go S h fun x vx R1 H1 m1 r1 S1 h1 => ?_⟩
  obtain ⟨d0, el, h2⟩ := lift_bind h1
  cases x <;> simp only [dctD] at el <;> try (cases el)
  rename_i n ks us
  obtain ⟨p, rfl, da⟩ := r1.dct_at
  refine ⟨p, rfl, by rw [← hw]; exact dct_isN da, H0, A, B, P, R1, δ, S1, go S1 h2 fun y vy R2 H2 m2 r2 S2 h3 => ?_⟩
  obtain ⟨d, ed, qq⟩ := lift_out S2 h3
  simp only [oGetN] at ed
  obtain ⟨k, ek, rfl⟩ := Option.map_eq_some_iff.mp ed
  obtain ⟨p', e', da'⟩ := (Rep.keep (S1.keeps m2) _ r1).dct_at
  cases e'
  obtain ⟨ov, g1, g2⟩ := dct_get da' r2 ek
  refine ⟨ov, by rw [← hw]; exact g1, qq _ _ .refl ?_⟩
  cases e2 : dLook k ks us with
  | none => rw [e2] at g2; rw [show ov = none from g2]; exact Rep.of_non
  | some d' => rw [e2] at g2; obtain ⟨v, rfl, rv⟩ := g2; exact rv
end
end DL

set_option Elab.async false
set_option linter.all false
set_option maxRecDepth 100000
set_option maxHeartbeats 4000000
namespace DL
open PySem PySem.Spec L2 PyProof.Rows
/-! ### a memo that is handed on -/
def Ctx.memo (Γ : Ctx) (b : Addr) (m : Memo) : Ctx := { Γ with own := (b, m) :: Γ.own }
theorem memo_ownA {Γ : Ctx} {b : Addr} {m : Memo} : (Γ.memo b m).ownA = b :: Γ.ownA := rfl
theorem Ext.tomemo {Γ : Ctx} {B : List Addr} {H H' : Hp} {b : Addr} {m : Memo} (e : Ext Γ B H H') : Ext (Γ.memo b m) B H H' :=
  ⟨e.st, fun c φ n h => e.ex c φ n fun z => h (by rw [memo_ownA]; exact List.mem_cons_of_mem _ z), e.ca, e.al⟩
theorem Ext.unmemo {Γ : Ctx} {B : List Addr} {H H' : Hp} {b : Addr} {m : Memo} (hb : H b = none) (e : Ext (Γ.memo b m) B H H') : Ext Γ B H H' :=
  ⟨e.st, fun c φ n h q => e.ex c φ n (fun z => by
    rw [memo_ownA] at z
    cases z with
    | head => rw [hb] at q; cases q
    | tail _ z => exact h z) q, e.ca, e.al⟩
theorem Keeps.tomemo {Γ : Ctx} {H H' : Hp} {b : Addr} {m : Memo} (k : Keeps Γ H H') : Keeps (Γ.memo b m) H H' :=
  { lst := k.lst, tupp := k.tupp, frz := k.frz, dic := k.dic, rng := k.rng, ins := k.ins, ca := k.ca, ext := fun a φ h => k.ext a φ fun z => h (by rw [memo_ownA]; exact List.mem_cons_of_mem _ z) }
theorem websOk_memo {Γ : Ctx} {b : Addr} {m : Memo} {H : Hp} : WebsOk (Γ.memo b m) H ↔ WebsOk Γ H := ⟨fun h => ⟨h.at_, h.uq⟩, fun h => ⟨h.at_, h.uq⟩⟩
theorem own_ne {Γ : Ctx} {H : Hp} {R : Option Rw} {b : Addr} (h : RowOk Γ H R) (hb : H b = none) : ∀ p ∈ Γ.own, p.1 ≠ b := fun p hp z => by
  obtain ⟨k0, h3, _⟩ := h.1.2.1 p hp
  rw [z, hb] at h3
  cases h3
theorem RowOk.unmemo {Γ : Ctx} {H : Hp} {R : Option Rw} {b : Addr} {m : Memo} (h : RowOk (Γ.memo b m) H R) : RowOk Γ H R :=
  ⟨⟨h.1.1, fun p hp => h.1.2.1 p (List.mem_cons_of_mem _ hp), websOk_memo.mp h.1.2.2⟩, h.2⟩
theorem FnR.tomemo {Γ : Ctx} {H : Hp} {b : Addr} {m : Memo} (hb : H b = none) {x : String} {v : V} (h : FnR Γ H x v) : FnR (Γ.memo b m) H x v := by
  unfold FnR at h ⊢
  show match Γ.lam x with
    | none => v = .ref (Γ.fnA x)
    | some l => LamR (b :: Γ.ownA) l H v
  cases e : Γ.lam x with
  | none => rw [e] at h; exact h
  | some l =>
    rw [e] at h
    obtain ⟨f, c, h1, h2, h3, h4, h5⟩ := h
    refine ⟨f, c, h1, fun z => ?_, fun z => ?_, h4, h5⟩
    · rcases List.mem_cons.mp z with z | z
      · rw [z, hb] at h4; cases h4
      · exact h2 z
    · rcases List.mem_cons.mp z with z | z
      · rw [z, hb] at h5; cases h5
      · exact h3 z
theorem FnR.unmemo {Γ : Ctx} {H : Hp} {b : Addr} {m : Memo} {x : String} {v : V} (h : FnR (Γ.memo b m) H x v) : FnR Γ H x v := by
  unfold FnR at h ⊢
  have h' : match Γ.lam x with
    | none => v = .ref (Γ.fnA x)
    | some l => LamR (b :: Γ.ownA) l H v := h
  cases e : Γ.lam x with
  | none => rw [e] at h'; exact h'
  | some l =>
    rw [e] at h'
    obtain ⟨f, c, h1, h2, h3, h4, h5⟩ := h'
    exact ⟨f, c, h1, fun z => h2 (List.mem_cons_of_mem _ z), fun z => h3 (List.mem_cons_of_mem _ z), h4, h5⟩
mutual
theorem Rep.tomemo {Γ : Ctx} {H : Hp} {b : Addr} {m : Memo} (hb : H b = none) : ∀ (d : D) {v : V}, Rep Γ H d v → Rep (Γ.memo b m) H d v
  | .non, _, h => by rw [Rep] at h ⊢; exact h
  | .bl _, _, h => by rw [Rep] at h ⊢; exact h
  | .int _, _, h => by rw [Rep] at h ⊢; exact h
  | .str _, _, h => by rw [Rep] at h ⊢; exact h
  | .lst ds, _, h => by
    rw [Rep_lst] at h ⊢
    obtain ⟨a, xs, e, e1, h⟩ := h
    exact ⟨a, xs, e, e1, RepL.tomemo hb ds h⟩
  | .tup ds, _, h => by
    rw [Rep_tup] at h ⊢
    obtain ⟨a, xs, e, e1, h⟩ := h
    exact ⟨a, xs, e, e1, RepL.tomemo hb ds h⟩
  | .dic, _, h => by rw [Rep] at h ⊢; exact h
  | .rng _ _, _, h => by rw [Rep] at h ⊢; exact h
  | .dct true ks us, _, h => by
    rw [Rep] at h ⊢
    obtain ⟨a, e, n, xs, e1, h1, h2, h3⟩ := h
    exact ⟨a, e, fun z => by
      rw [memo_ownA] at z
      cases z with
      | head => rw [hb] at e1; cases e1
      | tail _ z => exact n z, xs, e1, RepL.tomemo hb ks h1, RepL.tomemo hb us h2, h3⟩
  | .dct false ks us, _, h => by
    rw [Rep] at h ⊢
    obtain ⟨a, e, kvs, e1, h2, h3⟩ := h
    exact ⟨a, e, kvs, e1, RepL.tomemo hb us h2, h3⟩
  | .web n ss, _, h => by rw [Rep] at h ⊢; exact h
  | .row _, _, h => by rw [Rep] at h ⊢; exact h
  | .fn _, _, h => by rw [Rep] at h ⊢; exact h.tomemo hb
theorem RepL.tomemo {Γ : Ctx} {H : Hp} {b : Addr} {m : Memo} (hb : H b = none) : ∀ (ds : List D) {vs : List V}, RepL Γ H ds vs → RepL (Γ.memo b m) H ds vs
  | [], _, h => by rw [RepL_nil] at h ⊢; exact h
  | d :: ds, _, h => by
    rw [RepL_cons] at h ⊢
    obtain ⟨v, ws, e, h1, h2⟩ := h
    exact ⟨v, ws, e, Rep.tomemo hb d h1, RepL.tomemo hb ds h2⟩
end
mutual
theorem Rep.unmemo {Γ : Ctx} {H : Hp} {b : Addr} {m : Memo} : ∀ (d : D) {v : V}, Rep (Γ.memo b m) H d v → Rep Γ H d v
  | .non, _, h => by rw [Rep] at h ⊢; exact h
  | .bl _, _, h => by rw [Rep] at h ⊢; exact h
  | .int _, _, h => by rw [Rep] at h ⊢; exact h
  | .str _, _, h => by rw [Rep] at h ⊢; exact h
  | .lst ds, _, h => by
    rw [Rep_lst] at h ⊢
    obtain ⟨a, xs, e, e1, h⟩ := h
    exact ⟨a, xs, e, e1, RepL.unmemo ds h⟩
  | .tup ds, _, h => by
    rw [Rep_tup] at h ⊢
    obtain ⟨a, xs, e, e1, h⟩ := h
    exact ⟨a, xs, e, e1, RepL.unmemo ds h⟩
  | .dic, _, h => by rw [Rep] at h ⊢; exact h
  | .rng _ _, _, h => by rw [Rep] at h ⊢; exact h
  | .dct true ks us, _, h => by
    rw [Rep] at h ⊢
    obtain ⟨a, e, n, xs, e1, h1, h2, h3⟩ := h
    exact ⟨a, e, fun z => n (by rw [memo_ownA]; exact List.mem_cons_of_mem _ z), xs, e1, RepL.unmemo ks h1, RepL.unmemo us h2, h3⟩
  | .dct false ks us, _, h => by
    rw [Rep] at h ⊢
    obtain ⟨a, e, kvs, e1, h2, h3⟩ := h
    exact ⟨a, e, kvs, e1, RepL.unmemo us h2, h3⟩
  | .web n ss, _, h => by rw [Rep] at h ⊢; exact h
  | .row _, _, h => by rw [Rep] at h ⊢; exact h
  | .fn _, _, h => by rw [Rep] at h ⊢; exact h.unmemo
theorem RepL.unmemo {Γ : Ctx} {H : Hp} {b : Addr} {m : Memo} : ∀ (ds : List D) {vs : List V}, RepL (Γ.memo b m) H ds vs → RepL Γ H ds vs
  | [], _, h => by rw [RepL_nil] at h ⊢; exact h
  | d :: ds, _, h => by
    rw [RepL_cons] at h ⊢
    obtain ⟨v, ws, e, h1, h2⟩ := h
    exact ⟨v, ws, e, Rep.unmemo d h1, RepL.unmemo ds h2⟩
end
theorem RowOk.tomemo {Γ : Ctx} {H : Hp} {R : Option Rw} {b : Addr} {m : Memo} (h : RowOk Γ H R) (hb : H b = none) : RowOk (Γ.memo b m) (L2.upd H b (dN Γ.wd b [])) R := by
  have h' := h.new (o := dN Γ.wd b []) hb (by intro _ _ _ z; unfold dN at z; cases z)
  refine ⟨⟨h'.1.1, fun p hp => ?_, websOk_memo.mpr h'.1.2.2⟩, h'.2⟩
  rcases List.mem_cons.mp hp with z | z
  · subst z
    exact ⟨[], upd_same, List.nodup_nil, fun _ z => by cases z⟩
  · exact h'.1.2.1 p z
theorem Mv.unmemo {Γ : Ctx} {B : List Addr} {R R' : Option Rw} {H H' : Hp} {b : Addr} {m : Memo} (hb : H b = none) (x : Mv (Γ.memo b m) B R R' H H') : Mv Γ B R R' H H' := ⟨x.ext.unmemo hb, x.row.unmemo, x.adr⟩
end DL

set_option Elab.async false
set_option linter.all false
set_option maxRecDepth 100000
set_option maxHeartbeats 4000000
namespace DL
open PySem PySem.Spec L2 PyProof.Rows
/-! ### slots to a memo -/
theorem MatR.tomemo {Γ : Ctx} {Hh H : Hp} {b : Addr} {m : Memo} (hb : Hh b = none) : ∀ {rows : List (List D)} {qs : List Addr}, MatR Γ Hh H rows qs → MatR (Γ.memo b m) Hh H rows qs
  | [], _, h => h
  | r :: rs, _, h => by
    obtain ⟨q, qs', vs, e, h1, h2, h3⟩ := h
    exact ⟨q, qs', vs, e, h1, RepL.tomemo hb _ h2, MatR.tomemo hb h3⟩
theorem Own.tomemo {Γ : Ctx} {Hh H : Hp} {b : Addr} {m : Memo} (hb : Hh b = none) {t : OT} {p : Addr} {Ps : List Addr} (h : Own Γ Hh H t p Ps) : Own (Γ.memo b m) Hh H t p Ps := by
  cases t with
  | lst ds =>
    obtain ⟨e, vs, h1, h2⟩ := h
    exact ⟨e, vs, h1, RepL.tomemo hb _ h2⟩
  | dct n ks us =>
    cases n with
    | true =>
      obtain ⟨e, xs, h1, h2, h3, h4⟩ := h
      exact ⟨e, xs, h1, RepL.tomemo hb _ h2, RepL.tomemo hb _ h3, h4⟩
    | false =>
      obtain ⟨e, xs, h1, h3, h4⟩ := h
      exact ⟨e, xs, h1, RepL.tomemo hb _ h3, h4⟩
  | mat rows =>
    obtain ⟨qs, e, h1, h2⟩ := h
    exact ⟨qs, e, h1, h2.tomemo hb⟩
theorem SlotsR.tomemo {Γ : Ctx} {Hh H : Hp} {σ : L2.St} {δ : SEnv} {P : List Addr} {b : Addr} {m : Memo} (hb : Hh b = Option.none) (h : SlotsR Γ Hh H σ δ P) : SlotsR (Γ.memo b m) Hh H σ δ P := by
  induction h with
  | nil => exact .nil
  | none _ ih => exact .none ih
  | dat r _ ih => exact .dat (Rep.tomemo hb _ r) ih
  | ot h1 _ ih => exact .ot (h1.tomemo hb) ih
theorem hide_none {A : List Addr} {H : Hp} {b : Addr} (h : H b = none) : hide A H b = none := by
  unfold hide
  split
  · rfl
  · exact h
theorem RepS.tomemo {Γ : Ctx} {H0 H : Hp} {A B P : List Addr} {R : Option Rw} {σ : L2.St} {δ : SEnv} {b : Addr} {m : Memo} (S : RepS Γ H0 A B P R H σ δ) (hb : H b = none) : RepS (Γ.memo b m) H0 A B P R (L2.upd H b (dN Γ.wd b [])) σ δ where
  row := S.row.tomemo hb
  ra := S.ra
  ba := S.ba
  rb := S.rb
  al := fun a ha => by
    obtain ⟨o, h, n⟩ := S.al a ha
    exact ⟨o, by rw [upd_ne (ne_of_none h hb)]; exact h, n⟩
  sc := S.sc
  sb := S.sb
  ext := S.ext.tomemo.trans (.new hb)
  own := fun p hp => by
    obtain ⟨h1, h2, h3⟩ := S.own p hp
    refine ⟨h1, h2, fun z => ?_⟩
    rw [memo_ownA] at z
    rcases List.mem_cons.mp z with z | z
    · obtain ⟨o, e, _⟩ := S.slots.objs p hp
      rw [z, hb] at e
      cases e
    · exact h3 z
  nd := S.nd
  slots := by
    have h1 := S.slots.tomemo (b := b) (m := m) (hide_none hb)
    exact h1.keep (Ext.keeps (Γ := Γ.memo b m) (B := B) (.new hb) S.bap) fun p hp o _ e => by rw [upd_ne (ne_of_none e hb)]; exact e
/-! ### what is kept in a memo -/
def flV : D → Option V
  | .non => some .non
  | .bl b => some (.bl b)
  | .int i => some (.int i)
  | _ => none
theorem flV_eq {Γ : Ctx} {H : Hp} {d : D} {x v : V} (h : flV d = some x) (r : Rep Γ H d v) : v = x := by
  cases d <;> simp only [flV, Option.some.injEq] at h <;> first | (cases h; done) | (rw [Rep] at r; rw [r, ← h])
theorem flV_rep {Γ : Ctx} {H : Hp} {d : D} {x : V} (h : flV d = some x) : Rep Γ H d x := by
  cases d <;> simp only [flV, Option.some.injEq] at h <;> first | (cases h; done) | (rw [Rep]; exact h.symm)
theorem MemOk.put {m : Memo} {H : Hp} {xs : List NEnt} {k : NestedKey} {b : Addr} (h : MemOk m H xs) (hk : k ∈ m.dom) (kv : KeyV H k (.ref b)) : MemOk m H (putN xs k b (m.f k)) := ⟨putN_keys h.nd, fun x hx => by
  rcases putN_mem hx with z | ⟨z1, z2, z3⟩
  · exact h.ok x z
  · refine ⟨by rw [z1]; exact hk, by rw [z1]; exact z2, ?_⟩
    rw [z1]
    rcases z3 with z3 | ⟨w, z3⟩
    · rw [z3]; exact kv
    · exact (h.ok _ z3).2.2⟩
theorem MemOk.val {m : Memo} {H : Hp} {xs : List NEnt} {k : NestedKey} {v : V} (h : MemOk m H xs) (e : valN xs k = some v) : v = m.f k := by
  obtain ⟨b, hb⟩ := valN_mem e
  exact (h.ok _ hb).2.1
theorem MemOk.small {m : Memo} {H : Hp} {xs : List NEnt} (h : MemOk m H xs) : xs.length < sizeLine := by
  have := nodup_le (L := xs.map (·.1)) (M := m.dom) h.nd fun k hk => by
    obtain ⟨x, hx, rfl⟩ := List.mem_map.mp hk
    exact (h.ok x hx).1
  rw [List.length_map] at this
  exact Nat.lt_of_le_of_lt this m.small
theorem MemOk.keysAt {m : Memo} {H : Hp} {xs : List NEnt} (h : MemOk m H xs) : KeysAt H xs := fun x hx => (h.ok x hx).2.2
theorem RowOk.putM {Γ : Ctx} {H : Hp} {R : Option Rw} {b : Addr} {m : Memo} {xs ys : List NEnt} (h : RowOk Γ H R) (ho : Γ.own = [(b, m)]) (hb : H b = some (dN Γ.wd b xs)) (hy : MemOk m H ys) : RowOk Γ (L2.upd H b (dN Γ.wd b ys)) R := by
  obtain ⟨⟨h1, h0, hw⟩, h2⟩ := h
  have tp : ∀ c ys', TupO H c ys' → TupO (L2.upd H b (dN Γ.wd b ys)) c ys' := fun c ys' e => e.upd hb (by intro _ z; unfold dN at z; cases z) (by intro _ _ z; unfold dN at z; cases z)
  refine ⟨⟨Tabs_upd h1 hb (by intro _ z; unfold dN at z; cases z) dN_ne_code, fun p hp => ?_, hw.upd hb (by intro _ _ _ z; unfold dN at z; cases z) (by intro _ z; unfold dN at z; cases z) (by intro _ _ z; unfold dN at z; cases z) (by intro _ z; unfold dN at z; cases z) (by intro _ _ _ z; unfold dN at z; cases z)⟩, ?_⟩
  · rw [ho] at hp
    rw [List.mem_singleton.mp hp]
    exact ⟨ys, upd_same, hy.imp tp⟩
  · cases R with
    | none => trivial
    | some r => 
      show L2.upd H b _ r.addr = _
      rw [upd_ne (ne_of h2 hb (by intro z; unfold dN at z; cases z))]
      exact h2
theorem Ext.putM {Γ : Ctx} {B : List Addr} {H : Hp} {b : Addr} {m : Memo} {xs ys : List NEnt} (ho : Γ.own = [(b, m)]) (hb : H b = some (dN Γ.wd b xs)) : Ext Γ B H (L2.upd H b (dN Γ.wd b ys)) where
  st := fun c o _ h s => by
    have : c ≠ b := fun e => by
      subst e
      rw [hb] at h
      cases h
      unfold dN at s
      cases s
    rw [upd_ne this]; exact h
  ex := fun c φ _ n h => by
    have : c ≠ b := fun e => n (by unfold Ctx.ownA; rw [ho, e]; exact List.mem_cons_self)
    rw [upd_ne this]; exact h
  ca := fun c k _ h => ⟨k, by rw [upd_ne (ne_of h hb (by intro z; unfold dN at z; cases z))]; exact h⟩
  al := fun c o h => by
    by_cases e : c = b
    · subst e
      exact ⟨_, upd_same, fun _ => dN_ne_code⟩
    · exact ⟨o, by rw [upd_ne e]; exact h, id⟩
/-- what is asked of a memo's body: the key stays, the value is the memo's -/
def MemGo (j m : Nat) (k : NestedKey) (b : Addr) (δ' : SEnv) : Prop := (∃ ds, δ'[j]? = some (.dat (.tup ds)) ∧ nkD (.tup ds) = some k) ∧ δ'[m]? = some (.dat (.row b))
open Classical in
noncomputable def sMemo (Γ : Ctx) (j m : Nat) (f : SM) (fe : SEnv → M D) : SM := fun δ R => if h : ∃ d k b M δ' R', Γ.own = [(b, M)] ∧ MemGo j m k b δ ∧ f δ R = .nx δ' R' ∧ fe δ' R' = .ok d R ∧ MemGo j m k b δ' ∧ k ∈ M.dom ∧ k.depth ≤ 8 ∧ flV d = some (M.f k) then .rt h.choose R else .stuck
theorem flV_inj {d d' : D} {v : V} (h : flV d = some v) (h' : flV d' = some v) : d = d' := by
  cases d <;> simp only [flV, Option.some.injEq] at h <;> first | (cases h; done) | skip
  all_goals subst h; cases d' <;> simp only [flV, Option.some.injEq] at h' <;> first | (cases h'; done) | (cases h'; rfl) | rfl
theorem MemGo.uq {j m : Nat} {k k' : NestedKey} {b b' : Addr} {δ : SEnv} (h : MemGo j m k b δ) (h' : MemGo j m k' b' δ) : k = k' ∧ b = b' := by
  obtain ⟨⟨ds, e1, e2⟩, e3⟩ := h
  obtain ⟨⟨ds', f1, f2⟩, f3⟩ := h'
  rw [e1] at f1
  cases f1
  rw [e2] at f2
  cases f2
  rw [e3] at f3
  cases f3
  exact ⟨rfl, rfl⟩
theorem sMemo_eq {Γ : Ctx} {j m : Nat} {f : SM} {fe : SEnv → M D} {δ δ' : SEnv} {R R' : Option Rw} {d : D} {k : NestedKey} {b : Addr} {M : Memo} (ho : Γ.own = [(b, M)]) (h1 : MemGo j m k b δ) (h2 : f δ R = .nx δ' R') (h3 : fe δ' R' = .ok d R) (h4 : MemGo j m k b δ') (hk : k ∈ M.dom) (hd : k.depth ≤ 8) (hv : flV d = some (M.f k)) : sMemo Γ j m f fe δ R = .rt d R := by
  unfold sMemo
  have hx : ∃ d k b M δ' R', Γ.own = [(b, M)] ∧ MemGo j m k b δ ∧ f δ R = .nx δ' R' ∧ fe δ' R' = .ok d R ∧ MemGo j m k b δ' ∧ k ∈ M.dom ∧ k.depth ≤ 8 ∧ flV d = some (M.f k) := ⟨d, k, b, M, δ', R', ho, h1, h2, h3, h4, hk, hd, hv⟩
  rw [dif_pos hx]
  obtain ⟨k', b', M', δ2, R2, ho', g1, _, _, _, _, _, gv⟩ := hx.choose_spec
  obtain ⟨rfl, rfl⟩ := h1.uq g1
  rw [ho] at ho'
  cases ho'
  rw [flV_inj gv hv]
def sSkip : SM := fun δ R => .nx δ R
section
variable {Γ : Ctx} {W : WX} {X : Cx} {e em et em2 et2 em3 et3 c : Expr} {body : List Stmt} {s1 s2 : Stmt} {f : SM} {fe f1 f2 : SEnv → M D} {fc : SEnv → M Bool} {j m : Nat} {p1 p2 p3 p4 p5 p6 p7 p8 p9 pos : Pos}
/-- the put, alone or behind others -/
def tPutM (Γ : Ctx) (W : WX) (j m : Nat) (f : SM) (fe : SEnv → M D) : TS := tThen Γ W f (sAPut Γ.wd (tVar m) (tVar j) (tD Γ W fe))
theorem dp_put (hw : Γ.wd = X.w) (hu : X.A.units + 65 < cLine) (hm : PE X em (tVar m)) (ht : PE X et (tVar j)) (he : PE X e (tD Γ W fe)) (hs : swapsWith e (some (.Subscript em et p4)) p5.line X.env = pure false := by rfl) :
    PS X (.Assign [.Subscript em et p4] e p5) (sAPut Γ.wd (tVar m) (tVar j) (tD Γ W fe)) := by
  rw [hw]
  exact ps_aput hu hm ht he hs
theorem dp_if (hc : PT X c (tB Γ W fc)) (h1 : PS X s1 (sAPut Γ.wd (tVar m) (tVar j) (tD Γ W f1))) (h2 : PS X s2 (sAPut Γ.wd (tVar m) (tVar j) (tD Γ W f2))) : PS X (.If c [s1] [s2] pos) (sAPut Γ.wd (tVar m) (tVar j) (tD Γ W (dIf fc f1 f2))) :=
  (ps_if hc (pss_one h1) (pss_one h2)).imp fun Dn σ H h => by
    obtain ⟨H0, A, B, P, R, δ, S, h⟩ := h
    refine ⟨H0, A, B, P, R, δ, S, go S h fun k k' R1 H1 m r S1 h1 => ?_⟩
    have r1 : k = k' := r
    subst r1
    cases k with
    | true => exact ⟨H0, A, B, P, R1, δ, S1, h1⟩
    | false => exact ⟨H0, A, B, P, R1, δ, S1, h1⟩
theorem dp_one (h : PS X s1 (sAPut Γ.wd (tVar m) (tVar j) (tD Γ W fe))) : PSs X [s1] (tPutM Γ W j m sSkip fe) := (pss_one h).imp fun Dn σ H h => by
  obtain ⟨H0, A, B, P, R, δ, S, h⟩ := h
  exact nx_out h (fun _ z => z) S
theorem dp_cons (h1 : PS X s1 (tS Γ W f)) (h : PS X s2 (sAPut Γ.wd (tVar m) (tVar j) (tD Γ W fe))) : PSs X [s1, s2] (tPutM Γ W j m f fe) := ds_then h1 (pss_one h)
theorem ds_memo (hw : Γ.wd = X.w) (hu : X.A.units + 65 < cLine) (hm1 : PE X em (tVar m)) (ht : PE X et (tVar j)) (hm3 : PE X em3 (tVar m)) (ht3 : PE X et3 (tVar j)) (hB : PSs X body (tPutM Γ W j m f fe)) (hsl : NoSl et3)
    (hm : behindInMarks .NotIn em = false := by first | exact nobehind _ (by decide) (by decide) | rfl) :
    PSs X [.If (.Compare et [.NotIn] [em] p2) body [] p6, .Return (some (.Subscript em3 et3 p8)) p9] (tS Γ W (sMemo Γ j m f fe)) :=
  (pss_cons (ps_if (pt_cmp (pc_anotin hu ht hm1) hm) hB pss_nil) (pss_one (ps_ret (pe_aget hu hm3 ht3 hsl)))).imp fun Dn σ H h => by
  obtain ⟨H0, A, B, P, R, δ, S, h⟩ := h
  unfold sMemo at h
  split at h
  · rename_i hx
    obtain ⟨k, b, M, δ', R', ho, g1, e2, e3, g4, hk, hd, hv⟩ := hx.choose_spec
    generalize hx.choose = d at h e3 hv
    clear hx
    have look : ∀ {δ R H P} {σ : L2.St}, RepS Γ H0 A B P R H σ δ → MemGo j m k b δ → ∃ c xs, σ[j]? = some (some (.ref c)) ∧ σ[m]? = some (some (.ref b)) ∧ KeyV H k (.ref c) ∧ H b = some (dN Γ.wd b xs) ∧ MemOk M H xs := fun {δ R H P σ} S g => by
      obtain ⟨⟨ds, q1, q2⟩, q3⟩ := g
      obtain ⟨vt, k1, r1⟩ := S.slots.get q1
      obtain ⟨vm, k2, r2⟩ := S.slots.get q3
      rw [Rep] at r2
      subst r2
      have kv := Rep.keyV _ r1 q2
      obtain ⟨c, ys, rfl, _, _⟩ := Rep_tup.mp r1
      obtain ⟨xs, h1, h2⟩ := S.row.1.2.1 (b, M) (by rw [ho]; exact List.mem_cons_self)
      exact ⟨c, xs, k1, k2, kv, h1, h2⟩
    obtain ⟨c, xs, k1, k2, kv, hb, mo⟩ := look S g1
    have gt : AGet X.w H b (.ref c) (valN xs k) := .inr ⟨xs, k, c, by rw [← hw]; exact hb, mo.keysAt, rfl, kv, hd, rfl⟩
    cases hval : valN xs k with
    | some x =>
      rw [hval] at gt
      refine ⟨_, k1, _, k2, b, _, rfl, gt, false, rfl, ?_⟩
      simp only [Bool.false_eq_true, if_false]
      refine ⟨_, k2, _, k1, b, _, rfl, gt, ?_⟩
      have ex : x = M.f k := mo.val hval
      subst ex
      exact h _ H ⟨S.ext, S.row, rfl⟩ (flV_rep hv)
    | none =>
      rw [hval] at gt
      refine ⟨_, k1, _, k2, b, _, rfl, gt, true, rfl, ?_⟩
      simp only [if_true]
      refine ⟨H0, A, B, P, R, δ, S, ?_⟩
      rw [e2]
      intro σ1 H1 P1 s1 S1
      refine ⟨H0, A, B, P1, R', δ', S1, ?_⟩
      rw [e3]
      intro w1 H2 mv rv
      have := flV_eq hv rv
      subst this
      have S2 := S1.move mv
      obtain ⟨c', xs', k1', k2', kv', hb', mo'⟩ := look S2 g4
      refine ⟨_, k2', _, k1', b, _, rfl, .inr ⟨xs', k, c', hb', mo'.keysAt, rfl, kv', hd, mo'.small, rfl⟩, ?_⟩
      have tp : ∀ q ys, TupO H2 q ys → TupO (L2.upd H2 b (dN Γ.wd b (putN xs' k c' (M.f k)))) q ys := fun q ys z => z.upd hb' (by intro _ z; unfold dN at z; cases z) (by intro _ _ z; unfold dN at z; cases z)
      have mo2 := mo'.put hk kv'
      have gt4 : AGet X.w (L2.upd H2 b (dN Γ.wd b (putN xs' k c' (M.f k)))) b (.ref c') (some (M.f k)) := .inr ⟨_, k, c', by rw [← hw]; exact upd_same, (mo2.imp tp).keysAt, rfl, kv'.imp tp, hd, by rw [valN_put, if_pos rfl]⟩
      refine ⟨_, k2', _, k1', b, _, rfl, gt4, ?_⟩
      exact h _ _ ⟨S2.ext.trans (Ext.putM ho hb'), S2.row.putM ho hb' mo2, rfl⟩ (flV_rep hv)
  · exact h.elim
end
instance : Inhabited Memo := ⟨Memo.no⟩
/-! ### a call with a memo of its own -/
open Classical in
noncomputable def dMemo2 (Γ : Ctx) (nm : String) (F : Ctx → List D → M D) (i j : Nat) : SEnv → M D := fun δ R => match δ[i]?, δ[j]? with
  | some (.dat x), some (.dat y) => if h : ∃ d, ∀ b, F (Γ.memo b (Γ.mem nm x)) [x, y, .row b] R = .ok d R then .ok h.choose R else .stuck
  | _, _ => .stuck
theorem dMemo2_eq {Γ : Ctx} {nm : String} {F : Ctx → List D → M D} {i j : Nat} {δ : SEnv} {R : Option Rw} {x y d : D} (h1 : δ[i]? = some (.dat x)) (h2 : δ[j]? = some (.dat y)) (h : ∀ b, F (Γ.memo b (Γ.mem nm x)) [x, y, .row b] R = .ok d R) : dMemo2 Γ nm F i j δ R = .ok d R := by
  unfold dMemo2
  rw [h1, h2]
  have hx : ∃ d, ∀ b, F (Γ.memo b (Γ.mem nm x)) [x, y, .row b] R = .ok d R := ⟨d, h⟩
  simp only [hx, dite_true]
  have e := hx.choose_spec 0
  rw [h 0] at e
  have := (Out.ok.inj e).1
  rw [← this]
open Classical in
noncomputable def dMemo1 (Γ : Ctx) (nm : String) (F : Ctx → List D → M D) (i : Nat) : SEnv → M D := fun δ R => match δ[i]? with
  | some (.dat x) => if h : ∃ d, ∀ b, F (Γ.memo b (Γ.mem nm x)) [x, .row b] R = .ok d R then .ok h.choose R else .stuck
  | _ => .stuck
theorem dMemo1_eq {Γ : Ctx} {nm : String} {F : Ctx → List D → M D} {i : Nat} {δ : SEnv} {R : Option Rw} {x d : D} (h1 : δ[i]? = some (.dat x)) (h : ∀ b, F (Γ.memo b (Γ.mem nm x)) [x, .row b] R = .ok d R) : dMemo1 Γ nm F i δ R = .ok d R := by
  unfold dMemo1
  rw [h1]
  have hx : ∃ d, ∀ b, F (Γ.memo b (Γ.mem nm x)) [x, .row b] R = .ok d R := ⟨d, h⟩
  simp only [hx, dite_true]
  have e := hx.choose_spec 0
  rw [h 0] at e
  have := (Out.ok.inj e).1
  rw [← this]
section
variable {Γ : Ctx} {W : WX} {X : Cx} {ew et : Expr} {p pos pd : Pos} {k : Nat} {x : Str} {nm : String} {F : Ctx → List D → M D} {i j : Nat}
/-- a call whose memo hangs on the first argument's data -/
theorem pe_callV {ι : Type} [Inhabited ι] {G : ι → Ctx} {Fb : ι → List D → M D} {n : Nat} {e : Expr} {es : List Expr} {t : TA} (C : ∀ b, Cal X.prog X.w X.K X.mg X.base (G b) k x n (Fb b)) (hr : Room k X.A) (hg : Gl X x) {E : L2.St → XK} (hx : ∀ σ, PassesAt (L2.CX X.prog X.w) X σ (E σ))
    (ha : PA X (e :: es) t) (hdb : (x == ("__debug__" : Str)) = false := by decide) (he : starEach (e :: es) X.env = (false, eval e X.env) :: starEach es X.env := by rfl) (hpl : (backTo pos (starEach es X.env)).any (·.1) = false := by rfl) :
    PE X (.Call (.Name x p) (e :: es) [] pos) (tCallS (fun vs H Q E => ∃ b, spD (G b) n (Fb b) vs H Q E) E t) := by
  obtain ⟨f, fd0, ps0, ok0, gx, kp, b0⟩ := (C default).ex
  refine ⟨fun pins s σ H Q I h => ?_⟩
  refine wpAny_Call_Name_kw (ld_glob I hg gx ?_ hdb)
  refine PySem.W.callWith_K (h₀ := X.base) I.ok.mod.kin kp (thn (ha.run pos pins s σ H _ I h) fun us s1 ⟨vs, H1, I1, r, q⟩ => ⟨I1.kIn, ?_⟩) he hpl
  obtain ⟨b, q⟩ := q
  obtain ⟨f', fd, ps, ok, gx', kp', bb⟩ := (C b).ex
  rw [gx] at gx'
  cases gx'
  exact run_fnS ok hr bb (hx σ) I1 r q
theorem pd_callM2 (hwd : Γ.wd = X.w) (C : ∀ b M, Cal X.prog X.w X.K X.mg X.base (Γ.memo b M) k x 3 (F (Γ.memo b M))) (hr : Room k X.A) (tk : Takes X W) (hw : PE X ew (tVar i)) (ht : PE X et (tVar j)) (hg : Gl X x := by rfl)
    (hdb : (x == ("__debug__" : Str)) = false := by decide) (h1 : starEach [ew, et, .Dict [] [] pd] X.env = (false, eval ew X.env) :: starEach [et, .Dict [] [] pd] X.env := by rfl)
    (h2 : starEach [et, .Dict [] [] pd] X.env = (false, eval et X.env) :: starEach [.Dict [] [] pd] X.env := by rfl) (h3 : starEach [.Dict [] [] pd] X.env = (false, eval (.Dict [] [] pd) X.env) :: starEach [] X.env := by rfl)
    (hpl : (backTo pos (starEach [et, .Dict [] [] pd] X.env)).any (·.1) = false := by rfl) :
    PE X (.Call (.Name x p) [ew, et, .Dict [] [] pd] [] pos) (tD Γ W (dMemo2 Γ nm F i j)) :=
  (pe_callV (ι := Addr × Memo) (k := k) (G := fun q => Γ.memo q.1 q.2) (Fb := fun q => F (Γ.memo q.1 q.2)) (n := 3) (@fun q => C q.1 q.2) (hr := hr) (hg := hg) (E := WE W) (fun σ => passAt tk σ) (pa_cons hw (pa_cons ht (pa_cons pe_dnewN pa_nil h3) h2) h1) hdb h1 hpl).imp fun σ H Q h => by
  obtain ⟨H0, A, B, P, R, δ, S, h⟩ := h
  unfold dMemo2 at h
  split at h
  · rename_i dx dy e1 e2
    split at h
    · rename_i hx
      obtain ⟨vx, g1, r1⟩ := S.slots.get e1
      obtain ⟨vy, g2, r2⟩ := S.slots.get e2
      refine ⟨_, g1, _, g2, fun b hb => ⟨(b, Γ.mem nm dx), ?_⟩⟩
      have nb : hide (A ++ P) H b = none := hide_none hb
      rw [← hwd]
      have kp : Keeps (Γ.memo b (Γ.mem nm dx)) (hide (A ++ P) H) (hide (A ++ P) (L2.upd H b (dN Γ.wd b []))) := Ext.keeps (B := B) (.new hb) S.bap
      have S1 := S.tomemo (m := Γ.mem nm dx) hb
      refine ⟨[dx, dy, .row b], R, A ++ P, RepL_cons.mpr ⟨_, _, rfl, Rep.keep kp _ (Rep.tomemo nb _ r1), RepL_cons.mpr ⟨_, _, rfl, Rep.keep kp _ (Rep.tomemo nb _ r2), RepL.one (by rw [Rep])⟩⟩, rfl, S1.row, fun a ha => List.mem_append_left _ (S.ra a ha), S1.all, S1.scr, fun z => S.sb (S.rb _ z), ?_⟩
      show ((F (Γ.memo b (Γ.mem nm dx))) [dx, dy, .row b] R).run _ _
      rw [hx.choose_spec b]
      intro v H' m r
      have m2 : Mv (Γ.memo b (Γ.mem nm dx)) (rAddr R) R R H H' := ⟨Ext.trans (.new hb) m.ext, m.row, m.adr⟩
      have m3 := m2.unmemo hb
      exact h v H' ⟨m3.ext.mono S.rb, m3.row, m3.adr⟩ (Rep.unmemo _ r)
    · exact h.elim
  · exact h.elim
theorem pd_callM1 (hwd : Γ.wd = X.w) (C : ∀ b M, Cal X.prog X.w X.K X.mg X.base (Γ.memo b M) k x 2 (F (Γ.memo b M))) (hr : Room k X.A) (tk : Takes X W) (hw : PE X ew (tVar i)) (hg : Gl X x := by rfl)
    (hdb : (x == ("__debug__" : Str)) = false := by decide) (h1 : starEach [ew, .Dict [] [] pd] X.env = (false, eval ew X.env) :: starEach [.Dict [] [] pd] X.env := by rfl)
    (h3 : starEach [.Dict [] [] pd] X.env = (false, eval (.Dict [] [] pd) X.env) :: starEach [] X.env := by rfl)
    (hpl : (backTo pos (starEach [.Dict [] [] pd] X.env)).any (·.1) = false := by rfl) :
    PE X (.Call (.Name x p) [ew, .Dict [] [] pd] [] pos) (tD Γ W (dMemo1 Γ nm F i)) :=
  (pe_callV (ι := Addr × Memo) (k := k) (G := fun q => Γ.memo q.1 q.2) (Fb := fun q => F (Γ.memo q.1 q.2)) (n := 2) (@fun q => C q.1 q.2) (hr := hr) (hg := hg) (E := WE W) (fun σ => passAt tk σ) (pa_cons hw (pa_cons pe_dnewN pa_nil h3) h1) hdb h1 hpl).imp fun σ H Q h => by
  obtain ⟨H0, A, B, P, R, δ, S, h⟩ := h
  unfold dMemo1 at h
  split at h
  · rename_i dx e1
    split at h
    · rename_i hx
      obtain ⟨vx, g1, r1⟩ := S.slots.get e1
      refine ⟨_, g1, fun b hb => ⟨(b, Γ.mem nm dx), ?_⟩⟩
      have nb : hide (A ++ P) H b = none := hide_none hb
      rw [← hwd]
      have kp : Keeps (Γ.memo b (Γ.mem nm dx)) (hide (A ++ P) H) (hide (A ++ P) (L2.upd H b (dN Γ.wd b []))) := Ext.keeps (B := B) (.new hb) S.bap
      have S1 := S.tomemo (m := Γ.mem nm dx) hb
      refine ⟨[dx, .row b], R, A ++ P, RepL_cons.mpr ⟨_, _, rfl, Rep.keep kp _ (Rep.tomemo nb _ r1), RepL.one (by rw [Rep])⟩, rfl, S1.row, fun a ha => List.mem_append_left _ (S.ra a ha), S1.all, S1.scr, fun z => S.sb (S.rb _ z), ?_⟩
      show ((F (Γ.memo b (Γ.mem nm dx))) [dx, .row b] R).run _ _
      rw [hx.choose_spec b]
      intro v H' m r
      have m2 : Mv (Γ.memo b (Γ.mem nm dx)) (rAddr R) R R H H' := ⟨Ext.trans (.new hb) m.ext, m.row, m.adr⟩
      have m3 := m2.unmemo hb
      exact h v H' ⟨m3.ext.mono S.rb, m3.row, m3.adr⟩ (Rep.unmemo _ r)
    · exact h.elim
  · exact h.elim
/-! ### a memo of one's own, to the body's end -/
def isEnd : SOut → Prop
  | .rt _ _ => True
  | .ex _ _ _ => True
  | _ => False
open Classical in
noncomputable def sOpen (Γ : Ctx) (nm : String) (a : Nat) (f : Ctx → SM) (i : Nat) : SM := fun δ R => match δ[a]? with
  | some (.dat x) => if h : ∃ o, isEnd o ∧ ∀ b, f (Γ.memo b (Γ.mem nm x)) (δ.set i (.dat (.row b))) R = o then h.choose else .stuck
  | _ => .stuck
theorem sOpen_eq {Γ : Ctx} {nm : String} {a : Nat} {f : Ctx → SM} {i : Nat} {δ : SEnv} {R : Option Rw} {o : SOut} {x : D} (hx : δ[a]? = some (.dat x)) (he : isEnd o) (h : ∀ b, f (Γ.memo b (Γ.mem nm x)) (δ.set i (.dat (.row b))) R = o) : sOpen Γ nm a f i δ R = o := by
  unfold sOpen
  rw [hx]
  have hy : ∃ o, isEnd o ∧ ∀ b, f (Γ.memo b (Γ.mem nm x)) (δ.set i (.dat (.row b))) R = o := ⟨o, he, h⟩
  simp only [hy, dite_true]
  rw [← hy.choose_spec.2 0, h 0]
theorem ds_open {a i : Nat} {xk : Str} {pk pd pos : Pos} {rest : List Stmt} {f : Ctx → SM} (hwd : Γ.wd = X.w) (hr : ∀ b M, PSs X rest (tS (Γ.memo b M) W (f (Γ.memo b M)))) (hN : X.N.Nodup) (hi : X.N[i]? = some xk) (hx : Loc X.env.scope xk)
    (hs : swapsWith (.Dict [] [] pd) (some (.Name xk pk)) pos.line X.env = pure false := by rfl) (hf : X.fn xk = true ∨ X.env.scope.names.lookup xk = some .local := by first | exact .inl rfl | exact .inr rfl | assumption) :
    PSs X (.Assign [.Name xk pk] (.Dict [] [] pd) pos :: rest) (tS Γ W (sOpen Γ nm a f i)) :=
  (pss_cons (ps_set hN hi hx pe_dnewN hs hf) (u := fun Dn σ H => ∃ q : Addr × Memo, tS (Γ.memo q.1 q.2) W (f (Γ.memo q.1 q.2)) Dn σ H) ⟨fun pins s σ H D I q => by
    obtain ⟨b, q⟩ := q
    exact (hr b.1 b.2).run pins s σ H D I q⟩).imp fun Dn σ H h => by
  obtain ⟨H0, A, B, P, R, δ, S, h⟩ := h
  unfold sOpen at h
  split at h
  · rename_i dx ea
    split at h
    · rename_i hx
      obtain ⟨he, hb⟩ := hx.choose_spec
      generalize hx.choose = o at h he hb
      intro b hfree
      refine ⟨(b, Γ.mem nm dx), ?_⟩
      rw [← hwd]
      have S1 := S.tomemo (m := Γ.mem nm dx) hfree
      have r0 : Rep (Γ.memo b (Γ.mem nm dx)) (hide (A ++ P) (L2.upd H b (dN Γ.wd b []))) (.row b) (.ref b) := by rw [Rep]
      obtain ⟨P1, S2, sub1⟩ := S1.set r0 i
      refine ⟨H0, A, B, P1, R, _, S2, ?_⟩
      rw [hb b]
      have f0 := S.ext.free hfree
      cases o with
      | rt d R' => exact fun v H' m r => h v H' (m.unmemo f0) (Rep.unmemo _ r)
      | ex c d R' => exact fun v dx σ' H' m hx r => h v dx σ' H' (m.unmemo f0) hx (Rep.unmemo _ r)
      | nx _ _ => exact he.elim
      | bk _ _ => exact he.elim
      | ct _ _ => exact he.elim
      | stuck => exact he.elim
    · exact h.elim
  · exact h.elim
end
/-! ### what is one's own is lent to an expression -/
def flM (m : M D) : M D := fun R => match m R with
  | .ok d R' => if (flV d).isSome = true then .ok d R' else .stuck
  | _ => .stuck
def dLend (i : Nat) (fe : SEnv → M D) : SEnv → M D := fun δ => match δ[i]? with
  | some (.ot t) => flM (fe (δ.set i (.dat (frzD t))))
  | _ => M.stuck
theorem pd_lend {Γ : Ctx} {W : WX} {X : Cx} {e : Expr} {fe : SEnv → M D} {i : Nat} (he : PE X e (tD Γ W fe)) : PE X e (tD Γ W (dLend i fe)) := he.imp fun σ H Q h => by
  obtain ⟨H0, A, B, P, R, δ, S, h⟩ := h
  unfold dLend at h
  cases e1 : δ[i]? with
  | none => rw [e1] at h; exact h.elim
  | some sd =>
    rw [e1] at h
    cases sd with
    | none => exact h.elim
    | dat d => exact h.elim
    | ot t =>
      obtain ⟨P', S', sub⟩ := S.freeze e1
      refine ⟨H0, A, B, P', R, _, S', ?_⟩
      cases e2 : fe (δ.set i (.dat (frzD t))) R with
      | ok d R' =>
        have h2 : (if (flV d).isSome = true then Out.ok d R' else Out.stuck : Out D).run (KK Γ B A P (Rep Γ) R H Q) (KE Γ W B A P σ R H) := by
          have h3 : (flM (fe (δ.set i (.dat (frzD t)))) R).run (KK Γ B A P (Rep Γ) R H Q) (KE Γ W B A P σ R H) := h
          unfold flM at h3
          rw [e2] at h3
          exact h3
        by_cases hf : (flV d).isSome = true
        · rw [if_pos hf] at h2
          obtain ⟨x, hx⟩ := Option.isSome_iff_exists.mp hf
          intro v H' m r
          have := flV_eq hx r
          subst this
          exact h2 _ H' m (flV_rep hx)
        · rw [if_neg hf] at h2
          exact h2.elim
      | exn c d R' =>
        have h3 : (flM (fe (δ.set i (.dat (frzD t)))) R).run (KK Γ B A P (Rep Γ) R H Q) (KE Γ W B A P σ R H) := h
        unfold flM at h3
        rw [e2] at h3
        exact h3.elim
      | stuck =>
        have h3 : (flM (fe (δ.set i (.dat (frzD t)))) R).run (KK Γ B A P (Rep Γ) R H Q) (KE Γ W B A P σ R H) := h
        unfold flM at h3
        rw [e2] at h3
        exact h3.elim
theorem dLend_eq {fe : SEnv → M D} {i : Nat} {δ : SEnv} {R R' : Option Rw} {t : OT} {d : D} {x : V} (h : δ[i]? = some (.ot t)) (e : fe (δ.set i (.dat (frzD t))) R = .ok d R') (hf : flV d = some x) : dLend i fe δ R = .ok d R' := by
  unfold dLend
  rw [h]
  show flM (fe (δ.set i (.dat (frzD t)))) R = _
  unfold flM
  rw [e]
  show (if (flV d).isSome = true then Out.ok d R' else Out.stuck : Out D) = _
  rw [hf]
  rfl
/-! ### a, b = a list -/
def sAsgL (ts : List Tgt) (fe : SEnv → M D) : SM := sBind fe fun d δ R => match d with
  | .lst ds => (match bindTs ts ds δ with
    | some δ' => .nx δ' R
    | none => .stuck)
  | _ => .stuck
theorem bindTs_len : ∀ (ts : List Tgt) (ds : List D) (δ δ' : SEnv), bindTs ts ds δ = some δ' → ds.length = ts.length := by
  intro ts
  induction ts with
  | nil => intro ds δ δ' h; cases ds <;> simp [bindTs] at h ⊢
  | cons t ts ih =>
    intro ds δ δ' h
    cases ds with
    | nil => simp [bindTs] at h
    | cons d ds =>
      simp only [bindTs] at h
      cases e1 : bindT t d δ with
      | none => rw [e1] at h; cases h
      | some δ1 => rw [e1] at h; simp [ih ds δ1 δ' h]
theorem ds_asgL {Γ : Ctx} {W : WX} {X : Cx} {e : Expr} {es : List Expr} {fe : SEnv → M D} {ts : List Tgt} {k n : Nat} {pos pos' : Pos} (hc : X.calm = true) (he : PE X e (tD Γ W fe)) (h : PGs X es (gDs Γ ts)) (hn : (assignEach es X.env).length = n := by rfl) (hst : (assignEach es X.env).findIdx? (·.1) = none := by rfl) (hl : ts.length = n := by rfl)
    (hs : swapsWithSole [.Tuple es k pos'] e pos.line X.env = pure false := by rfl) (hw : swappedStores [.Tuple es k pos'] e X.env = pure none := by rfl)
    (h1 : (assignEach [.Tuple es k pos'] X.env).map (·.2) = [assign (.Tuple es k pos') X.env] := by rfl) : PS X (.Assign [.Tuple es k pos'] e pos) (tS Γ W (sAsgL ts fe)) := (ps_asg he (pg_unl hc h hn hst) hs hw h1).imp fun Dn σ H h => by
  obtain ⟨H0, A, B, P, R, δ, S, h⟩ := h
  refine ⟨H0, A, B, P, R, δ, S, sgo S h fun x vx R1 H1 m r S1 h1 => ?_⟩
  cases x with
  | lst ds =>
    obtain ⟨a, xs, rfl, k1, k2, _⟩ := r.lst_at
    cases q : bindTs ts ds δ with
    | none => simp only [q] at h1; exact h1.elim
    | some δ' =>
      simp only [q] at h1
      exact ⟨a, xs, rfl, SqL.of k1, by rw [k2.length, bindTs_len _ _ _ _ q]; exact hl, H0, A, B, P, R1, δ, ds, δ', S1, k2, q, fun σ' P' s' _ S' => nx_out h1 s' S'⟩
  | _ => exact h1.elim
/-! ### list(range(..)) -/
def rgLst : List D → Option D
  | [.int n] => if 0 ≤ n ∧ n ≤ 16777216 then some (.lst (rangeD 0 n.toNat)) else none
  | _ => none
section
variable {Γ : Ctx} {W : WX} {X : Cx} {p pos : Pos}
theorem pd_lstRg {a : Expr} {fa : SEnv → M D} {p2 pos2 : Pos} (hc : X.calm = true) (hm : X.mg "list" = none) (hm2 : X.mg "range" = none) (ha : PE X a (tD Γ W fa)) (hg : Gl X "list" := by rfl) (hg2 : Gl X "range" := by rfl) (na : starEach [a] X.env = (false, eval a X.env) :: starEach [] X.env := by rfl)
    (na2 : starEach [.Call (.Name "range" p2) [a] [] pos2] X.env = (false, eval (.Call (.Name "range" p2) [a] [] pos2) X.env) :: starEach [] X.env := by rfl) :
    PE X (.Call (.Name "list" p) [.Call (.Name "range" p2) [a] [] pos2] [] pos) (tD Γ W (dCall rgLst (lCons fa lNil))) := (pe_listRg hc hg hm (prg_1 hg2 hm2 ha na) na2).imp fun σ H Q h => by
  obtain ⟨H0, A, B, P, R, δ, S, h⟩ := h
  have h' : ((fa δ >>= fun x => M.lift (rgLst [x])) R).run (KK Γ B A P (Rep Γ) R H Q) (KE Γ W B A P σ R H) := by
    have e : dCall rgLst (lCons fa lNil) δ = (fa δ >>= fun x => M.lift (rgLst [x])) := by
      unfold dCall lCons lNil
      rw [M.assoc]
      rfl
    rw [← e]
    exact h
  refine ⟨H0, A, B, P, R, δ, S, go S h' fun x vx R1 H1 m1 r1 S1 h1 => ?_⟩
  obtain ⟨d, ed, q⟩ := lift_out S1 h1
  unfold rgLst at ed
  split at ed
  · rename_i n hx
    split at ed
    · rename_i hn
      cases ed
      cases hx
      refine ⟨n, r1.int_eq, RgOk.of_le (Int.le_refl 0) hn.2 (by omega) hn.1, fun q' hq => q _ _ (grow_new hq) ?_⟩
      refine Rep.new_lst S1.all hq ?_
      unfold rangeD rgV
      rw [Int.sub_zero]
      exact rgV_rep 0 n.toNat id
    · cases ed
  · cases ed
end
end DL

set_option Elab.async false
set_option linter.all false
set_option maxRecDepth 100000
set_option maxHeartbeats 4000000
namespace DL
open PySem PySem.Spec L2 PyProof.Rows
/-! ### a tuple times one -/
theorem tuple_mul1 (l : Addr) (items : Array Value) (n : Nat) (dd : Option Addr) (sl : Array (Option Value)) (u : Tok) (ne : items.isEmpty = false) :
    Meets (Builtin.«tuple.__mul__» ⟨[.ref l, .int 1 u], []⟩) (fun _ R s => s.heap.get? l = some { cls := .type "tuple", dict := dd, data := .seq items n, slots := sl } ∧
      R (.ok (.ret (Value.ref l))) s) :=
  .of_wp fun prog w A R s h => by
    obtain ⟨hp, g, d, tk, os⟩ := s
    obtain ⟨hl, h⟩ := h
    have f1 := AutoSeq1.idx_int
    wp_walk using wpAny_loadPart' hl
    repeat (first
      | (refine wpAny_ite_false (by decide) ?_; wp_walk using wpAny_loadPart' hl)
      | (refine wpAny_ite_true (by rw [ne]; rfl) ?_; wp_walk using wpAny_loadPart' hl)
      | (refine wpAny_ite_true (by decide) ?_; wp_walk using wpAny_loadPart' hl))
    exact ⟨_, rfl, h⟩
def rRepT1 (K : PySem.W.Frag) : R2 := fun x y H Q => ∃ l xs, x = .ref l ∧ y = .int 1 ∧ SqT K H l xs ∧ xs ≠ [] ∧ Q (.ref l) H
theorem op_repT1 {X : Cx} : OpR X (binaryOp .Mult) (rRepT1 X.K) := by
  intro pins s σ H x y v u Q I rx ry h
  obtain ⟨l, xs, rfl, rfl, hT, hne, q⟩ := h
  cases rx
  obtain ⟨t, rfl⟩ := ry
  obtain ⟨its, r, ⟨⟨cls, dd, data, sl⟩, ho, hc, n, hd⟩, hs⟩ := I.tuple hT
  simp only at hc hd
  subst hc hd
  have hle : its.length = xs.length := r.length.symm
  have hn : its ≠ [] := fun e => hne (by
    rw [e] at hle
    exact List.eq_nil_of_length_eq_zero hle.symm)
  have hi : its.toArray.isEmpty = false := by
    cases its with
    | nil => exact absurd rfl hn
    | cons a b => rfl
  refine wpAny_binaryOp_repeat_ref (T := "tuple") (U := "int") (by decide) ⟨_, ho, rfl⟩ (fun s' => typeIs_int s' 1 t) noFill_tuple_mul F.fills_int_mul F.slot_int_rmul repeat_tuple F.slot_int_index.lookup
    (call_meets F.slot_int_rmul (typeIs_int s 1 t) F.entry_int_rmul (F.args_int_rmul_2 _ _) (int_rmul_tuple 1 t l its.toArray n dd sl)
      ⟨ho, rfl, ⟨_, ho, rfl⟩, call_meets F.slot_tuple_mul ⟨_, ho, rfl⟩ F.entry_tuple_mul (F.args_tuple_mul_2 _ _) (tuple_mul1 l its.toArray n dd sl t hi) ⟨ho, ?_⟩⟩)
  exact ⟨.ref l, H, I, rfl, q⟩
def oTimes1 : D → D → Option D
  | .tup a, .int k => if a ≠ [] ∧ k = 1 then some (.tup a) else none
  | _, _ => none
theorem od_repT1 {Γ : Ctx} {K : PySem.W.Frag} : OpD Γ (rRepT1 K) oTimes1 := fun A H x y a b d Q al ra rb e q => by
  cases a <;> cases b <;> simp only [oTimes1] at e <;> try (cases e)
  split at e
  · rename_i h
    cases e
    obtain ⟨l, xs, rfl, h1, h2, _⟩ := ra.tup_at
    refine ⟨l, xs, rfl, by rw [rb.int_eq, h.2], h1.sq, fun z => h.1 (by have := h2.length; rw [z] at this; exact List.length_eq_zero_iff.mp this.symm), q _ H .refl ra⟩
  · cases e
abbrev oTimesA : D → D → Option D := orO oTimes oTimes1
end DL

set_option Elab.async false
set_option linter.all false
set_option maxRecDepth 100000
set_option maxHeartbeats 4000000
namespace DL
open PySem PySem.Spec L2 PyProof.Rows
/-! ### a dict that is data: is it empty, its values' greatest -/
section
variable {prog : Program} {w : World} {A : Around} {E : Value → Shared → Prop} {s : Shared}
theorem len_body_raw {d : Addr} {es : Array DictEntry} {ep : Nat} {Q : Value → Shared → Prop} (hd : (d == sysModules) = false) (hm : s.heap.DictRaw d es ep) (hfit : (es.size : Int) < 2 ^ 63)
    (h : Q (.int es.size (s.toks + 1)) { s with toks := s.toks + 1 + 1 }) : wpAny (model prog w) A (Builtin.«len» ⟨[.ref d], []⟩) (fun fin s' => ∃ r, fin = .done (.ret r) ∧ Q r s') E s := by
  unfold Builtin.«len»
  refine wpAny_bind (m := oneArg "len" _) (wpAny_pure ?_)
  refine wpAny_bind (m := callSpecial? (.ref d) (Str.ofString "__len__")) (wpAny_callSpecial?_slot (name := Str.ofString "__len__") hm.typeIs F.slot_dict_len
    (call_meetsIn F.slot_dict_len hm.typeIs F.entry_dict_len (F.args_dict_len_1 _) (meets_dict_len_raw d hd) ⟨es, ep, hm, ?_⟩))
  show wpAny _ _ _ _ _ { s with toks := s.toks + 1 }
  refine wpAny_bind (wpAny_holding (wpAny_pure ?_))
  refine wpAny_bind (wpAny_letGo ?_)
  show wpAny _ _ (if ((es.size : Nat) : Int) < 0 then _ else _) _ _ _
  rw [if_neg (by omega)]
  show wpAny _ _ (if ((es.size : Nat) : Int) ≥ 2 ^ 63 then _ else _) _ _ _
  rw [if_neg (by omega)]
  exact wpAny_bind (wpAny_mkInt (wpAny_pure ⟨_, rfl, h⟩))
theorem truthy_raw {d : Addr} {es : Array DictEntry} {ep : Nat} {Q : Bool → Shared → Prop} (hd : (d == sysModules) = false) (hm : s.heap.DictRaw d es ep) (hfit : (es.size : Int) < 2 ^ 63)
    (h : Q ((es.size : Int) != 0) { s with toks := s.toks + 1 + 1 }) : wpAny (model prog w) A (truthy (.ref d)) Q E s := by
  have key : wpAny (model prog w) A (runValue (.builtin "len" ⟨[.ref d], []⟩)) (fun r s' => r = .int es.size (s.toks + 1) ∧ Q ((es.size : Int) != 0) s') E s := by
    refine wpAny_runValue (codeAny_builtin entry_len ?_)
    rw [Around.under_plainId plain_len _]
    exact wpAny_mono (len_body_raw (Q := fun r s' => r = .int es.size (s.toks + 1) ∧ Q ((es.size : Int) != 0) s') hd hm hfit ⟨rfl, h⟩)
      (fun fin s' h' => by obtain ⟨r, rfl, hq⟩ := h'; exact hq) fun _ _ e => e
  unfold truthy
  first
    | refine wpAny_bind (wpAny_callSpecial?_none (name := Str.ofString "__bool__") hm.typeIs noBool_dict ?_)
    | refine wpAny_bind (wpAny_pure (wpAny_bind (wpAny_callSpecial?_none (name := Str.ofString "__bool__") hm.typeIs noBool_dict ?_)))
  first
    | refine wpAny_bind (wpAny_specialOf (name := Str.ofString "__len__") hm.typeIs F.slot_dict_len.lookup ?_)
    | refine wpAny_bind (wpAny_pure (wpAny_bind (wpAny_specialOf (name := Str.ofString "__len__") hm.typeIs F.slot_dict_len.lookup ?_)))
  first
    | exact wpAny_bind (wpAny_mono key (fun r s' h' => by obtain ⟨rfl, hq⟩ := h'; exact wpAny_pure hq) fun _ _ e => e)
    | exact wpAny_bind (wpAny_pure (wpAny_bind (wpAny_mono key (fun r s' h' => by obtain ⟨rfl, hq⟩ := h'; exact wpAny_pure hq) fun _ _ e => e)))
end
/-- what stands behind dN -/
theorem dn_raw {P : Program} {w : World} {H : Hp} {h : Heap} {a : Addr} {xs : List NEnt} (ok : HOk P w H h) (e : H a = some (dN w a xs)) : xs.length ≤ sizeLine ∧ (a == sysModules) = false ∧ ∃ es ep, h.DictRaw a es ep ∧ es.size = xs.length ∧ ∀ i (hi : i < es.size), ∃ x, xs[i]? = some x ∧ es[i].key = .ref x.2.1 ∧ RelV x.2.2 es[i].val := by
  obtain ⟨⟨⟨h1, h2, h3⟩, ys, h4, ob, es, ep, h5, h6, h7, h8, h9⟩, _⟩ := (show ObjOk P w H h a (dN w a xs) from ok a _ e)
  have hl : ys.length = xs.length := (Paired.length h4).symm
  have hz : es.size = ys.length := by rw [← Array.length_toList, h8, List.length_map]
  refine ⟨h1, h2, es, ep, ⟨ob, h5, h6, h7⟩, by omega, fun i hi => ?_⟩
  have hy : i < ys.length := by omega
  have he : es[i] = (⟨ys[i].1.hash w, .ref ys[i].2.1, ys[i].2.2⟩ : DictEntry) := by
    have z : es.toList[i]? = (ys.map fun x => (⟨x.1.hash w, .ref x.2.1, x.2.2⟩ : DictEntry))[i]? := by rw [h8]
    rw [Array.getElem?_toList, Array.getElem?_eq_getElem hi, List.getElem?_map, List.getElem?_eq_getElem hy] at z
    exact Option.some.inj z
  have pr : ∀ {xs : List NEnt} {ys : List (NestedKey × Addr × Value)} {i : Nat}, Paired NRel xs ys → ∀ (hy : i < ys.length), ∃ x, xs[i]? = some x ∧ NRel x ys[i] := fun {xs ys i} r => by
    induction r generalizing i with
    | nil => intro hy; simp at hy
    | @cons p q ps qs r t ih =>
      intro hy
      cases i with
      | zero => exact ⟨p, rfl, r⟩
      | succ i =>
        obtain ⟨x, e1, e2⟩ := ih (i := i) (by simpa using hy)
        exact ⟨x, by simpa using e1, e2⟩
  obtain ⟨x, e1, e2⟩ := pr h4 hy
  exact ⟨x, e1, by rw [he, ← e2.2.1], by rw [he]; exact e2.2.2⟩
def tTruN (w : World) (te : TE) : L2.St → Hp → (Bool → Hp → Prop) → Prop := fun σ H Q => te σ H fun x H1 => ∃ a xs, x = .ref a ∧ H1 a = some (dN w a xs) ∧ Q (!xs.isEmpty) H1
theorem pt_truN {X : Cx} {a : Expr} {ta : TE} (ha : PE X a ta) (he : ∀ whole, isTrue a X.env whole = (do let v ← whole; standAt a.pos; holding [v] (truthy v)) := by intro _; rfl) : PT X a (tTruN X.w ta) := by
  refine ⟨fun pins s σ H Q I h => ?_⟩
  refine isTrue_plain (thn (ha.run pins s σ H _ I h) fun v s1 ⟨x, H1, I1, r1, a', xs, ex, hx, q1⟩ => ?_) (he _)
  subst ex
  obtain rfl : v = Value.ref a' := r1
  obtain ⟨z1, z2, es, ep, raw, sz, _⟩ := dn_raw I1.hok hx
  refine truthy_raw z2 raw (by rw [sizeLine_eq] at z1; omega) ?_
  have e : ((es.size : Int) != 0) = !xs.isEmpty := by
    rw [sz]
    cases xs <;> simp <;> omega
  rw [e]
  exact ⟨H1, I1.tok _, q1⟩
/-- max(o.values()), a dict that is data -/
def tMaxVN (w : World) (td : TE) : TE := fun σ H Q => td σ H fun x H1 => ∃ a xs is, x = V.ref a ∧ H1 a = some (dN w a xs) ∧ xs.map (·.2.2) = is.map V.int ∧ is ≠ [] ∧ ∀ m, m ∈ is → (∀ j ∈ is, j ≤ m) → Q (.int m) H1
theorem pe_maxVN {X : Cx} {o : Expr} {p pos apos mpos : Pos} {td : TE} (hc : X.calm = true) (hg : Gl X "max") (hm : X.mg "max" = none) (hd : PE X o td) (hbase : attributeBase o "values" X.env (eval o X.env) = eval o X.env := by rfl) (hline : (apos.endLine == mpos.line) = true := by rfl)
    (hse : starEach [Expr.Call (.Attribute o "values" apos) [] [] mpos] X.env = [(false, eval (Expr.Call (.Attribute o "values" apos) [] [] mpos) X.env)] := by rfl) :
    PE X (.Call (.Name "max" p) [.Call (.Attribute o "values" apos) [] [] mpos] [] pos) (tMaxVN X.w td) := by
  refine ⟨fun pins s σ H Q I h => ?_⟩
  refine wpAny_Call_Name_kw (ld_blt I hg hm (u := .builtin "max") (by first | rfl | decide +kernel) ?_ (by first | decide +kernel | decide) (by first | decide +kernel | decide))
  rw [hse]
  refine PySem.callWith_builtin1 (wpAny_Call_method0_late hbase hline (thn (hd.run pins s σ H _ I h) fun v s1 ⟨x, H1, I1, r1, a, xs, is, ex, ha, hv, hne, q⟩ => ?_))
  subst ex
  obtain rfl : v = Value.ref a := r1
  obtain ⟨z1, hsys, es, ep, raw, sz, ent⟩ := dn_raw I1.hok ha
  obtain ⟨ob, ho, exd, hdat⟩ := id raw
  refine ⟨"dict", "dict.values", F.plainAttrs_dict, F.slot_dict_values, F.type_dict_values, ⟨ob, ho, exd.1⟩, fun b e => ?_, Calls.callWith_builtin rfl (PySem.evalArgs_none ?_)⟩
  · cases e
    exact ⟨ob, ho, exd.2.1⟩
  refine call_meetsIn F.slot_dict_values ⟨ob, ho, exd.1⟩ F.entry_dict_values (F.args_dict_values_1 _) (meets_dict_values_raw a hsys) ⟨⟨es, ep, raw⟩, ?_⟩
  have k1 : ∀ b u, s1.heap.get? b = some u → (s1.heap.push { cls := .type "dict_values", data := .fields #[.ref a] }).get? b = some u := fun b u e => Heap.get?_push_of_some _ e
  have raw1 : (s1.heap.push { cls := .type "dict_values", data := .fields #[.ref a] }).DictRaw a es ep := raw.at fun o e => k1 _ _ e
  have hlv : es.size = is.length := by
    have e1 := congrArg List.length hv
    rw [List.length_map, List.length_map] at e1
    omega
  have hlen : 0 < es.size := by
    rw [hlv]
    exact List.length_pos_iff.mpr hne
  have hval : ∀ (i : Nat) (v : Value), (∃ hi : i < es.size, v = es[i].val) → ∃ t, v = Value.int (is.getD i 0) t := fun i v ⟨hi, hk⟩ => by
    obtain ⟨x, h1, _, h2⟩ := ent i hi
    have e1 : (xs.map (·.2.2))[i]? = some x.2.2 := by rw [List.getElem?_map, h1] <;> rfl
    rw [hv, List.getElem?_map] at e1
    obtain ⟨j, hj, e2⟩ := Option.map_eq_some_iff.mp e1
    rw [← e2] at h2
    obtain ⟨t, e3⟩ := h2
    refine ⟨t, ?_⟩
    rw [hk, e3, List.getD_eq_getElem?_getD, hj] <;> rfl
  refine call_max_walk (wpAny_pyIter_values_raw (v := s1.heap.objs.size) (d := a) ⟨_, Heap.get?_push_size _ rfl, rfl, rfl⟩ raw1 ?_)
  have hlt : a < s1.heap.objs.size := Heap.lt_size ho
  have hsz : (s1.heap.push { cls := .type "dict_values", data := .fields #[.ref a] }).objs.size = s1.heap.objs.size + 1 := Heap.size_push _ _
  refine ⟨_, _, _, _, _, _, _, rfl, (Walks.rawValues (A := X.A.in1) (I.ok.hd hc) (s1.heap.push { cls := .type "dict_values", data := .fields #[.ref a] }).objs.size a (by rw [hsz]; exact Nat.ne_of_lt (Nat.lt_succ_of_lt hlt)) es ep),
    ⟨⟨_, Heap.get?_push_size _ rfl, rfl, rfl⟩, raw1.at fun o e => Heap.get?_push_of_some _ e⟩, fun b hb => ?_, hlen, CmpOf.ints_gt (fun i => is.getD i 0) hval, fun v h' tk hP hk => ?_⟩
  · show b < ((s1.heap.push _).push _).objs.size
    rw [Heap.size_push, Heap.size_push]
    rw [hsz] at hb
    rcases List.mem_cons.mp hb with e | hb
    · rw [e]
      exact Nat.lt_succ_self _
    · have e : b = a := List.mem_singleton.mp hb
      rw [e]
      exact Nat.lt_succ_of_lt (Nat.lt_succ_of_lt hlt)
  · obtain ⟨t, rfl⟩ := hval _ v hP
    obtain ⟨b1, b2⟩ := argBest_gt (fun i => is.getD i 0) (es.size - 1)
    refine ⟨.int _, H1, I1.kept (t' := tk) fun b u e => hk b u (fun hmem => ?_) (Heap.get?_push_of_some _ (k1 b u e)), ⟨t, rfl⟩, q _ ?_ fun j hj => ?_⟩
    · have e1 : b = (s1.heap.push { cls := .type "dict_values", data := .fields #[.ref a] }).objs.size := List.mem_singleton.mp hmem
      have e2 := Heap.lt_size e
      rw [hsz] at e1
      rw [e1] at e2
      exact absurd e2 (Nat.not_lt.mpr (Nat.le_succ _))
    · exact PySem.getD_mem (by omega)
    · obtain ⟨i, hi, e⟩ := List.mem_iff_getElem.mp hj
      have z := b2 i (by omega)
      have e3 : is.getD i 0 = j := by rw [List.getD_eq_getElem?_getD, List.getElem?_eq_getElem hi, ← e] <;> rfl
      rw [e3] at z
      exact z
/-! ### by data -/
def nzD : D → Option Bool
  | .dct true ks _ => some (!ks.isEmpty)
  | _ => none
def dTN (f : SEnv → M D) : SEnv → M Bool := fun δ => f δ >>= fun x => M.lift (nzD x)
def fMaxV : D → Option D
  | .dct true _ us => (nums us).bind fun ns => if ns = [] then none else some (.int (mxI ns))
  | _ => none
section
variable {Γ : Ctx} {W : WX} {X : Cx} {o : Expr} {fo : SEnv → M D} {p pos apos mpos : Pos}
theorem pdt_truN (hw : Γ.wd = X.w) (ha : PE X o (tD Γ W fo)) (he : ∀ whole, isTrue o X.env whole = (do let v ← whole; standAt o.pos; holding [v] (truthy v)) := by intro _; rfl) : PT X o (tB Γ W (dTN fo)) :=
  (pt_truN ha he).imp fun σ H Q h => by
    obtain ⟨H0, A, B, P, R, δ, S, h⟩ := h
    refine ⟨H0, A, B, P, R, δ, S, go S h fun x vx R1 H1 m1 r1 S1 h1 => ?_⟩
    obtain ⟨k, e, q⟩ := lift_out S1 h1
    cases x <;> simp only [nzD] at e <;> try (cases e)
    rename_i n ks us
    cases n with
    | false => cases e
    | true =>
      cases e
      rw [Rep] at r1
      obtain ⟨a, rfl, n, xs, h1, h2, h3, h4⟩ := r1
      refine ⟨a, xs, rfl, by rw [← hw]; exact (hide_some h1).2, q _ H1 Grow.refl ?_⟩
      show _ = _
      have := congrArg List.length h4
      rw [List.length_map, List.length_map] at this
      cases ks <;> cases xs <;> simp at this ⊢
theorem pd_maxVN (hw : Γ.wd = X.w) (hc : X.calm = true) (hd : PE X o (tD Γ W fo)) (hm : X.mg "max" = none) (hg : Gl X "max" := by rfl) (hbase : attributeBase o "values" X.env (eval o X.env) = eval o X.env := by rfl) (hline : (apos.endLine == mpos.line) = true := by rfl)
    (hse : starEach [Expr.Call (.Attribute o "values" apos) [] [] mpos] X.env = [(false, eval (Expr.Call (.Attribute o "values" apos) [] [] mpos) X.env)] := by rfl) :
    PE X (.Call (.Name "max" p) [.Call (.Attribute o "values" apos) [] [] mpos] [] pos) (tD Γ W (d1 fMaxV fo)) := (pe_maxVN hc hg hm hd hbase hline hse).imp fun σ H Q h => by
  obtain ⟨H0, A, B, P, R, δ, S, h⟩ := h
  refine ⟨H0, A, B, P, R, δ, S, go S h fun x vx R1 H1 m1 r1 S1 h1 => ?_⟩
  obtain ⟨d, e, q⟩ := lift_out S1 h1
  cases x <;> simp only [fMaxV] at e <;> try (cases e)
  rename_i n ks us
  cases n with
  | false => cases e
  | true =>
    simp only [fMaxV] at e
    obtain ⟨ns, en, e2⟩ := Option.bind_eq_some_iff.mp e
    split at e2
    · cases e2
    · rename_i hn
      cases e2
      rw [Rep] at r1
      obtain ⟨a, rfl, nA, xs, h1, h2, h3, h4⟩ := r1
      refine ⟨a, xs, ns, rfl, by rw [← hw]; exact (hide_some h1).2, nums_of h3 en, hn, fun m hm2 hj => ?_⟩
      have : m = mxI ns := Int.le_antisymm (mxI_le hm2) (hj _ (mxI_mem hn))
      rw [this]
      exact q _ _ Grow.refl Rep.of_int
end
end DL

set_option Elab.async false
set_option linter.all false
set_option maxRecDepth 100000
set_option maxHeartbeats 4000000
namespace DL
open PySem PySem.Spec L2 PyProof.Rows
instance NoFz.memo {Γ : Ctx} [h : NoFz Γ] {b : Addr} {m : Memo} : NoFz (Γ.memo b m) := ⟨h.no⟩
/-! ### tuples of which it is known that they have no dict -/
section
variable {X : Cx} {es : List Expr} {pos : Pos}
theorem frz_ok {P : Program} {w : World} {H : Hp} {h : Heap} {a : Addr} {xs : List V} {its : Array Value} (z : xs.length ≤ sizeLine) (r : Vals xs its.toList) (e : h.get? a = some { cls := .type "tuple", data := .seq its }) : ObjOk P w H h a (.frz { cls := .type "tuple", data := .seq its } (.tup xs)) :=
  ⟨e, z, its.toList, r, by rw [Array.toArray_toList]; exact ⟨_, e, rfl, _, rfl⟩⟩
def tTupF (t : TA) : TE := fun σ H Q => t σ H fun xs H1 => xs.length ≤ sizeLine ∧ ∀ (p : Addr) (o : Obj), H1 p = none → o.dict = none → Q (.ref p) (upd H1 p (.frz o (.tup xs)))
theorem pe_tupF {x1} {t : TA} (h : PA X es t) : PE X (.Tuple es x1 pos) (tTupF t) := by
  refine ⟨fun pins s σ H Q I hq => ?_⟩
  refine wpAny_Tuple_spliced (thn (h.run pos pins s σ H _ I hq) fun us s1 ⟨xs, H1, I1, r, z, q⟩ => ⟨by rw [← r.length]; exact z, ?_⟩)
  have hf : H1 s1.heap.objs.size = none := I1.hok.fresh (Nat.le_refl _)
  refine ⟨.ref s1.heap.objs.size, upd H1 s1.heap.objs.size (.frz { cls := .type "tuple", data := .seq us.toArray } (.tup xs)), I1.laid (t' := s1.toks) (fun b u e => Heap.get?_push_of_some _ e) (Nat.le_refl _) ?_, rfl, q _ _ hf rfl⟩
  exact frz_ok z (by simpa using r) (Heap.get?_push_size _ rfl)
def rTupleF (K : PySem.W.Frag) : List V → Hp → VK → Prop := fun xs H Q => ∃ p ys, xs = [.ref p] ∧ ((SqL K H p ys ∧ ∀ (l : Addr) (o : Obj), H l = none → o.dict = none → Q (.ref l) (upd H l (.frz o (.tup ys)))) ∨ (SqT K H p ys ∧ Q (.ref p) H))
theorem call_tupleF : CallR X (.type "tuple") (rTupleF X.K) := by
  intro pins s σ H xs us Q I r h
  obtain ⟨p, ys, rfl, h⟩ := h
  obtain ⟨u, rfl, rx⟩ := vals1 r
  cases rx
  rcases h with ⟨hq, q⟩ | ⟨hq, q⟩
  · obtain ⟨its, r', pl, hz⟩ := I.list hq
    have hlen := r'.length
    refine call_tuple_list pl.isList (fun h' kp => ?_) (by simp only [List.size_toArray] <;> omega)
    have I1 : Inv X pins σ H { s with heap := h' } := I.kept (t' := s.toks) kp
    have I2 : Inv X pins σ (upd H h'.objs.size (.frz { cls := .type "tuple", data := .seq its.toArray } (.tup ys))) { s with heap := h'.push { cls := .type "tuple", data := .seq its.toArray } } :=
      I1.laid (t' := s.toks) (fun b o e => Heap.get?_push_of_some _ e) (Nat.le_refl _) (frz_ok hz (by simpa using r') (Heap.get?_push_size _ rfl))
    exact ⟨.ref h'.objs.size, _, I2, rfl, q _ _ (I1.hok.fresh (Nat.le_refl _)) rfl⟩
  · obtain ⟨its, r', pl, hz⟩ := I.tuple hq
    exact call_tuple_same pl ⟨.ref p, H, I, rfl, q⟩
def rCatF (K : PySem.W.Frag) : R2 := fun x y H Q => ∃ a b xs ys, x = .ref a ∧ y = .ref b ∧ SqT K H a xs ∧ SqT K H b ys ∧ xs.length + ys.length ≤ sizeLine ∧
  (xs = [] → Q (.ref b) H) ∧ (xs ≠ [] → ys = [] → Q (.ref a) H) ∧ (xs ≠ [] → ys ≠ [] → ∀ (p : Addr) (o : Obj), H p = none → o.dict = none → Q (.ref p) (upd H p (.frz o (.tup (xs ++ ys)))))
theorem op_catF : OpR X (binaryOp .Add) (rCatF X.K) := by
  intro pins s σ H x y v u Q I rx ry h
  obtain ⟨a, b, xs, ys, rfl, rfl, ha, hb, hz, q0, q1, q2⟩ := h
  cases rx
  cases ry
  obtain ⟨its, r1, p1, _⟩ := I.tuple ha
  obtain ⟨its2, r2, p2, _⟩ := I.tuple hb
  by_cases hx : xs = []
  · subst hx
    cases r1
    exact cat_tup0 p1 p2 ⟨.ref b, H, I, rfl, q0 rfl⟩
  · refine HT.cat_tup p1 p2 (fun z => hx (r1.nil_iff.mp z)) (fun z => ⟨.ref a, H, I, rfl, q1 hx (r2.nil_iff.mp z)⟩) (fun z => ?_) (by rw [← r1.length, ← r2.length]; exact hz)
    refine ⟨.ref s.heap.objs.size, _, I.laid (t' := s.toks) (o := .frz { cls := .type "tuple", data := .seq (its ++ its2).toArray } (.tup (xs ++ ys))) (fun b ob q => Heap.get?_push_of_some _ q) (Nat.le_refl _) ?_, rfl, q2 hx (fun w => z (r2.nil_iff.mpr w)) _ _ (I.hok.fresh (Nat.le_refl _)) rfl⟩
    exact frz_ok (by rw [List.length_append]; exact hz) (by simpa using r1.append r2) (Heap.get?_push_size _ rfl)
def rSlF (K : PySem.W.Frag) : V → Option Int → Option Int → Hp → VK → Prop := fun x lo hi H Q => ∃ a xs, x = .ref a ∧ SqT K H a xs ∧
  (HT.sIx xs.length 0 lo = 0 ∧ HT.sIx xs.length xs.length hi = xs.length → Q (.ref a) H) ∧ (¬ (HT.sIx xs.length 0 lo = 0 ∧ HT.sIx xs.length xs.length hi = xs.length) → ∀ (p : Addr) (o : Obj), H p = none → o.dict = none → Q (.ref p) (upd H p (.frz o (.tup (cutV xs lo hi)))))
theorem sl_tupF : SlR X (rSlF X.K) := by
  intro pins s σ H x v vl vu lo hi sl Q I rx hs pl pu h
  obtain ⟨a, xs, rfl, hx, q1, q2⟩ := h
  cases rx
  obtain ⟨its, r, ht, hz⟩ := I.tuple hx
  have hlen : its.toArray.size = xs.length := by rw [List.size_toArray]; exact r.length.symm
  refine ⟨"tuple", _, PyProof.Rows.slot_tuple_getitem.lookup, ht.typeIs, ?_⟩
  by_cases hw : HT.sIx xs.length 0 lo = 0 ∧ HT.sIx xs.length xs.length hi = xs.length
  · exact getItem_tuple_whole ht hs pl pu (by rw [hlen]; exact hw) ⟨.ref a, H, I, rfl, q1 hw⟩
  · refine HT.getItem_tuple_cut ht hs pl pu (by rw [hlen]; exact hw) ?_ (by rw [hlen]; exact hz)
    rw [hlen]
    refine ⟨.ref s.heap.objs.size, _, I.laid (t' := s.toks) (o := .frz { cls := .type "tuple", data := .seq (List.take (HT.sIx xs.length xs.length hi - HT.sIx xs.length 0 lo) (List.drop (HT.sIx xs.length 0 lo) its.toArray.toList)).toArray } (.tup (cutV xs lo hi))) (fun b ob q => Heap.get?_push_of_some _ q) (Nat.le_refl _) ?_, rfl, q2 hw _ _ (I.hok.fresh (Nat.le_refl _)) rfl⟩
    exact frz_ok (Nat.le_trans (cutV_length xs lo hi) hz) (by simpa [cutV] using (r.drop (HT.sIx xs.length 0 lo)).take (HT.sIx xs.length xs.length hi - HT.sIx xs.length 0 lo)) (Heap.get?_push_size _ rfl)
/-- t.index(k), t a tuple of numbers -/
def tTupIx (K : PySem.W.Frag) (td ty : TE) : TE := fun σ H Q => td σ H fun x H1 => ∃ a o xs, x = .ref a ∧ o.dict = none ∧ H1 a = some (.frz o (.tup xs)) ∧ ty σ H1 fun y H2 => ∃ (ns : List Int) (k : Int), y = .int k ∧ SqT K H2 a (ns.map V.int) ∧ k ∈ ns ∧ Q (.int (ns.idxOf k : Nat)) H2
theorem pe_tupIx {o e : Expr} {apos cpos : Pos} {td ty : TE} (ho : PE X o td) (he : PE X e ty) (m : M1 X o "index" apos e cpos) : PE X (.Call (.Attribute o "index" apos) [e] [] cpos) (tTupIx X.K td ty) := by
  refine ⟨fun pins s σ H Q I h => ?_⟩
  refine wpAny_Call_method m.base m.few m.line PySem.F.plainAttrs_tuple PySem.F.slot_tuple_index PySem.F.type_tuple_index (thn (ho.run pins s σ H _ I h) fun u s1 ⟨x, H1, I1, rx, a, ob, xs, ex, hd, ha, q1⟩ => ?_)
  subst ex
  obtain rfl : u = Value.ref a := rx
  obtain ⟨g, _, its, _, ho2⟩ := (show ObjOk X.prog X.w H1 s1.heap a (.frz ob (.tup xs)) from I1.hok a _ ha)
  refine ⟨ho2.typeIs, fun b q => by cases q; exact ⟨ob, g, hd⟩, ?_⟩
  rw [m.trees]
  refine Calls.callWith_builtin rfl (Calls.evalArgs_plain (Calls.spliced_cons (thn (he.run pins s1 σ H1 _ I1 q1) fun iv s2 ⟨y, H2, I2, ry, ns, k, ey, hq, hk, q2⟩ => Calls.spliced_nil ?_)))
  subst ey
  obtain ⟨t, rfl⟩ := ry
  obtain ⟨its2, r2, p2, _⟩ := I2.tuple hq
  exact PySem.SeqAt.tuple_index_ints p2 (intsAre_of r2) hk ⟨.int (ns.idxOf k : Nat), H2, I2.tok _, ⟨_, rfl⟩, q2⟩
end
section
variable {Γ : Ctx} {W : WX} {X : Cx} {o e : Expr} {es : List Expr} {fo fe : SEnv → M D} {fl fh : SEnv → M (Option Int)} {fs : SEnv → M (List D)} {apos cpos pos p2 : Pos} {lo hi : Option Expr}
theorem pd_tupF {x1} (h : PA X es (tL Γ W fs)) : PE X (.Tuple es x1 pos) (tD Γ W (dTup fs)) := (pe_tupF h).imp fun σ H Q h => by
  obtain ⟨H0, A, B, P, R, δ, S, h⟩ := h
  refine ⟨H0, A, B, P, R, δ, S, go S h fun xs vs R1 H1 m1 r1 S1 h1 => ?_⟩
  obtain ⟨d, e, q⟩ := lift_out S1 h1
  obtain ⟨d', e', rfl⟩ := Option.map_eq_some_iff.mp e
  obtain ⟨rfl, hl⟩ := lenOk_eq e'
  exact ⟨by rw [r1.length]; exact hl, fun p o hp hd => q _ _ (grow_new hp) (Rep.new_tupF hd S1.all hp r1)⟩
theorem cd_tupleF {K : PySem.W.Frag} : CallD Γ (rTupleF K) fTuple := fun A H xs as d Q al r e q => by
  unfold fTuple at e
  split at e
  · obtain ⟨v, rfl, r1⟩ := r.one_inv
    obtain ⟨p, ys, rfl, h1, h2, _⟩ := r1.lst_at
    cases e
    exact ⟨p, ys, rfl, .inl ⟨SqL.of h1, fun l o hl hd => q _ _ (grow_new hl) (Rep.new_tupF hd al hl h2)⟩⟩
  · obtain ⟨v, rfl, r1⟩ := r.one_inv
    have r1' := r1
    obtain ⟨p, ys, rfl, h1, h2, _⟩ := r1.tup_at
    cases e
    exact ⟨p, ys, rfl, .inr ⟨h1.sq, q _ H .refl r1'⟩⟩
  · cases e
theorem od_catF {K : PySem.W.Frag} : OpD Γ (rCatF K) oCatT := fun A H x y a b d Q al ra rb e q => by
  cases a <;> cases b <;> simp only [oCatT] at e <;> try (cases e)
  rename_i as bs
  split at e
  · rename_i h
    cases e
    have ra' := ra
    have rb' := rb
    obtain ⟨l, xs, rfl, h1, h2, _⟩ := ra.tup_at
    obtain ⟨m, ys, rfl, h3, h4, _⟩ := rb.tup_at
    refine ⟨l, m, xs, ys, rfl, rfl, h1.sq, h3.sq, by rw [h2.length, h4.length]; exact h, fun z => ?_, fun _ z => ?_, fun _ _ p o hp hd => q _ _ (grow_new hp) (Rep.new_tupF hd al hp (h2.append h4))⟩
    · have e1 : as = [] := by have := h2.length; rw [z] at this; exact List.length_eq_zero_iff.mp this.symm
      rw [e1] at q
      exact q _ H .refl rb'
    · have e1 : bs = [] := by have := h4.length; rw [z] at this; exact List.length_eq_zero_iff.mp this.symm
      rw [e1, List.append_nil] at q
      exact q _ H .refl ra'
  · cases e
theorem op_plusF {X : Cx} : OpR X (binaryOp .Add) (fun x y H Q => (rI0 (fun i j => .int (i + j))) x y H Q ∨ (rCat x y H Q ∨ (rCatF X.K x y H Q ∨ (∃ i j, x = .str i ∧ y = .str j ∧ i.length + j.length ≤ sizeLine ∧ Q (.str (i ++ j)) H)))) := op_add.or (op_cat.or (op_catF.or op_add_str))
theorem od_plusF {K : PySem.W.Frag} : OpD Γ (fun x y H Q => (rI0 (fun i j => .int (i + j))) x y H Q ∨ (rCat x y H Q ∨ (rCatF K x y H Q ∨ (∃ i j, x = .str i ∧ y = .str j ∧ i.length + j.length ≤ sizeLine ∧ Q (.str (i ++ j)) H)))) oPlus := fun A H x y a b d Q al ra rb e q => by
  unfold oPlus at e
  split at e
  · exact .inl (od_add A H x y _ _ d Q al ra rb e q)
  · exact .inr (.inl (od_cat A H x y _ _ d Q al ra rb e q))
  · exact .inr (.inr (.inl (od_catF A H x y _ _ d Q al ra rb e q)))
  · exact .inr (.inr (.inr (od_addS A H x y _ _ d Q al ra rb e q)))
  · cases e
theorem pd_sliceF (he : PE X e (tD Γ W fe)) (hl : PO X lo (tO Γ W fl)) (hu : PO X hi (tO Γ W fh)) : PE X (.Subscript e (.Slice lo hi none p2) pos) (tD Γ W (dCut fe fl fh)) := (pe_slice (sl_list.or (sl_tupF.or sl_str)) he hl hu).imp fun σ H Q h => by
  obtain ⟨H0, A, B, P, R, δ, S, h⟩ := h
  refine ⟨H0, A, B, P, R, δ, S, go S h fun x vx R1 H1 m1 r1 S1 h1 => ⟨H0, A, B, P, R1, δ, S1, go S1 h1 fun l l' R2 H2 m2 r2 S2 h2 => ⟨H0, A, B, P, R2, δ, S2, go S2 h2 fun u u' R3 H3 m3 r3 S3 h3 => ?_⟩⟩⟩
  have e1 : l = l' := r2
  have e2 : u = u' := r3
  subst e1 e2
  obtain ⟨d, e, q⟩ := lift_out S3 h3
  have r4 := Rep.keep (S2.keeps m3) _ (Rep.keep (S1.keeps m2) _ r1)
  cases x <;> simp only [oCut] at e <;> try (cases e)
  · split at e
    · cases e
      exact .inr (.inr ⟨_, r4.str_eq, by assumption, q _ H3 .refl Rep.of_str⟩)
    · cases e
  · obtain ⟨p, xs, rfl, h1, h2, _⟩ := r4.lst_at
    exact .inl ⟨p, xs, rfl, SqL.of h1, fun q' hq => q _ _ (grow_new hq) (Rep.new_lst S3.all hq (h2.cut l u))⟩
  · rename_i ds
    have r4' := r4
    obtain ⟨p, xs, rfl, h1, h2, _⟩ := r4.tup_at
    refine .inr (.inl ⟨p, xs, rfl, h1.sq, fun w => ?_, fun _ q' o hq hd => q _ _ (grow_new hq) (Rep.new_tupF hd S3.all hq (h2.cut l u))⟩)
    have ec : cutD ds l u = ds := by
      unfold cutD
      rw [h2.length] at w
      rw [w.1, w.2, List.drop_zero, Nat.sub_zero, List.take_length]
    rw [ec] at q
    exact q _ H3 .refl r4'
def tupI : D → Option (List Int)
  | .tup ds => if intsB ds = true then nums ds else none
  | _ => none
def oIxT (ns : List Int) : D → Option D
  | .int k => if k ∈ ns then some (.int (ns.idxOf k : Nat)) else none
  | _ => none
def dTupIx (fo fe : SEnv → M D) : SEnv → M D := fun δ => fo δ >>= fun x => M.lift (tupI x) >>= fun ns => fe δ >>= fun y => M.lift (oIxT ns y)
theorem pd_tupIx (hz : Γ.fz = true) (ho : PE X o (tD Γ W fo)) (he : PE X e (tD Γ W fe)) (m : M1 X o "index" apos e cpos) : PE X (.Call (.Attribute o "index" apos) [e] [] cpos) (tD Γ W (dTupIx fo fe)) := (pe_tupIx ho he m).imp fun σ H Q h => by
  obtain ⟨H0, A, B, P, R, δ, S, h⟩ := h
  refine ⟨H0, A, B, P, R, δ, S, go S h fun x vx R1 H1 m1 r1 S1 h1 => ?_⟩
  obtain ⟨ns, el, h2⟩ := lift_bind h1
  cases x <;> simp only [tupI] at el <;> try (cases el)
  rename_i ds
  split at el
  · rename_i hi
    have r0 := r1
    rw [Rep_tup] at r0
    obtain ⟨a, xs, rfl, g1, g2⟩ := r0
    obtain ⟨ob, hd, hf⟩ := g1.2 (by unfold Ctx.fzI; rw [hz, hi]; rfl)
    refine ⟨a, ob, xs, rfl, hd, (hide_some hf).2, H0, A, B, P, R1, δ, S1, go S1 h2 fun y vy R2 H2 m2 r2 S2 h3 => ?_⟩
    obtain ⟨d, ed, qq⟩ := lift_out S2 h3
    cases y <;> simp only [oIxT] at ed <;> try (cases ed)
    rename_i k
    split at ed
    · rename_i hk
      cases ed
      have r1' := Rep.keep (S1.keeps m2) _ r1
      obtain ⟨a', ys, e', t1, t2, _⟩ := r1'.tup_at
      cases e'
      have ey := nums_of t2 el
      subst ey
      exact ⟨ns, k, r2.int_eq, t1.sq, hk, qq _ _ .refl Rep.of_int⟩
    · cases ed
  · cases el
end
def oTimesI : D → D → Option D
  | .int i, .int j => oMul (.int i) (.int j)
  | .lst a, .int k => oRep (.lst a) (.int k)
  | _, _ => none
theorem op_timesI {X : Cx} : OpR X (binaryOp .Mult) (fun x y H Q => (rI CMul (fun i j => .int (i * j))) x y H Q ∨ rRep x y H Q) := op_mul.or op_rep
theorem od_timesI {Γ : Ctx} : OpD Γ (fun x y H Q => (rI CMul (fun i j => .int (i * j))) x y H Q ∨ rRep x y H Q) oTimesI := fun A H x y a b d Q al ra rb e q => by
  unfold oTimesI at e
  split at e
  · exact .inl (od_mul A H x y _ _ d Q al ra rb e q)
  · exact .inr (od_rep A H x y _ _ d Q al ra rb e q)
  · cases e
end DL

set_option Elab.async false
set_option linter.all false
set_option maxRecDepth 100000
set_option maxHeartbeats 0
namespace DL
open PySem PySem.Spec L2
noncomputable section
/-! ### what each def computes -/
def N_is_integer : List Str := ["thing"]
def sem_is_integer : SM := (sRet (dAnd (d1 (isiD "int") (dVar 0)) (dNot (d1 (isiD "bool") (dVar 0)))))
def F_is_integer : List D → M D := fun ds R => fin (sem_is_integer (startD N_is_integer ds) R)
def N_is_within : List Str := ["thing", "least", "most"]
def sem_is_within : SM := (sRet (dAnd (dFn 1 F_is_integer (lCons (dVar 0) lNil)) (dChain oLe oLe (dVar 1) (dVar 0) (dVar 2))))
def F_is_within : List D → M D := fun ds R => fin (sem_is_within (startD N_is_within ds) R)
def N_is_sizes : List Str := ["thing", "least", "one"]
def sem_is_sizes : SM := (sSeq (sIf (bOr (bNot (dT (d1 (isiD "tuple") (dVar 0)))) (bNot (dT (dCall fAll (lCons (dComp [2] (.nm 2) (iSeq (dVar 0)) bYes (dFn 3 F_is_within (lCons (dVar 2) (lCons (dVar 1) (lCons (fun _ => pure (.int 60)) lNil))))) lNil))))) (sRet (fun _ => pure (.bl false))) sNx)
  (sRet (d2 oEq (dCall fList (lCons (dVar 0) lNil)) (dCall fSorted (lCons (dVar 0) lNil)))))
def F_is_sizes : List D → M D := fun ds R => fin (sem_is_sizes (startD N_is_sizes ds) R)
def N_is_sum : List Str := ["thing"]
def sem_is_sum : SM := (sSeq (sIf (bOr (bNot (dT (d1 (isiD "tuple") (dVar 0)))) (dB (d2 oNe (dCall fLen (lCons (dVar 0) lNil)) (fun _ => pure (.int 2))))) (sRet (fun _ => pure (.bl false))) sNx)
  (sSeq (sIf (bOr (bNot (dT (dFn 2 F_is_sizes (lCons (d2 oIx (dVar 0) (fun _ => pure (.int 0))) (lCons (fun _ => pure (.int 1)) lNil))))) (bNot (dT (dFn 2 F_is_sizes (lCons (d2 oIx (dVar 0) (fun _ => pure (.int 1))) (lCons (fun _ => pure (.int 2)) lNil)))))) (sRet (fun _ => pure (.bl false))) sNx)
  (sRet (d2 oLe (d2 oPlus (dCall fLen (lCons (d2 oIx (dVar 0) (fun _ => pure (.int 0))) lNil)) (dCall fLen (lCons (d2 oIx (dVar 0) (fun _ => pure (.int 1))) lNil))) (fun _ => pure (.int 8))))))
def F_is_sum : List D → M D := fun ds R => fin (sem_is_sum (startD N_is_sum ds) R)
def N_need_sum : List Str := ["total"]
def sem_need_sum : SM := (sIf (bNot (dT (dFn 1 F_is_sum (lCons (dVar 0) lNil)))) (sRaise "BadSum" (dVar 0)) sNx)
def F_need_sum : List D → M D := fun ds R => fin (sem_need_sum (startD N_need_sum ds) R)
def N_without : List Str := ["sizes", "size", "at"]
def sem_without : SM := (sSeq (sSet 2 (dTupIx (dVar 0) (dVar 1)))
  (sRet (d2 oPlus (dCut (dVar 0) pNone (pSome (dVar 2))) (dCut (dVar 0) (pSome (d2 oPlus (dVar 2) (fun _ => pure (.int 1)))) pNone))))
def F_without : List D → M D := fun ds R => fin (sem_without (startD N_without ds) R)
def N_opened : List Str := ["word", "size", "rest", "given"]
def sem_opened : SM := (sSeq (sSet 3 (dIf (dB (d2 oEq (dVar 0) (fun _ => pure (.str ("chain" : Str))))) (fun _ => pure (.int 2)) (fun _ => pure (.int 4))))
  (sSeq (sIf (dB (d2 oLe (dVar 1) (dIf (dB (d2 oEq (dVar 0) (fun _ => pure (.str ("chain" : Str))))) (fun _ => pure (.int 2)) (fun _ => pure (.int 3))))) (sRet (d2 oPlus (dVar 1) (dVar 2))) sNx)
  (sRet (d2 oPlus (d2 oSub (dVar 1) (dVar 3)) (dCall fAbs (lCons (d2 oPlus (dVar 2) (dVar 3)) lNil))))))
def F_opened : List D → M D := fun ds R => fin (sem_opened (startD N_opened ds) R)
def N_total_value : List Str := ["total", "known", "found"]
def N_values_of : List Str := ["total", "known", "chains", "rings", "found", "size"]
def sem_values_of (FF : List D → M D) : SM := (sSeq (sAsg (.tup [(.nm 2), (.nm 3)]) (dVar 0))
  (sSeq (sOt 4 (fun _ => pure (.dct true [] [])))
  (sSeq (sFor (.nm 5) (iSeq (dVar 2)) (sDPut 4 (dTup (lCons (fun _ => pure (.str ("chain" : Str))) (lCons (dVar 5) lNil))) (d1 oNeg (dFn 3 F_opened (lCons (fun _ => pure (.str ("chain" : Str))) (lCons (dVar 5) (lCons (dFn 2 FF (lCons (dTup (lCons (dFn 2 F_without (lCons (dVar 2) (lCons (dVar 5) lNil))) (lCons (dVar 3) lNil))) (lCons (dVar 1) lNil))) lNil)))))))
  (sSeq (sFor (.nm 5) (iSeq (dVar 3)) (sDPut 4 (dTup (lCons (fun _ => pure (.str ("ring" : Str))) (lCons (dVar 5) lNil))) (d1 oNeg (dFn 3 F_opened (lCons (fun _ => pure (.str ("ring" : Str))) (lCons (dVar 5) (lCons (dFn 2 FF (lCons (dTup (lCons (dVar 2) (lCons (dFn 2 F_without (lCons (dVar 3) (lCons (dVar 5) lNil))) lNil))) (lCons (dVar 1) lNil))) lNil)))))))
  (sFrz 4 (sRet (dVar 4)))))))
def FC_values_of (FF : List D → M D) : List D → M D := fun ds R => fin (sem_values_of FF (startD N_values_of ds) R)
def sem_total_value (Γ : Ctx) (FF : List D → M D) : SM := (sMemo Γ 0 1 (sSet 2 (dFn 2 FF (lCons (dVar 0) (lCons (dVar 1) lNil)))) (dIf (dTN (dVar 2)) (d1 fMaxV (dVar 2)) (fun _ => pure (.int 0))))
def FR_total_value (Γ : Ctx) : Nat → List D → M D
  | 0 => fun _ => M.stuck
  | n + 1 => fun ds R => fin (sem_total_value Γ (FC_values_of (FR_total_value Γ n)) (startD N_total_value ds) R)
def F_values_of (Γ : Ctx) : List D → M D := FC_values_of (FR_total_value Γ 14)
def N_sum_worth : List Str := ["total"]
def sem_sum_worth (Γ : Ctx) : SM := (sSeq (sDrop (dFn 1 F_need_sum (lCons (dVar 0) lNil)))
  (sRet (dMemo1 Γ "total_value" (fun Γ => (FR_total_value Γ 14)) 0)))
def F_sum_worth (Γ : Ctx) : List D → M D := fun ds R => fin (sem_sum_worth Γ (startD N_sum_worth ds) R)
def N_need_long : List Str := ["total", "size"]
def sem_need_long : SM := (sSeq (sDrop (dFn 1 F_need_sum (lCons (dVar 0) lNil)))
  (sIf (bOr (dT (dComp [1] (.nm 1) (iSeq (d2 oIx (dVar 0) (fun _ => pure (.int 0)))) (dB (d2 oLt (dVar 1) (fun _ => pure (.int 3)))) (dVar 1))) (dT (dComp [1] (.nm 1) (iSeq (d2 oIx (dVar 0) (fun _ => pure (.int 1)))) (bOr (dB (d2 oLt (dVar 1) (fun _ => pure (.int 4)))) (dB (d2 oEq (d2 oMod (dVar 1) (fun _ => pure (.int 2))) (fun _ => pure (.int 1))))) (dVar 1)))) (sRaise "BadSum" (dVar 0)) sNx))
def F_need_long : List D → M D := fun ds R => fin (sem_need_long (startD N_need_long ds) R)
def N_extra : List Str := ["total", "chains", "rings"]
def sem_extra : SM := (sSeq (sAsg (.tup [(.nm 1), (.nm 2)]) (dVar 0))
  (sSeq (sIf (bNot (dT (dVar 1))) (sRet (dIf (dT (dVar 2)) (fun _ => pure (.int 8)) (fun _ => pure (.int 0)))) sNx)
  (sRet (dIf (bAnd (dT (dVar 2)) (dB (d2 oEq (d2 oIx (dVar 1) (d1 oNeg (fun _ => pure (.int 1)))) (fun _ => pure (.int 3))))) (fun _ => pure (.int 6)) (fun _ => pure (.int 4))))))
def F_extra : List D → M D := fun ds R => fin (sem_extra (startD N_extra ds) R)
def N_controlled : List Str := ["total", "size"]
def sem_controlled : SM := (sSeq (sDrop (dFn 1 F_need_long (lCons (dVar 0) lNil)))
  (sRet (d2 oPlus (d2 oPlus (dCall fSum (lCons (dComp [1] (.nm 1) (iSeq (d2 oIx (dVar 0) (fun _ => pure (.int 0)))) bYes (d2 oSub (dVar 1) (fun _ => pure (.int 4)))) lNil)) (dCall fSum (lCons (dComp [1] (.nm 1) (iSeq (d2 oIx (dVar 0) (fun _ => pure (.int 1)))) bYes (d2 oSub (dVar 1) (fun _ => pure (.int 8)))) lNil))) (dFn 1 F_extra (lCons (dVar 0) lNil)))))
def F_controlled : List D → M D := fun ds R => fin (sem_controlled (startD N_controlled ds) R)
def N_is_controlled : List Str := ["total"]
def sem_is_controlled : SM := (sRet (d2 oGe (dFn 1 F_controlled (lCons (dVar 0) lNil)) (fun _ => pure (.int 2))))
def F_is_controlled : List D → M D := fun ds R => fin (sem_is_controlled (startD N_is_controlled ds) R)
def N_long_kinds : List Str := ["total"]
def sem_long_kinds : SM := (sSeq (sDrop (dFn 1 F_need_long (lCons (dVar 0) lNil)))
  (sRet (dTup (lCons (dCall fLen (lCons (d2 oIx (dVar 0) (fun _ => pure (.int 0))) lNil)) (lCons (dCall fLen (lCons (d2 oIx (dVar 0) (fun _ => pure (.int 1))) lNil)) (lCons (d2 oPlus (dCall fSum (lCons (d2 oIx (dVar 0) (fun _ => pure (.int 0))) lNil)) (dCall fSum (lCons (d2 oIx (dVar 0) (fun _ => pure (.int 1))) lNil))) lNil))))))
def F_long_kinds : List D → M D := fun ds R => fin (sem_long_kinds (startD N_long_kinds ds) R)
def N__law_taken : List Str := ["row", "many", "found", "cell"]
def sem__law_taken (Γ : Ctx) : SM := (sSeq (sIf (dB (d2 oGt (dRow Γ 3 (dVar 0)) (fun _ => pure (.int 0)))) (sSeq (sSet 2 (d2 oMod (dCall fIntA (lCons (dRow Γ 3 (dVar 0)) lNil)) (dVar 1)))
  (sSeq (sRowSet 0 3 (d2 oDiv (dRow Γ 3 (dVar 0)) (dVar 1)))
  (sRet (dVar 2)))) sNx)
  (sSeq (sRowSet 0 1 (d2 oPlus (dRow Γ 1 (dVar 0)) (fun _ => pure (.int 1))))
  (sSeq (sIf (dB (d2 oGt (dRow Γ 1 (dVar 0)) (d1 (scrLen Γ) (dRow Γ 0 (dVar 0))))) (sSeq (sRowSet 0 2 (d2 oMod (dCall fIntA (lCons (d2 oPlus (d2 oTimesI (dRow Γ 2 (dVar 0)) (fun _ => pure (.int 48271))) (fun _ => pure (.int 11))) lNil)) (fun _ => pure (.int 2147483647))))
  (sRet (d2 oMod (dCall fIntA (lCons (d2 oDiv (dRow Γ 2 (dVar 0)) (fun _ => pure (.int 7))) lNil)) (dVar 1)))) sNx)
  (sSeq (sSet 3 (d2 (scrAt Γ) (dRow Γ 0 (dVar 0)) (d2 oSub (dRow Γ 1 (dVar 0)) (fun _ => pure (.int 1)))))
  (sSeq (sRowSet 0 2 (d2 oMod (dCall fIntA (lCons (d2 oPlus (d2 oPlus (d2 oTimesI (dRow Γ 2 (dVar 0)) (fun _ => pure (.int 48271))) (dVar 3)) (fun _ => pure (.int 11))) lNil)) (fun _ => pure (.int 2147483647))))
  (sSeq (sIf (dB (d2 oGe (dVar 3) (d2 oPow (fun _ => pure (.int 10)) (fun _ => pure (.int 18))))) (sRowSet 0 3 (d2 oDiv (dVar 3) (dVar 1))) sNx)
  (sRet (d2 oMod (dCall fIntA (lCons (dVar 3) lNil)) (dVar 1)))))))))
def F__law_taken (Γ : Ctx) : List D → M D := fun ds R => fin (sem__law_taken Γ (startD N__law_taken ds) R)
def N__law_pick : List Str := ["row", "some"]
def sem__law_pick (Γ : Ctx) : SM := (sRet (d2 oIx (dVar 1) (dFn 2 (F__law_taken Γ) (lCons (dVar 0) (lCons (dCall fLen (lCons (dVar 1) lNil)) lNil)))))
def F__law_pick (Γ : Ctx) : List D → M D := fun ds R => fin (sem__law_pick Γ (startD N__law_pick ds) R)
def N__law_alike : List Str := ["found", "due", "k", "key"]
def sem__law_alike (FF : List D → M D) : SM := (sSeq (sIf (dT (d1 (isiD2 "tuple" "list") (dVar 1))) (sSeq (sIf (bOr (bNot (dT (d1 (isiD2 "tuple" "list") (dVar 0)))) (dB (d2 oNe (d1 (isiD "list") (dVar 0)) (d1 (isiD "list") (dVar 1))))) (sRet (fun _ => pure (.bl false))) sNx)
  (sSeq (sIf (dB (d2 oNe (dCall fLen (lCons (dVar 0) lNil)) (dCall fLen (lCons (dVar 1) lNil)))) (sRet (fun _ => pure (.bl false))) sNx)
  (sRet (d2 oEq (dComp [2] (.nm 2) (iCall rng1 (lCons (dCall fLen (lCons (dVar 1) lNil)) lNil)) (bNot (dT (dFn 2 FF (lCons (d2 oIx (dVar 0) (dVar 2)) (lCons (d2 oIx (dVar 1) (dVar 2)) lNil))))) (dVar 2)) (dLst lNil))))) sNx)
  (sSeq (sIf (dT (d1 (isiD "dict") (dVar 1))) (sSeq (sIf (bOr (bNot (dT (d1 (isiD "dict") (dVar 0)))) (dB (d2 oNe (dCall fList (lCons (dVar 0) lNil)) (dCall fList (lCons (dVar 1) lNil))))) (sRet (fun _ => pure (.bl false))) sNx)
  (sRet (d2 oEq (dComp [3] (.nm 3) (iSeq (dVar 1)) (bNot (dT (dFn 2 FF (lCons (d2 oIx (dVar 0) (dVar 3)) (lCons (d2 oIx (dVar 1) (dVar 3)) lNil))))) (dVar 3)) (dLst lNil)))) sNx)
  (sSeq (sIf (bOr (dB (d2 oIsN (dVar 1) (fun _ => pure .non))) (dT (d1 (isiD "str") (dVar 1)))) (sRet (dAnd (d2 oEq (dVar 0) (dVar 1)) (d2 oEq (d1 (isiD "str") (dVar 0)) (d1 (isiD "str") (dVar 1))))) sNx)
  (sRet (dAnd (d1 (isiD "int") (dVar 0)) (dAnd (d2 oEq (d1 (isiD "bool") (dVar 0)) (d1 (isiD "bool") (dVar 1))) (d2 oEq (dVar 0) (dVar 1))))))))
def FR__law_alike : Nat → List D → M D
  | 0 => fun _ => M.stuck
  | n + 1 => fun ds R => fin (sem__law_alike (FR__law_alike n) (startD N__law_alike ds) R)
def N__law_numbers : List Str := ["mask", "many", "k"]
def sem__law_numbers : SM := (sRet (dCall fTuple (lCons (dComp [2] (.nm 2) (iCall rng1 (lCons (dVar 1) lNil)) (dB (d2 oEq (d2 oMod (d2 oShr (dVar 0) (dVar 2)) (fun _ => pure (.int 2))) (fun _ => pure (.int 1)))) (dVar 2)) lNil)))
def F__law_numbers : List D → M D := fun ds R => fin (sem__law_numbers (startD N__law_numbers ds) R)
def N__law_opened : List Str := ["gives", "size", "rest"]
def sem__law_opened : SM := (sSeq (sIf (dB (d2 oLt (dVar 1) (dIf (dB (d2 oEq (dVar 0) (fun _ => pure (.int 2)))) (fun _ => pure (.int 3)) (fun _ => pure (.int 4))))) (sRet (d2 oPlus (dVar 1) (dVar 2))) sNx)
  (sRet (dCall fMax2 (lCons (d2 oPlus (dVar 1) (dVar 2)) (lCons (d2 oSub (d2 oSub (dVar 1) (d2 oTimesI (fun _ => pure (.int 2)) (dVar 0))) (dVar 2)) lNil)))))
def F__law_opened : List D → M D := fun ds R => fin (sem__law_opened (startD N__law_opened ds) R)
def N__law_sum_worths : List Str := ["parts", "found", "mask", "top", "k", "value"]
def sem__law_sum_worths : SM := (sSeq (sOwn 1 (lenL (lCons (fun _ => pure (.int 0)) lNil)))
  (sSeq (sFor (.nm 2) (iCall rng2 (lCons (fun _ => pure (.int 1)) (lCons (d2 oShl (fun _ => pure (.int 1)) (dCall fLen (lCons (dVar 0) lNil))) lNil))) (sSeq (sSet 3 (fun _ => pure .non))
  (sSeq (sFor (.nm 4) (iSeq (dFn 2 F__law_numbers (lCons (dVar 2) (lCons (dCall fLen (lCons (dVar 0) lNil)) lNil)))) (sSeq (sSet 5 (d2 oSub (fun _ => pure (.int 0)) (dFn 3 F__law_opened (lCons (d2 oIx (d2 oIx (dVar 0) (dVar 4)) (fun _ => pure (.int 0))) (lCons (d2 oIx (d2 oIx (dVar 0) (dVar 4)) (fun _ => pure (.int 1))) (lCons (dIxOwn 1 (d2 oSub (dVar 2) (d2 oShl (fun _ => pure (.int 1)) (dVar 4)))) lNil))))))
  (sSet 3 (dIf (bOr (dB (d2 oIsN (dVar 3) (fun _ => pure .non))) (dB (d2 oGt (dVar 5) (dVar 3)))) (dVar 5) (dVar 3)))))
  (sApp 1 (dVar 3)))))
  (sFrz 1 (sRet (dVar 1)))))
def F__law_sum_worths : List D → M D := fun ds R => fin (sem__law_sum_worths (startD N__law_sum_worths ds) R)
def N__law_even : List Str := ["row", "many", "least", "k"]
def sem__law_even (Γ : Ctx) : SM := (sRet (dCall fSorted (lCons (dComp [3] (.nm 3) (iCall rng1 (lCons (dVar 1) lNil)) bYes (d2 oPlus (dVar 2) (d2 oTimesI (fun _ => pure (.int 2)) (dFn 2 (F__law_taken Γ) (lCons (dVar 0) (lCons (fun _ => pure (.int 5)) lNil)))))) lNil)))
def F__law_even (Γ : Ctx) : List D → M D := fun ds R => fin (sem__law_even Γ (startD N__law_even ds) R)
def N__law_any : List Str := ["row", "many", "least", "k"]
def sem__law_any (Γ : Ctx) : SM := (sRet (dCall fSorted (lCons (dComp [3] (.nm 3) (iCall rng1 (lCons (dVar 1) lNil)) bYes (d2 oPlus (dVar 2) (dFn 2 (F__law_taken Γ) (lCons (dVar 0) (lCons (dFn 2 (F__law_pick Γ) (lCons (dVar 0) (lCons (dLst (lCons (fun _ => pure (.int 1)) (lCons (fun _ => pure (.int 2)) (lCons (fun _ => pure (.int 9)) lNil)))) lNil))) lNil))))) lNil)))
def F__law_any (Γ : Ctx) : List D → M D := fun ds R => fin (sem__law_any Γ (startD N__law_any ds) R)
def N__law_controlled : List Str := ["chains", "rings", "value"]
def sem__law_controlled : SM := (sSeq (sSet 2 (d2 oSub (d2 oPlus (d2 oSub (dCall fSum (lCons (dVar 0) lNil)) (d2 oTimesI (fun _ => pure (.int 4)) (dCall fLen (lCons (dVar 0) lNil)))) (dCall fSum (lCons (dVar 1) lNil))) (d2 oTimesI (fun _ => pure (.int 8)) (dCall fLen (lCons (dVar 1) lNil)))))
  (sSeq (sIf (bAnd (dB (d2 oEq (dVar 0) (dLst lNil))) (dB (d2 oEq (dVar 1) (dLst lNil)))) (sRet (fun _ => pure (.int 0))) sNx)
  (sSeq (sIf (dB (d2 oEq (dVar 0) (dLst lNil))) (sRet (d2 oPlus (dVar 2) (fun _ => pure (.int 8)))) sNx)
  (sRet (d2 oPlus (dVar 2) (dIf (bAnd (dB (d2 oNe (dVar 1) (dLst lNil))) (dB (d2 oEq (dCall fMax (lCons (dVar 0) lNil)) (fun _ => pure (.int 3))))) (fun _ => pure (.int 6)) (fun _ => pure (.int 4))))))))
def F__law_controlled : List D → M D := fun ds R => fin (sem__law_controlled (startD N__law_controlled ds) R)
/-! ### a web is made -/
def pl : D → Bool
  | .row _ | .fn _ | .web _ _ | .rng _ _ | .dct _ _ _ => false
  | _ => true
def within : D → Int → Int → Bool
  | .int i, a, b => decide (a ≤ i) && decide (i ≤ b)
  | _, _, _ => false
def isStr2 : D → Int → Bool
  | .tup [.int i, y], n => within (.int i) 0 (n - 1) && (within y (i + 1) (n - 1) || within y (-1) (-1))
  | _, _ => false
/-- plain, and the items of a tuple too -/
def pl2 : D → Bool
  | .tup ds => decide (ds.length ≤ sizeLine) && ds.all pl
  | .str x => decide (x.length ≤ sizeLine)
  | d => pl d
def firstBad (n : Int) : List D → Int → Option Int
  | [], _ => none
  | d :: ds, i => if isStr2 d n = true then firstBad n ds (i + 1) else some i
def unpairs : List D → Option (List (Int × Int))
  | [] => some []
  | .tup [.int i, .int j] :: ds => (unpairs ds).map ((i, j) :: ·)
  | _ => none
def F_Web : List D → M D
  | [c, s] => fun R => if (pl c && pl s) = true then (if within c 1 9 = true then (match c with
      | .int n => (match seqD s with
        | none => .exn "BadStrings" (.int (-1)) R
        | some xs => if xs.all pl2 = true ∧ xs.length ≤ sizeLine then (if 12 < xs.length then .exn "BadStrings" (.int (-1)) R else (match firstBad n xs 0 with
          | some i => .exn "BadStrings" (.int i) R
          | none => (match unpairs xs with
            | some ss => .ok (.web n ss) R
            | none => .stuck))) else .stuck)
      | _ => .stuck) else .exn "BadCoins" c R) else .stuck
  | _ => fun _ => .stuck
def N_law : List Str := ["script", "row", "turn", "chains", "rings", "total", "value", "sums", "size", "worth", "some", "wrong", "ask"]
def refW : List (String × Str) := [("BadSum", ("sum" : Str))]
def tab_ask (Γ : Ctx) : FTab := [("controlled", 1, F_controlled), ("is_controlled", 1, F_is_controlled), ("long_kinds", 1, F_long_kinds)]
def sem_law (Γ : Ctx) : SM := (sSeq (sFor (.nm 2) (iCall rng1 (lCons (fun _ => pure (.int 6)) lNil)) (sSeq (sSet 3 (dFn 3 (F__law_any Γ) (lCons (dVar 1) (lCons (dFn 2 (F__law_taken Γ) (lCons (dVar 1) (lCons (fun _ => pure (.int 4)) lNil))) (lCons (fun _ => pure (.int 3)) lNil)))))
  (sSeq (sSet 4 (dFn 3 (F__law_even Γ) (lCons (dVar 1) (lCons (dFn 2 (F__law_taken Γ) (lCons (dVar 1) (lCons (fun _ => pure (.int 3)) lNil))) (lCons (fun _ => pure (.int 4)) lNil)))))
  (sSeq (sSet 5 (dTup (lCons (dCall fTuple (lCons (dVar 3) lNil)) (lCons (dCall fTuple (lCons (dVar 4) lNil)) lNil))))
  (sSeq (sSet 6 (dFn 2 F__law_controlled (lCons (dVar 3) (lCons (dVar 4) lNil))))
  (sSeq (sIf (bOr (bNot (dT (dFn 2 (FR__law_alike 8) (lCons (dFn 1 F_controlled (lCons (dVar 5) lNil)) (lCons (dVar 6) lNil))))) (bNot (dT (dFn 2 (FR__law_alike 8) (lCons (dFn 1 F_is_controlled (lCons (dVar 5) lNil)) (lCons (d2 oGe (dVar 6) (fun _ => pure (.int 2))) lNil)))))) (sRet (fun _ => pure (.bl false))) sNx)
  (sSeq (sIf (bNot (dT (dFn 2 (FR__law_alike 8) (lCons (dFn 1 F_long_kinds (lCons (dVar 5) lNil)) (lCons (dTup (lCons (dCall fLen (lCons (dVar 3) lNil)) (lCons (dCall fLen (lCons (dVar 4) lNil)) (lCons (d2 oPlus (dCall fSum (lCons (dVar 3) lNil)) (dCall fSum (lCons (dVar 4) lNil))) lNil)))) lNil))))) (sRet (fun _ => pure (.bl false))) sNx)
  (sSeq (sSet 7 (dFn 1 F__law_sum_worths (lCons (d2 oPlus (dComp [8] (.nm 8) (iSeq (dVar 3)) bYes (dTup (lCons (fun _ => pure (.int 2)) (lCons (dVar 8) lNil)))) (dComp [8] (.nm 8) (iSeq (dVar 4)) bYes (dTup (lCons (fun _ => pure (.int 4)) (lCons (dVar 8) lNil))))) lNil)))
  (sSeq (sSet 9 (d2 oIx (dVar 7) (d2 oSub (dCall fLen (lCons (dVar 7) lNil)) (fun _ => pure (.int 1)))))
  (sSeq (sIf (dB (d2 oNe (dFn 1 (F_sum_worth Γ) (lCons (dVar 5) lNil)) (dVar 9))) (sRet (fun _ => pure (.bl false))) sNx)
  (sIf (bAnd (dB (d2 oGe (dVar 6) (fun _ => pure (.int 2)))) (dB (d2 oNe (dVar 9) (d2 oSub (fun _ => pure (.int 0)) (dVar 6))))) (sRet (fun _ => pure (.bl false))) sNx)))))))))))
  (sSeq (sSet 10 (dLst (lCons (dTup (lCons (dTup (lCons (fun _ => pure (.int 2)) lNil)) (lCons (dTup lNil) lNil))) (lCons (dTup (lCons (dTup (lCons (fun _ => pure (.int 1)) (lCons (fun _ => pure (.int 3)) lNil))) (lCons (dTup (lCons (fun _ => pure (.int 4)) lNil)) lNil))) (lCons (dTup (lCons (dTup (lCons (fun _ => pure (.int 3)) lNil)) (lCons (dTup (lCons (fun _ => pure (.int 3)) lNil)) lNil))) (lCons (dTup (lCons (dTup lNil) (lCons (dTup (lCons (fun _ => pure (.int 2)) (lCons (fun _ => pure (.int 8)) lNil))) lNil))) (lCons (dTup (lCons (dTup (lCons (fun _ => pure (.int 4)) lNil)) (lCons (dTup (lCons (fun _ => pure (.int 7)) (lCons (fun _ => pure (.int 7)) lNil))) lNil))) (lCons (fun _ => pure .non) (lCons (dTup (lCons (dTup (lCons (fun _ => pure (.int 3)) (lCons (fun _ => pure (.int 3)) lNil))) lNil)) (lCons (dTup (lCons (dLst (lCons (fun _ => pure (.int 3)) lNil)) (lCons (dTup lNil) lNil))) (lCons (dTup (lCons (dTup (lCons (fun _ => pure (.bl true)) lNil)) (lCons (dTup lNil) lNil))) lNil)))))))))))
  (sSeq (sSet 11 (dFn 2 (F__law_pick Γ) (lCons (dVar 1) (lCons (dVar 10) lNil))))
  (sSeq (sFor (.nm 12) (iSeq (dLst (lCons (fun _ => pure (.fn "controlled")) (lCons (fun _ => pure (.fn "is_controlled")) (lCons (fun _ => pure (.fn "long_kinds")) lNil))))) (sIf (dB (d2 oNe (dCall fRepr (lCons (dRef refW (dHeld 12 (tab_ask Γ) (lCons (dVar 11) lNil))) lNil)) (dCall fRepr (lCons (dTup (lCons (fun _ => pure (.str ("sum" : Str))) (lCons (dVar 11) lNil))) lNil)))) (sRet (fun _ => pure (.bl false))) sNx))
  (sRet (fun _ => pure (.bl true)))))))
end
end DL

set_option Elab.async false
set_option linter.all false
set_option maxRecDepth 100000
namespace DL
open PySem PySem.Spec L2
/-! ### the readings' functions, run -/
section
variable {Γ : Ctx} {δ : SEnv} {R : Option Rw}
@[simp] theorem r_pure {α : Type} (a : α) : (pure a : M α) R = .ok a R := rfl
@[simp] theorem r_stuck {α : Type} : (M.stuck : M α) R = .stuck := rfl
@[simp] theorem r_lift_some {α : Type} (a : α) : M.lift (some a) R = .ok a R := rfl
@[simp] theorem r_lift_none {α : Type} : (M.lift none : M α) R = .stuck := rfl
theorem bind_ok {α β : Type} {m : M α} {f : α → M β} {a : α} {R1 : Option Rw} (h : m R = .ok a R1) : (m >>= f) R = f a R1 := by rw [bind_run, h]
theorem bind_exn {α β : Type} {m : M α} {f : α → M β} {c : String} {d : D} {R1 : Option Rw} (h : m R = .exn c d R1) : (m >>= f) R = .exn c d R1 := by rw [bind_run, h]
theorem e_var {i : Nat} {d : D} (h : δ[i]? = some (.dat d)) : dVar i δ R = .ok d R := by unfold dVar; rw [h]; rfl
theorem e_d1 {f : D → Option D} {fa : SEnv → M D} {a d : D} {R1 : Option Rw} (h : fa δ R = .ok a R1) (e : f a = some d) : d1 f fa δ R = .ok d R1 := by unfold d1; rw [bind_ok h, e]; rfl
theorem e_d2 {f : D → D → Option D} {fa fb : SEnv → M D} {a b d : D} {R1 R2 : Option Rw} (h : fa δ R = .ok a R1) (h2 : fb δ R1 = .ok b R2) (e : f a b = some d) : d2 f fa fb δ R = .ok d R2 := by unfold d2; rw [bind_ok h, bind_ok h2, e]; rfl
theorem e_dB {f : SEnv → M D} {k : Bool} {R1 : Option Rw} (h : f δ R = .ok (.bl k) R1) : dB f δ R = .ok k R1 := by unfold dB; rw [bind_ok h]; rfl
theorem e_dT {f : SEnv → M D} {d : D} {k : Bool} {R1 : Option Rw} (h : f δ R = .ok d R1) (e : truD d = some k) : dT f δ R = .ok k R1 := by unfold dT; rw [bind_ok h, e]; rfl
theorem e_dTb {f : SEnv → M D} {k : Bool} {R1 : Option Rw} (h : f δ R = .ok (.bl k) R1) : dT f δ R = .ok k R1 := e_dT h rfl
theorem e_not {f : SEnv → M Bool} {k : Bool} {R1 : Option Rw} (h : f δ R = .ok k R1) : bNot f δ R = .ok (!k) R1 := by unfold bNot; rw [bind_ok h]; rfl
theorem e_andT {f g : SEnv → M Bool} {R1 : Option Rw} (h : f δ R = .ok true R1) : bAnd f g δ R = g δ R1 := by unfold bAnd; rw [bind_ok h, if_pos rfl]
theorem e_andF {f g : SEnv → M Bool} {R1 : Option Rw} (h : f δ R = .ok false R1) : bAnd f g δ R = .ok false R1 := by unfold bAnd; rw [bind_ok h, if_neg Bool.false_ne_true]; rfl
theorem e_orF {f g : SEnv → M Bool} {R1 : Option Rw} (h : f δ R = .ok false R1) : bOr f g δ R = g δ R1 := by unfold bOr; rw [bind_ok h, if_neg Bool.false_ne_true]
theorem e_orT {f g : SEnv → M Bool} {R1 : Option Rw} (h : f δ R = .ok true R1) : bOr f g δ R = .ok true R1 := by unfold bOr; rw [bind_ok h, if_pos rfl]; rfl
theorem e_dNot {f : SEnv → M D} {k : Bool} {R1 : Option Rw} (h : f δ R = .ok (.bl k) R1) : dNot f δ R = .ok (.bl (!k)) R1 := by unfold dNot; rw [bind_ok h]; rfl
theorem e_dAnd {f g : SEnv → M D} {k j : Bool} {R1 : Option Rw} (h : f δ R = .ok (.bl k) R1) (h2 : k = true → g δ R1 = .ok (.bl j) R1) : dAnd f g δ R = .ok (.bl (k && j)) R1 := by
  unfold dAnd
  rw [bind_ok h]
  cases k with
  | true => simp only [asB, M.lift_some, M.pure_bind, if_pos]; rw [h2 rfl]; rfl
  | false => rfl
theorem e_dOr {f g : SEnv → M D} {k j : Bool} {R1 : Option Rw} (h : f δ R = .ok (.bl k) R1) (h2 : k = false → g δ R1 = .ok (.bl j) R1) : dOr f g δ R = .ok (.bl (k || j)) R1 := by
  unfold dOr
  rw [bind_ok h]
  cases k with
  | false => exact h2 rfl
  | true => rfl
theorem e_ifT {c : SEnv → M Bool} {f g : SEnv → M D} {R1 : Option Rw} (h : c δ R = .ok true R1) : dIf c f g δ R = f δ R1 := by unfold dIf; rw [bind_ok h, if_pos rfl]
theorem e_ifF {c : SEnv → M Bool} {f g : SEnv → M D} {R1 : Option Rw} (h : c δ R = .ok false R1) : dIf c f g δ R = g δ R1 := by unfold dIf; rw [bind_ok h, if_neg Bool.false_ne_true]
theorem e_nil : lNil δ R = .ok [] R := rfl
theorem e_cons {f : SEnv → M D} {g : SEnv → M (List D)} {d : D} {ds : List D} {R1 R2 : Option Rw} (h : f δ R = .ok d R1) (h2 : g δ R1 = .ok ds R2) : lCons f g δ R = .ok (d :: ds) R2 := by unfold lCons; rw [bind_ok h, bind_ok h2]; rfl
theorem e_fn {n : Nat} {F : List D → M D} {fs : SEnv → M (List D)} {ds : List D} {R1 : Option Rw} (h : fs δ R = .ok ds R1) (hn : ds.length = n) : dFn n F fs δ R = F ds R1 := by unfold dFn; rw [bind_ok h, if_pos hn]
theorem e_call {f : List D → Option D} {fs : SEnv → M (List D)} {ds : List D} {d : D} {R1 : Option Rw} (h : fs δ R = .ok ds R1) (e : f ds = some d) : dCall f fs δ R = .ok d R1 := by unfold dCall; rw [bind_ok h, e]; rfl
theorem e_tup {fs : SEnv → M (List D)} {ds : List D} {R1 : Option Rw} (h : fs δ R = .ok ds R1) (hl : ds.length ≤ sizeLine) : dTup fs δ R = .ok (.tup ds) R1 := by unfold dTup; rw [bind_ok h]; unfold lenOk; rw [if_pos hl]; rfl
theorem e_lst {fs : SEnv → M (List D)} {ds : List D} {R1 : Option Rw} (h : fs δ R = .ok ds R1) (hl : ds.length ≤ sizeLine) : dLst fs δ R = .ok (.lst ds) R1 := by unfold dLst; rw [bind_ok h]; unfold lenOk; rw [if_pos hl]; rfl
theorem e_meth {n : Nat} {F : List D → M D} {fe : SEnv → M D} {fs : SEnv → M (List D)} {n0 : Int} {ss : List (Int × Int)} {ds : List D} {d : D} {R1 R2 R3 : Option Rw} (h : fe δ R = .ok (.web n0 ss) R1) (h2 : fs δ R1 = .ok ds R2) (hn : (D.web n0 ss :: ds).length = n) (e : F (.web n0 ss :: ds) R2 = .ok d R3) : dMeth n F fe fs δ R = .ok d R3 := by
  unfold dMeth
  rw [bind_ok h]
  simp only [M.lift_some, M.pure_bind]
  rw [bind_ok h2, if_pos hn]
  unfold M.nox
  rw [e]
theorem e_web {F : List D → M D} {fs : SEnv → M (List D)} {ds : List D} {n : Int} {ss : List (Int × Int)} {R1 R2 : Option Rw} (h : fs δ R = .ok ds R1) (hn : ds.length = 2) (e : F ds R1 = .ok (.web n ss) R2) : dWeb F fs δ R = .ok (.web n ss) R2 := by
  unfold dWeb
  rw [bind_ok h, if_pos hn, bind_ok e]
  rfl
theorem e_seq {fe : SEnv → M D} {d : D} {ds : List D} {R1 : Option Rw} (h : fe δ R = .ok d R1) (e : seqD d = some ds) : iSeq fe δ R = .ok ds R1 := by unfold iSeq; rw [bind_ok h, e]; rfl
theorem e_icall {f : List D → Option (List D)} {fs : SEnv → M (List D)} {ds es : List D} {R1 : Option Rw} (h : fs δ R = .ok ds R1) (e : f ds = some es) : iCall f fs δ R = .ok es R1 := by unfold iCall; rw [bind_ok h, e]; rfl
theorem e_some {f : SEnv → M D} {i : Int} {R1 : Option Rw} (h : f δ R = .ok (.int i) R1) : pSome f δ R = .ok (some i) R1 := by unfold pSome; rw [bind_ok h]; rfl
theorem e_none : pNone δ R = .ok none R := rfl
theorem e_cut {fe : SEnv → M D} {fl fh : SEnv → M (Option Int)} {d e : D} {l h : Option Int} {R1 R2 R3 : Option Rw} (h1 : fe δ R = .ok d R1) (h2 : fl δ R1 = .ok l R2) (h3 : fh δ R2 = .ok h R3) (he : oCut d l h = some e) : dCut fe fl fh δ R = .ok e R3 := by
  unfold dCut
  rw [bind_ok h1, bind_ok h2, bind_ok h3, he]
  rfl
/-! ### comprehensions -/
theorem compL_pure {t : Tgt} {ft : SEnv → M Bool} {fe : SEnv → M D} {δ : SEnv} {p : D → Bool} {g : D → D} : ∀ {ds : List D} {R : Option Rw}, (∀ d ∈ ds, ∃ δ1, bindT t d δ = some δ1 ∧ (∀ R, ft δ1 R = .ok (p d) R) ∧ (p d = true → ∀ R, fe δ1 R = .ok (g d) R)) → compL t ft fe δ ds R = .ok ((ds.filter p).map g) R
  | [], R, _ => rfl
  | d :: ds, R, h => by
    obtain ⟨δ1, e1, e2, e3⟩ := h d List.mem_cons_self
    have ih := compL_pure (t := t) (ft := ft) (fe := fe) (δ := δ) (p := p) (g := g) (ds := ds) (R := R) fun x hx => h x (List.mem_cons_of_mem _ hx)
    unfold compL
    rw [e1]
    simp only
    rw [e2]
    cases hp : p d with
    | false =>
      simp only
      rw [ih, List.filter_cons_of_neg (by rw [hp]; exact Bool.false_ne_true)]
    | true =>
      simp only
      rw [e3 hp, List.filter_cons_of_pos hp]
      simp only
      rw [ih]
      rfl
theorem e_comp {vs : List Nat} {t : Tgt} {fi : SEnv → M (List D)} {ft : SEnv → M Bool} {fe : SEnv → M D} {p : D → Bool} {g : D → D} {ds : List D} {R1 : Option Rw} (h : fi δ R = .ok ds R1) (hl : ds.length ≤ sizeLine) (hc : ∀ d ∈ ds, ∃ δ1, bindT t d (blkD δ vs) = some δ1 ∧ (∀ R, ft δ1 R = .ok (p d) R) ∧ (p d = true → ∀ R, fe δ1 R = .ok (g d) R)) :
    dComp vs t fi ft fe δ R = .ok (.lst ((ds.filter p).map g)) R1 := by
  unfold dComp
  rw [bind_ok h]
  unfold lenOk
  rw [if_pos hl]
  simp only [M.lift_some, M.pure_bind]
  rw [bind_ok (compL_pure hc)]
  rfl
/-! ### statements -/
theorem s_set {i : Nat} {fe : SEnv → M D} {d : D} {R1 : Option Rw} (h : fe δ R = .ok d R1) : sSet i fe δ R = .nx (δ.set i (.dat d)) R1 := by unfold sSet sBind; rw [h]
theorem s_asg {t : Tgt} {fe : SEnv → M D} {d : D} {δ' : SEnv} {R1 : Option Rw} (h : fe δ R = .ok d R1) (e : bindT t d δ = some δ') : sAsg t fe δ R = .nx δ' R1 := by unfold sAsg sBind; rw [h]; simp only [e]
theorem s_ret {fe : SEnv → M D} {d : D} {R1 : Option Rw} (h : fe δ R = .ok d R1) : sRet fe δ R = .rt d R1 := by unfold sRet sBind; rw [h]
theorem s_retX {fe : SEnv → M D} {c : String} {d : D} {R1 : Option Rw} (h : fe δ R = .exn c d R1) : sRet fe δ R = .ex c d R1 := by unfold sRet sBind; rw [h]
theorem s_drop {fe : SEnv → M D} {d : D} {R1 : Option Rw} (h : fe δ R = .ok d R1) : sDrop fe δ R = .nx δ R1 := by unfold sDrop sBind; rw [h]
theorem s_dropX {fe : SEnv → M D} {c : String} {d : D} {R1 : Option Rw} (h : fe δ R = .exn c d R1) : sDrop fe δ R = .ex c d R1 := by unfold sDrop sBind; rw [h]
theorem s_raise {c : String} {fe : SEnv → M D} {d : D} {R1 : Option Rw} (h : fe δ R = .ok d R1) : sRaise c fe δ R = .ex c d R1 := by unfold sRaise sBind; rw [h]
theorem s_ifT {c : SEnv → M Bool} {f g : SM} {R1 : Option Rw} (h : c δ R = .ok true R1) : sIf c f g δ R = f δ R1 := by unfold sIf sBind; rw [h]; simp only [if_pos]
theorem s_ifF {c : SEnv → M Bool} {f g : SM} {R1 : Option Rw} (h : c δ R = .ok false R1) : sIf c f g δ R = g δ R1 := by unfold sIf sBind; rw [h]; rfl
theorem s_seq {f g : SM} {δ1 : SEnv} {R1 : Option Rw} (h : f δ R = .nx δ1 R1) : sSeq f g δ R = g δ1 R1 := by unfold sSeq; rw [h]
theorem s_seqR {f g : SM} {d : D} {R1 : Option Rw} (h : f δ R = .rt d R1) : sSeq f g δ R = .rt d R1 := by unfold sSeq; rw [h]
theorem s_seqX {f g : SM} {c : String} {d : D} {R1 : Option Rw} (h : f δ R = .ex c d R1) : sSeq f g δ R = .ex c d R1 := by unfold sSeq; rw [h]
theorem s_for {t : Tgt} {fi : SEnv → M (List D)} {body : SM} {ds : List D} {R1 : Option Rw} (h : fi δ R = .ok ds R1) : sFor t fi body δ R = sLoop t body ds δ R1 := by unfold sFor sBind; rw [h]
/-- a loop that goes through: the invariant tells what was walked -/
theorem loop_inv {t : Tgt} {body : SM} (I : List D → SEnv → Option Rw → Prop) : ∀ {ds pre : List D} {δ : SEnv} {R : Option Rw}, I pre δ R → (∀ (pre' : List D) (d : D) (δ : SEnv) (R : Option Rw), d ∈ ds → I pre' δ R → ∃ δ1, bindT t d δ = some δ1 ∧ ∃ δ2 R2, body δ1 R = .nx δ2 R2 ∧ I (pre' ++ [d]) δ2 R2) →
    ∃ δ2 R2, sLoop t body ds δ R = .nx δ2 R2 ∧ I (pre ++ ds) δ2 R2
  | [], pre, δ, R, h, _ => ⟨δ, R, rfl, by rw [List.append_nil]; exact h⟩
  | d :: ds, pre, δ, R, h, hs => by
    obtain ⟨δ1, e1, δ2, R2, e2, h2⟩ := hs pre d δ R List.mem_cons_self h
    obtain ⟨δ3, R3, e3, h3⟩ := loop_inv (t := t) (body := body) I (ds := ds) (pre := pre ++ [d]) h2 fun pre' x δ R hx => hs pre' x δ R (List.mem_cons_of_mem _ hx)
    refine ⟨δ3, R3, ?_, by rw [List.append_assoc] at h3; exact h3⟩
    unfold sLoop
    rw [e1]
    simp only
    rw [e2]
    exact e3
end
end DL

set_option Elab.async false
set_option linter.all false
set_option maxRecDepth 100000
namespace DL
open PySem PySem.Spec L2
/-! ### the readings' functions, as rewriting rules -/
def Out.bnd {α β : Type} (o : Out α) (f : α → Option Rw → Out β) : Out β := match o with
  | .ok a R => f a R
  | .exn c d R => .exn c d R
  | .stuck => .stuck
def Out.sb {α : Type} (o : Out α) (f : α → Option Rw → SOut) : SOut := match o with
  | .ok a R => f a R
  | .exn c d R => .ex c d R
  | .stuck => .stuck
def SOut.then (o : SOut) (g : SM) : SOut := match o with
  | .nx δ R => g δ R
  | .rt d R => .rt d R
  | .bk δ R => .bk δ R
  | .ct δ R => .ct δ R
  | .ex c d R => .ex c d R
  | .stuck => .stuck
@[simp] theorem bnd_ok {α β : Type} (a : α) (R : Option Rw) (f : α → Option Rw → Out β) : (Out.ok a R).bnd f = f a R := rfl
@[simp] theorem bnd_exn {α β : Type} (c : String) (d : D) (R : Option Rw) (f : α → Option Rw → Out β) : (Out.exn c d R : Out α).bnd f = .exn c d R := rfl
@[simp] theorem bnd_stuck {α β : Type} (f : α → Option Rw → Out β) : (Out.stuck : Out α).bnd f = .stuck := rfl
@[simp] theorem sb_ok {α : Type} (a : α) (R : Option Rw) (f : α → Option Rw → SOut) : (Out.ok a R).sb f = f a R := rfl
@[simp] theorem sb_exn {α : Type} (c : String) (d : D) (R : Option Rw) (f : α → Option Rw → SOut) : (Out.exn c d R : Out α).sb f = .ex c d R := rfl
@[simp] theorem sb_stuck {α : Type} (f : α → Option Rw → SOut) : (Out.stuck : Out α).sb f = .stuck := rfl
@[simp] theorem then_nx (δ : SEnv) (R : Option Rw) (g : SM) : (SOut.nx δ R).then g = g δ R := rfl
@[simp] theorem then_rt (d : D) (R : Option Rw) (g : SM) : (SOut.rt d R).then g = .rt d R := rfl
@[simp] theorem then_ex (c : String) (d : D) (R : Option Rw) (g : SM) : (SOut.ex c d R).then g = .ex c d R := rfl
@[simp] theorem fin_nx (δ : SEnv) (R : Option Rw) : fin (.nx δ R) = .ok .non R := rfl
@[simp] theorem fin_rt (d : D) (R : Option Rw) : fin (.rt d R) = .ok d R := rfl
@[simp] theorem fin_ex (c : String) (d : D) (R : Option Rw) : fin (.ex c d R) = .exn c d R := rfl
@[simp] theorem bnd_ite {α β : Type} {c : Prop} [Decidable c] (x y : Out α) (f : α → Option Rw → Out β) : (if c then x else y : Out α).bnd f = if c then x.bnd f else y.bnd f := by split <;> rfl
@[simp] theorem sb_ite {α : Type} {c : Prop} [Decidable c] (x y : Out α) (f : α → Option Rw → SOut) : (if c then x else y : Out α).sb f = if c then x.sb f else y.sb f := by split <;> rfl
@[simp] theorem then_ite {c : Prop} [Decidable c] (x y : SOut) (g : SM) : (if c then x else y : SOut).then g = if c then x.then g else y.then g := by split <;> rfl
@[simp] theorem fin_ite {c : Prop} [Decidable c] (x y : SOut) : fin (if c then x else y : SOut) = if c then fin x else fin y := by split <;> rfl
section
variable {δ : SEnv} {R : Option Rw}
theorem r_bind {α β : Type} (m : M α) (f : α → M β) : (m >>= f) R = (m R).bnd fun a R1 => f a R1 := by
  rw [bind_run]
  cases m R <;> rfl
def varO (o : Option SD) (R : Option Rw) : Out D := match o with
  | some (.dat d) => .ok d R
  | _ => .stuck
@[simp] theorem varO_dat (d : D) : varO (some (.dat d)) R = .ok d R := rfl
@[simp] theorem r_var {i : Nat} : dVar i δ R = varO δ[i]? R := by
  unfold dVar varO
  cases δ[i]? with
  | none => rfl
  | some x => cases x <;> rfl
@[simp] theorem r_d1 {f : D → Option D} {fa : SEnv → M D} : d1 f fa δ R = (fa δ R).bnd fun a R1 => M.lift (f a) R1 := by
  unfold d1
  simp only [r_bind]
@[simp] theorem r_d2 {f : D → D → Option D} {fa fb : SEnv → M D} : d2 f fa fb δ R = (fa δ R).bnd fun a R1 => (fb δ R1).bnd fun b R2 => M.lift (f a b) R2 := by
  unfold d2
  simp only [r_bind]
@[simp] theorem r_dB {f : SEnv → M D} : dB f δ R = (f δ R).bnd fun a R1 => M.lift (asB a) R1 := by
  unfold dB
  simp only [r_bind]
@[simp] theorem r_dT {f : SEnv → M D} : dT f δ R = (f δ R).bnd fun a R1 => M.lift (truD a) R1 := by
  unfold dT
  simp only [r_bind]
@[simp] theorem r_not {f : SEnv → M Bool} : bNot f δ R = (f δ R).bnd fun a R1 => .ok (!a) R1 := by
  unfold bNot
  simp only [r_bind]
  rfl
@[simp] theorem r_and {f g : SEnv → M Bool} : bAnd f g δ R = (f δ R).bnd fun a R1 => if a = true then g δ R1 else .ok false R1 := by
  unfold bAnd
  simp only [r_bind]
  congr 1
  funext a R1
  split <;> rfl
@[simp] theorem r_or {f g : SEnv → M Bool} : bOr f g δ R = (f δ R).bnd fun a R1 => if a = true then .ok true R1 else g δ R1 := by
  unfold bOr
  simp only [r_bind]
  congr 1
  funext a R1
  split <;> rfl
@[simp] theorem r_dNot {f : SEnv → M D} : dNot f δ R = (f δ R).bnd fun a R1 => (M.lift (asB a) R1).bnd fun k R2 => .ok (.bl (!k)) R2 := by
  unfold dNot
  simp only [r_bind]
  rfl
@[simp] theorem r_dAnd {f g : SEnv → M D} : dAnd f g δ R = (f δ R).bnd fun a R1 => (M.lift (asB a) R1).bnd fun k R2 => if k = true then g δ R2 else .ok (.bl false) R2 := by
  unfold dAnd
  simp only [r_bind]
  congr 1
  funext a R1
  congr 1
  funext k R2
  split <;> rfl
@[simp] theorem r_dOr {f g : SEnv → M D} : dOr f g δ R = (f δ R).bnd fun a R1 => (M.lift (asB a) R1).bnd fun k R2 => if k = true then .ok (.bl true) R2 else g δ R2 := by
  unfold dOr
  simp only [r_bind]
  congr 1
  funext a R1
  congr 1
  funext k R2
  split <;> rfl
@[simp] theorem r_dIf {c : SEnv → M Bool} {f g : SEnv → M D} : dIf c f g δ R = (c δ R).bnd fun a R1 => if a = true then f δ R1 else g δ R1 := by
  unfold dIf
  simp only [r_bind]
  congr 1
  funext a R1
  split <;> rfl
@[simp] theorem r_chain {f g : D → D → Option D} {fa fb fc : SEnv → M D} : dChain f g fa fb fc δ R = (fa δ R).bnd fun x R1 => (fb δ R1).bnd fun y R2 => (M.lift (f x y) R2).bnd fun z R3 => (M.lift (asB z) R3).bnd fun k R4 => if k = true then (fc δ R4).bnd fun w R5 => M.lift (g y w) R5 else .ok (.bl false) R4 := by
  unfold dChain
  simp only [r_bind]
  congr 1
  funext x R1
  congr 1
  funext y R2
  congr 1
  funext z R3
  congr 1
  funext k R4
  split
  · exact r_bind _ _
  · rfl
@[simp] theorem r_lcons {f : SEnv → M D} {g : SEnv → M (List D)} : lCons f g δ R = (f δ R).bnd fun x R1 => (g δ R1).bnd fun xs R2 => .ok (x :: xs) R2 := by
  unfold lCons
  simp only [r_bind]
  rfl
@[simp] theorem r_lnil : lNil δ R = .ok [] R := rfl
@[simp] theorem r_fn {n : Nat} {F : List D → M D} {fs : SEnv → M (List D)} : dFn n F fs δ R = (fs δ R).bnd fun ds R1 => if ds.length = n then F ds R1 else .stuck := by
  unfold dFn
  simp only [r_bind]
  congr 1
  funext a R1
  split <;> rfl
@[simp] theorem r_call {f : List D → Option D} {fs : SEnv → M (List D)} : dCall f fs δ R = (fs δ R).bnd fun ds R1 => M.lift (f ds) R1 := by
  unfold dCall
  simp only [r_bind]
@[simp] theorem r_tup {fs : SEnv → M (List D)} : dTup fs δ R = (fs δ R).bnd fun ds R1 => M.lift ((lenOk ds).map D.tup) R1 := by
  unfold dTup
  simp only [r_bind]
@[simp] theorem r_lst {fs : SEnv → M (List D)} : dLst fs δ R = (fs δ R).bnd fun ds R1 => M.lift ((lenOk ds).map D.lst) R1 := by
  unfold dLst
  simp only [r_bind]
@[simp] theorem r_cut {fe : SEnv → M D} {fl fh : SEnv → M (Option Int)} : dCut fe fl fh δ R = (fe δ R).bnd fun d R1 => (fl δ R1).bnd fun l R2 => (fh δ R2).bnd fun h R3 => M.lift (oCut d l h) R3 := by
  unfold dCut
  simp only [r_bind]
@[simp] theorem r_pnone : pNone δ R = .ok none R := rfl
@[simp] theorem r_psome {f : SEnv → M D} : pSome f δ R = (f δ R).bnd fun a R1 => M.lift (intP a) R1 := by
  unfold pSome
  simp only [r_bind]
@[simp] theorem r_iseq {fe : SEnv → M D} : iSeq fe δ R = (fe δ R).bnd fun a R1 => M.lift (seqD a) R1 := by
  unfold iSeq
  simp only [r_bind]
@[simp] theorem r_icall {f : List D → Option (List D)} {fs : SEnv → M (List D)} : iCall f fs δ R = (fs δ R).bnd fun a R1 => M.lift (f a) R1 := by
  unfold iCall
  simp only [r_bind]
@[simp] theorem r_byes : bYes δ R = .ok true R := rfl
@[simp] theorem r_set {i : Nat} {fe : SEnv → M D} : sSet i fe δ R = (fe δ R).sb fun d R1 => .nx (δ.set i (.dat d)) R1 := by
  unfold sSet sBind
  cases fe δ R <;> rfl
def asgO (o : Option SEnv) (R : Option Rw) : SOut := match o with
  | some δ => .nx δ R
  | none => .stuck
@[simp] theorem asgO_some (δ : SEnv) : asgO (some δ) R = .nx δ R := rfl
@[simp] theorem r_asg {t : Tgt} {fe : SEnv → M D} : sAsg t fe δ R = (fe δ R).sb fun d R1 => asgO (bindT t d δ) R1 := by
  unfold sAsg sBind
  cases fe δ R with
  | ok d R1 => simp only [sb_ok]; cases bindT t d δ <;> rfl
  | _ => rfl
@[simp] theorem r_ret {fe : SEnv → M D} : sRet fe δ R = (fe δ R).sb fun d R1 => .rt d R1 := by
  unfold sRet sBind
  cases fe δ R <;> rfl
@[simp] theorem r_drop {fe : SEnv → M D} : sDrop fe δ R = (fe δ R).sb fun d R1 => .nx δ R1 := by
  unfold sDrop sBind
  cases fe δ R <;> rfl
@[simp] theorem r_raise {c : String} {fe : SEnv → M D} : sRaise c fe δ R = (fe δ R).sb fun d R1 => .ex c d R1 := by
  unfold sRaise sBind
  cases fe δ R <;> rfl
@[simp] theorem r_if {c : SEnv → M Bool} {f g : SM} : sIf c f g δ R = (c δ R).sb fun k R1 => if k = true then f δ R1 else g δ R1 := by
  unfold sIf sBind
  cases c δ R with
  | ok k R1 => cases k <;> rfl
  | _ => rfl
@[simp] theorem r_nx : sNx δ R = .nx δ R := rfl
@[simp] theorem r_seq {f g : SM} : sSeq f g δ R = (f δ R).then g := by
  unfold sSeq
  cases f δ R <;> rfl
@[simp] theorem r_for {t : Tgt} {fi : SEnv → M (List D)} {body : SM} : sFor t fi body δ R = (fi δ R).sb fun ds R1 => sLoop t body ds δ R1 := by
  unfold sFor sBind
  cases fi δ R <;> rfl
end
end DL

set_option Elab.async false
set_option linter.all false
set_option maxRecDepth 100000
namespace DL
open PySem PySem.Spec L2
/-! ### plain things -/
def isInt : D → Bool
  | .int _ => true
  | _ => false
theorem f_is_integer {d : D} {R : Option Rw} (h : pl d = true) : F_is_integer [d] R = .ok (.bl (isInt d)) R := by
  cases d <;> first | rfl | cases h
theorem f_is_within {d : D} {a b : Int} {R : Option Rw} (h : pl d = true) : F_is_within [d, .int a, .int b] R = .ok (.bl (within d a b)) R := by
  simp [F_is_within, sem_is_within, startD, N_is_within, f_is_integer h]
  cases d <;> simp [isInt, within, asB, liftB]
  split
  · simp_all
  · rename_i h1
    simp at h1
    simp
    omega
def pls (ds : List D) : Bool := ds.all pl
/-- a tuple of numbers from a to b, each smaller than the next -/
def risingL : List D → Bool
  | .int i :: .int j :: ds => decide (i < j) && risingL (.int j :: ds)
  | _ => true
def rising : D → Int → Int → Bool
  | .tup ds, a, b => ds.all (fun d => within d a b) && risingL ds
  | _, _, _ => false
theorem e_compY {δ : SEnv} {R R1 : Option Rw} {vs : List Nat} {t : Tgt} {fi : SEnv → M (List D)} {fe : SEnv → M D} {g : D → D} {ds : List D} (h : fi δ R = .ok ds R1) (hl : ds.length ≤ sizeLine) (hc : ∀ d ∈ ds, ∃ δ1, bindT t d (blkD δ vs) = some δ1 ∧ ∀ R, fe δ1 R = .ok (g d) R) : dComp vs t fi bYes fe δ R = .ok (.lst (ds.map g)) R1 := by
  have := e_comp (δ := δ) (R := R) (vs := vs) (t := t) (ft := bYes) (fe := fe) (p := fun _ => true) (g := g) h hl fun d hd => by
    obtain ⟨δ1, e1, e2⟩ := hc d hd
    exact ⟨δ1, e1, fun R => rfl, fun _ => e2⟩
  rw [this, List.filter_eq_self.mpr (fun _ _ => rfl)]
theorem bools_map {α : Type} (f : α → Bool) : ∀ xs : List α, bools (xs.map fun x => D.bl (f x)) = some (xs.map f)
  | [] => rfl
  | x :: xs => by rw [List.map_cons, bools, bools_map f xs]; rfl
theorem fAll_map {α : Type} (f : α → Bool) (xs : List α) : fAll [.lst (xs.map fun x => D.bl (f x))] = some (.bl (xs.all f)) := by
  show (bools (xs.map fun x => D.bl (f x))).map (fun bs => D.bl (bs.all id)) = _
  rw [bools_map]
  simp [List.all_map]
theorem cut1 (ds : List D) : cutD ds (some 1) none = ds.drop 1 := by
  unfold cutD
  rw [HT.sIx_none]
  have e : (ds.drop (HT.sIx ds.length 0 (some 1))) = ds.drop 1 := by
    have h := HT.sIx_nat ds.length 0 1
    rw [show ((1 : Nat) : Int) = 1 from rfl] at h
    rw [h]
    cases ds with
    | nil => rfl
    | cons d ds => rw [Nat.min_eq_left (by simp)]
  rw [e]
  apply List.take_of_length_le
  have h := HT.sIx_nat ds.length 0 1
  rw [show ((1 : Nat) : Int) = 1 from rfl] at h
  rw [h, List.length_drop]
  omega
def isTup : D → Bool
  | .tup _ => true
  | _ => false
def isLst : D → Bool
  | .lst _ => true
  | _ => false
def isBl : D → Bool
  | .bl _ => true
  | _ => false
def isStr : D → Bool
  | .str _ => true
  | _ => false
theorem isi_int {d : D} (h : pl d = true) : isiD "int" d = some (.bl (isInt d || isBl d)) := by cases d <;> first | rfl | cases h
theorem isi_bool {d : D} (h : pl d = true) : isiD "bool" d = some (.bl (isBl d)) := by cases d <;> first | rfl | cases h
theorem isi_tuple {d : D} (h : pl d = true) : isiD "tuple" d = some (.bl (isTup d)) := by cases d <;> first | rfl | cases h
theorem isi_list {d : D} (h : pl d = true) : isiD "list" d = some (.bl (isLst d)) := by cases d <;> first | rfl | cases h
theorem isi_str {d : D} (h : pl d = true) : isiD "str" d = some (.bl (isStr d)) := by cases d <;> first | rfl | cases h
theorem isi_tl {d : D} (h : pl d = true) : isiD2 "tuple" "list" d = some (.bl (isTup d || isLst d)) := by cases d <;> first | rfl | cases h
theorem isi_lt {d : D} (h : pl d = true) : isiD2 "list" "tuple" d = some (.bl (isTup d || isLst d)) := by cases d <;> first | rfl | cases h
theorem isi_dict {d : D} (h : pl d = true) : isiD "dict" d = some (.bl (match d with | .dic => true | _ => false)) := by cases d <;> first | rfl | cases h
@[simp] theorem tru_bl (b : Bool) : truD (.bl b) = some b := rfl
@[simp] theorem asB_bl (b : Bool) : asB (.bl b) = some b := rfl
theorem rising_zip : ∀ ds : List D, (∀ d ∈ ds, ∃ i : Int, d = .int i) → ((ds.zip (ds.drop 1)).all fun p => match p.1, p.2 with | .int i, .int j => decide (i < j) | _, _ => false) = risingL ds
  | [], _ => rfl
  | [d], _ => by
    obtain ⟨i, rfl⟩ := ‹∀ d' ∈ [d], _› d List.mem_cons_self
    rfl
  | d :: e :: ds, h => by
    obtain ⟨i, rfl⟩ := h d List.mem_cons_self
    obtain ⟨j, rfl⟩ := h e (List.mem_cons_of_mem _ List.mem_cons_self)
    have ih := rising_zip (.int j :: ds) fun x hx => h x (List.mem_cons_of_mem _ hx)
    show (decide (i < j) && ((D.int j :: ds).zip ((D.int j :: ds).drop 1)).all _) = (decide (i < j) && risingL (.int j :: ds))
    rw [ih]
/-! ### strings, webs -/
theorem pl_of2 {d : D} (h : pl2 d = true) : pl d = true := by cases d <;> first | rfl | exact h
theorem ix0 (x y : D) : oIx (.tup [x, y]) (.int 0) = some x := rfl
theorem ix1 (x y : D) : oIx (.tup [x, y]) (.int 1) = some y := rfl
theorem okEq_int (i : Int) : okEq (.int i) = true := rfl
theorem okEq_bl (i : Bool) : okEq (.bl i) = true := rfl
theorem okEq_non : okEq .non = true := rfl
@[simp] theorem oEq_int (i j : Int) : oEq (.int i) (.int j) = some (.bl (decide (i = j))) := by
  unfold oEq
  rw [okEq_int, okEq_int]
  rfl
@[simp] theorem oNe_int (i j : Int) : oNe (.int i) (.int j) = some (.bl (!decide (i = j))) := by
  unfold oNe
  rw [okEq_int, okEq_int]
  rfl
@[simp] theorem oEq_bl (i j : Bool) : oEq (.bl i) (.bl j) = some (.bl (decide (i = j))) := by
  unfold oEq
  rw [okEq_bl, okEq_bl]
  cases i <;> cases j <;> rfl
@[simp] theorem oNe_bl (i j : Bool) : oNe (.bl i) (.bl j) = some (.bl (!decide (i = j))) := by
  unfold oNe
  rw [okEq_bl, okEq_bl]
  cases i <;> cases j <;> rfl
@[simp] theorem oPlus_int (i j : Int) : oPlus (.int i) (.int j) = some (.int (i + j)) := rfl
@[simp] theorem oSub_int (i j : Int) : oSub (.int i) (.int j) = some (.int (i - j)) := rfl
@[simp] theorem oLt_int (i j : Int) : oLt (.int i) (.int j) = some (.bl (decide (i < j))) := rfl
@[simp] theorem oGt_int (i j : Int) : oGt (.int i) (.int j) = some (.bl (decide (j < i))) := rfl
@[simp] theorem oGe_int (i j : Int) : oGe (.int i) (.int j) = some (.bl (decide (j ≤ i))) := rfl
@[simp] theorem oLe_int (i j : Int) : oLe (.int i) (.int j) = some (.bl (decide (i ≤ j))) := rfl
@[simp] theorem oNeg_int (i : Int) : oNeg (.int i) = some (.int (-i)) := rfl
@[simp] theorem fLen_tup (ds : List D) : fLen [.tup ds] = some (.int ds.length) := rfl
@[simp] theorem fLen_lst (ds : List D) : fLen [.lst ds] = some (.int ds.length) := rfl
@[simp] theorem fTuple_lst (ds : List D) : fTuple [.lst ds] = some (.tup ds) := rfl
@[simp] theorem fTuple_tup (ds : List D) : fTuple [.tup ds] = some (.tup ds) := rfl
@[simp] theorem fList_tup (ds : List D) : fList [.tup ds] = some (.lst ds) := rfl
@[simp] theorem fList_lst (ds : List D) : fList [.lst ds] = some (.lst ds) := rfl
@[simp] theorem seqD_lst (ds : List D) : seqD (.lst ds) = some ds := rfl
@[simp] theorem seqD_tup (ds : List D) : seqD (.tup ds) = some ds := rfl
@[simp] theorem truD_lst (ds : List D) : truD (.lst ds) = some (!ds.isEmpty) := rfl
@[simp] theorem truD_tup (ds : List D) : truD (.tup ds) = some (!ds.isEmpty) := rfl
def enumF : Int → List D → List D
  | _, [] => []
  | k, d :: ds => .tup [.int k, d] :: enumF (k + 1) ds
theorem enumF_eq : ∀ (ds : List D) (k : Nat), ds.mapIdx (fun i d => D.tup [.int ((i + k : Nat) : Int), d]) = enumF (k : Int) ds
  | [], _ => rfl
  | d :: ds, k => by
    rw [List.mapIdx_cons, enumF]
    have ih := enumF_eq ds (k + 1)
    have e : ((k : Int) + 1) = ((k + 1 : Nat) : Int) := by omega
    rw [e, ← ih]
    simp only [Nat.zero_add]
    congr 1
    congr 1
    funext i d
    rw [show i + 1 + k = i + (k + 1) from by omega]
theorem enumD_eq (ds : List D) : enumD ds = enumF 0 ds := enumF_eq ds 0
theorem unpairs_eq : ∀ {xs : List D} {ss : List (Int × Int)}, unpairs xs = some ss → xs = ss.map pairD
  | [], ss, h => by
    rw [unpairs] at h
    rw [← Option.some.inj h]
    rfl
  | d :: ds, ss, h => by
    unfold unpairs at h
    split at h
    · rename_i h1
      cases h1
    · rename_i i j r h1
      injection h1 with h1 h2
      subst h1 h2
      obtain ⟨ts, e, rfl⟩ := Option.map_eq_some_iff.mp h
      rw [List.map_cons, unpairs_eq e]
      rfl
    · cases h
end DL

set_option Elab.async false
set_option linter.all false
set_option maxRecDepth 100000
set_option maxHeartbeats 0
namespace DL
open PySem PySem.Spec L2
def top (i : Nat) : Stmt := PySem.Challenge.pw_boxesclosed_k09_whole_control.main.body.getD i (.Pass ⟨0, 0, 0, 0⟩)
abbrev st_is_integer : Stmt := top 4
abbrev st_is_within : Stmt := top 5
abbrev st_is_sizes : Stmt := top 11
abbrev st_is_sum : Stmt := top 12
abbrev st_need_sum : Stmt := top 13
abbrev st_without : Stmt := top 14
abbrev st_opened : Stmt := top 15
abbrev st_total_value : Stmt := top 17
abbrev st_values_of : Stmt := top 16
abbrev st_sum_worth : Stmt := top 18
abbrev st_need_long : Stmt := top 24
abbrev st_extra : Stmt := top 25
abbrev st_controlled : Stmt := top 26
abbrev st_is_controlled : Stmt := top 27
abbrev st_long_kinds : Stmt := top 28
abbrev st__law_taken : Stmt := top 30
abbrev st__law_pick : Stmt := top 31
abbrev st__law_alike : Stmt := top 32
abbrev st__law_numbers : Stmt := top 33
abbrev st__law_opened : Stmt := top 34
abbrev st__law_sum_worths : Stmt := top 35
abbrev st__law_even : Stmt := top 36
abbrev st__law_any : Stmt := top 37
abbrev st__law_controlled : Stmt := top 38
abbrev st_Box : Stmt := inCls (top 1) 0
abbrev st__law_refused : Stmt := top 39
abbrev st_law : Stmt := top 40
structure TT (P : Program) (w : World) (K : PySem.W.Frag) (mg : Str → Option Value) (base : Heap) (Γ : Ctx) (fI : Addr) : Prop where
  hK : Γ.K = K
  hW : Γ.wd = w
  fz1 : Γ.fz = true
  b_len : mg "len" = none
  b_list : mg "list" = none
  b_tuple : mg "tuple" = none
  b_int : mg "int" = none
  b_str : mg "str" = none
  b_range : mg "range" = none
  b_isinstance : mg "isinstance" = none
  b_all : mg "all" = none
  b_sum : mg "sum" = none
  b_abs : mg "abs" = none
  b_sorted : mg "sorted" = none
  b_max : mg "max" = none
  b_repr : mg "repr" = none
  b_bool : mg "bool" = none
  b_dict : mg "dict" = none
  c_CHAIN : ∃ t, mg "CHAIN" = some (.str ("chain" : Str) t)
  c_RING : ∃ t, mg "RING" = some (.str ("ring" : Str) t)
  c_MOST_SIZE : ∃ t, mg "MOST_SIZE" = some (.int (60) t)
  c_MOST_PARTS : ∃ t, mg "MOST_PARTS" = some (.int (8) t)
  c_EXTRA_ENDED : ∃ t, mg "EXTRA_ENDED" = some (.int (0) t)
  c_EXTRA_CHAINS : ∃ t, mg "EXTRA_CHAINS" = some (.int (4) t)
  c_EXTRA_MIXED : ∃ t, mg "EXTRA_MIXED" = some (.int (6) t)
  c_EXTRA_RINGS : ∃ t, mg "EXTRA_RINGS" = some (.int (8) t)
  box : BoxI P w K mg base 1 fI
  x_BadSum : ExcF K mg Γ fI "BadSum"
  g_controlled : mg "controlled" = some (.ref (Γ.fnA "controlled"))
  l_controlled : Γ.lam "controlled" = none
  g_is_controlled : mg "is_controlled" = some (.ref (Γ.fnA "is_controlled"))
  l_is_controlled : Γ.lam "is_controlled" = none
  g_long_kinds : mg "long_kinds" = some (.ref (Γ.fnA "long_kinds"))
  l_long_kinds : Γ.lam "long_kinds" = none
  refd : FnI K mg "_law_refused" st__law_refused
  exm : ∀ p ∈ refW, ∀ q ∈ refW, PySem.W.exmOne K (.ref (Γ.cls p.1)) (.ref (Γ.cls q.1)) = some (decide (p.1 = q.1))
section
variable {P : Program} {w : World} {K : PySem.W.Frag} {mg : Str → Option Value} {base : Heap} {Γ : Ctx} {fI : Addr}
theorem sc_is_integer : FnScope N_is_integer ["thing"] (defScope st_is_integer) := ⟨rfl, rfl, rfl, by decide +kernel, rfl, by decide +kernel, by decide +kernel⟩
theorem cal_is_integer (T : TT P w K mg base Γ fI) (F : FnI K mg "is_integer" st_is_integer) : Cal P w K mg base Γ 1 "is_integer" 1 F_is_integer := by
  obtain ⟨f, fd, FD, gx⟩ := F.ex
  refine cal_mk (N := N_is_integer) (ps := ["thing"]) FD gx sc_is_integer (FD.bindsN fun _ _ _ _ _ _ us hl => match us, hl with | [_], _ => rfl) (fun cdv A outer s H E hr => ?_)
  have nd := (sc_is_integer).nd
  have hp := passes_of (X := cxOf (L2.CX P w) P w K mg base N_is_integer "is_integer" (defScope st_is_integer) f cdv A outer s H E) rfl
  have tk : Takes (cxOf (L2.CX P w) P w K mg base N_is_integer "is_integer" (defScope st_is_integer) f cdv A outer s H E) (WD E) := takes_of rfl rfl rfl rfl
  exact ⟨sem_is_integer, (ds_one (ds_ret (pd_and (pd_isi T.b_isinstance (pd_var (pv 0)) (pe_bltn (v := .ty "int") (by rfl) T.b_int (by decide +kernel) rfl)) (pd_one (pd_not (pd_isi T.b_isinstance (pd_var (pv 0)) (pe_bltn (v := .ty "bool") (by rfl) T.b_bool (by decide +kernel) rfl))))))),
    fun ds R hl hs => rfl⟩
theorem sc_is_within : FnScope N_is_within ["thing", "least", "most"] (defScope st_is_within) := ⟨rfl, rfl, rfl, by decide +kernel, rfl, by decide +kernel, by decide +kernel⟩
theorem cal_is_within (T : TT P w K mg base Γ fI) (F : FnI K mg "is_within" st_is_within) (c_is_integer : Cal P w K mg base Γ 1 "is_integer" 1 F_is_integer) : Cal P w K mg base Γ 2 "is_within" 3 F_is_within := by
  obtain ⟨f, fd, FD, gx⟩ := F.ex
  refine cal_mk (N := N_is_within) (ps := ["thing", "least", "most"]) FD gx sc_is_within (FD.bindsN fun _ _ _ _ _ _ us hl => match us, hl with | [_, _, _], _ => rfl) (fun cdv A outer s H E hr => ?_)
  have nd := (sc_is_within).nd
  have hp := passes_of (X := cxOf (L2.CX P w) P w K mg base N_is_within "is_within" (defScope st_is_within) f cdv A outer s H E) rfl
  have tk : Takes (cxOf (L2.CX P w) P w K mg base N_is_within "is_within" (defScope st_is_within) f cdv A outer s H E) (WD E) := takes_of rfl rfl rfl rfl
  exact ⟨sem_is_within, (ds_one (ds_ret (pd_and (pd_call c_is_integer (hr.mono (by decide)) tk (pda_cons (pd_var (pv 0)) pda_nil)) (pd_one (pd_chain op_le od_le op_le od_le (pd_var (pv 1)) (pd_var (pv 0)) (pd_var (pv 2))))))),
    fun ds R hl hs => rfl⟩
theorem sc_is_sizes : FnScope N_is_sizes ["thing", "least"] (defScope st_is_sizes) := ⟨rfl, rfl, rfl, by decide +kernel, rfl, by decide +kernel, by decide +kernel⟩
theorem cal_is_sizes (T : TT P w K mg base Γ fI) (F : FnI K mg "is_sizes" st_is_sizes) (c_is_within : Cal P w K mg base Γ 2 "is_within" 3 F_is_within) : Cal P w K mg base Γ 3 "is_sizes" 2 F_is_sizes := by
  obtain ⟨f, fd, FD, gx⟩ := F.ex
  refine cal_mk (N := N_is_sizes) (ps := ["thing", "least"]) FD gx sc_is_sizes (FD.bindsN fun _ _ _ _ _ _ us hl => match us, hl with | [_, _], _ => rfl) (fun cdv A outer s H E hr => ?_)
  have nd := (sc_is_sizes).nd
  have hp := passes_of (X := cxOf (L2.CX P w) P w K mg base N_is_sizes "is_sizes" (defScope st_is_sizes) f cdv A outer s H E) rfl
  have tk : Takes (cxOf (L2.CX P w) P w K mg base N_is_sizes "is_sizes" (defScope st_is_sizes) f cdv A outer s H E) (WD E) := takes_of rfl rfl rfl rfl
  exact ⟨sem_is_sizes, (ds_cons (ds_if (pdt_w (pdw_or (pdt_not (pdt_tru (pd_isi T.b_isinstance (pd_var (pv 0)) (pe_bltn (v := .ty "tuple") (by rfl) T.b_tuple (by decide +kernel) rfl)))) (pdw_or1 (pdt_not (pdt_tru (pd_callB (cr_all rfl) cd_all T.b_all (by decide +kernel) (pda_cons (pd_lc (own := [(("one" : Str), 2)]) rfl nd (di_seq (pd_var (pv 0))) (blkOk_by (show blkC N_is_sizes (defScope st_is_sizes) _ _ = true from by decide +kernel)) (by decide) (fun _ _ _ _ _ => (gd_nm (pg_name (i := 2) nd rfl (by first | exact Or.inl rfl | exact Or.inr rfl)))) (fun _ _ _ _ _ => dts_nil) (fun _ _ _ _ _ => (pd_call c_is_within (hr.mono (by decide)) takes0 (pda_cons (pd_var (pv 2)) (pda_cons (pd_var (pv 1)) (pda_cons (pd_gint T.c_MOST_SIZE) pda_nil)))))) pda_nil))))))) (ds_one (ds_ret (pd_bl pe_bl))) ds_nil)
      (ds_one (ds_ret (pd_cmp (op_eqD hr.units) od_eq (pd_callTy call_list_of cd_list T.b_list (by decide +kernel) (pda_cons (pd_var (pv 0)) pda_nil)) (pd_callB cr_sortedA cd_sortedA T.b_sorted (by decide +kernel) (pda_cons (pd_var (pv 0)) pda_nil)) (nomark _))))),
    fun ds R hl hs => rfl⟩
theorem sc_is_sum : FnScope N_is_sum ["thing"] (defScope st_is_sum) := ⟨rfl, rfl, rfl, by decide +kernel, rfl, by decide +kernel, by decide +kernel⟩
theorem cal_is_sum (T : TT P w K mg base Γ fI) (F : FnI K mg "is_sum" st_is_sum) (c_is_sizes : Cal P w K mg base Γ 3 "is_sizes" 2 F_is_sizes) : Cal P w K mg base Γ 4 "is_sum" 1 F_is_sum := by
  obtain ⟨f, fd, FD, gx⟩ := F.ex
  refine cal_mk (N := N_is_sum) (ps := ["thing"]) FD gx sc_is_sum (FD.bindsN fun _ _ _ _ _ _ us hl => match us, hl with | [_], _ => rfl) (fun cdv A outer s H E hr => ?_)
  have nd := (sc_is_sum).nd
  have hp := passes_of (X := cxOf (L2.CX P w) P w K mg base N_is_sum "is_sum" (defScope st_is_sum) f cdv A outer s H E) rfl
  have tk : Takes (cxOf (L2.CX P w) P w K mg base N_is_sum "is_sum" (defScope st_is_sum) f cdv A outer s H E) (WD E) := takes_of rfl rfl rfl rfl
  exact ⟨sem_is_sum, (ds_cons (ds_if (pdt_w (pdw_or (pdt_not (pdt_tru (pd_isi T.b_isinstance (pd_var (pv 0)) (pe_bltn (v := .ty "tuple") (by rfl) T.b_tuple (by decide +kernel) rfl)))) (pdw_or1 (pdt_cmp (op_neD hr.units) od_ne (pd_callB cr_len cd_len T.b_len (by decide +kernel) (pda_cons (pd_var (pv 0)) pda_nil)) (pd_int pe_int) (nomark _))))) (ds_one (ds_ret (pd_bl pe_bl))) ds_nil)
      (ds_cons (ds_if (pdt_w (pdw_or (pdt_not (pdt_tru (pd_call c_is_sizes (hr.mono (by decide)) tk (pda_cons (pd_ix ix_seq od_ix (pd_var (pv 0)) (pd_int pe_int) (fun _ _ => rfl)) (pda_cons (pd_int pe_int) pda_nil))))) (pdw_or1 (pdt_not (pdt_tru (pd_call c_is_sizes (hr.mono (by decide)) tk (pda_cons (pd_ix ix_seq od_ix (pd_var (pv 0)) (pd_int pe_int) (fun _ _ => rfl)) (pda_cons (pd_int pe_int) pda_nil)))))))) (ds_one (ds_ret (pd_bl pe_bl))) ds_nil)
      (ds_one (ds_ret (pd_cmp op_le od_le (pd_op op_plusF od_plusF (pd_callB cr_len cd_len T.b_len (by decide +kernel) (pda_cons (pd_ix ix_seq od_ix (pd_var (pv 0)) (pd_int pe_int) (fun _ _ => rfl)) pda_nil)) (pd_callB cr_len cd_len T.b_len (by decide +kernel) (pda_cons (pd_ix ix_seq od_ix (pd_var (pv 0)) (pd_int pe_int) (fun _ _ => rfl)) pda_nil))) (pd_gint T.c_MOST_PARTS) (nomark _)))))),
    fun ds R hl hs => rfl⟩
theorem sc_need_sum : FnScope N_need_sum ["total"] (defScope st_need_sum) := ⟨rfl, rfl, rfl, by decide +kernel, rfl, by decide +kernel, by decide +kernel⟩
theorem cal_need_sum (T : TT P w K mg base Γ fI) (F : FnI K mg "need_sum" st_need_sum) (c_is_sum : Cal P w K mg base Γ 4 "is_sum" 1 F_is_sum) : Cal P w K mg base Γ 5 "need_sum" 1 F_need_sum := by
  obtain ⟨f, fd, FD, gx⟩ := F.ex
  refine cal_mk (N := N_need_sum) (ps := ["total"]) FD gx sc_need_sum (FD.bindsN fun _ _ _ _ _ _ us hl => match us, hl with | [_], _ => rfl) (fun cdv A outer s H E hr => ?_)
  have nd := (sc_need_sum).nd
  have hp := passes_of (X := cxOf (L2.CX P w) P w K mg base N_need_sum "need_sum" (defScope st_need_sum) f cdv A outer s H E) rfl
  have tk : Takes (cxOf (L2.CX P w) P w K mg base N_need_sum "need_sum" (defScope st_need_sum) f cdv A outer s H E) (WD E) := takes_of rfl rfl rfl rfl
  exact ⟨sem_need_sum, (ds_one (ds_if (pdt_not (pdt_tru (pd_call c_is_sum (hr.mono (by decide)) tk (pda_cons (pd_var (pv 0)) pda_nil)))) (ds_one (ds_raise (c := "BadSum") T.box T.x_BadSum (hr.mono (by decide)) tk (pd_var (pv 0)))) ds_nil)),
    fun ds R hl hs => rfl⟩
theorem sc_without : FnScope N_without ["sizes", "size"] (defScope st_without) := ⟨rfl, rfl, rfl, by decide +kernel, rfl, by decide +kernel, by decide +kernel⟩
theorem cal_without (T : TT P w K mg base Γ fI) (F : FnI K mg "without" st_without) : Cal P w K mg base Γ 1 "without" 2 F_without := by
  obtain ⟨f, fd, FD, gx⟩ := F.ex
  refine cal_mk (N := N_without) (ps := ["sizes", "size"]) FD gx sc_without (FD.bindsN fun _ _ _ _ _ _ us hl => match us, hl with | [_, _], _ => rfl) (fun cdv A outer s H E hr => ?_)
  have nd := (sc_without).nd
  have hp := passes_of (X := cxOf (L2.CX P w) P w K mg base N_without "without" (defScope st_without) f cdv A outer s H E) rfl
  have tk : Takes (cxOf (L2.CX P w) P w K mg base N_without "without" (defScope st_without) f cdv A outer s H E) (WD E) := takes_of rfl rfl rfl rfl
  exact ⟨sem_without, (ds_cons (ds_set (i := 2) nd rfl (by first | exact Or.inl rfl | exact Or.inr rfl) (pd_tupIx T.fz1 (pd_var (pv 0)) (pd_var (pv 1)) ⟨rfl, rfl, rfl, rfl⟩))
      (ds_one (ds_ret (pd_op op_plusF od_plusF (pd_sliceF (pd_var (pv 0)) po_non (po_som (pd_var (pv 2)))) (pd_sliceF (pd_var (pv 0)) (po_som (pd_op op_plusF od_plusF (pd_var (pv 2)) (pd_int pe_int))) po_non))))),
    fun ds R hl hs => rfl⟩
theorem sc_opened : FnScope N_opened ["word", "size", "rest"] (defScope st_opened) := ⟨rfl, rfl, rfl, by decide +kernel, rfl, by decide +kernel, by decide +kernel⟩
theorem cal_opened (T : TT P w K mg base Γ fI) (F : FnI K mg "opened" st_opened) : Cal P w K mg base Γ 1 "opened" 3 F_opened := by
  obtain ⟨f, fd, FD, gx⟩ := F.ex
  refine cal_mk (N := N_opened) (ps := ["word", "size", "rest"]) FD gx sc_opened (FD.bindsN fun _ _ _ _ _ _ us hl => match us, hl with | [_, _, _], _ => rfl) (fun cdv A outer s H E hr => ?_)
  have nd := (sc_opened).nd
  have hp := passes_of (X := cxOf (L2.CX P w) P w K mg base N_opened "opened" (defScope st_opened) f cdv A outer s H E) rfl
  have tk : Takes (cxOf (L2.CX P w) P w K mg base N_opened "opened" (defScope st_opened) f cdv A outer s H E) (WD E) := takes_of rfl rfl rfl rfl
  exact ⟨sem_opened, (ds_cons (ds_set (i := 3) nd rfl (by first | exact Or.inl rfl | exact Or.inr rfl) (pd_if (pdt_cmp (op_eqD hr.units) od_eq (pd_var (pv 0)) (pd_gstr T.c_CHAIN) (nomark _)) (pd_int pe_int) (pd_int pe_int)))
      (ds_cons (ds_if (pdt_cmp op_le od_le (pd_var (pv 1)) (pd_if (pdt_cmp (op_eqD hr.units) od_eq (pd_var (pv 0)) (pd_gstr T.c_CHAIN) (nomark _)) (pd_int pe_int) (pd_int pe_int)) (nomark _)) (ds_one (ds_ret (pd_op op_plusF od_plusF (pd_var (pv 1)) (pd_var (pv 2))))) ds_nil)
      (ds_one (ds_ret (pd_op op_plusF od_plusF (pd_op op_sub od_sub (pd_var (pv 1)) (pd_var (pv 3))) (pd_callB call_abs cd_abs T.b_abs (by decide +kernel) (pda_cons (pd_op op_plusF od_plusF (pd_var (pv 2)) (pd_var (pv 3))) pda_nil))))))),
    fun ds R hl hs => rfl⟩
theorem sc_values_of : FnScope N_values_of ["total", "known"] (defScope st_values_of) := ⟨rfl, rfl, rfl, by decide +kernel, rfl, by decide +kernel, by decide +kernel⟩
theorem cal_values_ofG (T : TT P w K mg base Γ fI) (F : FnI K mg "values_of" st_values_of) {k : Nat} {FF : List D → M D} (hk : 2 ≤ k) (c_opened : Cal P w K mg base Γ 1 "opened" 3 F_opened) (c_without : Cal P w K mg base Γ 1 "without" 2 F_without) (c_total_value : Cal P w K mg base Γ k "total_value" 2 FF) : Cal P w K mg base Γ (k + 1) "values_of" 2 (FC_values_of FF) := by
  obtain ⟨f, fd, FD, gx⟩ := F.ex
  refine cal_mk (k := k) (N := N_values_of) (ps := ["total", "known"]) FD gx sc_values_of (FD.bindsN fun _ _ _ _ _ _ us hl => match us, hl with | [_, _], _ => rfl) (fun cdv A outer s H E hr => ?_)
  have nd := (sc_values_of).nd
  have hp := passes_of (X := cxOf (L2.CX P w) P w K mg base N_values_of "values_of" (defScope st_values_of) f cdv A outer s H E) rfl
  have tk : Takes (cxOf (L2.CX P w) P w K mg base N_values_of "values_of" (defScope st_values_of) f cdv A outer s H E) (WD E) := takes_of rfl rfl rfl rfl
  exact ⟨sem_values_of FF, (ds_cons (ds_asg (pd_var (pv 0)) (gd_tup rfl (gds_cons (gd_nm (pg_name (i := 2) nd rfl (by first | exact Or.inl rfl | exact Or.inr rfl))) (gds_cons (gd_nm (pg_name (i := 3) nd rfl (by first | exact Or.inl rfl | exact Or.inr rfl))) gds_nil))))
      (ds_cons (ds_ot (i := 4) nd rfl (by first | exact Or.inl rfl | exact Or.inr rfl) (pf_dic true T.hW))
      (ds_cons (ds_for hp rfl (di_seq (pd_var (pv 2))) (gd_nm (pg_name (i := 5) nd rfl (by first | exact Or.inl rfl | exact Or.inr rfl))) (ds_one (ds_dput (i := 4) T.hW (hu65 hr) rfl (by first | exact Or.inl rfl | exact Or.inr (Or.inl rfl) | exact Or.inr (Or.inr rfl)) (pd_tupF (pda_cons (pd_gstr T.c_CHAIN) (pda_cons (pd_var (pv 5)) pda_nil))) (pd_un un_neg ud_neg (pd_call c_opened (hr.mono (by omega)) tk (pda_cons (pd_gstr T.c_CHAIN) (pda_cons (pd_var (pv 5)) (pda_cons (pd_call c_total_value (hr.mono (by omega)) tk (pda_cons (pd_tupF (pda_cons (pd_call c_without (hr.mono (by omega)) tk (pda_cons (pd_var (pv 2)) (pda_cons (pd_var (pv 5)) pda_nil))) (pda_cons (pd_var (pv 3)) pda_nil))) (pda_cons (pd_var (pv 1)) pda_nil))) pda_nil))))))))
      (ds_cons (ds_for hp rfl (di_seq (pd_var (pv 3))) (gd_nm (pg_name (i := 5) nd rfl (by first | exact Or.inl rfl | exact Or.inr rfl))) (ds_one (ds_dput (i := 4) T.hW (hu65 hr) rfl (by first | exact Or.inl rfl | exact Or.inr (Or.inl rfl) | exact Or.inr (Or.inr rfl)) (pd_tupF (pda_cons (pd_gstr T.c_RING) (pda_cons (pd_var (pv 5)) pda_nil))) (pd_un un_neg ud_neg (pd_call c_opened (hr.mono (by omega)) tk (pda_cons (pd_gstr T.c_RING) (pda_cons (pd_var (pv 5)) (pda_cons (pd_call c_total_value (hr.mono (by omega)) tk (pda_cons (pd_tupF (pda_cons (pd_var (pv 2)) (pda_cons (pd_call c_without (hr.mono (by omega)) tk (pda_cons (pd_var (pv 3)) (pda_cons (pd_var (pv 5)) pda_nil))) pda_nil))) (pda_cons (pd_var (pv 1)) pda_nil))) pda_nil))))))))
      (ds_one (ds_frz (i := 4) (ds_ret (pd_var (pv 4))))))))),
    fun ds R hl hs => rfl⟩
theorem sc_total_value : FnScope N_total_value ["total", "known"] (defScope st_total_value) := ⟨rfl, rfl, rfl, by decide +kernel, rfl, by decide +kernel, by decide +kernel⟩
theorem cal_total_value (T : TT P w K mg base Γ fI) (F : FnI K mg "total_value" st_total_value) (Fc : FnI K mg "values_of" st_values_of) (c_opened : Cal P w K mg base Γ 1 "opened" 3 F_opened) (c_without : Cal P w K mg base Γ 1 "without" 2 F_without) : ∀ n, Cal P w K mg base Γ (2 + 2 * n) "total_value" 2 (FR_total_value Γ n) := by
  obtain ⟨f, fd, FD, gx⟩ := F.ex
  intro n
  induction n with
  | zero => exact (cal_mk (N := N_total_value) (ps := ["total", "known"]) (k := 0) FD gx sc_total_value (FD.bindsN fun _ _ _ _ _ _ us hl => match us, hl with | [_, _], _ => rfl) (fun cdv A outer s H E hr => ⟨sDead, ds_dead, fun ds R hl hs => absurd rfl hs⟩)).mono (by omega)
  | succ n ih =>
  have c_values_of := cal_values_ofG T Fc (k := 2 + 2 * n) (by omega) c_opened c_without  ih
  refine cal_mk (k := 2 + 2 * n + 1) (N := N_total_value) (ps := ["total", "known"]) FD gx sc_total_value (FD.bindsN fun _ _ _ _ _ _ us hl => match us, hl with | [_, _], _ => rfl) (fun cdv A outer s H E hr => ?_)
  have nd := (sc_total_value).nd
  have hp := passes_of (X := cxOf (L2.CX P w) P w K mg base N_total_value "total_value" (defScope st_total_value) f cdv A outer s H E) rfl
  have tk : Takes (cxOf (L2.CX P w) P w K mg base N_total_value "total_value" (defScope st_total_value) f cdv A outer s H E) (WD E) := takes_of rfl rfl rfl rfl
  exact ⟨sem_total_value Γ (FC_values_of (FR_total_value Γ n)), (ds_memo (X := cxOf (L2.CX P w) P w K mg base N_total_value "total_value" (defScope st_total_value) f cdv A outer s H E) T.hW (hu65 hr) (pv 1) (pv 0) (pv 1) (pv 0) (dp_cons (ds_set (i := 2) nd rfl (by first | exact Or.inl rfl | exact Or.inr rfl) (pd_call c_values_of (hr.mono (by omega)) tk (pda_cons (pd_var (pv 0)) (pda_cons (pd_var (pv 1)) pda_nil)))) (dp_put T.hW (hu65 hr) (pv 1) (pv 0) (pd_if (pdt_truN T.hW (pd_var (pv 2))) (pd_maxVN T.hW rfl (pd_var (pv 2)) T.b_max) (pd_int pe_int)))) (fun _ _ => rfl)),
    fun ds R hl hs => rfl⟩
theorem cal_values_of (T : TT P w K mg base Γ fI) (F : FnI K mg "values_of" st_values_of) (c_opened : Cal P w K mg base Γ 1 "opened" 3 F_opened) (c_total_value : Cal P w K mg base Γ 30 "total_value" 2 (FR_total_value Γ 14)) (c_without : Cal P w K mg base Γ 1 "without" 2 F_without) : Cal P w K mg base Γ 31 "values_of" 2 (F_values_of Γ) :=
  cal_values_ofG T F (by decide) c_opened c_without  c_total_value
theorem sc_sum_worth : FnScope N_sum_worth ["total"] (defScope st_sum_worth) := ⟨rfl, rfl, rfl, by decide +kernel, rfl, by decide +kernel, by decide +kernel⟩
theorem cal_sum_worth (T : TT P w K mg base Γ fI) (F : FnI K mg "sum_worth" st_sum_worth) (c_need_sum : Cal P w K mg base Γ 5 "need_sum" 1 F_need_sum) (d_total_value : ∀ b M, Cal P w K mg base (Γ.memo b M) 30 "total_value" 2 (FR_total_value (Γ.memo b M) 14)) (TM : ∀ b M, TT P w K mg base (Γ.memo b M) fI) : Cal P w K mg base Γ 31 "sum_worth" 1 (F_sum_worth Γ) := by
  obtain ⟨f, fd, FD, gx⟩ := F.ex
  refine cal_mk (N := N_sum_worth) (ps := ["total"]) FD gx sc_sum_worth (FD.bindsN fun _ _ _ _ _ _ us hl => match us, hl with | [_], _ => rfl) (fun cdv A outer s H E hr => ?_)
  have nd := (sc_sum_worth).nd
  have hp := passes_of (X := cxOf (L2.CX P w) P w K mg base N_sum_worth "sum_worth" (defScope st_sum_worth) f cdv A outer s H E) rfl
  have tk : Takes (cxOf (L2.CX P w) P w K mg base N_sum_worth "sum_worth" (defScope st_sum_worth) f cdv A outer s H E) (WD E) := takes_of rfl rfl rfl rfl
  exact ⟨sem_sum_worth Γ, (ds_cons (ds_expr (pd_call c_need_sum (hr.mono (by decide)) tk (pda_cons (pd_var (pv 0)) pda_nil)))
      (ds_one (ds_ret (pd_callM1 T.hW d_total_value (hr.mono (by decide)) tk (pv 0))))),
    fun ds R hl hs => rfl⟩
theorem sc_need_long : FnScope N_need_long ["total"] (defScope st_need_long) := ⟨rfl, rfl, rfl, by decide +kernel, rfl, by decide +kernel, by decide +kernel⟩
theorem cal_need_long (T : TT P w K mg base Γ fI) (F : FnI K mg "need_long" st_need_long) (c_need_sum : Cal P w K mg base Γ 5 "need_sum" 1 F_need_sum) : Cal P w K mg base Γ 6 "need_long" 1 F_need_long := by
  obtain ⟨f, fd, FD, gx⟩ := F.ex
  refine cal_mk (N := N_need_long) (ps := ["total"]) FD gx sc_need_long (FD.bindsN fun _ _ _ _ _ _ us hl => match us, hl with | [_], _ => rfl) (fun cdv A outer s H E hr => ?_)
  have nd := (sc_need_long).nd
  have hp := passes_of (X := cxOf (L2.CX P w) P w K mg base N_need_long "need_long" (defScope st_need_long) f cdv A outer s H E) rfl
  have tk : Takes (cxOf (L2.CX P w) P w K mg base N_need_long "need_long" (defScope st_need_long) f cdv A outer s H E) (WD E) := takes_of rfl rfl rfl rfl
  exact ⟨sem_need_long, (ds_cons (ds_expr (pd_call c_need_sum (hr.mono (by decide)) tk (pda_cons (pd_var (pv 0)) pda_nil)))
      (ds_one (ds_if (pdt_w (pdw_or (pdt_tru (pd_lc (own := [(("size" : Str), 1)]) rfl nd (di_seq (pd_ix ix_seq od_ix (pd_var (pv 0)) (pd_int pe_int) (fun _ _ => rfl))) (blkOk_by (show blkC N_need_long (defScope st_need_long) _ _ = true from by decide +kernel)) (by decide) (fun _ _ _ _ _ => (gd_nm (pg_name (i := 1) nd rfl (by first | exact Or.inl rfl | exact Or.inr rfl)))) (fun _ _ _ _ _ => (dts_one (pdt_cmp op_lt od_lt (pd_var (pv 1)) (pd_int pe_int) (nomark _)))) (fun _ _ _ _ _ => (pd_var (pv 1))))) (pdw_or1 (pdt_tru (pd_lc (own := [(("size" : Str), 1)]) rfl nd (di_seq (pd_ix ix_seq od_ix (pd_var (pv 0)) (pd_int pe_int) (fun _ _ => rfl))) (blkOk_by (show blkC N_need_long (defScope st_need_long) _ _ = true from by decide +kernel)) (by decide) (fun _ _ _ _ _ => (gd_nm (pg_name (i := 1) nd rfl (by first | exact Or.inl rfl | exact Or.inr rfl)))) (fun _ _ _ _ _ => (dts_one (pdt_w (pdw_or (pdt_cmp op_lt od_lt (pd_var (pv 1)) (pd_int pe_int) (nomark _)) (pdw_or1 (pdt_cmp (op_eqD hr.units) od_eq (pd_op op_mod od_mod (pd_var (pv 1)) (pd_int pe_int)) (pd_int pe_int) (nomark _))))))) (fun _ _ _ _ _ => (pd_var (pv 1)))))))) (ds_one (ds_raise (c := "BadSum") T.box T.x_BadSum (hr.mono (by decide)) tk (pd_var (pv 0)))) ds_nil))),
    fun ds R hl hs => rfl⟩
theorem sc_extra : FnScope N_extra ["total"] (defScope st_extra) := ⟨rfl, rfl, rfl, by decide +kernel, rfl, by decide +kernel, by decide +kernel⟩
theorem cal_extra (T : TT P w K mg base Γ fI) (F : FnI K mg "extra" st_extra) : Cal P w K mg base Γ 1 "extra" 1 F_extra := by
  obtain ⟨f, fd, FD, gx⟩ := F.ex
  refine cal_mk (N := N_extra) (ps := ["total"]) FD gx sc_extra (FD.bindsN fun _ _ _ _ _ _ us hl => match us, hl with | [_], _ => rfl) (fun cdv A outer s H E hr => ?_)
  have nd := (sc_extra).nd
  have hp := passes_of (X := cxOf (L2.CX P w) P w K mg base N_extra "extra" (defScope st_extra) f cdv A outer s H E) rfl
  have tk : Takes (cxOf (L2.CX P w) P w K mg base N_extra "extra" (defScope st_extra) f cdv A outer s H E) (WD E) := takes_of rfl rfl rfl rfl
  exact ⟨sem_extra, (ds_cons (ds_asg (pd_var (pv 0)) (gd_tup rfl (gds_cons (gd_nm (pg_name (i := 1) nd rfl (by first | exact Or.inl rfl | exact Or.inr rfl))) (gds_cons (gd_nm (pg_name (i := 2) nd rfl (by first | exact Or.inl rfl | exact Or.inr rfl))) gds_nil))))
      (ds_cons (ds_if (pdt_not (pdt_tru (pd_var (pv 1)))) (ds_one (ds_ret (pd_if (pdt_tru (pd_var (pv 2))) (pd_gint T.c_EXTRA_RINGS) (pd_gint T.c_EXTRA_ENDED)))) ds_nil)
      (ds_one (ds_ret (pd_if (pdt_w (pdw_and (pdt_tru (pd_var (pv 2))) (pdw_and1 (pdt_cmp (op_eqD hr.units) od_eq (pd_ix ix_seq od_ix (pd_var (pv 1)) (pd_un un_neg ud_neg (pd_int pe_int)) (fun _ _ => rfl)) (pd_int pe_int) (nomark _))))) (pd_gint T.c_EXTRA_MIXED) (pd_gint T.c_EXTRA_CHAINS)))))),
    fun ds R hl hs => rfl⟩
theorem sc_controlled : FnScope N_controlled ["total"] (defScope st_controlled) := ⟨rfl, rfl, rfl, by decide +kernel, rfl, by decide +kernel, by decide +kernel⟩
theorem cal_controlled (T : TT P w K mg base Γ fI) (F : FnI K mg "controlled" st_controlled) (c_need_long : Cal P w K mg base Γ 6 "need_long" 1 F_need_long) (c_extra : Cal P w K mg base Γ 1 "extra" 1 F_extra) : Cal P w K mg base Γ 7 "controlled" 1 F_controlled := by
  obtain ⟨f, fd, FD, gx⟩ := F.ex
  refine cal_mk (N := N_controlled) (ps := ["total"]) FD gx sc_controlled (FD.bindsN fun _ _ _ _ _ _ us hl => match us, hl with | [_], _ => rfl) (fun cdv A outer s H E hr => ?_)
  have nd := (sc_controlled).nd
  have hp := passes_of (X := cxOf (L2.CX P w) P w K mg base N_controlled "controlled" (defScope st_controlled) f cdv A outer s H E) rfl
  have tk : Takes (cxOf (L2.CX P w) P w K mg base N_controlled "controlled" (defScope st_controlled) f cdv A outer s H E) (WD E) := takes_of rfl rfl rfl rfl
  exact ⟨sem_controlled, (ds_cons (ds_expr (pd_call c_need_long (hr.mono (by decide)) tk (pda_cons (pd_var (pv 0)) pda_nil)))
      (ds_one (ds_ret (pd_op op_plusF od_plusF (pd_op op_plusF od_plusF (pd_callB (cr_sumA rfl) cd_sumA T.b_sum (by decide +kernel) (pda_cons (pd_lc (own := [(("size" : Str), 1)]) rfl nd (di_seq (pd_ix ix_seq od_ix (pd_var (pv 0)) (pd_int pe_int) (fun _ _ => rfl))) (blkOk_by (show blkC N_controlled (defScope st_controlled) _ _ = true from by decide +kernel)) (by decide) (fun _ _ _ _ _ => (gd_nm (pg_name (i := 1) nd rfl (by first | exact Or.inl rfl | exact Or.inr rfl)))) (fun _ _ _ _ _ => dts_nil) (fun _ _ _ _ _ => (pd_op op_sub od_sub (pd_var (pv 1)) (pd_int pe_int)))) pda_nil)) (pd_callB (cr_sumA rfl) cd_sumA T.b_sum (by decide +kernel) (pda_cons (pd_lc (own := [(("size" : Str), 1)]) rfl nd (di_seq (pd_ix ix_seq od_ix (pd_var (pv 0)) (pd_int pe_int) (fun _ _ => rfl))) (blkOk_by (show blkC N_controlled (defScope st_controlled) _ _ = true from by decide +kernel)) (by decide) (fun _ _ _ _ _ => (gd_nm (pg_name (i := 1) nd rfl (by first | exact Or.inl rfl | exact Or.inr rfl)))) (fun _ _ _ _ _ => dts_nil) (fun _ _ _ _ _ => (pd_op op_sub od_sub (pd_var (pv 1)) (pd_int pe_int)))) pda_nil))) (pd_call c_extra (hr.mono (by decide)) tk (pda_cons (pd_var (pv 0)) pda_nil)))))),
    fun ds R hl hs => rfl⟩
theorem sc_is_controlled : FnScope N_is_controlled ["total"] (defScope st_is_controlled) := ⟨rfl, rfl, rfl, by decide +kernel, rfl, by decide +kernel, by decide +kernel⟩
theorem cal_is_controlled (T : TT P w K mg base Γ fI) (F : FnI K mg "is_controlled" st_is_controlled) (c_controlled : Cal P w K mg base Γ 7 "controlled" 1 F_controlled) : Cal P w K mg base Γ 8 "is_controlled" 1 F_is_controlled := by
  obtain ⟨f, fd, FD, gx⟩ := F.ex
  refine cal_mk (N := N_is_controlled) (ps := ["total"]) FD gx sc_is_controlled (FD.bindsN fun _ _ _ _ _ _ us hl => match us, hl with | [_], _ => rfl) (fun cdv A outer s H E hr => ?_)
  have nd := (sc_is_controlled).nd
  have hp := passes_of (X := cxOf (L2.CX P w) P w K mg base N_is_controlled "is_controlled" (defScope st_is_controlled) f cdv A outer s H E) rfl
  have tk : Takes (cxOf (L2.CX P w) P w K mg base N_is_controlled "is_controlled" (defScope st_is_controlled) f cdv A outer s H E) (WD E) := takes_of rfl rfl rfl rfl
  exact ⟨sem_is_controlled, (ds_one (ds_ret (pd_cmp op_ge od_ge (pd_call c_controlled (hr.mono (by decide)) tk (pda_cons (pd_var (pv 0)) pda_nil)) (pd_int pe_int) (nomark _)))),
    fun ds R hl hs => rfl⟩
theorem sc_long_kinds : FnScope N_long_kinds ["total"] (defScope st_long_kinds) := ⟨rfl, rfl, rfl, by decide +kernel, rfl, by decide +kernel, by decide +kernel⟩
theorem cal_long_kinds (T : TT P w K mg base Γ fI) (F : FnI K mg "long_kinds" st_long_kinds) (c_need_long : Cal P w K mg base Γ 6 "need_long" 1 F_need_long) : Cal P w K mg base Γ 7 "long_kinds" 1 F_long_kinds := by
  obtain ⟨f, fd, FD, gx⟩ := F.ex
  refine cal_mk (N := N_long_kinds) (ps := ["total"]) FD gx sc_long_kinds (FD.bindsN fun _ _ _ _ _ _ us hl => match us, hl with | [_], _ => rfl) (fun cdv A outer s H E hr => ?_)
  have nd := (sc_long_kinds).nd
  have hp := passes_of (X := cxOf (L2.CX P w) P w K mg base N_long_kinds "long_kinds" (defScope st_long_kinds) f cdv A outer s H E) rfl
  have tk : Takes (cxOf (L2.CX P w) P w K mg base N_long_kinds "long_kinds" (defScope st_long_kinds) f cdv A outer s H E) (WD E) := takes_of rfl rfl rfl rfl
  exact ⟨sem_long_kinds, (ds_cons (ds_expr (pd_call c_need_long (hr.mono (by decide)) tk (pda_cons (pd_var (pv 0)) pda_nil)))
      (ds_one (ds_ret (pd_tupF (pda_cons (pd_callB cr_len cd_len T.b_len (by decide +kernel) (pda_cons (pd_ix ix_seq od_ix (pd_var (pv 0)) (pd_int pe_int) (fun _ _ => rfl)) pda_nil)) (pda_cons (pd_callB cr_len cd_len T.b_len (by decide +kernel) (pda_cons (pd_ix ix_seq od_ix (pd_var (pv 0)) (pd_int pe_int) (fun _ _ => rfl)) pda_nil)) (pda_cons (pd_op op_plusF od_plusF (pd_callB (cr_sumA rfl) cd_sumA T.b_sum (by decide +kernel) (pda_cons (pd_ix ix_seq od_ix (pd_var (pv 0)) (pd_int pe_int) (fun _ _ => rfl)) pda_nil)) (pd_callB (cr_sumA rfl) cd_sumA T.b_sum (by decide +kernel) (pda_cons (pd_ix ix_seq od_ix (pd_var (pv 0)) (pd_int pe_int) (fun _ _ => rfl)) pda_nil))) pda_nil))))))),
    fun ds R hl hs => rfl⟩
theorem sc__law_taken : FnScope N__law_taken ["row", "many"] (defScope st__law_taken) := ⟨rfl, rfl, rfl, by decide +kernel, rfl, by decide +kernel, by decide +kernel⟩
theorem cal__law_taken (T : TT P w K mg base Γ fI) (F : FnI K mg "_law_taken" st__law_taken) : Cal P w K mg base Γ 1 "_law_taken" 2 (F__law_taken Γ) := by
  obtain ⟨f, fd, FD, gx⟩ := F.ex
  refine cal_mk (N := N__law_taken) (ps := ["row", "many"]) FD gx sc__law_taken (FD.bindsN fun _ _ _ _ _ _ us hl => match us, hl with | [_, _], _ => rfl) (fun cdv A outer s H E hr => ?_)
  have nd := (sc__law_taken).nd
  have hp := passes_of (X := cxOf (L2.CX P w) P w K mg base N__law_taken "_law_taken" (defScope st__law_taken) f cdv A outer s H E) rfl
  have tk : Takes (cxOf (L2.CX P w) P w K mg base N__law_taken "_law_taken" (defScope st__law_taken) f cdv A outer s H E) (WD E) := takes_of rfl rfl rfl rfl
  exact ⟨sem__law_taken Γ, (ds_cons (ds_if (pdt_cmp op_gt od_gt (pd_row (i := 3) (pd_var (pv 0))) (pd_int pe_int) (nomark _)) (ds_cons (ds_set (i := 2) nd rfl (by first | exact Or.inl rfl | exact Or.inr rfl) (pd_op op_mod od_mod (pd_callTy cr_int cd_intA T.b_int (by decide +kernel) (pda_cons (pd_row (i := 3) (pd_var (pv 0))) pda_nil)) (pd_var (pv 1))))
      (ds_cons (ds_rowSet (i := 0) (j := 3) rfl (by first | exact Or.inl rfl | exact Or.inr (Or.inl rfl) | exact Or.inr (Or.inr rfl)) (pd_op op_fdiv od_div (pd_row (i := 3) (pd_var (pv 0))) (pd_var (pv 1))))
      (ds_one (ds_ret (pd_var (pv 2)))))) ds_nil)
      (ds_cons (ds_rowSet (i := 0) (j := 1) rfl (by first | exact Or.inl rfl | exact Or.inr (Or.inl rfl) | exact Or.inr (Or.inr rfl)) (pd_op op_plusF od_plusF (pd_row (i := 1) (pd_var (pv 0))) (pd_int pe_int)))
      (ds_cons (ds_if (pdt_cmp op_gt od_gt (pd_row (i := 1) (pd_var (pv 0))) (pd_scrLen T.hK (pd_row (i := 0) (pd_var (pv 0))) T.b_len) (nomark _)) (ds_cons (ds_rowSet (i := 0) (j := 2) rfl (by first | exact Or.inl rfl | exact Or.inr (Or.inl rfl) | exact Or.inr (Or.inr rfl)) (pd_op op_mod od_mod (pd_callTy cr_int cd_intA T.b_int (by decide +kernel) (pda_cons (pd_op op_plusF od_plusF (pd_op op_timesI od_timesI (pd_row (i := 2) (pd_var (pv 0))) (pd_int pe_int)) (pd_int pe_int)) pda_nil)) (pd_int pe_int)))
      (ds_one (ds_ret (pd_op op_mod od_mod (pd_callTy cr_int cd_intA T.b_int (by decide +kernel) (pda_cons (pd_op op_fdiv od_div (pd_row (i := 2) (pd_var (pv 0))) (pd_int pe_int)) pda_nil)) (pd_var (pv 1)))))) ds_nil)
      (ds_cons (ds_set (i := 3) nd rfl (by first | exact Or.inl rfl | exact Or.inr rfl) (pd_scrAt T.hK (pd_row (i := 0) (pd_var (pv 0))) (pd_op op_sub od_sub (pd_row (i := 1) (pd_var (pv 0))) (pd_int pe_int)) (fun _ _ => rfl)))
      (ds_cons (ds_rowSet (i := 0) (j := 2) rfl (by first | exact Or.inl rfl | exact Or.inr (Or.inl rfl) | exact Or.inr (Or.inr rfl)) (pd_op op_mod od_mod (pd_callTy cr_int cd_intA T.b_int (by decide +kernel) (pda_cons (pd_op op_plusF od_plusF (pd_op op_plusF od_plusF (pd_op op_timesI od_timesI (pd_row (i := 2) (pd_var (pv 0))) (pd_int pe_int)) (pd_var (pv 3))) (pd_int pe_int)) pda_nil)) (pd_int pe_int)))
      (ds_cons (ds_if (pdt_cmp op_ge od_ge (pd_var (pv 3)) (pd_op op_pow od_pow (pd_int pe_int) (pd_int pe_int)) (nomark _)) (ds_one (ds_rowSet (i := 0) (j := 3) rfl (by first | exact Or.inl rfl | exact Or.inr (Or.inl rfl) | exact Or.inr (Or.inr rfl)) (pd_op op_fdiv od_div (pd_var (pv 3)) (pd_var (pv 1))))) ds_nil)
      (ds_one (ds_ret (pd_op op_mod od_mod (pd_callTy cr_int cd_intA T.b_int (by decide +kernel) (pda_cons (pd_var (pv 3)) pda_nil)) (pd_var (pv 1))))))))))),
    fun ds R hl hs => rfl⟩
theorem sc__law_pick : FnScope N__law_pick ["row", "some"] (defScope st__law_pick) := ⟨rfl, rfl, rfl, by decide +kernel, rfl, by decide +kernel, by decide +kernel⟩
theorem cal__law_pick (T : TT P w K mg base Γ fI) (F : FnI K mg "_law_pick" st__law_pick) (c__law_taken : Cal P w K mg base Γ 1 "_law_taken" 2 (F__law_taken Γ)) : Cal P w K mg base Γ 2 "_law_pick" 2 (F__law_pick Γ) := by
  obtain ⟨f, fd, FD, gx⟩ := F.ex
  refine cal_mk (N := N__law_pick) (ps := ["row", "some"]) FD gx sc__law_pick (FD.bindsN fun _ _ _ _ _ _ us hl => match us, hl with | [_, _], _ => rfl) (fun cdv A outer s H E hr => ?_)
  have nd := (sc__law_pick).nd
  have hp := passes_of (X := cxOf (L2.CX P w) P w K mg base N__law_pick "_law_pick" (defScope st__law_pick) f cdv A outer s H E) rfl
  have tk : Takes (cxOf (L2.CX P w) P w K mg base N__law_pick "_law_pick" (defScope st__law_pick) f cdv A outer s H E) (WD E) := takes_of rfl rfl rfl rfl
  exact ⟨sem__law_pick Γ, (ds_one (ds_ret (pd_ix ix_seq od_ix (pd_var (pv 1)) (pd_call c__law_taken (hr.mono (by decide)) tk (pda_cons (pd_var (pv 0)) (pda_cons (pd_callB cr_len cd_len T.b_len (by decide +kernel) (pda_cons (pd_var (pv 1)) pda_nil)) pda_nil))) (fun _ _ => rfl)))),
    fun ds R hl hs => rfl⟩
theorem sc__law_alike : FnScope N__law_alike ["found", "due"] (defScope st__law_alike) := ⟨rfl, rfl, rfl, by decide +kernel, rfl, by decide +kernel, by decide +kernel⟩
theorem cal__law_alike (T : TT P w K mg base Γ fI) (F : FnI K mg "_law_alike" st__law_alike) : ∀ n, Cal P w K mg base Γ (1 + n) "_law_alike" 2 (FR__law_alike n) := by
  obtain ⟨f, fd, FD, gx⟩ := F.ex
  intro n
  induction n with
  | zero => exact (cal_mk (N := N__law_alike) (ps := ["found", "due"]) (k := 0) FD gx sc__law_alike (FD.bindsN fun _ _ _ _ _ _ us hl => match us, hl with | [_, _], _ => rfl) (fun cdv A outer s H E hr => ⟨sDead, ds_dead, fun ds R hl hs => absurd rfl hs⟩)).mono (by omega)
  | succ n ih =>
  have c__law_alike := ih
  refine cal_mk (k := 1 + n) (N := N__law_alike) (ps := ["found", "due"]) FD gx sc__law_alike (FD.bindsN fun _ _ _ _ _ _ us hl => match us, hl with | [_, _], _ => rfl) (fun cdv A outer s H E hr => ?_)
  have nd := (sc__law_alike).nd
  have hp := passes_of (X := cxOf (L2.CX P w) P w K mg base N__law_alike "_law_alike" (defScope st__law_alike) f cdv A outer s H E) rfl
  have tk : Takes (cxOf (L2.CX P w) P w K mg base N__law_alike "_law_alike" (defScope st__law_alike) f cdv A outer s H E) (WD E) := takes_of rfl rfl rfl rfl
  exact ⟨sem__law_alike (FR__law_alike n), (ds_cons (ds_if (pdt_tru (pd_isi2 T.b_isinstance (pd_var (pv 1)) (pe_bltn (v := .ty "tuple") (by rfl) T.b_tuple (by decide +kernel) rfl) (pe_bltn (v := .ty "list") (by rfl) T.b_list (by decide +kernel) rfl))) (ds_cons (ds_if (pdt_w (pdw_or (pdt_not (pdt_tru (pd_isi2 T.b_isinstance (pd_var (pv 0)) (pe_bltn (v := .ty "tuple") (by rfl) T.b_tuple (by decide +kernel) rfl) (pe_bltn (v := .ty "list") (by rfl) T.b_list (by decide +kernel) rfl)))) (pdw_or1 (pdt_cmp (op_neD hr.units) od_ne (pd_isi T.b_isinstance (pd_var (pv 0)) (pe_bltn (v := .ty "list") (by rfl) T.b_list (by decide +kernel) rfl)) (pd_isi T.b_isinstance (pd_var (pv 1)) (pe_bltn (v := .ty "list") (by rfl) T.b_list (by decide +kernel) rfl)) (nomark _))))) (ds_one (ds_ret (pd_bl pe_bl))) ds_nil)
      (ds_cons (ds_if (pdt_cmp (op_neD hr.units) od_ne (pd_callB cr_len cd_len T.b_len (by decide +kernel) (pda_cons (pd_var (pv 0)) pda_nil)) (pd_callB cr_len cd_len T.b_len (by decide +kernel) (pda_cons (pd_var (pv 1)) pda_nil)) (nomark _)) (ds_one (ds_ret (pd_bl pe_bl))) ds_nil)
      (ds_one (ds_ret (pd_cmp (op_eqD hr.units) od_eq (pd_lc (own := [(("k" : Str), 2)]) rfl nd (di_rng1 (by rfl) T.b_range (pda_cons (pd_callB cr_len cd_len T.b_len (by decide +kernel) (pda_cons (pd_var (pv 1)) pda_nil)) pda_nil)) (blkOk_by (show blkC N__law_alike (defScope st__law_alike) _ _ = true from by decide +kernel)) (by decide) (fun _ _ _ _ _ => (gd_nm (pg_name (i := 2) nd rfl (by first | exact Or.inl rfl | exact Or.inr rfl)))) (fun _ _ _ _ _ => (dts_one (pdt_not (pdt_tru (pd_call c__law_alike (hr.mono (by omega)) takes0 (pda_cons (pd_ix ix_seq od_ix (pd_var (pv 0)) (pd_var (pv 2)) (fun _ _ => rfl)) (pda_cons (pd_ix ix_seq od_ix (pd_var (pv 1)) (pd_var (pv 2)) (fun _ _ => rfl)) pda_nil))))))) (fun _ _ _ _ _ => (pd_var (pv 2)))) (pd_lst pda_nil) (nomark _)))))) ds_nil)
      (ds_cons (ds_if (pdt_tru (pd_isi T.b_isinstance (pd_var (pv 1)) (pe_bltn (v := .ty "dict") (by rfl) T.b_dict (by decide +kernel) rfl))) (ds_cons (ds_if (pdt_w (pdw_or (pdt_not (pdt_tru (pd_isi T.b_isinstance (pd_var (pv 0)) (pe_bltn (v := .ty "dict") (by rfl) T.b_dict (by decide +kernel) rfl)))) (pdw_or1 (pdt_cmp (op_neD hr.units) od_ne (pd_callTy call_list_of cd_list T.b_list (by decide +kernel) (pda_cons (pd_var (pv 0)) pda_nil)) (pd_callTy call_list_of cd_list T.b_list (by decide +kernel) (pda_cons (pd_var (pv 1)) pda_nil)) (nomark _))))) (ds_one (ds_ret (pd_bl pe_bl))) ds_nil)
      (ds_one (ds_ret (pd_cmp (op_eqD hr.units) od_eq (pd_lc (own := [(("key" : Str), 3)]) rfl nd (di_seq (pd_var (pv 1))) (blkOk_by (show blkC N__law_alike (defScope st__law_alike) _ _ = true from by decide +kernel)) (by decide) (fun _ _ _ _ _ => (gd_nm (pg_name (i := 3) nd rfl (by first | exact Or.inl rfl | exact Or.inr rfl)))) (fun _ _ _ _ _ => (dts_one (pdt_not (pdt_tru (pd_call c__law_alike (hr.mono (by omega)) takes0 (pda_cons (pd_ix ix_seq od_ix (pd_var (pv 0)) (pd_var (pv 3)) (fun _ _ => rfl)) (pda_cons (pd_ix ix_seq od_ix (pd_var (pv 1)) (pd_var (pv 3)) (fun _ _ => rfl)) pda_nil))))))) (fun _ _ _ _ _ => (pd_var (pv 3)))) (pd_lst pda_nil) (nomark _))))) ds_nil)
      (ds_cons (ds_if (pdt_w (pdw_or (pdt_cmp op_isN od_isN (pd_var (pv 1)) (pd_non pe_non) (nomark _)) (pdw_or1 (pdt_tru (pd_isi T.b_isinstance (pd_var (pv 1)) (pe_bltn (v := .ty "str") (by rfl) T.b_str (by decide +kernel) rfl)))))) (ds_one (ds_ret (pd_and (pd_cmp (op_eqD hr.units) od_eq (pd_var (pv 0)) (pd_var (pv 1)) (nomark _)) (pd_one (pd_cmp (op_eqD hr.units) od_eq (pd_isi T.b_isinstance (pd_var (pv 0)) (pe_bltn (v := .ty "str") (by rfl) T.b_str (by decide +kernel) rfl)) (pd_isi T.b_isinstance (pd_var (pv 1)) (pe_bltn (v := .ty "str") (by rfl) T.b_str (by decide +kernel) rfl)) (nomark _)))))) ds_nil)
      (ds_one (ds_ret (pd_and (pd_isi T.b_isinstance (pd_var (pv 0)) (pe_bltn (v := .ty "int") (by rfl) T.b_int (by decide +kernel) rfl)) (pd_and (pd_cmp (op_eqD hr.units) od_eq (pd_isi T.b_isinstance (pd_var (pv 0)) (pe_bltn (v := .ty "bool") (by rfl) T.b_bool (by decide +kernel) rfl)) (pd_isi T.b_isinstance (pd_var (pv 1)) (pe_bltn (v := .ty "bool") (by rfl) T.b_bool (by decide +kernel) rfl)) (nomark _)) (pd_one (pd_cmp (op_eqD hr.units) od_eq (pd_var (pv 0)) (pd_var (pv 1)) (nomark _)))))))))),
    fun ds R hl hs => rfl⟩
theorem sc__law_numbers : FnScope N__law_numbers ["mask", "many"] (defScope st__law_numbers) := ⟨rfl, rfl, rfl, by decide +kernel, rfl, by decide +kernel, by decide +kernel⟩
theorem cal__law_numbers (T : TT P w K mg base Γ fI) (F : FnI K mg "_law_numbers" st__law_numbers) : Cal P w K mg base Γ 1 "_law_numbers" 2 F__law_numbers := by
  obtain ⟨f, fd, FD, gx⟩ := F.ex
  refine cal_mk (N := N__law_numbers) (ps := ["mask", "many"]) FD gx sc__law_numbers (FD.bindsN fun _ _ _ _ _ _ us hl => match us, hl with | [_, _], _ => rfl) (fun cdv A outer s H E hr => ?_)
  have nd := (sc__law_numbers).nd
  have hp := passes_of (X := cxOf (L2.CX P w) P w K mg base N__law_numbers "_law_numbers" (defScope st__law_numbers) f cdv A outer s H E) rfl
  have tk : Takes (cxOf (L2.CX P w) P w K mg base N__law_numbers "_law_numbers" (defScope st__law_numbers) f cdv A outer s H E) (WD E) := takes_of rfl rfl rfl rfl
  exact ⟨sem__law_numbers, (ds_one (ds_ret (pd_callTy call_tupleF cd_tupleF T.b_tuple (by decide +kernel) (pda_cons (pd_lc (own := [(("k" : Str), 2)]) rfl nd (di_rng1 (by rfl) T.b_range (pda_cons (pd_var (pv 1)) pda_nil)) (blkOk_by (show blkC N__law_numbers (defScope st__law_numbers) _ _ = true from by decide +kernel)) (by decide) (fun _ _ _ _ _ => (gd_nm (pg_name (i := 2) nd rfl (by first | exact Or.inl rfl | exact Or.inr rfl)))) (fun _ _ _ _ _ => (dts_one (pdt_cmp (op_eqD hr.units) od_eq (pd_op op_mod od_mod (pd_op op_shr od_shr (pd_var (pv 0)) (pd_var (pv 2))) (pd_int pe_int)) (pd_int pe_int) (nomark _)))) (fun _ _ _ _ _ => (pd_var (pv 2)))) pda_nil)))),
    fun ds R hl hs => rfl⟩
theorem sc__law_opened : FnScope N__law_opened ["gives", "size", "rest"] (defScope st__law_opened) := ⟨rfl, rfl, rfl, by decide +kernel, rfl, by decide +kernel, by decide +kernel⟩
theorem cal__law_opened (T : TT P w K mg base Γ fI) (F : FnI K mg "_law_opened" st__law_opened) : Cal P w K mg base Γ 1 "_law_opened" 3 F__law_opened := by
  obtain ⟨f, fd, FD, gx⟩ := F.ex
  refine cal_mk (N := N__law_opened) (ps := ["gives", "size", "rest"]) FD gx sc__law_opened (FD.bindsN fun _ _ _ _ _ _ us hl => match us, hl with | [_, _, _], _ => rfl) (fun cdv A outer s H E hr => ?_)
  have nd := (sc__law_opened).nd
  have hp := passes_of (X := cxOf (L2.CX P w) P w K mg base N__law_opened "_law_opened" (defScope st__law_opened) f cdv A outer s H E) rfl
  have tk : Takes (cxOf (L2.CX P w) P w K mg base N__law_opened "_law_opened" (defScope st__law_opened) f cdv A outer s H E) (WD E) := takes_of rfl rfl rfl rfl
  exact ⟨sem__law_opened, (ds_cons (ds_if (pdt_cmp op_lt od_lt (pd_var (pv 1)) (pd_if (pdt_cmp (op_eqD hr.units) od_eq (pd_var (pv 0)) (pd_int pe_int) (nomark _)) (pd_int pe_int) (pd_int pe_int)) (nomark _)) (ds_one (ds_ret (pd_op op_plusF od_plusF (pd_var (pv 1)) (pd_var (pv 2))))) ds_nil)
      (ds_one (ds_ret (pd_callB (call_max2 rfl) cd_max2 T.b_max (by decide +kernel) (pda_cons (pd_op op_plusF od_plusF (pd_var (pv 1)) (pd_var (pv 2))) (pda_cons (pd_op op_sub od_sub (pd_op op_sub od_sub (pd_var (pv 1)) (pd_op op_timesI od_timesI (pd_int pe_int) (pd_var (pv 0)))) (pd_var (pv 2))) pda_nil)))))),
    fun ds R hl hs => rfl⟩
theorem sc__law_sum_worths : FnScope N__law_sum_worths ["parts"] (defScope st__law_sum_worths) := ⟨rfl, rfl, rfl, by decide +kernel, rfl, by decide +kernel, by decide +kernel⟩
theorem cal__law_sum_worths (T : TT P w K mg base Γ fI) (F : FnI K mg "_law_sum_worths" st__law_sum_worths) (c__law_numbers : Cal P w K mg base Γ 1 "_law_numbers" 2 F__law_numbers) (c__law_opened : Cal P w K mg base Γ 1 "_law_opened" 3 F__law_opened) : Cal P w K mg base Γ 2 "_law_sum_worths" 1 F__law_sum_worths := by
  obtain ⟨f, fd, FD, gx⟩ := F.ex
  refine cal_mk (N := N__law_sum_worths) (ps := ["parts"]) FD gx sc__law_sum_worths (FD.bindsN fun _ _ _ _ _ _ us hl => match us, hl with | [_], _ => rfl) (fun cdv A outer s H E hr => ?_)
  have nd := (sc__law_sum_worths).nd
  have hp := passes_of (X := cxOf (L2.CX P w) P w K mg base N__law_sum_worths "_law_sum_worths" (defScope st__law_sum_worths) f cdv A outer s H E) rfl
  have tk : Takes (cxOf (L2.CX P w) P w K mg base N__law_sum_worths "_law_sum_worths" (defScope st__law_sum_worths) f cdv A outer s H E) (WD E) := takes_of rfl rfl rfl rfl
  exact ⟨sem__law_sum_worths, (ds_cons (ds_own (i := 1) nd rfl (by first | exact Or.inl rfl | exact Or.inr rfl) (pf_lst (pda_cons (pd_int pe_int) pda_nil)))
      (ds_cons (ds_for hp rfl (di_rng2 (by rfl) T.b_range (pda_cons (pd_int pe_int) (pda_cons (pd_op op_shl od_shl (pd_int pe_int) (pd_callB cr_len cd_len T.b_len (by decide +kernel) (pda_cons (pd_var (pv 0)) pda_nil))) pda_nil))) (gd_nm (pg_name (i := 2) nd rfl (by first | exact Or.inl rfl | exact Or.inr rfl))) (ds_cons (ds_set (i := 3) nd rfl (by first | exact Or.inl rfl | exact Or.inr rfl) (pd_non pe_non))
      (ds_cons (ds_for hp rfl (di_seq (pd_call c__law_numbers (hr.mono (by decide)) tk (pda_cons (pd_var (pv 2)) (pda_cons (pd_callB cr_len cd_len T.b_len (by decide +kernel) (pda_cons (pd_var (pv 0)) pda_nil)) pda_nil)))) (gd_nm (pg_name (i := 4) nd rfl (by first | exact Or.inl rfl | exact Or.inr rfl))) (ds_cons (ds_set (i := 5) nd rfl (by first | exact Or.inl rfl | exact Or.inr rfl) (pd_op op_sub od_sub (pd_int pe_int) (pd_call c__law_opened (hr.mono (by decide)) tk (pda_cons (pd_ix ix_seq od_ix (pd_ix ix_seq od_ix (pd_var (pv 0)) (pd_var (pv 4)) (fun _ _ => rfl)) (pd_int pe_int) (fun _ _ => rfl)) (pda_cons (pd_ix ix_seq od_ix (pd_ix ix_seq od_ix (pd_var (pv 0)) (pd_var (pv 4)) (fun _ _ => rfl)) (pd_int pe_int) (fun _ _ => rfl)) (pda_cons (pd_ixOwn (i := 1) rfl (by first | exact Or.inl rfl | exact Or.inr (Or.inl rfl) | exact Or.inr (Or.inr rfl)) (pd_op op_sub od_sub (pd_var (pv 2)) (pd_op op_shl od_shl (pd_int pe_int) (pd_var (pv 4))))) pda_nil))))))
      (ds_one (ds_set (i := 3) nd rfl (by first | exact Or.inl rfl | exact Or.inr rfl) (pd_if (pdt_w (pdw_or (pdt_cmp op_isN od_isN (pd_var (pv 3)) (pd_non pe_non) (nomark _)) (pdw_or1 (pdt_cmp op_gt od_gt (pd_var (pv 5)) (pd_var (pv 3)) (nomark _))))) (pd_var (pv 5)) (pd_var (pv 3)))))))
      (ds_one (ds_app (i := 1) rfl (by first | exact Or.inl rfl | exact Or.inr (Or.inl rfl) | exact Or.inr (Or.inr rfl)) (pd_var (pv 3)))))))
      (ds_one (ds_frz (i := 1) (ds_ret (pd_var (pv 1))))))),
    fun ds R hl hs => rfl⟩
theorem sc__law_even : FnScope N__law_even ["row", "many", "least"] (defScope st__law_even) := ⟨rfl, rfl, rfl, by decide +kernel, rfl, by decide +kernel, by decide +kernel⟩
theorem cal__law_even (T : TT P w K mg base Γ fI) (F : FnI K mg "_law_even" st__law_even) (c__law_taken : Cal P w K mg base Γ 1 "_law_taken" 2 (F__law_taken Γ)) : Cal P w K mg base Γ 2 "_law_even" 3 (F__law_even Γ) := by
  obtain ⟨f, fd, FD, gx⟩ := F.ex
  refine cal_mk (N := N__law_even) (ps := ["row", "many", "least"]) FD gx sc__law_even (FD.bindsN fun _ _ _ _ _ _ us hl => match us, hl with | [_, _, _], _ => rfl) (fun cdv A outer s H E hr => ?_)
  have nd := (sc__law_even).nd
  have hp := passes_of (X := cxOf (L2.CX P w) P w K mg base N__law_even "_law_even" (defScope st__law_even) f cdv A outer s H E) rfl
  have tk : Takes (cxOf (L2.CX P w) P w K mg base N__law_even "_law_even" (defScope st__law_even) f cdv A outer s H E) (WD E) := takes_of rfl rfl rfl rfl
  exact ⟨sem__law_even Γ, (ds_one (ds_ret (pd_callB cr_sortedA cd_sortedA T.b_sorted (by decide +kernel) (pda_cons (pd_lc (own := [(("k" : Str), 3)]) rfl nd (di_rng1 (by rfl) T.b_range (pda_cons (pd_var (pv 1)) pda_nil)) (blkOk_by (show blkC N__law_even (defScope st__law_even) _ _ = true from by decide +kernel)) (by decide) (fun _ _ _ _ _ => (gd_nm (pg_name (i := 3) nd rfl (by first | exact Or.inl rfl | exact Or.inr rfl)))) (fun _ _ _ _ _ => dts_nil) (fun _ _ _ _ _ => (pd_op op_plusF od_plusF (pd_var (pv 2)) (pd_op op_timesI od_timesI (pd_int pe_int) (pd_call c__law_taken (hr.mono (by decide)) takes0 (pda_cons (pd_var (pv 0)) (pda_cons (pd_int pe_int) pda_nil))))))) pda_nil)))),
    fun ds R hl hs => rfl⟩
theorem sc__law_any : FnScope N__law_any ["row", "many", "least"] (defScope st__law_any) := ⟨rfl, rfl, rfl, by decide +kernel, rfl, by decide +kernel, by decide +kernel⟩
theorem cal__law_any (T : TT P w K mg base Γ fI) (F : FnI K mg "_law_any" st__law_any) (c__law_taken : Cal P w K mg base Γ 1 "_law_taken" 2 (F__law_taken Γ)) (c__law_pick : Cal P w K mg base Γ 2 "_law_pick" 2 (F__law_pick Γ)) : Cal P w K mg base Γ 3 "_law_any" 3 (F__law_any Γ) := by
  obtain ⟨f, fd, FD, gx⟩ := F.ex
  refine cal_mk (N := N__law_any) (ps := ["row", "many", "least"]) FD gx sc__law_any (FD.bindsN fun _ _ _ _ _ _ us hl => match us, hl with | [_, _, _], _ => rfl) (fun cdv A outer s H E hr => ?_)
  have nd := (sc__law_any).nd
  have hp := passes_of (X := cxOf (L2.CX P w) P w K mg base N__law_any "_law_any" (defScope st__law_any) f cdv A outer s H E) rfl
  have tk : Takes (cxOf (L2.CX P w) P w K mg base N__law_any "_law_any" (defScope st__law_any) f cdv A outer s H E) (WD E) := takes_of rfl rfl rfl rfl
  exact ⟨sem__law_any Γ, (ds_one (ds_ret (pd_callB cr_sortedA cd_sortedA T.b_sorted (by decide +kernel) (pda_cons (pd_lc (own := [(("k" : Str), 3)]) rfl nd (di_rng1 (by rfl) T.b_range (pda_cons (pd_var (pv 1)) pda_nil)) (blkOk_by (show blkC N__law_any (defScope st__law_any) _ _ = true from by decide +kernel)) (by decide) (fun _ _ _ _ _ => (gd_nm (pg_name (i := 3) nd rfl (by first | exact Or.inl rfl | exact Or.inr rfl)))) (fun _ _ _ _ _ => dts_nil) (fun _ _ _ _ _ => (pd_op op_plusF od_plusF (pd_var (pv 2)) (pd_call c__law_taken (hr.mono (by decide)) takes0 (pda_cons (pd_var (pv 0)) (pda_cons (pd_call c__law_pick (hr.mono (by decide)) takes0 (pda_cons (pd_var (pv 0)) (pda_cons (pd_lst (pda_cons (pd_int pe_int) (pda_cons (pd_int pe_int) (pda_cons (pd_int pe_int) pda_nil)))) pda_nil))) pda_nil)))))) pda_nil)))),
    fun ds R hl hs => rfl⟩
theorem sc__law_controlled : FnScope N__law_controlled ["chains", "rings"] (defScope st__law_controlled) := ⟨rfl, rfl, rfl, by decide +kernel, rfl, by decide +kernel, by decide +kernel⟩
theorem cal__law_controlled (T : TT P w K mg base Γ fI) (F : FnI K mg "_law_controlled" st__law_controlled) : Cal P w K mg base Γ 1 "_law_controlled" 2 F__law_controlled := by
  obtain ⟨f, fd, FD, gx⟩ := F.ex
  refine cal_mk (N := N__law_controlled) (ps := ["chains", "rings"]) FD gx sc__law_controlled (FD.bindsN fun _ _ _ _ _ _ us hl => match us, hl with | [_, _], _ => rfl) (fun cdv A outer s H E hr => ?_)
  have nd := (sc__law_controlled).nd
  have hp := passes_of (X := cxOf (L2.CX P w) P w K mg base N__law_controlled "_law_controlled" (defScope st__law_controlled) f cdv A outer s H E) rfl
  have tk : Takes (cxOf (L2.CX P w) P w K mg base N__law_controlled "_law_controlled" (defScope st__law_controlled) f cdv A outer s H E) (WD E) := takes_of rfl rfl rfl rfl
  exact ⟨sem__law_controlled, (ds_cons (ds_set (i := 2) nd rfl (by first | exact Or.inl rfl | exact Or.inr rfl) (pd_op op_sub od_sub (pd_op op_plusF od_plusF (pd_op op_sub od_sub (pd_callB (cr_sumA rfl) cd_sumA T.b_sum (by decide +kernel) (pda_cons (pd_var (pv 0)) pda_nil)) (pd_op op_timesI od_timesI (pd_int pe_int) (pd_callB cr_len cd_len T.b_len (by decide +kernel) (pda_cons (pd_var (pv 0)) pda_nil)))) (pd_callB (cr_sumA rfl) cd_sumA T.b_sum (by decide +kernel) (pda_cons (pd_var (pv 1)) pda_nil))) (pd_op op_timesI od_timesI (pd_int pe_int) (pd_callB cr_len cd_len T.b_len (by decide +kernel) (pda_cons (pd_var (pv 1)) pda_nil)))))
      (ds_cons (ds_if (pdt_w (pdw_and (pdt_cmp (op_eqD hr.units) od_eq (pd_var (pv 0)) (pd_lst pda_nil) (nomark _)) (pdw_and1 (pdt_cmp (op_eqD hr.units) od_eq (pd_var (pv 1)) (pd_lst pda_nil) (nomark _))))) (ds_one (ds_ret (pd_int pe_int))) ds_nil)
      (ds_cons (ds_if (pdt_cmp (op_eqD hr.units) od_eq (pd_var (pv 0)) (pd_lst pda_nil) (nomark _)) (ds_one (ds_ret (pd_op op_plusF od_plusF (pd_var (pv 2)) (pd_int pe_int)))) ds_nil)
      (ds_one (ds_ret (pd_op op_plusF od_plusF (pd_var (pv 2)) (pd_if (pdt_w (pdw_and (pdt_cmp (op_neD hr.units) od_ne (pd_var (pv 1)) (pd_lst pda_nil) (nomark _)) (pdw_and1 (pdt_cmp (op_eqD hr.units) od_eq (pd_callB (cr_max rfl) cd_max T.b_max (by decide +kernel) (pda_cons (pd_var (pv 0)) pda_nil)) (pd_int pe_int) (nomark _))))) (pd_int pe_int) (pd_int pe_int)))))))),
    fun ds R hl hs => rfl⟩
end
end DL

set_option Elab.async false
set_option linter.all false
set_option maxRecDepth 100000
set_option maxHeartbeats 0
namespace DL
open PySem PySem.Spec L2
section
variable {P : Program} {w : World} {K : PySem.W.Frag} {mg : Str → Option Value} {base : Heap} {Γ : Ctx} {fI : Addr}
theorem sc_refused : FnScope ["ask", "e"] ["ask"] (defScope st__law_refused) := ⟨rfl, rfl, rfl, by decide +kernel, rfl, by decide +kernel, by decide +kernel⟩
theorem bind_refused {K : PySem.W.Frag} {g : Addr} {gd : FuncData} (FD : FunD K "_law_refused" "_law_refused" (defArgs st__law_refused) (defBody st__law_refused) (defScope st__law_refused) [] [] g gd) : L2.Binds K gd ["ask"] [] := FD.bindsN fun _ _ _ _ _ _ us hl => match us, hl with | [_], _ => rfl
theorem exm_refused (T : TT P w K mg base Γ fI) : ∀ c, (refW.lookup c).isSome = true → ∀ p ∈ refW, PySem.W.exmOne K (.ref (Γ.cls c)) (.ref (Γ.cls p.1)) = some (decide (c = p.1)) := fun c hc p hp => by
  obtain ⟨w, hw⟩ := Option.isSome_iff_exists.mp hc
  exact T.exm (c, w) (lookup_mem' hw) p hp
theorem gives_refused {X : Cx} (T : TT X.prog X.w X.K X.mg X.base Γ fI) {q : Str} (g : Addr) (cdg : Value) : LamX.GivesTo X ["ask", "e"] "_law_refused" (defScope st__law_refused) g cdg (defBody st__law_refused) "ask" q (TTref X.K (refW.map fun p => (Γ.cls p.1, p.2))) := by
  refine refused_gives (X := X) (sg := defScope st__law_refused) (ws := refW.map fun p => (Γ.cls p.1, p.2)) (by decide) rfl (fun s H => ?_)
  exact (.more ⟨rfl, by decide, .inl T.x_BadSum.mgC⟩ (fun a oe cls d pn hz hf => clause_su (Z := (cxOf C8.CX0 X.prog X.w X.K X.mg X.base ["ask", "e"] "_law_refused" (defScope st__law_refused) g cdg X.A X.stack s H C8.E0).nox) T.x_BadSum.xf T.x_BadSum.noV rfl (Or.inl rfl) a oe cls d pn hz hf) .none)
theorem held_ask (T : TT P w K mg base Γ fI) (c_controlled : Cal P w K mg base Γ 7 "controlled" 1 F_controlled) (c_is_controlled : Cal P w K mg base Γ 8 "is_controlled" 1 F_is_controlled) (c_long_kinds : Cal P w K mg base Γ 7 "long_kinds" 1 F_long_kinds) : ∀ (y : String) (q : Nat × (List D → M D)), (tab_ask Γ).lookup y = some q → Hld P w K mg base Γ 32 y q.1 q.2 := by
  intro y q h
  have h := lookup_mem' h
  simp only [tab_ask, List.mem_cons, List.not_mem_nil, or_false, Prod.mk.injEq] at h
  rcases h with ⟨rfl, rfl⟩ | ⟨rfl, rfl⟩ | ⟨rfl, rfl⟩
  · exact (c_controlled).hld T.l_controlled T.g_controlled
  · exact (c_is_controlled).hld T.l_is_controlled T.g_is_controlled
  · exact (c_long_kinds).hld T.l_long_kinds T.g_long_kinds
theorem sc_law : FnScope N_law ["script"] (defScope st_law) := ⟨rfl, rfl, rfl, by decide +kernel, rfl, by decide +kernel, by decide +kernel⟩
theorem law_walk (T : TT P w K mg base Γ fI) (c__law_any : Cal P w K mg base Γ 3 "_law_any" 3 (F__law_any Γ)) (c__law_taken : Cal P w K mg base Γ 1 "_law_taken" 2 (F__law_taken Γ)) (c__law_even : Cal P w K mg base Γ 2 "_law_even" 3 (F__law_even Γ)) (c__law_controlled : Cal P w K mg base Γ 1 "_law_controlled" 2 F__law_controlled) (c__law_alike : Cal P w K mg base Γ 9 "_law_alike" 2 (FR__law_alike 8)) (c_controlled : Cal P w K mg base Γ 7 "controlled" 1 F_controlled) (c_is_controlled : Cal P w K mg base Γ 8 "is_controlled" 1 F_is_controlled) (c_long_kinds : Cal P w K mg base Γ 7 "long_kinds" 1 F_long_kinds) (c__law_sum_worths : Cal P w K mg base Γ 2 "_law_sum_worths" 1 F__law_sum_worths) (c_sum_worth : Cal P w K mg base Γ 31 "sum_worth" 1 (F_sum_worth Γ)) (c__law_pick : Cal P w K mg base Γ 2 "_law_pick" 2 (F__law_pick Γ)) {f cd tab : Addr} {cdv : Value} {st : Shared} {H : Hp} (hown0 : Γ.own = []) (hcd : cdv = .ref cd) (TB : LamX.TabB base mg cd tab) (tabs : Γ.tabs = [(tab, (("law" : Str) ++ ".<locals>.") ++ ("<lambda>" : Str))])
    (hT : H tab = some (.tbl #[])) (hscr : SqL K H Γ.scr (Γ.cells.map V.int)) (hni : ∀ b C dx fs, H b ≠ some (.ins C dx fs)) (hr : Room 35 (callerA.deeper (PyProof.Rows.envOfC "law" (defScope st_law) st.heap.objs.size f cdv)))
    (ok : ∀ q, ∃ R', sem_law Γ (startLaw N_law 1 q) (some ⟨q, 0, 313, 0⟩) = .rt (.bl true) R') :
    ∃ t, PSs (cxOf (L2.CX P w) P w K mg base N_law "law" (defScope st_law) f cdv callerA [] st H fun _ _ _ => False) (defBody st_law) t ∧ t { nx := fun _ H' => V.non = .bl true, rt := fun v _ => v = .bl true } (L2.start N_law [.ref Γ.scr]) H := by
  have nd := sc_law.nd
  have hp := passes_of (X := (cxOf (L2.CX P w) P w K mg base N_law "law" (defScope st_law) f cdv callerA [] st H fun _ _ _ => False)) rfl
  have tk : Takes (cxOf (L2.CX P w) P w K mg base N_law "law" (defScope st_law) f cdv callerA [] st H fun _ _ _ => False) (fun _ _ _ _ => False) := LamX.takes0
  have hgd : (callerA.deeper (PyProof.Rows.envOfC "law" (defScope st_law) st.heap.objs.size f cdv)).guards = some [] := rfl
  have hin : (tab, lamN (cxOf (L2.CX P w) P w K mg base N_law "law" (defScope st_law) f cdv callerA [] st H fun _ _ _ => False)) ∈ Γ.tabs := by rw [tabs]; exact List.mem_singleton.mpr rfl
  have honly : ∀ p ∈ Γ.tabs, p.1 = tab → p.2 = lamN (cxOf (L2.CX P w) P w K mg base N_law "law" (defScope st_law) f cdv callerA [] st H fun _ _ _ => False) := fun p hp _ => by
    rw [tabs] at hp
    rw [List.mem_singleton.mp hp]
    rfl
  refine ds_law (X := (cxOf (L2.CX P w) P w K mg base N_law "law" (defScope st_law) f cdv callerA [] st H fun _ _ _ => False)) (Γ := Γ) (N := N_law) (H := H) (vs := [.ref Γ.scr]) (i := 1) (sem := sem_law Γ) nd rfl rfl rfl (by first | exact Or.inl rfl | exact Or.inr (Or.inl rfl) | exact Or.inr (Or.inr rfl)) (by first | exact Or.inl rfl | exact Or.inr rfl) (by first | exact Or.inl rfl | exact Or.inr rfl) ?_ (hvs := rfl) (hown := hown0) (htab := fun p hp => by
    rw [tabs] at hp
    rw [List.mem_singleton.mp hp]
    exact .nil hT) (hni := hni) (hscr := by rw [T.hK]; exact hscr) (ok := ok)
  exact (ds_cons (ds_for hp rfl (di_rng1 (by rfl) T.b_range (pda_cons (pd_int pe_int) pda_nil)) (gd_nm (pg_name (i := 2) nd rfl (by first | exact Or.inl rfl | exact Or.inr rfl))) (ds_cons (ds_set (i := 3) nd rfl (by first | exact Or.inl rfl | exact Or.inr rfl) (pd_call c__law_any (hr.mono (by decide)) tk (pda_cons (pd_var (pv 1)) (pda_cons (pd_call c__law_taken (hr.mono (by decide)) tk (pda_cons (pd_var (pv 1)) (pda_cons (pd_int pe_int) pda_nil))) (pda_cons (pd_int pe_int) pda_nil)))))
      (ds_cons (ds_set (i := 4) nd rfl (by first | exact Or.inl rfl | exact Or.inr rfl) (pd_call c__law_even (hr.mono (by decide)) tk (pda_cons (pd_var (pv 1)) (pda_cons (pd_call c__law_taken (hr.mono (by decide)) tk (pda_cons (pd_var (pv 1)) (pda_cons (pd_int pe_int) pda_nil))) (pda_cons (pd_int pe_int) pda_nil)))))
      (ds_cons (ds_set (i := 5) nd rfl (by first | exact Or.inl rfl | exact Or.inr rfl) (pd_tupF (pda_cons (pd_callTy call_tupleF cd_tupleF T.b_tuple (by decide +kernel) (pda_cons (pd_var (pv 3)) pda_nil)) (pda_cons (pd_callTy call_tupleF cd_tupleF T.b_tuple (by decide +kernel) (pda_cons (pd_var (pv 4)) pda_nil)) pda_nil))))
      (ds_cons (ds_set (i := 6) nd rfl (by first | exact Or.inl rfl | exact Or.inr rfl) (pd_call c__law_controlled (hr.mono (by decide)) tk (pda_cons (pd_var (pv 3)) (pda_cons (pd_var (pv 4)) pda_nil))))
      (ds_cons (ds_if (pdt_w (pdw_or (pdt_not (pdt_tru (pd_call c__law_alike (hr.mono (by decide)) tk (pda_cons (pd_call c_controlled (hr.mono (by decide)) tk (pda_cons (pd_var (pv 5)) pda_nil)) (pda_cons (pd_var (pv 6)) pda_nil))))) (pdw_or1 (pdt_not (pdt_tru (pd_call c__law_alike (hr.mono (by decide)) tk (pda_cons (pd_call c_is_controlled (hr.mono (by decide)) tk (pda_cons (pd_var (pv 5)) pda_nil)) (pda_cons (pd_cmp op_ge od_ge (pd_var (pv 6)) (pd_int pe_int) (nomark _)) pda_nil)))))))) (ds_one (ds_ret (pd_bl pe_bl))) ds_nil)
      (ds_cons (ds_if (pdt_not (pdt_tru (pd_call c__law_alike (hr.mono (by decide)) tk (pda_cons (pd_call c_long_kinds (hr.mono (by decide)) tk (pda_cons (pd_var (pv 5)) pda_nil)) (pda_cons (pd_tupF (pda_cons (pd_callB cr_len cd_len T.b_len (by decide +kernel) (pda_cons (pd_var (pv 3)) pda_nil)) (pda_cons (pd_callB cr_len cd_len T.b_len (by decide +kernel) (pda_cons (pd_var (pv 4)) pda_nil)) (pda_cons (pd_op op_plusF od_plusF (pd_callB (cr_sumA rfl) cd_sumA T.b_sum (by decide +kernel) (pda_cons (pd_var (pv 3)) pda_nil)) (pd_callB (cr_sumA rfl) cd_sumA T.b_sum (by decide +kernel) (pda_cons (pd_var (pv 4)) pda_nil))) pda_nil)))) pda_nil))))) (ds_one (ds_ret (pd_bl pe_bl))) ds_nil)
      (ds_cons (ds_set (i := 7) nd rfl (by first | exact Or.inl rfl | exact Or.inr rfl) (pd_call c__law_sum_worths (hr.mono (by decide)) tk (pda_cons (pd_op op_plusF od_plusF (pd_lc (own := [(("size" : Str), 8)]) rfl nd (di_seq (pd_var (pv 3))) (blkOk_by (show blkC N_law (defScope st_law) _ _ = true from by decide +kernel)) (by decide) (fun _ _ _ _ _ => (gd_nm (pg_name (i := 8) nd rfl (by first | exact Or.inl rfl | exact Or.inr rfl)))) (fun _ _ _ _ _ => dts_nil) (fun _ _ _ _ _ => (pd_tupF (pda_cons (pd_int pe_int) (pda_cons (pd_var (pv 8)) pda_nil))))) (pd_lc (own := [(("size" : Str), 8)]) rfl nd (di_seq (pd_var (pv 4))) (blkOk_by (show blkC N_law (defScope st_law) _ _ = true from by decide +kernel)) (by decide) (fun _ _ _ _ _ => (gd_nm (pg_name (i := 8) nd rfl (by first | exact Or.inl rfl | exact Or.inr rfl)))) (fun _ _ _ _ _ => dts_nil) (fun _ _ _ _ _ => (pd_tupF (pda_cons (pd_int pe_int) (pda_cons (pd_var (pv 8)) pda_nil)))))) pda_nil)))
      (ds_cons (ds_set (i := 9) nd rfl (by first | exact Or.inl rfl | exact Or.inr rfl) (pd_ix ix_seq od_ix (pd_var (pv 7)) (pd_op op_sub od_sub (pd_callB cr_len cd_len T.b_len (by decide +kernel) (pda_cons (pd_var (pv 7)) pda_nil)) (pd_int pe_int)) (fun _ _ => rfl)))
      (ds_cons (ds_if (pdt_cmp (op_neD hr.units) od_ne (pd_call c_sum_worth (hr.mono (by decide)) tk (pda_cons (pd_var (pv 5)) pda_nil)) (pd_var (pv 9)) (nomark _)) (ds_one (ds_ret (pd_bl pe_bl))) ds_nil)
      (ds_one (ds_if (pdt_w (pdw_and (pdt_cmp op_ge od_ge (pd_var (pv 6)) (pd_int pe_int) (nomark _)) (pdw_and1 (pdt_cmp (op_neD hr.units) od_ne (pd_var (pv 9)) (pd_op op_sub od_sub (pd_int pe_int) (pd_var (pv 6))) (nomark _))))) (ds_one (ds_ret (pd_bl pe_bl))) ds_nil))))))))))))
      (ds_cons (ds_set (i := 10) nd rfl (by first | exact Or.inl rfl | exact Or.inr rfl) (pd_lst (pda_cons (pd_tupF (pda_cons (pd_tupF (pda_cons (pd_int pe_int) pda_nil)) (pda_cons (pd_tupF pda_nil) pda_nil))) (pda_cons (pd_tupF (pda_cons (pd_tupF (pda_cons (pd_int pe_int) (pda_cons (pd_int pe_int) pda_nil))) (pda_cons (pd_tupF (pda_cons (pd_int pe_int) pda_nil)) pda_nil))) (pda_cons (pd_tupF (pda_cons (pd_tupF (pda_cons (pd_int pe_int) pda_nil)) (pda_cons (pd_tupF (pda_cons (pd_int pe_int) pda_nil)) pda_nil))) (pda_cons (pd_tupF (pda_cons (pd_tupF pda_nil) (pda_cons (pd_tupF (pda_cons (pd_int pe_int) (pda_cons (pd_int pe_int) pda_nil))) pda_nil))) (pda_cons (pd_tupF (pda_cons (pd_tupF (pda_cons (pd_int pe_int) pda_nil)) (pda_cons (pd_tupF (pda_cons (pd_int pe_int) (pda_cons (pd_int pe_int) pda_nil))) pda_nil))) (pda_cons (pd_non pe_non) (pda_cons (pd_tupF (pda_cons (pd_tupF (pda_cons (pd_int pe_int) (pda_cons (pd_int pe_int) pda_nil))) pda_nil)) (pda_cons (pd_tupF (pda_cons (pd_lst (pda_cons (pd_int pe_int) pda_nil)) (pda_cons (pd_tupF pda_nil) pda_nil))) (pda_cons (pd_tupF (pda_cons (pd_tupF (pda_cons (pd_bl pe_bl) pda_nil)) (pda_cons (pd_tupF pda_nil) pda_nil))) pda_nil)))))))))))
      (ds_cons (ds_set (i := 11) nd rfl (by first | exact Or.inl rfl | exact Or.inr rfl) (pd_call c__law_pick (hr.mono (by decide)) tk (pda_cons (pd_var (pv 1)) (pda_cons (pd_var (pv 10)) pda_nil))))
      (ds_cons (ds_for hp rfl (di_seq (pd_lst (pda_cons (pd_fnG T.l_controlled T.g_controlled) (pda_cons (pd_fnG T.l_is_controlled T.g_is_controlled) (pda_cons (pd_fnG T.l_long_kinds T.g_long_kinds) pda_nil))))) (gd_nm (pg_name (i := 12) nd rfl (by first | exact Or.inl rfl | exact Or.inr rfl))) (ds_one (ds_if (pdt_cmp (op_neD hr.units) od_ne (pd_repr hr.units hgd T.b_repr (pda_cons (pd_ref (k := 32) T.refd sc_refused (by first | exact Or.inl rfl | exact Or.inr (Or.inl rfl) | exact Or.inr (Or.inr rfl)) bind_refused (gives_refused T) (exm_refused T) TB hcd hin honly (hr.mono (by decide)) (LamX.lamS_by (show LamX.lamSB (defScope st_law) _ = true from by decide +kernel)) (fun A outer s H E f c' hr2 => (pd_held (i := 12) (held_ask T c_controlled c_is_controlled c_long_kinds) (hr2.mono (by decide)) takes_lam rfl (by first | exact Or.inl rfl | exact Or.inr (Or.inl rfl) | exact Or.inr (Or.inr rfl)) (pda_cons (pd_var (pv 11)) pda_nil)))) pda_nil)) (pd_repr hr.units hgd T.b_repr (pda_cons (pd_tupF (pda_cons (pd_str pe_str) (pda_cons (pd_var (pv 11)) pda_nil))) pda_nil)) (nomark _)) (ds_one (ds_ret (pd_bl pe_bl))) ds_nil)))
      (ds_one (ds_ret (pd_bl pe_bl)))))))
end
end DL

set_option Elab.async false
set_option linter.all false
set_option maxRecDepth 100000
set_option maxHeartbeats 0
namespace DL
open PySem PySem.Spec L2
def dd_is_integer : He.DefD := ⟨("is_integer", none), "is_integer", "is_integer", defArgs st_is_integer, defBody st_is_integer, defScope st_is_integer, [], []⟩
def dd_is_within : He.DefD := ⟨("is_within", none), "is_within", "is_within", defArgs st_is_within, defBody st_is_within, defScope st_is_within, [], []⟩
def dd_is_sizes : He.DefD := ⟨("is_sizes", none), "is_sizes", "is_sizes", defArgs st_is_sizes, defBody st_is_sizes, defScope st_is_sizes, [], []⟩
def dd_is_sum : He.DefD := ⟨("is_sum", none), "is_sum", "is_sum", defArgs st_is_sum, defBody st_is_sum, defScope st_is_sum, [], []⟩
def dd_need_sum : He.DefD := ⟨("need_sum", none), "need_sum", "need_sum", defArgs st_need_sum, defBody st_need_sum, defScope st_need_sum, [], []⟩
def dd_without : He.DefD := ⟨("without", none), "without", "without", defArgs st_without, defBody st_without, defScope st_without, [], []⟩
def dd_opened : He.DefD := ⟨("opened", none), "opened", "opened", defArgs st_opened, defBody st_opened, defScope st_opened, [], []⟩
def dd_total_value : He.DefD := ⟨("total_value", none), "total_value", "total_value", defArgs st_total_value, defBody st_total_value, defScope st_total_value, [], []⟩
def dd_values_of : He.DefD := ⟨("values_of", none), "values_of", "values_of", defArgs st_values_of, defBody st_values_of, defScope st_values_of, [], []⟩
def dd_sum_worth : He.DefD := ⟨("sum_worth", none), "sum_worth", "sum_worth", defArgs st_sum_worth, defBody st_sum_worth, defScope st_sum_worth, [], []⟩
def dd_need_long : He.DefD := ⟨("need_long", none), "need_long", "need_long", defArgs st_need_long, defBody st_need_long, defScope st_need_long, [], []⟩
def dd_extra : He.DefD := ⟨("extra", none), "extra", "extra", defArgs st_extra, defBody st_extra, defScope st_extra, [], []⟩
def dd_controlled : He.DefD := ⟨("controlled", none), "controlled", "controlled", defArgs st_controlled, defBody st_controlled, defScope st_controlled, [], []⟩
def dd_is_controlled : He.DefD := ⟨("is_controlled", none), "is_controlled", "is_controlled", defArgs st_is_controlled, defBody st_is_controlled, defScope st_is_controlled, [], []⟩
def dd_long_kinds : He.DefD := ⟨("long_kinds", none), "long_kinds", "long_kinds", defArgs st_long_kinds, defBody st_long_kinds, defScope st_long_kinds, [], []⟩
def dd__law_taken : He.DefD := ⟨("_law_taken", none), "_law_taken", "_law_taken", defArgs st__law_taken, defBody st__law_taken, defScope st__law_taken, [], []⟩
def dd__law_pick : He.DefD := ⟨("_law_pick", none), "_law_pick", "_law_pick", defArgs st__law_pick, defBody st__law_pick, defScope st__law_pick, [], []⟩
def dd__law_alike : He.DefD := ⟨("_law_alike", none), "_law_alike", "_law_alike", defArgs st__law_alike, defBody st__law_alike, defScope st__law_alike, [], []⟩
def dd__law_numbers : He.DefD := ⟨("_law_numbers", none), "_law_numbers", "_law_numbers", defArgs st__law_numbers, defBody st__law_numbers, defScope st__law_numbers, [], []⟩
def dd__law_opened : He.DefD := ⟨("_law_opened", none), "_law_opened", "_law_opened", defArgs st__law_opened, defBody st__law_opened, defScope st__law_opened, [], []⟩
def dd__law_sum_worths : He.DefD := ⟨("_law_sum_worths", none), "_law_sum_worths", "_law_sum_worths", defArgs st__law_sum_worths, defBody st__law_sum_worths, defScope st__law_sum_worths, [], []⟩
def dd__law_even : He.DefD := ⟨("_law_even", none), "_law_even", "_law_even", defArgs st__law_even, defBody st__law_even, defScope st__law_even, [], []⟩
def dd__law_any : He.DefD := ⟨("_law_any", none), "_law_any", "_law_any", defArgs st__law_any, defBody st__law_any, defScope st__law_any, [], []⟩
def dd__law_controlled : He.DefD := ⟨("_law_controlled", none), "_law_controlled", "_law_controlled", defArgs st__law_controlled, defBody st__law_controlled, defScope st__law_controlled, [], []⟩
def dd__law_refused : He.DefD := ⟨("_law_refused", none), "_law_refused", "_law_refused", defArgs st__law_refused, defBody st__law_refused, defScope st__law_refused, [], []⟩
def dd_law : He.DefD := ⟨("law", none), "law", "law", defArgs st_law, defBody st_law, defScope st_law, [], []⟩
def dd_Box : He.DefD := ⟨("BoxError", some "__init__"), "__init__", "BoxError.__init__", defArgs st_Box, defBody st_Box, defScope st_Box, [.non], []⟩
def fnL : List He.DefD := [dd_is_integer, dd_is_within, dd_is_sizes, dd_is_sum, dd_need_sum, dd_without, dd_opened, dd_total_value, dd_values_of, dd_sum_worth, dd_need_long, dd_extra, dd_controlled, dd_is_controlled, dd_long_kinds, dd__law_taken, dd__law_pick, dd__law_alike, dd__law_numbers, dd__law_opened, dd__law_sum_worths, dd__law_even, dd__law_any, dd__law_controlled, dd__law_refused, dd_law, dd_Box]
def faL : List He.Fa := [He.Fa.glo "is_integer", He.Fa.glo "is_within", He.Fa.glo "is_sizes", He.Fa.glo "is_sum", He.Fa.glo "need_sum", He.Fa.glo "without", He.Fa.glo "opened", He.Fa.glo "total_value", He.Fa.glo "values_of", He.Fa.glo "sum_worth", He.Fa.glo "need_long", He.Fa.glo "extra", He.Fa.glo "controlled", He.Fa.glo "is_controlled", He.Fa.glo "long_kinds", He.Fa.glo "_law_taken", He.Fa.glo "_law_pick", He.Fa.glo "_law_alike", He.Fa.glo "_law_numbers", He.Fa.glo "_law_opened", He.Fa.glo "_law_sum_worths", He.Fa.glo "_law_even", He.Fa.glo "_law_any", He.Fa.glo "_law_controlled", He.Fa.glo "_law_refused", He.Fa.glo "law", He.Fa.glo "BoxError", He.Fa.glo "BadSum", He.Fa.free "len", He.Fa.free "list", He.Fa.free "tuple", He.Fa.free "int", He.Fa.free "str", He.Fa.free "range", He.Fa.free "isinstance", He.Fa.free "all", He.Fa.free "sum", He.Fa.free "abs", He.Fa.free "sorted", He.Fa.free "max", He.Fa.free "repr", He.Fa.free "bool", He.Fa.free "dict", He.Fa.str "CHAIN" ("chain" : Str), He.Fa.str "RING" ("ring" : Str), He.Fa.int "MOST_SIZE" (60), He.Fa.int "MOST_PARTS" (8), He.Fa.int "EXTRA_ENDED" (0), He.Fa.int "EXTRA_CHAINS" (4), He.Fa.int "EXTRA_MIXED" (6), He.Fa.int "EXTRA_RINGS" (8)]
def errsL : List String := ["BadSum"]
def exL (K : PySem.W.Frag) : Bool := (errsL.all (fun c => errB K (Str.ofString c)) && (decide (PySem.W.typeIn K (.ref (He.fAd K ("BoxError", some "__init__"))) = some (.type "function")) && refW.all fun p => refW.all fun q => decide (PySem.W.exmOne K (.ref (He.ga K (Str.ofString p.1))) (.ref (He.ga K (Str.ofString q.1))) = some (decide (p.1 = q.1)))))
abbrev SayL := He.SaysX faL fnL [] [("law", none)] exL
section
variable {P : Program} {w : World} {K : PySem.W.Frag} {mg : Str → Option Value} {base h : Heap} {val : Int → List (Int × Int) → List Int → Int} {own : List (Addr × Memo)} {lam : String → Option LamF} {mem : String → D → Memo} {a : Addr} {cells : List Int}
theorem sc_Box : FnScope ["self", "value"] ["self", "value"] (defScope st_Box) := ⟨rfl, rfl, rfl, by decide +kernel, rfl, by decide +kernel, by decide +kernel⟩
theorem tt_of (ln : ∀ x ∈ (["controlled", "is_controlled", "long_kinds"] : List String), lam x = none) (X : K.In h) (G : h.Ns mainGlobals mg) (s : SayL w h K) : TT P w K mg base (mkΓ K w val own a cells lam mem true) (He.fAd K ("BoxError", some "__init__")) := by
  have c := He.SaysT.d s.t
  have more := s.more
  unfold exL at more
  obtain ⟨mE, more⟩ := Bool.and_eq_true_iff.mp more
  obtain ⟨mT, mX⟩ := Bool.and_eq_true_iff.mp more
  obtain ⟨fdB, FB⟩ := c.def_ 26 (d := dd_Box) rfl
  have bB : L2.Binds K fdB ["self", "value"] [] := by
    obtain ⟨ds, r, b⟩ := FunD.binds1 (ps := ["self", "value"]) FB 2 1 (by simp [He.DefD.dvs, dd_Box]) (by simp [He.DefD.dvs, dd_Box]) (fun T kV doc pm an cdv ct us its hl hi => match us, its, hl, hi with | [_, _], [_], _, _ => ⟨_, rfl, rfl⟩)
    have e : ds = [] := by
      have r2 : Vals ([] : List V) ds := r
      cases r2
      rfl
    rw [e] at b
    exact b
  exact {
    hK := rfl
    hW := rfl
    fz1 := rfl
    b_len := He.free_ok X G (c.fact 28 (f := He.Fa.free "len") rfl)
    b_list := He.free_ok X G (c.fact 29 (f := He.Fa.free "list") rfl)
    b_tuple := He.free_ok X G (c.fact 30 (f := He.Fa.free "tuple") rfl)
    b_int := He.free_ok X G (c.fact 31 (f := He.Fa.free "int") rfl)
    b_str := He.free_ok X G (c.fact 32 (f := He.Fa.free "str") rfl)
    b_range := He.free_ok X G (c.fact 33 (f := He.Fa.free "range") rfl)
    b_isinstance := He.free_ok X G (c.fact 34 (f := He.Fa.free "isinstance") rfl)
    b_all := He.free_ok X G (c.fact 35 (f := He.Fa.free "all") rfl)
    b_sum := He.free_ok X G (c.fact 36 (f := He.Fa.free "sum") rfl)
    b_abs := He.free_ok X G (c.fact 37 (f := He.Fa.free "abs") rfl)
    b_sorted := He.free_ok X G (c.fact 38 (f := He.Fa.free "sorted") rfl)
    b_max := He.free_ok X G (c.fact 39 (f := He.Fa.free "max") rfl)
    b_repr := He.free_ok X G (c.fact 40 (f := He.Fa.free "repr") rfl)
    b_bool := He.free_ok X G (c.fact 41 (f := He.Fa.free "bool") rfl)
    b_dict := He.free_ok X G (c.fact 42 (f := He.Fa.free "dict") rfl)
    c_CHAIN := He.str_ok X G (c.fact 43 (f := He.Fa.str "CHAIN" ("chain" : Str)) rfl)
    c_RING := He.str_ok X G (c.fact 44 (f := He.Fa.str "RING" ("ring" : Str)) rfl)
    c_MOST_SIZE := He.int_ok X G (c.fact 45 (f := He.Fa.int "MOST_SIZE" (60)) rfl)
    c_MOST_PARTS := He.int_ok X G (c.fact 46 (f := He.Fa.int "MOST_PARTS" (8)) rfl)
    c_EXTRA_ENDED := He.int_ok X G (c.fact 47 (f := He.Fa.int "EXTRA_ENDED" (0)) rfl)
    c_EXTRA_CHAINS := He.int_ok X G (c.fact 48 (f := He.Fa.int "EXTRA_CHAINS" (4)) rfl)
    c_EXTRA_MIXED := He.int_ok X G (c.fact 49 (f := He.Fa.int "EXTRA_MIXED" (6)) rfl)
    c_EXTRA_RINGS := He.int_ok X G (c.fact 50 (f := He.Fa.int "EXTRA_RINGS" (8)) rfl)
    box := boxI_mk FB sc_Box (Or.inl rfl) (Or.inl rfl) bB (of_decide_eq_true mT)
    x_BadSum := errB_ok rfl (He.glo_ok X G (c.fact 27 (f := He.Fa.glo "BadSum") rfl)) (List.all_eq_true.mp mE "BadSum" (by simp [errsL]))
    g_controlled := He.glo_ok X G (c.fact 12 (f := He.Fa.glo "controlled") rfl)
    l_controlled := ln "controlled" (by simp)
    g_is_controlled := He.glo_ok X G (c.fact 13 (f := He.Fa.glo "is_controlled") rfl)
    l_is_controlled := ln "is_controlled" (by simp)
    g_long_kinds := He.glo_ok X G (c.fact 14 (f := He.Fa.glo "long_kinds") rfl)
    l_long_kinds := ln "long_kinds" (by simp)
    refd := by
      obtain ⟨fd, FD⟩ := c.def_ 24 (d := dd__law_refused) rfl
      exact ⟨_, fd, FD, He.glo_ok X G (c.fact 24 (f := He.Fa.glo "_law_refused") rfl)⟩
    exm := fun p hp q hq => of_decide_eq_true (List.all_eq_true.mp (List.all_eq_true.mp mX p hp) q hq) }
theorem law_runs (l : PySem.W.OpenLaw) {f : Addr} {cdv : Value} {st : Shared} {H : Hp} (hP : l.prog = P) (X : K.In h) (G : h.Ns mainGlobals mg) (s : SayL w h K) (hcd : cdv = .ref (He.cT K ("law", none)).1) (TB : LamX.TabB base mg (He.cT K ("law", none)).1 (He.cT K ("law", none)).2) (hT : H (He.cT K ("law", none)).2 = some (.tbl #[])) (hscr : SqL K H a (cells.map V.int)) (hni : ∀ b C dx fs, H b ≠ some (.ins C dx fs))
    (hr : Room 35 (callerA.deeper (PyProof.Rows.envOfC "law" (defScope st_law) st.heap.objs.size f cdv))) (ok : ∀ q, ∃ R', sem_law (mkΓ K w val [] a cells (mem := mem) (fz := true)) (startLaw N_law 1 q) (some ⟨q, 0, 313, 0⟩) = .rt (.bl true) R') :
    ∃ t, PSs (cxOf (L2.CX P w) P w K mg base N_law "law" (defScope st_law) f cdv callerA [] st H fun _ _ _ => False) (defBody st_law) t ∧ t { nx := fun _ H' => V.non = .bl true, rt := fun v _ => v = .bl true } (L2.start N_law [.ref a]) H := by
  have c := He.SaysT.d s.t
  have T : TT P w K mg base (mkΓ K w val [] a cells (mem := mem) (fz := true)) (He.fAd K ("BoxError", some "__init__")) := tt_of (fun _ _ => rfl) X G s
  have TM : ∀ (b : Addr) (M : Memo), TT P w K mg base (Ctx.memo (mkΓ K w val [] a cells (mem := mem) (fz := true)) b M) (He.fAd K ("BoxError", some "__init__")) := fun b M => tt_of (own := [(b, M)]) (fun _ _ => rfl) X G s
  have d_opened := fun (b : Addr) (M : Memo) => cal_opened (TM b M) (by obtain ⟨fd, FD⟩ := c.def_ 6 (d := dd_opened) rfl; exact ⟨_, fd, FD, He.glo_ok X G (c.fact 6 (f := He.Fa.glo "opened") rfl)⟩)  
  have d_without := fun (b : Addr) (M : Memo) => cal_without (TM b M) (by obtain ⟨fd, FD⟩ := c.def_ 5 (d := dd_without) rfl; exact ⟨_, fd, FD, He.glo_ok X G (c.fact 5 (f := He.Fa.glo "without") rfl)⟩)  
  have d_total_value := fun (b : Addr) (M : Memo) => cal_total_value (TM b M) (by obtain ⟨fd, FD⟩ := c.def_ 7 (d := dd_total_value) rfl; exact ⟨_, fd, FD, He.glo_ok X G (c.fact 7 (f := He.Fa.glo "total_value") rfl)⟩) (by obtain ⟨fd, FD⟩ := c.def_ 8 (d := dd_values_of) rfl; exact ⟨_, fd, FD, He.glo_ok X G (c.fact 8 (f := He.Fa.glo "values_of") rfl)⟩) (d_opened b M) (d_without b M)  14
  have c__law_taken := cal__law_taken T (by obtain ⟨fd, FD⟩ := c.def_ 15 (d := dd__law_taken) rfl; exact ⟨_, fd, FD, He.glo_ok X G (c.fact 15 (f := He.Fa.glo "_law_taken") rfl)⟩)  
  have c__law_pick := cal__law_pick T (by obtain ⟨fd, FD⟩ := c.def_ 16 (d := dd__law_pick) rfl; exact ⟨_, fd, FD, He.glo_ok X G (c.fact 16 (f := He.Fa.glo "_law_pick") rfl)⟩) c__law_taken 
  have c__law_any := cal__law_any T (by obtain ⟨fd, FD⟩ := c.def_ 22 (d := dd__law_any) rfl; exact ⟨_, fd, FD, He.glo_ok X G (c.fact 22 (f := He.Fa.glo "_law_any") rfl)⟩) c__law_taken c__law_pick 
  have c__law_even := cal__law_even T (by obtain ⟨fd, FD⟩ := c.def_ 21 (d := dd__law_even) rfl; exact ⟨_, fd, FD, He.glo_ok X G (c.fact 21 (f := He.Fa.glo "_law_even") rfl)⟩) c__law_taken 
  have c__law_controlled := cal__law_controlled T (by obtain ⟨fd, FD⟩ := c.def_ 23 (d := dd__law_controlled) rfl; exact ⟨_, fd, FD, He.glo_ok X G (c.fact 23 (f := He.Fa.glo "_law_controlled") rfl)⟩)  
  have c__law_alike := cal__law_alike T (by obtain ⟨fd, FD⟩ := c.def_ 17 (d := dd__law_alike) rfl; exact ⟨_, fd, FD, He.glo_ok X G (c.fact 17 (f := He.Fa.glo "_law_alike") rfl)⟩)   8
  have c_is_integer := cal_is_integer T (by obtain ⟨fd, FD⟩ := c.def_ 0 (d := dd_is_integer) rfl; exact ⟨_, fd, FD, He.glo_ok X G (c.fact 0 (f := He.Fa.glo "is_integer") rfl)⟩)  
  have c_is_within := cal_is_within T (by obtain ⟨fd, FD⟩ := c.def_ 1 (d := dd_is_within) rfl; exact ⟨_, fd, FD, He.glo_ok X G (c.fact 1 (f := He.Fa.glo "is_within") rfl)⟩) c_is_integer 
  have c_is_sizes := cal_is_sizes T (by obtain ⟨fd, FD⟩ := c.def_ 2 (d := dd_is_sizes) rfl; exact ⟨_, fd, FD, He.glo_ok X G (c.fact 2 (f := He.Fa.glo "is_sizes") rfl)⟩) c_is_within 
  have c_is_sum := cal_is_sum T (by obtain ⟨fd, FD⟩ := c.def_ 3 (d := dd_is_sum) rfl; exact ⟨_, fd, FD, He.glo_ok X G (c.fact 3 (f := He.Fa.glo "is_sum") rfl)⟩) c_is_sizes 
  have c_need_sum := cal_need_sum T (by obtain ⟨fd, FD⟩ := c.def_ 4 (d := dd_need_sum) rfl; exact ⟨_, fd, FD, He.glo_ok X G (c.fact 4 (f := He.Fa.glo "need_sum") rfl)⟩) c_is_sum 
  have c_need_long := cal_need_long T (by obtain ⟨fd, FD⟩ := c.def_ 10 (d := dd_need_long) rfl; exact ⟨_, fd, FD, He.glo_ok X G (c.fact 10 (f := He.Fa.glo "need_long") rfl)⟩) c_need_sum 
  have c_extra := cal_extra T (by obtain ⟨fd, FD⟩ := c.def_ 11 (d := dd_extra) rfl; exact ⟨_, fd, FD, He.glo_ok X G (c.fact 11 (f := He.Fa.glo "extra") rfl)⟩)  
  have c_controlled := cal_controlled T (by obtain ⟨fd, FD⟩ := c.def_ 12 (d := dd_controlled) rfl; exact ⟨_, fd, FD, He.glo_ok X G (c.fact 12 (f := He.Fa.glo "controlled") rfl)⟩) c_need_long c_extra 
  have c_is_controlled := cal_is_controlled T (by obtain ⟨fd, FD⟩ := c.def_ 13 (d := dd_is_controlled) rfl; exact ⟨_, fd, FD, He.glo_ok X G (c.fact 13 (f := He.Fa.glo "is_controlled") rfl)⟩) c_controlled 
  have c_long_kinds := cal_long_kinds T (by obtain ⟨fd, FD⟩ := c.def_ 14 (d := dd_long_kinds) rfl; exact ⟨_, fd, FD, He.glo_ok X G (c.fact 14 (f := He.Fa.glo "long_kinds") rfl)⟩) c_need_long 
  have c__law_numbers := cal__law_numbers T (by obtain ⟨fd, FD⟩ := c.def_ 18 (d := dd__law_numbers) rfl; exact ⟨_, fd, FD, He.glo_ok X G (c.fact 18 (f := He.Fa.glo "_law_numbers") rfl)⟩)  
  have c__law_opened := cal__law_opened T (by obtain ⟨fd, FD⟩ := c.def_ 19 (d := dd__law_opened) rfl; exact ⟨_, fd, FD, He.glo_ok X G (c.fact 19 (f := He.Fa.glo "_law_opened") rfl)⟩)  
  have c__law_sum_worths := cal__law_sum_worths T (by obtain ⟨fd, FD⟩ := c.def_ 20 (d := dd__law_sum_worths) rfl; exact ⟨_, fd, FD, He.glo_ok X G (c.fact 20 (f := He.Fa.glo "_law_sum_worths") rfl)⟩) c__law_numbers c__law_opened 
  have c_sum_worth := cal_sum_worth T (by obtain ⟨fd, FD⟩ := c.def_ 9 (d := dd_sum_worth) rfl; exact ⟨_, fd, FD, He.glo_ok X G (c.fact 9 (f := He.Fa.glo "sum_worth") rfl)⟩) c_need_sum  d_total_value TM
  exact law_walk T c__law_any c__law_taken c__law_even c__law_controlled c__law_alike c_controlled c_is_controlled c_long_kinds c__law_sum_worths c_sum_worth c__law_pick rfl hcd TB rfl hT hscr hni hr ok
end
abbrev RL : PySem.W.OpenRow := PySem.W.OpenLaw.row PySem.Challenge.rw_boxesclosed_k09_whole_control
def namesL : List Str := [("BoxError" : Str), ("BadSum" : Str), ("is_integer" : Str), ("is_within" : Str), ("CHAIN" : Str), ("RING" : Str), ("MOST_SIZE" : Str), ("MOST_PARTS" : Str), ("is_sizes" : Str), ("is_sum" : Str), ("need_sum" : Str), ("without" : Str), ("opened" : Str), ("values_of" : Str), ("total_value" : Str), ("sum_worth" : Str), ("EXTRA_ENDED" : Str), ("EXTRA_CHAINS" : Str), ("EXTRA_MIXED" : Str), ("EXTRA_RINGS" : Str), ("need_long" : Str), ("extra" : Str), ("controlled" : Str), ("is_controlled" : Str), ("long_kinds" : Str), ("_law_taken" : Str), ("_law_pick" : Str), ("_law_alike" : Str), ("_law_numbers" : Str), ("_law_opened" : Str)] ++ [("_law_sum_worths" : Str), ("_law_even" : Str), ("_law_any" : Str), ("_law_controlled" : Str), ("_law_refused" : Str)]
abbrev hkL : PySem.W.Hook := He.hookX 4 faL fnL [] [("law", none)] exL
def obL (s : PySem.W.SharedT) : He.AlX := He.obsX 4 faL fnL [] [("law", none)] exL (HandSHeadRun.getT s)
theorem obL_eq (s : PySem.W.SharedT) : obL s = hkL.obs s.abs := He.obsX_eq (HandSHeadRun.getT_eq s)
theorem runL (w : World) : HandSHeadRun.RunEq RL (PySem.W.view RL.prog [40]) hkL obL 12000 namesL w := by
  intro os
  kernel_rfl
end DL

set_option Elab.async false
set_option linter.all false
set_option maxRecDepth 100000
namespace DL
open PySem PySem.Spec L2
/-! ### webs, standings -/
structure GoodW (n : Int) (ss : List (Int × Int)) : Prop where
  n1 : 1 ≤ n
  n9 : n ≤ 9
  len : ss.length ≤ 12
  ok : ∀ p ∈ ss, 0 ≤ p.1 ∧ p.1 ≤ n - 1 ∧ ((p.1 + 1 ≤ p.2 ∧ p.2 ≤ n - 1) ∨ p.2 = -1)
theorem isStr2_pair {n : Int} {p : Int × Int} (h : 0 ≤ p.1 ∧ p.1 ≤ n - 1 ∧ ((p.1 + 1 ≤ p.2 ∧ p.2 ≤ n - 1) ∨ p.2 = -1)) : isStr2 (pairD p) n = true := by
  obtain ⟨h1, h2, h3⟩ := h
  simp [pairD, isStr2, within]
  omega
theorem firstBad_none {n : Int} : ∀ {ss : List (Int × Int)} (k : Int), (∀ p ∈ ss, isStr2 (pairD p) n = true) → firstBad n (ss.map pairD) k = none
  | [], _, _ => rfl
  | p :: ss, k, h => by
    rw [List.map_cons, firstBad, if_pos (h p List.mem_cons_self)]
    exact firstBad_none (k + 1) fun q hq => h q (List.mem_cons_of_mem _ hq)
theorem unpairs_map : ∀ ss : List (Int × Int), unpairs (ss.map pairD) = some ss
  | [] => rfl
  | p :: ss => by
    rw [List.map_cons]
    show (unpairs (ss.map pairD)).map ((p.1, p.2) :: ·) = _
    rw [unpairs_map ss]
    rfl
theorem pl2_pairs (ss : List (Int × Int)) : (ss.map pairD).all pl2 = true := by
  rw [List.all_eq_true]
  intro d hd
  obtain ⟨p, _, rfl⟩ := List.mem_map.mp hd
  simp [pairD, pl2, pl]
  decide
theorem small12 {k : Nat} (h : k ≤ 12) : k ≤ sizeLine := Nat.le_trans h (by decide)
theorem f_web {n : Int} {ss : List (Int × Int)} {s : D} {R : Option Rw} (g : GoodW n ss) (hs : seqD s = some (ss.map pairD)) : F_Web [.int n, s] R = .ok (.web n ss) R := by
  have hp : pl s = true := by cases s <;> first | rfl | cases hs
  have hw : within (.int n) 1 9 = true := by simp [within]; exact ⟨g.n1, g.n9⟩
  have e1 : (pl (.int n) && pl s) = true := by rw [hp]; rfl
  unfold F_Web
  simp only
  rw [if_pos e1, if_pos hw]
  simp only [hs]
  rw [if_pos ⟨pl2_pairs ss, by rw [List.length_map]; exact small12 g.len⟩, if_neg (by rw [List.length_map]; have := g.len; omega), firstBad_none 0 fun p hp => isStr2_pair (g.ok p hp)]
  simp only [unpairs_map]
def natD (st : List Nat) : List D := st.map fun (k : Nat) => D.int (k : Int)
structure StOk (m : Nat) (st : List Nat) : Prop where
  inc : st.Pairwise (· < ·)
  lt : ∀ k ∈ st, k < m
theorem StOk.nodup {m : Nat} {st : List Nat} (h : StOk m st) : st.Nodup := h.inc.imp fun h => Nat.ne_of_lt h
theorem StOk.filter {m : Nat} {st : List Nat} (h : StOk m st) (p : Nat → Bool) : StOk m (st.filter p) := ⟨h.inc.filter _, fun k hk => h.lt k (List.mem_filter.mp hk).1⟩
theorem inc_len : ∀ {m : Nat} {st : List Nat} (lo : Nat), st.Pairwise (· < ·) → (∀ k ∈ st, lo ≤ k ∧ k < m) → st.length ≤ m - lo
  | m, [], _, _, _ => Nat.zero_le _
  | m, k :: r, lo, h1, h2 => by
    obtain ⟨h3, h4⟩ := List.pairwise_cons.mp h1
    have ih := inc_len (m := m) (k + 1) h4 fun l hl => ⟨h3 l hl, (h2 l (List.mem_cons_of_mem _ hl)).2⟩
    have := h2 k List.mem_cons_self
    rw [List.length_cons]
    omega
theorem StOk.len {m : Nat} {st : List Nat} (h : StOk m st) : st.length ≤ m := by
  have := inc_len (m := m) 0 h.inc fun k hk => ⟨Nat.zero_le _, h.lt k hk⟩
  omega
theorem pl_nat (st : List Nat) : (natD st).all pl = true := by
  rw [List.all_eq_true]
  intro d hd
  obtain ⟨k, _, rfl⟩ := List.mem_map.mp hd
  rfl
theorem rising_nat : ∀ {st : List Nat}, st.Pairwise (· < ·) → risingL (natD st) = true
  | [], _ => rfl
  | [k], _ => rfl
  | k :: l :: r, h => by
    have h1 := (List.pairwise_cons.mp h).1 l List.mem_cons_self
    have ih := rising_nat (List.pairwise_cons.mp h).2
    show (decide ((k : Int) < (l : Int)) && risingL (natD (l :: r))) = true
    rw [ih, Bool.and_true, decide_eq_true_eq]
    omega
theorem rising_st {m : Nat} {st : List Nat} (h : StOk m st) : rising (.tup (natD st)) 0 ((m : Int) - 1) = true := by
  show ((natD st).all (fun d => within d 0 ((m : Int) - 1)) && risingL (natD st)) = true
  rw [rising_nat h.inc, Bool.and_true, List.all_eq_true]
  intro d hd
  obtain ⟨k, hk, rfl⟩ := List.mem_map.mp hd
  have := h.lt k hk
  simp [within]
  omega
@[simp] theorem webStrs_web (n : Int) (ss : List (Int × Int)) : webStrs (.web n ss) = some (.tup (ss.map pairD)) := rfl
@[simp] theorem webCoins_web (n : Int) (ss : List (Int × Int)) : webCoins (.web n ss) = some (.int n) := rfl
theorem tup_hd {m : Nat} {st : List Nat} (h : StOk m st) (hm : m ≤ 12) : ∀ ds, D.tup (natD st) = .tup ds → ds.all pl = true ∧ ds.length ≤ sizeLine := fun ds e => by
  injection e with e
  subst e
  exact ⟨pl_nat st, by unfold natD; rw [List.length_map]; exact small12 (Nat.le_trans h.len hm)⟩
/-! ### coins, counts -/
def ends (p : Int × Int) : List Int := [p.1, p.2].filter fun c => !decide (c = -1)
def sAt (ss : List (Int × Int)) (k : Nat) : Int × Int := ss.getD k (0, 0)
theorem atI_nat {α : Type} {xs : List α} {k : Nat} {x : α} (h : xs[k]? = some x) : L2.atI xs (k : Int) = some x := by
  obtain ⟨hk, hx⟩ := List.getElem?_eq_some_iff.mp h
  unfold L2.atI ixN
  rw [if_pos (by omega), if_pos (by omega)]
  show xs[(k : Int).toNat]? = some x
  rw [Int.toNat_natCast]
  exact h
theorem str_at {ss : List (Int × Int)} {k : Nat} (h : k < ss.length) : oIx (.tup (ss.map pairD)) (.int (k : Int)) = some (pairD (sAt ss k)) := by
  show L2.atI (ss.map pairD) (k : Int) = _
  refine atI_nat ?_
  rw [List.getElem?_map, List.getElem?_eq_getElem h]
  simp [sAt, List.getD, h]
theorem sAt_mem {ss : List (Int × Int)} {k : Nat} (h : k < ss.length) : sAt ss k ∈ ss := by
  simp [sAt, List.getD, h]
end DL

set_option Elab.async false
set_option linter.all false
set_option maxRecDepth 100000
namespace DL
open PySem PySem.Spec L2
def bump (f : List Int) (c : Int) : List Int := f.set c.toNat (f.getD c.toNat 0 + 1)
theorem bump_len (f : List Int) (c : Int) : (bump f c).length = f.length := by simp [bump]
theorem ixN_in {n : Nat} {c : Int} (h0 : 0 ≤ c) (h1 : c < n) : ixN n c = some c.toNat := by
  unfold ixN
  rw [if_pos h0, if_pos h1]
theorem atI_in {f : List Int} {c : Int} (h0 : 0 ≤ c) (h1 : c < f.length) : L2.atI (f.map D.int) c = some (.int (f.getD c.toNat 0)) := by
  unfold L2.atI
  rw [List.length_map, ixN_in h0 h1]
  show (f.map D.int)[c.toNat]? = _
  have h2 : c.toNat < f.length := by omega
  rw [List.getElem?_map, List.getElem?_eq_getElem h2]
  simp [List.getD, h2]
theorem aug_step {W S a b : SD} {f : List Int} {c : Int} {R : Option Rw} (h0 : 0 ≤ c) (h1 : c < f.length) (hb : b = .dat (.int c)) :
    sAugO 2 addI (dVar 4) (fun _ => pure (.int 1)) [W, S, .own (f.map D.int), a, b] R = .nx [W, S, .own ((bump f c).map D.int), a, b] R := by
  subst hb
  have e1 : dVar 4 [W, S, .own (f.map D.int), a, .dat (.int c)] R = .ok (.int c) R := e_var rfl
  unfold sAugO
  simp only [List.getElem?_cons_succ, List.getElem?_cons_zero]
  unfold sBind
  rw [e1]
  simp only
  have e2 : ownGet [W, S, .own (f.map D.int), a, .dat (.int c)] 2 (.int c) = some (.int (f.getD c.toNat 0)) := atI_in h0 h1
  rw [e2]
  show ownPut 2 (.int c) (.int (f.getD c.toNat 0 + 1)) [W, S, .own (f.map D.int), a, .dat (.int c)] R = _
  unfold ownPut
  simp only [List.getElem?_cons_succ, List.getElem?_cons_zero, List.length_map]
  rw [ixN_in h0 h1]
  simp only [List.set_cons_succ, List.set_cons_zero]
  rw [show (D.int (f.getD c.toNat 0 + 1)) = D.int ((fun x => x) (f.getD c.toNat 0 + 1)) from rfl, ← List.map_set]
  rfl
theorem aug_loop {W S a : SD} {n : Nat} : ∀ (cs : List Int) (f : List Int) (b : SD) (R : Option Rw), f.length = n → (∀ c ∈ cs, 0 ≤ c ∧ c < n) →
    ∃ b', sLoop (.nm 4) (sAugO 2 addI (dVar 4) (fun _ => pure (.int 1))) (cs.map D.int) [W, S, .own (f.map D.int), a, b] R = .nx [W, S, .own ((cs.foldl bump f).map D.int), a, b'] R
  | [], f, b, R, _, _ => ⟨b, rfl⟩
  | c :: cs, f, b, R, hf, h => by
    obtain ⟨h0, h1⟩ := h c List.mem_cons_self
    obtain ⟨b', ih⟩ := aug_loop (W := W) (S := S) (a := a) cs (bump f c) (.dat (.int c)) R (by rw [bump_len]; exact hf) fun x hx => h x (List.mem_cons_of_mem _ hx)
    refine ⟨b', ?_⟩
    rw [List.map_cons, sLoop]
    show (match sAugO 2 addI (dVar 4) (fun _ => pure (.int 1)) [W, S, .own (f.map D.int), a, .dat (.int c)] R with | .nx δ2 R2 => _ | .ct δ2 R2 => _ | .bk δ2 R2 => _ | .rt d R2 => _ | .ex c d R2 => _ | .stuck => _) = _
    rw [aug_step h0 (by rw [hf]; exact h1) rfl]
    exact ih
def cnts (n : Int) (ss : List (Int × Int)) (st : List Nat) : List Int := st.foldl (fun f k => (ends (sAt ss k)).foldl bump f) (List.replicate n.toNat 0)
theorem foldl_bump_len : ∀ (cs : List Int) (f : List Int), (cs.foldl bump f).length = f.length
  | [], _ => rfl
  | c :: cs, f => by rw [List.foldl_cons, foldl_bump_len cs, bump_len]
theorem ends_in {n : Int} {ss : List (Int × Int)} (g : GoodW n ss) {k : Nat} (h : k < ss.length) : ∀ c ∈ ends (sAt ss k), 0 ≤ c ∧ c < n := by
  intro c hc
  have hm := g.ok _ (sAt_mem h)
  have := g.n1
  unfold ends at hc
  simp only [List.mem_filter, List.mem_cons, List.not_mem_nil, or_false, Bool.not_eq_true', decide_eq_false_iff_not] at hc
  obtain ⟨h1 | h1, h2⟩ := hc <;> subst h1 <;> omega
theorem repl_flat (n : Nat) : (List.replicate n [D.int 0]).flatten = (List.replicate n (0 : Int)).map D.int := by
  induction n with
  | zero => rfl
  | succ n ih => rw [List.replicate_succ, List.replicate_succ, List.flatten_cons, ih, List.map_cons]; rfl
theorem bump_get {f : List Int} {c : Int} {i : Nat} (h0 : 0 ≤ c) (h1 : c < f.length) : (bump f c).getD i 0 = f.getD i 0 + if c = (i : Int) then 1 else 0 := by
  unfold bump
  by_cases e : c = (i : Int)
  · subst e
    rw [if_pos rfl]
    have hi : i < f.length := by omega
    simp [List.getD, List.getElem?_set, hi]
  · rw [if_neg e]
    simp only [List.getD, List.getElem?_set]
    rw [if_neg (by omega), Int.add_zero]
theorem foldl_bump_get : ∀ (cs : List Int) (f : List Int) (i : Nat), (∀ c ∈ cs, 0 ≤ c ∧ c < f.length) → (cs.foldl bump f).getD i 0 = f.getD i 0 + (cs.count (i : Int) : Int)
  | [], f, i, _ => by simp
  | c :: cs, f, i, h => by
    obtain ⟨h0, h1⟩ := h c List.mem_cons_self
    rw [List.foldl_cons, foldl_bump_get cs (bump f c) i (by rw [bump_len]; exact fun x hx => h x (List.mem_cons_of_mem _ hx)), bump_get h0 h1, List.count_cons]
    by_cases e : c = (i : Int)
    · subst e; simp; omega
    · simp [e]
/-- how many strings of st are at coin c -/
def deg (ss : List (Int × Int)) (st : List Nat) (c : Int) : Nat := (st.filter fun k => decide (c ∈ ends (sAt ss k))).length
theorem ends_nodup {n : Int} {ss : List (Int × Int)} (g : GoodW n ss) {k : Nat} (h : k < ss.length) : (ends (sAt ss k)).Nodup := by
  have hm := g.ok _ (sAt_mem h)
  unfold ends
  refine List.Pairwise.filter _ ?_
  simp
  omega
theorem count_nd : ∀ {l : List Int}, l.Nodup → ∀ c, l.count c = if c ∈ l then 1 else 0
  | [], _, c => by simp
  | x :: l, h, c => by
    obtain ⟨h1, h2⟩ := List.nodup_cons.mp h
    rw [List.count_cons, count_nd h2 c]
    by_cases e : x = c
    · subst e
      simp [h1]
    · have e' : ¬ c = x := fun z => e z.symm
      by_cases m : c ∈ l <;> simp [e, e', m]
theorem count_ends {n : Int} {ss : List (Int × Int)} (g : GoodW n ss) {k : Nat} (h : k < ss.length) (c : Int) : (ends (sAt ss k)).count c = if c ∈ ends (sAt ss k) then 1 else 0 := by
  have nd := ends_nodup g h
  exact count_nd nd c
theorem cnts_len {n : Int} {ss : List (Int × Int)} : ∀ (st : List Nat) (f : List Int), (st.foldl (fun f k => (ends (sAt ss k)).foldl bump f) f).length = f.length
  | [], _ => rfl
  | k :: st, f => by rw [List.foldl_cons, cnts_len (n := n) st, foldl_bump_len]
theorem cnts_get0 {n : Int} {ss : List (Int × Int)} (g : GoodW n ss) : ∀ (st : List Nat) (f : List Int) (i : Nat), f.length = n.toNat → (∀ k ∈ st, k < ss.length) → (st.foldl (fun f k => (ends (sAt ss k)).foldl bump f) f).getD i 0 = f.getD i 0 + (deg ss st (i : Int) : Int)
  | [], f, i, _, _ => by simp [deg]
  | k :: st, f, i, hf, h => by
    have hk := h k List.mem_cons_self
    rw [List.foldl_cons, cnts_get0 g st _ i (by rw [foldl_bump_len]; exact hf) (fun x hx => h x (List.mem_cons_of_mem _ hx)), foldl_bump_get _ f i (fun c hc => by
      have := ends_in g hk c hc
      have := g.n1
      omega), count_ends g hk]
    unfold deg
    by_cases e : (i : Int) ∈ ends (sAt ss k)
    · rw [if_pos e, List.filter_cons_of_pos (by simpa using e), List.length_cons]
      omega
    · rw [if_neg e, List.filter_cons_of_neg (by simpa using e)]
      omega
theorem cnts_get {n : Int} {ss : List (Int × Int)} (g : GoodW n ss) {st : List Nat} (h : ∀ k ∈ st, k < ss.length) (i : Nat) : (cnts n ss st).getD i 0 = (deg ss st (i : Int) : Int) := by
  unfold cnts
  rw [cnts_get0 g st _ i (by simp) h]
  have : (List.replicate n.toNat (0 : Int)).getD i 0 = 0 := by
    simp only [List.getD, List.getElem?_replicate]
    split <;> rfl
  rw [this, Int.zero_add]
theorem cnts_length (n : Int) (ss : List (Int × Int)) (st : List Nat) : (cnts n ss st).length = n.toNat := by
  unfold cnts
  rw [cnts_len (n := n)]
  simp
end DL

set_option Elab.async false
set_option linter.all false
set_option maxRecDepth 100000
namespace DL
open PySem PySem.Spec L2
/-! ### closing, resting -/
def closed (ss : List (Int × Int)) (st : List Nat) (k : Nat) : List Int := (ends (sAt ss k)).filter fun c => decide (deg ss st c = 1)
theorem getD_at {f : List Int} {c : Int} (h0 : 0 ≤ c) (h1 : c < f.length) : oIx (.lst (f.map D.int)) (.int c) = some (.int (f.getD c.toNat 0)) := atI_in h0 h1
def openC (n : Int) (ss : List (Int × Int)) (st : List Nat) : List Nat := (List.range n.toNat).filter fun (c : Nat) => decide (0 < deg ss st (c : Int))
theorem enum_ints (xs : List Int) : enumD (xs.map D.int) = (List.range xs.length).map fun (i : Nat) => D.tup [.int (i : Int), .int (xs.getD i 0)] := by
  unfold enumD
  apply List.ext_getElem
  · simp
  · intro i h1 h2
    have hi : i < xs.length := by simpa using h1
    simp [List.getD, hi]
def without (st : List Nat) (k : Nat) : List Nat := st.filter fun j => !decide (j = k)
theorem natD_filter (st : List Nat) (p : D → Bool) : (natD st).filter p = natD (st.filter fun k => p (.int (k : Int))) := by
  unfold natD
  rw [List.filter_map]
  rfl
theorem natD_len (st : List Nat) : (natD st).length = st.length := by simp [natD]
theorem mem_natD {st : List Nat} {d : D} (h : d ∈ natD st) : ∃ k ∈ st, d = .int (k : Int) := by
  obtain ⟨k, hk, rfl⟩ := List.mem_map.mp h
  exact ⟨k, hk, rfl⟩
end DL

set_option Elab.async false
set_option linter.all false
set_option maxRecDepth 100000
namespace DL
open PySem PySem.Spec L2
/-! ### strings of a standing -/
def inSt (st : List Nat) : D → Bool
  | .int k => st.any fun j => decide ((j : Int) = k)
  | _ => false
theorem flat_nat (st : List Nat) : (natD st).all flatD = true := by
  rw [List.all_eq_true]
  intro d hd
  obtain ⟨k, _, rfl⟩ := mem_natD hd
  rfl
theorem inF_nat (st : List Nat) (k : Int) : inF (.int k) (natD st) = inSt st (.int k) := by
  unfold inF inSt natD
  rw [List.any_map]
  congr 1
theorem oNotIn_nat (st : List Nat) (k : Int) : oNotInA (.int k) (.tup (natD st)) = some (.bl (!inSt st (.int k))) := by
  show orO oNotIn oNotInD (.int k) (.tup (natD st)) = _
  unfold orO
  have e : oNotIn (.int k) (.tup (natD st)) = some (.bl (!inSt st (.int k))) := by
    show (if (flatD (.int k) && (natD st).all flatD) = true then some (D.bl (!inF (.int k) (natD st))) else none) = _
    rw [if_pos (by rw [flat_nat]; rfl), inF_nat]
  rw [e]
theorem inSt_mem {st : List Nat} {k : Nat} (h : k ∈ st) : inSt st (.int (k : Int)) = true := by
  unfold inSt
  rw [List.any_eq_true]
  exact ⟨k, h, by simp⟩
/-! ### lists of numbers, compared -/
theorem okEqs_ints : ∀ xs : List Int, isPds (xs.map D.int) = true ∧ PyData.canLayAll0 (toPys (xs.map D.int)) = true ∧ PyData.depthAll (toPys (xs.map D.int)) = 0
  | [] => ⟨rfl, rfl, rfl⟩
  | x :: xs => by
    obtain ⟨h1, h2, h3⟩ := okEqs_ints xs
    refine ⟨?_, ?_, ?_⟩
    · show (true && isPds (xs.map D.int)) = true
      rw [h1]; rfl
    · show (true && PyData.canLayAll0 (toPys (xs.map D.int))) = true
      rw [h2]; rfl
    · show max 0 (PyData.depthAll (toPys (xs.map D.int))) = 0
      rw [h3]; rfl
theorem okEq_ints (xs : List Int) : okEq (.lst (xs.map D.int)) = true := by
  obtain ⟨h1, h2, h3⟩ := okEqs_ints xs
  unfold okEq SeqAt.shaped
  rw [show isPd (.lst (xs.map D.int)) = isPds (xs.map D.int) from rfl, h1, show toPy (.lst (xs.map D.int)) = .list (toPys (xs.map D.int)) from rfl]
  show (true && (PyData.canLayAll0 (toPys (xs.map D.int)) && decide (PyData.depthAll (toPys (xs.map D.int)) + 1 ≤ 64))) = true
  rw [h2, h3]
  rfl
theorem eqv_ints : ∀ xs ys : List Int, PyData.eqvAll (toPys (xs.map D.int)) (toPys (ys.map D.int)) = decide (xs = ys)
  | [], [] => rfl
  | [], y :: ys => rfl
  | x :: xs, [] => rfl
  | x :: xs, y :: ys => by
    show ((x == y) && PyData.eqvAll (toPys (xs.map D.int)) (toPys (ys.map D.int))) = _
    rw [eqv_ints xs ys]
    by_cases h1 : x = y <;> by_cases h2 : xs = ys <;> simp [h1, h2]
theorem oEq_ints (xs ys : List Int) : oEq (.lst (xs.map D.int)) (.lst (ys.map D.int)) = some (.bl (decide (xs = ys))) := by
  unfold oEq
  rw [okEq_ints, okEq_ints]
  show some (D.bl (PyData.eqvAll (toPys (xs.map D.int)) (toPys (ys.map D.int)))) = _
  rw [eqv_ints]
theorem isInt_all : ∀ ds : List D, ds.all isInt = true → ∃ ns, nums ds = some ns ∧ ds = ns.map D.int
  | [], _ => ⟨[], rfl, rfl⟩
  | d :: ds, h => by
    rw [List.all_cons, Bool.and_eq_true] at h
    obtain ⟨ns, e1, e2⟩ := isInt_all ds h.2
    cases d <;> simp [isInt] at h
    rename_i i
    exact ⟨i :: ns, by rw [nums, e1]; rfl, by rw [List.map_cons, ← e2]⟩
theorem natD_ints (st : List Nat) : natD st = (st.map fun (k : Nat) => (k : Int)).map D.int := by
  unfold natD
  rw [List.map_map]
  rfl
/-- an order: a tuple of numbers, the same as those of the standing -/
def isOrd (st : List Nat) : D → Bool
  | .tup ds => ds.all isInt && (match nums ds with
    | some ns => decide (srt ns = srt (st.map fun (k : Nat) => (k : Int)))
    | none => false)
  | _ => false
end DL

set_option Elab.async false
set_option linter.all false
set_option maxRecDepth 100000
namespace DL
open PySem PySem.Spec L2
/-! ### games -/
def gains (ss : List (Int × Int)) : List Nat → List Nat → List Nat
  | [], _ => []
  | k :: o, st => (closed ss st k).length :: gains ss o (without st k)
def nextW (g : Nat) (w : Int) : Int := if g = 0 then 1 - w else w
def turnsL : List Nat → Int → List Int
  | [], _ => []
  | g :: gs, w => w :: turnsL gs (nextW g w)
def addAt (f : List Int) (c v : Int) : List Int := f.set c.toNat (f.getD c.toNat 0 + v)
def scoresL : List Nat → Int → List Int → List Int
  | [], _, s => s
  | g :: gs, w, s => scoresL gs (nextW g w) (addAt s w (g : Int))
theorem s_aug {δ : SEnv} {R : Option Rw} {i : Nat} {f : List Int} {c v : Int} {fk fe : SEnv → M D} (ho : δ[i]? = some (.own (f.map D.int))) (hk : fk δ R = .ok (.int c) R) (he : fe δ R = .ok (.int v) R) (h0 : 0 ≤ c) (h1 : c < f.length) :
    sAugO i addI fk fe δ R = .nx (δ.set i (.own ((addAt f c v).map D.int))) R := by
  unfold sAugO
  rw [ho]
  simp only
  unfold sBind
  rw [hk]
  simp only
  have e2 : ownGet δ i (.int c) = some (.int (f.getD c.toNat 0)) := by
    unfold ownGet
    rw [ho]
    exact atI_in h0 h1
  rw [e2]
  simp only
  rw [he]
  show ownPut i (.int c) (.int (f.getD c.toNat 0 + v)) δ R = _
  unfold ownPut
  rw [ho]
  simp only [List.length_map]
  rw [ixN_in h0 h1]
  simp only
  unfold addAt
  rw [List.map_set]
theorem s_app {δ : SEnv} {R : Option Rw} {i : Nat} {ds : List D} {d : D} {fe : SEnv → M D} (ho : δ[i]? = some (.own ds)) (he : fe δ R = .ok d R) (hl : ds.length < sizeLine) : sApp i fe δ R = .nx (δ.set i (.own (ds ++ [d]))) R := by
  unfold sApp
  rw [ho]
  simp only
  unfold sBind
  rw [he]
  simp only
  rw [if_pos hl]
theorem s_skip {c : SEnv → M Bool} {f g : SM} {δ : SEnv} {R R1 : Option Rw} (h : c δ R = .ok false R1) : sSeq (sIf c f sNx) g δ R = g δ R1 := by
  refine s_seq ?_
  rw [s_ifF h]
  rfl
theorem loop_cons {t : Tgt} {body : SM} {d : D} {ds : List D} {δ δ1 δ2 : SEnv} {R R2 : Option Rw} (e1 : bindT t d δ = some δ1) (e2 : body δ1 R = .nx δ2 R2) : sLoop t body (d :: ds) δ R = sLoop t body ds δ2 R2 := by
  rw [sLoop, e1]
  simp only
  rw [e2]
theorem closed_len {ss : List (Int × Int)} {st : List Nat} {k : Nat} : (closed ss st k).length ≤ 2 := Nat.le_trans (List.length_filter_le _ _) (List.length_filter_le _ _)
theorem without_mem {st : List Nat} {k j : Nat} (h : j ∈ without st k) : j ∈ st := (List.mem_filter.mp h).1
theorem without_len {st : List Nat} {k : Nat} : (without st k).length ≤ st.length := List.length_filter_le _ _
theorem nextW_01 {g : Nat} {w : Int} (h : w = 0 ∨ w = 1) : nextW g w = 0 ∨ nextW g w = 1 := by unfold nextW; split <;> omega
theorem addAt_len (f : List Int) (c v : Int) : (addAt f c v).length = f.length := by simp [addAt]
def natI (st : List Nat) : List Int := st.map fun (k : Nat) => (k : Int)
/-- an order of the standing -/
structure OrdOk (o st : List Nat) : Prop where
  perm : o.Perm st
theorem isOrd_ok {o st : List Nat} (h : o.Perm st) : isOrd st (.tup (natD o)) = true := by
  have h1 : (natD o).all isInt = true := by
    rw [List.all_eq_true]
    intro d hd
    obtain ⟨k, _, rfl⟩ := mem_natD hd
    rfl
  show ((natD o).all isInt && (match nums (natD o) with | some ns => decide (srt ns = srt (st.map fun (k : Nat) => (k : Int))) | none => false)) = true
  rw [h1, natD_ints, nums_map]
  simp only [Bool.true_and, decide_eq_true_eq]
  exact srt_eq ((srt_perm _).trans (h.map _)) (srt_sorted _)
def playL (ss : List (Int × Int)) (o st : List Nat) : List Int := scoresL (gains ss o st) 0 [0, 0]
def turnL (ss : List (Int × Int)) (o st : List Nat) : List Int := turnsL (gains ss o st) 0
end DL

set_option Elab.async false
set_option linter.all false
set_option maxRecDepth 100000
namespace DL
open PySem PySem.Spec L2
theorem s_aug1 {δ : SEnv} {R : Option Rw} {i : Nat} {x y : Int} {fe : SEnv → M D} (ho : δ[i]? = some (.dat (.int x))) (he : fe δ R = .ok (.int y) R) : sAug i addI fe δ R = .nx (δ.set i (.dat (.int (x + y)))) R := by
  unfold sAug
  rw [ho]
  simp only
  unfold sBind
  rw [he]
  rfl
def cnt (p : Nat → Bool) (gs : List Nat) : Int := (gs.countP p : Nat)
theorem cnt_cons (p : Nat → Bool) (g : Nat) (gs : List Nat) : cnt p (g :: gs) = (if p g = true then 1 else 0) + cnt p gs := by
  unfold cnt
  rw [List.countP_cons]
  split <;> omega
/-! ### the law's own -/
theorem str_atL {ss : List (Int × Int)} {k : Nat} (h : k < ss.length) : oIx (.lst (ss.map pairD)) (.int (k : Int)) = some (pairD (sAt ss k)) := str_at h
def lawAt (ss : List (Int × Int)) (st : List Nat) (c : Int) : List Nat := st.filter fun k => decide ((sAt ss k).1 = c) || decide ((sAt ss k).2 = c)
theorem mem_ends {n : Int} {ss : List (Int × Int)} (g : GoodW n ss) {k : Nat} (hk : k < ss.length) {c : Int} (hc : 0 ≤ c) : (c ∈ ends (sAt ss k)) ↔ ((sAt ss k).1 = c ∨ (sAt ss k).2 = c) := by
  unfold ends
  simp only [List.mem_filter, List.mem_cons, List.not_mem_nil, or_false, Bool.not_eq_true', decide_eq_false_iff_not]
  constructor
  · rintro ⟨h | h, _⟩
    · exact .inl h.symm
    · exact .inr h.symm
  · rintro (h | h)
    · exact ⟨.inl h.symm, by omega⟩
    · exact ⟨.inr h.symm, by omega⟩
theorem lawAt_len {n : Int} {ss : List (Int × Int)} {st : List Nat} (g : GoodW n ss) (h : ∀ k ∈ st, k < ss.length) {c : Int} (hc : 0 ≤ c) : (lawAt ss st c).length = deg ss st c := by
  unfold lawAt deg
  congr 1
  apply List.filter_congr
  intro k hk
  rw [← Bool.decide_or, decide_eq_decide]
  exact (mem_ends g (h k hk) hc).symm
end DL

set_option Elab.async false
set_option linter.all false
set_option maxRecDepth 100000
namespace DL
open PySem PySem.Spec L2
/-! ### draws -/
def Gd (q : Addr) (R : Option Rw) : Prop := ∃ r, R = some r ∧ r.addr = q ∧ 0 ≤ r.idx
section
variable {Γ : Ctx} {δ : SEnv} {r : Rw}
theorem e_row {i : Nat} {fe : SEnv → M D} {d : D} {R : Option Rw} (h : fe δ R = .ok (.row r.addr) (some r)) (e : rowItem Γ r i = some d) : dRow Γ i fe δ R = .ok d (some r) := by
  unfold dRow
  rw [bind_ok h]
  unfold rowAt
  simp only
  rw [if_pos trivial, e]
theorem s_row {i j : Nat} {fe : SEnv → M D} {x : Int} {R : Option Rw} (ho : δ[i]? = some (.dat (.row r.addr))) (h : fe δ R = .ok (.int x) (some r)) (h1 : 1 ≤ j ∧ j ≤ 3) : sRowSet i j fe δ R = .nx δ (some (rowPut j x r)) := by
  unfold sRowSet sBind
  rw [h]
  simp only
  rw [ho]
  simp only
  rw [if_pos ⟨trivial, h1⟩]
end
theorem oMod_int {i j : Int} (h : 0 < j) : oMod (.int i) (.int j) = some (.int (i % j)) := by
  show (if 0 < j then some (D.int (i % j)) else none) = _
  rw [if_pos h]
theorem oDiv_int {i j : Int} (h : 0 < j) (h2 : j < 1073741824) : oDiv (.int i) (.int j) = some (.int (i / j)) := by
  show (if CDiv i j then some (D.int (i / j)) else none) = _
  rw [if_pos ⟨h, h2⟩]
theorem oTimes_int {i j : Int} (h : -(2 ^ 64) < j ∧ j < 2 ^ 64) : oTimesI (.int i) (.int j) = some (.int (i * j)) := by
  show (if CMul i j then some (D.int (i * j)) else none) = _
  rw [if_pos (.inr h)]
theorem oPow_int : oPow (.int 10) (.int 18) = some (.int (10 ^ 18)) := by
  show (if CPow 10 18 then some (D.int (10 ^ (18 : Int).toNat)) else none) = _
  rw [if_pos (by unfold CPow; decide)]
  rfl
theorem fIntA_int (i : Int) : fIntA [.int i] = some (.int i) := rfl
theorem f_taken {Γ : Ctx} {q : Addr} {m : Int} {R : Option Rw} (hm : 0 < m) (hm2 : m < 1073741824) (hR : Gd q R) : ∃ t R', F__law_taken Γ [.row q, .int m] R = .ok (.int t) R' ∧ 0 ≤ t ∧ t < m ∧ Gd q R' := by
  obtain ⟨r, rfl, rfl, hi⟩ := hR
  have st0 : startD N__law_taken [.row r.addr, .int m] = [.dat (.row r.addr), .dat (.int m), .none, .none] := rfl
  unfold F__law_taken sem__law_taken
  rw [st0]
  have v0 : ∀ (r : Rw) (a b : SD) (R : Option Rw), dVar 0 [.dat (.row r.addr), .dat (.int m), a, b] R = .ok (.row r.addr) R := fun _ _ _ _ => e_var rfl
  have v1 : ∀ (r : Rw) (a b : SD) (R : Option Rw), dVar 1 [.dat (.row r.addr), .dat (.int m), a, b] R = .ok (.int m) R := fun _ _ _ _ => e_var rfl
  have c3 : ∀ (r : Rw) (a b : SD), dRow Γ 3 (dVar 0) [.dat (.row r.addr), .dat (.int m), a, b] (some r) = .ok (.int r.carry) (some r) := fun r a b => e_row (v0 r a b _) rfl
  have c2 : ∀ (r : Rw) (a b : SD), dRow Γ 2 (dVar 0) [.dat (.row r.addr), .dat (.int m), a, b] (some r) = .ok (.int r.mix) (some r) := fun r a b => e_row (v0 r a b _) rfl
  have c1 : ∀ (r : Rw) (a b : SD), dRow Γ 1 (dVar 0) [.dat (.row r.addr), .dat (.int m), a, b] (some r) = .ok (.int r.idx) (some r) := fun r a b => e_row (v0 r a b _) rfl
  have c0 : ∀ (r : Rw) (a b : SD), dRow Γ 0 (dVar 0) [.dat (.row r.addr), .dat (.int m), a, b] (some r) = .ok (.row Γ.scr) (some r) := fun r a b => e_row (v0 r a b _) rfl
  by_cases hc : 0 < r.carry
  · have t : dB (d2 oGt (dRow Γ 3 (dVar 0)) (fun _ => pure (.int 0))) [.dat (.row r.addr), .dat (.int m), .none, .none] (some r) = .ok true (some r) := by
      have := e_dB (e_d2 (fb := fun _ => pure (.int 0)) (R2 := some r) (c3 r .none .none) rfl (oGt_int r.carry 0))
      rw [decide_eq_true hc] at this
      exact this
    have s1 := s_set (i := 2) (e_d2 (f := oMod) (e_call (f := fIntA) (e_cons (c3 r .none .none) e_nil) (fIntA_int _)) (v1 r .none .none _) (oMod_int hm))
    have s2 := s_row (δ := [.dat (.row r.addr), .dat (.int m), .dat (.int (r.carry % m)), .none]) (r := r) (i := 0) (j := 3) rfl (e_d2 (f := oDiv) (c3 r (.dat (.int (r.carry % m))) .none) (v1 r _ _ _) (oDiv_int hm hm2)) (by decide)
    refine ⟨r.carry % m, some (rowPut 3 (r.carry / m) r), ?_, Int.emod_nonneg _ (by omega), Int.emod_lt_of_pos _ hm, ⟨_, rfl, rfl, hi⟩⟩
    rw [s_seqR ((s_ifT t).trans ((s_seq s1).trans ((s_seq s2).trans (s_ret (e_var rfl)))))]
    rfl
  · have t : dB (d2 oGt (dRow Γ 3 (dVar 0)) (fun _ => pure (.int 0))) [.dat (.row r.addr), .dat (.int m), .none, .none] (some r) = .ok false (some r) := by
      have := e_dB (e_d2 (fb := fun _ => pure (.int 0)) (R2 := some r) (c3 r .none .none) rfl (oGt_int r.carry 0))
      rw [decide_eq_false hc] at this
      exact this
    rw [s_skip t]
    have s1 := s_row (δ := [.dat (.row r.addr), .dat (.int m), .none, .none]) (r := r) (i := 0) (j := 1) rfl (e_d2 (f := oPlus) (fb := fun _ => pure (.int 1)) (R2 := some r) (c1 r .none .none) rfl (oPlus_int _ _)) (by decide)
    rw [s_seq s1]
    have len : d1 (scrLen Γ) (dRow Γ 0 (dVar 0)) [.dat (.row r.addr), .dat (.int m), .none, .none] (some (rowPut 1 (r.idx + 1) r)) = .ok (.int Γ.cells.length) (some (rowPut 1 (r.idx + 1) r)) := by
      refine e_d1 (c0 (rowPut 1 (r.idx + 1) r) .none .none) ?_
      show (if Γ.scr = Γ.scr then some (D.int Γ.cells.length) else none) = _
      rw [if_pos rfl]
    have t2 : dB (d2 oGt (dRow Γ 1 (dVar 0)) (d1 (scrLen Γ) (dRow Γ 0 (dVar 0)))) [.dat (.row r.addr), .dat (.int m), .none, .none] (some (rowPut 1 (r.idx + 1) r)) = .ok (decide ((Γ.cells.length : Int) < (rowPut 1 (r.idx + 1) r).idx)) (some (rowPut 1 (r.idx + 1) r)) := e_dB (e_d2 (f := oGt) (c1 (rowPut 1 (r.idx + 1) r) .none .none) len (oGt_int _ _))
    by_cases hl : (Γ.cells.length : Int) < r.idx + 1
    · rw [decide_eq_true (show (Γ.cells.length : Int) < (rowPut 1 (r.idx + 1) r).idx from hl)] at t2
      have s2 := s_row (δ := [.dat (.row r.addr), .dat (.int m), .none, .none]) (r := rowPut 1 (r.idx + 1) r) (i := 0) (j := 2) rfl
        (e_d2 (f := oMod) (fb := fun _ => pure (.int 2147483647)) (R2 := some (rowPut 1 (r.idx + 1) r)) (e_call (f := fIntA) (e_cons (e_d2 (f := oPlus) (fb := fun _ => pure (.int 11)) (R2 := some (rowPut 1 (r.idx + 1) r)) (e_d2 (f := oTimesI) (fb := fun _ => pure (.int 48271)) (R2 := some (rowPut 1 (r.idx + 1) r)) (c2 (rowPut 1 (r.idx + 1) r) .none .none) rfl (oTimes_int (by decide))) rfl (oPlus_int _ _)) e_nil) (fIntA_int _)) rfl (oMod_int (by decide))) (by decide)
      have r3 := s_ret (e_d2 (f := oMod) (e_call (f := fIntA) (e_cons (e_d2 (f := oDiv) (fb := fun _ => pure (.int 7)) (R2 := some (rowPut 2 (((rowPut 1 (r.idx + 1) r).mix * 48271 + 11) % 2147483647) (rowPut 1 (r.idx + 1) r))) (c2 (rowPut 2 (((rowPut 1 (r.idx + 1) r).mix * 48271 + 11) % 2147483647) (rowPut 1 (r.idx + 1) r)) .none .none) rfl (oDiv_int (by decide) (by decide))) e_nil) (fIntA_int _)) (v1 r .none .none _) (oMod_int hm))
      have h3 := s_seqR (g := sSeq (sSet 3 (d2 (scrAt Γ) (dRow Γ 0 (dVar 0)) (d2 oSub (dRow Γ 1 (dVar 0)) fun _ => pure (D.int 1))))
        (sSeq (sRowSet 0 2 (d2 oMod (dCall fIntA (lCons (d2 oPlus (d2 oPlus (d2 oTimesI (dRow Γ 2 (dVar 0)) fun _ => pure (D.int 48271)) (dVar 3)) fun _ => pure (D.int 11)) lNil)) fun _ => pure (D.int 2147483647)))
        (sSeq (sIf (dB (d2 oGe (dVar 3) (d2 oPow (fun _ => pure (D.int 10)) (fun _ => pure (D.int 18))))) (sRowSet 0 3 (d2 oDiv (dVar 3) (dVar 1))) sNx)
        (sRet (d2 oMod (dCall fIntA (lCons (dVar 3) lNil)) (dVar 1)))))) ((s_ifT (g := sNx) t2).trans ((s_seq s2).trans r3))
      exact ⟨((((r.mix * 48271 + 11) % 2147483647) / 7) % m), some (rowPut 2 (((rowPut 1 (r.idx + 1) r).mix * 48271 + 11) % 2147483647) (rowPut 1 (r.idx + 1) r)), by rw [h3]; rfl, Int.emod_nonneg _ (by omega), Int.emod_lt_of_pos _ hm, ⟨_, rfl, rfl, by show 0 ≤ r.idx + 1; omega⟩⟩
    · rw [decide_eq_false (show ¬ (Γ.cells.length : Int) < (rowPut 1 (r.idx + 1) r).idx from hl)] at t2
      rw [s_skip t2]
      have hcl : r.idx.toNat < Γ.cells.length := by omega
      have at_ : scrAt Γ (.row Γ.scr) (.int ((rowPut 1 (r.idx + 1) r).idx - 1)) = some (.int (Γ.cells[r.idx.toNat])) := by
        show (if Γ.scr = Γ.scr then (atI Γ.cells _).map D.int else none) = _
        rw [if_pos rfl]
        have e : (rowPut 1 (r.idx + 1) r).idx - 1 = ((r.idx.toNat : Nat) : Int) := by
          show r.idx + 1 - 1 = _
          omega
        rw [e, atI_nat (List.getElem?_eq_getElem hcl)]
        rfl
      generalize hcell : Γ.cells[r.idx.toNat] = cell at at_
      have s3 : sSet 3 (d2 (scrAt Γ) (dRow Γ 0 (dVar 0)) (d2 oSub (dRow Γ 1 (dVar 0)) fun _ => pure (D.int 1))) [.dat (.row r.addr), .dat (.int m), .none, .none] (some (rowPut 1 (r.idx + 1) r)) = .nx [.dat (.row r.addr), .dat (.int m), .none, .dat (.int cell)] (some (rowPut 1 (r.idx + 1) r)) := s_set (i := 3) (e_d2 (f := scrAt Γ) (c0 (rowPut 1 (r.idx + 1) r) .none .none) (e_d2 (f := oSub) (fb := fun _ => pure (.int 1)) (R2 := some (rowPut 1 (r.idx + 1) r)) (c1 (rowPut 1 (r.idx + 1) r) .none .none) rfl (oSub_int _ _)) at_)
      rw [s_seq s3]
      show ∃ t R', fin (sSeq _ _ [.dat (.row r.addr), .dat (.int m), .none, .dat (.int cell)] (some (rowPut 1 (r.idx + 1) r))) = .ok (.int t) R' ∧ _
      have s4 := s_row (δ := [.dat (.row r.addr), .dat (.int m), .none, .dat (.int cell)]) (r := rowPut 1 (r.idx + 1) r) (i := 0) (j := 2) rfl
        (e_d2 (f := oMod) (fb := fun _ => pure (.int 2147483647)) (R2 := some (rowPut 1 (r.idx + 1) r)) (e_call (f := fIntA) (e_cons (e_d2 (f := oPlus) (fb := fun _ => pure (.int 11)) (R2 := some (rowPut 1 (r.idx + 1) r)) (e_d2 (f := oPlus) (fb := dVar 3) (e_d2 (f := oTimesI) (fb := fun _ => pure (.int 48271)) (R2 := some (rowPut 1 (r.idx + 1) r)) (c2 (rowPut 1 (r.idx + 1) r) .none (.dat (.int cell))) rfl (oTimes_int (by decide))) (e_var rfl) (oPlus_int _ _)) rfl (oPlus_int _ _)) e_nil) (fIntA_int _)) rfl (oMod_int (by decide))) (by decide)
      rw [s_seq s4]
      generalize hr2 : rowPut 2 (((rowPut 1 (r.idx + 1) r).mix * 48271 + cell + 11) % 2147483647) (rowPut 1 (r.idx + 1) r) = r2
      have a2 : r2.addr = r.addr := by rw [← hr2]; rfl
      have i2 : 0 ≤ r2.idx := by rw [← hr2]; show 0 ≤ r.idx + 1; omega
      have ret : ∀ R, fin (sRet (d2 oMod (dCall fIntA (lCons (dVar 3) lNil)) (dVar 1)) [.dat (.row r.addr), .dat (.int m), .none, .dat (.int cell)] R) = .ok (.int (cell % m)) R := fun R => by
        rw [s_ret (e_d2 (f := oMod) (e_call (f := fIntA) (e_cons (e_var rfl) e_nil) (fIntA_int cell)) (e_var (i := 1) rfl) (oMod_int hm))]
        rfl
      have t5 : dB (d2 oGe (dVar 3) (d2 oPow (fun _ => pure (.int 10)) (fun _ => pure (.int 18)))) [.dat (.row r.addr), .dat (.int m), .none, .dat (.int cell)] (some r2) = .ok (decide ((10 ^ 18 : Int) ≤ cell)) (some r2) :=
        e_dB (e_d2 (e_var rfl) (e_d2 (R1 := some r2) (R2 := some r2) rfl rfl oPow_int) (oGe_int _ _))
      by_cases hbig : (10 ^ 18 : Int) ≤ cell
      · rw [decide_eq_true hbig] at t5
        have s5 := s_row (δ := [.dat (.row r2.addr), .dat (.int m), .none, .dat (.int cell)]) (r := r2) (i := 0) (j := 3) rfl (e_d2 (f := oDiv) (fa := dVar 3) (fb := dVar 1) (R1 := some r2) (e_var rfl) (e_var rfl) (oDiv_int hm hm2)) (by decide)
        rw [a2] at s5
        refine ⟨cell % m, some (rowPut 3 (cell / m) r2), ?_, Int.emod_nonneg _ (by omega), Int.emod_lt_of_pos _ hm, ⟨_, rfl, a2, i2⟩⟩
        rw [s_seq ((s_ifT t5).trans s5)]
        exact ret _
      · rw [decide_eq_false hbig] at t5
        refine ⟨cell % m, some r2, ?_, Int.emod_nonneg _ (by omega), Int.emod_lt_of_pos _ hm, ⟨_, rfl, a2, i2⟩⟩
        rw [s_skip t5]
        exact ret _
end DL

set_option Elab.async false
set_option linter.all false
set_option maxRecDepth 100000
namespace DL
open PySem PySem.Spec L2
/-! ### what the draws make -/
theorem Gd.some {q : Addr} {R : Option Rw} (h : Gd q R) : ∃ r, R = some r ∧ r.addr = q ∧ 0 ≤ r.idx := h
theorem atI_some {ds : List D} {t : Int} (h0 : 0 ≤ t) (h1 : t < ds.length) : ∃ d ∈ ds, L2.atI ds t = some d := by
  have hk : t.toNat < ds.length := by omega
  refine ⟨ds[t.toNat], List.getElem_mem hk, ?_⟩
  have := atI_nat (List.getElem?_eq_getElem hk)
  rw [show ((t.toNat : Nat) : Int) = t by omega] at this
  exact this
theorem f_law_pick {Γ : Ctx} {q : Addr} {ds : List D} {R : Option Rw} (h0 : ds ≠ []) (hl : ds.length < 1073741824) (hR : Gd q R) : ∃ d R', F__law_pick Γ [.row q, .lst ds] R = .ok d R' ∧ d ∈ ds ∧ Gd q R' := by
  have hp : 0 < ds.length := by cases ds with | nil => exact absurd rfl h0 | cons => exact Nat.succ_pos _
  obtain ⟨t, R', e, t0, t1, g⟩ := f_taken (Γ := Γ) (m := (ds.length : Int)) (by omega) (by omega) hR
  obtain ⟨d, hd, ha⟩ := atI_some t0 t1
  refine ⟨d, R', ?_, hd, g⟩
  unfold F__law_pick sem__law_pick
  rw [s_ret (δ := startD N__law_pick [.row q, .lst ds]) (e_d2 (f := oIx) (e_var (i := 1) rfl) ((e_fn (n := 2) (e_cons (e_var (i := 0) rfl) (e_cons (e_call (f := fLen) (e_cons (e_var (i := 1) rfl) e_nil) rfl) e_nil)) rfl).trans e) ha)]
  rfl
inductive F2 {α β : Type} (P : α → β → Prop) : List α → List β → Prop
  | nil : F2 P [] []
  | cons {a : α} {b : β} {as : List α} {bs : List β} : P a b → F2 P as bs → F2 P (a :: as) (b :: bs)
theorem comp_draw {t : Tgt} {ft : SEnv → M Bool} {fe : SEnv → M D} {δ : SEnv} {I : Option Rw → Prop} {P : D → D → Prop} : ∀ {ds : List D} {R : Option Rw}, I R → (∀ d ∈ ds, ∀ R, I R → ∃ δ1, bindT t d δ = some δ1 ∧ ∃ k R1, ft δ1 R = .ok k R1 ∧ I R1 ∧ (k = true → ∃ e R2, fe δ1 R1 = .ok e R2 ∧ I R2 ∧ P d e)) →
    ∃ sel es R', compL t ft fe δ ds R = .ok es R' ∧ I R' ∧ List.Sublist sel ds ∧ F2 P sel es
  | [], R, hR, _ => ⟨[], [], R, rfl, hR, .slnil, .nil⟩
  | d :: ds, R, hR, h => by
    obtain ⟨δ1, e1, k, R1, e2, hR1, h3⟩ := h d List.mem_cons_self R hR
    unfold compL
    rw [e1]
    simp only
    rw [e2]
    cases k with
    | false =>
      obtain ⟨sel, es, R', e, hR', s, f⟩ := comp_draw (t := t) (ft := ft) (fe := fe) (δ := δ) (I := I) (P := P) (ds := ds) hR1 fun x hx => h x (List.mem_cons_of_mem _ hx)
      exact ⟨sel, es, R', e, hR', .cons _ s, f⟩
    | true =>
      obtain ⟨y, R2, e3, hR2, p⟩ := h3 rfl
      obtain ⟨sel, es, R', e, hR', s, f⟩ := comp_draw (t := t) (ft := ft) (fe := fe) (δ := δ) (I := I) (P := P) (ds := ds) hR2 fun x hx => h x (List.mem_cons_of_mem _ hx)
      refine ⟨d :: sel, y :: es, R', ?_, hR', .cons₂ _ s, .cons p f⟩
      simp only
      rw [e3]
      simp only
      rw [e]
theorem e_compS {δ : SEnv} {R R1 R2 : Option Rw} {vs : List Nat} {t : Tgt} {fi : SEnv → M (List D)} {ft : SEnv → M Bool} {fe : SEnv → M D} {ds es : List D} (h : fi δ R = .ok ds R1) (hl : ds.length ≤ sizeLine) (hc : compL t ft fe (blkD δ vs) ds R1 = .ok es R2) : dComp vs t fi ft fe δ R = .ok (.lst es) R2 := by
  unfold dComp
  rw [bind_ok h]
  unfold lenOk
  rw [if_pos hl]
  simp only [M.lift_some, M.pure_bind]
  rw [bind_ok hc]
  rfl
theorem f2_len {α β : Type} {P : α → β → Prop} : ∀ {as : List α} {bs : List β}, F2 P as bs → as.length = bs.length
  | _, _, .nil => rfl
  | _, _, .cons _ h => by rw [List.length_cons, List.length_cons, f2_len h]
theorem f2_eq {α : Type} : ∀ {as bs : List α}, F2 (fun a b => b = a) as bs → bs = as
  | _, _, .nil => rfl
  | _, _, .cons h h2 => by rw [h, f2_eq h2]
theorem f2_right {α β : Type} {P : α → β → Prop} {Q : β → Prop} (hPQ : ∀ a b, P a b → Q b) : ∀ {as : List α} {bs : List β}, F2 P as bs → ∀ b ∈ bs, Q b
  | _, _, .nil => fun b hb => nomatch hb
  | _, _, .cons h h2 => fun b hb => by
    cases hb with
    | head => exact hPQ _ _ h
    | tail _ hb => exact f2_right hPQ h2 b hb
theorem rangeD_nat (k : Nat) : rangeD 0 k = natD (List.range k) := by
  unfold rangeD natD
  congr 1
  funext i
  rw [Int.zero_add]
def okStr (n : Int) (p : Int × Int) : Prop := 0 ≤ p.1 ∧ p.1 ≤ n - 1 ∧ ((p.1 + 1 ≤ p.2 ∧ p.2 ≤ n - 1) ∨ p.2 = -1)
theorem rng1_nat {m : Nat} (h : m ≤ 1000) : rng1 [.int (m : Int)] = some (rangeD 0 m) := by
  unfold rng1
  simp only
  rw [if_pos ⟨by omega, by omega⟩, Int.toNat_natCast]
theorem sub_natD : ∀ {sel : List D} {st : List Nat}, List.Sublist sel (natD st) → ∃ st', sel = natD st' ∧ List.Sublist st' st
  | sel, st, h => by
    obtain ⟨st', h1, h2⟩ := List.sublist_map_iff.mp h
    exact ⟨st', h2, h1⟩
end DL

set_option Elab.async false
set_option linter.all false
set_option maxRecDepth 100000
namespace DL
open PySem PySem.Spec L2
/-! ### an order is drawn -/
theorem cutTo (ds : List D) (t : Nat) (h : t ≤ ds.length) : cutD ds none (some (t : Int)) = ds.take t := by
  unfold cutD
  rw [HT.sIx_none, HT.sIx_nat, List.drop_zero, Nat.min_eq_left h, Nat.sub_zero]
theorem cutFrom (ds : List D) (t : Nat) : cutD ds (some (t : Int)) none = ds.drop t := by
  unfold cutD
  rw [HT.sIx_none, HT.sIx_nat]
  by_cases h : t ≤ ds.length
  · rw [Nat.min_eq_left h, List.take_of_length_le (by rw [List.length_drop]; omega)]
  · rw [Nat.min_eq_right (by omega), Nat.sub_self, List.take_zero, List.drop_of_length_le (by omega)]
theorem oPlus_lst {as bs : List D} (h : as.length + bs.length ≤ sizeLine) : oPlus (.lst as) (.lst bs) = some (.lst (as ++ bs)) := by
  show (if _ then _ else _) = _
  rw [if_pos h]
abbrev shufBody (Γ : Ctx) : SM := (sSeq (sSet 5 (dFn 2 (F__law_taken Γ) (lCons (dVar 0) (lCons (dCall fLen (lCons (dVar 2) lNil)) lNil))))
  (sSeq (sApp 3 (d2 oIx (dVar 2) (dVar 5)))
  (sSet 2 (d2 oPlus (dCut (dVar 2) pNone (pSome (dVar 5))) (dCut (dVar 2) (pSome (d2 oPlus (dVar 5) (fun _ => pure (.int 1)))) pNone)))))
theorem shuf_loop {Γ : Ctx} {q : Addr} {S : SD} : ∀ (ks l f : List D) (a b : SD) (R : Option Rw), ks.length = l.length → f.length + l.length ≤ 1000 → Gd q R →
    ∃ f' l' a' b' R', sLoop (.nm 4) (shufBody Γ) ks [.dat (.row q), S, .dat (.lst l), .own f, a, b] R = .nx [.dat (.row q), S, l', .own f', a', b'] R' ∧ f'.Perm (f ++ l) ∧ Gd q R'
  | [], [], f, a, b, R, _, _, g => ⟨f, _, a, b, R, rfl, by rw [List.append_nil], g⟩
  | [], _ :: _, f, a, b, R, h, _, _ => by simp at h
  | k :: ks, l, f, a, b, R, h, hl, g => by
    rw [List.length_cons] at h
    obtain ⟨t, R1, e1, t0, t1, g1⟩ := f_taken (Γ := Γ) (m := (l.length : Int)) (by omega) (by omega) g
    obtain ⟨j, rfl⟩ := Int.eq_ofNat_of_zero_le t0
    have hj : j < l.length := by omega
    have hat : oIx (.lst l) (.int (j : Int)) = some l[j] := atI_nat (List.getElem?_eq_getElem hj)
    have sz : (1000 : Nat) < sizeLine := by decide
    have lt : (l.take j).length = j := by rw [List.length_take]; omega
    have ld : (l.drop (j + 1)).length = l.length - (j + 1) := List.length_drop
    have e : shufBody Γ [.dat (.row q), S, .dat (.lst l), .own f, .dat k, b] R = .nx [.dat (.row q), S, .dat (.lst (l.take j ++ l.drop (j + 1))), .own (f ++ [l[j]]), .dat k, .dat (.int (j : Int))] R1 := by
      refine (s_seq (s_set (Eq.trans (e_fn (e_cons (e_var rfl) (e_cons (e_call (e_cons (e_var rfl) e_nil) rfl) e_nil)) rfl) e1))).trans ?_
      refine (s_seq (s_app (ds := f) rfl (e_d2 (e_var rfl) (e_var rfl) hat) (by omega))).trans ?_
      refine (s_set (e_d2 (e_cut (e_var rfl) e_none (e_some (e_var rfl)) rfl) (e_cut (e_var rfl) (e_some (e_d2 (e_var rfl) rfl (oPlus_int _ _))) e_none rfl) (d := .lst (l.take j ++ l.drop (j + 1))) ?_)).trans rfl
      · rw [cutTo l j (by omega), show (j : Int) + 1 = ((j + 1 : Nat) : Int) by omega, cutFrom, oPlus_lst (by omega)]
    obtain ⟨f', l', a', b', R', lp, pm, g'⟩ := shuf_loop (Γ := Γ) (S := S) ks (l.take j ++ l.drop (j + 1)) (f ++ [l[j]]) (.dat k) (.dat (.int (j : Int))) R1 (by rw [List.length_append]; omega) (by simp only [List.length_append, List.length_singleton]; omega) g1
    refine ⟨f', l', a', b', R', (loop_cons (δ1 := [.dat (.row q), S, .dat (.lst l), .own f, .dat k, b]) rfl e).trans lp, pm.trans ?_, g'⟩
    rw [List.append_assoc]
    refine List.Perm.append_left f ?_
    have e3 : l = l.take j ++ l[j] :: l.drop (j + 1) := by
      rw [List.getElem_cons_drop, List.take_append_drop]
    refine List.Perm.trans ?_ (List.Perm.of_eq e3.symm)
    rw [List.singleton_append]
    exact List.perm_middle.symm
def unN : D → Nat
  | .int i => i.toNat
  | _ => 0
theorem un_natD (st : List Nat) : (natD st).map unN = st := by
  unfold natD
  rw [List.map_map]
  conv => rhs; rw [← List.map_id st]
  apply List.map_congr_left
  intro k _
  show (k : Int).toNat = k
  omega
theorem perm_natD {f : List D} {st : List Nat} (h : f.Perm (natD st)) : ∃ o : List Nat, f = natD o ∧ o.Perm st := by
  refine ⟨f.map unN, ?_, ?_⟩
  · unfold natD
    rw [List.map_map]
    conv => lhs; rw [← List.map_id f]
    apply List.map_congr_left
    intro d hd
    obtain ⟨k, _, rfl⟩ := mem_natD (h.mem_iff.mp hd)
    show D.int (k : Int) = D.int (((k : Int).toNat : Nat) : Int)
    rw [Int.toNat_natCast]
  · have := h.map unN
    rw [un_natD] at this
    exact this
end DL

set_option Elab.async false
set_option linter.all false
set_option maxRecDepth 100000
namespace DL
open PySem PySem.Spec L2
/-! ### the law's own game -/
theorem oPlus_tup {as bs : List D} (h : as.length + bs.length ≤ sizeLine) : oPlus (.tup as) (.tup bs) = some (.tup (as ++ bs)) := by
  show (if _ then _ else _) = _
  rw [if_pos h]
theorem s_put {δ : SEnv} {R : Option Rw} {i : Nat} {f : List Int} {c v : Int} {fk fe : SEnv → M D} (ho : δ[i]? = some (.own (f.map D.int))) (hk : fk δ R = .ok (.int c) R) (he : fe δ R = .ok (.int v) R) (h0 : 0 ≤ c) (h1 : c < f.length) :
    sPut i fk fe δ R = .nx (δ.set i (.own ((f.set c.toNat v).map D.int))) R := by
  unfold sPut
  rw [ho]
  simp only
  unfold sBind
  rw [he]
  simp only
  rw [hk]
  simp only
  unfold ownPut
  rw [ho]
  simp only [List.length_map]
  rw [ixN_in h0 h1]
  simp only
  rw [List.map_set]
theorem e_ixOwn {δ : SEnv} {R : Option Rw} {i : Nat} {f : List Int} {c : Int} {fk : SEnv → M D} (ho : δ[i]? = some (.own (f.map D.int))) (hk : fk δ R = .ok (.int c) R) (h0 : 0 ≤ c) (h1 : c < f.length) : dIxOwn i fk δ R = .ok (.int (f.getD c.toNat 0)) R := by
  unfold dIxOwn
  rw [ho]
  simp only
  rw [bind_ok hk]
  have := getD_at h0 h1
  rw [this]
  rfl
theorem m_dat {δ : SEnv} {R R1 R2 : Option Rw} {f : SEnv → M D} {g : SEnv → M (List SD)} {d : D} {r : List SD} (h : f δ R = .ok d R1) (h2 : g δ R1 = .ok r R2) : mDat f g δ R = .ok (.dat d :: r) R2 := by
  unfold mDat
  rw [bind_ok h, bind_ok h2]
  rfl
theorem s_parM2 {δ : SEnv} {R : Option Rw} {i j : Nat} {fa fb : SEnv → M D} {x y : D} (ha : fa δ R = .ok x R) (hb : fb δ R = .ok y R) : sParM [i, j] (mDat fa (mDat fb mNil)) δ R = .nx ((δ.set i (.dat x)).set j (.dat y)) R := by
  unfold sParM sBind
  have e : mDat fa (mDat fb mNil) δ R = .ok [.dat x, .dat y] R := m_dat ha (m_dat hb rfl)
  rw [e]
  rfl
def one01 (p : Nat → Bool) (g : Nat) : Int := if p g = true then 1 else 0
theorem eq01 {δ : SEnv} {R : Option Rw} {i : Nat} {g : Nat} {j : Nat} (h : δ[i]? = some (.dat (.int (g : Int)))) : dIf (dB (d2 oEq (dVar i) (fun _ => pure (.int (j : Int))))) (fun _ => pure (.int 1)) (fun _ => pure (.int 0)) δ R = .ok (.int (one01 (fun x => decide (x = j)) g)) R := by
  have t := e_dB (e_d2 (f := oEq) (fb := fun _ => pure (.int (j : Int))) (R2 := R) (e_var (R := R) h) rfl (oEq_int _ _))
  unfold one01
  by_cases e : g = j
  · rw [decide_eq_true (by omega)] at t
    rw [e_ifT t, if_pos (by simp [e])]
    rfl
  · rw [decide_eq_false (by omega)] at t
    rw [e_ifF t, if_neg (by simp [e])]
    rfl
end DL

set_option Elab.async false
set_option linter.all false
set_option maxRecDepth 100000
namespace DL
open PySem PySem.Spec L2
/-! ### what a game counts -/
theorem perm_without {st : List Nat} {k : Nat} (hn : st.Nodup) (hk : k ∈ st) : st.Perm (k :: without st k) := by
  have h := List.perm_cons_erase hk
  rw [hn.erase_eq_filter] at h
  have e : st.filter (fun x => x != k) = without st k := by
    unfold without
    apply List.filter_congr
    intro x _
    by_cases z : x = k <;> simp [z]
  rw [e] at h
  exact h
theorem deg_perm {ss : List (Int × Int)} {a b : List Nat} (h : a.Perm b) (c : Int) : deg ss a c = deg ss b c := (h.filter _).length_eq
theorem deg_split {ss : List (Int × Int)} {st : List Nat} {k : Nat} (hn : st.Nodup) (hk : k ∈ st) (c : Int) : deg ss st c = (if c ∈ ends (sAt ss k) then 1 else 0) + deg ss (without st k) c := by
  rw [deg_perm (perm_without hn hk) c]
  unfold deg
  rw [List.filter_cons]
  by_cases z : c ∈ ends (sAt ss k)
  · rw [if_pos (by simp [z]), if_pos z, List.length_cons, Nat.add_comm]
  · rw [if_neg (by simp [z]), if_neg z, Nat.zero_add]
theorem countP_add {α : Type} {p q r : α → Bool} : ∀ {l : List α}, (∀ x ∈ l, (if p x = true then 1 else 0) = (if q x = true then 1 else 0) + (if r x = true then 1 else 0 : Nat)) → l.countP p = l.countP q + l.countP r
  | [], _ => rfl
  | x :: l, h => by
    have e := h x List.mem_cons_self
    have ih := countP_add (p := p) (q := q) (r := r) (l := l) fun y hy => h y (List.mem_cons_of_mem _ hy)
    rw [List.countP_cons, List.countP_cons, List.countP_cons, ih, e]
    omega
theorem range_one {n : Nat} {c : Int} (h0 : 0 ≤ c) (h1 : c < n) : (List.range n).countP (fun (i : Nat) => decide ((i : Int) = c)) = 1 := by
  have e : (fun (i : Nat) => decide ((i : Int) = c)) = (fun i => i == c.toNat) := by
    funext i
    by_cases z : i = c.toNat
    · subst z; simp; omega
    · have : ¬ (i : Int) = c := by omega
      simp [this, z]
  rw [e]
  show (List.range n).count c.toNat = 1
  rw [List.nodup_range.count, if_pos (List.mem_range.mpr (by omega))]
theorem range_mem {n : Nat} : ∀ {l : List Int}, l.Nodup → (∀ c ∈ l, 0 ≤ c ∧ c < n) → (List.range n).countP (fun (i : Nat) => decide ((i : Int) ∈ l)) = l.length
  | [], _, _ => by
    exact List.countP_eq_zero.mpr fun a _ => by simp
  | c :: l, h, hb => by
    obtain ⟨h1, h2⟩ := List.nodup_cons.mp h
    have ih := range_mem h2 fun x hx => hb x (List.mem_cons_of_mem _ hx)
    obtain ⟨b0, b1⟩ := hb c List.mem_cons_self
    rw [countP_add (q := fun (i : Nat) => decide ((i : Int) = c)) (r := fun (i : Nat) => decide ((i : Int) ∈ l)), ih, range_one b0 b1, List.length_cons, Nat.add_comm]
    intro x _
    by_cases z : (x : Int) = c
    · subst z
      simp [h1]
    · simp [z]
theorem open_len {n : Int} {ss : List (Int × Int)} {st : List Nat} : (openC n ss st).length = (List.range n.toNat).countP fun (c : Nat) => decide (0 < deg ss st (c : Int)) := by
  unfold openC
  rw [List.countP_eq_length_filter]
theorem open_step {n : Int} {ss : List (Int × Int)} {st : List Nat} {k : Nat} (g : GoodW n ss) (hn : st.Nodup) (hk : k ∈ st) (hl : k < ss.length) : (openC n ss st).length = (closed ss st k).length + (openC n ss (without st k)).length := by
  have hc : (List.range n.toNat).countP (fun (c : Nat) => decide ((c : Int) ∈ closed ss st k)) = (closed ss st k).length := by
    refine range_mem ((ends_nodup g hl).sublist List.filter_sublist) fun c hc => ?_
    have := ends_in g hl c (List.mem_filter.mp hc).1
    omega
  rw [open_len, open_len, ← hc]
  refine countP_add fun c _ => ?_
  have d := deg_split (ss := ss) hn hk (c : Int)
  have m : ((c : Int) ∈ closed ss st k) ↔ ((c : Int) ∈ ends (sAt ss k) ∧ deg ss st (c : Int) = 1) := by
    unfold closed
    rw [List.mem_filter, decide_eq_true_eq]
  by_cases z : (c : Int) ∈ ends (sAt ss k)
  · rw [if_pos z] at d
    by_cases y : deg ss (without st k) (c : Int) = 0
    · have x : deg ss st (c : Int) = 1 := by omega
      have w : (c : Int) ∈ closed ss st k := m.mpr ⟨z, x⟩
      simp [w, x, y]
    · have x : ¬ deg ss st (c : Int) = 1 := by omega
      have w : ¬ (c : Int) ∈ closed ss st k := fun q => x (m.mp q).2
      rw [if_pos (by simp; omega), if_neg (by simp [w]), if_pos (by simp; omega)]
  · rw [if_neg z, Nat.zero_add] at d
    have w : ¬ (c : Int) ∈ closed ss st k := fun q => z (m.mp q).1
    simp [w, d]
theorem gains_sum {n : Int} {ss : List (Int × Int)} (g : GoodW n ss) : ∀ (o st : List Nat), o.Perm st → st.Nodup → (∀ k ∈ st, k < ss.length) → (gains ss o st).sum = (openC n ss st).length
  | [], st, p, _, _ => by
    have e : st = [] := List.Perm.nil_eq p ▸ rfl
    subst e
    rw [open_len]
    exact (List.countP_eq_zero.mpr fun a _ => by simp [deg]).symm
  | k :: o, st, p, hn, hl => by
    have hk : k ∈ st := p.mem_iff.mp List.mem_cons_self
    have p2 : o.Perm (without st k) := (p.trans (perm_without hn hk)).cons_inv
    rw [gains, List.sum_cons, gains_sum g o (without st k) p2 (hn.sublist List.filter_sublist) fun j hj => hl j (without_mem hj), open_step g hn hk (hl k hk)]
theorem gains_len (ss : List (Int × Int)) : ∀ (o st : List Nat), (gains ss o st).length = o.length
  | [], _ => rfl
  | k :: o, st => by rw [gains, List.length_cons, List.length_cons, gains_len ss o]
theorem gains_le (ss : List (Int × Int)) : ∀ (o st : List Nat), ∀ x ∈ gains ss o st, x ≤ 2
  | [], _, x, h => nomatch h
  | k :: o, st, x, h => by
    cases h with
    | head => exact closed_len
    | tail _ h => exact gains_le ss o _ x h
theorem cnt_id : ∀ (gs : List Nat), (∀ x ∈ gs, x ≤ 2) → cnt (fun x => decide (x = 0)) gs = (gs.length : Int) - (gs.sum : Nat) + cnt (fun x => decide (x = 2)) gs
  | [], _ => rfl
  | x :: gs, h => by
    have ih := cnt_id gs fun y hy => h y (List.mem_cons_of_mem _ hy)
    have h2 := h x List.mem_cons_self
    rw [cnt_cons, cnt_cons, List.length_cons, List.sum_cons, ih]
    have : x = 0 ∨ x = 1 ∨ x = 2 := by omega
    rcases this with rfl | rfl | rfl <;> simp <;> omega
theorem add_sum {f : List Int} {w v : Int} (hl : f.length = 2) (hw : w = 0 ∨ w = 1) : (addAt f w v).sum = f.sum + v := by
  match f, hl with
  | [a, b], _ =>
    rcases hw with rfl | rfl <;> simp [addAt] <;> omega
theorem scores_sum : ∀ (gs : List Nat) (w : Int) (f : List Int), f.length = 2 → (w = 0 ∨ w = 1) → (scoresL gs w f).sum = f.sum + (gs.sum : Nat)
  | [], w, f, _, _ => by simp [scoresL]
  | x :: gs, w, f, hl, hw => by
    rw [scoresL, scores_sum gs (nextW x w) (addAt f w x) (by rw [addAt_len]; exact hl) (nextW_01 hw), add_sum hl hw, List.sum_cons]
    omega
theorem play_sum {n : Int} {ss : List (Int × Int)} {o st : List Nat} (g : GoodW n ss) (h : StOk ss.length st) (p : o.Perm st) : fSum [.tup ((playL ss o st).map D.int)] = some (.int ((openC n ss st).length : Int)) := by
  show (nums _).map _ = _
  rw [nums_map]
  show some (D.int (playL ss o st).sum) = _
  unfold playL
  rw [scores_sum _ 0 [0, 0] rfl (.inl rfl), gains_sum g o st p h.nodup h.lt]
  simp
theorem none_id {n : Int} {ss : List (Int × Int)} {o st : List Nat} (g : GoodW n ss) (h : StOk ss.length st) (p : o.Perm st) : cnt (fun x => decide (x = 0)) (gains ss o st) = (st.length : Int) - ((openC n ss st).length : Int) + cnt (fun x => decide (x = 2)) (gains ss o st) := by
  rw [cnt_id _ (gains_le ss o st), gains_len, gains_sum g o st p h.nodup h.lt, p.length_eq]
end DL

set_option Elab.async false
set_option linter.all false
set_option maxRecDepth 100000
namespace DL
open PySem PySem.Spec L2
/-! ### what can be shown -/
theorem ok_app {a b : Str} (h : PyData.strOk a = true) (h2 : PyData.strOk b = true) : PyData.strOk (a ++ b) = true := by
  unfold PyData.strOk at *
  rw [show (a ++ b).cps = a.cps ++ b.cps from rfl, Array.all_append, h, h2]
  rfl
theorem ok_string (x : String) : PyData.strOk (Str.ofString x) = true := by
  rw [Str.ofString_eq_toList]
  unfold PyData.strOk
  rw [List.all_toArray, List.all_map, List.all_eq_true]
  intro c _
  show decide (c.toNat < 0x110000) = true
  rw [decide_eq_true_eq]
  have := c.valid
  show c.val.toNat < _
  rcases this with h | ⟨_, h⟩ <;> omega
theorem ok_join {s : Str} (hs : PyData.strOk s = true) : ∀ {ts : List Str}, (∀ t ∈ ts, PyData.strOk t = true) → PyData.strOk (Str.join s ts) = true
  | [], _ => by show PyData.strOk Str.empty = true; decide +kernel
  | [x], h => h x List.mem_cons_self
  | x :: y :: r, h => ok_app (ok_app (h x List.mem_cons_self) hs) (ok_join hs fun t ht => h t (List.mem_cons_of_mem _ ht))
theorem ok_tuple {ts : List Str} (h : ∀ t ∈ ts, PyData.strOk t = true) : PyData.strOk (tupleText ts) = true := by
  unfold tupleText
  refine ok_app (ok_app (ok_string _) (ok_join (ok_string _) h)) ?_
  split <;> exact ok_string _
theorem ok_list {ts : List Str} (h : ∀ t ∈ ts, PyData.strOk t = true) : PyData.strOk (listText ts) = true := by
  rw [listText_eq_join]
  exact ok_app (ok_app (ok_string _) (ok_join (ok_string _) h)) (ok_string _)
structure Nice (w p : Nat) (d : D) : Prop where
  sh : shwD d = true
  sb : (toPy d).showable = true
  lf : (toPy d).leavesShort 8 = true
  wt : (toPy d).weight ≤ w
  dp : (toPy d).depth ≤ p
  dc : (toPy d).hasDict = false
  ok : PyData.strOk (toPy d).shown = true
structure Nices (w p : Nat) (ds : List D) : Prop where
  sh : shwDs ds = true
  sb : PyData.showableAll (toPys ds) = true
  lf : PyData.leavesShortAll 8 (toPys ds) = true
  wt : PyData.weightAll (toPys ds) ≤ w
  dp : PyData.depthAll (toPys ds) ≤ p
  dc : PyData.hasDictAll (toPys ds) = false
  ok : ∀ t ∈ PyData.shownAll (toPys ds), PyData.strOk t = true
theorem Nices.nil : Nices 0 0 [] := ⟨rfl, rfl, rfl, Nat.le_refl _, Nat.le_refl _, rfl, fun _ h => nomatch h⟩
theorem Nices.cons {w v p q : Nat} {d : D} {ds : List D} (h : Nice w p d) (h2 : Nices v q ds) : Nices (w + 1 + v) (max p q) (d :: ds) := by
  obtain ⟨a1, a2, a3, a4, a5, a6, a7⟩ := h
  obtain ⟨b1, b2, b3, b4, b5, b6, b7⟩ := h2
  refine ⟨?_, ?_, ?_, ?_, ?_, ?_, ?_⟩
  · rw [shwDs, a1, b1]; rfl
  · rw [toPys, PyData.showableAll, a2, b2]; rfl
  · rw [toPys, PyData.leavesShortAll, a3, b3]; rfl
  · rw [toPys, PyData.weightAll]; omega
  · rw [toPys, PyData.depthAll]; omega
  · rw [toPys, PyData.hasDictAll, a6, b6]; rfl
  · rw [toPys, PyData.shownAll]
    intro t ht
    cases ht with
    | head => exact a7
    | tail _ ht => exact b7 t ht
theorem Nices.tup {w p : Nat} {ds : List D} (h : Nices w p ds) : Nice w (p + 1) (.tup ds) := by
  obtain ⟨a1, a2, a3, a4, a5, a6, a7⟩ := h
  refine ⟨?_, ?_, ?_, ?_, ?_, ?_, ?_⟩
  · rw [shwD, a1]
  · rw [toPy, PyData.showable, a2]
  · rw [toPy, PyData.leavesShort, a3]
  · rw [toPy, PyData.weight]; exact a4
  · rw [toPy, PyData.depth]; omega
  · rw [toPy, PyData.hasDict, a6]
  · rw [toPy, PyData.shown]; exact ok_tuple a7
theorem Nices.lst {w p : Nat} {ds : List D} (h : Nices w p ds) : Nice w (p + 1) (.lst ds) := by
  obtain ⟨a1, a2, a3, a4, a5, a6, a7⟩ := h
  refine ⟨?_, ?_, ?_, ?_, ?_, ?_, ?_⟩
  · rw [shwD, a1]
  · rw [toPy, PyData.showable, a2]
  · rw [toPy, PyData.leavesShort, a3]
  · rw [toPy, PyData.weight]; exact a4
  · rw [toPy, PyData.depth]; omega
  · rw [toPy, PyData.hasDict, a6]
  · rw [toPy, PyData.shown]; exact ok_list a7
theorem Nice.non : Nice 0 0 .non := ⟨rfl, rfl, rfl, Nat.le_refl _, Nat.le_refl _, rfl, ok_string _⟩
theorem Nice.bl (b : Bool) : Nice 0 0 (.bl b) := ⟨rfl, rfl, rfl, Nat.le_refl _, Nat.le_refl _, rfl, by cases b <;> exact ok_string _⟩
theorem Nice.le {w v p q : Nat} {d : D} (h : Nice w p d) (h1 : w ≤ v) (h2 : p ≤ q) : Nice v q d := ⟨h.sh, h.sb, h.lf, Nat.le_trans h.wt h1, Nat.le_trans h.dp h2, h.dc, h.ok⟩
theorem nice_small : ∀ k < 40, (PyData.int ((k : Nat) : Int)).showable = true ∧ (PyData.int ((k : Nat) : Int)).leavesShort 8 = true ∧ (PyData.int ((k : Nat) : Int)).weight ≤ 8 := by decide +kernel
theorem Nice.nat {k : Nat} (h : k < 40) : Nice 8 0 (.int (k : Int)) := by
  obtain ⟨a, b, c⟩ := nice_small k h
  exact ⟨rfl, a, b, c, Nat.le_refl _, rfl, ok_string _⟩
theorem Nice.neg1 : Nice 8 0 (.int (-1)) := ⟨rfl, by decide +kernel, by decide +kernel, by decide +kernel, Nat.le_refl _, rfl, ok_string _⟩
theorem nices_nat : ∀ {st : List Nat}, (∀ k ∈ st, k < 40) → Nices (9 * st.length) 0 (natD st)
  | [], _ => .nil
  | k :: st, h => by
    have a := Nices.cons (Nice.nat (h k List.mem_cons_self)) (nices_nat fun j hj => h j (List.mem_cons_of_mem _ hj))
    rw [List.length_cons, show 9 * (st.length + 1) = 8 + 1 + 9 * st.length by omega]
    exact a
theorem Nice.word {x : Str} (h : (x.cps.toList.all fun c => decide (c < 16 ^ 8)) = true) (hl : x.cps.size ≤ 60) (ho : PyData.strOk (reprText x) = true) : Nice 60 0 (.str x) := ⟨rfl, rfl, by rw [toPy, PyData.leavesShort]; exact h, by rw [toPy, PyData.weight]; exact hl, Nat.le_refl _, rfl, ho⟩
theorem repr_nice {w p : Nat} {ds : List D} (h : Nices w p ds) (hw : w ≤ 10000) (hp : p ≤ 50) : ∃ s, fRepr [.tup ds] = some (.str s) ∧ PyData.strOk s = true := by
  have t := h.tup
  refine ⟨_, if_pos ⟨h.sh, t.sb, ?_, Nat.le_trans t.dp (by omega), fun z => ?_⟩, t.ok⟩
  · have := PyData.shown_le 8 (Nat.le_refl _) _ t.lf
    have := t.wt
    have : sizeLine = 16777216 := by decide
    omega
  · rw [t.dc] at z
    cases z
theorem okEq_str {x : Str} (h : PyData.strOk x = true) : okEq (.str x) = true := by
  show (true && (PyData.strOk x && true)) = true
  rw [h]
  rfl
theorem eqv_str (x : Str) : PyData.eqv (toPy (.str x)) (toPy (.str x)) = true := by
  show (x == x) = true
  exact beq_self_eq_true x
theorem oNe_same (x : Str) (h : PyData.strOk x = true) : oNe (.str x) (.str x) = some (.bl false) := by
  unfold oNe
  rw [okEq_str h, eqv_str]
  rfl
theorem oEq_same (x : Str) (h : PyData.strOk x = true) : oEq (.str x) (.str x) = some (.bl true) := by
  unfold oEq
  rw [okEq_str h, eqv_str]
  rfl
abbrev refCmp (o : D → D → Option D) (ws : List (String × Str)) (fb : SEnv → M D) (w : Str) (fd : SEnv → M D) : SEnv → M D := d2 o (dCall fRepr (lCons (dRef ws fb) lNil)) (dCall fRepr (lCons (dTup (lCons (fun _ => pure (.str w)) (lCons fd lNil))) lNil))
theorem e_ref {ws : List (String × Str)} {fb : SEnv → M D} {δ : SEnv} {R R1 : Option Rw} {c : String} {w : Str} {d : D} (h : fb δ R = .exn c d R1) (hw : ws.lookup c = some w) : dRef ws fb δ R = .ok (.tup [.str w, d]) R1 := by
  unfold dRef
  rw [h]
  simp only
  rw [hw]
theorem e_refCmp {o : D → D → Option D} {ws : List (String × Str)} {fb fd : SEnv → M D} {δ : SEnv} {R R1 : Option Rw} {c : String} {w : Str} {d : D} {b : Bool} {wt dp : Nat} (ho : ∀ x, PyData.strOk x = true → o (.str x) (.str x) = some (.bl b)) (h : fb δ R = .exn c d R1) (hw : ws.lookup c = some w) (hd : fd δ R1 = .ok d R1)
    (n : Nice wt dp d) (hn : wt ≤ 9000) (hp : dp ≤ 50) (hx : (w.cps.toList.all fun c => decide (c < 16 ^ 8)) = true) (hl : w.cps.size ≤ 60) (hr : PyData.strOk (reprText w) = true) : refCmp o ws fb w fd δ R = .ok (.bl b) R1 := by
  obtain ⟨s, e, os⟩ := repr_nice (Nices.cons (Nice.word hx hl hr) (Nices.cons n .nil)) (by omega) (by omega)
  exact e_d2 (e_call (e_cons (e_ref h hw) e_nil) e) (e_call (e_cons (e_tup (e_cons rfl (e_cons hd e_nil)) (by show 2 ≤ sizeLine; decide)) e_nil) e) (ho s os)
/-! ### alike -/
mutual
def aok : Nat → D → Bool
  | 0, _ => false
  | n + 1, .tup ds => decide (ds.length ≤ 1000) && aoks n ds
  | n + 1, .lst ds => decide (ds.length ≤ 1000) && aoks n ds
  | n + 1, .int _ => true
  | n + 1, .bl _ => true
  | n + 1, .non => true
  | _, _ => false
def aoks : Nat → List D → Bool
  | _, [] => true
  | n, d :: ds => aok n d && aoks n ds
end
theorem aoks_mem : ∀ {n : Nat} {ds : List D}, aoks n ds = true → ∀ d ∈ ds, aok n d = true
  | n, d :: ds, h, x, hx => by
    rw [aoks, Bool.and_eq_true] at h
    cases hx with
    | head => exact h.1
    | tail _ hx => exact aoks_mem h.2 x hx
theorem alike_comp {FF : List D → M D} {ds : List D} {x : D} {δ : SEnv} {R : Option Rw} (hx : x = .tup ds ∨ x = .lst ds) (hl : ds.length ≤ 1000) (hF : ∀ d ∈ ds, ∀ R, FF [d, d] R = .ok (.bl true) R) :
    d2 oEq (dComp [2] (.nm 2) (iCall rng1 (lCons (dCall fLen (lCons (dVar 1) lNil)) lNil)) (bNot (dT (dFn 2 FF (lCons (d2 oIx (dVar 0) (dVar 2)) (lCons (d2 oIx (dVar 1) (dVar 2)) lNil))))) (dVar 2)) (dLst lNil) [.dat x, .dat x, .none, .none] R = .ok (.bl true) R := by
  have hlen : fLen [x] = some (.int (ds.length : Int)) := by rcases hx with rfl | rfl <;> rfl
  have e : dComp [2] (.nm 2) (iCall rng1 (lCons (dCall fLen (lCons (dVar 1) lNil)) lNil)) (bNot (dT (dFn 2 FF (lCons (d2 oIx (dVar 0) (dVar 2)) (lCons (d2 oIx (dVar 1) (dVar 2)) lNil))))) (dVar 2) [.dat x, .dat x, .none, .none] R = .ok (.lst (((rangeD 0 ds.length).filter fun _ => false).map id)) R := by
    refine e_comp (e_icall (e_cons (e_call (e_cons (e_var rfl) e_nil) hlen) e_nil) (rng1_nat hl)) (by rw [rangeD_length]; exact Nat.le_trans hl (by decide)) fun d hd => ?_
    rw [rangeD_nat] at hd
    obtain ⟨i, hi, rfl⟩ := mem_natD hd
    have hi' : i < ds.length := List.mem_range.mp hi
    have hat : oIx x (.int (i : Int)) = some ds[i] := by rcases hx with rfl | rfl <;> exact atI_nat (List.getElem?_eq_getElem hi')
    refine ⟨_, rfl, fun R => ?_, fun q => nomatch q⟩
    exact e_not (k := true) (e_dTb (Eq.trans (e_fn (e_cons (e_d2 (e_var rfl) (e_var rfl) hat) (e_cons (e_d2 (e_var rfl) (e_var rfl) hat) e_nil)) rfl) (hF _ (List.getElem_mem hi') R)))
  rw [show ((rangeD 0 ds.length).filter fun _ => false) = [] from List.filter_eq_nil_iff.mpr fun _ _ => Bool.false_ne_true] at e
  exact e_d2 e (e_lst e_nil (Nat.zero_le _)) rfl
theorem alike_seq {n : Nat} {ds : List D} {x : D} {b : Bool} {R : Option Rw} (hx : x = .tup ds ∨ x = .lst ds) (hL : isiD "list" x = some (.bl b)) (hl : ds.length ≤ 1000) (hF : ∀ d ∈ ds, ∀ R, FR__law_alike n [d, d] R = .ok (.bl true) R) : FR__law_alike (n + 1) [x, x] R = .ok (.bl true) R := by
  have hlen : fLen [x] = some (.int (ds.length : Int)) := by rcases hx with rfl | rfl <;> rfl
  have hT : isiD2 "tuple" "list" x = some (.bl true) := by rcases hx with rfl | rfl <;> rfl
  have i0 : dVar 0 [.dat x, .dat x, .none, .none] R = .ok x R := e_var rfl
  have i1 : dVar 1 [.dat x, .dat x, .none, .none] R = .ok x R := e_var rfl
  have t0 : dT (d1 (isiD2 "tuple" "list") (dVar 1)) [.dat x, .dat x, .none, .none] R = .ok true R := e_dTb (e_d1 i1 hT)
  have t1 : bOr (bNot (dT (d1 (isiD2 "tuple" "list") (dVar 0)))) (dB (d2 oNe (d1 (isiD "list") (dVar 0)) (d1 (isiD "list") (dVar 1)))) [.dat x, .dat x, .none, .none] R = .ok false R := by
    refine (e_orF (e_not (k := true) (e_dTb (e_d1 i0 hT)))).trans ?_
    have e := e_dB (e_d2 (e_d1 i0 hL) (e_d1 i1 hL) (oNe_bl b b))
    rw [decide_eq_true rfl] at e
    exact e
  have t2 : dB (d2 oNe (dCall fLen (lCons (dVar 0) lNil)) (dCall fLen (lCons (dVar 1) lNil))) [.dat x, .dat x, .none, .none] R = .ok false R := by
    have e := e_dB (e_d2 (e_call (e_cons i0 e_nil) hlen) (e_call (e_cons i1 e_nil) hlen) (oNe_int (ds.length : Int) (ds.length : Int)))
    rw [decide_eq_true rfl] at e
    exact e
  show fin (sem__law_alike (FR__law_alike n) [.dat x, .dat x, .none, .none] R) = _
  unfold sem__law_alike
  rw [s_seqR ((s_ifT t0).trans ((s_skip t1).trans ((s_skip t2).trans (s_ret (alike_comp (δ := []) hx hl hF)))))]
  rfl
theorem alike_same : ∀ (n : Nat) (d : D) (R : Option Rw), aok n d = true → FR__law_alike n [d, d] R = .ok (.bl true) R
  | 0, d, R, h => by cases d <;> cases h
  | n + 1, .str _, R, h => by cases h
  | n + 1, .dic, R, h => by cases h
  | n + 1, .web _ _, R, h => by cases h
  | n + 1, .row _, R, h => by cases h
  | n + 1, .fn _, R, h => by cases h
  | n + 1, .tup ds, R, h => by
    rw [aok, Bool.and_eq_true, decide_eq_true_eq] at h
    exact alike_seq (n := n) (b := false) (.inl rfl) rfl h.1 fun d hd R => alike_same n d R (aoks_mem h.2 d hd)
  | n + 1, .lst ds, R, h => by
    rw [aok, Bool.and_eq_true, decide_eq_true_eq] at h
    exact alike_seq (n := n) (b := true) (.inr rfl) rfl h.1 fun d hd R => alike_same n d R (aoks_mem h.2 d hd)
  | n + 1, .int i, R, _ => by
    have a1 : isiD2 "tuple" "list" (.int i) = some (.bl false) := rfl
    have a2 : isiD "dict" (.int i) = some (.bl false) := rfl
    have a3 : isiD "str" (.int i) = some (.bl false) := rfl
    have a4 : isiD "int" (.int i) = some (.bl true) := rfl
    have a5 : isiD "bool" (.int i) = some (.bl false) := rfl
    have a6 : oIsN (.int i) .non = some (.bl false) := rfl
    simp [FR__law_alike, sem__law_alike, startD, N__law_alike, a1, a2, a3, a4, a5, a6]
  | n + 1, .bl i, R, _ => by
    have a1 : isiD2 "tuple" "list" (.bl i) = some (.bl false) := rfl
    have a2 : isiD "dict" (.bl i) = some (.bl false) := rfl
    have a3 : isiD "str" (.bl i) = some (.bl false) := rfl
    have a4 : isiD "int" (.bl i) = some (.bl true) := rfl
    have a5 : isiD "bool" (.bl i) = some (.bl true) := rfl
    have a6 : oIsN (.bl i) .non = some (.bl false) := rfl
    simp [FR__law_alike, sem__law_alike, startD, N__law_alike, a1, a2, a3, a4, a5, a6]
  | n + 1, .non, R, _ => by
    have a1 : isiD2 "tuple" "list" .non = some (.bl false) := rfl
    have a2 : isiD "dict" .non = some (.bl false) := rfl
    have a3 : isiD "str" .non = some (.bl false) := rfl
    have a6 : oIsN .non .non = some (.bl true) := rfl
    have a7 : oEq .non .non = some (.bl true) := rfl
    simp [FR__law_alike, sem__law_alike, startD, N__law_alike, a1, a2, a3, a6, a7]
end DL

set_option Elab.async false
set_option linter.all false
set_option maxRecDepth 100000
namespace DL
open PySem PySem.Spec L2
/-! ### things refused -/
structure Bad (d : D) : Prop where
  pl : pl d = true
  tu : ∀ ds, d = .tup ds → ds.all DL.pl = true ∧ ds.length ≤ sizeLine
  ni : ∃ w p, w ≤ 9000 ∧ p ≤ 50 ∧ Nice w p d
theorem Bad.flat {d : D} (h : DL.pl d = true) (ht : ∀ ds, d ≠ .tup ds) (hn : ∃ w p, w ≤ 9000 ∧ p ≤ 50 ∧ Nice w p d) : Bad d := ⟨h, fun ds e => absurd e (ht ds), hn⟩
theorem Bad.tup {ds : List D} {w p : Nat} (h : ds.all DL.pl = true) (hl : ds.length ≤ 1000) (hn : Nices w p ds) (hw : w ≤ 9000) (hp : p < 50) : Bad (.tup ds) := ⟨rfl, fun es e => by cases e; exact ⟨h, Nat.le_trans hl (by decide)⟩, w, p + 1, hw, hp, hn.tup⟩
theorem Bad.nat {st : List Nat} (h : ∀ k ∈ st, k < 40) (hl : st.length ≤ 500) : Bad (.tup (natD st)) := .tup (pl_nat st) (by rw [natD_len]; omega) (nices_nat h) (by omega) (by omega)
theorem bad_int {k : Nat} (h : k < 40) : Bad (.int (k : Int)) := .flat rfl (fun _ e => nomatch e) ⟨8, 0, by omega, by omega, .nat h⟩
theorem bad_neg1 : Bad (.int (-1)) := .flat rfl (fun _ e => nomatch e) ⟨8, 0, by omega, by omega, .neg1⟩
theorem bad_non : Bad .non := .flat rfl (fun _ e => nomatch e) ⟨0, 0, by omega, by omega, .non⟩
theorem bad_bl (b : Bool) : Bad (.bl b) := .flat rfl (fun _ e => nomatch e) ⟨0, 0, by omega, by omega, .bl b⟩
theorem word0 : Nice 60 0 (.str ("0" : Str)) := .word (by decide +kernel) (by decide +kernel) (by decide +kernel)
theorem bad_0 : Bad (.str ("0" : Str)) := .flat rfl (fun _ e => nomatch e) ⟨60, 0, by omega, by omega, word0⟩
theorem bad_tup1 {d : D} {w p : Nat} (h : pl d = true) (n : Nice w p d) (hw : w ≤ 8000) (hp : p ≤ 40) : Bad (.tup [d]) := .tup (by simp [h]) (by simp) (Nices.cons n .nil) (by omega) (by omega)
theorem srt_perm_eq {a b : List Int} (h : srt a = srt b) : a.Perm b := (srt_perm a).symm.trans (h ▸ srt_perm b)
theorem isOrd_no {o st : List Nat} (h : ¬ o.Perm st) : isOrd st (.tup (natD o)) = false := by
  have h1 : (natD o).all isInt = true := by
    rw [List.all_eq_true]
    intro d hd
    obtain ⟨k, _, rfl⟩ := mem_natD hd
    rfl
  show ((natD o).all isInt && (match nums (natD o) with | some ns => decide (srt ns = srt (st.map fun (k : Nat) => (k : Int))) | none => false)) = false
  rw [h1, natD_ints, nums_map, Bool.true_and]
  simp only [decide_eq_false_iff_not]
  intro e
  have p := (srt_perm_eq e).map Int.toNat
  rw [List.map_map, List.map_map] at p
  have i : ∀ l : List Nat, l.map (Int.toNat ∘ fun (k : Nat) => (k : Int)) = l := fun l => by
    conv => rhs; rw [← List.map_id l]
    exact List.map_congr_left fun k _ => Int.toNat_natCast k
  rw [i, i] at p
  exact h p
theorem natD_rep (k n : Nat) : (List.replicate n (natD [k])).flatten = natD (List.replicate n k) := by
  induction n with
  | zero => rfl
  | succ n ih => rw [List.replicate_succ, List.flatten_cons, ih, List.replicate_succ]; rfl
/-- the wrong orders -/
def wrongO (o : List Nat) : List D := [.tup (natD (o.drop 1)), .tup (natD (o ++ o.take 1)), .lst (natD o), .tup (natD (List.replicate o.length (o.headD 0))), .non, .tup [.non]]
theorem wrong_bad {o st : List Nat} {m : Nat} (h : StOk m st) (m12 : m ≤ 12) (p : o.Perm st) (hl : 1 < o.length) : ∀ d ∈ wrongO o, Bad d ∧ isOrd st d = false := by
  have hlt : ∀ k ∈ o, k < 40 := fun k hk => Nat.lt_of_lt_of_le (h.lt k (p.mem_iff.mp hk)) (by omega)
  have ho : o.length ≤ 12 := by rw [p.length_eq]; exact Nat.le_trans h.len m12
  have hd0 : o.headD 0 < 40 := by
    cases o with
    | nil => simp
    | cons k o => exact hlt k List.mem_cons_self
  intro d hd
  unfold wrongO at hd
  simp only [List.mem_cons, List.not_mem_nil, or_false] at hd
  rcases hd with rfl | rfl | rfl | rfl | rfl | rfl
  · exact ⟨.nat (fun k hk => hlt k (List.mem_of_mem_drop hk)) (by rw [List.length_drop]; omega), isOrd_no fun q => by
      have a := q.length_eq
      have b := p.length_eq
      rw [List.length_drop] at a
      omega⟩
  · exact ⟨.nat (fun k hk => by
      rcases List.mem_append.mp hk with hk | hk
      · exact hlt k hk
      · exact hlt k (List.mem_of_mem_take hk)) (by rw [List.length_append, List.length_take]; omega), isOrd_no fun q => by
      have a := q.length_eq
      have b := p.length_eq
      rw [List.length_append, List.length_take] at a
      omega⟩
  · refine ⟨.flat rfl (fun _ e => nomatch e) ⟨_, _, ?_, ?_, (nices_nat hlt).lst⟩, rfl⟩
    · omega
    · omega
  · refine ⟨.nat (fun k hk => (List.eq_of_mem_replicate hk) ▸ hd0) (by rw [List.length_replicate]; omega), isOrd_no fun q => ?_⟩
    have nd := q.nodup_iff.mpr h.nodup
    rw [List.nodup_replicate] at nd
    omega
  · exact ⟨bad_non, rfl⟩
  · exact ⟨bad_tup1 rfl .non (by omega) (by omega), rfl⟩
/-- what is no string of the standing -/
def lackO (m : Nat) (st : List Nat) : List D := natD ((List.range (m + 1)).filter fun k => !inSt st (.int (k : Int))) ++ [.non, .str ("0" : Str), .tup [.int 0], .int (-1), .bl true]
theorem lack_bad {m : Nat} {st : List Nat} (m12 : m ≤ 12) : ∀ d ∈ lackO m st, Bad d ∧ inSt st d = false := by
  intro d hd
  unfold lackO at hd
  rcases List.mem_append.mp hd with hd | hd
  · obtain ⟨k, hk, rfl⟩ := mem_natD hd
    obtain ⟨h1, h2⟩ := List.mem_filter.mp hk
    rw [List.mem_range] at h1
    exact ⟨bad_int (by omega), by simpa using h2⟩
  · simp only [List.mem_cons, List.not_mem_nil, or_false] at hd
    rcases hd with rfl | rfl | rfl | rfl | rfl
    · exact ⟨bad_non, rfl⟩
    · exact ⟨bad_0, rfl⟩
    · exact ⟨bad_tup1 rfl (Nice.nat (k := 0) (by omega)) (by omega) (by omega), rfl⟩
    · refine ⟨bad_neg1, ?_⟩
      unfold inSt
      rw [List.any_eq_false]
      intro j _
      simp
    · exact ⟨bad_bl true, rfl⟩
/-- what is no standing -/
def badS (m : Nat) : List D := [.non, .int 3, .lst [.int 0], .tup [.int (m : Int)], .tup [.int 0, .int 0], .tup [.int 1, .int 0], .tup [.int (-1)], .tup [.str ("0" : Str)], .tup [.bl true], .tup [.int 0, .int (m : Int)]]
theorem badS_bad {m : Nat} (m12 : m ≤ 12) : ∀ d ∈ badS m, Bad d ∧ rising d 0 ((m : Int) - 1) = false := by
  intro d hd
  unfold badS at hd
  simp only [List.mem_cons, List.not_mem_nil, or_false] at hd
  have n0 : Nice 8 0 (.int 0) := Nice.nat (k := 0) (by omega)
  have n1 : Nice 8 0 (.int 1) := Nice.nat (k := 1) (by omega)
  have nm : Nice 8 0 (.int (m : Int)) := Nice.nat (k := m) (by omega)
  rcases hd with rfl | rfl | rfl | rfl | rfl | rfl | rfl | rfl | rfl | rfl
  · exact ⟨bad_non, rfl⟩
  · exact ⟨bad_int (k := 3) (by omega), rfl⟩
  · exact ⟨.flat rfl (fun _ e => nomatch e) ⟨_, _, by omega, by omega, (Nices.cons n0 .nil).lst⟩, rfl⟩
  · refine ⟨bad_tup1 rfl nm (by omega) (by omega), ?_⟩
    simp [rising, within]
    omega
  · refine ⟨.tup rfl (by simp) (Nices.cons n0 (Nices.cons n0 .nil)) (by omega) (by omega), ?_⟩
    simp [rising, risingL]
  · refine ⟨.tup rfl (by simp) (Nices.cons n1 (Nices.cons n0 .nil)) (by omega) (by omega), ?_⟩
    simp [rising, risingL]
  · refine ⟨bad_tup1 rfl .neg1 (by omega) (by omega), ?_⟩
    simp [rising, within]
  · exact ⟨bad_tup1 rfl word0 (by omega) (by omega), rfl⟩
  · exact ⟨bad_tup1 rfl (.bl true) (by omega) (by omega), rfl⟩
  · refine ⟨.tup rfl (by simp) (Nices.cons n0 (Nices.cons nm .nil)) (by omega) (by omega), ?_⟩
    simp [rising, within]
    omega
end DL

set_option Elab.async false
set_option linter.all false
set_option maxRecDepth 100000
namespace DL
open PySem PySem.Spec L2
/-! ### what a standing is worth -/
def cutV (g : Nat) (r : Int) : Int := if 0 < g then (g : Int) + r else -r
def wF (ss : List (Int × Int)) : Nat → List Nat → Int
  | 0, _ => 0
  | f + 1, st => if st = [] then 0 else mxI (st.map fun k => cutV (closed ss st k).length (wF ss f (without st k)))
def wv (ss : List (Int × Int)) (st : List Nat) : Int := wF ss st.length st
def wb (ss : List (Int × Int)) (st : List Nat) (k : Nat) : Int := cutV (closed ss st k).length (wv ss (without st k))
theorem without_lt {st : List Nat} {k : Nat} (h : k ∈ st) : (without st k).length < st.length := by
  unfold without
  rw [← List.countP_eq_length_filter]
  have h1 := List.countP_le_length (p := fun j => !decide (j = k)) (l := st)
  by_cases e : List.countP (fun j => !decide (j = k)) st = st.length
  · have := List.countP_eq_length.mp e k h
    simp at this
  · omega
theorem wF_eq (ss : List (Int × Int)) : ∀ (f f' : Nat) (st : List Nat), st.length ≤ f → st.length ≤ f' → wF ss f st = wF ss f' st
  | 0, f', st, h, _ => by
    have e : st = [] := List.length_eq_zero_iff.mp (by omega)
    subst e
    cases f' with
    | zero => rfl
    | succ f' => rw [wF, wF, if_pos rfl]
  | f + 1, 0, st, _, h => by
    have e : st = [] := List.length_eq_zero_iff.mp (by omega)
    subst e
    rw [wF, wF, if_pos rfl]
  | f + 1, f' + 1, st, h, h' => by
    rw [wF, wF]
    by_cases e : st = []
    · rw [if_pos e, if_pos e]
    · rw [if_neg e, if_neg e]
      congr 1
      apply List.map_congr_left
      intro k hk
      have := without_lt hk
      rw [wF_eq ss f f' (without st k) (by omega) (by omega)]
theorem wv_nil (ss : List (Int × Int)) : wv ss [] = 0 := rfl
theorem wv_eq {ss : List (Int × Int)} {st : List Nat} (h : st ≠ []) : wv ss st = mxI (st.map (wb ss st)) := by
  unfold wv
  rw [wF_eq ss st.length (st.length + 1) st (by omega) (by omega), wF, if_neg h]
  congr 1
  apply List.map_congr_left
  intro k hk
  have := without_lt hk
  unfold wb wv
  rw [wF_eq ss st.length (without st k).length (without st k) (by omega) (by omega)]
theorem wb_le {ss : List (Int × Int)} {st : List Nat} {k : Nat} (h : k ∈ st) : wb ss st k ≤ wv ss st := by
  rw [wv_eq (List.ne_nil_of_mem h)]
  exact mxI_le (List.mem_map.mpr ⟨k, h, rfl⟩)
theorem wv_best {ss : List (Int × Int)} {st : List Nat} (h : st ≠ []) : ∃ k ∈ st, wb ss st k = wv ss st := by
  rw [wv_eq h]
  obtain ⟨k, hk, e⟩ := List.mem_map.mp (mxI_mem (ns := st.map (wb ss st)) (by simpa using h))
  exact ⟨k, hk, e⟩
theorem wv_abs (ss : List (Int × Int)) : ∀ (m : Nat) (st : List Nat), st.length ≤ m → -(2 * (st.length : Int)) ≤ wv ss st ∧ wv ss st ≤ 2 * (st.length : Int)
  | 0, st, h => by
    have e : st = [] := List.length_eq_zero_iff.mp (by omega)
    subst e
    simp [wv_nil]
  | m + 1, st, h => by
    by_cases e : st = []
    · subst e
      simp [wv_nil]
    · obtain ⟨k, hk, e⟩ := wv_best (ss := ss) e
      have l := without_lt hk
      obtain ⟨h1, h2⟩ := wv_abs ss m (without st k) (by omega)
      have c := closed_len (ss := ss) (st := st) (k := k)
      rw [← e]
      unfold wb cutV
      split <;> omega
def bestL (ss : List (Int × Int)) (st : List Nat) : List Nat := st.filter fun k => decide (wb ss st k = wv ss st)
theorem bestL_ne {ss : List (Int × Int)} {st : List Nat} (h : st ≠ []) : bestL ss st ≠ [] := by
  obtain ⟨k, hk, e⟩ := wv_best (ss := ss) h
  exact List.ne_nil_of_mem (List.mem_filter.mpr ⟨hk, decide_eq_true e⟩)
theorem bestL_mem {ss : List (Int × Int)} {st : List Nat} {k : Nat} (h : k ∈ bestL ss st) : k ∈ st ∧ wb ss st k = wv ss st := by
  obtain ⟨h1, h2⟩ := List.mem_filter.mp h
  exact ⟨h1, of_decide_eq_true h2⟩
def top1 (ss : List (Int × Int)) (st : List Nat) : Nat := (bestL ss st).headD 0
theorem top1_mem {ss : List (Int × Int)} {st : List Nat} (h : st ≠ []) : top1 ss st ∈ bestL ss st := by
  have hn := bestL_ne (ss := ss) h
  unfold top1
  cases e : bestL ss st with
  | nil => exact absurd e hn
  | cons a r => exact List.mem_cons_self
def ordL (ss : List (Int × Int)) : Nat → List Nat → List Nat
  | 0, _ => []
  | f + 1, st => top1 ss st :: ordL ss f (without st (top1 ss st))
theorem ordL_len (ss : List (Int × Int)) : ∀ (f : Nat) (st : List Nat), (ordL ss f st).length = f
  | 0, _ => rfl
  | f + 1, st => by rw [ordL, List.length_cons, ordL_len ss f]
theorem without_nodup {st : List Nat} {k : Nat} (h : st.Nodup) : (without st k).Nodup := h.sublist List.filter_sublist
theorem without_len1 {st : List Nat} {k : Nat} (hn : st.Nodup) (h : k ∈ st) : (without st k).length + 1 = st.length := by
  rw [(perm_without hn h).length_eq, List.length_cons]
theorem ordL_perm (ss : List (Int × Int)) : ∀ (f : Nat) (st : List Nat), st.Nodup → st.length = f → (ordL ss f st).Perm st
  | 0, st, _, h => by
    have e : st = [] := List.length_eq_zero_iff.mp h
    subst e
    exact .refl _
  | f + 1, st, hn, h => by
    have hne : st ≠ [] := fun e => by subst e; cases h
    have hm := (bestL_mem (top1_mem (ss := ss) hne)).1
    have := without_len1 hn hm
    rw [ordL]
    exact ((ordL_perm ss f (without st (top1 ss st)) (without_nodup hn) (by omega)).cons _).trans (perm_without hn hm).symm
/-- who moves first gains this more -/
def dv : List Nat → Int
  | [] => 0
  | g :: gs => cutV g (dv gs)
theorem dv_ord (ss : List (Int × Int)) : ∀ (f : Nat) (st : List Nat), st.Nodup → st.length = f → dv (gains ss (ordL ss f st) st) = wv ss st
  | 0, st, _, h => by
    have e : st = [] := List.length_eq_zero_iff.mp h
    subst e
    rfl
  | f + 1, st, hn, h => by
    have hne : st ≠ [] := fun e => by subst e; cases h
    have hm := bestL_mem (top1_mem (ss := ss) hne)
    have := without_len1 hn hm.1
    rw [ordL, gains, dv, dv_ord ss f _ (without_nodup hn) (by omega), ← hm.2]
    rfl
theorem scores_dv : ∀ (gs : List Nat) (w x y : Int), (w = 0 ∨ w = 1) → ∃ a b, scoresL gs w [x, y] = [a, b] ∧ a - b = x - y + (if w = 0 then dv gs else -dv gs) ∧ a + b = x + y + (gs.sum : Nat)
  | [], w, x, y, hw => ⟨x, y, rfl, by rw [dv]; split <;> omega, by simp⟩
  | g :: gs, w, x, y, hw => by
    rw [scoresL]
    rcases hw with rfl | rfl
    · have e : addAt [x, y] 0 (g : Int) = [x + g, y] := rfl
      rw [e]
      by_cases h0 : g = 0
      · subst h0
        have en : nextW 0 0 = 1 := rfl
        obtain ⟨a, b, e1, e2, e3⟩ := scores_dv gs 1 (x + ((0 : Nat) : Int)) y (.inr rfl)
        refine ⟨a, b, by rw [en]; exact e1, ?_, ?_⟩
        · rw [e2, if_neg (by decide), if_pos rfl, dv]
          unfold cutV
          rw [if_neg (by decide)]
          omega
        · rw [e3, List.sum_cons]
          omega
      · have en : nextW g 0 = 0 := if_neg h0
        obtain ⟨a, b, e1, e2, e3⟩ := scores_dv gs 0 (x + (g : Int)) y (.inl rfl)
        refine ⟨a, b, by rw [en]; exact e1, ?_, ?_⟩
        · rw [e2, if_pos rfl, if_pos rfl, dv]
          unfold cutV
          rw [if_pos (by omega)]
          omega
        · rw [e3, List.sum_cons]
          omega
    · have e : addAt [x, y] 1 (g : Int) = [x, y + g] := rfl
      rw [e]
      by_cases h0 : g = 0
      · subst h0
        have en : nextW 0 1 = 0 := rfl
        obtain ⟨a, b, e1, e2, e3⟩ := scores_dv gs 0 x (y + ((0 : Nat) : Int)) (.inl rfl)
        refine ⟨a, b, by rw [en]; exact e1, ?_, ?_⟩
        · rw [e2, if_pos rfl, if_neg (by decide), dv]
          unfold cutV
          rw [if_neg (by decide)]
          omega
        · rw [e3, List.sum_cons]
          omega
      · have en : nextW g 1 = 1 := if_neg h0
        obtain ⟨a, b, e1, e2, e3⟩ := scores_dv gs 1 x (y + (g : Int)) (.inr rfl)
        refine ⟨a, b, by rw [en]; exact e1, ?_, ?_⟩
        · rw [e2, if_neg (by decide), if_neg (by decide), dv]
          unfold cutV
          rw [if_pos (by omega)]
          omega
        · rw [e3, List.sum_cons]
          omega
end DL

set_option Elab.async false
set_option linter.all false
set_option maxRecDepth 100000
namespace DL
open PySem PySem.Spec L2
/-! ### the program's worth -/
def ints_ (st : List Nat) : List Int := st.map fun (k : Nat) => (k : Int)
theorem nums_nat : ∀ st : List Nat, nums (natD st) = some (ints_ st)
  | [] => rfl
  | k :: st => by
    show nums (.int (k : Int) :: natD st) = _
    unfold nums
    rw [nums_nat st]
    rfl
theorem nums_intsD : ∀ xs : List Int, nums (xs.map D.int) = some xs
  | [] => rfl
  | x :: xs => by
    show nums (.int x :: xs.map D.int) = _
    unfold nums
    rw [nums_intsD xs]
    rfl
theorem sti_nat {m : Nat} {st : List Nat} (h : StOk m st) (hm : m ≤ 12) : StI (ints_ st) := by
  refine ⟨?_, fun k hk => ?_⟩
  · unfold ints_
    rw [List.pairwise_map]
    exact h.inc.imp fun h => by omega
  · obtain ⟨j, hj, rfl⟩ := List.mem_map.mp hk
    have := h.lt j hj
    omega
theorem e_map {δ : SEnv} {R : Option Rw} {vs : List Nat} {t : Tgt} {fi : SEnv → M (List D)} {fe : SEnv → M D} {f : Nat → D} {st : List Nat} (h : fi δ R = .ok (natD st) R) (hl : st.length ≤ 12) (hc : ∀ k ∈ st, ∃ δ1, bindT t (.int (k : Int)) (blkD δ vs) = some δ1 ∧ ∀ R, fe δ1 R = .ok (f k) R) :
    dComp vs t fi bYes fe δ R = .ok (.lst (st.map f)) R := by
  refine (e_compY (g := fun d => match d with | .int k => f k.toNat | _ => .non) h (by rw [natD_len]; exact small12 hl) fun d hd => ?_).trans ?_
  · obtain ⟨k, hk, rfl⟩ := mem_natD hd
    exact hc k hk
  · unfold natD
    rw [List.map_map]
    congr 2
theorem e_neg {δ : SEnv} {R : Option Rw} {fe : SEnv → M D} {i : Int} (h : fe δ R = .ok (.int i) R) : d1 oNeg fe δ R = .ok (.int (-i)) R := e_d1 h rfl
section
variable {δ : SEnv} {R R1 R2 R3 R4 : Option Rw} {F : List D → M D} {fa fb fc fd : SEnv → M D} {a b c d : D} {r : Out D}
theorem q1 (ha : fa δ R = .ok a R1) (h : F [a] R1 = r) : dFn 1 F (lCons fa lNil) δ R = r := (e_fn (n := 1) (e_cons ha e_nil) rfl).trans h
theorem q2 (ha : fa δ R = .ok a R1) (hb : fb δ R1 = .ok b R2) (h : F [a, b] R2 = r) : dFn 2 F (lCons fa (lCons fb lNil)) δ R = r := (e_fn (n := 2) (e_cons ha (e_cons hb e_nil)) rfl).trans h
theorem q3 (ha : fa δ R = .ok a R1) (hb : fb δ R1 = .ok b R2) (hc : fc δ R2 = .ok c R3) (h : F [a, b, c] R3 = r) : dFn 3 F (lCons fa (lCons fb (lCons fc lNil))) δ R = r := (e_fn (n := 3) (e_cons ha (e_cons hb (e_cons hc e_nil))) rfl).trans h
theorem q4 (ha : fa δ R = .ok a R1) (hb : fb δ R1 = .ok b R2) (hc : fc δ R2 = .ok c R3) (hd : fd δ R3 = .ok d R4) (h : F [a, b, c, d] R4 = r) : dFn 4 F (lCons fa (lCons fb (lCons fc (lCons fd lNil)))) δ R = r := (e_fn (n := 4) (e_cons ha (e_cons hb (e_cons hc (e_cons hd e_nil)))) rfl).trans h
end
section
variable {Γ : Ctx} {n : Int} {ss : List (Int × Int)}
abbrev ValOk (Γ : Ctx) (n : Int) (ss : List (Int × Int)) : Prop := ∀ st : List Nat, Γ.val n ss (ints_ st) = wv ss st
theorem s_cache {i j : Nat} {fe : SEnv → M D} {δ : SEnv} {R : Option Rw} {ds : List D} {st : List Int} {v : Int} (h1 : δ[i]? = some (.dat (.web n ss))) (h2 : δ[j]? = some (.dat (.tup ds))) (h3 : nums ds = some st) (h4 : fe δ R = .ok (.int v) R) (h5 : v = Γ.val n ss st) (h6 : StI st) : sCache Γ i j fe δ R = .rt (.int v) R := by
  unfold sCache
  rw [h1, h2]
  simp only
  rw [h3]
  simp only
  rw [h4]
  simp only
  rw [if_pos ⟨h5, trivial, h6⟩]
theorem e_sel {δ : SEnv} {R : Option Rw} {vs : List Nat} {t : Tgt} {fi : SEnv → M (List D)} {ft : SEnv → M Bool} {fe : SEnv → M D} {p : Nat → Bool} {st : List Nat} (h : fi δ R = .ok (natD st) R) (hl : st.length ≤ 12) (hc : ∀ k ∈ st, ∃ δ1, bindT t (.int (k : Int)) (blkD δ vs) = some δ1 ∧ (∀ R, ft δ1 R = .ok (p k) R) ∧ ∀ R, fe δ1 R = .ok (.int (k : Int)) R) :
    dComp vs t fi ft fe δ R = .ok (.lst (natD (st.filter p))) R := by
  refine (e_comp (p := fun d => match d with | .int k => p k.toNat | _ => false) (g := id) h (by rw [natD_len]; exact small12 hl) fun d hd => ?_).trans ?_
  · obtain ⟨k, hk, rfl⟩ := mem_natD hd
    obtain ⟨δ1, e1, e2, e3⟩ := hc k hk
    exact ⟨δ1, e1, e2, fun _ => e3⟩
  · rw [List.map_id, natD_filter]
    rfl
end
end DL

set_option Elab.async false
set_option linter.all false
set_option maxRecDepth 100000
namespace DL
open PySem PySem.Spec L2
/-! ### best orders, shares -/
theorem atI_last {α : Type} (xs : List α) (x : α) : L2.atI (xs ++ [x]) (-1) = some x := by
  unfold L2.atI L2.ixN
  rw [if_neg (by decide)]
  have h : (0 : Int) ≤ -1 + ((xs ++ [x]).length : Int) := by
    rw [List.length_append, List.length_singleton]
    omega
  rw [if_pos (by first | exact h | (rw [List.length_append, List.length_singleton]; omega))]
  simp only [Option.bind_some, List.length_append, List.length_singleton]
  have e : (-1 + ((xs.length + 1 : Nat) : Int)).toNat = xs.length := by omega
  first
    | rw [e, List.getElem?_concat_length]
    | (rw [show (((xs.length + 1 : Nat) : Int) + -1).toNat = xs.length by omega, List.getElem?_concat_length])
section
variable {Γ : Ctx} {n : Int} {ss : List (Int × Int)}
theorem best_top {st : List Nat} (h : st ≠ []) : oIx (.tup (natD (bestL ss st))) (.int 0) = some (.int (top1 ss st : Int)) := by
  have hn := bestL_ne (ss := ss) h
  unfold top1
  cases e : bestL ss st with
  | nil => exact absurd e hn
  | cons a r => exact atI_nat (k := 0) rfl
/-- how many coins both close -/
def shareL (n : Int) (ss : List (Int × Int)) (st : List Nat) : Int × Int := ((((openC n ss st).length : Int) + wv ss st) / 2, (((openC n ss st).length : Int) - wv ss st) / 2)
/-- the best order shares as told -/
theorem play_best (g : GoodW n ss) {st : List Nat} (h : StOk ss.length st) : playL ss (ordL ss st.length st) st = [(shareL n ss st).1, (shareL n ss st).2] ∧ (shareL n ss st).1 - (shareL n ss st).2 = wv ss st ∧ (shareL n ss st).1 + (shareL n ss st).2 = ((openC n ss st).length : Int) := by
  have p := ordL_perm ss st.length st h.nodup rfl
  obtain ⟨a, b, e1, e2, e3⟩ := scores_dv (gains ss (ordL ss st.length st) st) 0 0 0 (.inl rfl)
  rw [if_pos rfl, dv_ord ss st.length st h.nodup rfl] at e2
  rw [gains_sum g _ st p h.nodup h.lt] at e3
  have ea : (shareL n ss st).1 = a := by
    show (((openC n ss st).length : Int) + wv ss st) / 2 = a
    omega
  have eb : (shareL n ss st).2 = b := by
    show (((openC n ss st).length : Int) - wv ss st) / 2 = b
    omega
  rw [ea, eb]
  exact ⟨e1, by omega, by omega⟩
/-! ### refused -/
end
end DL

set_option Elab.async false
set_option linter.all false
set_option maxRecDepth 100000
namespace DL
open PySem PySem.Spec L2
/-! ### standings as numbers -/
def bitsL (m x : Nat) : List Nat := (List.range m).filter fun k => x.testBit k
def maskL (st : List Nat) : Nat := (st.map fun k => 2 ^ k).sum
theorem bits_succ (m x : Nat) : bitsL (m + 1) x = bitsL m x ++ (if x.testBit m = true then [m] else []) := by
  unfold bitsL
  rw [List.range_succ, List.filter_append]
  congr 1
  cases h : x.testBit m <;> simp [List.filter_cons, h]
theorem bits_low (m x : Nat) : bitsL m (2 ^ m + x) = bitsL m x := by
  unfold bitsL
  apply List.filter_congr
  intro k hk
  rw [Nat.testBit_two_pow_add_gt (List.mem_range.mp hk)]
theorem mask_app (a b : List Nat) : maskL (a ++ b) = maskL a + maskL b := by
  unfold maskL
  rw [List.map_append, List.sum_append]
theorem bits_ok (m x : Nat) : StOk m (bitsL m x) := ⟨List.Pairwise.filter _ List.pairwise_lt_range, fun k hk => List.mem_range.mp (List.mem_filter.mp hk).1⟩
theorem mask_bits : ∀ (m x : Nat), x < 2 ^ m → maskL (bitsL m x) = x
  | 0, x, h => by
    have : x = 0 := by simpa using h
    subst this
    rfl
  | m + 1, x, h => by
    rw [bits_succ, mask_app]
    by_cases hx : x < 2 ^ m
    · rw [Nat.testBit_lt_two_pow hx, mask_bits m x hx]
      rfl
    · obtain ⟨y, rfl⟩ : ∃ y, x = 2 ^ m + y := ⟨x - 2 ^ m, by omega⟩
      have hy : y < 2 ^ m := by rw [Nat.pow_succ] at h; omega
      rw [bits_low, mask_bits m y hy, Nat.testBit_two_pow_add_eq, Nat.testBit_lt_two_pow hy]
      show y + maskL [m] = _
      unfold maskL
      simp
      omega
theorem st_splitW {m : Nat} : ∀ {st : List Nat}, st.Pairwise (· < ·) → (∀ k ∈ st, k < m + 1) → ∃ st', StOk m st' ∧ (st = st' ∨ st = st' ++ [m])
  | [], _, _ => ⟨[], ⟨.nil, fun _ h => nomatch h⟩, .inl rfl⟩
  | a :: r, hp, hl => by
    obtain ⟨p1, p2⟩ := List.pairwise_cons.mp hp
    obtain ⟨r', h1, h2⟩ := st_splitW p2 fun k hk => hl k (List.mem_cons_of_mem _ hk)
    by_cases ha : a = m
    · have hr : r = [] := by
        cases r with
        | nil => rfl
        | cons b r =>
          have x := p1 b List.mem_cons_self
          have y := hl b (List.mem_cons_of_mem _ List.mem_cons_self)
          omega
      exact ⟨[], ⟨.nil, fun _ h => nomatch h⟩, .inr (by rw [hr, ha]; rfl)⟩
    · have hs : ∀ k ∈ r', k ∈ r := fun k hk => by
        rcases h2 with h2 | h2 <;> rw [h2]
        · exact hk
        · exact List.mem_append_left _ hk
      refine ⟨a :: r', ⟨List.pairwise_cons.mpr ⟨fun k hk => p1 k (hs k hk), h1.inc⟩, fun k hk => ?_⟩, ?_⟩
      · cases hk with
        | head => have := hl a List.mem_cons_self; omega
        | tail _ hk => exact h1.lt k hk
      · rcases h2 with h2 | h2 <;> rw [h2]
        · exact .inl rfl
        · exact .inr rfl
theorem mask_st : ∀ (m : Nat) (st : List Nat), StOk m st → maskL st < 2 ^ m ∧ bitsL m (maskL st) = st
  | 0, st, h => by
    have e : st = [] := by
      cases st with
      | nil => rfl
      | cons a r => have := h.lt a List.mem_cons_self; omega
    subst e
    exact ⟨by decide, rfl⟩
  | m + 1, st, h => by
    obtain ⟨st', h1, h2⟩ := st_splitW h.inc h.lt
    obtain ⟨i1, i2⟩ := mask_st m st' h1
    rcases h2 with rfl | rfl
    · refine ⟨by rw [Nat.pow_succ]; omega, ?_⟩
      rw [bits_succ, i2, Nat.testBit_lt_two_pow i1]
      simp
    · have e : maskL (st' ++ [m]) = 2 ^ m + maskL st' := by
        rw [mask_app]
        have : maskL [m] = 2 ^ m := by simp [maskL]
        omega
      rw [e]
      refine ⟨by rw [Nat.pow_succ]; omega, ?_⟩
      rw [bits_succ, bits_low, i2, Nat.testBit_two_pow_add_eq, Nat.testBit_lt_two_pow i1]
      rfl
theorem sum_perm : ∀ {a b : List Nat}, a.Perm b → a.sum = b.sum
  | _, _, .nil => rfl
  | _, _, .cons x h => by rw [List.sum_cons, List.sum_cons, sum_perm h]
  | _, _, .swap x y l => by simp only [List.sum_cons]; omega
  | _, _, .trans h h2 => (sum_perm h).trans (sum_perm h2)
theorem mask_without {st : List Nat} {k : Nat} (hn : st.Nodup) (hk : k ∈ st) : maskL st = 2 ^ k + maskL (without st k) := by
  have := sum_perm ((perm_without hn hk).map fun k => 2 ^ k)
  unfold maskL
  rw [this, List.map_cons, List.sum_cons]
theorem e_shl {k : Nat} (h : k ≤ 1000) : oShl (.int 1) (.int (k : Int)) = some (.int ((2 ^ k : Nat) : Int)) := by
  show (if CPow 1 (k : Int) then some (D.int (1 * 2 ^ (k : Int).toNat)) else none) = _
  rw [if_pos (by unfold L2.CPow; exact ⟨by omega, by omega, by decide⟩), Int.toNat_natCast, Int.one_mul]
  congr 2
  first | done | (push_cast; rfl) | push_cast
theorem shr_bit {x k : Nat} : ∃ i, oShr (.int (x : Int)) (.int (k : Int)) = some (.int i) ∧ decide (i % 2 = 1) = x.testBit k := by
  refine ⟨((x / 2 ^ k : Nat) : Int), ?_, ?_⟩
  · show (if (0 : Int) ≤ (k : Int) then some (D.int ((x : Int) / 2 ^ (k : Int).toNat)) else none) = _
    rw [if_pos (by omega), Int.toNat_natCast]
    congr 2
    first | done | (push_cast; rfl) | push_cast
  · rw [Nat.testBit_eq_decide_div_mod_eq, decide_eq_decide]
    omega
theorem f_numbers {x m : Nat} {R : Option Rw} (hm : m ≤ 12) : F__law_numbers [.int (x : Int), .int (m : Int)] R = .ok (.tup (natD (bitsL m x))) R := by
  unfold F__law_numbers sem__law_numbers
  have st0 : startD N__law_numbers [.int (x : Int), .int (m : Int)] = [.dat (.int (x : Int)), .dat (.int (m : Int)), .none] := rfl
  have hi : iCall rng1 (lCons (dVar 1) lNil) [.dat (.int (x : Int)), .dat (.int (m : Int)), .none] R = .ok (natD (List.range m)) R := by
    refine e_icall (e_cons (e_var rfl) e_nil) ?_
    rw [rng1_nat (by omega), rangeD_nat]
  have e := e_sel (vs := [2]) (t := .nm 2) (ft := dB (d2 oEq (d2 oMod (d2 oShr (dVar 0) (dVar 2)) (fun _ => pure (.int 2))) (fun _ => pure (.int 1)))) (fe := dVar 2) (p := fun k => x.testBit k) hi (by rw [List.length_range]; exact hm) fun k hk => ⟨_, rfl, fun R => by
    obtain ⟨i, e1, e2⟩ := shr_bit (x := x) (k := k)
    have := e_dB (e_d2 (f := oEq) (fb := fun _ => pure (.int 1)) (R2 := R) (e_d2 (f := oMod) (fb := fun _ => pure (.int 2)) (R2 := R) (e_d2 (f := oShr) (δ := [.dat (.int (x : Int)), .dat (.int (m : Int)), .dat (.int (k : Int))]) (R := R) (e_var (i := 0) rfl) (e_var (i := 2) rfl) e1) rfl (oMod_int (by decide))) rfl (oEq_int _ _))
    rw [e2] at this
    exact this, fun R => e_var rfl⟩
  rw [st0, s_ret (e_call (e_cons e e_nil) rfl)]
  rfl
theorem sum_ints (st : List Nat) : ((st.map fun k => 2 ^ k).map fun (j : Nat) => (j : Int)).sum = ((maskL st : Nat) : Int) := by
  unfold maskL
  induction st with
  | nil => rfl
  | cons a r ih =>
    simp only [List.map_cons, List.sum_cons]
    rw [ih]
    omega
/-! ### the law's table -/
def tabW (ss : List (Int × Int)) (x : Nat) : List Int := (List.range x).map fun j => wv ss (bitsL ss.length j)
theorem tabW_len (ss : List (Int × Int)) (x : Nat) : (tabW ss x).length = x := by simp [tabW]
theorem tabW_get {ss : List (Int × Int)} {x j : Nat} (h : j < x) : (tabW ss x).getD j 0 = wv ss (bitsL ss.length j) := by
  unfold tabW
  simp [List.getD, h]
theorem tabW_succ (ss : List (Int × Int)) (x : Nat) : tabW ss (x + 1) = tabW ss x ++ [wv ss (bitsL ss.length x)] := by
  unfold tabW
  rw [List.range_succ, List.map_append]
  rfl
def mxF (t : Int) (ns : List Int) : Int := ns.foldl (fun t v => if v > t then v else t) t
theorem mxF_le : ∀ (ns : List Int) (t : Int), t ≤ mxF t ns ∧ (∀ v ∈ ns, v ≤ mxF t ns) ∧ (mxF t ns = t ∨ mxF t ns ∈ ns)
  | [], t => ⟨Int.le_refl t, fun v h => (List.not_mem_nil h).elim, Or.inl rfl⟩
  | a :: r, t => by
    obtain ⟨h1, h2, h3⟩ := mxF_le r (if a > t then a else t)
    have e : mxF t (a :: r) = mxF (if a > t then a else t) r := rfl
    rw [e]
    generalize mxF (if a > t then a else t) r = z at h1 h2 h3
    refine ⟨?_, fun v hv => ?_, ?_⟩
    · split at h1 <;> omega
    · cases hv with
      | head => split at h1 <;> omega
      | tail _ hv => exact h2 v hv
    · rcases h3 with h3 | h3
      · rw [h3]
        split
        · exact .inr List.mem_cons_self
        · exact .inl rfl
      · exact .inr (List.mem_cons_of_mem _ h3)
theorem mxF_eq {ns : List Int} {t : Int} (hne : ns ≠ []) (h : ∀ v ∈ ns, t < v) : mxF t ns = mxI ns := by
  obtain ⟨h1, h2, h3⟩ := mxF_le ns t
  have hm := mxI_mem hne
  have a := h2 _ hm
  have b := h _ hm
  rcases h3 with h3 | h3
  · omega
  · have := mxI_le h3
    omega
section
variable {n : Int} {ss : List (Int × Int)}
abbrev LwS (ss : List (Int × Int)) (x : Nat) (a3 a4 a5 a6 a7 a8 : SD) : SEnv := [.dat (.lst (ss.map pairD)), .dat (.int (ss.length : Int)), .own ((tabW ss x).map D.int), a3, a4, a5, a6, a7, a8]
theorem e_gain {δ : SEnv} {R : Option Rw} {i j : Nat} {g : Nat} {r : Int} (h1 : δ[i]? = some (.dat (.int (g : Int)))) (h2 : δ[j]? = some (.dat (.int r))) : dIf (dB (d2 oGt (dVar i) (fun _ => pure (.int 0)))) (d2 oPlus (dVar i) (dVar j)) (d2 oSub (fun _ => pure (.int 0)) (dVar j)) δ R = .ok (.int (cutV g r)) R := by
  have t := e_dB (e_d2 (f := oGt) (fb := fun _ => pure (.int 0)) (R2 := R) (e_var (R := R) h1) rfl (oGt_int _ _))
  unfold cutV
  by_cases h0 : 0 < g
  · rw [decide_eq_true (by omega)] at t
    rw [e_ifT t, if_pos h0]
    exact e_d2 (e_var h1) (e_var h2) (oPlus_int _ _)
  · rw [decide_eq_false (by omega)] at t
    rw [e_ifF t, if_neg h0]
    refine e_d2 (R1 := R) rfl (e_var h2) ?_
    rw [oSub_int]
    congr 2
    omega
theorem rangeD_one (c : Nat) : rangeD 1 c = natD (List.range' 1 c) := by
  unfold rangeD natD
  rw [List.range'_eq_map_range, List.map_map]
  apply List.map_congr_left
  intro i _
  show D.int (1 + (i : Int)) = D.int ((1 + i : Nat) : Int)
  rw [show (1 + (i : Int)) = ((1 + i : Nat) : Int) by omega]
theorem rng2_nat {c : Nat} (h1 : 1 ≤ c) (h : c ≤ 5000) : rng2 [.int 1, .int (c : Int)] = some (rangeD 1 (c - 1)) := by
  unfold rng2
  simp only
  have q3 : ((c : Int) - 1).toNat = c - 1 := by omega
  rw [if_pos ⟨by omega, by omega, by omega, by omega⟩, q3]
theorem tabAt {st : List Nat} (h : StOk ss.length st) : oIx (.lst ((tabW ss (2 ^ ss.length)).map D.int)) (.int ((maskL st : Nat) : Int)) = some (.int (wv ss st)) := by
  obtain ⟨w1, w2⟩ := mask_st _ _ h
  rw [getD_at (by omega) (by rw [tabW_len]; omega), Int.toNat_natCast, tabW_get w1, w2]
end
end DL

set_option Elab.async false
set_option linter.all false
set_option maxRecDepth 100000
namespace DL
open PySem PySem.Spec L2
/-! ### small things -/
theorem aoks_ints {n : Nat} : ∀ xs : List Int, aoks (n + 1) (xs.map D.int) = true
  | [] => rfl
  | x :: xs => by
    rw [List.map_cons, aoks, aoks_ints xs]
    rfl
theorem aok_tup {n : Nat} {xs : List Int} (h : xs.length ≤ 1000) : aok (n + 2) (.tup (xs.map D.int)) = true := by
  rw [aok, aoks_ints, List.length_map, decide_eq_true h]
  rfl
theorem aok_nat {n : Nat} {st : List Nat} (h : st.length ≤ 1000) : aok (n + 2) (.tup (natD st)) = true := by
  have := aok_tup (n := n) (xs := ints_ st) (by unfold ints_; rw [List.length_map]; exact h)
  unfold ints_ at this
  rw [List.map_map] at this
  exact this
theorem e_alike {fa fb : SEnv → M D} {δ : SEnv} {R : Option Rw} {d : D} (ha : fa δ R = .ok d R) (hb : fb δ R = .ok d R) (h : aok 8 d = true) : bNot (dT (dFn 2 (FR__law_alike 8) (lCons fa (lCons fb lNil)))) δ R = .ok false R :=
  e_not (k := true) (e_dTb (Eq.trans (e_fn (e_cons ha (e_cons hb e_nil)) rfl) (alike_same 8 d R h)))
theorem e_held {i n : Nat} {tab : FTab} {fs : SEnv → M (List D)} {δ : SEnv} {R : Option Rw} {x : String} {F : List D → M D} (h : δ[i]? = some (.dat (.fn x))) (hl : tab.lookup x = some (n, F)) : dHeld i tab fs δ R = dFn n F fs δ R := by
  unfold dHeld
  rw [h]
  simp only [hl]
theorem oNe_eq {i j : Int} (h : i = j) : oNe (.int i) (.int j) = some (.bl false) := by
  rw [oNe_int, decide_eq_true h]
  rfl
theorem s_parM2R {δ : SEnv} {R R1 R2 : Option Rw} {i j : Nat} {fa fb : SEnv → M D} {x y : D} (ha : fa δ R = .ok x R1) (hb : fb δ R1 = .ok y R2) : sParM [i, j] (mDat fa (mDat fb mNil)) δ R = .nx ((δ.set i (.dat x)).set j (.dat y)) R2 := by
  unfold sParM sBind
  have e : mDat fa (mDat fb mNil) δ R = .ok [.dat x, .dat y] R2 := m_dat ha (m_dat hb rfl)
  rw [e]
  rfl
/-! ### what is no web -/
def badW : List D := [.non, .int 3, .tup [.int 1, .tup []], .str ("web" : Str), .lst [], .dic]
theorem badW_ok {d : D} (h : d ∈ badW) : pl d = true ∧ ∃ s, fRepr [.tup [.str ("web" : Str), d]] = some (.str s) ∧ PyData.strOk s = true := by
  have hw : Nice 60 0 (.str ("web" : Str)) := .word (by decide +kernel) (by decide +kernel) (by decide +kernel)
  unfold badW at h
  simp only [List.mem_cons, List.not_mem_nil, or_false] at h
  rcases h with rfl | rfl | rfl | rfl | rfl | rfl
  · exact ⟨rfl, repr_nice (Nices.cons hw (Nices.cons .non .nil)) (by omega) (by omega)⟩
  · exact ⟨rfl, repr_nice (Nices.cons hw (Nices.cons (Nice.nat (k := 3) (by omega)) .nil)) (by omega) (by omega)⟩
  · exact ⟨rfl, repr_nice (Nices.cons hw (Nices.cons (Nices.cons (Nice.nat (k := 1) (by omega)) (Nices.cons Nices.nil.tup .nil)).tup .nil)) (by omega) (by omega)⟩
  · exact ⟨rfl, repr_nice (Nices.cons hw (Nices.cons hw .nil)) (by omega) (by omega)⟩
  · exact ⟨rfl, repr_nice (Nices.cons hw (Nices.cons Nices.nil.lst .nil)) (by omega) (by omega)⟩
  · refine ⟨rfl, (toPy (.tup [.str ("web" : Str), .dic])).shown, if_pos ⟨by decide +kernel, by decide +kernel, by decide +kernel, by decide +kernel, fun _ => by decide +kernel⟩, by decide +kernel⟩
theorem e_refCmpS {o : D → D → Option D} {ws : List (String × Str)} {fb fd : SEnv → M D} {δ : SEnv} {R R1 : Option Rw} {c : String} {w : Str} {d : D} {b : Bool} (ho : ∀ x, PyData.strOk x = true → o (.str x) (.str x) = some (.bl b)) (h : fb δ R = .exn c d R1) (hw : ws.lookup c = some w) (hd : fd δ R1 = .ok d R1)
    (hs : ∃ s, fRepr [.tup [.str w, d]] = some (.str s) ∧ PyData.strOk s = true) : refCmp o ws fb w fd δ R = .ok (.bl b) R1 := by
  obtain ⟨s, e, os⟩ := hs
  exact e_d2 (e_call (e_cons (e_ref h hw) e_nil) e) (e_call (e_cons (e_tup (e_cons rfl (e_cons hd e_nil)) (by show 2 ≤ sizeLine; decide)) e_nil) e) (ho s os)
theorem bad_shown {d : D} {w : Str} (hb : Bad d) (hx : (w.cps.toList.all fun c => decide (c < 16 ^ 8)) = true) (hl : w.cps.size ≤ 60) (hr : PyData.strOk (reprText w) = true) : ∃ s, fRepr [.tup [.str w, d]] = some (.str s) ∧ PyData.strOk s = true := by
  obtain ⟨wt, dp, h1, h2, ni⟩ := hb.ni
  exact repr_nice (Nices.cons (Nice.word hx hl hr) (Nices.cons ni .nil)) (by omega) (by omega)
/-- what is no string of a standing -/
def lackW (m : Nat) : List D := [.int (m : Int), .non, .int (-1), .str ("1" : Str), .tup [.int 0]]
theorem word1 : Nice 60 0 (.str ("1" : Str)) := .word (by decide +kernel) (by decide +kernel) (by decide +kernel)
theorem lackW_bad {m : Nat} {st : List Nat} (m12 : m ≤ 12) (h : StOk m st) : ∀ d ∈ lackW m, Bad d ∧ inSt st d = false := by
  intro d hd
  unfold lackW at hd
  simp only [List.mem_cons, List.not_mem_nil, or_false] at hd
  rcases hd with rfl | rfl | rfl | rfl | rfl
  · refine ⟨bad_int (k := m) (by omega), ?_⟩
    unfold inSt
    rw [List.any_eq_false]
    intro j hj
    have := h.lt j hj
    simp
    omega
  · exact ⟨bad_non, rfl⟩
  · refine ⟨bad_neg1, ?_⟩
    unfold inSt
    rw [List.any_eq_false]
    intro j _
    simp
  · exact ⟨.flat rfl (fun _ e => nomatch e) ⟨60, 0, by omega, by omega, word1⟩, rfl⟩
  · exact ⟨bad_tup1 rfl (Nice.nat (k := 0) (by omega)) (by omega) (by omega), rfl⟩
/-! ### the law's loops -/
abbrev Lw (q : Addr) (n : Int) (ss : List (Int × Int)) (a7 a8 a9 a10 a11 a12 a13 a14 a15 a16 a17 a18 a19 : SD) : SEnv :=
  [.none, .dat (.row q), .dat (.int n), .dat (.lst (ss.map pairD)), .dat (.web n ss), .dat (.int (ss.length : Int)), .dat (.lst ((tabW ss (2 ^ ss.length)).map D.int)), a7, a8, a9, a10, a11, a12, a13, a14, a15, a16, a17, a18, a19]
section
variable {Γ : Ctx} {q : Addr} {n : Int} {ss : List (Int × Int)} {st : List Nat} {a7 a8 a9 a12 a13 a14 a15 a16 a17 a18 a19 : SD} {R : Option Rw}
theorem best_take {st : List Nat} (h : st ≠ []) : (bestL ss st).take 1 = [top1 ss st] := by
  have hn := bestL_ne (ss := ss) h
  unfold top1
  cases e : bestL ss st with
  | nil => exact absurd e hn
  | cons a r => rfl
end
end DL

set_option Elab.async false
set_option linter.all false
set_option maxRecDepth 100000
namespace DL
open PySem PySem.Spec L2
/-! ### sums, plainly: a part is (2, size), a chain, or (4, size), a ring -/
def opn (g s r : Int) : Int := if s < (if g = 2 then 3 else 4) then s + r else (if s - 2 * g - r > s + r then s - 2 * g - r else s + r)
def mx0 (l : List Int) : Int := if l = [] then 0 else mxI l
def wqF : Nat → List (Int × Int) → Int
  | 0, _ => 0
  | n + 1, ps => mx0 (ps.map fun p => - opn p.1 p.2 (wqF n (ps.erase p)))
def wq (ps : List (Int × Int)) : Int := wqF ps.length ps
theorem mxI_congr {a b : List Int} (ha : a ≠ []) (h : ∀ v, v ∈ a ↔ v ∈ b) : mxI a = mxI b := by
  have hb : b ≠ [] := fun e => by
    obtain ⟨x, hx⟩ := List.exists_mem_of_ne_nil _ ha
    have := (h x).mp hx
    rw [e] at this
    exact absurd this (by simp)
  exact Int.le_antisymm (mxI_le ((h _).mp (mxI_mem ha))) (mxI_le ((h _).mpr (mxI_mem hb)))
theorem mx0_congr {a b : List Int} (h : ∀ v, v ∈ a ↔ v ∈ b) : mx0 a = mx0 b := by
  unfold mx0
  by_cases ha : a = []
  · have hb : b = [] := by
      cases b with
      | nil => rfl
      | cons x r => exact absurd ((h x).mpr List.mem_cons_self) (by rw [ha]; simp)
    rw [ha, hb]
  · have hb : b ≠ [] := fun e => by
      obtain ⟨x, hx⟩ := List.exists_mem_of_ne_nil _ ha
      have := (h x).mp hx
      rw [e] at this
      exact absurd this (by simp)
    rw [if_neg ha, if_neg hb]
    exact mxI_congr ha h
theorem wqF_perm : ∀ (n : Nat) (ps qs : List (Int × Int)), ps.Perm qs → wqF n ps = wqF n qs
  | 0, _, _, _ => rfl
  | n + 1, ps, qs, h => by
    rw [wqF, wqF]
    apply mx0_congr
    intro v
    simp only [List.mem_map]
    constructor
    · rintro ⟨p, hp, rfl⟩
      exact ⟨p, h.mem_iff.mp hp, by rw [wqF_perm n _ _ (h.erase p)]⟩
    · rintro ⟨p, hp, rfl⟩
      exact ⟨p, h.mem_iff.mpr hp, by rw [wqF_perm n _ _ (h.erase p)]⟩
theorem wqF_fuel : ∀ (n m : Nat) (ps : List (Int × Int)), ps.length ≤ n → ps.length ≤ m → wqF n ps = wqF m ps
  | 0, 0, _, _, _ => rfl
  | 0, m + 1, ps, h, _ => by
    have : ps = [] := List.length_eq_zero_iff.mp (by omega)
    subst this
    rfl
  | n + 1, 0, ps, _, h => by
    have : ps = [] := List.length_eq_zero_iff.mp (by omega)
    subst this
    rfl
  | n + 1, m + 1, ps, h1, h2 => by
    rw [wqF, wqF]
    congr 1
    apply List.map_congr_left
    intro p hp
    have := List.length_erase_of_mem hp
    rw [wqF_fuel n m _ (by omega) (by omega)]
theorem wq_perm {ps qs : List (Int × Int)} (h : ps.Perm qs) : wq ps = wq qs := by
  unfold wq
  rw [h.length_eq]
  exact wqF_perm _ _ _ h
theorem wq_nil : wq [] = 0 := rfl
theorem wq_eq0 (ps : List (Int × Int)) : wq ps = mx0 (ps.map fun p => - opn p.1 p.2 (wq (ps.erase p))) := by
  cases ps with
  | nil => rfl
  | cons a r =>
    show wqF (r.length + 1) _ = _
    rw [wqF]
    congr 1
    apply List.map_congr_left
    intro p hp
    have := List.length_erase_of_mem hp
    unfold wq
    rw [wqF_fuel r.length ((a :: r).erase p).length _ (by rw [this]; simp) (Nat.le_refl _)]
theorem wq_eq {ps : List (Int × Int)} (h : ps ≠ []) : wq ps = mxI (ps.map fun p => - opn p.1 p.2 (wq (ps.erase p))) := by
  rw [wq_eq0]
  unfold mx0
  rw [if_neg (by simpa using h)]
def sumP (ch rs : List Int) : List (Int × Int) := ch.map (fun s => ((2 : Int), s)) ++ rs.map fun s => ((4 : Int), s)
theorem erase_map (g s : Int) : ∀ ch : List Int, (ch.map fun s => (g, s)).erase (g, s) = (ch.erase s).map fun s => (g, s)
  | [] => rfl
  | a :: r => by
    rw [List.map_cons, List.erase_cons, List.erase_cons]
    by_cases h : a = s
    · subst h
      simp
    · rw [if_neg (by simpa using h), if_neg (by simpa using h), erase_map g s r, List.map_cons]
theorem sumP_ch {ch rs : List Int} {s : Int} (h : s ∈ ch) : (sumP ch rs).erase (2, s) = sumP (ch.erase s) rs := by
  unfold sumP
  rw [List.erase_append, if_pos (List.mem_map.mpr ⟨s, h, rfl⟩), erase_map]
theorem sumP_rs {ch rs : List Int} {s : Int} (h : s ∈ rs) : (sumP ch rs).erase (4, s) = sumP ch (rs.erase s) := by
  unfold sumP
  rw [List.erase_append, if_neg (fun z => by
    obtain ⟨t, _, e⟩ := List.mem_map.mp z
    simp at e), erase_map]
def wS (ch rs : List Int) : Int := wq (sumP ch rs)
/-- what is opened first, and what it is worth -/
def vP (ps : List (Int × Int)) (p : Int × Int) : Int := - opn p.1 p.2 (wq (ps.erase p))
/-! ### one of some sizes is taken out -/
def intD (ns : List Int) : List D := ns.map D.int
theorem nums_intD : ∀ ns : List Int, nums (intD ns) = some ns
  | [] => rfl
  | a :: r => by
    show (nums (intD r)).map _ = _
    rw [nums_intD r]
    rfl
theorem intsB_int {ns : List Int} (h : ns ≠ []) : intsB (intD ns) = true := by
  unfold intsB intD
  cases ns with
  | nil => exact absurd rfl h
  | cons a r =>
    simp only [List.map_cons, List.isEmpty_cons, Bool.not_false, Bool.true_and, List.all_eq_true]
    intro d hd
    rcases List.mem_cons.mp hd with e | hd
    · subst e; rfl
    · obtain ⟨i, _, rfl⟩ := List.mem_map.mp hd
      rfl
theorem cutToN (ds : List D) (t : Nat) : cutD ds none (some (t : Int)) = ds.take t := by
  unfold cutD
  rw [HT.sIx_none, HT.sIx_nat, List.drop_zero, Nat.sub_zero]
  by_cases h : t ≤ ds.length
  · rw [Nat.min_eq_left h]
  · rw [Nat.min_eq_right (by omega), List.take_of_length_le (by omega), List.take_of_length_le (by omega)]
theorem f_without {ns : List Int} {s : Int} {R : Option Rw} (h : s ∈ ns) (hl : ns.length ≤ 1000) : F_without [.tup (intD ns), .int s] R = .ok (.tup (intD (ns.erase s))) R := by
  have hne : ns ≠ [] := List.ne_nil_of_mem h
  unfold F_without sem_without
  have st0 : startD N_without [.tup (intD ns), .int s] = [.dat (.tup (intD ns)), .dat (.int s), .none] := rfl
  have e1 : sSet 2 (dTupIx (dVar 0) (dVar 1)) [.dat (.tup (intD ns)), .dat (.int s), .none] R = .nx [.dat (.tup (intD ns)), .dat (.int s), .dat (.int ((ns.idxOf s : Nat) : Int))] R := by
    refine s_set (d := .int ((ns.idxOf s : Nat) : Int)) ?_
    unfold dTupIx
    rw [bind_ok (e_var (i := 0) rfl)]
    have e2 : tupI (.tup (intD ns)) = some ns := by
      show (if intsB (intD ns) = true then nums (intD ns) else none) = _
      rw [if_pos (intsB_int hne), nums_intD]
    rw [e2]
    refine (bind_ok (a := ns) (R1 := R) rfl).trans ?_
    refine (bind_ok (e_var (i := 1) rfl)).trans ?_
    show M.lift (if s ∈ ns then some (D.int (ns.idxOf s : Nat)) else none) R = _
    rw [if_pos h]
    rfl
  rw [st0, s_seq e1]
  have c1 : dCut (dVar 0) pNone (pSome (dVar 2)) [.dat (.tup (intD ns)), .dat (.int s), .dat (.int ((ns.idxOf s : Nat) : Int))] R = .ok (.tup (intD (ns.take (ns.idxOf s)))) R :=
    e_cut (e_var rfl) e_none (e_some (e_var rfl)) (by
      show some (D.tup _) = _
      rw [cutToN]
      unfold intD
      rw [List.map_take])
  have c2 : dCut (dVar 0) (pSome (d2 oPlus (dVar 2) (fun _ => pure (.int 1)))) pNone [.dat (.tup (intD ns)), .dat (.int s), .dat (.int ((ns.idxOf s : Nat) : Int))] R = .ok (.tup (intD (ns.drop (ns.idxOf s + 1)))) R :=
    e_cut (e_var rfl) (e_some (e_d2 (f := oPlus) (R1 := R) (R2 := R) (e_var rfl) rfl (oPlus_int _ _))) e_none (by
      show some (D.tup _) = _
      rw [show ((ns.idxOf s : Nat) : Int) + 1 = ((ns.idxOf s + 1 : Nat) : Int) by omega, cutFrom]
      unfold intD
      rw [List.map_drop])
  rw [s_ret (e_d2 c1 c2 (d := .tup (intD (ns.erase s))) (by
    show (if _ then _ else _) = _
    have hz : 2000 ≤ sizeLine := by decide
    rw [if_pos (by unfold intD; rw [List.length_map, List.length_map, List.length_take, List.length_drop]; omega)]
    congr 2
    unfold intD
    rw [← List.map_append, ← List.eraseIdx_eq_take_drop_succ, ← List.erase_eq_eraseIdx_of_idxOf rfl]))]
  rfl
/-! ### an opening -/
def wordOf (g : Int) : Str := if g = 2 then ("chain" : Str) else ("ring" : Str)
theorem eq_chain : oEq (.str ("chain" : Str)) (.str ("chain" : Str)) = some (.bl true) := by kernel_rfl
theorem ne_ring : oEq (.str ("ring" : Str)) (.str ("chain" : Str)) = some (.bl false) := by kernel_rfl
theorem eq_word {g : Int} (h : g = 2 ∨ g = 4) : oEq (.str (wordOf g)) (.str ("chain" : Str)) = some (.bl (decide (g = 2))) := by
  rcases h with rfl | rfl
  · exact eq_chain
  · exact ne_ring
theorem f_opened {g s r : Int} {R : Option Rw} (h : g = 2 ∨ g = 4) : F_opened [.str (wordOf g), .int s, .int r] R = .ok (.int (opn g s r)) R := by
  unfold F_opened sem_opened
  have st0 : startD N_opened [.str (wordOf g), .int s, .int r] = [.dat (.str (wordOf g)), .dat (.int s), .dat (.int r), .none] := rfl
  have gen : ∀ (δ : SEnv) (a b : Int), δ[0]? = some (.dat (.str (wordOf g))) → dIf (dB (d2 oEq (dVar 0) (fun _ => pure (.str ("chain" : Str))))) (fun _ => pure (.int a)) (fun _ => pure (.int b)) δ R = .ok (.int (if g = 2 then a else b)) R := fun δ a b hδ => by
    have t := e_dB (e_d2 (f := oEq) (fb := fun _ => pure (.str ("chain" : Str))) (R2 := R) (e_var (R := R) hδ) rfl (eq_word h))
    by_cases hg : g = 2
    · rw [decide_eq_true hg] at t
      rw [e_ifT t, if_pos hg]
      rfl
    · rw [decide_eq_false hg] at t
      rw [e_ifF t, if_neg hg]
      rfl
  have g0 : (if g = 2 then (2 : Int) else 4) = g := by rcases h with rfl | rfl <;> rfl
  have e1 : sSet 3 (dIf (dB (d2 oEq (dVar 0) (fun _ => pure (.str ("chain" : Str))))) (fun _ => pure (.int 2)) (fun _ => pure (.int 4))) [.dat (.str (wordOf g)), .dat (.int s), .dat (.int r), .none] R = .nx [.dat (.str (wordOf g)), .dat (.int s), .dat (.int r), .dat (.int g)] R :=
    s_set ((gen _ 2 4 rfl).trans (by rw [g0]))
  rw [st0, s_seq e1]
  have t := e_dB (e_d2 (f := oLe) (e_var (i := 1) (δ := [.dat (.str (wordOf g)), .dat (.int s), .dat (.int r), .dat (.int g)]) (R := R) rfl) (gen _ 2 3 rfl) (oLe_int _ _))
  have hx : (if g = 2 then (3 : Int) else 4) = (if g = 2 then (2 : Int) else 3) + 1 := by rcases h with rfl | rfl <;> rfl
  unfold opn
  by_cases hs : s ≤ (if g = 2 then (2 : Int) else 3)
  · rw [decide_eq_true hs] at t
    rw [if_pos (by omega), s_seqR ((s_ifT t).trans (s_ret (e_d2 (e_var rfl) (e_var rfl) (oPlus_int _ _))))]
    rfl
  · rw [decide_eq_false hs] at t
    rw [if_neg (by omega), s_seq (f := sIf _ _ sNx) ((s_ifF t).trans (show sNx _ R = .nx _ R from rfl)), s_ret (e_d2 (e_d2 (e_var rfl) (e_var rfl) (oSub_int _ _)) (e_call (f := fAbs) (e_cons (e_d2 (e_var rfl) (e_var rfl) (oPlus_int _ _)) e_nil) rfl) (oPlus_int _ _))]
    show Out.ok (D.int (s - g + if r + g < 0 then -(r + g) else r + g)) R = _
    congr 2
    split <;> split <;> omega
end DL

set_option Elab.async false
set_option linter.all false
set_option maxRecDepth 100000
namespace DL
open PySem PySem.Spec L2
/-! ### the kinds as keys -/
def nkP (p : Int × Int) : NestedKey := .tup [.text (wordOf p.1), .num p.2]
def keyP (p : Int × Int) : D := .tup [.str (wordOf p.1), .int p.2]
theorem nkD_keyP (p : Int × Int) : nkD (keyP p) = some (nkP p) := by
  show nkD (.tup [.str (wordOf p.1), .int p.2]) = _
  simp [nkD, nkDs, nkP]
theorem keyOf_P (p : Int × Int) : keyOf true (keyP p) = some (nkP p) := by
  show ((nkD (keyP p)).bind fun k => if k.depth ≤ 8 then some k else none) = _
  rw [nkD_keyP, Option.bind_some, if_pos (by simp [nkP, NestedKey.depth, NestedKey.depthAll])]
def PtOk (p : Int × Int) : Prop := p.1 = 2 ∨ p.1 = 4
theorem word_ne : ("chain" : Str) ≠ ("ring" : Str) := fun e => by
  have h := ne_ring
  rw [← e, eq_chain] at h
  simp at h
theorem word_inj {g h : Int} (hg : g = 2 ∨ g = 4) (hh : h = 2 ∨ h = 4) (e : wordOf g = wordOf h) : g = h := by
  rcases hg with rfl | rfl <;> rcases hh with rfl | rfl
  · rfl
  · exact absurd e word_ne
  · exact absurd e.symm word_ne
  · rfl
theorem nkP_inj {p q : Int × Int} (hp : PtOk p) (hq : PtOk q) (e : nkP p = nkP q) : p = q := by
  unfold nkP at e
  simp only [NestedKey.tup.injEq, List.cons.injEq, NestedKey.text.injEq, NestedKey.num.injEq, and_true] at e
  exact Prod.ext (word_inj hp hq e.1) e.2
theorem has_P {p : Int × Int} (hp : PtOk p) : ∀ U : List (Int × Int), (∀ q ∈ U, PtOk q) → dHas (nkP p) (U.map keyP) = decide (p ∈ U)
  | [], _ => rfl
  | q :: U, h => by
    show (decide (nkD (keyP q) = some (nkP p)) || dHas (nkP p) (U.map keyP)) = _
    rw [nkD_keyP, has_P hp U fun x hx => h x (List.mem_cons_of_mem _ hx)]
    by_cases e : q = p
    · subst e
      simp
    · have e2 : ¬ (some (nkP q) = some (nkP p)) := fun z => e (nkP_inj (h q List.mem_cons_self) hp (Option.some.inj z))
      have e3 : ¬ p = q := fun z => e z.symm
      simp [e2, e3, List.mem_cons]
theorem setV_P {f : Int × Int → Int} {p : Int × Int} (hp : PtOk p) : ∀ U : List (Int × Int), (∀ q ∈ U, PtOk q) → dSetV (nkP p) (.int (f p)) (U.map keyP) (U.map fun q => .int (f q)) = U.map fun q => .int (f q)
  | [], _ => rfl
  | q :: U, h => by
    show (if nkD (keyP q) = some (nkP p) then D.int (f p) else .int (f q)) :: dSetV (nkP p) (.int (f p)) (U.map keyP) (U.map fun q => .int (f q)) = _
    rw [nkD_keyP, setV_P hp U fun x hx => h x (List.mem_cons_of_mem _ hx), List.map_cons]
    congr 1
    by_cases e : q = p
    · subst e
      simp
    · rw [if_neg fun z => e (nkP_inj (h q List.mem_cons_self) hp (Option.some.inj z))]
/-! ### each kind once, as they come -/
def addU (U : List (Int × Int)) (p : Int × Int) : List (Int × Int) := if p ∈ U then U else U ++ [p]
def uqP (l : List (Int × Int)) : List (Int × Int) := l.foldl addU []
theorem addU_mem {U : List (Int × Int)} {p q : Int × Int} : q ∈ addU U p ↔ q ∈ U ∨ q = p := by
  unfold addU
  split
  · rename_i h
    exact ⟨.inl, fun z => z.elim id fun e => e ▸ h⟩
  · simp
theorem addU_nodup {U : List (Int × Int)} {p : Int × Int} (h : U.Nodup) : (addU U p).Nodup := by
  unfold addU
  split
  · exact h
  · rename_i hn
    rw [List.nodup_append]
    exact ⟨h, by simp, fun a ha b hb => by
      rcases List.mem_singleton.mp hb with rfl
      exact fun e => hn (e ▸ ha)⟩
theorem addU_len {U : List (Int × Int)} {p : Int × Int} : (addU U p).length ≤ U.length + 1 := by
  unfold addU
  split
  · omega
  · simp
theorem foldU : ∀ (l U : List (Int × Int)), U.Nodup → (l.foldl addU U).Nodup ∧ (∀ q, q ∈ l.foldl addU U ↔ q ∈ U ∨ q ∈ l) ∧ (l.foldl addU U).length ≤ U.length + l.length
  | [], U, h => ⟨h, fun q => by simp, by simp⟩
  | p :: l, U, h => by
    obtain ⟨h1, h2, h3⟩ := foldU l (addU U p) (addU_nodup h)
    have := addU_len (U := U) (p := p)
    refine ⟨h1, fun q => ?_, ?_⟩
    · rw [List.foldl_cons, h2 q, addU_mem, List.mem_cons, or_assoc]
    · rw [List.foldl_cons, List.length_cons]
      omega
theorem uqP_nodup (l : List (Int × Int)) : (uqP l).Nodup := (foldU l [] List.nodup_nil).1
theorem uqP_mem {l : List (Int × Int)} {q : Int × Int} : q ∈ uqP l ↔ q ∈ l := ((foldU l [] List.nodup_nil).2.1 q).trans (by simp)
theorem uqP_len (l : List (Int × Int)) : (uqP l).length ≤ l.length := by unfold uqP; simpa using (foldU l [] List.nodup_nil).2.2
abbrev dctU (f : Int × Int → Int) (U : List (Int × Int)) : SD := .ot (.dct true (U.map keyP) (U.map fun p => .int (f p)))
theorem s_dputP {i : Nat} {fk fe : SEnv → M D} {δ : SEnv} {R R1 R2 : Option Rw} {f : Int × Int → Int} {U : List (Int × Int)} {p : Int × Int} (ho : δ[i]? = some (dctU f U)) (he : fe δ R = .ok (.int (f p)) R1) (hk : fk δ R1 = .ok (keyP p) R2) (hp : PtOk p) (hU : ∀ q ∈ U, PtOk q) (hl : U.length < 1000) :
    sDPut i fk fe δ R = .nx (δ.set i (dctU f (addU U p))) R2 := by
  have hz : 1000 ≤ sizeLine := by decide
  unfold sDPut
  rw [ho]
  simp only
  unfold sBind
  rw [he]
  simp only
  rw [hk]
  simp only
  rw [keyOf_P]
  simp only
  rw [if_pos (by rw [List.length_map]; omega)]
  unfold dPutK dPutV
  rw [has_P hp U hU]
  unfold addU
  by_cases h : p ∈ U
  · rw [if_pos (decide_eq_true h), if_pos (decide_eq_true h), if_pos h, setV_P hp U hU]
  · rw [if_neg (by simp [h]), if_neg (by simp [h]), if_neg h]
    show _ = SOut.nx (δ.set i (SD.ot (OT.dct true ((U ++ [p]).map keyP) ((U ++ [p]).map fun q => D.int (f q))))) R2
    rw [List.map_append, List.map_append]
    rfl
/-! ### what each kind is worth if it is opened first -/
theorem sumP_ok {ch rs : List Int} : ∀ p ∈ sumP ch rs, PtOk p := fun p hp => by
  rcases List.mem_append.mp hp with h | h
  · obtain ⟨s, _, rfl⟩ := List.mem_map.mp h
    exact .inl rfl
  · obtain ⟨s, _, rfl⟩ := List.mem_map.mp h
    exact .inr rfl
theorem sumP_len (ch rs : List Int) : (sumP ch rs).length = ch.length + rs.length := by
  unfold sumP
  rw [List.length_append, List.length_map, List.length_map]
abbrev totD (ch rs : List Int) : D := .tup [.tup (intD ch), .tup (intD rs)]
section
variable {FF : List D → M D} {ch rs : List Int} {b : Addr} {R : Option Rw}
abbrev VoS (ch rs : List Int) (b : Addr) (a4 a5 : SD) : SEnv := [.dat (totD ch rs), .dat (.row b), .dat (.tup (intD ch)), .dat (.tup (intD rs)), a4, a5]
theorem vo_ch {s : Int} {a5 : SD} (h : s ∈ ch) (hl : ch.length ≤ 1000) {a4 : SD} (ih : FF [totD (ch.erase s) rs, .row b] R = .ok (.int (wS (ch.erase s) rs)) R) :
    d1 oNeg (dFn 3 F_opened (lCons (fun _ => pure (.str ("chain" : Str))) (lCons (dVar 5) (lCons (dFn 2 FF (lCons (dTup (lCons (dFn 2 F_without (lCons (dVar 2) (lCons (dVar 5) lNil))) (lCons (dVar 3) lNil))) (lCons (dVar 1) lNil))) lNil)))) (VoS ch rs b a4 (.dat (.int s))) R = .ok (.int (vP (sumP ch rs) (2, s))) R := by
  refine e_d1 (q3 (a := .str (wordOf 2)) (R1 := R) rfl (e_var rfl) (q2 (e_tup (e_cons (q2 (e_var rfl) (e_var rfl) (f_without h hl)) (e_cons (e_var rfl) e_nil)) (show 2 ≤ sizeLine by decide)) (e_var rfl) ih) (f_opened (.inl rfl))) ?_
  rw [oNeg_int]
  unfold vP
  rw [sumP_ch h]
  rfl
theorem vo_rs {s : Int} {a5 : SD} (h : s ∈ rs) (hl : rs.length ≤ 1000) {a4 : SD} (ih : FF [totD ch (rs.erase s), .row b] R = .ok (.int (wS ch (rs.erase s))) R) :
    d1 oNeg (dFn 3 F_opened (lCons (fun _ => pure (.str ("ring" : Str))) (lCons (dVar 5) (lCons (dFn 2 FF (lCons (dTup (lCons (dVar 2) (lCons (dFn 2 F_without (lCons (dVar 3) (lCons (dVar 5) lNil))) lNil))) (lCons (dVar 1) lNil))) lNil)))) (VoS ch rs b a4 (.dat (.int s))) R = .ok (.int (vP (sumP ch rs) (4, s))) R := by
  refine e_d1 (q3 (a := .str (wordOf 4)) (R1 := R) rfl (e_var rfl) (q2 (e_tup (e_cons (e_var rfl) (e_cons (q2 (e_var rfl) (e_var rfl) (f_without h hl)) e_nil)) (show 2 ≤ sizeLine by decide)) (e_var rfl) ih) (f_opened (.inr rfl))) ?_
  rw [oNeg_int]
  unfold vP
  rw [sumP_rs h]
  rfl
theorem vo_loop {body : SM} {f : Int × Int → Int} {g : Int} (hg : g = 2 ∨ g = 4) : ∀ (l : List Int) (U : List (Int × Int)) (a5 : SD), (∀ q ∈ U, PtOk q) → U.length + l.length ≤ 1000 →
    (∀ s ∈ l, ∀ (V : List (Int × Int)), (∀ q ∈ V, PtOk q) → V.length < 1000 → body (VoS ch rs b (dctU f V) (.dat (.int s))) R = .nx (VoS ch rs b (dctU f (addU V (g, s))) (.dat (.int s))) R) →
    ∃ c5, sLoop (.nm 5) body (intD l) (VoS ch rs b (dctU f U) a5) R = .nx (VoS ch rs b (dctU f ((l.map fun s => (g, s)).foldl addU U)) c5) R
  | [], U, a5, _, _, _ => ⟨a5, rfl⟩
  | s :: l, U, a5, h, hl, hb => by
    rw [List.length_cons] at hl
    have e := hb s List.mem_cons_self U h (by omega)
    have lu := addU_len (U := U) (p := (g, s))
    obtain ⟨c5, ih⟩ := vo_loop (body := body) (f := f) hg l (addU U (g, s)) (.dat (.int s)) (fun q hq => by
      rcases addU_mem.mp hq with z | rfl
      · exact h q z
      · exact hg) (by omega) fun t ht => hb t (List.mem_cons_of_mem _ ht)
    exact ⟨c5, (loop_cons (d := .int s) (ds := intD l) rfl e).trans ih⟩
theorem f_values' (hl : ch.length + rs.length ≤ 500) (ih : ∀ s ∈ ch, FF [totD (ch.erase s) rs, .row b] R = .ok (.int (wS (ch.erase s) rs)) R) (ih2 : ∀ s ∈ rs, FF [totD ch (rs.erase s), .row b] R = .ok (.int (wS ch (rs.erase s))) R) :
    FC_values_of FF [totD ch rs, .row b] R = .ok (.dct true ((uqP (sumP ch rs)).map keyP) ((uqP (sumP ch rs)).map fun p => .int (vP (sumP ch rs) p))) R := by
  unfold FC_values_of sem_values_of
  have st0 : startD N_values_of [totD ch rs, .row b] = [.dat (totD ch rs), .dat (.row b), .none, .none, .none, .none] := rfl
  have e1 : sAsg (.tup [(.nm 2), (.nm 3)]) (dVar 0) [.dat (totD ch rs), .dat (.row b), .none, .none, .none, .none] R = .nx (VoS ch rs b .none .none) R := s_asg (e_var rfl) rfl
  have e2 : sOt 4 (fun _ => pure (.dct true [] [])) (VoS ch rs b .none .none) R = .nx (VoS ch rs b (dctU (vP (sumP ch rs)) []) .none) R := rfl
  rw [st0, s_seq e1, s_seq e2]
  obtain ⟨c5, e3⟩ := vo_loop (ch := ch) (rs := rs) (b := b) (R := R) (f := vP (sumP ch rs)) (g := 2) (.inl rfl) ch [] .none (by simp) (by simp; omega) (body := sDPut 4 (dTup (lCons (fun _ => pure (.str ("chain" : Str))) (lCons (dVar 5) lNil))) (d1 oNeg (dFn 3 F_opened (lCons (fun _ => pure (.str ("chain" : Str))) (lCons (dVar 5) (lCons (dFn 2 FF (lCons (dTup (lCons (dFn 2 F_without (lCons (dVar 2) (lCons (dVar 5) lNil))) (lCons (dVar 3) lNil))) (lCons (dVar 1) lNil))) lNil))))))
    fun s hs V hV hlV => by
      refine (s_dputP (p := (2, s)) rfl (vo_ch (a5 := .none) hs (by omega) (ih s hs)) ?_ (.inl rfl) hV hlV).trans rfl
      exact e_tup (ds := [.str (wordOf 2), .int s]) (e_cons (R1 := R) rfl (e_cons (e_var rfl) e_nil)) (show 2 ≤ sizeLine by decide)
  have hU : ∀ q ∈ (ch.map fun s => ((2 : Int), s)).foldl addU [], PtOk q := fun q hq => by
    rcases ((foldU _ [] List.nodup_nil).2.1 q).mp hq with z | z
    · cases z
    · obtain ⟨s, _, rfl⟩ := List.mem_map.mp z
      exact .inl rfl
  have hlU := (foldU (ch.map fun s => ((2 : Int), s)) [] List.nodup_nil).2.2
  rw [List.length_map, List.length_nil] at hlU
  obtain ⟨d5, e4⟩ := vo_loop (ch := ch) (rs := rs) (b := b) (R := R) (f := vP (sumP ch rs)) (g := 4) (.inr rfl) rs _ c5 hU (by omega) (body := sDPut 4 (dTup (lCons (fun _ => pure (.str ("ring" : Str))) (lCons (dVar 5) lNil))) (d1 oNeg (dFn 3 F_opened (lCons (fun _ => pure (.str ("ring" : Str))) (lCons (dVar 5) (lCons (dFn 2 FF (lCons (dTup (lCons (dVar 2) (lCons (dFn 2 F_without (lCons (dVar 3) (lCons (dVar 5) lNil))) lNil))) (lCons (dVar 1) lNil))) lNil))))))
    fun s hs V hV hlV => by
      refine (s_dputP (p := (4, s)) rfl (vo_rs (a5 := .none) hs (by omega) (ih2 s hs)) ?_ (.inr rfl) hV hlV).trans rfl
      exact e_tup (ds := [.str (wordOf 4), .int s]) (e_cons (R1 := R) rfl (e_cons (e_var rfl) e_nil)) (show 2 ≤ sizeLine by decide)
  rw [← List.foldl_append] at e4
  rw [s_seq ((s_for (e_seq (e_var rfl) rfl)).trans e3), s_seq ((s_for (e_seq (e_var rfl) rfl)).trans e4)]
  rfl
end
end DL

set_option Elab.async false
set_option linter.all false
set_option maxRecDepth 100000
set_option maxHeartbeats 0
namespace DL
open PySem PySem.Spec L2
/-! ### control, by going through all small sums -/
def exP (ch rs : List Int) : Int := if ch = [] then (if rs = [] then 0 else 8) else if rs ≠ [] ∧ ch.getLastD 0 = 3 then 6 else 4
def cvP (ch rs : List Int) : Int := (ch.map fun s => s - 4).sum + (rs.map fun s => s - 8).sum + exP ch rs
def codeC (l : List Int) : Nat := l.foldl (fun k x => k * 16 + x.toNat) 0
def lowT : List (Nat × Int) := [(0, 0), (68, 0), (772, -1), (836, -3), (838, -1), (840, -1), (870, -3), (1028, 0), (1092, -4), (1094, -2), (1096, 0), (1126, -4), (1284, -1), (1348, -3), (1350, -1), (1352, -1), (1382, -3), (1604, -2), (1606, 0), (1860, -1), (1862, -1), (2116, 0), (2372, -1), (13060, -2), (13124, -2), (13126, -2), (13128, 0), (13158, -2), (13316, -1), (13318, -1), (13380, -3), (13382, -1), (13384, -1), (13386, -1), (13414, -3), (13416, -1), (13572, 0), (13636, -2), (13638, -2), (13640, 0), (13670, -2), (13828, -1), (13892, -1), (13894, -1), (13896, -1), (13926, -1), (14148, -2), (14150, 0), (14404, -1), (14406, -1), (14660, 0), (14916, -1), (17412, 0), (17476, -4), (17478, -2), (17480, 0), (17510, -4), (17668, -1), (17732, -3), (17734, -1), (17736, -1), (17766, -3), (17988, -2), (17990, 0), (18244, -1), (18246, -1), (18500, 0), (18756, -1), (21828, -2), (21830, 0), (22084, -1), (22086, -1), (22340, 0), (22596, -1), (26180, 0), (26436, -1), (209664, -1), (209668, -1), (209670, -1), (209732, -1), (209734, -1), (209736, -1), (209738, -1), (209766, -1), (209768, -1), (209924, -2), (209926, -2), (209988, -2), (209990, -2), (209992, -2), (209994, 0), (210022, -2), (210024, -2), (210180, -1), (210182, -1), (210244, -1), (210246, -1), (210248, -1), (210250, -1), (210278, -1), (210280, -1), (210436, 0), (210500, -2), (210502, -2), (210504, 0), (210534, -2), (210692, -1), (210756, -1), (210758, -1), (210760, -1), (210790, -1), (211012, -2), (211014, 0), (211268, -1), (211270, -1), (211524, 0), (211780, -1), (214020, -1), (214022, -1), (214084, -3), (214086, -1), (214088, -1), (214090, -1), (214118, -3), (214120, -1), (214276, 0), (214340, -2), (214342, -2), (214344, 0), (214374, -2), (214532, -1), (214596, -1), (214598, -1), (214600, -1), (214630, -1), (214852, -2), (214854, 0), (215108, -1), (215110, -1), (215364, 0), (215620, -1), (218372, -1), (218436, -1), (218438, -1), (218440, -1), (218470, -1), (218692, -2), (218694, 0), (218948, -1), (218950, -1), (219204, 0), (219460, -1), (222788, -1), (222790, -1), (223044, 0), (223300, -1), (227140, -1), (279556, 0), (279620, -4), (279622, -2), (279624, 0), (279654, -4), (279812, -1), (279876, -3), (279878, -1), (279880, -1), (279910, -3), (280132, -2), (280134, 0), (280388, -1), (280390, -1), (280644, 0), (280900, -1), (283972, -2), (283974, 0), (284228, -1), (284230, -1), (284484, 0), (284740, -1), (288324, 0), (288580, -1), (349508, -1), (349510, -1), (349764, 0), (350020, -1), (353860, -1)]
def lkT (k : Nat) : List (Nat × Int) → Int
  | [] => 0
  | p :: r => if Nat.beq p.1 k = true then p.2 else lkT k r
def gT (ch rs : List Int) : Int := if 2 ≤ cvP ch rs then - cvP ch rs else lkT (codeC ch * 256 + codeC rs) lowT
def chkT (ch rs : List Int) : Bool := decide (gT ch rs = mx0 (ch.map (fun s => - opn 2 s (gT (ch.erase s) rs)) ++ rs.map fun s => - opn 4 s (gT ch (rs.erase s))))
def allS (vals : List Int) : Nat → List (List Int)
  | 0 => [[]]
  | n + 1 => [] :: vals.flatMap fun v => (allS (vals.filter fun x => decide (v ≤ x)) n).map (v :: ·)
def chV : List Int := [3, 4, 5, 6, 7, 8, 9, 10, 11]
def rsV : List Int := [4, 6, 8, 10, 12]
theorem chk_all : ((allS chV 3).all fun ch => (allS rsV 2).all fun rs => chkT ch rs) = true := by decide +kernel
theorem allS_mem : ∀ (n : Nat) (vals l : List Int), l.Pairwise (· ≤ ·) → (∀ s ∈ l, s ∈ vals) → l.length ≤ n → l ∈ allS vals n
  | 0, vals, l, _, _, h => by
    have : l = [] := List.length_eq_zero_iff.mp (by omega)
    subst this
    exact List.mem_singleton.mpr rfl
  | n + 1, vals, [], _, _, _ => List.mem_cons_self
  | n + 1, vals, v :: r, h1, h2, h3 => by
    obtain ⟨p1, p2⟩ := List.pairwise_cons.mp h1
    rw [List.length_cons] at h3
    refine List.mem_cons_of_mem _ (List.mem_flatMap.mpr ⟨v, h2 v List.mem_cons_self, List.mem_map.mpr ⟨r, allS_mem n _ r p2 (fun s hs => ?_) (by omega), rfl⟩⟩)
    exact List.mem_filter.mpr ⟨h2 s (List.mem_cons_of_mem _ hs), decide_eq_true (p1 s hs)⟩
structure CtlOk (ch rs : List Int) : Prop where
  c1 : ch.Pairwise (· ≤ ·)
  r1 : rs.Pairwise (· ≤ ·)
  c2 : ∀ s ∈ ch, s ∈ chV
  r2 : ∀ s ∈ rs, s ∈ rsV
  c3 : ch.length ≤ 3
  r3 : rs.length ≤ 2
theorem CtlOk.chk {ch rs : List Int} (h : CtlOk ch rs) : gT ch rs = mx0 (ch.map (fun s => - opn 2 s (gT (ch.erase s) rs)) ++ rs.map fun s => - opn 4 s (gT ch (rs.erase s))) :=
  of_decide_eq_true (List.all_eq_true.mp (List.all_eq_true.mp chk_all ch (allS_mem 3 chV ch h.c1 h.c2 h.c3)) rs (allS_mem 2 rsV rs h.r1 h.r2 h.r3))
theorem gT_eq : ∀ (n : Nat) (ch rs : List Int), CtlOk ch rs → ch.length + rs.length = n → wS ch rs = gT ch rs := by
  intro n
  induction n with
  | zero =>
    intro ch rs h hn
    have e1 : ch = [] := List.length_eq_zero_iff.mp (by omega)
    have e2 : rs = [] := List.length_eq_zero_iff.mp (by omega)
    subst e1 e2
    rw [h.chk]
    rfl
  | succ n ih =>
    intro ch rs h hn
    rw [h.chk]
    unfold wS
    rw [wq_eq0]
    unfold sumP
    rw [List.map_append, List.map_map, List.map_map]
    congr 2
    · apply List.map_congr_left
      intro s hs
      have l := List.length_erase_of_mem hs
      have lp := List.length_pos_of_mem hs
      show - opn 2 s (wq ((sumP ch rs).erase (2, s))) = _
      rw [sumP_ch hs]
      have := ih (ch.erase s) rs ⟨h.c1.sublist List.erase_sublist, h.r1, fun x hx => h.c2 x (List.mem_of_mem_erase hx), h.r2, by have := h.c3; omega, h.r3⟩ (by omega)
      unfold wS at this
      rw [this]
    · apply List.map_congr_left
      intro s hs
      have l := List.length_erase_of_mem hs
      have lp := List.length_pos_of_mem hs
      show - opn 4 s (wq ((sumP ch rs).erase (4, s))) = _
      rw [sumP_rs hs]
      have := ih ch (rs.erase s) ⟨h.c1, h.r1.sublist List.erase_sublist, h.c2, fun x hx => h.r2 x (List.mem_of_mem_erase hx), h.c3, by have := h.r3; omega⟩ (by omega)
      unfold wS at this
      rw [this]
theorem control {ch rs : List Int} (h : CtlOk ch rs) (h2 : 2 ≤ cvP ch rs) : wS ch rs = - cvP ch rs := by
  rw [gT_eq _ ch rs h rfl]
  unfold gT
  rw [if_pos h2]
end DL

set_option Elab.async false
set_option linter.all false
set_option maxRecDepth 100000
namespace DL
open PySem PySem.Spec L2
/-! ### the memo of sums -/
def subsL : List Int → List (List Int)
  | [] => [[]]
  | a :: r => subsL r ++ (subsL r).map (a :: ·)
theorem subsL_len : ∀ r : List Int, (subsL r).length = 2 ^ r.length
  | [] => rfl
  | a :: r => by
    rw [subsL, List.length_append, List.length_map, subsL_len r, List.length_cons, Nat.pow_succ]
    omega
theorem subsL_mem : ∀ {a r : List Int}, a.Sublist r → a ∈ subsL r
  | _, _, .slnil => List.mem_singleton.mpr rfl
  | _, _, .cons x h => List.mem_append_left _ (subsL_mem h)
  | _, _, .cons₂ x h => List.mem_append_right _ (List.mem_map.mpr ⟨_, subsL_mem h, rfl⟩)
def kI (ns : List Int) : NestedKey := .tup (ns.map .num)
def kT (ch rs : List Int) : NestedKey := .tup [kI ch, kI rs]
def ofI : NestedKey → List Int
  | .tup ks => ks.map fun k => match k with | .num i => i | _ => 0
  | _ => []
theorem ofI_k (ns : List Int) : ofI (kI ns) = ns := by
  unfold ofI kI
  simp [List.map_map, Function.comp_def]
def fT : NestedKey → V
  | .tup [a, b] => .int (wS (ofI a) (ofI b))
  | _ => .non
theorem fT_k (ch rs : List Int) : fT (kT ch rs) = .int (wS ch rs) := by
  show V.int (wS (ofI (kI ch)) (ofI (kI rs))) = _
  rw [ofI_k, ofI_k]
def domS (ch rs : List Int) : List NestedKey := if ch.length + rs.length ≤ 8 then (subsL ch).flatMap fun a => (subsL rs).map fun b => kT a b else []
theorem flat_len {α β : Type} (f : α → List β) (k : Nat) : ∀ l : List α, (∀ a ∈ l, (f a).length = k) → (l.flatMap f).length = l.length * k
  | [], _ => by simp
  | a :: l, h => by
    rw [List.flatMap_cons, List.length_append, h a List.mem_cons_self, flat_len f k l fun b hb => h b (List.mem_cons_of_mem _ hb), List.length_cons, Nat.add_mul]
    omega
theorem domS_small (ch rs : List Int) : (domS ch rs).length < sizeLine := by
  unfold domS
  have hz : 256 < sizeLine := by decide
  split
  · rename_i h
    rw [flat_len _ (2 ^ rs.length) _ (fun a _ => by rw [List.length_map, subsL_len]), subsL_len, ← Nat.pow_add]
    exact Nat.lt_of_le_of_lt (Nat.pow_le_pow_right (by decide) h) hz
  · exact Nat.lt_of_le_of_lt (Nat.zero_le _) hz
def memS (ch rs : List Int) : Memo := ⟨fT, domS ch rs, domS_small ch rs⟩
def intsOf (ds : List D) : List Int := ds.map fun d => match d with | .int i => i | _ => 0
theorem intsOf_intD (ns : List Int) : intsOf (intD ns) = ns := by
  unfold intsOf intD
  simp [List.map_map, Function.comp_def]
def memT : String → D → Memo := fun _ d => match d with
  | .tup [.tup a, .tup b] => memS (intsOf a) (intsOf b)
  | _ => Memo.no
theorem memT_tot (x : String) (ch rs : List Int) : memT x (totD ch rs) = memS ch rs := by
  show memS (intsOf (intD ch)) (intsOf (intD rs)) = _
  rw [intsOf_intD, intsOf_intD]
theorem nkDs_int : ∀ ns : List Int, nkDs (intD ns) = some (ns.map .num)
  | [] => rfl
  | a :: r => by
    show nkDs (.int a :: intD r) = _
    rw [nkDs, nkDs_int r]
    rfl
theorem nkD_int (ns : List Int) : nkD (.tup (intD ns)) = some (kI ns) := by
  rw [nkD, nkDs_int]
  rfl
theorem nkD_tot (ch rs : List Int) : nkD (totD ch rs) = some (kT ch rs) := by
  show nkD (.tup [.tup (intD ch), .tup (intD rs)]) = _
  rw [nkD, nkDs, nkDs, nkDs, nkD_int, nkD_int]
  rfl
theorem depthI : ∀ ns : List Int, NestedKey.depthAll (ns.map .num) ≤ 1
  | [] => by simp [NestedKey.depthAll]
  | k :: st => by
    have := depthI st
    simp only [List.map_cons, NestedKey.depthAll, NestedKey.depth]
    omega
theorem depthT (ch rs : List Int) : (kT ch rs).depth ≤ 8 := by
  have h1 := depthI ch
  have h2 := depthI rs
  unfold kT kI
  simp only [NestedKey.depth, NestedKey.depthAll]
  omega
theorem kT_dom {c0 r0 ch rs : List Int} (h : c0.length + r0.length ≤ 8) (hc : ch.Sublist c0) (hr : rs.Sublist r0) : kT ch rs ∈ domS c0 r0 := by
  unfold domS
  rw [if_pos h]
  exact List.mem_flatMap.mpr ⟨ch, subsL_mem hc, List.mem_map.mpr ⟨rs, subsL_mem hr, rfl⟩⟩
section
variable {Γ : Ctx} {c0 r0 : List Int} {b : Addr}
theorem nums_mapQ {α : Type} (f : α → Int) (l : List α) : nums (l.map fun p => D.int (f p)) = some (l.map f) := by
  rw [← nums_intD (l.map f)]
  unfold intD
  rw [List.map_map]
  rfl
theorem f_total (ho : Γ.own = [(b, memS c0 r0)]) (h8 : c0.length + r0.length ≤ 8) : ∀ (f : Nat) (ch rs : List Int) (R : Option Rw), ch.Sublist c0 → rs.Sublist r0 → ch.length + rs.length < f → FR_total_value Γ f [totD ch rs, .row b] R = .ok (.int (wS ch rs)) R
  | 0, _, _, _, _, _, h => absurd h (by omega)
  | f + 1, ch, rs, R, hc, hr, hf => by
    have l1 := hc.length_le
    have l2 := hr.length_le
    rw [FR_total_value]
    simp only
    have st0 : startD N_total_value [totD ch rs, .row b] = [.dat (totD ch rs), .dat (.row b), .none] := rfl
    unfold sem_total_value
    have ev := f_values' (FF := FR_total_value Γ f) (ch := ch) (rs := rs) (b := b) (R := R) (by omega)
      (fun s hs => f_total ho h8 f _ _ R (List.erase_sublist.trans hc) hr (by have := List.length_erase_of_mem hs; have := List.length_pos_of_mem hs; omega))
      (fun s hs => f_total ho h8 f _ _ R hc (List.erase_sublist.trans hr) (by have := List.length_erase_of_mem hs; have := List.length_pos_of_mem hs; omega))
    generalize hds : D.dct true ((uqP (sumP ch rs)).map keyP) ((uqP (sumP ch rs)).map fun p => .int (vP (sumP ch rs) p)) = dd at ev
    have e1 : sSet 2 (dFn 2 (FC_values_of (FR_total_value Γ f)) (lCons (dVar 0) (lCons (dVar 1) lNil))) [.dat (totD ch rs), .dat (.row b), .none] R = .nx [.dat (totD ch rs), .dat (.row b), .dat dd] R := s_set (q2 (e_var rfl) (e_var rfl) ev)
    have e2 : dIf (dTN (dVar 2)) (d1 fMaxV (dVar 2)) (fun _ => pure (.int 0)) [.dat (totD ch rs), .dat (.row b), .dat dd] R = .ok (.int (wS ch rs)) R := by
      have t : dTN (dVar 2) [.dat (totD ch rs), .dat (.row b), .dat dd] R = .ok (!(uqP (sumP ch rs)).isEmpty) R := by
        unfold dTN
        refine (bind_ok (e_var (i := 2) rfl)).trans ?_
        subst hds
        show M.lift (some (!((uqP (sumP ch rs)).map keyP).isEmpty)) R = _
        cases uqP (sumP ch rs) <;> rfl
      by_cases h0 : sumP ch rs = []
      · rw [show (!(uqP (sumP ch rs)).isEmpty) = false by rw [h0]; rfl] at t
        refine (e_ifF t).trans ?_
        unfold wS
        rw [h0, wq_nil]
        rfl
      · have hne : uqP (sumP ch rs) ≠ [] := fun e => by
          obtain ⟨p, hp⟩ := List.exists_mem_of_ne_nil _ h0
          have := uqP_mem.mpr hp
          rw [e] at this
          cases this
        rw [show (!(uqP (sumP ch rs)).isEmpty) = true by cases z : uqP (sumP ch rs) with | nil => exact absurd z hne | cons => rfl] at t
        refine (e_ifT t).trans (e_d1 (e_var (i := 2) rfl) ?_)
        subst hds
        show (nums ((uqP (sumP ch rs)).map fun p => D.int (vP (sumP ch rs) p))).bind _ = _
        rw [nums_mapQ, Option.bind_some, if_neg (by simpa using hne)]
        congr 2
        unfold wS
        rw [wq_eq h0]
        refine mxI_congr (by simpa using hne) fun v => ?_
        simp only [List.mem_map]
        constructor
        · rintro ⟨p, hp, rfl⟩
          exact ⟨p, uqP_mem.mp hp, rfl⟩
        · rintro ⟨p, hp, rfl⟩
          exact ⟨p, uqP_mem.mpr hp, rfl⟩
    rw [st0, sMemo_eq (k := kT ch rs) (d := .int (wS ch rs)) ho ⟨⟨_, rfl, nkD_tot ch rs⟩, rfl⟩ e1 e2 ⟨⟨_, rfl, nkD_tot ch rs⟩, rfl⟩ (kT_dom h8 hc hr) (depthT ch rs) (by show flV _ = some (fT (kT ch rs)); rw [fT_k]; rfl)]
    rfl
/-! ### a sum -/
structure SumOk (ch rs : List Int) : Prop where
  c1 : ch.Pairwise (· ≤ ·)
  r1 : rs.Pairwise (· ≤ ·)
  c2 : ∀ s ∈ ch, 1 ≤ s ∧ s ≤ 60
  r2 : ∀ s ∈ rs, 2 ≤ s ∧ s ≤ 60
  len : ch.length + rs.length ≤ 8
theorem e_mapI {δ : SEnv} {R R1 : Option Rw} {vs : List Nat} {t : Tgt} {fi : SEnv → M (List D)} {fe : SEnv → M D} {f : Int → D} {ns : List Int} (h : fi δ R = .ok (intD ns) R1) (hl : ns.length ≤ 1000) (hc : ∀ k ∈ ns, ∃ δ1, bindT t (.int k) (blkD δ vs) = some δ1 ∧ ∀ R, fe δ1 R = .ok (f k) R) :
    dComp vs t fi bYes fe δ R = .ok (.lst (ns.map f)) R1 := by
  have hz : 1000 ≤ sizeLine := by decide
  refine (e_compY (g := fun d => match d with | .int k => f k | _ => .non) h (by unfold intD; rw [List.length_map]; omega) fun d hd => ?_).trans ?_
  · obtain ⟨k, hk, rfl⟩ := List.mem_map.mp hd
    exact hc k hk
  · unfold intD
    rw [List.map_map]
    rfl
theorem e_selI {δ : SEnv} {R R1 : Option Rw} {vs : List Nat} {t : Tgt} {fi : SEnv → M (List D)} {ft : SEnv → M Bool} {fe : SEnv → M D} {p : Int → Bool} {ns : List Int} (h : fi δ R = .ok (intD ns) R1) (hl : ns.length ≤ 1000) (hc : ∀ k ∈ ns, ∃ δ1, bindT t (.int k) (blkD δ vs) = some δ1 ∧ (∀ R, ft δ1 R = .ok (p k) R) ∧ ∀ R, fe δ1 R = .ok (.int k) R) :
    dComp vs t fi ft fe δ R = .ok (.lst (intD (ns.filter p))) R1 := by
  have hz : 1000 ≤ sizeLine := by decide
  refine (e_comp (p := fun d => match d with | .int k => p k | _ => false) (g := id) h (by unfold intD; rw [List.length_map]; omega) fun d hd => ?_).trans ?_
  · obtain ⟨k, hk, rfl⟩ := List.mem_map.mp hd
    obtain ⟨δ1, e1, e2, e3⟩ := hc k hk
    exact ⟨δ1, e1, e2, fun _ => e3⟩
  · rw [List.map_id]
    unfold intD
    rw [List.filter_map]
    rfl
theorem f_is_sizes {ns : List Int} {a : Int} {R : Option Rw} (h1 : ns.Pairwise (· ≤ ·)) (h2 : ∀ s ∈ ns, a ≤ s ∧ s ≤ 60) (hl : ns.length ≤ 1000) : F_is_sizes [.tup (intD ns), .int a] R = .ok (.bl true) R := by
  unfold F_is_sizes sem_is_sizes
  have st0 : startD N_is_sizes [.tup (intD ns), .int a] = [.dat (.tup (intD ns)), .dat (.int a), .none] := rfl
  have c1 : bNot (dT (d1 (isiD "tuple") (dVar 0))) [.dat (.tup (intD ns)), .dat (.int a), .none] R = .ok false R := e_not (k := true) (e_dTb (e_d1 (e_var rfl) (isi_tuple rfl)))
  have c2 : bNot (dT (dCall fAll (lCons (dComp [2] (.nm 2) (iSeq (dVar 0)) bYes (dFn 3 F_is_within (lCons (dVar 2) (lCons (dVar 1) (lCons (fun _ => pure (.int 60)) lNil))))) lNil))) [.dat (.tup (intD ns)), .dat (.int a), .none] R = .ok false R := by
    refine e_not (k := true) (e_dTb (e_call (e_cons (e_mapI (f := fun s => .bl (within (.int s) a 60)) (e_seq (e_var rfl) rfl) hl fun k hk => ⟨_, rfl, fun R => q3 (e_var rfl) (e_var rfl) (c := .int 60) (R3 := R) rfl (f_is_within rfl)⟩) e_nil) ?_))
    rw [fAll_map]
    congr 2
    rw [List.all_eq_true]
    intro s hs
    obtain ⟨x, y⟩ := h2 s hs
    show (decide (a ≤ s) && decide (s ≤ 60)) = true
    rw [decide_eq_true x, decide_eq_true y]
    rfl
  rw [st0, s_seq (f := sIf _ _ sNx) ((s_ifF ((e_orF c1).trans c2)).trans (show sNx _ R = .nx _ R from rfl)), s_ret (d := .bl true) (e_d2 (e_call (e_cons (e_var rfl) e_nil) (show fList [.tup (intD ns)] = some (.lst (intD ns)) from rfl)) (e_call (e_cons (e_var rfl) e_nil) (d := .lst (intD ns)) ?_) ?_)]
  · rfl
  · show (nums (intD ns)).map _ = _
    rw [nums_intD]
    show some (D.lst ((srt ns).map D.int)) = _
    rw [← srt_eq (List.Perm.refl ns) h1]
    rfl
  · have := oEq_ints ns ns
    rw [decide_eq_true rfl] at this
    exact this
theorem intD_len (ns : List Int) : (intD ns).length = ns.length := by unfold intD; rw [List.length_map]
theorem f_is_sum {ch rs : List Int} {R : Option Rw} (h : SumOk ch rs) : F_is_sum [totD ch rs] R = .ok (.bl true) R := by
  have hl := h.len
  unfold F_is_sum sem_is_sum
  have st0 : startD N_is_sum [totD ch rs] = [.dat (totD ch rs)] := rfl
  have c1 : bNot (dT (d1 (isiD "tuple") (dVar 0))) [.dat (totD ch rs)] R = .ok false R := e_not (k := true) (e_dTb (e_d1 (e_var rfl) (isi_tuple rfl)))
  have c2 : dB (d2 oNe (dCall fLen (lCons (dVar 0) lNil)) (fun _ => pure (.int 2))) [.dat (totD ch rs)] R = .ok false R := e_dB (e_d2 (e_call (e_cons (e_var rfl) e_nil) (show fLen [totD ch rs] = some (.int 2) from rfl)) (R2 := R) rfl (by rw [oNe_int]; rfl))
  have i0 : d2 oIx (dVar 0) (fun _ => pure (.int 0)) [.dat (totD ch rs)] R = .ok (.tup (intD ch)) R := e_d2 (f := oIx) (R2 := R) (e_var rfl) rfl (ix0 _ _)
  have i1 : d2 oIx (dVar 0) (fun _ => pure (.int 1)) [.dat (totD ch rs)] R = .ok (.tup (intD rs)) R := e_d2 (f := oIx) (R2 := R) (e_var rfl) rfl (ix1 _ _)
  have c3 : bNot (dT (dFn 2 F_is_sizes (lCons (d2 oIx (dVar 0) (fun _ => pure (.int 0))) (lCons (fun _ => pure (.int 1)) lNil)))) [.dat (totD ch rs)] R = .ok false R := e_not (e_dTb (q2 i0 (b := .int 1) (R2 := R) rfl (f_is_sizes h.c1 h.c2 (by omega))))
  have c4 : bNot (dT (dFn 2 F_is_sizes (lCons (d2 oIx (dVar 0) (fun _ => pure (.int 1))) (lCons (fun _ => pure (.int 2)) lNil)))) [.dat (totD ch rs)] R = .ok false R := e_not (e_dTb (q2 i1 (b := .int 2) (R2 := R) rfl (f_is_sizes h.r1 h.r2 (by omega))))
  rw [st0, s_seq (f := sIf _ _ sNx) ((s_ifF ((e_orF c1).trans c2)).trans (show sNx _ R = .nx _ R from rfl)), s_seq (f := sIf _ _ sNx) ((s_ifF ((e_orF c3).trans c4)).trans (show sNx _ R = .nx _ R from rfl)),
    s_ret (d := .bl true) (e_d2 (e_d2 (e_call (e_cons i0 e_nil) (show fLen [.tup (intD ch)] = some (.int ((intD ch).length : Int)) from rfl)) (e_call (e_cons i1 e_nil) (show fLen [.tup (intD rs)] = some (.int ((intD rs).length : Int)) from rfl)) (oPlus_int _ _)) (R2 := R) (b := .int 8) rfl ?_)]
  · rfl
  · rw [oLe_int, intD_len, intD_len, decide_eq_true (by omega)]
theorem f_need_sum {ch rs : List Int} {R : Option Rw} (h : SumOk ch rs) : F_need_sum [totD ch rs] R = .ok .non R := by
  unfold F_need_sum sem_need_sum
  have st0 : startD N_need_sum [totD ch rs] = [.dat (totD ch rs)] := rfl
  rw [st0, (s_ifF (e_not (e_dTb (q1 (e_var rfl) (f_is_sum h))))).trans (show sNx _ R = .nx _ R from rfl)]
  rfl
theorem own_memoS (b : Addr) (m : Memo) (h : Γ.own = []) : (Γ.memo b m).own = [(b, m)] := by
  show (b, m) :: Γ.own = _
  rw [h]
theorem f_sum_worth {ch rs : List Int} {R : Option Rw} (h : SumOk ch rs) (h0 : Γ.own = []) (hm : Γ.mem = memT) : F_sum_worth Γ [totD ch rs] R = .ok (.int (wS ch rs)) R := by
  have hl := h.len
  unfold F_sum_worth sem_sum_worth
  have st0 : startD N_sum_worth [totD ch rs] = [.dat (totD ch rs)] := rfl
  rw [st0, s_seq (s_drop (q1 (e_var rfl) (f_need_sum h))), s_ret (dMemo1_eq (x := totD ch rs) (d := .int (wS ch rs)) rfl fun b => ?_)]
  · rfl
  · rw [hm, memT_tot]
    exact f_total (own_memoS b _ h0) hl 14 ch rs R (List.Sublist.refl _) (List.Sublist.refl _) (by omega)
end
end DL

set_option Elab.async false
set_option linter.all false
set_option maxRecDepth 100000
namespace DL
open PySem PySem.Spec L2
/-! ### control, the program's -/
structure LongOk (ch rs : List Int) : Prop where
  s : SumOk ch rs
  c3 : ∀ s ∈ ch, 3 ≤ s
  r4 : ∀ s ∈ rs, 4 ≤ s ∧ s % 2 = 0
section
variable {ch rs : List Int} {R : Option Rw}
theorem i0D {δ : SEnv} (h : δ[0]? = some (.dat (totD ch rs))) : d2 oIx (dVar 0) (fun _ => pure (.int 0)) δ R = .ok (.tup (intD ch)) R := e_d2 (f := oIx) (R2 := R) (e_var h) rfl (ix0 _ _)
theorem i1D {δ : SEnv} (h : δ[0]? = some (.dat (totD ch rs))) : d2 oIx (dVar 0) (fun _ => pure (.int 1)) δ R = .ok (.tup (intD rs)) R := e_d2 (f := oIx) (R2 := R) (e_var h) rfl (ix1 _ _)
theorem f_need_long (h : LongOk ch rs) : F_need_long [totD ch rs] R = .ok .non R := by
  have hl := h.s.len
  unfold F_need_long sem_need_long
  have st0 : startD N_need_long [totD ch rs] = [.dat (totD ch rs), .none] := rfl
  have c1 : dT (dComp [1] (.nm 1) (iSeq (d2 oIx (dVar 0) (fun _ => pure (.int 0)))) (dB (d2 oLt (dVar 1) (fun _ => pure (.int 3)))) (dVar 1)) [.dat (totD ch rs), .none] R = .ok false R := by
    refine e_dT (e_selI (p := fun s => decide (s < 3)) (e_seq (i0D rfl) rfl) (by omega) fun k hk => ⟨_, rfl, fun R => e_dB (e_d2 (f := oLt) (R2 := R) (e_var rfl) rfl (oLt_int _ _)), fun R => e_var rfl⟩) ?_
    rw [List.filter_eq_nil_iff.mpr fun s hs => by have := h.c3 s hs; simp; omega]
    rfl
  have c2 : dT (dComp [1] (.nm 1) (iSeq (d2 oIx (dVar 0) (fun _ => pure (.int 1)))) (bOr (dB (d2 oLt (dVar 1) (fun _ => pure (.int 4)))) (dB (d2 oEq (d2 oMod (dVar 1) (fun _ => pure (.int 2))) (fun _ => pure (.int 1))))) (dVar 1)) [.dat (totD ch rs), .none] R = .ok false R := by
    refine e_dT (e_selI (p := fun s => false) (e_seq (i1D rfl) rfl) (by omega) fun k hk => ⟨_, rfl, fun R => ?_, fun R => e_var rfl⟩) ?_
    · obtain ⟨a1, a2⟩ := h.r4 k hk
      refine (e_orF (e_dB (e_d2 (f := oLt) (R2 := R) (e_var rfl) rfl (by rw [oLt_int, decide_eq_false (by omega)])))).trans ?_
      exact e_dB (e_d2 (f := oEq) (R2 := R) (e_d2 (f := oMod) (R2 := R) (e_var rfl) rfl (oMod_int (by omega))) rfl (by rw [oEq_int, decide_eq_false (by omega)]))
    · rw [List.filter_eq_nil_iff.mpr fun s hs => by simp]
      rfl
  rw [st0, s_seq (s_drop (q1 (e_var rfl) (f_need_sum h.s))), (s_ifF ((e_orF c1).trans c2)).trans (show sNx _ R = .nx _ R from rfl)]
  rfl
theorem tru_int {ns : List Int} : truD (.tup (intD ns)) = some (decide (ns ≠ [])) := by cases ns <;> rfl
theorem ix_last (h : ch ≠ []) : oIx (.tup (intD ch)) (.int (-1)) = some (.int (ch.getLastD 0)) := by
  show L2.atI (intD ch) (-1) = _
  have hl : 0 < ch.length := List.length_pos_iff.mpr h
  obtain ⟨d, hd, e⟩ := (show ∃ d, d = ch.getLastD 0 ∧ ch[ch.length - 1]? = some d from ⟨_, rfl, by
    rw [← List.getLast?_eq_getElem?, List.getLastD_eq_getLast?, List.getLast?_eq_some_getLast h]
    rfl⟩)
  unfold L2.atI
  rw [← hd]
  have e2 : (intD ch)[ch.length - 1]? = some (.int d) := by
    unfold intD
    rw [List.getElem?_map, e]
    rfl
  have hl2 := intD_len ch
  rw [hl2]
  unfold L2.ixN
  rw [if_neg (by omega), if_pos (by omega), Option.bind_some, show ((-1 : Int) + (ch.length : Int)).toNat = ch.length - 1 by omega]
  exact e2
theorem f_extra : F_extra [totD ch rs] R = .ok (.int (exP ch rs)) R := by
  unfold F_extra sem_extra
  have st0 : startD N_extra [totD ch rs] = [.dat (totD ch rs), .none, .none] := rfl
  have e1 : sAsg (.tup [(.nm 1), (.nm 2)]) (dVar 0) [.dat (totD ch rs), .none, .none] R = .nx [.dat (totD ch rs), .dat (.tup (intD ch)), .dat (.tup (intD rs))] R := s_asg (e_var rfl) rfl
  rw [st0, s_seq e1]
  have t1 := e_dT (e_var (i := 1) (δ := [.dat (totD ch rs), .dat (.tup (intD ch)), .dat (.tup (intD rs))]) (R := R) rfl) tru_int
  have t2 := e_dT (e_var (i := 2) (δ := [.dat (totD ch rs), .dat (.tup (intD ch)), .dat (.tup (intD rs))]) (R := R) rfl) tru_int
  unfold exP
  by_cases hc : ch = []
  · rw [decide_eq_false (not_not_intro hc)] at t1
    by_cases hr : rs = []
    · rw [decide_eq_false (not_not_intro hr)] at t2
      rw [s_seqR ((s_ifT (e_not t1)).trans (s_ret ((e_ifF t2).trans rfl))), if_pos hc, if_pos hr]
      rfl
    · rw [decide_eq_true hr] at t2
      rw [s_seqR ((s_ifT (e_not t1)).trans (s_ret ((e_ifT t2).trans rfl))), if_pos hc, if_neg hr]
      rfl
  · rw [decide_eq_true hc] at t1
    rw [s_seq (f := sIf _ _ sNx) ((s_ifF (e_not t1)).trans (show sNx _ R = .nx _ R from rfl)), if_neg hc]
    by_cases hr : rs = []
    · rw [decide_eq_false (not_not_intro hr)] at t2
      rw [s_ret ((e_ifF (e_andF t2)).trans rfl), if_neg (fun z => z.1 hr)]
      rfl
    · rw [decide_eq_true hr] at t2
      have t3 := e_dB (e_d2 (f := oEq) (fb := fun _ => pure (.int 3)) (R2 := R) (e_d2 (f := oIx) (e_var (i := 1) (δ := [.dat (totD ch rs), .dat (.tup (intD ch)), .dat (.tup (intD rs))]) (R := R) rfl) (e_d1 (f := oNeg) (fa := fun _ => pure (.int 1)) (R1 := R) rfl (oNeg_int 1)) (ix_last hc)) rfl (oEq_int _ _))
      by_cases h3 : ch.getLastD 0 = 3
      · rw [decide_eq_true h3] at t3
        rw [s_ret ((e_ifT ((e_andT t2).trans t3)).trans rfl), if_pos ⟨hr, h3⟩]
        rfl
      · rw [decide_eq_false h3] at t3
        rw [s_ret ((e_ifF ((e_andT t2).trans t3)).trans rfl), if_neg (fun z => h3 z.2)]
        rfl
theorem fSum_map (f : Int → Int) (ns : List Int) : fSum [.lst (ns.map fun s => .int (f s))] = some (.int (ns.map f).sum) := by
  show (nums _).map _ = _
  rw [nums_mapQ]
  rfl
theorem fSum_tup (ns : List Int) : fSum [.tup (intD ns)] = some (.int ns.sum) := by
  show (nums _).map _ = _
  rw [nums_intD]
  rfl
theorem fSum_lst (ns : List Int) : fSum [.lst (intD ns)] = some (.int ns.sum) := by
  show (nums _).map _ = _
  rw [nums_intD]
  rfl
theorem f_controlled (h : LongOk ch rs) : F_controlled [totD ch rs] R = .ok (.int (cvP ch rs)) R := by
  have hl := h.s.len
  unfold F_controlled sem_controlled
  have st0 : startD N_controlled [totD ch rs] = [.dat (totD ch rs), .none] := rfl
  rw [st0, s_seq (s_drop (q1 (e_var rfl) (f_need_long h))), s_ret (e_d2 (e_d2 (e_call (e_cons (e_mapI (f := fun s => .int (s - 4)) (e_seq (i0D rfl) rfl) (by omega) fun k hk => ⟨_, rfl, fun R => e_d2 (f := oSub) (R2 := R) (e_var rfl) rfl (oSub_int _ _)⟩) e_nil) (fSum_map _ _)) (e_call (e_cons (e_mapI (f := fun s => .int (s - 8)) (e_seq (i1D rfl) rfl) (by omega) fun k hk => ⟨_, rfl, fun R => e_d2 (f := oSub) (R2 := R) (e_var rfl) rfl (oSub_int _ _)⟩) e_nil) (fSum_map _ _)) (oPlus_int _ _)) (q1 (e_var rfl) f_extra) (oPlus_int _ _))]
  rfl
theorem f_is_controlled (h : LongOk ch rs) : F_is_controlled [totD ch rs] R = .ok (.bl (decide (2 ≤ cvP ch rs))) R := by
  unfold F_is_controlled sem_is_controlled
  have st0 : startD N_is_controlled [totD ch rs] = [.dat (totD ch rs)] := rfl
  rw [st0, s_ret (e_d2 (f := oGe) (R2 := R) (q1 (e_var rfl) (f_controlled h)) rfl (oGe_int _ _))]
  rfl
theorem f_long_kinds (h : LongOk ch rs) : F_long_kinds [totD ch rs] R = .ok (.tup [.int (ch.length : Int), .int (rs.length : Int), .int (ch.sum + rs.sum)]) R := by
  unfold F_long_kinds sem_long_kinds
  have st0 : startD N_long_kinds [totD ch rs] = [.dat (totD ch rs)] := rfl
  rw [st0, s_seq (s_drop (q1 (e_var rfl) (f_need_long h))), s_ret (e_tup (e_cons (e_call (e_cons (i0D rfl) e_nil) (show fLen [.tup (intD ch)] = some (.int (ch.length : Int)) by rw [← intD_len ch]; rfl)) (e_cons (e_call (e_cons (i1D rfl) e_nil) (show fLen [.tup (intD rs)] = some (.int (rs.length : Int)) by rw [← intD_len rs]; rfl)) (e_cons (e_d2 (e_call (e_cons (i0D rfl) e_nil) (fSum_tup _)) (e_call (e_cons (i1D rfl) e_nil) (fSum_tup _)) (oPlus_int _ _)) e_nil))) (show 3 ≤ sizeLine by decide))]
  rfl
/-! ### control, the law's -/
theorem sum_sub (k : Int) : ∀ ns : List Int, (ns.map fun s => s - k).sum = ns.sum - k * (ns.length : Int)
  | [] => by simp
  | a :: r => by
    rw [List.map_cons, List.sum_cons, List.sum_cons, sum_sub k r, List.length_cons]
    rw [show ((r.length + 1 : Nat) : Int) = (r.length : Int) + 1 by omega, Int.mul_add]
    omega
theorem last_max (h : ch.Pairwise (· ≤ ·)) (hn : ch ≠ []) : mxI ch = ch.getLastD 0 := by
  have e : ch.getLastD 0 = ch.getLast hn := by rw [List.getLastD_eq_getLast?, List.getLast?_eq_some_getLast hn] <;> rfl
  rw [e]
  have h1 := mxI_le (List.getLast_mem hn)
  have h2 : ∀ y ∈ ch, y ≤ ch.getLast hn := fun y hy => by
    have z := List.dropLast_concat_getLast hn
    rw [← z] at h
    obtain ⟨_, _, h5⟩ := List.pairwise_append.mp h
    rw [← z] at hy
    rcases List.mem_append.mp hy with hy | hy
    · exact h5 y hy _ (List.mem_singleton.mpr rfl)
    · rw [List.mem_singleton.mp hy]
      exact Int.le_refl _
  exact Int.le_antisymm (h2 _ (mxI_mem hn)) h1
theorem fMax_int (hn : ch ≠ []) : fMax [.lst (intD ch)] = some (.int (mxI ch)) := by
  show (nums _).bind _ = _
  rw [nums_intD, Option.bind_some, if_neg hn]
theorem f_law_controlled (h : ch.Pairwise (· ≤ ·)) (hl : ch.length ≤ 100) (hl2 : rs.length ≤ 100) : F__law_controlled [.lst (intD ch), .lst (intD rs)] R = .ok (.int (cvP ch rs)) R := by
  unfold F__law_controlled sem__law_controlled
  have st0 : startD N__law_controlled [.lst (intD ch), .lst (intD rs)] = [.dat (.lst (intD ch)), .dat (.lst (intD rs)), .none] := rfl
  have ln : ∀ ns : List Int, fLen [.lst (intD ns)] = some (.int (ns.length : Int)) := fun ns => by rw [← intD_len ns]; rfl
  have e1 : sSet 2 (d2 oSub (d2 oPlus (d2 oSub (dCall fSum (lCons (dVar 0) lNil)) (d2 oTimesI (fun _ => pure (.int 4)) (dCall fLen (lCons (dVar 0) lNil)))) (dCall fSum (lCons (dVar 1) lNil))) (d2 oTimesI (fun _ => pure (.int 8)) (dCall fLen (lCons (dVar 1) lNil)))) [.dat (.lst (intD ch)), .dat (.lst (intD rs)), .none] R =
      .nx [.dat (.lst (intD ch)), .dat (.lst (intD rs)), .dat (.int (ch.sum - 4 * (ch.length : Int) + rs.sum - 8 * (rs.length : Int)))] R :=
    s_set (e_d2 (e_d2 (e_d2 (e_call (e_cons (e_var rfl) e_nil) (fSum_lst _)) (e_d2 (f := oTimesI) (R1 := R) rfl (e_call (e_cons (e_var rfl) e_nil) (ln _)) (oTimes_int (by omega))) (oSub_int _ _)) (e_call (e_cons (e_var rfl) e_nil) (fSum_lst _)) (oPlus_int _ _)) (e_d2 (f := oTimesI) (R1 := R) rfl (e_call (e_cons (e_var rfl) e_nil) (ln _)) (oTimes_int (by omega))) (oSub_int _ _))
  rw [st0, s_seq e1]
  have hv : ch.sum - 4 * (ch.length : Int) + rs.sum - 8 * (rs.length : Int) = (ch.map fun s => s - 4).sum + (rs.map fun s => s - 8).sum := by
    rw [sum_sub, sum_sub]
    omega
  rw [hv]
  unfold cvP
  have hv0 : ch = [] → rs = [] → (ch.map fun s => s - 4).sum + (rs.map fun s => s - 8).sum = 0 := fun a b => by subst a b; rfl
  generalize (ch.map fun s => s - 4).sum + (rs.map fun s => s - 8).sum = v at hv0
  have tc := e_dB (e_d2 (f := oEq) (e_var (i := 0) (δ := [.dat (.lst (intD ch)), .dat (.lst (intD rs)), .dat (.int v)]) (R := R) rfl) (e_lst e_nil (by decide)) (oEq_ints ch []))
  have tr := e_dB (e_d2 (f := oEq) (e_var (i := 1) (δ := [.dat (.lst (intD ch)), .dat (.lst (intD rs)), .dat (.int v)]) (R := R) rfl) (e_lst e_nil (by decide)) (oEq_ints rs []))
  have nr : dB (d2 oNe (dVar 1) (dLst lNil)) [.dat (.lst (intD ch)), .dat (.lst (intD rs)), .dat (.int v)] R = .ok (!decide (rs = [])) R := e_dB (e_d2 (f := oNe) (e_var (i := 1) rfl) (e_lst e_nil (by decide)) (by
    have := oEq_ints rs []
    have this : oEq (.lst (intD rs)) (.lst []) = some (.bl (decide (rs = []))) := this
    unfold oEq at this
    unfold oNe
    split at this
    · rename_i hh
      rw [if_pos hh]
      have z := Option.some.inj this
      simp only [D.bl.injEq] at z
      rw [show (PyData.eqv (toPy (.lst (intD rs))) (toPy (.lst []))) = decide (rs = []) from z]
    · cases this))
  unfold exP
  by_cases hc : ch = []
  · rw [decide_eq_true hc] at tc
    by_cases hr : rs = []
    · rw [decide_eq_true hr] at tr
      rw [s_seqR ((s_ifT ((e_andT tc).trans tr)).trans (s_ret rfl)), if_pos hc, if_pos hr, hv0 hc hr]
      rfl
    · rw [decide_eq_false hr] at tr
      rw [s_seq (f := sIf _ _ sNx) ((s_ifF ((e_andT tc).trans tr)).trans (show sNx _ R = .nx _ R from rfl)), s_seqR ((s_ifT tc).trans (s_ret (e_d2 (f := oPlus) (R2 := R) (e_var rfl) rfl (oPlus_int _ _)))), if_pos hc, if_neg hr]
      rfl
  · rw [decide_eq_false hc] at tc
    rw [s_seq (f := sIf _ _ sNx) ((s_ifF (e_andF tc)).trans (show sNx _ R = .nx _ R from rfl)), s_seq (f := sIf _ _ sNx) ((s_ifF tc).trans (show sNx _ R = .nx _ R from rfl)), if_neg hc]
    have t3 := e_dB (e_d2 (f := oEq) (fb := fun _ => pure (.int 3)) (R2 := R) (e_call (e_cons (e_var (i := 0) (δ := [.dat (.lst (intD ch)), .dat (.lst (intD rs)), .dat (.int v)]) (R := R) rfl) e_nil) (fMax_int hc)) rfl (oEq_int _ _))
    rw [last_max h hc] at t3
    have fin6 : ∀ (k : Int), dIf (bAnd (dB (d2 oNe (dVar 1) (dLst lNil))) (dB (d2 oEq (dCall fMax (lCons (dVar 0) lNil)) (fun _ => pure (.int 3))))) (fun _ => pure (.int 6)) (fun _ => pure (.int 4)) [.dat (.lst (intD ch)), .dat (.lst (intD rs)), .dat (.int v)] R = .ok (.int k) R → fin (sRet (d2 oPlus (dVar 2) (dIf (bAnd (dB (d2 oNe (dVar 1) (dLst lNil))) (dB (d2 oEq (dCall fMax (lCons (dVar 0) lNil)) (fun _ => pure (.int 3))))) (fun _ => pure (.int 6)) (fun _ => pure (.int 4)))) [.dat (.lst (intD ch)), .dat (.lst (intD rs)), .dat (.int v)] R) = .ok (.int (v + k)) R := fun k hk => by
      rw [s_ret (e_d2 (f := oPlus) (e_var rfl) hk (oPlus_int _ _))]
      rfl
    by_cases hr : rs = []
    · rw [decide_eq_true hr] at nr
      rw [fin6 4 ((e_ifF (e_andF nr)).trans rfl), if_neg (fun z => z.1 hr)]
    · rw [decide_eq_false hr] at nr
      by_cases h3 : ch.getLastD 0 = 3
      · rw [decide_eq_true h3] at t3
        rw [fin6 6 ((e_ifT ((e_andT nr).trans t3)).trans rfl), if_pos ⟨hr, h3⟩]
      · rw [decide_eq_false h3] at t3
        rw [fin6 4 ((e_ifF ((e_andT nr).trans t3)).trans rfl), if_neg (fun z => h3 z.2)]
end
end DL

set_option Elab.async false
set_option linter.all false
set_option maxRecDepth 100000
namespace DL
open PySem PySem.Spec L2
/-! ### the law's opening -/
theorem f_law_opened {g s r : Int} {R : Option Rw} (h : g = 2 ∨ g = 4) : F__law_opened [.int g, .int s, .int r] R = .ok (.int (opn g s r)) R := by
  unfold F__law_opened sem__law_opened
  have st0 : startD N__law_opened [.int g, .int s, .int r] = [.dat (.int g), .dat (.int s), .dat (.int r)] := rfl
  have e3 : dIf (dB (d2 oEq (dVar 0) (fun _ => pure (.int 2)))) (fun _ => pure (.int 3)) (fun _ => pure (.int 4)) [.dat (.int g), .dat (.int s), .dat (.int r)] R = .ok (.int (if g = 2 then 3 else 4)) R := by
    have t := e_dB (e_d2 (f := oEq) (fb := fun _ => pure (.int 2)) (R2 := R) (e_var (i := 0) (δ := [.dat (.int g), .dat (.int s), .dat (.int r)]) (R := R) rfl) rfl (oEq_int g 2))
    by_cases hg : g = 2
    · rw [decide_eq_true hg] at t
      rw [e_ifT t, if_pos hg]
      rfl
    · rw [decide_eq_false hg] at t
      rw [e_ifF t, if_neg hg]
      rfl
  have t := e_dB (e_d2 (f := oLt) (e_var (i := 1) rfl) e3 (oLt_int _ _))
  rw [st0]
  unfold opn
  by_cases hs : s < (if g = 2 then 3 else 4)
  · rw [decide_eq_true hs] at t
    rw [s_seqR ((s_ifT t).trans (s_ret (e_d2 (e_var rfl) (e_var rfl) (oPlus_int _ _)))), if_pos hs]
    rfl
  · rw [decide_eq_false hs] at t
    rw [s_seq (f := sIf _ _ sNx) ((s_ifF t).trans (show sNx _ R = .nx _ R from rfl)), s_ret (e_call (e_cons (e_d2 (e_var rfl) (e_var rfl) (oPlus_int _ _)) (e_cons (e_d2 (e_d2 (e_var rfl) (e_d2 (f := oTimesI) (R1 := R) rfl (e_var rfl) (oTimes_int (by rcases h with rfl | rfl <;> decide))) (oSub_int _ _)) (e_var rfl) (oSub_int _ _)) e_nil)) rfl), if_neg hs]
    rfl
/-! ### the law's table of sums -/
def subP (ps : List (Int × Int)) (st : List Nat) : List (Int × Int) := st.map (sAt ps)
def tabQ (ps : List (Int × Int)) (x : Nat) : List Int := (List.range x).map fun j => wq (subP ps (bitsL ps.length j))
theorem tabQ_len (ps : List (Int × Int)) (x : Nat) : (tabQ ps x).length = x := by simp [tabQ]
theorem tabQ_get {ps : List (Int × Int)} {x j : Nat} (h : j < x) : (tabQ ps x).getD j 0 = wq (subP ps (bitsL ps.length j)) := by
  unfold tabQ
  simp [List.getD, h]
theorem tabQ_succ (ps : List (Int × Int)) (x : Nat) : tabQ ps (x + 1) = tabQ ps x ++ [wq (subP ps (bitsL ps.length x))] := by
  unfold tabQ
  rw [List.range_succ, List.map_append]
  rfl
theorem subP_without {ps : List (Int × Int)} {st : List Nat} {k : Nat} (hn : st.Nodup) (hk : k ∈ st) : wq (subP ps (without st k)) = wq ((subP ps st).erase (sAt ps k)) := by
  have h := (perm_without hn hk).map (sAt ps)
  have h2 := h.erase (sAt ps k)
  rw [List.map_cons, List.erase_cons_head] at h2
  exact (wq_perm h2).symm
theorem ps_at {ps : List (Int × Int)} {k : Nat} (h : k < ps.length) : oIx (.lst (ps.map pairD)) (.int (k : Int)) = some (pairD (sAt ps k)) := by
  show L2.atI (ps.map pairD) (k : Int) = _
  refine atI_nat ?_
  rw [List.getElem?_map, List.getElem?_eq_getElem h]
  simp [sAt, List.getD, h]
theorem mxF_cons (a : Int) (r : List Int) : mxF a r = mxI (a :: r) := by
  obtain ⟨h1, h2, h3⟩ := mxF_le r a
  refine Int.le_antisymm (mxI_le ?_) ?_
  · rcases h3 with h3 | h3
    · rw [h3]; exact List.mem_cons_self
    · exact List.mem_cons_of_mem _ h3
  · rcases List.mem_cons.mp (mxI_mem (ns := a :: r) (by simp)) with e | e
    · rw [e]; exact h1
    · exact h2 _ e
section
variable {ps : List (Int × Int)}
abbrev LqS (ps : List (Int × Int)) (x : Nat) (a2 a3 a4 a5 : SD) : SEnv := [.dat (.lst (ps.map pairD)), .own ((tabQ ps x).map D.int), a2, a3, a4, a5]
abbrev kBodyQ : SM := (sSeq (sSet 5 (d2 oSub (fun _ => pure (.int 0)) (dFn 3 F__law_opened (lCons (d2 oIx (d2 oIx (dVar 0) (dVar 4)) (fun _ => pure (.int 0))) (lCons (d2 oIx (d2 oIx (dVar 0) (dVar 4)) (fun _ => pure (.int 1))) (lCons (dIxOwn 1 (d2 oSub (dVar 2) (d2 oShl (fun _ => pure (.int 1)) (dVar 4)))) lNil))))))
  (sSet 3 (dIf (bOr (dB (d2 oIsN (dVar 3) (fun _ => pure .non))) (dB (d2 oGt (dVar 5) (dVar 3)))) (dVar 5) (dVar 3))))
def vQ (ps : List (Int × Int)) (st : List Nat) (k : Nat) : Int := vP (subP ps st) (sAt ps k)
theorem kq_val {x k : Nat} {a3 a5 : SD} {R : Option Rw} (hp : ∀ p ∈ ps, PtOk p) (m12 : ps.length ≤ 12) (hx : x < 2 ^ ps.length) (hk : k ∈ bitsL ps.length x) :
    sSet 5 (d2 oSub (fun _ => pure (.int 0)) (dFn 3 F__law_opened (lCons (d2 oIx (d2 oIx (dVar 0) (dVar 4)) (fun _ => pure (.int 0))) (lCons (d2 oIx (d2 oIx (dVar 0) (dVar 4)) (fun _ => pure (.int 1))) (lCons (dIxOwn 1 (d2 oSub (dVar 2) (d2 oShl (fun _ => pure (.int 1)) (dVar 4)))) lNil))))) (LqS ps x (.dat (.int (x : Int))) a3 (.dat (.int (k : Int))) a5) R =
      .nx (LqS ps x (.dat (.int (x : Int))) a3 (.dat (.int (k : Int))) (.dat (.int (vQ ps (bitsL ps.length x) k)))) R := by
  have h := bits_ok ps.length x
  have kl := h.lt k hk
  have hm := mask_without h.nodup hk
  rw [mask_bits _ _ hx] at hm
  have hw := h.filter fun j => !decide (j = k)
  obtain ⟨w1, w2⟩ := mask_st ps.length (without (bitsL ps.length x) k) hw
  have p2 : 0 < 2 ^ k := Nat.two_pow_pos k
  have ix : d2 oIx (dVar 0) (dVar 4) (LqS ps x (.dat (.int (x : Int))) a3 (.dat (.int (k : Int))) a5) R = .ok (pairD (sAt ps k)) R := e_d2 (e_var rfl) (e_var rfl) (ps_at kl)
  have e2 : dIxOwn 1 (d2 oSub (dVar 2) (d2 oShl (fun _ => pure (.int 1)) (dVar 4))) (LqS ps x (.dat (.int (x : Int))) a3 (.dat (.int (k : Int))) a5) R = .ok (.int (wq ((subP ps (bitsL ps.length x)).erase (sAt ps k)))) R := by
    refine (e_ixOwn (f := tabQ ps x) (c := ((maskL (without (bitsL ps.length x) k) : Nat) : Int)) rfl ?_ (by omega) (by rw [tabQ_len]; omega)).trans ?_
    · refine e_d2 (e_var rfl) (e_d2 (f := oShl) (R1 := R) rfl (e_var rfl) (e_shl (by omega))) ?_
      rw [oSub_int]
      congr 2
      omega
    · rw [Int.toNat_natCast, tabQ_get (by omega), w2, subP_without h.nodup hk]
  refine (s_set (e_d2 (f := oSub) (R1 := R) rfl (q3 (e_d2 (f := oIx) (R2 := R) ix rfl (ix0 _ _)) (e_d2 (f := oIx) (R2 := R) ix rfl (ix1 _ _)) e2 (f_law_opened (hp _ (sAt_mem kl)))) (oSub_int _ _))).trans ?_
  unfold vQ vP
  rw [Int.zero_sub]
  rfl
theorem kq_step {x k : Nat} {t : Int} {a5 : SD} {R : Option Rw} (hp : ∀ p ∈ ps, PtOk p) (m12 : ps.length ≤ 12) (hx : x < 2 ^ ps.length) (hk : k ∈ bitsL ps.length x) :
    kBodyQ (LqS ps x (.dat (.int (x : Int))) (.dat (.int t)) (.dat (.int (k : Int))) a5) R =
      .nx (LqS ps x (.dat (.int (x : Int))) (.dat (.int (if vQ ps (bitsL ps.length x) k > t then vQ ps (bitsL ps.length x) k else t))) (.dat (.int (k : Int))) (.dat (.int (vQ ps (bitsL ps.length x) k)))) R := by
  refine (s_seq (kq_val hp m12 hx hk)).trans ?_
  have t0 : dB (d2 oIsN (dVar 3) (fun _ => pure .non)) (LqS ps x (.dat (.int (x : Int))) (.dat (.int t)) (.dat (.int (k : Int))) (.dat (.int (vQ ps (bitsL ps.length x) k)))) R = .ok false R := e_dB (e_d2 (f := oIsN) (R2 := R) (e_var rfl) rfl rfl)
  have t1 := e_dB (e_d2 (f := oGt) (e_var (i := 5) (δ := (LqS ps x (.dat (.int (x : Int))) (.dat (.int t)) (.dat (.int (k : Int))) (.dat (.int (vQ ps (bitsL ps.length x) k))))) (R := R) rfl) (e_var (i := 3) rfl) (oGt_int _ _))
  by_cases h : t < vQ ps (bitsL ps.length x) k
  · rw [decide_eq_true h] at t1
    refine (s_set ((e_ifT ((e_orF t0).trans t1)).trans (e_var rfl))).trans ?_
    rw [if_pos h]
    rfl
  · rw [decide_eq_false h] at t1
    refine (s_set ((e_ifF ((e_orF t0).trans t1)).trans (e_var rfl))).trans ?_
    rw [if_neg h]
    rfl
theorem kq_first {x k : Nat} {a5 : SD} {R : Option Rw} (hp : ∀ p ∈ ps, PtOk p) (m12 : ps.length ≤ 12) (hx : x < 2 ^ ps.length) (hk : k ∈ bitsL ps.length x) :
    kBodyQ (LqS ps x (.dat (.int (x : Int))) (.dat .non) (.dat (.int (k : Int))) a5) R =
      .nx (LqS ps x (.dat (.int (x : Int))) (.dat (.int (vQ ps (bitsL ps.length x) k))) (.dat (.int (k : Int))) (.dat (.int (vQ ps (bitsL ps.length x) k)))) R := by
  refine (s_seq (kq_val hp m12 hx hk)).trans ?_
  have t0 : dB (d2 oIsN (dVar 3) (fun _ => pure .non)) (LqS ps x (.dat (.int (x : Int))) (.dat .non) (.dat (.int (k : Int))) (.dat (.int (vQ ps (bitsL ps.length x) k)))) R = .ok true R := e_dB (e_d2 (f := oIsN) (R2 := R) (e_var rfl) rfl rfl)
  refine (s_set ((e_ifT (e_orT t0)).trans (e_var rfl))).trans ?_
  rfl
theorem kq_loop {x : Nat} {R : Option Rw} (hp : ∀ p ∈ ps, PtOk p) (m12 : ps.length ≤ 12) (hx : x < 2 ^ ps.length) : ∀ (ks : List Nat) (t : Int) (a4 a5 : SD), (∀ k ∈ ks, k ∈ bitsL ps.length x) → ∃ b4 b5,
    sLoop (.nm 4) kBodyQ (natD ks) (LqS ps x (.dat (.int (x : Int))) (.dat (.int t)) a4 a5) R =
      .nx (LqS ps x (.dat (.int (x : Int))) (.dat (.int (mxF t (ks.map (vQ ps (bitsL ps.length x)))))) b4 b5) R
  | [], t, a4, a5, _ => ⟨a4, a5, rfl⟩
  | k :: ks, t, a4, a5, hk => by
    obtain ⟨b4, b5, ih⟩ := kq_loop (R := R) hp m12 hx ks (if vQ ps (bitsL ps.length x) k > t then vQ ps (bitsL ps.length x) k else t) (.dat (.int (k : Int))) (.dat (.int (vQ ps (bitsL ps.length x) k))) fun j hj => hk j (List.mem_cons_of_mem _ hj)
    exact ⟨b4, b5, (loop_cons (δ1 := LqS ps x (.dat (.int (x : Int))) (.dat (.int t)) (.dat (.int (k : Int))) a5) rfl (kq_step hp m12 hx (hk k List.mem_cons_self))).trans ih⟩
theorem vQ_wq {st : List Nat} (hne : st ≠ []) : mxI (st.map (vQ ps st)) = wq (subP ps st) := by
  rw [wq_eq (by unfold subP; simpa using hne)]
  unfold subP
  rw [List.map_map]
  rfl
abbrev mBodyQ : SM := (sSeq (sSet 3 (fun _ => pure .non))
  (sSeq (sFor (.nm 4) (iSeq (dFn 2 F__law_numbers (lCons (dVar 2) (lCons (dCall fLen (lCons (dVar 0) lNil)) lNil)))) kBodyQ)
  (sApp 1 (dVar 3))))
theorem mq_step {x : Nat} {a3 a4 a5 : SD} {R : Option Rw} (hp : ∀ p ∈ ps, PtOk p) (m12 : ps.length ≤ 12) (h0 : 0 < x) (hx : x < 2 ^ ps.length) : ∃ b3 b4 b5,
    mBodyQ (LqS ps x (.dat (.int (x : Int))) a3 a4 a5) R = .nx (LqS ps (x + 1) (.dat (.int (x : Int))) b3 b4 b5) R := by
  have hne : bitsL ps.length x ≠ [] := fun e => by
    have := mask_bits _ _ hx
    rw [e] at this
    have z : maskL [] = 0 := rfl
    omega
  have e1 : sSet 3 (fun _ => pure .non) (LqS ps x (.dat (.int (x : Int))) a3 a4 a5) R = .nx (LqS ps x (.dat (.int (x : Int))) (.dat .non) a4 a5) R := s_set rfl
  have en : iSeq (dFn 2 F__law_numbers (lCons (dVar 2) (lCons (dCall fLen (lCons (dVar 0) lNil)) lNil))) (LqS ps x (.dat (.int (x : Int))) (.dat .non) a4 a5) R = .ok (natD (bitsL ps.length x)) R :=
    e_seq (q2 (e_var rfl) (e_call (e_cons (e_var rfl) e_nil) (d := .int (ps.length : Int)) (by rw [fLen_lst, List.length_map])) (f_numbers m12)) rfl
  cases hb : bitsL ps.length x with
  | nil => exact absurd hb hne
  | cons k ks =>
    have hk : k ∈ bitsL ps.length x := by rw [hb]; exact List.mem_cons_self
    obtain ⟨b4, b5, e2⟩ := kq_loop (R := R) hp m12 hx ks (vQ ps (bitsL ps.length x) k) (.dat (.int (k : Int))) (.dat (.int (vQ ps (bitsL ps.length x) k))) fun j hj => by rw [hb]; exact List.mem_cons_of_mem _ hj
    have ef : sLoop (.nm 4) kBodyQ (natD (bitsL ps.length x)) (LqS ps x (.dat (.int (x : Int))) (.dat .non) a4 a5) R = .nx (LqS ps x (.dat (.int (x : Int))) (.dat (.int (wq (subP ps (bitsL ps.length x))))) b4 b5) R := by
      rw [← vQ_wq hne]
      have e3 := (loop_cons (t := .nm 4) (ds := natD ks) (δ := LqS ps x (.dat (.int (x : Int))) (.dat .non) a4 a5) (δ1 := LqS ps x (.dat (.int (x : Int))) (.dat .non) (.dat (.int (k : Int))) a5) (d := .int (k : Int)) rfl (kq_first (R := R) hp m12 hx hk)).trans e2
      rw [mxF_cons] at e3
      have e4 : natD (bitsL ps.length x) = .int (k : Int) :: natD ks := by rw [hb]; rfl
      rw [e4, e3]
      have e5 : (bitsL ps.length x).map (vQ ps (bitsL ps.length x)) = vQ ps (bitsL ps.length x) k :: ks.map (vQ ps (bitsL ps.length x)) := by
        conv => lhs; arg 2; rw [hb]
        rfl
      rw [e5]
    refine ⟨.dat (.int (wq (subP ps (bitsL ps.length x)))), b4, b5, (s_seq e1).trans ((s_seq ((s_for en).trans ef)).trans ?_)⟩
    refine (s_app (i := 1) rfl (e_var (i := 3) rfl) ?_).trans ?_
    · rw [List.length_map, tabQ_len]
      have : 2 ^ ps.length ≤ 2 ^ 12 := Nat.pow_le_pow_right (by decide) m12
      exact Nat.lt_of_lt_of_le (Nat.lt_of_lt_of_le hx this) (by decide)
    · show SOut.nx [_, .own ((tabQ ps x).map D.int ++ [.int (wq (subP ps (bitsL ps.length x)))]), _, _, _, _] R = .nx [_, .own ((tabQ ps (x + 1)).map D.int), _, _, _, _] R
      rw [tabQ_succ, List.map_append]
      rfl
theorem mq_loop {R : Option Rw} (hp : ∀ p ∈ ps, PtOk p) (m12 : ps.length ≤ 12) : ∀ (c x : Nat) (a2 a3 a4 a5 : SD), 0 < x → x + c = 2 ^ ps.length → ∃ b2 b3 b4 b5,
    sLoop (.nm 2) mBodyQ (natD (List.range' x c)) (LqS ps x a2 a3 a4 a5) R = .nx (LqS ps (2 ^ ps.length) b2 b3 b4 b5) R
  | 0, x, a2, a3, a4, a5, _, h => by
    have e : x = 2 ^ ps.length := by omega
    subst e
    exact ⟨a2, a3, a4, a5, rfl⟩
  | c + 1, x, a2, a3, a4, a5, h0, h => by
    obtain ⟨c3, c4, c5, e1⟩ := mq_step (a3 := a3) (a4 := a4) (a5 := a5) (R := R) hp m12 h0 (show x < 2 ^ ps.length by omega)
    obtain ⟨b2, b3, b4, b5, ih⟩ := mq_loop (R := R) hp m12 c (x + 1) (.dat (.int (x : Int))) c3 c4 c5 (by omega) (by omega)
    rw [List.range'_succ]
    exact ⟨b2, b3, b4, b5, (loop_cons (δ1 := LqS ps x (.dat (.int (x : Int))) a3 a4 a5) rfl e1).trans ih⟩
theorem f_law_sum_worths {R : Option Rw} (hp : ∀ p ∈ ps, PtOk p) (m12 : ps.length ≤ 12) : F__law_sum_worths [.lst (ps.map pairD)] R = .ok (.lst (intD (tabQ ps (2 ^ ps.length)))) R := by
  unfold F__law_sum_worths sem__law_sum_worths
  have st0 : startD N__law_sum_worths [.lst (ps.map pairD)] = [.dat (.lst (ps.map pairD)), .none, .none, .none, .none, .none] := rfl
  have e1 : sOwn 1 (lenL (lCons (fun _ => pure (.int 0)) lNil)) [.dat (.lst (ps.map pairD)), .none, .none, .none, .none, .none] R = .nx (LqS ps 1 .none .none .none .none) R := by
    have z : bitsL ps.length 0 = [] := by
      unfold bitsL
      rw [List.filter_eq_nil_iff]
      intro k _
      simp
    have z2 : (tabQ ps 1).map D.int = [.int 0] := by
      unfold tabQ
      rw [List.range_one, List.map_cons, z]
      rfl
    show SOut.nx _ R = SOut.nx [_, .own ((tabQ ps 1).map D.int), _, _, _, _] R
    rw [z2]
    rfl
  have p1 : 0 < 2 ^ ps.length := Nat.two_pow_pos _
  have p2 : 2 ^ ps.length ≤ 2 ^ 12 := Nat.pow_le_pow_right (by decide) m12
  obtain ⟨b2, b3, b4, b5, e2⟩ := mq_loop (R := R) hp m12 (2 ^ ps.length - 1) 1 .none .none .none .none (by decide) (by omega)
  have hi : iCall rng2 (lCons (fun _ => pure (.int 1)) (lCons (d2 oShl (fun _ => pure (.int 1)) (dCall fLen (lCons (dVar 0) lNil))) lNil)) (LqS ps 1 .none .none .none .none) R = .ok (natD (List.range' 1 (2 ^ ps.length - 1))) R := by
    refine e_icall (e_cons (R1 := R) rfl (e_cons (e_d2 (f := oShl) (R1 := R) rfl (e_call (e_cons (e_var rfl) e_nil) (d := .int (ps.length : Int)) (by rw [fLen_lst, List.length_map])) (e_shl (by omega))) e_nil)) ?_
    rw [rng2_nat p1 (by omega), rangeD_one]
  rw [st0, s_seq e1, s_seq ((s_for hi).trans e2)]
  rfl
theorem tabQ_last : (tabQ ps (2 ^ ps.length)).getD (2 ^ ps.length - 1) 0 = wq ps := by
  have p1 : 0 < 2 ^ ps.length := Nat.two_pow_pos _
  rw [tabQ_get (by omega)]
  have e : bitsL ps.length (2 ^ ps.length - 1) = List.range ps.length := by
    unfold bitsL
    rw [List.filter_eq_self]
    intro k hk
    have := List.mem_range.mp hk
    rw [Nat.testBit_two_pow_sub_one]
    exact decide_eq_true this
  rw [e]
  congr 1
  unfold subP
  apply List.ext_getElem
  · simp
  · intro i h1 h2
    simp [sAt, List.getD, h2]
theorem e_last {δ : SEnv} {R : Option Rw} {i : Nat} (h : δ[i]? = some (.dat (.lst (intD (tabQ ps (2 ^ ps.length)))))) : d2 oIx (dVar i) (d2 oSub (dCall fLen (lCons (dVar i) lNil)) (fun _ => pure (.int 1))) δ R = .ok (.int (wq ps)) R := by
  have p1 : 0 < 2 ^ ps.length := Nat.two_pow_pos _
  refine e_d2 (e_var h) (e_d2 (f := oSub) (R2 := R) (e_call (e_cons (e_var h) e_nil) (d := .int ((2 ^ ps.length : Nat) : Int)) ?_) rfl (oSub_int _ _)) ?_
  · rw [fLen_lst, intD_len, tabQ_len]
  · unfold intD
    rw [getD_at (by omega) (by rw [tabQ_len]; omega), show (((2 ^ ps.length : Nat) : Int) - 1).toNat = 2 ^ ps.length - 1 by omega, tabQ_last]
end
end DL

set_option Elab.async false
set_option linter.all false
set_option maxRecDepth 100000
namespace DL
open PySem PySem.Spec L2
/-! ### what is no sum of long parts -/
def sI (ns : List Int) : D := .tup (intD ns)
def wrongS : List D := [.tup [sI [2], sI []], .tup [sI [1, 3], sI [4]], .tup [sI [3], sI [3]], .tup [sI [], sI [2, 8]], .tup [sI [4], sI [7, 7]], .non, .tup [sI [3, 3]], .tup [.lst (intD [3]), sI []], .tup [.tup [.bl true], sI []]]
theorem wrong_need : ∀ d ∈ wrongS, ∀ R, F_need_long [d] R = .exn "BadSum" d R := by
  intro d hd R
  simp only [wrongS, List.mem_cons, List.not_mem_nil, or_false] at hd
  rcases hd with rfl | rfl | rfl | rfl | rfl | rfl | rfl | rfl | rfl <;> kernel_rfl
theorem wrong_nice : ∀ d ∈ wrongS, Nice 200 10 d := by
  intro d hd
  simp only [wrongS, List.mem_cons, List.not_mem_nil, or_false] at hd
  rcases hd with rfl | rfl | rfl | rfl | rfl | rfl | rfl | rfl | rfl <;> exact ⟨by decide +kernel, by decide +kernel, by decide +kernel, by decide +kernel, by decide +kernel, by decide +kernel, by decide +kernel⟩
end DL

set_option Elab.async false
set_option linter.all false
set_option maxRecDepth 100000
namespace DL
open PySem PySem.Spec L2
/-! ### sizes drawn -/
section
variable {Γ : Ctx} {q : Addr}
theorem ints_of {P : Int → Prop} : ∀ {es : List D}, (∀ e ∈ es, ∃ s : Int, e = .int s ∧ P s) → ∃ ns : List Int, es = intD ns ∧ ∀ s ∈ ns, P s
  | [], _ => ⟨[], rfl, fun _ h => nomatch h⟩
  | e :: es, h => by
    obtain ⟨s, rfl, hs⟩ := h e List.mem_cons_self
    obtain ⟨ns, rfl, h2⟩ := ints_of (es := es) fun x hx => h x (List.mem_cons_of_mem _ hx)
    exact ⟨s :: ns, rfl, fun x hx => by
      rcases List.mem_cons.mp hx with rfl | hx
      · exact hs
      · exact h2 x hx⟩
theorem e_draws {P : Int → Prop} {fe : SEnv → M D} {δ : SEnv} {j : Nat} {m : Int} {R : Option Rw} (h0 : 0 ≤ m) (h1 : m ≤ 100) (hj : δ[j]? = some (.dat (.int m))) (hR : Gd q R)
    (h : ∀ d R, Gd q R → ∃ s R2, fe ((blkD δ [3]).set 3 (.dat d)) R = .ok (.int s) R2 ∧ Gd q R2 ∧ P s) :
    ∃ ns R', dCall fSorted (lCons (dComp [3] (.nm 3) (iCall rng1 (lCons (dVar j) lNil)) bYes fe) lNil) δ R = .ok (.lst (intD ns)) R' ∧ Gd q R' ∧ ns.Pairwise (· ≤ ·) ∧ (ns.length : Int) ≤ m ∧ ∀ s ∈ ns, P s := by
  obtain ⟨sel, es, R', e, g, s, f⟩ := comp_draw (t := .nm 3) (ft := bYes) (fe := fe) (δ := blkD δ [3]) (I := Gd q) (P := fun _ e => ∃ s : Int, e = .int s ∧ P s) (ds := rangeD 0 m.toNat) hR fun d _ R hR => by
    obtain ⟨s, R2, e1, g1, p1⟩ := h d R hR
    exact ⟨_, rfl, true, R, rfl, hR, fun _ => ⟨_, R2, e1, g1, s, rfl, p1⟩⟩
  obtain ⟨ns, rfl, hp⟩ := ints_of (P := P) (es := es) (f2_right (Q := fun (e : D) => ∃ s : Int, e = D.int s ∧ P s) (fun a b h => h) f)
  have hl := f2_len f
  have hl2 := s.length_le
  rw [rangeD_length] at hl2
  rw [intD_len] at hl
  have er : rng1 [.int m] = some (rangeD 0 m.toNat) := by
    have := rng1_nat (m := m.toNat) (by omega)
    rw [Int.toNat_of_nonneg h0] at this
    exact this
  have hz : 100 ≤ sizeLine := by decide
  have ec := e_compS (vs := [3]) (e_icall (f := rng1) (e_cons (e_var (R := R) hj) e_nil) er) (by rw [rangeD_length]; omega) e
  refine ⟨srt ns, R', e_call (e_cons ec e_nil) ?_, g, srt_sorted ns, ?_, fun s hs => hp s ((srt_perm ns).mem_iff.mp hs)⟩
  · show (nums (intD ns)).map _ = _
    rw [nums_intD]
    rfl
  · have := (srt_perm ns).length_eq
    omega
theorem f_law_any {m : Int} {R : Option Rw} (h0 : 0 ≤ m) (h1 : m ≤ 100) (hR : Gd q R) : ∃ ns R', F__law_any Γ [.row q, .int m, .int 3] R = .ok (.lst (intD ns)) R' ∧ Gd q R' ∧ ns.Pairwise (· ≤ ·) ∧ (ns.length : Int) ≤ m ∧ ∀ s ∈ ns, 3 ≤ s ∧ s ≤ 11 := by
  unfold F__law_any sem__law_any
  have st0 : startD N__law_any [.row q, .int m, .int 3] = [.dat (.row q), .dat (.int m), .dat (.int 3), .none] := rfl
  rw [st0]
  obtain ⟨ns, R', e, g, p1, p2, p3⟩ := e_draws (q := q) (j := 1) (P := fun s => 3 ≤ s ∧ s ≤ 11) (δ := [.dat (.row q), .dat (.int m), .dat (.int 3), .none]) (fe := d2 oPlus (dVar 2) (dFn 2 (F__law_taken Γ) (lCons (dVar 0) (lCons (dFn 2 (F__law_pick Γ) (lCons (dVar 0) (lCons (dLst (lCons (fun _ => pure (.int 1)) (lCons (fun _ => pure (.int 2)) (lCons (fun _ => pure (.int 9)) lNil)))) lNil))) lNil)))) h0 h1 rfl hR fun d R hR => by
    obtain ⟨x, R1, e1, hx, g1⟩ := f_law_pick (Γ := Γ) (ds := [.int 1, .int 2, .int 9]) (by simp) (by simp) hR
    obtain ⟨k, rfl, k1, k9⟩ : ∃ k : Int, x = .int k ∧ 1 ≤ k ∧ k ≤ 9 := by
      simp only [List.mem_cons, List.not_mem_nil, or_false] at hx
      rcases hx with rfl | rfl | rfl <;> exact ⟨_, rfl, by omega, by omega⟩
    obtain ⟨t, R2, e2, t0, t1, g2⟩ := f_taken (Γ := Γ) (m := k) (by omega) (by omega) g1
    exact ⟨3 + t, R2, e_d2 (e_var rfl) (q2 (e_var rfl) (q2 (e_var rfl) (e_lst (e_cons (R1 := R) (d := .int 1) rfl (e_cons (R1 := R) (d := .int 2) rfl (e_cons (R1 := R) (d := .int 9) rfl e_nil))) (show 3 ≤ sizeLine by decide)) e1) e2) (oPlus_int _ _), g2, by omega, by omega⟩
  exact ⟨ns, R', by rw [s_ret e]; rfl, g, p1, p2, p3⟩
theorem f_law_even {m : Int} {R : Option Rw} (h0 : 0 ≤ m) (h1 : m ≤ 100) (hR : Gd q R) : ∃ ns R', F__law_even Γ [.row q, .int m, .int 4] R = .ok (.lst (intD ns)) R' ∧ Gd q R' ∧ ns.Pairwise (· ≤ ·) ∧ (ns.length : Int) ≤ m ∧ ∀ s ∈ ns, s ∈ rsV := by
  unfold F__law_even sem__law_even
  have st0 : startD N__law_even [.row q, .int m, .int 4] = [.dat (.row q), .dat (.int m), .dat (.int 4), .none] := rfl
  rw [st0]
  obtain ⟨ns, R', e, g, p1, p2, p3⟩ := e_draws (q := q) (j := 1) (P := fun s => s ∈ rsV) (δ := [.dat (.row q), .dat (.int m), .dat (.int 4), .none]) (fe := d2 oPlus (dVar 2) (d2 oTimesI (fun _ => pure (.int 2)) (dFn 2 (F__law_taken Γ) (lCons (dVar 0) (lCons (fun _ => pure (.int 5)) lNil))))) h0 h1 rfl hR fun d R hR => by
    obtain ⟨t, R2, e2, t0, t1, g2⟩ := f_taken (Γ := Γ) (m := 5) (by omega) (by omega) hR
    refine ⟨4 + 2 * t, R2, e_d2 (e_var rfl) (e_d2 (f := oTimesI) (R1 := R) rfl (q2 (e_var rfl) (b := .int 5) (R2 := R) rfl e2) (oTimes_int (by omega))) (oPlus_int _ _), g2, ?_⟩
    have : t = 0 ∨ t = 1 ∨ t = 2 ∨ t = 3 ∨ t = 4 := by omega
    rcases this with rfl | rfl | rfl | rfl | rfl <;> decide
  exact ⟨ns, R', by rw [s_ret e]; rfl, g, p1, p2, p3⟩
end
theorem CtlOk.long {ch rs : List Int} (h : CtlOk ch rs) : LongOk ch rs where
  s := {
    c1 := h.c1
    r1 := h.r1
    c2 := fun s hs => by
      have := h.c2 s hs
      simp only [chV, List.mem_cons, List.not_mem_nil, or_false] at this
      omega
    r2 := fun s hs => by
      have := h.r2 s hs
      simp only [rsV, List.mem_cons, List.not_mem_nil, or_false] at this
      omega
    len := by have := h.c3; have := h.r3; omega }
  c3 := fun s hs => by
    have := h.c2 s hs
    simp only [chV, List.mem_cons, List.not_mem_nil, or_false] at this
    omega
  r4 := fun s hs => by
    have := h.r2 s hs
    simp only [rsV, List.mem_cons, List.not_mem_nil, or_false] at this
    omega
theorem mem_chV {s : Int} (h : 3 ≤ s ∧ s ≤ 11) : s ∈ chV := by
  simp only [chV, List.mem_cons, List.not_mem_nil, or_false]
  omega
theorem sumP_pairs (ch rs : List Int) : (sumP ch rs).map pairD = ch.map (fun s => D.tup [.int 2, .int s]) ++ rs.map fun s => D.tup [.int 4, .int s] := by
  unfold sumP
  rw [List.map_append, List.map_map, List.map_map]
  rfl
section
variable {q : Addr} {Γ : Ctx}
abbrev L9 (q : Addr) (a2 a3 a4 a5 a6 a7 a8 a9 a10 a11 a12 : SD) : SEnv := [.none, .dat (.row q), a2, a3, a4, a5, a6, a7, a8, a9, a10, a11, a12]
theorem e_parts {ch rs : List Int} {a2 a5 a6 a7 a8 a9 a10 a11 a12 : SD} {R : Option Rw} (h : CtlOk ch rs) : d2 oPlus (dComp [8] (.nm 8) (iSeq (dVar 3)) bYes (dTup (lCons (fun _ => pure (.int 2)) (lCons (dVar 8) lNil)))) (dComp [8] (.nm 8) (iSeq (dVar 4)) bYes (dTup (lCons (fun _ => pure (.int 4)) (lCons (dVar 8) lNil)))) (L9 q a2 (.dat (.lst (intD ch))) (.dat (.lst (intD rs))) a5 a6 a7 a8 a9 a10 a11 a12) R = .ok (.lst ((sumP ch rs).map pairD)) R := by
  have l3 := h.c3
  have l2 := h.r3
  refine e_d2 (e_mapI (f := fun s => .tup [.int 2, .int s]) (e_seq (e_var rfl) rfl) (by omega) fun k hk => ⟨_, rfl, fun R => e_tup (e_cons (R1 := R) (d := .int 2) rfl (e_cons (e_var rfl) e_nil)) (show 2 ≤ sizeLine by decide)⟩)
    (e_mapI (f := fun s => .tup [.int 4, .int s]) (e_seq (e_var rfl) rfl) (by omega) fun k hk => ⟨_, rfl, fun R => e_tup (e_cons (R1 := R) (d := .int 4) rfl (e_cons (e_var rfl) e_nil)) (show 2 ≤ sizeLine by decide)⟩) ?_
  rw [sumP_pairs]
  have hz : 100 ≤ sizeLine := by decide
  exact oPlus_lst (by rw [List.length_map, List.length_map]; omega)
noncomputable abbrev turnB (Γ : Ctx) : SM := (sSeq (sSet 3 (dFn 3 (F__law_any Γ) (lCons (dVar 1) (lCons (dFn 2 (F__law_taken Γ) (lCons (dVar 1) (lCons (fun _ => pure (.int 4)) lNil))) (lCons (fun _ => pure (.int 3)) lNil)))))
  (sSeq (sSet 4 (dFn 3 (F__law_even Γ) (lCons (dVar 1) (lCons (dFn 2 (F__law_taken Γ) (lCons (dVar 1) (lCons (fun _ => pure (.int 3)) lNil))) (lCons (fun _ => pure (.int 4)) lNil)))))
  (sSeq (sSet 5 (dTup (lCons (dCall fTuple (lCons (dVar 3) lNil)) (lCons (dCall fTuple (lCons (dVar 4) lNil)) lNil))))
  (sSeq (sSet 6 (dFn 2 F__law_controlled (lCons (dVar 3) (lCons (dVar 4) lNil))))
  (sSeq (sIf (bOr (bNot (dT (dFn 2 (FR__law_alike 8) (lCons (dFn 1 F_controlled (lCons (dVar 5) lNil)) (lCons (dVar 6) lNil))))) (bNot (dT (dFn 2 (FR__law_alike 8) (lCons (dFn 1 F_is_controlled (lCons (dVar 5) lNil)) (lCons (d2 oGe (dVar 6) (fun _ => pure (.int 2))) lNil)))))) (sRet (fun _ => pure (.bl false))) sNx)
  (sSeq (sIf (bNot (dT (dFn 2 (FR__law_alike 8) (lCons (dFn 1 F_long_kinds (lCons (dVar 5) lNil)) (lCons (dTup (lCons (dCall fLen (lCons (dVar 3) lNil)) (lCons (dCall fLen (lCons (dVar 4) lNil)) (lCons (d2 oPlus (dCall fSum (lCons (dVar 3) lNil)) (dCall fSum (lCons (dVar 4) lNil))) lNil)))) lNil))))) (sRet (fun _ => pure (.bl false))) sNx)
  (sSeq (sSet 7 (dFn 1 F__law_sum_worths (lCons (d2 oPlus (dComp [8] (.nm 8) (iSeq (dVar 3)) bYes (dTup (lCons (fun _ => pure (.int 2)) (lCons (dVar 8) lNil)))) (dComp [8] (.nm 8) (iSeq (dVar 4)) bYes (dTup (lCons (fun _ => pure (.int 4)) (lCons (dVar 8) lNil))))) lNil)))
  (sSeq (sSet 9 (d2 oIx (dVar 7) (d2 oSub (dCall fLen (lCons (dVar 7) lNil)) (fun _ => pure (.int 1)))))
  (sSeq (sIf (dB (d2 oNe (dFn 1 (F_sum_worth Γ) (lCons (dVar 5) lNil)) (dVar 9))) (sRet (fun _ => pure (.bl false))) sNx)
  (sIf (bAnd (dB (d2 oGe (dVar 6) (fun _ => pure (.int 2)))) (dB (d2 oNe (dVar 9) (d2 oSub (fun _ => pure (.int 0)) (dVar 6))))) (sRet (fun _ => pure (.bl false))) sNx))))))))))
theorem ok_alike {d : D} {R : Option Rw} (h : aok 8 d = true) : FR__law_alike 8 [d, d] R = .ok (.bl true) R := alike_same 8 d R h
theorem turn_ok {a2 a3 a4 a5 a6 a7 a9 : SD} {R : Option Rw} (h0 : Γ.own = []) (hm : Γ.mem = memT) (hR : Gd q R) : ∃ b3 b4 b5 b6 b7 b9 R', turnB Γ (L9 q a2 a3 a4 a5 a6 a7 .none a9 .none .none .none) R = .nx (L9 q a2 b3 b4 b5 b6 b7 .none b9 .none .none .none) R' ∧ Gd q R' := by
  obtain ⟨m1, R1, e1, m10, m14, g1⟩ := f_taken (Γ := Γ) (m := 4) (by omega) (by omega) hR
  obtain ⟨ch, R2, e2, g2, c1, c3, c2⟩ := f_law_any (Γ := Γ) (m := m1) m10 (by omega) g1
  obtain ⟨m2, R3, e3, m20, m23, g3⟩ := f_taken (Γ := Γ) (m := 3) (by omega) (by omega) g2
  obtain ⟨rs, R4, e4, g4, r1, r3, r2⟩ := f_law_even (Γ := Γ) (m := m2) m20 (by omega) g3
  have H : CtlOk ch rs := ⟨c1, r1, fun s hs => mem_chV (c2 s hs), r2, by omega, by omega⟩
  have L := H.long
  have l3 := H.c3
  have l2 := H.r3
  have s1 := s_set (i := 3) (δ := L9 q a2 a3 a4 a5 a6 a7 .none a9 .none .none .none) (q3 (F := F__law_any Γ) (e_var (i := 1) rfl) (q2 (e_var (i := 1) rfl) (fb := fun _ => pure (.int 4)) (b := .int 4) (R2 := R) rfl e1) (fc := fun _ => pure (.int 3)) (c := .int 3) (R3 := R1) rfl e2)
  have s2 := s_set (i := 4) (δ := L9 q a2 (.dat (.lst (intD ch))) a4 a5 a6 a7 .none a9 .none .none .none) (q3 (F := F__law_even Γ) (e_var (i := 1) rfl) (q2 (e_var (i := 1) rfl) (fb := fun _ => pure (.int 3)) (b := .int 3) (R2 := R2) rfl e3) (fc := fun _ => pure (.int 4)) (c := .int 4) (R3 := R3) rfl e4)
  have s3 := s_set (i := 5) (R := R4) (δ := L9 q a2 (.dat (.lst (intD ch))) (.dat (.lst (intD rs))) a5 a6 a7 .none a9 .none .none .none) (e_tup (ds := [.tup (intD ch), .tup (intD rs)]) (e_cons (e_call (f := fTuple) (e_cons (e_var (i := 3) rfl) e_nil) rfl) (e_cons (e_call (f := fTuple) (e_cons (e_var (i := 4) rfl) e_nil) rfl) e_nil)) (show 2 ≤ sizeLine by decide))
  have s4 := s_set (i := 6) (R := R4) (δ := L9 q a2 (.dat (.lst (intD ch))) (.dat (.lst (intD rs))) (.dat (totD ch rs)) a6 a7 .none a9 .none .none .none) (q2 (F := F__law_controlled) (e_var (i := 3) rfl) (e_var (i := 4) rfl) (f_law_controlled c1 (by omega) (by omega)))
  have k1 : bOr (bNot (dT (dFn 2 (FR__law_alike 8) (lCons (dFn 1 F_controlled (lCons (dVar 5) lNil)) (lCons (dVar 6) lNil))))) (bNot (dT (dFn 2 (FR__law_alike 8) (lCons (dFn 1 F_is_controlled (lCons (dVar 5) lNil)) (lCons (d2 oGe (dVar 6) (fun _ => pure (.int 2))) lNil))))) (L9 q a2 (.dat (.lst (intD ch))) (.dat (.lst (intD rs))) (.dat (totD ch rs)) (.dat (.int (cvP ch rs))) a7 .none a9 .none .none .none) R4 = .ok false R4 :=
    (e_orF (e_not (k := true) (e_dTb (q2 (q1 (e_var rfl) (f_controlled L)) (e_var rfl) (ok_alike rfl))))).trans (e_not (k := true) (e_dTb (q2 (q1 (e_var rfl) (f_is_controlled L)) (e_d2 (f := oGe) (R2 := R4) (e_var rfl) rfl (oGe_int _ _)) (ok_alike rfl))))
  have ln : ∀ ns : List Int, fLen [.lst (intD ns)] = some (.int (ns.length : Int)) := fun ns => by rw [← intD_len ns]; rfl
  have k2 : bNot (dT (dFn 2 (FR__law_alike 8) (lCons (dFn 1 F_long_kinds (lCons (dVar 5) lNil)) (lCons (dTup (lCons (dCall fLen (lCons (dVar 3) lNil)) (lCons (dCall fLen (lCons (dVar 4) lNil)) (lCons (d2 oPlus (dCall fSum (lCons (dVar 3) lNil)) (dCall fSum (lCons (dVar 4) lNil))) lNil)))) lNil)))) (L9 q a2 (.dat (.lst (intD ch))) (.dat (.lst (intD rs))) (.dat (totD ch rs)) (.dat (.int (cvP ch rs))) a7 .none a9 .none .none .none) R4 = .ok false R4 :=
    e_not (k := true) (e_dTb (q2 (q1 (e_var rfl) (f_long_kinds L)) (e_tup (e_cons (e_call (e_cons (e_var rfl) e_nil) (ln ch)) (e_cons (e_call (e_cons (e_var rfl) e_nil) (ln rs)) (e_cons (e_d2 (e_call (e_cons (e_var rfl) e_nil) (fSum_lst ch)) (e_call (e_cons (e_var rfl) e_nil) (fSum_lst rs)) (oPlus_int _ _)) e_nil))) (show 3 ≤ sizeLine by decide)) (ok_alike rfl)))
  have s7 := s_set (i := 7) (R := R4) (δ := L9 q a2 (.dat (.lst (intD ch))) (.dat (.lst (intD rs))) (.dat (totD ch rs)) (.dat (.int (cvP ch rs))) a7 .none a9 .none .none .none) (q1 (F := F__law_sum_worths) (e_parts H) (f_law_sum_worths sumP_ok (by rw [sumP_len]; omega)))
  have s8 := s_set (i := 9) (R := R4) (δ := L9 q a2 (.dat (.lst (intD ch))) (.dat (.lst (intD rs))) (.dat (totD ch rs)) (.dat (.int (cvP ch rs))) (.dat (.lst (intD (tabQ (sumP ch rs) (2 ^ (sumP ch rs).length))))) .none a9 .none .none .none) (e_last (i := 7) rfl)
  have k3 := e_dB (e_d2 (f := oNe) (R := R4) (δ := L9 q a2 (.dat (.lst (intD ch))) (.dat (.lst (intD rs))) (.dat (totD ch rs)) (.dat (.int (cvP ch rs))) (.dat (.lst (intD (tabQ (sumP ch rs) (2 ^ (sumP ch rs).length))))) .none (.dat (.int (wq (sumP ch rs)))) .none .none .none) (q1 (F := F_sum_worth Γ) (e_var (i := 5) rfl) (f_sum_worth L.s h0 hm)) (e_var (i := 9) rfl) (oNe_eq rfl))
  have k4 : bAnd (dB (d2 oGe (dVar 6) (fun _ => pure (.int 2)))) (dB (d2 oNe (dVar 9) (d2 oSub (fun _ => pure (.int 0)) (dVar 6)))) (L9 q a2 (.dat (.lst (intD ch))) (.dat (.lst (intD rs))) (.dat (totD ch rs)) (.dat (.int (cvP ch rs))) (.dat (.lst (intD (tabQ (sumP ch rs) (2 ^ (sumP ch rs).length))))) .none (.dat (.int (wq (sumP ch rs)))) .none .none .none) R4 = .ok false R4 := by
    have t := e_dB (e_d2 (f := oGe) (fb := fun _ => pure (.int 2)) (R2 := R4) (e_var (i := 6) (δ := L9 q a2 (.dat (.lst (intD ch))) (.dat (.lst (intD rs))) (.dat (totD ch rs)) (.dat (.int (cvP ch rs))) (.dat (.lst (intD (tabQ (sumP ch rs) (2 ^ (sumP ch rs).length))))) .none (.dat (.int (wq (sumP ch rs)))) .none .none .none) (R := R4) rfl) rfl (oGe_int _ _))
    by_cases h2 : 2 ≤ cvP ch rs
    · rw [decide_eq_true h2] at t
      refine (e_andT t).trans (e_dB (e_d2 (f := oNe) (e_var rfl) (e_d2 (f := oSub) (R1 := R4) rfl (e_var rfl) (oSub_int _ _)) (oNe_eq ?_)))
      have := control H h2
      unfold wS at this
      rw [this]
      omega
    · rw [decide_eq_false h2] at t
      exact e_andF t
  exact ⟨_, _, _, _, _, _, R4, (s_seq s1).trans ((s_seq s2).trans ((s_seq s3).trans ((s_seq s4).trans ((s_skip k1).trans ((s_skip k2).trans ((s_seq s7).trans ((s_seq s8).trans ((s_skip k3).trans ((s_ifF k4).trans (show sNx _ R4 = .nx _ R4 from rfl)))))))))), g4⟩
theorem turns_ok (h0 : Γ.own = []) (hm : Γ.mem = memT) : ∀ (ds : List D) (a2 a3 a4 a5 a6 a7 a9 : SD) (R : Option Rw), Gd q R → ∃ b2 b3 b4 b5 b6 b7 b9 R', sLoop (.nm 2) (turnB Γ) ds (L9 q a2 a3 a4 a5 a6 a7 .none a9 .none .none .none) R = .nx (L9 q b2 b3 b4 b5 b6 b7 .none b9 .none .none .none) R' ∧ Gd q R'
  | [], a2, a3, a4, a5, a6, a7, a9, R, hR => ⟨a2, a3, a4, a5, a6, a7, a9, R, rfl, hR⟩
  | d :: ds, a2, a3, a4, a5, a6, a7, a9, R, hR => by
    obtain ⟨c3, c4, c5, c6, c7, c9, R1, e1, g1⟩ := turn_ok (Γ := Γ) (q := q) (a2 := .dat d) (a3 := a3) (a4 := a4) (a5 := a5) (a6 := a6) (a7 := a7) (a9 := a9) h0 hm hR
    obtain ⟨b2, b3, b4, b5, b6, b7, b9, R', ih, g⟩ := turns_ok h0 hm ds (.dat d) c3 c4 c5 c6 c7 c9 R1 g1
    exact ⟨b2, b3, b4, b5, b6, b7, b9, R', (loop_cons (δ1 := L9 q (.dat d) a3 a4 a5 a6 a7 .none a9 .none .none .none) rfl e1).trans ih, g⟩
end
end DL

set_option Elab.async false
set_option linter.all false
set_option maxRecDepth 100000
namespace DL
open PySem PySem.Spec L2
/-! ### refusals, the whole -/
section
variable {Γ : Ctx} {q : Addr} {R : Option Rw}
theorem f_controlledX {d : D} (h : ∀ R, F_need_long [d] R = .exn "BadSum" d R) : F_controlled [d] R = .exn "BadSum" d R := by
  simp [F_controlled, sem_controlled, startD, N_controlled, h]
theorem f_is_controlledX {d : D} (h : ∀ R, F_need_long [d] R = .exn "BadSum" d R) : F_is_controlled [d] R = .exn "BadSum" d R := by
  simp [F_is_controlled, sem_is_controlled, startD, N_is_controlled, fun R => f_controlledX (R := R) h]
theorem f_long_kindsX {d : D} (h : ∀ R, F_need_long [d] R = .exn "BadSum" d R) : F_long_kinds [d] R = .exn "BadSum" d R := by
  simp [F_long_kinds, sem_long_kinds, startD, N_long_kinds, h]
def Asks (Γ : Ctx) (d : D) (x : String) : Prop := ∃ F, (tab_ask Γ).lookup x = some (1, F) ∧ ∀ R, F [d] R = .exn "BadSum" d R
theorem asks_all {d : D} (h : ∀ R, F_need_long [d] R = .exn "BadSum" d R) : ∀ x ∈ ["controlled", "is_controlled", "long_kinds"], Asks Γ d x := by
  intro x hx
  simp only [List.mem_cons, List.not_mem_nil, or_false] at hx
  rcases hx with rfl | rfl | rfl
  · exact ⟨F_controlled, rfl, fun R => f_controlledX h⟩
  · exact ⟨F_is_controlled, rfl, fun R => f_is_controlledX h⟩
  · exact ⟨F_long_kinds, rfl, fun R => f_long_kindsX h⟩
noncomputable abbrev askB (Γ : Ctx) : SM := (sIf (dB (d2 oNe (dCall fRepr (lCons (dRef refW (dHeld 12 (tab_ask Γ) (lCons (dVar 11) lNil))) lNil)) (dCall fRepr (lCons (dTup (lCons (fun _ => pure (.str ("sum" : Str))) (lCons (dVar 11) lNil))) lNil)))) (sRet (fun _ => pure (.bl false))) sNx)
theorem asks_loop {d : D} (hn : Nice 200 10 d) {a2 a3 a4 a5 a6 a7 a9 a10 : SD} : ∀ (xs : List String) (a12 : SD), (∀ x ∈ xs, Asks Γ d x) →
    ∃ b12, sLoop (.nm 12) (askB Γ) (xs.map D.fn) (L9 q a2 a3 a4 a5 a6 a7 .none a9 a10 (.dat d) a12) R = .nx (L9 q a2 a3 a4 a5 a6 a7 .none a9 a10 (.dat d) b12) R
  | [], a12, _ => ⟨a12, rfl⟩
  | x :: xs, a12, h => by
    obtain ⟨F, e1, e2⟩ := h x List.mem_cons_self
    obtain ⟨b12, e4⟩ := asks_loop hn (a2 := a2) (a3 := a3) (a4 := a4) (a5 := a5) (a6 := a6) (a7 := a7) (a9 := a9) (a10 := a10) xs (.dat (.fn x)) fun y hy => h y (List.mem_cons_of_mem _ hy)
    have k1 := e_dB (e_refCmp (b := false) (o := oNe) (ws := refW) (fb := dHeld 12 (tab_ask Γ) (lCons (dVar 11) lNil)) (fd := dVar 11) (w := ("sum" : Str)) (δ := L9 q a2 a3 a4 a5 a6 a7 .none a9 a10 (.dat d) (.dat (.fn x))) (R := R) oNe_same ((e_held (x := x) rfl e1).trans (q1 (e_var rfl) (e2 R))) rfl (e_var rfl) hn (by omega) (by omega) (by decide +kernel) (by decide +kernel) (by decide +kernel))
    exact ⟨b12, (loop_cons (δ1 := L9 q a2 a3 a4 a5 a6 a7 .none a9 a10 (.dat d) (.dat (.fn x))) rfl ((s_ifF k1).trans rfl)).trans e4⟩
end
theorem law_ok (Γ : Ctx) (h0 : Γ.own = []) (hm : Γ.mem = memT) (q : Addr) : ∃ R', sem_law Γ (startLaw N_law 1 q) (some ⟨q, 0, 313, 0⟩) = .rt (.bl true) R' := by
  have g0 : Gd q (some ⟨q, 0, 313, 0⟩) := ⟨_, rfl, rfl, by show (0 : Int) ≤ 0; omega⟩
  have st0 : startLaw N_law 1 q = L9 q .none .none .none .none .none .none .none .none .none .none .none := rfl
  obtain ⟨b2, b3, b4, b5, b6, b7, b9, R1, e1, g1⟩ := turns_ok (Γ := Γ) (q := q) h0 hm (rangeD 0 6) .none .none .none .none .none .none .none _ g0
  have s1 := (s_for (t := .nm 2) (body := turnB Γ) (fi := iCall rng1 (lCons (fun _ => pure (.int 6)) lNil)) (δ := L9 q .none .none .none .none .none .none .none .none .none .none .none) (R := some ⟨q, 0, 313, 0⟩) (e_icall (e_cons (R1 := some ⟨q, 0, 313, 0⟩) rfl e_nil) (rng1_nat (m := 6) (by omega)))).trans e1
  have s2 : sSet 10 (dLst (lCons (dTup (lCons (dTup (lCons (fun _ => pure (.int 2)) lNil)) (lCons (dTup lNil) lNil))) (lCons (dTup (lCons (dTup (lCons (fun _ => pure (.int 1)) (lCons (fun _ => pure (.int 3)) lNil))) (lCons (dTup (lCons (fun _ => pure (.int 4)) lNil)) lNil))) (lCons (dTup (lCons (dTup (lCons (fun _ => pure (.int 3)) lNil)) (lCons (dTup (lCons (fun _ => pure (.int 3)) lNil)) lNil))) (lCons (dTup (lCons (dTup lNil) (lCons (dTup (lCons (fun _ => pure (.int 2)) (lCons (fun _ => pure (.int 8)) lNil))) lNil))) (lCons (dTup (lCons (dTup (lCons (fun _ => pure (.int 4)) lNil)) (lCons (dTup (lCons (fun _ => pure (.int 7)) (lCons (fun _ => pure (.int 7)) lNil))) lNil))) (lCons (fun _ => pure .non) (lCons (dTup (lCons (dTup (lCons (fun _ => pure (.int 3)) (lCons (fun _ => pure (.int 3)) lNil))) lNil)) (lCons (dTup (lCons (dLst (lCons (fun _ => pure (.int 3)) lNil)) (lCons (dTup lNil) lNil))) (lCons (dTup (lCons (dTup (lCons (fun _ => pure (.bl true)) lNil)) (lCons (dTup lNil) lNil))) lNil)))))))))) (L9 q b2 b3 b4 b5 b6 b7 .none b9 .none .none .none) R1 = .nx (L9 q b2 b3 b4 b5 b6 b7 .none b9 (.dat (.lst wrongS)) .none .none) R1 := by kernel_rfl
  obtain ⟨d, R2, e3, hd, g2⟩ := f_law_pick (Γ := Γ) (ds := wrongS) (by simp [wrongS]) (by simp [wrongS]) g1
  have s3 := s_set (i := 11) (δ := L9 q b2 b3 b4 b5 b6 b7 .none b9 (.dat (.lst wrongS)) .none .none) (q2 (F := F__law_pick Γ) (e_var (i := 1) rfl) (e_var (i := 10) rfl) e3)
  obtain ⟨b12, e4⟩ := asks_loop (Γ := Γ) (q := q) (R := R2) (wrong_nice d hd) (a2 := b2) (a3 := b3) (a4 := b4) (a5 := b5) (a6 := b6) (a7 := b7) (a9 := b9) (a10 := .dat (.lst wrongS)) ["controlled", "is_controlled", "long_kinds"] .none (asks_all (wrong_need d hd))
  have s4 := (s_for (t := .nm 12) (body := askB Γ) (fi := iSeq (dLst (lCons (fun _ => pure (.fn "controlled")) (lCons (fun _ => pure (.fn "is_controlled")) (lCons (fun _ => pure (.fn "long_kinds")) lNil))))) (δ := L9 q b2 b3 b4 b5 b6 b7 .none b9 (.dat (.lst wrongS)) (.dat d) .none) (R := R2) (ds := ["controlled", "is_controlled", "long_kinds"].map D.fn) rfl).trans e4
  refine ⟨R2, ?_⟩
  unfold sem_law
  rw [st0]
  exact (s_seq s1).trans ((s_seq s2).trans ((s_seq s3).trans ((s_seq s4).trans (s_ret (d := .bl true) (R1 := R2) rfl))))
end DL

set_option Elab.async false
set_option linter.all false
set_option maxRecDepth 100000
set_option maxHeartbeats 0
open PySem PySem.W PySem.Calls PyProof.Rows
theorem PySem.Challenge.cw_boxesclosed_k09_whole_control_holds : PySem.Challenge.rw_boxesclosed_k09_whole_control.Holds := by
  w_on; o_law
  refine HandSHeadRun.head_any (r := DL.RL) (q := view DL.RL.prog [40]) (H := DL.hkL) (ob := DL.obL) (M := 12000) (loose := DL.namesL) (d := HandSHeadRun.topDef DL.RL.prog 40) (kwd := []) DL.obL_eq
    (by kernel_rfl) (fun s => by kernel_rfl) DL.runL (by kernel_rfl) (by kernel_rfl) (by kernel_rfl) (by rfl) (by first | assumption | decide +kernel) (by decide +kernel) ⟨rfl, rfl, rfl, rfl, rfl, by decide +kernel⟩ ?hw ?hc
  case hw => w_witness2
  case hc =>
    refine DL.walk_own (l := PySem.Challenge.rw_boxesclosed_k09_whole_control) (lawI := 25) (N := DL.N_law) (k := 35) (lawD := DL.dd_law) rfl rfl (by kernel_rfl) ⟨rfl, by decide, by decide⟩ rfl rfl rfl rfl rfl rfl DL.sc_law (by simp [DL.faL]) (fun FD => FD.bindsN fun _ _ _ _ _ _ us hl => match us, hl with | [_], _ => rfl) ?_
    intro w K mg h base f a cells cdv st H X G X2 G2 s hl hbits hcd TB hT hscr hni hr
    exact DL.law_runs (val := fun _ _ _ => 0) (mem := DL.memT) PySem.Challenge.rw_boxesclosed_k09_whole_control rfl X G s hcd TB hT hscr hni hr fun q => DL.law_ok _ rfl rfl q

