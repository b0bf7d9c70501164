import PyProof.Rows.All
import HandS.ClsMeth
import HandS.Codes
import HandS.EndOwn
import HandS.EndTab
import HandS.Exc
import HandS.ExcField
import HandS.ExcInit
import HandS.ExcOwn
import HandS.ForMost
import HandS.Head2
import HandS.HeadHook4
import HandS.HeadWalk
import HandS.IsInst
import HandS.Lambda
import HandS.ListEq
import HandS.More
import HandS.RaiseMore
import HandS.Replace
import HandS.RevRange
import HandS.SetFor
import HandS.Small
import HandS.SortInts
import HandS.Strs
import HandS.Style
import HandS.Text
import HandS.TryOnly
import HandS.TupAny
import HandS.TupMul
import HandS.Walk
import HandS.Wide
import HandS.WideBits
import HandS.WordsExc
import HandS.Zip
import KE.GoesMore
import KE.GoesRaise
import KE.GoesZip
import KE.KNestM
import OpenK.AllK
import PyProof.EqAt
import PyProof.Rows.SortShellAny
import PySem.Challenge.RW_pailchain_k53_deeds_as_texts
import Wide.All
import Wide.FinOn
set_option Elab.async false
set_option linter.all false
set_option maxRecDepth 100000
set_option maxHeartbeats 4000000
namespace J
open PySem PySem.Spec PyProof.Rows L2
/-! ### what the top has left, told by names -/
def wordT : Str := "word"
def defJ (x : Str) (st : Stmt) : He.DefD := ⟨(x, none), x, x, defArgs st, defBody st, defScope st, [], []⟩
def metJ (C m q : Str) (st : Stmt) : He.DefD := ⟨(C, some m), m, q, defArgs st, defBody st, defScope st, [], []⟩
def exoB (K : PySem.W.Frag) (C : Addr) : Bool := match K.lookup C with
  | some ⟨.type t, _, .cls cd, sl⟩ => decide (t = "type") && ((match cd.mro with
    | .ref C' :: bm => decide (C' = C) && PySem.HandSPX.refsVE bm
    | _ => false) && (cd.hasDict && (!cd.hasDel && (match sl.toList with
    | [_, _, _, _, some (.builtin n), _] => decide (n = "ValueError.__new__")
    | _ => false))))
  | _ => false
/-- what is told of an own exception's class -/
def excB (K : PySem.W.Frag) (x : Str) : Bool := exoB K (He.ga K x) && (decide (PySem.W.findIn K (.ref (He.ga K x)) "__setattr__" = some (some (.builtin "object.__setattr__"))) && (xfB K (He.ga K x) && (decide (PySem.W.findIn K (.ref (He.ga K x)) wordT = some none) && (decide (PySem.W.typeIn K (.ref (He.ma K (He.ga K x) "__init__")) = some (.type "function")) && (PySem.W.keepIn K (.ref (He.ga K x)) && decide (PySem.W.typeIn K (.ref (He.ga K x)) = some (.type "type")))))))
def baseB (K : PySem.W.Frag) (x : Str) : Bool := PySem.W.readsIn K (He.ga K x) (.type "type") && (decide (PySem.W.specialIn K (.ref (He.ga K x)) "__getattribute__" = some (some (.builtin "type.__getattribute__"))) && ((match PySem.W.findCls K (.ref (He.ga K x)) (.type "type") "__init__" with
  | some (.val (.ref f)) => decide (f = He.ma K (He.ga K x) "__init__")
  | _ => false) && PySem.W.isClsIn K (He.ga K x)))
def veB (K : PySem.W.Frag) : Bool := match PySem.W.findCls K (.type "ValueError") (.type "type") "__init__" with
  | some (.val (.builtin n)) => decide (n = "ValueError.__init__")
  | _ => false
def subB (K : PySem.W.Frag) (x b : Str) : Bool := decide (PySem.W.subIn K (.ref (He.ga K x)) (.ref (He.ga K b)) = some true)
/-- a table: texts to tuples of texts -/
abbrev Tbl := List (Str × List Str)
def tupS (K : PySem.W.Frag) (u : Value) (vs : List Str) : Bool := match u with
  | .ref a => (match K.lookup a with
    | some ⟨.type c, _, .seq its _, _⟩ => decide (c = "tuple") && (decide (its.size ≤ sizeLine) && He.relAll (vs.map V.str) its.toList)
    | _ => false)
  | _ => false
def tblB (K : PySem.W.Frag) (x : Str) (tb : Tbl) : Bool := tb.all fun q => match PySem.W.nsIn K (He.ga K x) q.1 with
  | some (some u) => tupS K u q.2
  | _ => false
/-- the tables of defs, all unlike -/
def ndB (K : PySem.W.Frag) (tf : List He.Defn) : Bool := decide ((tf.map fun p => (He.cT K p).2).Nodup)
/-- the objects that the module's names lead to: theirs, what they name, the methods, what these name -/
def rfJ (g : Addr → Option Obj) (a : Addr) : List Addr := match g a with
  | some o => He.refsD o
  | none => []
def clJ (g : Addr → Option Obj) (a : Addr) : List Addr := match g a with
  | some ⟨_, _, .cls cd, _⟩ => rfJ g cd.ns
  | _ => []
def frL {β : Type} : List Addr → (List Addr → β) → β
  | [], k => k []
  | a :: r, k => HandSHeadRun.frNat a fun a0 => frL r fun r0 => k (a0 :: r0)
theorem frL_eq {β : Type} : ∀ {l : List Addr} {k : List Addr → β}, frL l k = k l
  | [], _ => rfl
  | a :: r, k => by rw [frL, HandSHeadRun.frNat_eq, frL_eq]
def asJ {β : Type} (g : Addr → Option Obj) (k : List Addr → β) : β := frL (rfJ g mainGlobals) fun l1 => frL (l1.flatMap (clJ g)) fun l2 => frL (l1.flatMap (rfJ g)) fun l3 => frL (l2.flatMap (rfJ g)) fun l4 => k (mainGlobals :: PySem.cStatics :: (l1 ++ (l2 ++ (l3 ++ l4))))
theorem asJ_eq {β : Type} {g : Addr → Option Obj} {k : List Addr → β} : ∃ as, asJ g k = k as := by
  unfold asJ
  rw [frL_eq, frL_eq, frL_eq, frL_eq]
  exact ⟨_, rfl⟩
section
variable {fa : List He.Fa} {fn : List He.DefD} {ts : List He.Tab} {tf : List He.Defn} {ex : PySem.W.Frag → Bool}
def obsJ (fa : List He.Fa) (fn : List He.DefD) (ts : List He.Tab) (tf : List He.Defn) (ex : PySem.W.Frag → Bool) (g : Addr → Option Obj) : He.AlX := asJ g fun as => (He.obsT fa fn ts (He.frT g as), ex (He.frT g as) && He.tabsB g tf (He.frT g as))
theorem saysJ_of {w : World} {h : Heap} (e : obsJ fa fn ts tf ex h.get? = He.valX fn ts w) : ∃ K : PySem.W.Frag, K.In h ∧ He.SaysX fa fn ts tf ex w h K := by
  obtain ⟨as, ea⟩ := asJ_eq (g := h.get?) (k := fun as => ((He.obsT fa fn ts (He.frT h.get? as), ex (He.frT h.get? as) && He.tabsB h.get? tf (He.frT h.get? as)) : He.AlX))
  have e : _ = He.valX fn ts w := ea.symm.trans e
  refine ⟨He.frT h.get? as, He.frT_in, ?_⟩
  have e1 : He.obsT fa fn ts (He.frT h.get? as) = He.valT fn ts w := congrArg (fun z : He.AlX => z.1) e
  have e2 : (ex (He.frT h.get? as) && He.tabsB h.get? tf (He.frT h.get? as)) = true := congrArg (fun z : He.AlX => z.2) e
  obtain ⟨h1, h2⟩ := He.ba e2
  have key : ∀ p ∈ tf, PySem.W.codeHdIn (He.frT h.get? as) (He.cT (He.frT h.get? as) p).1 (He.cT (He.frT h.get? as) p).2 = true ∧ ∃ o, h.get? (He.cT (He.frT h.get? as) p).2 = some o ∧ He.emptyTab o = true := fun p hp => by
    obtain ⟨h3, h4⟩ := He.ba (List.all_eq_true.mp h2 p hp)
    refine ⟨h3, ?_⟩
    cases q : h.get? (He.cT (He.frT h.get? as) p).2 with
    | none =>
      rw [q] at h4
      cases h4
    | some o =>
      rw [q] at h4
      exact ⟨o, rfl, h4⟩
  exact ⟨e1, h1, fun p hp => (key p hp).1, fun p hp => by
    obtain ⟨_, o, q, z⟩ := key p hp
    exact He.frT_none q z, fun p hp => by
    obtain ⟨_, o, q, z⟩ := key p hp
    rw [q, He.emptyTab_eq z]⟩
def hookJ (fa : List He.Fa) (fn : List He.DefD) (ts : List He.Tab) (tf : List He.Defn) (ex : PySem.W.Frag → Bool) : PySem.W.Hook where
  α := He.AlX
  obs := fun s => obsJ fa fn ts tf ex s.heap.get?
  val := fun w => He.valX fn ts w
  says := fun w h => ∃ K : PySem.W.Frag, K.In h ∧ He.SaysX fa fn ts tf ex w h K
  of := fun _ _ e => saysJ_of e
  keeps := fun _ _ _ ⟨K, hK, c⟩ k => ⟨K, PySem.W.Frag.In.keeps hK k, ⟨c.t, c.more, c.hd, c.out, fun p hp => k _ _ (c.empty p hp)⟩⟩
/-- what the head looks at, off the heap as a tree -/
def obJ (fa : List He.Fa) (fn : List He.DefD) (ts : List He.Tab) (tf : List He.Defn) (ex : PySem.W.Frag → Bool) (s : PySem.W.SharedT) : He.AlX := obsJ fa fn ts tf ex (HandSHeadRun.getT s)
theorem obJ_eq (s : PySem.W.SharedT) : obJ fa fn ts tf ex s = (hookJ fa fn ts tf ex).obs s.abs := by
  have e : HandSHeadRun.getT s = s.abs.heap.get? := funext (HandSHeadRun.getT_eq s)
  unfold obJ
  rw [e] <;> rfl
end
end J

namespace K
open PySem PySem.Spec PyProof.Rows L2 J
def topS (i : Nat) : Stmt := PySem.Challenge.pw_pailchain_k53_deeds_as_texts.main.body.getD i (.Pass ⟨0, 0, 0, 0⟩)
abbrev sti_PailError : Stmt := inClass (topS 1) 0
abbrev sti_BadText : Stmt := inClass (topS 2) 0
abbrev st__law_word : Stmt := topS 17
abbrev st_deed_text : Stmt := topS 6
abbrev st_number_in : Stmt := topS 7
abbrev st_name_in : Stmt := topS 8
abbrev st_way_in : Stmt := topS 9
abbrev st_read_deed : Stmt := topS 10
abbrev st__law_cell : Stmt := topS 12
abbrev st__law_draws : Stmt := topS 13
abbrev st__law_split : Stmt := topS 14
abbrev st__law_many : Stmt := topS 15
abbrev st__law_same : Stmt := topS 16
abbrev st__law_deed_text : Stmt := topS 18
abbrev st__law_any_number : Stmt := topS 19
abbrev st__law_any_name : Stmt := topS 20
abbrev st__law_any_deed : Stmt := topS 21
abbrev st_law : Stmt := topS 22
def lams_ : List (Str × Stmt) := [("law", st_law)]
def tb_FORMS : Tbl := [("hire", ["name", "number"]), ("dismiss", ["name"]), ("send", ["name", "number"]), ("call", ["name"]), ("stay", ["name"]), ("swap", ["name"]), ("pace", ["name", "number"]), ("go", ["number", "number"]), ("outs", ["number", "number"])]
def ts_ : List He.Tab := [(fun K => He.ga K "FORMS", ["hire", "dismiss", "send", "call", "stay", "swap", "pace", "go", "outs"])]
def fa_0 : List He.Fa := [.glo "deed_text", .glo "number_in", .glo "name_in", .glo "way_in", .glo "read_deed", .glo "_law_cell", .glo "_law_draws", .glo "_law_split", .glo "_law_many", .glo "_law_same", .glo "_law_word", .glo "_law_deed_text", .glo "_law_any_number", .glo "_law_any_name", .glo "_law_any_deed", .glo "law", .glo "PailError", .meth "PailError" "__init__", .glo "BadText", .meth "BadText" "__init__", .free "ValueError", .free "all", .free "bool", .free "int", .free "isinstance", .free "len", .free "list", .free "max", .free "min", .free "range"]
def fa_1 : List He.Fa := [.free "str", .free "sum", .free "tuple", .free "zip", .str "LETTERS" (Str.ofString "abcdefghijklmnopqrstuvwxyz"), .glo "FORMS"]
def fa_ : List He.Fa := fa_0 ++ (fa_1)
def fn_0 : List He.DefD := [defJ "deed_text" st_deed_text, defJ "number_in" st_number_in, defJ "name_in" st_name_in, defJ "way_in" st_way_in, defJ "read_deed" st_read_deed, defJ "_law_cell" st__law_cell, defJ "_law_draws" st__law_draws, defJ "_law_split" st__law_split, defJ "_law_many" st__law_many, defJ "_law_same" st__law_same, defJ "_law_word" st__law_word, defJ "_law_deed_text" st__law_deed_text, defJ "_law_any_number" st__law_any_number, defJ "_law_any_name" st__law_any_name, defJ "_law_any_deed" st__law_any_deed, defJ "law" st_law, metJ "PailError" "__init__" "PailError.__init__" sti_PailError, metJ "BadText" "__init__" "BadText.__init__" sti_BadText]
def fn_ : List He.DefD := fn_0
def tf_ : List He.Defn := [("law", none)]
def exl_ (K : PySem.W.Frag) : List Bool := [excB K "PailError", excB K "BadText", baseB K "PailError", veB K, subB K "BadText" "PailError", tblB K "FORMS" tb_FORMS, ndB K tf_]
def ex_ (K : PySem.W.Frag) : Bool := (exl_ K).all id
def names_0 : List PySem.Str := ["PailError", "BadText", "LETTERS", "FORMS", "deed_text", "number_in", "name_in", "way_in", "read_deed", "_law_cell", "_law_draws", "_law_split", "_law_many", "_law_same", "_law_word", "_law_deed_text", "_law_any_number", "_law_any_name", "_law_any_deed"]
def names_ : List PySem.Str := names_0
theorem run_ (w : World) : HandSHeadRun.RunEq (PySem.W.OpenLaw.row PySem.Challenge.rw_pailchain_k53_deeds_as_texts) (PySem.W.view (PySem.W.OpenLaw.row PySem.Challenge.rw_pailchain_k53_deeds_as_texts).prog [22]) (hookJ fa_ fn_ ts_ tf_ ex_) (obJ fa_ fn_ ts_ tf_ ex_) 40000 names_ w := PySem.W.byRow2 "special-get-raises" (P := fun w => HandSHeadRun.RunEq (PySem.W.OpenLaw.row PySem.Challenge.rw_pailchain_k53_deeds_as_texts) (PySem.W.view (PySem.W.OpenLaw.row PySem.Challenge.rw_pailchain_k53_deeds_as_texts).prog [22]) (hookJ fa_ fn_ ts_ tf_ ex_) (obJ fa_ fn_ ts_ tf_ ex_) 40000 names_ w) (fun w => by
  intro os
  kernel_rfl) (fun w => by
  intro os
  kernel_rfl) w

end K

set_option Elab.async false
set_option linter.all false
set_option maxRecDepth 100000
set_option maxHeartbeats 4000000
namespace J
open PySem PySem.Spec PyProof.Rows L2

/-! values by value, lists by number in a store -/
inductive D where
  | non | bl (b : Bool) | int (i : Int) | str (x : Str) | ty (n : String) | rl (ns : List Int) | tup (xs : List D) | ref (n : Nat)
inductive Cell where
  | lst (xs : List D) | dct (kvs : List (Key × D)) | ins (c : Str) (fs : List (Str × D)) | fzd (kvs : List (Key × D))
abbrev Sto := List Cell
inductive R (α : Type) where
  | ok (a : α) (S : Sto) | exc (c : Str) (S : Sto) | bad
def R.bind {α β : Type} (r : R α) (f : α → Sto → R β) : R β :=
  match r with
  | .ok a S => f a S
  | .exc c S => .exc c S
  | .bad => .bad
@[simp] theorem bind_ok {α β : Type} (a : α) (S : Sto) (f : α → Sto → R β) : (R.ok a S).bind f = f a S := rfl
@[simp] theorem bind_exc {α β : Type} (c : Str) (S : Sto) (f : α → Sto → R β) : (R.exc c S : R α).bind f = .exc c S := rfl
@[simp] theorem bind_bad {α β : Type} (f : α → Sto → R β) : (R.bad : R α).bind f = .bad := rfl
/-- what a law's text brings: tables, classes, words -/
structure G where
  T : List (Addr × Str)
  cls : Str → Addr
  word : Str → Str

/-- a list of the written part -/
def SqK (K : PySem.W.Frag) (a : Addr) (xs : List V) : Prop := ∃ (o : Obj) (its : Array Value) (n : Nat), K.lookup a = some o ∧ o.cls = .type "list" ∧ o.dict = none ∧ o.data = .seq its n ∧ its.size ≤ sizeLine ∧ Vals xs its.toList
/-- a list that stays: the script -/
def SqP (K : PySem.W.Frag) (H : Hp) (a : Addr) (xs : List V) : Prop := (∃ o, H a = some (.frz o (.lst xs))) ∨ SqK K a xs
theorem SqP.sq {K : PySem.W.Frag} {H : Hp} {a : Addr} {xs : List V} (h : SqP K H a xs) : SqL K H a xs := by
  rcases h with ⟨o, h⟩ | h
  · exact .inl (.inr ⟨o, h⟩)
  · exact .inr h
section
variable (K : PySem.W.Frag) (φ : List Addr) (H : Hp)
mutual
def DR : D → V → Prop
  | .non, v => v = .non
  | .bl b, v => v = .bl b
  | .int i, v => v = .int i
  | .str x, v => v = .str x
  | .ty n, v => v = .ty n
  | .rl ns, v => ∃ a, v = .ref a ∧ SqP K H a (ns.map V.int)
  | .ref n, v => ∃ a, φ[n]? = some a ∧ v = .ref a
  | .tup ds, v => ∃ a vs, v = .ref a ∧ SqT K H a vs ∧ DRs ds vs
def DRs : List D → List V → Prop
  | [], vs => vs = []
  | d :: ds, vs => ∃ v r, vs = v :: r ∧ DR d v ∧ DRs ds r
end
end
/-- tuples and the script stay -/
structure TK (K : PySem.W.Frag) (H H' : Hp) : Prop where
  t : ∀ a xs, SqT K H a xs → SqT K H' a xs
  f : ∀ a o u, H a = some (.frz o u) → H' a = some (.frz o u)
theorem TK.refl {K : PySem.W.Frag} {H : Hp} : TK K H H := ⟨fun _ _ h => h, fun _ _ _ h => h⟩
theorem TK.trans {K : PySem.W.Frag} {H H1 H2 : Hp} (a : TK K H H1) (b : TK K H1 H2) : TK K H H2 := ⟨fun x xs h => b.t x xs (a.t x xs h), fun x o u h => b.f x o u (a.f x o u h)⟩
theorem TK.p {K : PySem.W.Frag} {H H' : Hp} (t : TK K H H') {a : Addr} {xs : List V} (h : SqP K H a xs) : SqP K H' a xs := by
  rcases h with ⟨o, h⟩ | h
  · exact .inl ⟨o, t.f _ _ _ h⟩
  · exact .inr h
/-- what may be written at p -/
def Wr : Option HO → Prop
  | none => True
  | some (.lst _) => True
  | some (.dK _) => True
  | some (.ins _ _ _) => True
  | _ => False
theorem TK.upd {K : PySem.W.Frag} {H : Hp} {p : Addr} {o : HO} (h : Wr (H p)) : TK K H (upd H p o) := by
  have fz : ∀ a o' u, H a = some (.frz o' u) → L2.upd H p o a = some (.frz o' u) := fun a o' u q => by
    rw [upd_ne]
    · exact q
    · rintro rfl
      rw [q] at h
      exact h
  refine ⟨fun a xs q => ?_, fz⟩
  rcases q with (q | ⟨u, q⟩) | q
  · refine .inl (.inl ?_)
    rw [upd_ne]
    · exact q
    · rintro rfl
      rw [q] at h
      exact h
  · exact .inl (.inr ⟨u, fz _ _ _ q⟩)
  · exact .inr q

section
variable {K : PySem.W.Frag} {φ φ' : List Addr} {H H' : Hp}
theorem ix_mono (h : φ <+: φ') {n : Nat} {a : Addr} (e : φ[n]? = some a) : φ'[n]? = some a := by
  obtain ⟨t, rfl⟩ := h
  rw [List.getElem?_append_left]
  · exact e
  · exact (List.getElem?_eq_some_iff.mp e).1
mutual
theorem DR.mono (h : φ <+: φ') (t : TK K H H') : ∀ {d : D} {v : V}, DR K φ H d v → DR K φ' H' d v
  | .non, _, r => by simpa only [DR] using r
  | .bl _, _, r => by simpa only [DR] using r
  | .int _, _, r => by simpa only [DR] using r
  | .str _, _, r => by simpa only [DR] using r
  | .ty _, _, r => by simpa only [DR] using r
  | .rl _, _, r => by
    simp only [DR] at r ⊢
    obtain ⟨a, e, q⟩ := r
    exact ⟨a, e, t.p q⟩
  | .ref _, _, r => by
    simp only [DR] at r ⊢
    obtain ⟨a, e, q⟩ := r
    exact ⟨a, ix_mono h e, q⟩
  | .tup _, _, r => by
    simp only [DR] at r ⊢
    obtain ⟨a, vs, e, s, q⟩ := r
    exact ⟨a, vs, e, t.t _ _ s, DRs.mono h t q⟩
theorem DRs.mono (h : φ <+: φ') (t : TK K H H') : ∀ {ds : List D} {vs : List V}, DRs K φ H ds vs → DRs K φ' H' ds vs
  | [], _, r => by simpa only [DRs] using r
  | _ :: _, _, r => by
    simp only [DRs] at r ⊢
    obtain ⟨v, rs, e, q1, q2⟩ := r
    exact ⟨v, rs, e, DR.mono h t q1, DRs.mono h t q2⟩
end
theorem DRs.length : ∀ {ds : List D} {vs : List V}, DRs K φ H ds vs → vs.length = ds.length
  | [], _, r => by simp only [DRs] at r; subst r; rfl
  | _ :: _, _, r => by
    simp only [DRs] at r
    obtain ⟨v, rs, rfl, _, q2⟩ := r
    simp [DRs.length q2]
theorem DRs.nil : DRs K φ H [] [] := by simp only [DRs]
theorem DRs.cons {d : D} {v : V} {ds : List D} {vs : List V} (a : DR K φ H d v) (b : DRs K φ H ds vs) : DRs K φ H (d :: ds) (v :: vs) := by
  simp only [DRs]
  exact ⟨v, vs, rfl, a, b⟩
theorem DRs.nil_inv {vs : List V} (r : DRs K φ H [] vs) : vs = [] := by simpa only [DRs] using r
theorem DRs.cons_inv {d : D} {ds : List D} {vs : List V} (r : DRs K φ H (d :: ds) vs) : ∃ v rs, vs = v :: rs ∧ DR K φ H d v ∧ DRs K φ H ds rs := by simpa only [DRs] using r
theorem DRs.get : ∀ {ds : List D} {vs : List V} {i : Nat} {d : D}, DRs K φ H ds vs → ds[i]? = some d → ∃ v, vs[i]? = some v ∧ DR K φ H d v
  | [], _, _, _, _, e => by simp at e
  | _ :: _, _, 0, _, r, e => by
    obtain ⟨v, rs, rfl, q1, _⟩ := r.cons_inv
    simp at e
    subst e
    exact ⟨v, rfl, q1⟩
  | _ :: _, _, i + 1, _, r, e => by
    obtain ⟨v, rs, rfl, _, q2⟩ := r.cons_inv
    obtain ⟨w, h1, h2⟩ := DRs.get (i := i) q2 (by simpa using e)
    exact ⟨w, by simpa using h1, h2⟩
theorem DRs.getV {ds : List D} {vs : List V} {i : Nat} {v : V} (r : DRs K φ H ds vs) (e : vs[i]? = some v) : ∃ d, ds[i]? = some d ∧ DR K φ H d v := by
  have hl := r.length
  have hi := (List.getElem?_eq_some_iff.mp e).1
  have hd : ds[i]? = some ds[i] := List.getElem?_eq_getElem (by omega)
  obtain ⟨w, h1, h2⟩ := r.get hd
  rw [e] at h1
  cases h1
  exact ⟨_, hd, h2⟩
theorem DRs.append : ∀ {ds es : List D} {vs us : List V}, DRs K φ H ds vs → DRs K φ H es us → DRs K φ H (ds ++ es) (vs ++ us)
  | [], _, _, _, r, q => by rw [r.nil_inv]; exact q
  | _ :: _, _, _, _, r, q => by
    obtain ⟨v, rs, rfl, q1, q2⟩ := r.cons_inv
    exact .cons q1 (q2.append q)
theorem DRs.set : ∀ {ds : List D} {vs : List V} {i : Nat} {d : D} {v : V}, DRs K φ H ds vs → DR K φ H d v → DRs K φ H (ds.set i d) (vs.set i v)
  | [], _, _, _, _, r, _ => by rw [r.nil_inv]; exact .nil
  | _ :: _, _, 0, _, _, r, q => by
    obtain ⟨w, rs, rfl, q1, q2⟩ := r.cons_inv
    exact .cons q q2
  | _ :: _, _, i + 1, _, _, r, q => by
    obtain ⟨w, rs, rfl, q1, q2⟩ := r.cons_inv
    exact .cons q1 (q2.set q)
theorem DRs.take : ∀ {ds : List D} {vs : List V} (n : Nat), DRs K φ H ds vs → DRs K φ H (ds.take n) (vs.take n)
  | _, _, 0, _ => by simpa using DRs.nil
  | [], _, _ + 1, r => by rw [r.nil_inv]; exact .nil
  | _ :: _, _, n + 1, r => by
    obtain ⟨w, rs, rfl, q1, q2⟩ := r.cons_inv
    exact .cons q1 (q2.take n)
theorem DRs.drop : ∀ {ds : List D} {vs : List V} (n : Nat), DRs K φ H ds vs → DRs K φ H (ds.drop n) (vs.drop n)
  | _, _, 0, r => by simpa using r
  | [], _, _ + 1, r => by rw [r.nil_inv]; exact .nil
  | _ :: _, _, n + 1, r => by
    obtain ⟨w, rs, rfl, q1, q2⟩ := r.cons_inv
    exact q2.drop n
theorem DRs.reverse : ∀ {ds : List D} {vs : List V}, DRs K φ H ds vs → DRs K φ H ds.reverse vs.reverse
  | [], _, r => by rw [r.nil_inv]; exact .nil
  | _ :: _, _, r => by
    obtain ⟨w, rs, rfl, q1, q2⟩ := r.cons_inv
    rw [List.reverse_cons, List.reverse_cons]
    exact q2.reverse.append (.cons q1 .nil)
theorem DRs.flat : ∀ (n : Nat) {ds : List D} {vs : List V}, DRs K φ H ds vs → DRs K φ H (List.replicate n ds).flatten (List.replicate n vs).flatten
  | 0, _, _, _ => by simpa using DRs.nil
  | n + 1, _, _, r => by
    rw [List.replicate_succ, List.replicate_succ, List.flatten_cons, List.flatten_cons]
    exact r.append (DRs.flat n r)
theorem DRs.ints : ∀ (ns : List Int), DRs K φ H (ns.map D.int) (ns.map V.int)
  | [] => .nil
  | n :: ns => .cons (by simp only [DR]) (DRs.ints ns)
theorem DRs.ints_inv : ∀ {ns : List Int} {vs : List V}, DRs K φ H (ns.map D.int) vs → vs = ns.map V.int
  | [], _, r => r.nil_inv
  | n :: ns, _, r => by
    obtain ⟨w, rs, rfl, q1, q2⟩ := DRs.cons_inv (d := .int n) (ds := ns.map D.int) r
    simp only [DR] at q1
    rw [q1, DRs.ints_inv q2]
    rfl
end

/-! the store over the abstract heap -/
def KeyR (K : PySem.W.Frag) (φ : List Addr) (H : Hp) (p : Key × D) (q : Key × V) : Prop := p.1 = q.1 ∧ DR K φ H p.2 q.2
def FldR (K : PySem.W.Frag) (φ : List Addr) (H : Hp) (p : Str × D) (q : Str × V) : Prop := p.1 = q.1 ∧ DR K φ H p.2 q.2
def CellR (K : PySem.W.Frag) (g : G) (φ : List Addr) (H : Hp) (a : Addr) : Cell → Prop
  | .lst ds => ∃ vs, H a = some (.lst vs) ∧ DRs K φ H ds vs
  | .dct kvs => ∃ ws, H a = some (.dK ws) ∧ Paired (KeyR K φ H) kvs ws
  | .ins c fs => ∃ dx ws, H a = some (.ins (g.cls c) dx ws) ∧ Paired (FldR K φ H) fs ws
  | .fzd kvs => ∃ o ws, H a = some (.frz o (.dK ws)) ∧ Paired (KeyR K φ H) kvs ws
structure Rep (K : PySem.W.Frag) (g : G) (φ : List Addr) (S : Sto) (H : Hp) : Prop where
  len : φ.length = S.length
  at_ : ∀ (i : Nat) (a : Addr) (c : Cell), φ[i]? = some a → S[i]? = some c → CellR K g φ H a c
  nd : φ.Nodup
  tabs : LamX.Tabs g.T H
def ER (K : PySem.W.Frag) (φ : List Addr) (H : Hp) (ρ : List (Option D)) (σ : L2.St) : Prop := ρ.length = σ.length ∧ ∀ (i : Nat) (d : D), ρ[i]? = some (some d) → ∃ v, σ[i]? = some (some v) ∧ DR K φ H d v
structure Nx (K : PySem.W.Frag) (g : G) (φ : List Addr) (H : Hp) (S' : Sto) (φ' : List Addr) (H' : Hp) : Prop where
  pre : φ <+: φ'
  rep : Rep K g φ' S' H'
  tk : TK K H H'
  fr : ∀ b xs, H b = some (.lst xs) → b ∉ φ → H' b = some (.lst xs) ∧ b ∉ φ'
section
variable {K : PySem.W.Frag} {g : G} {φ φ' φ1 φ2 : List Addr} {H H' H1 H2 : Hp} {S S' S1 S2 : Sto}
theorem Rep.cell (r : Rep K g φ S H) {n : Nat} {c : Cell} (e : S[n]? = some c) : ∃ a, φ[n]? = some a ∧ CellR K g φ H a c := by
  have hn := (List.getElem?_eq_some_iff.mp e).1
  have hn' : n < φ.length := by rw [r.len]; exact hn
  have hp : φ[n]? = some φ[n] := List.getElem?_eq_getElem hn'
  exact ⟨_, hp, r.at_ n _ c hp e⟩
theorem Rep.cellAt (r : Rep K g φ S H) {n : Nat} {a : Addr} {c : Cell} (e : S[n]? = some c) (h : φ[n]? = some a) : CellR K g φ H a c := r.at_ n _ c h e
theorem Nx.refl (r : Rep K g φ S H) : Nx K g φ H S φ H := ⟨List.prefix_refl _, r, .refl, fun _ _ h n => ⟨h, n⟩⟩
theorem Nx.trans (a : Nx K g φ H S1 φ1 H1) (b : Nx K g φ1 H1 S2 φ2 H2) : Nx K g φ H S2 φ2 H2 := ⟨a.pre.trans b.pre, b.rep, a.tk.trans b.tk, fun c xs h n => let ⟨h1, n1⟩ := a.fr c xs h n; b.fr c xs h1 n1⟩
theorem ER.mono {ρ : List (Option D)} {σ : L2.St} (h : φ <+: φ') (t : TK K H H') (r : ER K φ H ρ σ) : ER K φ' H' ρ σ := ⟨r.1, fun i d e => by
  obtain ⟨v, h1, h2⟩ := r.2 i d e
  exact ⟨v, h1, h2.mono h t⟩⟩
theorem Nx.er {ρ : List (Option D)} {σ : L2.St} (n : Nx K g φ H S1 φ1 H1) (r : ER K φ H ρ σ) : ER K φ1 H1 ρ σ := r.mono n.pre n.tk
theorem Nx.dr {d : D} {v : V} (n : Nx K g φ H S1 φ1 H1) (r : DR K φ H d v) : DR K φ1 H1 d v := r.mono n.pre n.tk
theorem Nx.drs {d : List D} {v : List V} (n : Nx K g φ H S1 φ1 H1) (r : DRs K φ H d v) : DRs K φ1 H1 d v := r.mono n.pre n.tk
theorem ER.set {ρ : List (Option D)} {σ : L2.St} {i : Nat} {d : D} {v : V} (r : ER K φ H ρ σ) (q : DR K φ H d v) : ER K φ H (ρ.set i (some d)) (σ.set i (some v)) := by
  refine ⟨by rw [List.length_set, List.length_set, r.1], fun j e h => ?_⟩
  by_cases hj : i = j
  · subst hj
    by_cases hl : i < ρ.length
    · rw [List.getElem?_set_self hl] at h
      cases h
      exact ⟨v, by rw [List.getElem?_set_self (by rw [← r.1]; exact hl)], q⟩
    · rw [List.getElem?_eq_none (by rw [List.length_set]; omega)] at h
      cases h
  · rw [List.getElem?_set_ne hj] at h
    obtain ⟨w, h1, h2⟩ := r.2 j e h
    exact ⟨w, by rw [List.getElem?_set_ne hj]; exact h1, h2⟩
theorem ER.unset {ρ : List (Option D)} {σ : L2.St} {i : Nat} (r : ER K φ H ρ σ) : ER K φ H (ρ.set i none) (σ.set i none) := by
  refine ⟨by rw [List.length_set, List.length_set, r.1], fun j e h => ?_⟩
  by_cases hj : i = j
  · subst hj
    by_cases hl : i < ρ.length
    · rw [List.getElem?_set_self hl] at h
      cases h
    · rw [List.getElem?_eq_none (by rw [List.length_set]; omega)] at h
      cases h
  · rw [List.getElem?_set_ne hj] at h
    obtain ⟨w, h1, h2⟩ := r.2 j e h
    exact ⟨w, by rw [List.getElem?_set_ne hj]; exact h1, h2⟩
/-- what stands at the cells -/
theorem CellR.keep {a : Addr} {c : Cell} (r : CellR K g φ H a c) (h : φ <+: φ') (t : TK K H H') (e : ∀ o, H a = some o → H' a = some o) : CellR K g φ' H' a c := by
  cases c with
  | lst ds =>
    obtain ⟨vs, h1, h2⟩ := r
    exact ⟨vs, e _ h1, h2.mono h t⟩
  | dct kvs =>
    obtain ⟨vs, h1, h2⟩ := r
    exact ⟨vs, e _ h1, PySem.Paired.mono (fun _ _ q => ⟨q.1, q.2.mono h t⟩) h2⟩
  | ins c fs =>
    obtain ⟨dx, vs, h1, h2⟩ := r
    exact ⟨dx, vs, e _ h1, PySem.Paired.mono (fun _ _ q => ⟨q.1, q.2.mono h t⟩) h2⟩
  | fzd kvs =>
    obtain ⟨o, vs, h1, h2⟩ := r
    exact ⟨o, vs, e _ h1, PySem.Paired.mono (fun _ _ q => ⟨q.1, q.2.mono h t⟩) h2⟩
theorem tabs_upd {T : List (Addr × Str)} {H : Hp} {p : Addr} {o : HO} (h : Wr (H p)) (t : LamX.Tabs T H) : LamX.Tabs T (upd H p o) := fun q hq => by
  obtain ⟨ps, h1, h2, h3⟩ := t q hq
  refine ⟨ps, ?_, h2, fun pos cv hc => ?_⟩
  · rw [upd_ne]
    · exact h1
    · intro e
      rw [← e, h1] at h
      exact h
  · obtain ⟨c, e1, e2⟩ := h3 pos cv hc
    refine ⟨c, e1, ?_⟩
    rw [upd_ne]
    · exact e2
    · intro e
      rw [← e, e2] at h
      exact h
theorem CellR.some_ {a : Addr} {c : Cell} (r : CellR K g φ H a c) : H a ≠ none := by
  cases c with
  | lst ds => obtain ⟨vs, h, _⟩ := r; rw [h]; simp
  | dct ds => obtain ⟨vs, h, _⟩ := r; rw [h]; simp
  | ins c fs => obtain ⟨dx, vs, h, _⟩ := r; rw [h]; simp
  | fzd ds => obtain ⟨o, vs, h, _⟩ := r; rw [h]; simp
theorem Rep.notin (r : Rep K g φ S H) {p : Addr} (hp : H p = none) : p ∉ φ := fun hm => by
  obtain ⟨i, hi, e⟩ := List.getElem_of_mem hm
  have h1 : φ[i]? = some p := by rw [List.getElem?_eq_getElem hi, e]
  have hi' : i < S.length := by rw [← r.len]; exact hi
  exact (r.at_ i p _ h1 (List.getElem?_eq_getElem hi')).some_ hp
/-- a new thing that is no cell of the store -/
theorem Rep.side (r : Rep K g φ S H) {p : Addr} {o : HO} (hp : H p = none) : Nx K g φ H S φ (upd H p o) := by
  have hw : Wr (H p) := by rw [hp]; trivial
  refine ⟨List.prefix_refl _, ⟨r.len, fun i a c h1 h2 => ?_, r.nd, tabs_upd hw r.tabs⟩, .upd hw, fun b xs h n => ⟨by rw [upd_ne (ne_of_none h hp)]; exact h, n⟩⟩
  exact (r.at_ i a c h1 h2).keep (List.prefix_refl _) (.upd hw) fun u e => by rw [upd_ne (ne_of_none e hp)]; exact e
theorem ix_snoc {i : Nat} {a p : Addr} (h : (φ ++ [p])[i]? = some a) : (i < φ.length ∧ φ[i]? = some a) ∨ (i = φ.length ∧ a = p) := by
  by_cases hi : i < φ.length
  · rw [List.getElem?_append_left hi] at h
    exact .inl ⟨hi, h⟩
  · rw [List.getElem?_append_right (by omega)] at h
    cases q : i - φ.length with
    | zero =>
      rw [q] at h
      simp at h
      exact .inr ⟨by omega, h.symm⟩
    | succ m =>
      rw [q] at h
      simp at h
theorem nd_snoc {p : Addr} (h : φ.Nodup) (hp : p ∉ φ) : (φ ++ [p]).Nodup := by
  rw [List.nodup_append]
  refine ⟨h, by simp, fun a ha b hb e => ?_⟩
  simp at hb
  rw [e, hb] at ha
  exact hp ha
/-- a new cell -/
theorem Rep.alloc (r : Rep K g φ S H) {p : Addr} {o : HO} {c : Cell} (hp : H p = none) (hc : CellR K g (φ ++ [p]) (upd H p o) p c) : Nx K g φ H (S ++ [c]) (φ ++ [p]) (upd H p o) := by
  have hw : Wr (H p) := by rw [hp]; trivial
  have pre : φ <+: φ ++ [p] := List.prefix_append _ _
  refine ⟨pre, ⟨by simp [r.len], fun i a c' h1 h2 => ?_, nd_snoc r.nd (r.notin hp), tabs_upd hw r.tabs⟩, .upd hw, fun b xs h n => ⟨by rw [upd_ne (ne_of_none h hp)]; exact h, ?_⟩⟩
  · rcases ix_snoc h1 with ⟨hi, h1⟩ | ⟨hi, rfl⟩
    · rw [List.getElem?_append_left (by rw [← r.len]; exact hi)] at h2
      exact (r.at_ i a c' h1 h2).keep pre (.upd hw) fun u e => by rw [upd_ne (ne_of_none e hp)]; exact e
    · rw [hi, r.len] at h2
      simp at h2
      subst h2
      exact hc
  · have hne := ne_of_none h hp
    simp [n, hne]
/-- a list that was built beside the store comes in -/
theorem Nx.adopt {φ0 : List Addr} {H0 : Hp} (n : Nx K g φ0 H0 S φ H) {p : Addr} {xs : List D} {vs : List V} (hp0 : H0 p = none) (hp : H p = some (.lst vs)) (hn : p ∉ φ) (q : DRs K φ H xs vs) : Nx K g φ0 H0 (S ++ [.lst xs]) (φ ++ [p]) H := by
  have pre : φ <+: φ ++ [p] := List.prefix_append _ _
  have r := n.rep
  refine ⟨n.pre.trans pre, ⟨by simp [r.len], fun i a c' h1 h2 => ?_, nd_snoc r.nd hn, r.tabs⟩, n.tk, fun b ys h m => ?_⟩
  · rcases ix_snoc h1 with ⟨hi, h1⟩ | ⟨hi, rfl⟩
    · rw [List.getElem?_append_left (by rw [← r.len]; exact hi)] at h2
      exact (r.at_ i a c' h1 h2).keep pre .refl fun u e => e
    · rw [hi, r.len] at h2
      simp at h2
      subst h2
      exact ⟨vs, hp, q.mono pre .refl⟩
  · obtain ⟨h1, h2⟩ := n.fr b ys h m
    have hne := ne_of_none h hp0
    exact ⟨h1, by simp [h2, hne]⟩
/-- a cell is written -/
theorem Rep.write (r : Rep K g φ S H) {n : Nat} {p : Addr} {o : HO} {c : Cell} (hw : Wr (H p)) (hn : φ[n]? = some p) (hl : n < S.length) (hc : CellR K g φ (upd H p o) p c) : Nx K g φ H (S.set n c) φ (upd H p o) := by
  refine ⟨List.prefix_refl _, ⟨by simp [r.len], fun i a c' h1 h2 => ?_, r.nd, tabs_upd hw r.tabs⟩, .upd hw, fun b xs h m => ⟨?_, m⟩⟩
  · by_cases hi : n = i
    · subst hi
      rw [hn] at h1
      cases h1
      rw [List.getElem?_set_self hl] at h2
      cases h2
      exact hc
    · rw [List.getElem?_set_ne hi] at h2
      have ha : a ≠ p := by
        rintro rfl
        obtain ⟨i1, e1⟩ := List.getElem?_eq_some_iff.mp h1
        obtain ⟨i2, e2⟩ := List.getElem?_eq_some_iff.mp hn
        exact hi ((List.getElem_inj r.nd).mp (e2.trans e1.symm))
      exact (r.at_ i a c' h1 h2).keep (List.prefix_refl _) (.upd hw) fun u e => by rw [upd_ne ha]; exact e
  · rw [upd_ne]
    · exact h
    · rintro rfl
      exact m (List.mem_of_getElem? hn)
end

/-! ### what is wanted behind a run -/
section
variable (K : PySem.W.Frag) (g : G) (E : XK)
def post {α : Type} (φ : List Addr) (H : Hp) (r : R α) (k : α → Sto → List Addr → Hp → Prop) : Prop :=
  match r with
  | .ok a S' => ∀ φ' H', Nx K g φ H S' φ' H' → k a S' φ' H'
  | .exc c S' => ∀ φ' H' (dx : Addr) (fs : List (Str × V)), Nx K g φ H S' φ' H' → H' dx = some (.xd fs) → fs.lookup ("word" : Str) = some (V.str (g.word c)) → E (.ref (g.cls c)) (some dx) H'
  | .bad => False
end
section
variable {K : PySem.W.Frag} {g : G} {E : XK} {φ φ1 : List Addr} {H H1 : Hp} {S S1 : Sto} {α β : Type}
theorem post.weak {r : R α} {k : α → Sto → List Addr → Hp → Prop} (n : Nx K g φ H S1 φ1 H1) (h : post K g E φ H r k) : post K g E φ1 H1 r k := by
  cases r with
  | ok a S' => exact fun φ' H' m => h φ' H' (n.trans m)
  | exc c S' => exact fun φ' H' dx fs m => h φ' H' dx fs (n.trans m)
  | bad => exact h
theorem post.bind {r : R α} {f : α → Sto → R β} {k : β → Sto → List Addr → Hp → Prop} (h : post K g E φ H (r.bind f) k) :
    post K g E φ H r (fun a S1 φ1 H1 => Rep K g φ1 S1 H1 ∧ Nx K g φ H S1 φ1 H1 ∧ post K g E φ1 H1 (f a S1) k) := by
  cases r with
  | ok a S' => exact fun φ' H' m => ⟨m.rep, m, post.weak m h⟩
  | exc c S' => exact h
  | bad => exact h
theorem post.mono {r : R α} {k k' : α → Sto → List Addr → Hp → Prop} (h : post K g E φ H r k) (q : ∀ a S' φ' H', r = .ok a S' → Nx K g φ H S' φ' H' → k a S' φ' H' → k' a S' φ' H') : post K g E φ H r k' := by
  cases r with
  | ok a S' => exact fun φ' H' m => q a S' φ' H' rfl m (h φ' H' m)
  | exc c S' => exact h
  | bad => exact h
end
abbrev Env := List (Option D)
abbrev IE := Env → Sto → R D
abbrev IT := Env → Sto → R Bool
abbrev IA := Env → Sto → R (List D)
inductive Fl where
  | next (ρ : Env) | ret (d : D) | brk (ρ : Env) | cont (ρ : Env)
abbrev IS := Env → Sto → R Fl
section
variable (K : PySem.W.Frag) (g : G) (E : XK)
def tI (f : IE) : TE := fun σ H Q => ∃ φ ρ S, ER K φ H ρ σ ∧ Rep K g φ S H ∧ post K g E φ H (f ρ S) fun d _ φ' H' => ∀ v, DR K φ' H' d v → Q v H'
def tIT (f : IT) : TT := fun σ H Q => ∃ φ ρ S, ER K φ H ρ σ ∧ Rep K g φ S H ∧ post K g E φ H (f ρ S) fun b _ _ H' => Q b H'
def tIA (f : IA) : TA := fun σ H Q => ∃ φ ρ S, ER K φ H ρ σ ∧ Rep K g φ S H ∧ post K g E φ H (f ρ S) fun ds _ φ' H' => ∀ vs, DRs K φ' H' ds vs → Q vs H'
def flow (Dn : Ends) (φ' : List Addr) (H' : Hp) : Fl → Prop
  | .next ρ => ∀ σ', ER K φ' H' ρ σ' → Dn.nx σ' H'
  | .ret d => ∀ v, DR K φ' H' d v → Dn.rt v H'
  | .brk ρ => ∀ σ', ER K φ' H' ρ σ' → Dn.bk σ' H'
  | .cont ρ => ∀ σ', ER K φ' H' ρ σ' → Dn.ct σ' H'
def sI (f : IS) : TS := fun Dn σ H => ∃ φ ρ S, ER K φ H ρ σ ∧ Rep K g φ S H ∧ post K g E φ H (f ρ S) fun o _ φ' H' => flow K Dn φ' H' o
end
theorem PE.imp {X : Cx} {e : Expr} {t t' : TE} (h : PE X e t) (q : ∀ σ H Q, t' σ H Q → t σ H Q) : PE X e t' := ⟨fun pins s σ H Q I w => h.run pins s σ H Q I (q σ H Q w)⟩
theorem PT.imp {X : Cx} {e : Expr} {t t' : TT} (h : PT X e t) (q : ∀ σ H Q, t' σ H Q → t σ H Q) : PT X e t' := ⟨fun pins s σ H Q I w => h.run pins s σ H Q I (q σ H Q w)⟩
theorem PW.imp {X : Cx} {e : Expr} {t t' : TT} (h : PW X e t) (q : ∀ σ H Q, t' σ H Q → t σ H Q) : PW X e t' := ⟨fun wh pins s σ H Q I w => h.run wh pins s σ H Q I (q σ H Q w)⟩
theorem PA.imp {X : Cx} {e : List Expr} {t t' : TA} (h : PA X e t) (q : ∀ σ H Q, t' σ H Q → t σ H Q) : PA X e t' := ⟨fun pos pins s σ H Q I w => h.run pos pins s σ H Q I (q σ H Q w)⟩
theorem PS.imp {X : Cx} {e : Stmt} {t t' : TS} (h : PS X e t) (q : ∀ Dn σ H, t' Dn σ H → t Dn σ H) : PS X e t' := ⟨fun pins s σ H Dn I w => h.run pins s σ H Dn I (q Dn σ H w)⟩
theorem PSs.imp {X : Cx} {e : List Stmt} {t t' : TS} (h : PSs X e t) (q : ∀ Dn σ H, t' Dn σ H → t Dn σ H) : PSs X e t' := ⟨fun pins s σ H Dn I w => h.run pins s σ H Dn I (q Dn σ H w)⟩
end J

set_option Elab.async false
set_option linter.all false
set_option maxRecDepth 100000
set_option maxHeartbeats 4000000
namespace J
open PySem PySem.Spec PyProof.Rows L2
/-- the bound of lengths -/
abbrev LIM : Nat := 1000000
theorem lim_le {n : Nat} (h : n < LIM) : n ≤ sizeLine := Nat.le_trans (Nat.le_of_lt h) (by rw [sizeLine_eq]; decide)
theorem lim_lt {n : Nat} (h : n < LIM) : n < sizeLine := Nat.lt_of_lt_of_le h (by rw [sizeLine_eq]; decide)

/-! ### the functions that the text is read as -/
def iC (d : D) : IE := fun _ S => .ok d S
def iV (i : Nat) : IE := fun ρ S => match ρ[i]? with
  | some (some d) => .ok d S
  | _ => .bad
def iBin (fo : D → D → Sto → R D) (fa fb : IE) : IE := fun ρ S => (fa ρ S).bind fun d S1 => (fb ρ S1).bind fun e S2 => fo d e S2
def iUn (fo : D → Sto → R D) (fa : IE) : IE := fun ρ S => (fa ρ S).bind fun d S1 => fo d S1
def aNil : IA := fun _ S => .ok [] S
def aCons (fa : IE) (fr : IA) : IA := fun ρ S => (fa ρ S).bind fun d S1 => (fr ρ S1).bind fun ds S2 => .ok (d :: ds) S2
def iTup (fa : IA) : IE := fun ρ S => (fa ρ S).bind fun ds S1 => if ds.length < LIM then .ok (.tup ds) S1 else .bad
def iLst (fa : IA) : IE := fun ρ S => (fa ρ S).bind fun ds S1 => if ds.length < LIM then .ok (.ref S1.length) (S1 ++ [.lst ds]) else .bad
def iCallF (F : List D → Sto → R D) (fa : IA) : IE := fun ρ S => (fa ρ S).bind fun ds S1 => F ds S1
/-- a value as a truth value -/
def iB (fa : IE) : IT := fun ρ S => (fa ρ S).bind fun d S1 => match d with
  | .bl b => .ok b S1
  | _ => .bad
def tru (S : Sto) : D → Option Bool
  | .non => some false
  | .bl b => some b
  | .int i => some (i != 0)
  | .str x => if x.length < LIM then some (x.length != 0) else none
  | .ref n => match S[n]? with
    | some (.lst xs) => some (!xs.isEmpty)
    | _ => none
  | .tup xs => some (!xs.isEmpty)
  | _ => none
def iTru (fa : IE) : IT := fun ρ S => (fa ρ S).bind fun d S1 => match tru S1 d with
  | some b => .ok b S1
  | none => .bad
def jAnd (f h : IT) : IT := fun ρ S => (f ρ S).bind fun b S1 => if b = true then h ρ S1 else .ok false S1
def jOr (f h : IT) : IT := fun ρ S => (f ρ S).bind fun b S1 => if b = true then .ok true S1 else h ρ S1
def jNot (f : IT) : IT := fun ρ S => (f ρ S).bind fun b S1 => .ok (!b) S1
def iAnd (f h : IE) : IE := fun ρ S => (f ρ S).bind fun d S1 => match d with
  | .bl b => if b = true then h ρ S1 else .ok (.bl false) S1
  | _ => .bad
def iOr (f h : IE) : IE := fun ρ S => (f ρ S).bind fun d S1 => match d with
  | .bl b => if b = true then .ok (.bl true) S1 else h ρ S1
  | _ => .bad
def iNot (f : IE) : IE := fun ρ S => (f ρ S).bind fun d S1 => match d with
  | .bl b => .ok (.bl (!b)) S1
  | _ => .bad
def iIf (t : IT) (f h : IE) : IE := fun ρ S => (t ρ S).bind fun b S1 => if b = true then f ρ S1 else h ρ S1
def iChain (fo fo' : D → D → Sto → R D) (fa fb fc : IE) : IE := fun ρ S => (fa ρ S).bind fun x S1 => (fb ρ S1).bind fun y S2 => (fo x y S2).bind fun z S3 => match z with
  | .bl b => if b = true then (fc ρ S3).bind fun w S4 => fo' y w S4 else .ok (.bl false) S3
  | _ => .bad

section
variable {X : Cx} {g : G} {E : XK} {pos : Pos}
abbrev RE (X : Cx) (g : G) (E : XK) (e : Expr) (f : IE) : Prop := PE X e (tI X.K g E f)
abbrev RT (X : Cx) (g : G) (E : XK) (e : Expr) (f : IT) : Prop := PT X e (tIT X.K g E f)
abbrev RW (X : Cx) (g : G) (E : XK) (e : Expr) (f : IT) : Prop := PW X e (tIT X.K g E f)
abbrev RA (X : Cx) (g : G) (E : XK) (es : List Expr) (f : IA) : Prop := PA X es (tIA X.K g E f)
/-- a value in D that stands for itself everywhere -/
def Still (K : PySem.W.Frag) (v : V) (d : D) : Prop := ∀ φ H, DR K φ H d v
theorem still_int {K : PySem.W.Frag} {i : Int} : Still K (.int i) (.int i) := fun _ _ => by simp only [DR]
theorem still_bl {K : PySem.W.Frag} {b : Bool} : Still K (.bl b) (.bl b) := fun _ _ => by simp only [DR]
theorem still_str {K : PySem.W.Frag} {x : Str} : Still K (.str x) (.str x) := fun _ _ => by simp only [DR]
theorem still_non {K : PySem.W.Frag} : Still K .non .non := fun _ _ => by simp only [DR]
theorem still_ty {K : PySem.W.Frag} {n : String} : Still K (.ty n) (.ty n) := fun _ _ => by simp only [DR]
theorem re_c {e : Expr} {v : V} {d : D} (h : PE X e (tC v)) (q : Still X.K v d) : RE X g E e (iC d) := PE.imp h fun σ H Q ⟨φ, ρ, S, er, rp, k⟩ => k φ H (.refl rp) v (q φ H)
theorem re_int {i : Int} {j : Nat} : RE X g E (.Constant (.int i) j pos) (iC (.int i)) := re_c pe_int still_int
theorem re_bl {i : Bool} {j : Nat} : RE X g E (.Constant (.bool i) j pos) (iC (.bl i)) := re_c pe_bl still_bl
theorem re_str {i : Str} {j : Nat} : RE X g E (.Constant (.str i) j pos) (iC (.str i)) := re_c pe_str still_str
theorem re_non {j : Nat} : RE X g E (.Constant .none j pos) (iC .non) := re_c pe_non still_non
theorem re_var (i : Nat) {x : Str} (hN : X.N[i]? = some x := by rfl) (hv : Vis X.env.scope x := by first | exact Or.inl rfl | exact Or.inr (Or.inl rfl) | exact Or.inr (Or.inr rfl)) (hd : (x == ("__debug__" : Str)) = false := by decide)
    (hcd : (x == ("__classdict__" : Str)) = false := by decide) : RE X g E (.Name x pos) (iV i) := PE.imp (pe_var hN hv hd hcd) fun σ H Q ⟨φ, ρ, S, er, rp, k⟩ => by
  unfold iV at k
  cases h : ρ[i]? with
  | none => rw [h] at k; exact k.elim
  | some o =>
    cases o with
    | none => rw [h] at k; exact k.elim
    | some d =>
      rw [h] at k
      obtain ⟨v, h1, h2⟩ := er.2 i d h
      exact ⟨v, h1, k φ H (.refl rp) v h2⟩
theorem ra_nil : RA X g E [] aNil := PA.imp pa_nil fun σ H Q ⟨φ, ρ, S, er, rp, k⟩ => k φ H (.refl rp) [] .nil
theorem ra_cons {e : Expr} {es : List Expr} {fa : IE} {fr : IA} (ha : RE X g E e fa) (hr : RA X g E es fr) (hs : starEach (e :: es) X.env = (false, eval e X.env) :: starEach es X.env := by rfl) : RA X g E (e :: es) (aCons fa fr) :=
  PA.imp (pa_cons ha hr hs) fun σ H Q ⟨φ, ρ, S, er, rp, k⟩ => ⟨φ, ρ, S, er, rp, k.bind.mono fun d S1 φ1 H1 _ _ ⟨r1, n1, k1⟩ v dv => ⟨φ1, ρ, S1, n1.er er, r1, k1.bind.mono fun ds S2 φ2 H2 _ _ ⟨r2, n2, k2⟩ vs dvs =>
    k2 φ2 H2 (.refl r2) (v :: vs) (.cons (n2.dr dv) dvs)⟩⟩
/-- an operation by values -/
def OpI (K : PySem.W.Frag) (g : G) (r : R2) (fo : D → D → Sto → R D) : Prop := ∀ E φ S H d e x y Q, Rep K g φ S H → DR K φ H d x → DR K φ H e y → post K g E φ H (fo d e S) (fun z _ φ' H' => ∀ v, DR K φ' H' z v → Q v H') → r x y H Q
theorem re_op {op : Operator} {r : R2} {fo : D → D → Sto → R D} {a b : Expr} {fa fb : IE} (ho : OpR X (binaryOp op) r) (hi : OpI X.K g r fo) (ha : RE X g E a fa) (hb : RE X g E b fb) : RE X g E (.BinOp a op b pos) (iBin fo fa fb) :=
  PE.imp (pe_op ho ha hb) fun σ H Q ⟨φ, ρ, S, er, rp, k⟩ => ⟨φ, ρ, S, er, rp, k.bind.mono fun d S1 φ1 H1 _ _ ⟨r1, n1, k1⟩ v dv => ⟨φ1, ρ, S1, n1.er er, r1, k1.bind.mono fun e S2 φ2 H2 _ _ ⟨r2, n2, k2⟩ w dw =>
    hi E φ2 S2 H2 d e v w Q r2 (n2.dr dv) dw k2⟩⟩
theorem re_cmp {op : CmpOp} {r : R2} {fo : D → D → Sto → R D} {a b : Expr} {fa fb : IE} (ho : OpR X (compareOp op) r) (hi : OpI X.K g r fo) (ha : RE X g E a fa) (hb : RE X g E b fb) (hm : behindInMarks op b = false) : RE X g E (.Compare a [op] [b] pos) (iBin fo fa fb) :=
  PE.imp (pe_cmpR ho ha hb hm) fun σ H Q ⟨φ, ρ, S, er, rp, k⟩ => ⟨φ, ρ, S, er, rp, k.bind.mono fun d S1 φ1 H1 _ _ ⟨r1, n1, k1⟩ v dv => ⟨φ1, ρ, S1, n1.er er, r1, k1.bind.mono fun e S2 φ2 H2 _ _ ⟨r2, n2, k2⟩ w dw =>
    hi E φ2 S2 H2 d e v w Q r2 (n2.dr dv) dw k2⟩⟩
theorem bl_inv {K : PySem.W.Frag} {φ : List Addr} {H : Hp} {b : Bool} {v : V} (r : DR K φ H (.bl b) v) : v = .bl b := by simpa only [DR] using r
theorem rt_cmp {op : CmpOp} {r : R2} {fo : D → D → Sto → R D} {a b : Expr} {fa fb : IE} (ho : OpR X (compareOp op) r) (hi : OpI X.K g r fo) (ha : RE X g E a fa) (hb : RE X g E b fb) (hm : behindInMarks op b = false) : RT X g E (.Compare a [op] [b] pos) (iB (iBin fo fa fb)) :=
  PT.imp (pt_cmpR ho ha hb hm) fun σ H Q ⟨φ, ρ, S, er, rp, k⟩ => ⟨φ, ρ, S, er, rp, k.bind.bind.mono fun d S1 φ1 H1 _ _ ⟨r1, n1, k1⟩ v dv => ⟨φ1, ρ, S1, n1.er er, r1, k1.bind.mono fun e S2 φ2 H2 _ _ ⟨r2, n2, k2⟩ w dw =>
    hi E φ2 S2 H2 d e v w _ r2 (n2.dr dv) dw (k2.mono fun z S3 φ3 H3 _ n3 k3 v3 d3 => by
      cases z <;> try exact k3.2.2.elim
      obtain rfl := bl_inv d3
      exact ⟨_, rfl, k3.2.2 φ3 H3 (.refl n3.rep)⟩)⟩⟩
theorem re_chain {op op' : CmpOp} {r r' : R2} {fo fo' : D → D → Sto → R D} {a b c : Expr} {fa fb fc : IE} (ho : OpR X (compareOp op) r) (hi : OpI X.K g r fo) (ho' : OpR X (compareOp op') r') (hi' : OpI X.K g r' fo') (ha : RE X g E a fa) (hb : RE X g E b fb) (hc : RE X g E c fc)
    (hm : lastMarks [op, op'] [b, c] = false := by rfl) : RE X g E (.Compare a [op, op'] [b, c] pos) (iChain fo fo' fa fb fc) :=
  PE.imp (pe_chain ho ho' ha hb hc hm) fun σ H Q ⟨φ, ρ, S, er, rp, k⟩ => ⟨φ, ρ, S, er, rp, k.bind.mono fun d S1 φ1 H1 _ _ ⟨r1, n1, k1⟩ v dv => ⟨φ1, ρ, S1, n1.er er, r1, k1.bind.mono fun e S2 φ2 H2 _ _ ⟨r2, n2, k2⟩ w dw =>
    hi E φ2 S2 H2 d e v w _ r2 (n2.dr dv) dw (k2.bind.mono fun z S3 φ3 H3 _ _ ⟨r3, n3, k3⟩ v3 d3 => by
      obtain ⟨bb, rfl⟩ : ∃ bb, z = .bl bb := by
        cases z <;> first | exact k3.elim | exact ⟨_, rfl⟩
      obtain rfl := bl_inv d3
      refine ⟨_, rfl, ?_⟩
      cases bb with
      | false => exact k3 φ3 H3 (.refl r3) _ (by simp only [DR])
      | true =>
        dsimp only at k3
        rw [if_pos rfl] at k3 ⊢
        exact ⟨φ3, ρ, S3, n3.er (n2.er (n1.er er)), r3, k3.bind.mono fun z4 S4 φ4 H4 _ _ ⟨r4, n4, k4⟩ w4 d4 => hi' E φ4 S4 H4 _ _ _ _ _ r4 (n4.dr (n3.dr dw)) d4 k4⟩)⟩⟩
theorem bne_cast (n : Nat) : (n != 0) = ((n : Int) != 0) := by
  cases n with
  | zero => rfl
  | succ m =>
    have h1 : (m + 1 != 0) = true := by simp
    have h2 : (((m + 1 : Nat) : Int) != 0) = true := by
      rw [bne_iff_ne]
      omega
    rw [h1, h2]
/-- a value that is a truth value, as a test -/
theorem rt_val {e : Expr} {fa : IE} (h : RE X g E e fa) (he : ∀ whole, isTrue e X.env whole = (do let v ← whole; standAt e.pos; holding [v] (truthy v)) := by intro _; rfl) : RT X g E e (iB fa) :=
  PT.imp (pt_val h he) fun σ H Q ⟨φ, ρ, S, er, rp, k⟩ => ⟨φ, ρ, S, er, rp, k.bind.mono fun d S1 φ1 H1 _ _ ⟨r1, n1, k1⟩ v dv => by
    cases d <;> try exact k1.elim
    obtain rfl := bl_inv dv
    exact ⟨_, rfl, k1 φ1 H1 (.refl r1)⟩⟩
theorem tru_ok {K : PySem.W.Frag} {φ : List Addr} {H : Hp} {S : Sto} {d : D} {v : V} {b : Bool} (r : Rep K g φ S H) (h : tru S d = some b) (q : DR K φ H d v) : TruV K v H b := by
  cases d with
  | non => simp only [DR] at q; subst q; simp only [tru, Option.some.injEq] at h; subst h; rfl
  | bl c => simp only [DR] at q; subst q; simp only [tru, Option.some.injEq] at h; subst h; rfl
  | int i => simp only [DR] at q; subst q; simp only [tru, Option.some.injEq] at h; subst h; rfl
  | str x =>
    simp only [DR] at q; subst q
    simp only [tru] at h
    split at h
    · rename_i hl
      simp only [Option.some.injEq] at h
      subst h
      exact ⟨lim_le hl, bne_cast _⟩
    · cases h
  | ty n => simp [tru] at h
  | rl n => simp [tru] at h
  | tup xs =>
    simp only [DR] at q
    obtain ⟨a, vs, rfl, hs, hd⟩ := q
    simp only [tru, Option.some.injEq] at h
    subst h
    refine .inr (.inl ⟨vs, hs, ?_⟩)
    have := hd.length
    cases vs <;> cases xs <;> simp_all
  | ref n =>
    simp only [DR] at q
    obtain ⟨a, ha, rfl⟩ := q
    simp only [tru] at h
    split at h
    · rename_i xs hx
      simp only [Option.some.injEq] at h
      subst h
      obtain ⟨vs, h1, h2⟩ := r.cellAt hx ha
      refine .inl ⟨vs, .of h1, ?_⟩
      have := h2.length
      cases vs <;> cases xs <;> simp_all
    · cases h
theorem rt_tru {e : Expr} {fa : IE} (h : RE X g E e fa) (he : ∀ whole, isTrue e X.env whole = (do let v ← whole; standAt e.pos; holding [v] (truthy v)) := by intro _; rfl) : RT X g E e (iTru fa) :=
  PT.imp (pt_truth h he) fun σ H Q ⟨φ, ρ, S, er, rp, k⟩ => ⟨φ, ρ, S, er, rp, k.bind.mono fun d S1 φ1 H1 _ _ ⟨r1, n1, k1⟩ v dv => by
    cases ht : tru S1 d with
    | none => rw [ht] at k1; exact k1.elim
    | some b =>
      rw [ht] at k1
      exact ⟨b, tru_ok r1 ht dv, k1 φ1 H1 (.refl r1)⟩⟩
theorem rw_and1 {a : Expr} {f : IT} (ha : RT X g E a f) : RW X g E (.BoolOp .And [a] pos) f := pw_and1 ha
theorem rw_or1 {a : Expr} {f : IT} (ha : RT X g E a f) : RW X g E (.BoolOp .Or [a] pos) f := pw_or1 ha
theorem rw_and {a b : Expr} {rest : List Expr} {f h : IT} (ha : RT X g E a f) (hb : RW X g E (.BoolOp .And (b :: rest) pos) h) : RW X g E (.BoolOp .And (a :: b :: rest) pos) (jAnd f h) :=
  PW.imp (pw_and ha hb) fun σ H Q ⟨φ, ρ, S, er, rp, k⟩ => ⟨φ, ρ, S, er, rp, k.bind.mono fun d S1 φ1 H1 _ _ ⟨r1, n1, k1⟩ => by
    cases d with
    | true => rw [if_pos rfl] at k1 ⊢; exact ⟨φ1, ρ, S1, n1.er er, r1, k1⟩
    | false => exact k1 φ1 H1 (.refl r1)⟩
theorem rw_or {a b : Expr} {rest : List Expr} {f h : IT} (ha : RT X g E a f) (hb : RW X g E (.BoolOp .Or (b :: rest) pos) h) : RW X g E (.BoolOp .Or (a :: b :: rest) pos) (jOr f h) :=
  PW.imp (pw_or ha hb) fun σ H Q ⟨φ, ρ, S, er, rp, k⟩ => ⟨φ, ρ, S, er, rp, k.bind.mono fun d S1 φ1 H1 _ _ ⟨r1, n1, k1⟩ => by
    cases d with
    | false => exact ⟨φ1, ρ, S1, n1.er er, r1, k1⟩
    | true => exact k1 φ1 H1 (.refl r1)⟩
theorem rt_w {e : Expr} {f : IT} (h : RW X g E e f) : RT X g E e f := h.pt
theorem rt_not {a : Expr} {f : IT} (ha : RT X g E a f) : RT X g E (.UnaryOp .Not a pos) (jNot f) :=
  PT.imp (pt_not ha) fun σ H Q ⟨φ, ρ, S, er, rp, k⟩ => ⟨φ, ρ, S, er, rp, k.bind.mono fun d S1 φ1 H1 _ _ ⟨r1, n1, k1⟩ => k1 φ1 H1 (.refl r1)⟩
theorem re_one {a : Expr} {op : BoolOp} {f : IE} (ha : RE X g E a f) : RE X g E (.BoolOp op [a] pos) f := pe_one ha
theorem re_and {a b : Expr} {rest : List Expr} {f h : IE} (ha : RE X g E a f) (hb : RE X g E (.BoolOp .And (b :: rest) pos) h) : RE X g E (.BoolOp .And (a :: b :: rest) pos) (iAnd f h) :=
  PE.imp (pe_and ha hb) fun σ H Q ⟨φ, ρ, S, er, rp, k⟩ => ⟨φ, ρ, S, er, rp, k.bind.mono fun d S1 φ1 H1 _ _ ⟨r1, n1, k1⟩ v dv => by
    obtain ⟨bb, rfl⟩ : ∃ bb, d = .bl bb := by
      cases d <;> first | exact k1.elim | exact ⟨_, rfl⟩
    obtain rfl := bl_inv dv
    refine ⟨_, rfl, ?_⟩
    dsimp only at k1
    cases bb with
    | true => rw [if_pos rfl] at k1 ⊢; exact ⟨φ1, ρ, S1, n1.er er, r1, k1⟩
    | false => exact k1 φ1 H1 (.refl r1) _ (by simp only [DR])⟩
theorem re_or {a b : Expr} {rest : List Expr} {f h : IE} (ha : RE X g E a f) (hb : RE X g E (.BoolOp .Or (b :: rest) pos) h) : RE X g E (.BoolOp .Or (a :: b :: rest) pos) (iOr f h) :=
  PE.imp (pe_or ha hb) fun σ H Q ⟨φ, ρ, S, er, rp, k⟩ => ⟨φ, ρ, S, er, rp, k.bind.mono fun d S1 φ1 H1 _ _ ⟨r1, n1, k1⟩ v dv => by
    obtain ⟨bb, rfl⟩ : ∃ bb, d = .bl bb := by
      cases d <;> first | exact k1.elim | exact ⟨_, rfl⟩
    obtain rfl := bl_inv dv
    refine ⟨_, rfl, ?_⟩
    dsimp only at k1
    cases bb with
    | false => exact ⟨φ1, ρ, S1, n1.er er, r1, k1⟩
    | true => exact k1 φ1 H1 (.refl r1) _ (by simp only [DR])⟩
theorem re_not {a : Expr} {f : IE} (ha : RE X g E a f) : RE X g E (.UnaryOp .Not a pos) (iNot f) :=
  PE.imp (pe_not ha) fun σ H Q ⟨φ, ρ, S, er, rp, k⟩ => ⟨φ, ρ, S, er, rp, k.bind.mono fun d S1 φ1 H1 _ _ ⟨r1, n1, k1⟩ v dv => by
    cases d <;> try exact k1.elim
    obtain rfl := bl_inv dv
    exact ⟨_, rfl, k1 φ1 H1 (.refl r1) _ (by simp only [DR])⟩⟩
theorem re_if {c a b : Expr} {t : IT} {f h : IE} (hc : RT X g E c t) (ha : RE X g E a f) (hb : RE X g E b h) : RE X g E (.IfExp c a b pos) (iIf t f h) :=
  PE.imp (pe_ifExp hc ha hb) fun σ H Q ⟨φ, ρ, S, er, rp, k⟩ => ⟨φ, ρ, S, er, rp, k.bind.mono fun d S1 φ1 H1 _ _ ⟨r1, n1, k1⟩ => by
    cases d with
    | true => rw [if_pos rfl] at k1 ⊢; exact ⟨φ1, ρ, S1, n1.er er, r1, k1⟩
    | false => exact ⟨φ1, ρ, S1, n1.er er, r1, k1⟩⟩
theorem re_tup {es : List Expr} {x1 : Nat} {fa : IA} (h : RA X g E es fa) : RE X g E (.Tuple es x1 pos) (iTup fa) :=
  PE.imp (pe_tup h) fun σ H Q ⟨φ, ρ, S, er, rp, k⟩ => ⟨φ, ρ, S, er, rp, k.bind.mono fun ds S1 φ1 H1 _ _ ⟨r1, n1, k1⟩ vs dvs => by
    split at k1
    · rename_i hl
      refine ⟨lim_le (by rw [dvs.length]; exact hl), fun p hp => ?_⟩
      have n2 := r1.side (o := .tup vs) hp
      exact k1 φ1 _ n2 _ (by simp only [DR]; exact ⟨p, vs, rfl, .of upd_same, n2.drs dvs⟩)
    · exact k1.elim⟩
theorem re_lst {es : List Expr} {fa : IA} (h : RA X g E es fa) : RE X g E (.List es pos) (iLst fa) :=
  PE.imp (pe_lst h) fun σ H Q ⟨φ, ρ, S, er, rp, k⟩ => ⟨φ, ρ, S, er, rp, k.bind.mono fun ds S1 φ1 H1 _ _ ⟨r1, n1, k1⟩ vs dvs => by
    split at k1
    · rename_i hl
      refine ⟨lim_le (by rw [dvs.length]; exact hl), fun p hp => ?_⟩
      have hw : Wr (H1 p) := by rw [hp]; trivial
      have n2 := r1.alloc (o := .lst vs) (c := .lst ds) hp ⟨vs, upd_same, dvs.mono (List.prefix_append _ _) (.upd hw)⟩
      refine k1 _ _ n2 _ ?_
      simp only [DR]
      exact ⟨p, by rw [← r1.len]; simp, rfl⟩
    · exact k1.elim⟩
end

/-! ### a def and its function -/
def spI (K : PySem.W.Frag) (g : G) (n : Nat) (F : List D → Sto → R D) : Sp := fun vs H Q E => vs.length = n ∧ ∃ φ ds S, DRs K φ H ds vs ∧ Rep K g φ S H ∧ post K g E φ H (F ds S) fun d _ φ' H' => ∀ v, DR K φ' H' d v → Q v H'
structure FnI (P : Program) (w : World) (K : PySem.W.Frag) (mg : Str → Option Value) (base : Heap) (g : G) (x : Str) (k n : Nat) (F : List D → Sto → R D) : Prop where
  ex : ∃ f fd ps, FnOk P w K mg base (L2.CX P w) k f fd ps (spI K g n F) ∧ mg x = some (.ref f) ∧ PySem.W.keepIn K (.ref f) = true ∧ Binds K fd ps []
/-- a body's place: nothing is handled, what is raised is wished for, room -/
structure At (X : Cx) (E : XK) (k : Nat) : Prop where
  calm : X.calm = true
  tk : Takes X (fun cls d _ H => E cls d H)
  room : Room k X.A
  own : PassesOwn (model X.prog X.w) X.A X.env X.xe
theorem At.pass {X : Cx} {E : XK} {k : Nat} (a : At X E k) : Passes (L2.CX X.prog X.w) X E := passes_call a.tk fun _ _ _ _ h => h
section
variable {X : Cx} {g : G} {E : XK} {pos : Pos} {k j n : Nat} {F : List D → Sto → R D}
/-- in a place where nothing may leave -/
structure At0 (X : Cx) (k : Nat) : Prop where
  calm : X.calm = true
  room : Room k X.A
theorem passE0 : Passes (L2.CX X.prog X.w) X E0 := passL
theorem re_callP {e : Expr} {es : List Expr} {x : Str} {p : Pos} {fa : IA} (hF : FnI X.prog X.w X.K X.mg X.base g x j n F) (hr : Room j X.A) (hx : Passes (L2.CX X.prog X.w) X E) (hg : Gl X x) (ha : RA X g E (e :: es) fa)
    (hdb : (x == ("__debug__" : Str)) = false := by decide) (he : starEach (e :: es) X.env = (false, eval e X.env) :: starEach es X.env := by rfl) (hpl : (backTo pos (starEach es X.env)).any (·.1) = false := by rfl) (hn : (e :: es).length = n := by rfl)
    (hl : ∀ ρ S ds S', fa ρ S = .ok ds S' → ds.length = n) :
    RE X g E (.Call (.Name x p) (e :: es) [] pos) (iCallF F fa) := by
  obtain ⟨f, fd, ps, h1, h2, h3, h4⟩ := hF.ex
  refine PE.imp (pe_call h1 hr hg h2 h3 h4 .nil hx ha hdb he hpl) fun σ H Q ⟨φ, ρ, S, er, rp, q⟩ => ⟨φ, ρ, S, er, rp, q.bind.mono fun ds S1 φ1 H1 e1 _ ⟨r1, n1, k1⟩ vs dvs => ?_⟩
  exact ⟨by rw [List.append_nil, dvs.length]; exact hl _ _ _ _ e1, φ1, ds, S1, by rw [List.append_nil]; exact dvs, r1, k1⟩
theorem re_call0P {x : Str} {p : Pos} (hF : FnI X.prog X.w X.K X.mg X.base g x j 0 F) (hr : Room j X.A) (hx : Passes (L2.CX X.prog X.w) X E) (hg : Gl X x) (hdb : (x == ("__debug__" : Str)) = false := by decide) :
    RE X g E (.Call (.Name x p) [] [] pos) (iCallF F aNil) := by
  obtain ⟨f, fd, ps, h1, h2, h3, h4⟩ := hF.ex
  refine PE.imp (pe_call0 h1 hr hg h2 h3 h4 .nil hx hdb) fun σ H Q ⟨φ, ρ, S, er, rp, q⟩ => ?_
  exact ⟨rfl, φ, [], S, .nil, rp, q⟩
end
theorem aNil_len : ∀ ρ S ds S', aNil ρ S = .ok ds S' → ds.length = 0 := fun ρ S ds S' h => by
  unfold aNil at h
  cases h
  rfl
theorem bind_ok_inv {α β : Type} {r : R α} {f : α → Sto → R β} {b : β} {S' : Sto} (h : r.bind f = .ok b S') : ∃ a S1, r = .ok a S1 ∧ f a S1 = .ok b S' := by
  cases r with
  | ok a S1 => exact ⟨a, S1, rfl, h⟩
  | exc c S1 => cases h
  | bad => cases h
theorem aCons_len {fa : IE} {fr : IA} {n : Nat} (h : ∀ ρ S ds S', fr ρ S = .ok ds S' → ds.length = n) : ∀ ρ S ds S', aCons fa fr ρ S = .ok ds S' → ds.length = n + 1 := fun ρ S ds S' e => by
  unfold aCons at e
  obtain ⟨d, S1, _, e2⟩ := bind_ok_inv e
  obtain ⟨r, S2, e3, e4⟩ := bind_ok_inv e2
  cases e4
  rw [List.length_cons, h _ _ _ _ e3]
end J

set_option Elab.async false
set_option linter.all false
set_option maxRecDepth 100000
set_option maxHeartbeats 4000000
namespace J
open PySem PySem.Spec PyProof.Rows L2

/-! ### the operations on values -/
def mulOk (i j : Int) : Prop := (Builtin.Int.intBits i : Int) + (Builtin.Int.intBits j : Int) ≤ 134217728
instance (i j : Int) : Decidable (mulOk i j) := by unfold mulOk; exact inferInstance
def divOk (i j : Int) : Prop := 0 < j ∧ Builtin.divisionGoesByPylong i j = false
instance (i j : Int) : Decidable (divOk i j) := by unfold divOk; exact inferInstance
def lstOf (S : Sto) (n : Nat) : Option (List D) := match S[n]? with
  | some (.lst xs) => some xs
  | _ => none
def oAdd : D → D → Sto → R D
  | .int i, .int j, S => .ok (.int (i + j)) S
  | .str x, .str y, S => if x.length + y.length < LIM then .ok (.str (x ++ y)) S else .bad
  | .ref m, .ref n, S => match lstOf S m, lstOf S n with
    | some xs, some ys => if xs.length + ys.length < LIM then .ok (.ref S.length) (S ++ [.lst (xs ++ ys)]) else .bad
    | _, _ => .bad
  | .tup xs, .tup ys, S => if xs.length + ys.length < LIM then .ok (.tup (xs ++ ys)) S else .bad
  | _, _, _ => .bad
def oSub : D → D → Sto → R D
  | .int i, .int j, S => .ok (.int (i - j)) S
  | _, _, _ => .bad
def strRep (x : Str) (n : Nat) : Str := ⟨(List.replicate n x.cps).foldl (· ++ ·) #[]⟩
def oMul : D → D → Sto → R D
  | .int i, .int j, S => if mulOk i j then .ok (.int (i * j)) S else .bad
  | .ref m, .int k, S => match lstOf S m with
    | some xs => if k < LIM ∧ -(LIM : Int) < k ∧ xs.length * k.toNat < LIM then .ok (.ref S.length) (S ++ [.lst (List.replicate k.toNat xs).flatten]) else .bad
    | _ => .bad
  | .str x, .int k, S => if x.length = 1 ∧ 0 ≤ k ∧ k < LIM then .ok (.str (strRep x k.toNat)) S else .bad
  | _, _, _ => .bad
def oDiv : D → D → Sto → R D
  | .int i, .int j, S => if divOk i j then .ok (.int (i / j)) S else .bad
  | _, _, _ => .bad
def oMod : D → D → Sto → R D
  | .int i, .int j, S => if 0 < j then .ok (.int (i % j)) S else .bad
  | _, _, _ => .bad
def oPow : D → D → Sto → R D
  | .int i, .int j, S => if 0 ≤ j ∧ j ≤ 1000000 ∧ i.natAbs < 2 ^ 64 then .ok (.int (i ^ j.toNat)) S else .bad
  | _, _, _ => .bad
def oLt : D → D → Sto → R D
  | .int i, .int j, S => .ok (.bl (decide (i < j))) S
  | _, _, _ => .bad
def oLe : D → D → Sto → R D
  | .int i, .int j, S => .ok (.bl (decide (i ≤ j))) S
  | _, _, _ => .bad
def oGt : D → D → Sto → R D
  | .int i, .int j, S => .ok (.bl (decide (j < i))) S
  | _, _, _ => .bad
def oGe : D → D → Sto → R D
  | .int i, .int j, S => .ok (.bl (decide (j ≤ i))) S
  | _, _, _ => .bad
def isNon : D → Bool
  | .non => true
  | _ => false
def oIs : D → D → Sto → R D
  | d, .non, S => .ok (.bl (isNon d)) S
  | _, _, _ => .bad
def oIsNot : D → D → Sto → R D
  | d, .non, S => .ok (.bl (!isNon d)) S
  | _, _, _ => .bad
/-- the data that a value stands for -/
def toP : Nat → Sto → D → Option PyData
  | 0, _, _ => none
  | _ + 1, _, .non => some .none
  | _ + 1, _, .bl b => some (.bool b)
  | _ + 1, _, .int i => some (.int i)
  | _ + 1, _, .str x => if PySem.PyData.strOk x = true then some (.str x) else none
  | _ + 1, _, .ty _ => none
  | _ + 1, _, .rl _ => none
  | n + 1, S, .tup xs => (xs.mapM (toP n S)).map .tuple
  | n + 1, S, .ref m => match lstOf S m with
    | some xs => (xs.mapM (toP n S)).map .list
    | none => none
def oEq : D → D → Sto → R D := fun d e S => match toP 8 S d, toP 8 S e with
  | some a, some b => .ok (.bl (PyData.eqv a b)) S
  | _, _ => .bad
def oNe : D → D → Sto → R D := fun d e S => match toP 8 S d, toP 8 S e with
  | some a, some b => .ok (.bl (!PyData.eqv a b)) S
  | _, _ => .bad
def flatD : D → Bool
  | .non => true
  | .bl _ => true
  | .int _ => true
  | .str _ => true
  | _ => false
def eqD : D → D → Bool
  | .non, .non => true
  | .bl a, .bl b => a == b
  | .bl a, .int b => (if a then 1 else 0) == b
  | .int a, .bl b => a == (if b then 1 else 0)
  | .int a, .int b => a == b
  | .str a, .str b => a == b
  | _, _ => false
def inD (x : D) (xs : List D) : Bool := xs.any fun y => eqD y x
def dctOf (S : Sto) (n : Nat) : Option (List (Key × D)) := match S[n]? with
  | some (.dct xs) => some xs
  | _ => none
def keyD : D → Option Key
  | .int i => some (.inl i)
  | .str x => some (.inr x)
  | _ => none
def getK (kvs : List (Key × D)) (k : Key) : Option D := (kvs.find? fun kv => decide (kv.1 = k)).map (·.2)
def putK (kvs : List (Key × D)) (k : Key) (v : D) : List (Key × D) :=
  if (kvs.any fun kv => decide (kv.1 = k)) = true then kvs.map (fun kv => if kv.1 = k then (kv.1, v) else kv) else kvs ++ [(k, v)]
def dropK (kvs : List (Key × D)) (k : Key) : List (Key × D) := kvs.filter fun kv => decide (kv.1 ≠ k)
/-- x in y, y a list, a tuple, a text (x one sign) -/
def oIn : D → D → Sto → R D
  | d, .ref n, S => match lstOf S n with
    | some xs => if flatD d = true ∧ xs.all flatD = true then .ok (.bl (inD d xs)) S else .bad
    | none => .bad
  | d, .tup xs, S => if flatD d = true ∧ xs.all flatD = true then .ok (.bl (inD d xs)) S else .bad
  | .str x, .str z, S => if x.cps.size = 1 then .ok (.bl (decide (x.cps.getD 0 0 ∈ z.cps.toList))) S else .bad
  | _, _, _ => .bad
def oNotIn : D → D → Sto → R D
  | d, .ref n, S => match lstOf S n with
    | some xs => if flatD d = true ∧ xs.all flatD = true then .ok (.bl (!inD d xs)) S else .bad
    | none => .bad
  | d, .tup xs, S => if flatD d = true ∧ xs.all flatD = true then .ok (.bl (!inD d xs)) S else .bad
  | .str x, .str z, S => if x.cps.size = 1 then .ok (.bl (!decide (x.cps.getD 0 0 ∈ z.cps.toList))) S else .bad
  | _, _, _ => .bad
def oNeg : D → Sto → R D
  | .int i, S => .ok (.int (-i)) S
  | _, _ => .bad

/-! ### what they are in the heap -/
section
variable {K : PySem.W.Frag} {g : G} {E : XK} {φ : List Addr} {S : Sto} {H : Hp} {d e : D} {x y : V} {Q : VK} {k : D → Sto → List Addr → Hp → Prop}
theorem int_inv {i : Int} (r : DR K φ H (.int i) x) : x = .int i := by simpa only [DR] using r
theorem str_inv {i : Str} (r : DR K φ H (.str i) x) : x = .str i := by simpa only [DR] using r
theorem non_inv (r : DR K φ H .non x) : x = .non := by simpa only [DR] using r
theorem ty_inv {i : String} (r : DR K φ H (.ty i) x) : x = .ty i := by simpa only [DR] using r
theorem ref_inv {n : Nat} (r : DR K φ H (.ref n) x) : ∃ a, φ[n]? = some a ∧ x = .ref a := by simpa only [DR] using r
theorem tup_inv {ds : List D} (r : DR K φ H (.tup ds) x) : ∃ a vs, x = .ref a ∧ SqT K H a vs ∧ DRs K φ H ds vs := by simpa only [DR] using r
theorem dr_int {i : Int} : DR K φ H (.int i) (.int i) := by simp only [DR]
theorem dr_str {i : Str} : DR K φ H (.str i) (.str i) := by simp only [DR]
theorem dr_bl {i : Bool} : DR K φ H (.bl i) (.bl i) := by simp only [DR]
theorem dr_non : DR K φ H .non .non := by simp only [DR]
theorem dr_ref {n : Nat} {a : Addr} (h : φ[n]? = some a) : DR K φ H (.ref n) (.ref a) := by simp only [DR]; exact ⟨a, h, rfl⟩
theorem dr_tup {ds : List D} {vs : List V} {a : Addr} (h : SqT K H a vs) (q : DRs K φ H ds vs) : DR K φ H (.tup ds) (.ref a) := by simp only [DR]; exact ⟨a, vs, rfl, h, q⟩
theorem lstOf_some {n : Nat} {xs : List D} (h : lstOf S n = some xs) : S[n]? = some (.lst xs) := by
  unfold lstOf at h
  split at h
  · rename_i ys hy
    simp only [Option.some.injEq] at h
    subst h
    exact hy
  · cases h
theorem Rep.lst (r : Rep K g φ S H) {n : Nat} {a : Addr} {xs : List D} (h : lstOf S n = some xs) (ha : φ[n]? = some a) : ∃ vs, H a = some (.lst vs) ∧ DRs K φ H xs vs := r.cellAt (lstOf_some h) ha
theorem post.here {a : D} (r : Rep K g φ S H) (h : post K g E φ H (.ok a S) k) : k a S φ H := h φ H (.refl r)
/-- a new list -/
theorem post.newL {xs : List D} {vs : List V} {p : Addr} (r : Rep K g φ S H) (hp : H p = none) (q : DRs K φ H xs vs) (h : post K g E φ H (.ok (.ref S.length) (S ++ [.lst xs])) fun z _ φ' H' => ∀ v, DR K φ' H' z v → Q v H') : Q (.ref p) (upd H p (.lst vs)) := by
  have hw : Wr (H p) := by rw [hp]; trivial
  exact h _ _ (r.alloc (o := .lst vs) (c := .lst xs) hp ⟨vs, upd_same, q.mono (List.prefix_append _ _) (.upd hw)⟩) _ (dr_ref (by rw [← r.len]; simp))
theorem post.newT {xs : List D} {vs : List V} {p : Addr} (r : Rep K g φ S H) (hp : H p = none) (q : DRs K φ H xs vs) (h : post K g E φ H (.ok (.tup xs) S) fun z _ φ' H' => ∀ v, DR K φ' H' z v → Q v H') : Q (.ref p) (upd H p (.tup vs)) := by
  have n2 := r.side (o := .tup vs) hp
  exact h _ _ n2 _ (dr_tup (.of upd_same) (n2.drs q))
end
section
variable {X : Cx} {g : G}
def rAddJ (K : PySem.W.Frag) : R2 := fun x y H Q => (∃ i j, x = .int i ∧ y = .int j ∧ Q (.int (i + j)) H) ∨ (∃ i j, x = .str i ∧ y = .str j ∧ i.length + j.length ≤ sizeLine ∧ Q (.str (i ++ j)) H) ∨ rCat x y H Q ∨ rCatA K x y H Q
theorem op_addJ : OpR X (binaryOp .Add) (rAddJ X.K) := op_add.or (op_add_str.or (op_cat.or op_catA))
theorem oi_add {K : PySem.W.Frag} : OpI K g (rAddJ K) oAdd := fun E φ S H d e x y Q r hx hy k => by
  cases d with
  | int i =>
    cases e with
    | int j => obtain rfl := int_inv hx; obtain rfl := int_inv hy; exact .inl ⟨i, j, rfl, rfl, k.here r _ dr_int⟩
    | _ => exact k.elim
  | str i =>
    cases e with
    | str j =>
      obtain rfl := str_inv hx; obtain rfl := str_inv hy
      simp only [oAdd] at k
      split at k
      · rename_i hl
        exact .inr (.inl ⟨i, j, rfl, rfl, lim_le hl, k.here r _ dr_str⟩)
      · exact k.elim
    | _ => exact k.elim
  | ref m =>
    cases e with
    | ref n =>
      obtain ⟨a, ha, rfl⟩ := ref_inv hx
      obtain ⟨b, hb, rfl⟩ := ref_inv hy
      simp only [oAdd] at k
      split at k
      · rename_i xs ys h1 h2
        obtain ⟨vs, e1, e2⟩ := r.lst h1 ha
        obtain ⟨us, e3, e4⟩ := r.lst h2 hb
        split at k
        · rename_i hl
          exact .inr (.inr (.inl ⟨a, b, vs, us, rfl, rfl, e1, e3, by rw [e2.length, e4.length]; exact lim_le hl, fun p hp => k.newL r hp (e2.append e4)⟩))
        · exact k.elim
      · exact k.elim
    | _ => exact k.elim
  | tup xs =>
    cases e with
    | tup ys =>
      obtain ⟨a, vs, rfl, e1, e2⟩ := tup_inv hx
      obtain ⟨b, us, rfl, e3, e4⟩ := tup_inv hy
      simp only [oAdd] at k
      split at k
      · rename_i hl
        refine .inr (.inr (.inr ⟨a, b, vs, us, rfl, rfl, e1, e3, by rw [e2.length, e4.length]; exact lim_le hl, fun h0 => ?_, fun _ h0 => ?_, fun _ _ p hp => k.newT r hp (e2.append e4)⟩))
        · have hl0 : xs = [] := by
            have := e2.length
            rw [h0] at this
            exact List.length_eq_zero_iff.mp this.symm
          subst hl0
          exact k.here r _ (dr_tup e3 e4)
        · have hl0 : ys = [] := by
            have := e4.length
            rw [h0] at this
            exact List.length_eq_zero_iff.mp this.symm
          subst hl0
          rw [List.append_nil] at k
          exact k.here r _ (dr_tup e1 e2)
      · exact k.elim
    | _ => exact k.elim
  | _ => cases e <;> exact k.elim
theorem oi_sub {K : PySem.W.Frag} : OpI K g (rI0 fun i j => .int (i - j)) oSub := fun E φ S H d e x y Q r hx hy k => by
  cases d with
  | int i =>
    cases e with
    | int j => obtain rfl := int_inv hx; obtain rfl := int_inv hy; exact ⟨i, j, rfl, rfl, k.here r _ dr_int⟩
    | _ => exact k.elim
  | _ => cases e <;> exact k.elim
theorem op_fdivJ : OpR X (binaryOp .FloorDiv) (rI divOk fun i j => .int (i / j)) := opI fun i j _ _ _ _ _ hc q => by
  have h1 : (0 : Int) < j := hc.1
  exact floordiv_int (by omega) (by rw [Int.fdiv_eq_ediv_of_nonneg i (by omega)]; exact q) (.inl hc.2)
theorem oi_div {K : PySem.W.Frag} : OpI K g (rI divOk fun i j => .int (i / j)) oDiv := fun E φ S H d e x y Q r hx hy k => by
  cases d with
  | int i =>
    cases e with
    | int j =>
      obtain rfl := int_inv hx; obtain rfl := int_inv hy
      simp only [oDiv] at k
      split at k
      · rename_i h
        exact ⟨i, j, rfl, rfl, h, k.here r _ dr_int⟩
      · exact k.elim
    | _ => exact k.elim
  | _ => cases e <;> exact k.elim
theorem oi_mod {K : PySem.W.Frag} : OpI K g (rI (fun _ j => 0 < j) fun i j => .int (i % j)) oMod := fun E φ S H d e x y Q r hx hy k => by
  cases d with
  | int i =>
    cases e with
    | int j =>
      obtain rfl := int_inv hx; obtain rfl := int_inv hy
      simp only [oMod] at k
      split at k
      · rename_i h
        exact ⟨i, j, rfl, rfl, h, k.here r _ dr_int⟩
      · exact k.elim
    | _ => exact k.elim
  | _ => cases e <;> exact k.elim
theorem oi_pow {K : PySem.W.Frag} : OpI K g (rI CPow fun i j => .int (i ^ j.toNat)) oPow := fun E φ S H d e x y Q r hx hy k => by
  cases d with
  | int i =>
    cases e with
    | int j =>
      obtain rfl := int_inv hx; obtain rfl := int_inv hy
      simp only [oPow] at k
      split at k
      · rename_i h
        exact ⟨i, j, rfl, rfl, h, k.here r _ dr_int⟩
      · exact k.elim
    | _ => exact k.elim
  | _ => cases e <;> exact k.elim
theorem rep_size (a : Array Nat) : ∀ (n : Nat) (b : Array Nat), ((List.replicate n a).foldl (· ++ ·) b).size = b.size + n * a.size
  | 0, b => by simp
  | n + 1, b => by
    rw [List.replicate_succ, List.foldl_cons, rep_size a n]
    rw [Array.size_append, Nat.add_mul]
    omega
theorem op_strRep : OpR X (binaryOp .Mult) (fun x y H Q => ∃ z k, x = .str z ∧ y = .int k ∧ z.length = 1 ∧ 0 ≤ k ∧ k < (LIM : Int) ∧ Q (.str (strRep z k.toNat)) H) := by
  intro pins s σ H x y v u Q I rx ry h
  obtain ⟨z, k, rfl, rfl, h1, h2, h3, q⟩ := h
  obtain ⟨t, rfl⟩ := rx
  obtain ⟨t', rfl⟩ := ry
  have h3' : k < 1000000 := h3
  refine PySem.P.mul_str ?_ (fun _ _ => ?_) (fun _ _ => ?_) ?_
  · rw [decide_eq_false (by omega), decide_eq_false (by omega)]
    rfl
  · rw [h1]
    intro hh
    have := Int.le_ediv_of_mul_le (c := k) (a := 1) (b := 2 ^ 63 - 1) (by omega) (by omega)
    omega
  · rw [h1]
    simp only [Nat.one_mul]
    have hz : k.toNat < LIM := by
      show k.toNat < 1000000
      omega
    have := lim_le hz
    exact decide_eq_false (by omega)
  · by_cases hk : k < 1
    · rw [if_pos hk]
      have h0 : k = 0 := by omega
      subst h0
      exact ⟨by decide, ⟨.str _, H, I.tok _, ⟨_, rfl⟩, q⟩⟩
    · rw [if_neg hk]
      by_cases h1' : (k == 1 || z.length == 0) = true
      · rw [if_pos h1']
        have hk1 : k = 1 := by
          rw [h1] at h1'
          simpa using h1'
        subst hk1
        have e : strRep z 1 = z := by
          unfold strRep
          simp
        refine ⟨.str z, H, I, ⟨_, rfl⟩, ?_⟩
        have q' : Q (.str (strRep z 1)) H := q
        rw [e] at q'
        exact q'
      · rw [if_neg h1']
        refine ⟨?_, ⟨.str _, H, I.tok _, ⟨_, rfl⟩, q⟩⟩
        have hs : (strRep z k.toNat).length = k.toNat := by
          show ((List.replicate k.toNat z.cps).foldl (· ++ ·) #[]).size = k.toNat
          rw [rep_size]
          have : z.cps.size = 1 := h1
          rw [this]
          simp
        have hz : k.toNat < LIM := by
          show k.toNat < 1000000
          omega
        show (strRep z k.toNat).length ≤ sizeLine
        rw [hs]
        exact lim_le hz
def rMulJ : R2 := fun x y H Q => rI CMulX (fun i j => .int (i * j)) x y H Q ∨ rRep x y H Q ∨ (∃ z k, x = .str z ∧ y = .int k ∧ z.length = 1 ∧ 0 ≤ k ∧ k < (LIM : Int) ∧ Q (.str (strRep z k.toNat)) H)
theorem op_mulJ : OpR X (binaryOp .Mult) rMulJ := op_mulX.or (op_rep.or op_strRep)
theorem oi_mul {K : PySem.W.Frag} : OpI K g rMulJ oMul := fun E φ S H d e x y Q r hx hy k => by
  cases d with
  | int i =>
    cases e with
    | int j =>
      obtain rfl := int_inv hx; obtain rfl := int_inv hy
      simp only [oMul] at k
      split at k
      · rename_i h
        exact .inl ⟨i, j, rfl, rfl, h, k.here r _ dr_int⟩
      · exact k.elim
    | _ => exact k.elim
  | ref m =>
    cases e with
    | int j =>
      obtain ⟨a, ha, rfl⟩ := ref_inv hx; obtain rfl := int_inv hy
      simp only [oMul] at k
      split at k
      · rename_i xs h1
        obtain ⟨vs, e1, e2⟩ := r.lst h1 ha
        split at k
        · rename_i h
          have h1 : j < 1000000 := h.1
          have h2 : -1000000 < j := h.2.1
          exact .inr (.inl ⟨a, j, vs, rfl, rfl, e1, by omega, by omega, by rw [e2.length]; exact lim_le h.2.2, fun p hp => k.newL r hp (e2.flat _)⟩)
        · exact k.elim
      · exact k.elim
    | _ => exact k.elim
  | str z =>
    cases e with
    | int j =>
      obtain rfl := str_inv hx; obtain rfl := int_inv hy
      simp only [oMul] at k
      split at k
      · rename_i h
        exact .inr (.inr ⟨z, j, rfl, rfl, h.1, h.2.1, h.2.2, k.here r _ dr_str⟩)
      · exact k.elim
    | _ => exact k.elim
  | _ => cases e <;> exact k.elim
theorem oi_cmp {K : PySem.W.Frag} {p : Int → Int → Bool} {fo : D → D → Sto → R D} (h1 : ∀ i j S, fo (.int i) (.int j) S = .ok (.bl (p i j)) S) (h2 : ∀ d e S, (∀ i j, d = .int i → e = .int j → False) → fo d e S = .bad) : OpI K g (rI0 fun i j => .bl (p i j)) fo := fun E φ S H d e x y Q r hx hy k => by
  by_cases h : ∃ i j, d = .int i ∧ e = .int j
  · obtain ⟨i, j, rfl, rfl⟩ := h
    obtain rfl := int_inv hx; obtain rfl := int_inv hy
    rw [h1] at k
    exact ⟨i, j, rfl, rfl, k.here r _ dr_bl⟩
  · rw [h2 d e S fun i j a b => h ⟨i, j, a, b⟩] at k
    exact k.elim
theorem oi_lt {K : PySem.W.Frag} : OpI K g (rI0 fun i j => .bl (decide (i < j))) oLt := oi_cmp (fun _ _ _ => rfl) fun d e S h => by
  cases d <;> cases e <;> first | rfl | exact (h _ _ rfl rfl).elim
theorem oi_le {K : PySem.W.Frag} : OpI K g (rI0 fun i j => .bl (decide (i ≤ j))) oLe := oi_cmp (fun _ _ _ => rfl) fun d e S h => by
  cases d <;> cases e <;> first | rfl | exact (h _ _ rfl rfl).elim
theorem oi_gt {K : PySem.W.Frag} : OpI K g (rI0 fun i j => .bl (decide (j < i))) oGt := oi_cmp (fun _ _ _ => rfl) fun d e S h => by
  cases d <;> cases e <;> first | rfl | exact (h _ _ rfl rfl).elim
theorem oi_ge {K : PySem.W.Frag} : OpI K g (rI0 fun i j => .bl (decide (j ≤ i))) oGe := oi_cmp (fun _ _ _ => rfl) fun d e S h => by
  cases d <;> cases e <;> first | rfl | exact (h _ _ rfl rfl).elim
theorem isNon_dr {K : PySem.W.Frag} {φ : List Addr} {H : Hp} {d : D} {x : V} (r : DR K φ H d x) : decide (x = .non) = isNon d := by
  cases d with
  | non => rw [non_inv r]; rfl
  | bl b => rw [bl_inv r]; rfl
  | int b => rw [int_inv r]; rfl
  | str b => rw [str_inv r]; rfl
  | ty b => rw [ty_inv r]; rfl
  | ref n => obtain ⟨a, _, rfl⟩ := ref_inv r; rfl
  | rl n => simp only [DR] at r; obtain ⟨a, rfl, _⟩ := r; rfl
  | tup n => obtain ⟨a, _, rfl, _⟩ := tup_inv r; rfl
theorem oi_is {K : PySem.W.Frag} : OpI K g (fun x y H Q => y = .non ∧ Q (.bl (decide (x = .non))) H) oIs := fun E φ S H d e x y Q r hx hy k => by
  cases e with
  | non =>
    have k' : post K g E φ H (R.ok (D.bl (isNon d)) S) (fun z _ φ' H' => ∀ v, DR K φ' H' z v → Q v H') := by cases d <;> exact k
    exact ⟨non_inv hy, by rw [isNon_dr hx]; exact k'.here r _ dr_bl⟩
  | _ => cases d <;> exact k.elim
theorem oi_isNot {K : PySem.W.Frag} : OpI K g (fun x y H Q => y = .non ∧ Q (.bl (!decide (x = .non))) H) oIsNot := fun E φ S H d e x y Q r hx hy k => by
  cases e with
  | non =>
    have k' : post K g E φ H (R.ok (D.bl (!isNon d)) S) (fun z _ φ' H' => ∀ v, DR K φ' H' z v → Q v H') := by cases d <;> exact k
    exact ⟨non_inv hy, by rw [isNon_dr hx]; exact k'.here r _ dr_bl⟩
  | _ => cases d <;> exact k.elim
/-! data -/
theorem mapM_cons_some {α β : Type} {f : α → Option β} {x : α} {xs : List α} {bs : List β} (h : (x :: xs).mapM f = some bs) : ∃ b r, f x = some b ∧ xs.mapM f = some r ∧ bs = b :: r := by
  rw [List.mapM_cons] at h
  cases h1 : f x with
  | none => rw [h1] at h; cases h
  | some b =>
    rw [h1] at h
    cases h2 : xs.mapM f with
    | none => rw [h2] at h; cases h
    | some r =>
      rw [h2] at h
      exact ⟨b, r, rfl, rfl, (Option.some.inj h).symm⟩
theorem toP_ok {K : PySem.W.Frag} {φ : List Addr} {H : Hp} {S : Sto} (r : Rep K g φ S H) : ∀ (n : Nat) {d : D} {p : PyData} {v : V}, toP n S d = some p → DR K φ H d v → Dp K H v p ∧ p.canLay0 = true ∧ p.depth ≤ n
  | 0, _, _, _, h, _ => by simp [toP] at h
  | n + 1, d, p, v, h, q => by
    have all : ∀ {xs : List D} {vs : List V} {ps : List PyData}, xs.mapM (toP n S) = some ps → DRs K φ H xs vs → DpAll K H vs ps ∧ PyData.canLayAll0 ps = true ∧ PyData.depthAll ps ≤ n := by
      intro xs
      induction xs with
      | nil =>
        intro vs ps h q
        rw [q.nil_inv]
        simp at h
        subst h
        exact ⟨.nil, rfl, Nat.zero_le _⟩
      | cons x xs ih =>
        intro vs ps h q
        obtain ⟨v, rs, rfl, q1, q2⟩ := q.cons_inv
        obtain ⟨b, r', h1, h2, rfl⟩ := mapM_cons_some h
        obtain ⟨a1, a2, a3⟩ := toP_ok r n h1 q1
        obtain ⟨b1, b2, b4⟩ := ih h2 q2
        have hd : PyData.depthAll (b :: r') ≤ n := by
          simp only [PyData.depthAll]
          omega
        exact ⟨.cons a1 b1, by simp [PyData.canLayAll0, a2, b2], hd⟩
    cases d with
    | non => simp [toP] at h; subst h; rw [non_inv q]; exact ⟨.non, by simp [PyData.canLay0], by simp [PyData.depth]⟩
    | bl b => simp [toP] at h; subst h; rw [bl_inv q]; exact ⟨.bl _, by simp [PyData.canLay0], by simp [PyData.depth]⟩
    | int b => simp [toP] at h; subst h; rw [int_inv q]; exact ⟨.int _, by simp [PyData.canLay0], by simp [PyData.depth]⟩
    | str b =>
      simp only [toP] at h
      split at h
      · rename_i hs
        simp at h; subst h; rw [str_inv q]; exact ⟨.str _, by simpa [PyData.canLay0] using hs, by simp [PyData.depth]⟩
      · cases h
    | ty b => simp [toP] at h
    | rl b => simp [toP] at h
    | tup xs =>
      obtain ⟨a, vs, rfl, e1, e2⟩ := tup_inv q
      simp only [toP, Option.map_eq_some_iff] at h
      obtain ⟨ps, h1, rfl⟩ := h
      obtain ⟨b1, b2, b4⟩ := all h1 e2
      exact ⟨.tup e1 b1, by simpa [PyData.canLay0] using b2, by simp only [PyData.depth]; omega⟩
    | ref m =>
      obtain ⟨a, ha, rfl⟩ := ref_inv q
      simp only [toP] at h
      split at h
      · rename_i xs hx
        obtain ⟨vs, e1, e2⟩ := r.lst hx ha
        simp only [Option.map_eq_some_iff] at h
        obtain ⟨ps, h1, rfl⟩ := h
        obtain ⟨b1, b2, b4⟩ := all h1 e2
        exact ⟨.lst (.of e1) b1, by simpa [PyData.canLay0] using b2, by simp only [PyData.depth]; omega⟩
      · cases h
theorem toP_shaped {p : PyData} (h1 : p.canLay0 = true) (h2 : p.depth ≤ 8) : SeqAt.shaped p = true := by
  unfold SeqAt.shaped
  rw [h1, Bool.true_and, decide_eq_true_iff]
  omega
theorem oi_eq {K : PySem.W.Frag} : OpI K g (rEqD K) oEq := fun E φ S H d e x y Q r hx hy k => by
  unfold oEq at k
  split at k
  · rename_i a b h1 h2
    obtain ⟨a1, a2, a3⟩ := toP_ok r 8 h1 hx
    obtain ⟨b1, b2, b3⟩ := toP_ok r 8 h2 hy
    exact ⟨a, b, a1, b1, toP_shaped a2 a3, toP_shaped b2 b3, k.here r _ dr_bl⟩
  · exact k.elim
theorem oi_ne {K : PySem.W.Frag} : OpI K g (rNeD K) oNe := fun E φ S H d e x y Q r hx hy k => by
  unfold oNe at k
  split at k
  · rename_i a b h1 h2
    obtain ⟨a1, a2, a3⟩ := toP_ok r 8 h1 hx
    obtain ⟨b1, b2, b3⟩ := toP_ok r 8 h2 hy
    exact ⟨a, b, a1, b1, toP_shaped a2 a3, toP_shaped b2 b3, k.here r _ dr_bl⟩
  · exact k.elim
theorem flat_dr {K : PySem.W.Frag} {φ : List Addr} {H : Hp} {d : D} {x : V} (r : DR K φ H d x) (h : flatD d = true) : flatV x = true := by
  cases d with
  | non => rw [non_inv r]; rfl
  | bl b => rw [bl_inv r]; rfl
  | int b => rw [int_inv r]; rfl
  | str b => rw [str_inv r]; rfl
  | ty b => simp [flatD] at h
  | ref n => simp [flatD] at h
  | rl n => simp [flatD] at h
  | tup n => simp [flatD] at h
theorem eqV_dr {K : PySem.W.Frag} {φ : List Addr} {H : Hp} {d e : D} {x y : V} (r : DR K φ H d x) (q : DR K φ H e y) (hd : flatD d = true) (he : flatD e = true) : eqV x y = eqD d e := by
  cases d <;> first
    | (simp [flatD] at hd; done)
    | (cases e <;> first
        | (simp [flatD] at he; done)
        | (simp only [DR] at r q; subst r; subst q; rfl))
theorem inV_dr {K : PySem.W.Frag} {φ : List Addr} {H : Hp} {d : D} {x : V} (r : DR K φ H d x) (hd : flatD d = true) : ∀ {xs : List D} {vs : List V}, DRs K φ H xs vs → xs.all flatD = true → inV x vs = inD d xs ∧ vs.all flatV = true
  | [], _, q, _ => by rw [q.nil_inv]; exact ⟨rfl, rfl⟩
  | z :: xs, _, q, h => by
    obtain ⟨v, rs, rfl, q1, q2⟩ := q.cons_inv
    rw [List.all_cons, Bool.and_eq_true] at h
    obtain ⟨a, b⟩ := inV_dr r hd q2 h.2
    unfold inV at a ⊢
    unfold inD at a ⊢
    rw [List.any_cons, List.any_cons, a, eqV_dr q1 r h.1 hd, List.all_cons, flat_dr q1 h.1, b]
    exact ⟨rfl, rfl⟩
def rInJ (K : PySem.W.Frag) (neg : Bool) : R2 := fun x y H Q => rIn K neg x y H Q ∨ (∃ (c : Nat) (z : Str), x = .str ⟨#[c]⟩ ∧ y = .str z ∧ Q (.bl (if neg then !decide (c ∈ z.cps.toList) else decide (c ∈ z.cps.toList))) H)
theorem op_inJ : OpR X (compareOp .In) (rInJ X.K false) := op_in_seq.or op_in_sign
theorem op_notInJ : OpR X (compareOp .NotIn) (rInJ X.K true) := op_notIn_seq.or op_notIn_sign
theorem oneSign {x : Str} (h : x.cps.size = 1) : x = ⟨#[x.cps.getD 0 0]⟩ := by
  obtain ⟨a⟩ := x
  have h' : a.size = 1 := h
  congr 1
  apply Array.ext
  · simpa using h'
  · intro i h1 h2
    have : i = 0 := by omega
    subst this
    simp [Array.getD, h']
theorem oi_in {K : PySem.W.Frag} : OpI K g (rInJ K false) oIn := fun E φ S H d e x y Q r hx hy k => by
  have seq : ∀ {p : Addr} {xs : List D} {vs : List V}, y = .ref p → (SqL K H p vs ∨ SqT K H p vs) → DRs K φ H xs vs → post K g E φ H (if flatD d = true ∧ xs.all flatD = true then .ok (.bl (inD d xs)) S else .bad) (fun z _ φ' H' => ∀ v, DR K φ' H' z v → Q v H') → rIn K false x y H Q := by
    intro p xs vs ey hs hd k
    split at k
    · rename_i h
      obtain ⟨a, b⟩ := inV_dr hx h.1 hd h.2
      refine ⟨p, vs, ey, hs, flat_dr hx h.1, b, ?_⟩
      rw [a]
      exact k.here r _ dr_bl
    · exact k.elim
  cases e with
  | ref n =>
    obtain ⟨a, ha, rfl⟩ := ref_inv hy
    have k' : post K g E φ H (match lstOf S n with
      | some xs => if flatD d = true ∧ xs.all flatD = true then .ok (.bl (inD d xs)) S else .bad
      | none => .bad) (fun z _ φ' H' => ∀ v, DR K φ' H' z v → Q v H') := by cases d <;> exact k
    split at k'
    · rename_i xs h1
      obtain ⟨vs, e1, e2⟩ := r.lst h1 ha
      exact .inl (seq rfl (.inl (.of e1)) e2 k')
    · exact k'.elim
  | tup xs =>
    obtain ⟨a, vs, rfl, e1, e2⟩ := tup_inv hy
    have k' : post K g E φ H (if flatD d = true ∧ xs.all flatD = true then .ok (.bl (inD d xs)) S else .bad) (fun z _ φ' H' => ∀ v, DR K φ' H' z v → Q v H') := by cases d <;> exact k
    exact .inl (seq rfl (.inr e1) e2 k')
  | str z =>
    cases d with
    | str u =>
      obtain rfl := str_inv hx
      obtain rfl := str_inv hy
      simp only [oIn] at k
      split at k
      · rename_i h
        exact .inr ⟨u.cps.getD 0 0, z, by rw [← oneSign h], rfl, k.here r _ dr_bl⟩
      · exact k.elim
    | _ => exact k.elim
  | _ => cases d <;> exact k.elim
theorem oi_notIn {K : PySem.W.Frag} : OpI K g (rInJ K true) oNotIn := fun E φ S H d e x y Q r hx hy k => by
  have seq : ∀ {p : Addr} {xs : List D} {vs : List V}, y = .ref p → (SqL K H p vs ∨ SqT K H p vs) → DRs K φ H xs vs → post K g E φ H (if flatD d = true ∧ xs.all flatD = true then .ok (.bl (!inD d xs)) S else .bad) (fun z _ φ' H' => ∀ v, DR K φ' H' z v → Q v H') → rIn K true x y H Q := by
    intro p xs vs ey hs hd k
    split at k
    · rename_i h
      obtain ⟨a, b⟩ := inV_dr hx h.1 hd h.2
      refine ⟨p, vs, ey, hs, flat_dr hx h.1, b, ?_⟩
      rw [a]
      exact k.here r _ dr_bl
    · exact k.elim
  cases e with
  | ref n =>
    obtain ⟨a, ha, rfl⟩ := ref_inv hy
    have k' : post K g E φ H (match lstOf S n with
      | some xs => if flatD d = true ∧ xs.all flatD = true then .ok (.bl (!inD d xs)) S else .bad
      | none => .bad) (fun z _ φ' H' => ∀ v, DR K φ' H' z v → Q v H') := by cases d <;> exact k
    split at k'
    · rename_i xs h1
      obtain ⟨vs, e1, e2⟩ := r.lst h1 ha
      exact .inl (seq rfl (.inl (.of e1)) e2 k')
    · exact k'.elim
  | tup xs =>
    obtain ⟨a, vs, rfl, e1, e2⟩ := tup_inv hy
    have k' : post K g E φ H (if flatD d = true ∧ xs.all flatD = true then .ok (.bl (!inD d xs)) S else .bad) (fun z _ φ' H' => ∀ v, DR K φ' H' z v → Q v H') := by cases d <;> exact k
    exact .inl (seq rfl (.inr e1) e2 k')
  | str z =>
    cases d with
    | str u =>
      obtain rfl := str_inv hx
      obtain rfl := str_inv hy
      simp only [oNotIn] at k
      split at k
      · rename_i h
        exact .inr ⟨u.cps.getD 0 0, z, by rw [← oneSign h], rfl, k.here r _ dr_bl⟩
      · exact k.elim
    | _ => exact k.elim
  | _ => cases d <;> exact k.elim
end
end J

set_option Elab.async false
set_option linter.all false
set_option maxRecDepth 100000
set_option maxHeartbeats 4000000
namespace J
open PySem PySem.Spec PyProof.Rows L2

/-! ### subscripts, slices -/
def oIx : D → D → Sto → R D
  | .ref n, .int i, S => match lstOf S n with
    | some xs => match atI xs i with
      | some d => .ok d S
      | none => .bad
    | none => .bad
  | .ref n, .str x, S => match dctOf S n with
    | some kvs => match getK kvs (.inr x) with
      | some d => .ok d S
      | none => .bad
    | none => .bad
  | .rl ns, .int i, S => match atI ns i with
    | some d => .ok (.int d) S
    | none => .bad
  | .tup xs, .int i, S => match atI xs i with
    | some d => .ok d S
    | none => .bad
  | .str z, .int i, S => if z.length < LIM then match atI z.cps.toList i with
    | some c => .ok (.str ⟨#[c]⟩) S
    | none => .bad
    else .bad
  | _, _, _ => .bad
section
variable {K : PySem.W.Frag} {φ : List Addr} {H : Hp}
theorem DRs.atI {xs : List D} {vs : List V} {i : Int} {d : D} (r : DRs K φ H xs vs) (h : atI xs i = some d) : ∃ v, L2.atI vs i = some v ∧ DR K φ H d v := by
  unfold L2.atI at h ⊢
  rw [r.length]
  cases q : ixN xs.length i with
  | none => rw [q] at h; cases h
  | some j =>
    rw [q] at h
    exact r.get h
theorem atI_map {α β : Type} (f : α → β) (xs : List α) (i : Int) : atI (xs.map f) i = (atI xs i).map f := by
  unfold L2.atI
  rw [List.length_map]
  cases ixN xs.length i with
  | none => rfl
  | some j => simp
theorem rl_inv {ns : List Int} {x : V} (r : DR K φ H (.rl ns) x) : ∃ a, x = .ref a ∧ SqP K H a (ns.map V.int) := by simpa only [DR] using r
end
theorem PE.or {X : Cx} {e : Expr} {t t' : TE} (h : PE X e t) (h' : PE X e t') : PE X e (fun σ H Q => t σ H Q ∨ t' σ H Q) := ⟨fun pins s σ H Q I w => w.elim (h.run pins s σ H Q I) (h'.run pins s σ H Q I)⟩
theorem IxR.or {X : Cx} {r r' : R2} (h : IxR X r) (h' : IxR X r') : IxR X (fun x y H Q => r x y H Q ∨ r' x y H Q) := fun a b pins s σ H x y v u Q I rx ry q hs => q.elim (fun q => h a b pins s σ H x y v u Q I rx ry q hs) (fun q => h' a b pins s σ H x y v u Q I rx ry q hs)
def rIxJ (K : PySem.W.Frag) : R2 := fun x y H Q => rIxL K x y H Q ∨ rIxT K x y H Q ∨ rIxS x y H Q
theorem ix_J {X : Cx} : IxR X (rIxJ X.K) := IxR.or ix_list (IxR.or ix_tup ix_str)
/-- lists, tuples, texts -/
def plainD : D → Bool
  | .ref _ => false
  | _ => true
theorem oi_ix {K : PySem.W.Frag} {g : G} {E : XK} {φ : List Addr} {S : Sto} {H : Hp} {d e : D} {x y : V} {Q : VK} (r : Rep K g φ S H) (hx : DR K φ H d x) (hy : DR K φ H e y) (hnd : ∀ n z, d = .ref n → e = .str z → False)
    (k : post K g E φ H (oIx d e S) (fun z _ φ' H' => ∀ v, DR K φ' H' z v → Q v H')) : rIxJ K x y H Q := by
  cases d with
  | ref n =>
    obtain ⟨a, ha, rfl⟩ := ref_inv hx
    cases e with
    | int i =>
      obtain rfl := int_inv hy
      simp only [oIx] at k
      split at k
      · rename_i xs h1
        obtain ⟨vs, e1, e2⟩ := r.lst h1 ha
        split at k
        · rename_i d h2
          obtain ⟨v, h3, h4⟩ := e2.atI h2
          exact .inl ⟨a, vs, i, v, rfl, rfl, .of e1, h3, k.here r _ h4⟩
        · exact k.elim
      · exact k.elim
    | str z => exact (hnd n z rfl rfl).elim
    | _ => exact k.elim
  | rl ns =>
    obtain ⟨a, rfl, hp⟩ := rl_inv hx
    cases e with
    | int i =>
      obtain rfl := int_inv hy
      simp only [oIx] at k
      split at k
      · rename_i d h2
        exact .inl ⟨a, ns.map V.int, i, .int d, rfl, rfl, hp.sq, by rw [atI_map, h2]; rfl, k.here r _ dr_int⟩
      · exact k.elim
    | _ => exact k.elim
  | tup xs =>
    obtain ⟨a, vs, rfl, e1, e2⟩ := tup_inv hx
    cases e with
    | int i =>
      obtain rfl := int_inv hy
      simp only [oIx] at k
      split at k
      · rename_i d h2
        obtain ⟨v, h3, h4⟩ := e2.atI h2
        exact .inr (.inl ⟨a, vs, i, v, rfl, rfl, e1, h3, k.here r _ h4⟩)
      · exact k.elim
    | _ => exact k.elim
  | str z =>
    obtain rfl := str_inv hx
    cases e with
    | int i =>
      obtain rfl := int_inv hy
      simp only [oIx] at k
      split at k
      · rename_i hl
        split at k
        · rename_i c h2
          exact .inr (.inr ⟨z, i, c, rfl, rfl, lim_le hl, h2, k.here r _ dr_str⟩)
        · exact k.elim
      · exact k.elim
    | _ => exact k.elim
  | _ => cases e <;> exact k.elim
section
variable {X : Cx} {g : G} {E : XK} {pos : Pos}
theorem keyR_find {K : PySem.W.Frag} {φ : List Addr} {H : Hp} : ∀ {kvs : List (Key × D)} {ws : List (Key × V)} {k : Key} {d : D}, Paired (KeyR K φ H) kvs ws → getK kvs k = some d → ∃ v, valV ws k = some v ∧ DR K φ H d v
  | _, _, _, _, .nil, h => by simp [getK] at h
  | p :: kvs, q :: ws, k, d, .cons r t, h => by
    by_cases e : p.1 = k
    · have h' : getK (p :: kvs) k = some p.2 := by simp [getK, List.find?_cons, e]
      rw [h'] at h
      cases h
      have e2 : q.1 = k := by rw [← r.1]; exact e
      exact ⟨q.2, valV_pos e2, r.2⟩
    · have h' : getK (p :: kvs) k = getK kvs k := by simp [getK, List.find?_cons, e]
      rw [h'] at h
      have e2 : ¬ q.1 = k := by rw [← r.1]; exact e
      obtain ⟨v, h1, h2⟩ := keyR_find t h
      exact ⟨v, by rw [valV_neg e2]; exact h1, h2⟩
theorem keyR_none {K : PySem.W.Frag} {φ : List Addr} {H : Hp} : ∀ {kvs : List (Key × D)} {ws : List (Key × V)} {k : Key}, Paired (KeyR K φ H) kvs ws → getK kvs k = none → valV ws k = none
  | _, _, _, .nil, h => rfl
  | p :: kvs, q :: ws, k, .cons r t, h => by
    by_cases e : p.1 = k
    · have h' : getK (p :: kvs) k = some p.2 := by simp [getK, List.find?_cons, e]
      rw [h'] at h
      cases h
    · have h' : getK (p :: kvs) k = getK kvs k := by simp [getK, List.find?_cons, e]
      rw [h'] at h
      have e2 : ¬ q.1 = k := by rw [← r.1]; exact e
      rw [valV_neg e2]
      exact keyR_none t h
theorem dctOf_some {S : Sto} {n : Nat} {xs : List (Key × D)} (h : dctOf S n = some xs) : S[n]? = some (.dct xs) := by
  unfold dctOf at h
  split at h
  · rename_i ys hy
    simp only [Option.some.injEq] at h
    subst h
    exact hy
  · cases h
theorem Rep.dct {K : PySem.W.Frag} {g : G} {φ : List Addr} {S : Sto} {H : Hp} (r : Rep K g φ S H) {n : Nat} {a : Addr} {xs : List (Key × D)} (h : dctOf S n = some xs) (ha : φ[n]? = some a) : ∃ ws, H a = some (.dK ws) ∧ Paired (KeyR K φ H) xs ws := r.cellAt (dctOf_some h) ha
theorem re_ixP {a b : Expr} {fa fb : IE} (hu : X.A.units + 1 < cLine) (ha : RE X g E a fa) (hb : RE X g E b fb) (hs : PlainIx b := by exact fun _ _ => rfl) (hs2 : NoSl b := by exact fun _ _ => rfl) : RE X g E (.Subscript a b pos) (iBin oIx fa fb) := by
  refine PE.imp (PE.or (pe_ix ix_J ha hb hs) (pe_dget (hu := hu) (hs := hs2) ha hb)) fun σ H Q ⟨φ, ρ, S, er, rp, k⟩ => ?_
  by_cases hd : ∃ n S1 z S2, fa ρ S = .ok (.ref n) S1 ∧ fb ρ S1 = .ok (.str z) S2
  · obtain ⟨n, S1, z, S2, ea, eb⟩ := hd
    refine .inr ⟨φ, ρ, S, er, rp, k.bind.mono fun d S1' φ1 H1 e1 _ ⟨r1, n1, k1⟩ v dv => ⟨φ1, ρ, S1', n1.er er, r1, k1.bind.mono fun e S2' φ2 H2 e2 _ ⟨r2, n2, k2⟩ w dw => ?_⟩⟩
    rw [ea] at e1
    cases e1
    rw [eb] at e2
    cases e2
    obtain ⟨a, ha, rfl⟩ := ref_inv (n2.dr dv)
    obtain rfl := str_inv dw
    simp only [oIx] at k2
    split at k2
    · rename_i kvs h1
      obtain ⟨ws, e3, e4⟩ := r2.dct h1 ha
      split at k2
      · rename_i d h2
        obtain ⟨v, h3, h4⟩ := keyR_find e4 h2
        exact ⟨a, v, rfl, by rw [← h3]; exact DGet.k (k := Sum.inr z) e3, k2.here r2 _ h4⟩
      · exact k2.elim
    · exact k2.elim
  · exact .inl ⟨φ, ρ, S, er, rp, k.bind.mono fun d S1 φ1 H1 e1 _ ⟨r1, n1, k1⟩ v dv => ⟨φ1, ρ, S1, n1.er er, r1, k1.bind.mono fun e S2 φ2 H2 e2 _ ⟨r2, n2, k2⟩ w dw =>
      oi_ix r2 (n2.dr dv) dw (fun n z h1 h2 => hd ⟨n, S1, z, S2, h1 ▸ e1, h2 ▸ e2⟩) k2⟩⟩
end
/-! slices -/
abbrev IO := Env → Sto → R (Option Int)
def pNo : IO := fun _ S => .ok none S
def pSo (f : IE) : IO := fun ρ S => (f ρ S).bind fun d S1 => match d with
  | .int i => .ok (some i) S1
  | _ => .bad
def cutD {α : Type} (xs : List α) (lo hi : Option Int) : List α := (xs.drop (HT.sIx xs.length 0 lo)).take (HT.sIx xs.length xs.length hi - HT.sIx xs.length 0 lo)
def oSl : D → Option Int → Option Int → Sto → R D
  | .ref n, lo, hi, S => match lstOf S n with
    | some xs => .ok (.ref S.length) (S ++ [.lst (cutD xs lo hi)])
    | none => .bad
  | .tup xs, lo, hi, S => .ok (.tup (cutD xs lo hi)) S
  | .str z, lo, hi, S => if z.length < LIM then .ok (.str (cutS z lo hi)) S else .bad
  | _, _, _, _ => .bad
def iSl (fa : IE) (fl fh : IO) : IE := fun ρ S => (fa ρ S).bind fun d S1 => (fl ρ S1).bind fun lo S2 => (fh ρ S2).bind fun hi S3 => oSl d lo hi S3
section
variable {X : Cx} {g : G} {E : XK} {pos : Pos}
def tIO (K : PySem.W.Frag) (g : G) (E : XK) (f : IO) : TO := fun σ H Q => ∃ φ ρ S, ER K φ H ρ σ ∧ Rep K g φ S H ∧ post K g E φ H (f ρ S) fun o _ _ H' => Q o H'
theorem PO.imp {X : Cx} {e : Option Expr} {t t' : TO} (h : PO X e t) (q : ∀ σ H Q, t' σ H Q → t σ H Q) : PO X e t' := ⟨fun pins s σ H Q I w => h.run pins s σ H Q I (q σ H Q w)⟩
abbrev RO (X : Cx) (g : G) (E : XK) (e : Option Expr) (f : IO) : Prop := PO X e (tIO X.K g E f)
theorem ro_no : RO X g E none pNo := PO.imp po_none fun σ H Q ⟨φ, ρ, S, er, rp, k⟩ => k φ H (.refl rp)
theorem ro_so {e : Expr} {f : IE} (h : RE X g E e f) : RO X g E (some e) (pSo f) := PO.imp (po_some h) fun σ H Q ⟨φ, ρ, S, er, rp, k⟩ => ⟨φ, ρ, S, er, rp, k.bind.mono fun d S1 φ1 H1 _ _ ⟨r1, n1, k1⟩ v dv => by
  cases d with
  | int i => obtain rfl := int_inv dv; exact ⟨i, rfl, k1 φ1 H1 (.refl r1)⟩
  | _ => exact k1.elim⟩
theorem cutD_V {K : PySem.W.Frag} {φ : List Addr} {H : Hp} {xs : List D} {vs : List V} (r : DRs K φ H xs vs) (lo hi : Option Int) : DRs K φ H (cutD xs lo hi) (cutV vs lo hi) := by
  unfold cutD cutV
  rw [r.length]
  exact (r.drop _).take _
theorem cutD_whole {α : Type} {xs : List α} {lo hi : Option Int} (h : HT.sIx xs.length 0 lo = 0 ∧ HT.sIx xs.length xs.length hi = xs.length) : cutD xs lo hi = xs := by
  unfold cutD
  rw [h.1, h.2]
  simp
theorem re_sl {e : Expr} {lo hi : Option Expr} {p2 : Pos} {fa : IE} {fl fh : IO} (he : RE X g E e fa) (hl : RO X g E lo fl) (hu : RO X g E hi fh) : RE X g E (.Subscript e (.Slice lo hi none p2) pos) (iSl fa fl fh) := by
  refine PE.imp (pe_slice (SlR.or sl_list (SlR.or sl_tupA sl_str)) he hl hu) fun σ H Q ⟨φ, ρ, S, er, rp, k⟩ => ?_
  refine ⟨φ, ρ, S, er, rp, k.bind.mono fun d S1 φ1 H1 _ _ ⟨r1, n1, k1⟩ v dv => ⟨φ1, ρ, S1, n1.er er, r1, k1.bind.mono fun lo S2 φ2 H2 _ _ ⟨r2, n2, k2⟩ => ⟨φ2, ρ, S2, n2.er (n1.er er), r2, k2.bind.mono fun hi S3 φ3 H3 _ _ ⟨r3, n3, k3⟩ => ?_⟩⟩⟩
  have dv3 := n3.dr (n2.dr dv)
  cases d with
  | ref n =>
    obtain ⟨a, ha, rfl⟩ := ref_inv dv3
    simp only [oSl] at k3
    split at k3
    · rename_i xs h1
      obtain ⟨vs, e1, e2⟩ := r3.lst h1 ha
      exact .inl ⟨a, vs, rfl, .of e1, fun p hp => k3.newL r3 hp (cutD_V e2 _ _)⟩
    · exact k3.elim
  | tup xs =>
    obtain ⟨a, vs, rfl, e1, e2⟩ := tup_inv dv3
    simp only [oSl] at k3
    refine .inr (.inl ⟨a, vs, rfl, e1, fun hw => ?_, fun _ p hp => k3.newT r3 hp (cutD_V e2 _ _)⟩)
    rw [e2.length] at hw
    rw [cutD_whole hw] at k3
    exact k3.here r3 _ (dr_tup e1 e2)
  | str z =>
    obtain rfl := str_inv dv3
    simp only [oSl] at k3
    split at k3
    · rename_i hl
      exact .inr (.inr ⟨z, rfl, lim_le hl, k3.here r3 _ dr_str⟩)
    · exact k3.elim
  | _ => exact k3.elim
/-- xs[::-1] -/
def oRevL : D → Sto → R D
  | .ref n, S => match lstOf S n with
    | some xs => .ok (.ref S.length) (S ++ [.lst xs.reverse])
    | none => .bad
  | _, _ => .bad
theorem re_revL {e : Expr} {fa : IE} {k : Nat} {p1 p2 p3 : Pos} (he : RE X g E e fa) : RE X g E (.Subscript e (.Slice none none (some (.UnaryOp .USub (.Constant (.int 1) k p1) p2)) p3) pos) (iUn oRevL fa) := by
  refine PE.imp (pe_revL he) fun σ H Q ⟨φ, ρ, S, er, rp, k⟩ => ⟨φ, ρ, S, er, rp, k.bind.mono fun d S1 φ1 H1 _ _ ⟨r1, n1, k1⟩ v dv => ?_⟩
  cases d with
  | ref n =>
    obtain ⟨a, ha, rfl⟩ := ref_inv dv
    simp only [oRevL] at k1
    split at k1
    · rename_i xs h1
      obtain ⟨vs, e1, e2⟩ := r1.lst h1 ha
      exact ⟨a, vs, rfl, .of e1, fun p hp => k1.newL r1 hp e2.reverse⟩
    · exact k1.elim
  | _ => exact k1.elim
theorem re_neg {e : Expr} {fa : IE} (he : RE X g E e fa) : RE X g E (.UnaryOp .USub e pos) (iUn oNeg fa) := by
  refine PE.imp (pe_un un_neg he) fun σ H Q ⟨φ, ρ, S, er, rp, k⟩ => ⟨φ, ρ, S, er, rp, k.bind.mono fun d S1 φ1 H1 _ _ ⟨r1, n1, k1⟩ v dv => ?_⟩
  cases d with
  | int i => obtain rfl := int_inv dv; exact ⟨i, rfl, k1.here r1 _ dr_int⟩
  | _ => exact k1.elim
end

/-! ### built-in functions -/
def asInt : D → Option Int
  | .int i => some i
  | _ => none
def asBl : D → Option Bool
  | .bl i => some i
  | _ => none
def asStr : D → Option Str
  | .str i => some i
  | _ => none
/-- the items of a list or a tuple or the script -/
def seqOf (S : Sto) : D → Option (List D)
  | .ref n => lstOf S n
  | .rl ns => some (ns.map D.int)
  | .tup xs => some xs
  | _ => none
def bLen : List D → Sto → R D
  | [.str x], S => if x.length < LIM then .ok (.int x.length) S else .bad
  | [d], S => match seqOf S d with
    | some xs => .ok (.int xs.length) S
    | none => match d with
      | .ref n => match dctOf S n with
        | some kvs => .ok (.int kvs.length) S
        | none => .bad
      | _ => .bad
  | _, _ => .bad
def bAbs : List D → Sto → R D
  | [.int i], S => .ok (.int (if i < 0 then -i else i)) S
  | _, _ => .bad
def bMax : List D → Sto → R D
  | [.int i, .int j], S => .ok (.int (if j > i then j else i)) S
  | _, _ => .bad
def bMin : List D → Sto → R D
  | [.int i, .int j], S => .ok (.int (if j < i then j else i)) S
  | _, _ => .bad
def bSum : List D → Sto → R D
  | [.rl ns], S => .ok (.int ns.sum) S
  | [.ref n], S => match (lstOf S n).bind (List.mapM asInt) with
    | some ns => .ok (.int ns.sum) S
    | none => .bad
  | _, _ => .bad
def bAll : List D → Sto → R D
  | [.ref n], S => match (lstOf S n).bind (List.mapM asBl) with
    | some bs => .ok (.bl (bs.all id)) S
    | none => .bad
  | _, _ => .bad
def bAny : List D → Sto → R D
  | [.ref n], S => match (lstOf S n).bind (List.mapM asBl) with
    | some bs => .ok (.bl (bs.any id)) S
    | none => .bad
  | _, _ => .bad
def bList : List D → Sto → R D
  | [.ref n], S => match lstOf S n with
    | some xs => .ok (.ref S.length) (S ++ [.lst xs])
    | none => .bad
  | [.tup xs], S => .ok (.ref S.length) (S ++ [.lst xs])
  | _, _ => .bad
def bTuple : List D → Sto → R D
  | [.ref n], S => match lstOf S n with
    | some xs => .ok (.tup xs) S
    | none => .bad
  | [.tup xs], S => .ok (.tup xs) S
  | _, _ => .bad
def bInt : List D → Sto → R D
  | [.int i], S => .ok (.int i) S
  | [.bl k], S => .ok (.int (if k then 1 else 0)) S
  | _, _ => .bad
def bStr : List D → Sto → R D
  | [.int i], S => if i.natAbs.log2 < 1920 then .ok (.str (toString i)) S else .bad
  | [.str x], S => .ok (.str x) S
  | _, _ => .bad
def tyName (S : Sto) : D → Option String
  | .non => some "NoneType"
  | .bl _ => some "bool"
  | .int _ => some "int"
  | .str _ => some "str"
  | .tup _ => some "tuple"
  | .rl _ => some "list"
  | .ref n => match S[n]? with
    | some (.lst _) => some "list"
    | some (.dct _) => some "dict"
    | _ => none
  | _ => none
def isiT (t n : String) : Option Bool :=
  if t = n then some true else if t = "bool" ∧ n = "int" then some true
  else if (t = "NoneType" ∨ t = "bool" ∨ t = "int" ∨ t = "str" ∨ t = "tuple" ∨ t = "list" ∨ t = "dict") ∧ (n = "bool" ∨ n = "int" ∨ n = "str" ∨ n = "tuple" ∨ n = "list" ∨ n = "dict") then some false else none
def bIsi : List D → Sto → R D
  | [d, .ty n], S => match (tyName S d).bind fun t => isiT t n with
    | some b => .ok (.bl b) S
    | none => .bad
  | _, _ => .bad
def bSorted : List D → Sto → R D
  | [.ref n], S => match (lstOf S n).bind (List.mapM asInt) with
    | some ns => if ns.length < 64 then .ok (.ref S.length) (S ++ [.lst ((ns.mergeSort fun a b => decide (a ≤ b)).map D.int)]) else .bad
    | none => .bad
  | _, _ => .bad

def CallI (K : PySem.W.Frag) (g : G) (r : List V → Hp → VK → Prop) (fo : List D → Sto → R D) : Prop := ∀ E φ S H ds vs Q, Rep K g φ S H → DRs K φ H ds vs → post K g E φ H (fo ds S) (fun z _ φ' H' => ∀ v, DR K φ' H' z v → Q v H') → r vs H Q
section
variable {X : Cx} {g : G} {E : XK} {pos : Pos}
theorem re_b {x : Str} {p : Pos} {id : String} {r : List V → Hp → VK → Prop} {fo : List D → Sto → R D} {e : Expr} {es : List Expr} {fa : IA} (hc : CallR X (.builtin id) r) (hi : CallI X.K g r fo) (hg : Gl X x) (hm : X.mg x = none) (hv : bootBuiltins x = some (.builtin id)) (ha : RA X g E (e :: es) fa)
    (hn : x ≠ "__name__" := by decide) (hdb : (x == ("__debug__" : Str)) = false := by decide) (he : starEach (e :: es) X.env = (false, eval e X.env) :: starEach es X.env := by rfl) (hpl : (backTo pos (starEach es X.env)).any (·.1) = false := by rfl) :
    RE X g E (.Call (.Name x p) (e :: es) [] pos) (iCallF fo fa) :=
  PE.imp (pe_callB hc hg hm hv ha hn hdb he hpl) fun σ H Q ⟨φ, ρ, S, er, rp, k⟩ => ⟨φ, ρ, S, er, rp, k.bind.mono fun ds S1 φ1 H1 _ _ ⟨r1, n1, k1⟩ vs dvs => hi E φ1 S1 H1 ds vs Q r1 dvs k1⟩
theorem re_bT {x : Str} {p : Pos} {T : String} {r : List V → Hp → VK → Prop} {fo : List D → Sto → R D} {e : Expr} {es : List Expr} {fa : IA} (hc : CallR X (.type T) r) (hi : CallI X.K g r fo) (hg : Gl X x) (hm : X.mg x = none) (hv : bootBuiltins x = some (.type T)) (ha : RA X g E (e :: es) fa)
    (hn : x ≠ "__name__" := by decide) (hdb : (x == ("__debug__" : Str)) = false := by decide) (he : starEach (e :: es) X.env = (false, eval e X.env) :: starEach es X.env := by rfl) (hpl : (backTo pos (starEach es X.env)).any (·.1) = false := by rfl) :
    RE X g E (.Call (.Name x p) (e :: es) [] pos) (iCallF fo fa) :=
  PE.imp (pe_callTy hc hg hm hv ha hn hdb he hpl) fun σ H Q ⟨φ, ρ, S, er, rp, k⟩ => ⟨φ, ρ, S, er, rp, k.bind.mono fun ds S1 φ1 H1 _ _ ⟨r1, n1, k1⟩ vs dvs => hi E φ1 S1 H1 ds vs Q r1 dvs k1⟩
theorem re_tyN {x : Str} {T : String} (hg : Gl X x) (hm : X.mg x = none) (hv : bootBuiltins x = some (.type T)) (hn : x ≠ "__name__" := by decide) (hd : (x == ("__debug__" : Str)) = false := by decide) : RE X g E (.Name x pos) (iC (.ty T)) := re_c (pe_bltn hg hm hv (show L2.RelV (V.ty T) (Value.type T) from rfl) hn hd) still_ty
end
section
variable {K : PySem.W.Frag} {g : G} {φ : List Addr} {S : Sto} {H : Hp}
theorem DRs.one {d : D} {vs : List V} (r : DRs K φ H [d] vs) : ∃ v, vs = [v] ∧ DR K φ H d v := by
  obtain ⟨v, rs, rfl, h1, h2⟩ := r.cons_inv
  rw [h2.nil_inv]
  exact ⟨v, rfl, h1⟩
theorem DRs.two {d e : D} {vs : List V} (r : DRs K φ H [d, e] vs) : ∃ v w, vs = [v, w] ∧ DR K φ H d v ∧ DR K φ H e w := by
  obtain ⟨v, rs, rfl, h1, h2⟩ := r.cons_inv
  obtain ⟨w, rfl, h3⟩ := h2.one
  exact ⟨v, w, rfl, h1, h3⟩
theorem seqOf_ok (r : Rep K g φ S H) {d : D} {v : V} {xs : List D} (h : seqOf S d = some xs) (q : DR K φ H d v) : ∃ a vs, v = .ref a ∧ (SqL K H a vs ∨ SqT K H a vs) ∧ DRs K φ H xs vs := by
  cases d with
  | ref n =>
    obtain ⟨a, ha, rfl⟩ := ref_inv q
    obtain ⟨vs, e1, e2⟩ := r.lst h ha
    exact ⟨a, vs, rfl, .inl (.of e1), e2⟩
  | rl ns =>
    obtain ⟨a, rfl, hp⟩ := rl_inv q
    simp only [seqOf, Option.some.injEq] at h
    subst h
    exact ⟨a, _, rfl, .inl hp.sq, .ints ns⟩
  | tup ys =>
    obtain ⟨a, vs, rfl, e1, e2⟩ := tup_inv q
    simp only [seqOf, Option.some.injEq] at h
    subst h
    exact ⟨a, vs, rfl, .inr e1, e2⟩
  | _ => simp [seqOf] at h
theorem ints_of : ∀ {xs : List D} {vs : List V} {ns : List Int}, xs.mapM asInt = some ns → DRs K φ H xs vs → vs = ns.map V.int
  | [], _, _, h, r => by simp at h; subst h; exact r.nil_inv
  | x :: xs, _, _, h, r => by
    obtain ⟨b, rs, h1, h2, rfl⟩ := mapM_cons_some h
    obtain ⟨v, us, rfl, r1, r2⟩ := r.cons_inv
    cases x with
    | int i => simp [asInt] at h1; subst h1; rw [int_inv r1, ints_of h2 r2]; rfl
    | _ => simp [asInt] at h1
theorem bls_of : ∀ {xs : List D} {vs : List V} {ns : List Bool}, xs.mapM asBl = some ns → DRs K φ H xs vs → vs = ns.map V.bl
  | [], _, _, h, r => by simp at h; subst h; exact r.nil_inv
  | x :: xs, _, _, h, r => by
    obtain ⟨b, rs, h1, h2, rfl⟩ := mapM_cons_some h
    obtain ⟨v, us, rfl, r1, r2⟩ := r.cons_inv
    cases x with
    | bl i => simp [asBl] at h1; subst h1; rw [bl_inv r1, bls_of h2 r2]; rfl
    | _ => simp [asBl] at h1
theorem strs_of : ∀ {xs : List D} {vs : List V} {ns : List Str}, xs.mapM asStr = some ns → DRs K φ H xs vs → vs = ns.map V.str
  | [], _, _, h, r => by simp at h; subst h; exact r.nil_inv
  | x :: xs, _, _, h, r => by
    obtain ⟨b, rs, h1, h2, rfl⟩ := mapM_cons_some h
    obtain ⟨v, us, rfl, r1, r2⟩ := r.cons_inv
    cases x with
    | str i => simp [asStr] at h1; subst h1; rw [str_inv r1, strs_of h2 r2]; rfl
    | _ => simp [asStr] at h1
def rLenJ (K : PySem.W.Frag) : List V → Hp → VK → Prop := fun xs H Q => (∃ p ys, xs = [.ref p] ∧ (SqL K H p ys ∨ SqT K H p ys) ∧ Q (.int ys.length) H) ∨ (∃ z, xs = [.str z] ∧ z.length ≤ sizeLine ∧ Q (.int z.length) H) ∨ (∃ a kvs, xs = [V.ref a] ∧ H a = some (.dK kvs) ∧ Q (.int kvs.length) H)
theorem call_lenJ {X : Cx} : CallR X (.builtin "len") (rLenJ X.K) := call_len_seq.or (call_len_str.or call_lenD)
theorem ci_len : CallI K g (rLenJ K) bLen := fun E φ S H ds vs Q r hd k => by
  match ds, k with
  | [], k => exact k.elim
  | _ :: _ :: _, k => rename_i d _ _; cases d <;> exact k.elim
  | [d], k =>
    obtain ⟨v, rfl, dv⟩ := hd.one
    have seq : post K g E φ H (match seqOf S d with
        | some xs => .ok (.int xs.length) S
        | none => match d with
          | .ref n => match dctOf S n with
            | some kvs => .ok (.int kvs.length) S
            | none => .bad
          | _ => .bad) (fun z _ φ' H' => ∀ v, DR K φ' H' z v → Q v H') → rLenJ K [v] H Q := fun k => by
      split at k
      · rename_i xs h1
        obtain ⟨a, vs, rfl, h2, h3⟩ := seqOf_ok r h1 dv
        refine .inl ⟨a, vs, rfl, h2, ?_⟩
        rw [h3.length]
        exact k.here r _ dr_int
      · split at k
        · rename_i n _
          obtain ⟨a, ha, rfl⟩ := ref_inv dv
          split at k
          · rename_i kvs h1
            obtain ⟨ws, e1, e2⟩ := r.dct h1 ha
            refine .inr (.inr ⟨a, ws, rfl, e1, ?_⟩)
            rw [← PySem.Paired.length e2]
            exact k.here r _ dr_int
          · exact k.elim
        · exact k.elim
    cases d with
    | str x =>
      obtain rfl := str_inv dv
      simp only [bLen] at k
      split at k
      · rename_i hl
        exact .inr (.inl ⟨x, rfl, lim_le hl, k.here r _ dr_int⟩)
      · exact k.elim
    | _ => exact seq k
theorem ci_abs : CallI K g (fun xs H Q => ∃ i, xs = [.int i] ∧ Q (.int (if i < 0 then -i else i)) H) bAbs := fun E φ S H ds vs Q r hd k => by
  match ds, k with
  | [.int i], k => obtain ⟨v, rfl, dv⟩ := hd.one; obtain rfl := int_inv dv; exact ⟨i, rfl, k.here r _ dr_int⟩
  | [], k => exact k.elim
  | d :: _ :: _, k => cases d <;> exact k.elim
  | [.non], k | [.bl _], k | [.str _], k | [.ty _], k | [.rl _], k | [.tup _], k | [.ref _], k => exact k.elim
theorem two_ints {ds : List D} (h : ¬ ∃ i j, ds = [.int i, .int j]) : bMax ds S = .bad ∧ bMin ds S = .bad := by
  match ds, h with
  | [], _ => exact ⟨rfl, rfl⟩
  | [d], _ => cases d <;> exact ⟨rfl, rfl⟩
  | [d, e], h => cases d <;> cases e <;> first | exact ⟨rfl, rfl⟩ | exact absurd ⟨_, _, rfl⟩ h
  | d :: e :: _ :: _, _ => cases d <;> cases e <;> exact ⟨rfl, rfl⟩
theorem ci_max2 : CallI K g (fun xs H Q => ∃ i j, xs = [.int i, .int j] ∧ Q (.int (if j > i then j else i)) H) bMax := fun E φ S H ds vs Q r hd k => by
  by_cases h : ∃ i j, ds = [.int i, .int j]
  · obtain ⟨i, j, rfl⟩ := h
    obtain ⟨v, w, rfl, dv, dw⟩ := hd.two
    obtain rfl := int_inv dv; obtain rfl := int_inv dw
    exact ⟨i, j, rfl, k.here r _ dr_int⟩
  · rw [(two_ints h).1] at k
    exact k.elim
theorem ci_min2 : CallI K g (fun xs H Q => ∃ i j, xs = [.int i, .int j] ∧ Q (.int (if j < i then j else i)) H) bMin := fun E φ S H ds vs Q r hd k => by
  by_cases h : ∃ i j, ds = [.int i, .int j]
  · obtain ⟨i, j, rfl⟩ := h
    obtain ⟨v, w, rfl, dv, dw⟩ := hd.two
    obtain rfl := int_inv dv; obtain rfl := int_inv dw
    exact ⟨i, j, rfl, k.here r _ dr_int⟩
  · rw [(two_ints h).2] at k
    exact k.elim
theorem oneRef {f : List D → Sto → R D} (h : ∀ ds S, (¬ ∃ n, ds = [.ref n]) → f ds S = .bad) {E : XK} {ds : List D} {k : D → Sto → List Addr → Hp → Prop} (q : post K g E φ H (f ds S) k) : ∃ n, ds = [.ref n] := by
  by_cases e : ∃ n, ds = [.ref n]
  · exact e
  · rw [h ds S e] at q
    exact q.elim
theorem lst_bind {α : Type} {n : Nat} {f : List D → Option α} {x : α} (h : (lstOf S n).bind f = some x) : ∃ xs, lstOf S n = some xs ∧ f xs = some x := by
  cases e : lstOf S n with
  | none => rw [e] at h; cases h
  | some xs => rw [e] at h; exact ⟨xs, rfl, h⟩
theorem ci_sum : CallI K g (rSum K) bSum := fun E φ S H ds vs Q r hd k => by
  match ds, k with
  | [.rl ns], k =>
    obtain ⟨v, rfl, dv⟩ := hd.one
    obtain ⟨a, rfl, hp⟩ := rl_inv dv
    exact ⟨a, ns, rfl, hp.sq, k.here r _ dr_int⟩
  | [.ref n], k =>
    obtain ⟨v, rfl, dv⟩ := hd.one
    obtain ⟨a, ha, rfl⟩ := ref_inv dv
    simp only [bSum] at k
    split at k
    · rename_i ns h1
      obtain ⟨xs, h2, h3⟩ := lst_bind h1
      obtain ⟨vs, e1, e2⟩ := r.lst h2 ha
      have e3 := ints_of h3 e2
      subst e3
      exact ⟨a, ns, rfl, .of e1, k.here r _ dr_int⟩
    · exact k.elim
  | [], k => exact k.elim
  | d :: _ :: _, k => cases d <;> exact k.elim
  | [.non], k | [.bl _], k | [.str _], k | [.ty _], k | [.int _], k | [.tup _], k => exact k.elim
theorem ci_all : CallI K g (rAll K) bAll := fun E φ S H ds vs Q r hd k => by
  match ds, k with
  | [.ref n], k =>
    obtain ⟨v, rfl, dv⟩ := hd.one
    obtain ⟨a, ha, rfl⟩ := ref_inv dv
    simp only [bAll] at k
    split at k
    · rename_i ns h1
      obtain ⟨xs, h2, h3⟩ := lst_bind h1
      obtain ⟨vs, e1, e2⟩ := r.lst h2 ha
      have e3 := bls_of h3 e2
      subst e3
      exact ⟨a, ns, rfl, .of e1, k.here r _ dr_bl⟩
    · exact k.elim
  | [], k => exact k.elim
  | d :: _ :: _, k => cases d <;> exact k.elim
  | [.non], k | [.bl _], k | [.str _], k | [.ty _], k | [.int _], k | [.tup _], k | [.rl _], k => exact k.elim
theorem ci_any : CallI K g (rAny K) bAny := fun E φ S H ds vs Q r hd k => by
  match ds, k with
  | [.ref n], k =>
    obtain ⟨v, rfl, dv⟩ := hd.one
    obtain ⟨a, ha, rfl⟩ := ref_inv dv
    simp only [bAny] at k
    split at k
    · rename_i ns h1
      obtain ⟨xs, h2, h3⟩ := lst_bind h1
      obtain ⟨vs, e1, e2⟩ := r.lst h2 ha
      have e3 := bls_of h3 e2
      subst e3
      exact ⟨a, ns, rfl, .of e1, k.here r _ dr_bl⟩
    · exact k.elim
  | [], k => exact k.elim
  | d :: _ :: _, k => cases d <;> exact k.elim
  | [.non], k | [.bl _], k | [.str _], k | [.ty _], k | [.int _], k | [.tup _], k | [.rl _], k => exact k.elim
theorem ci_sorted : CallI K g (rSorted K) bSorted := fun E φ S H ds vs Q r hd k => by
  match ds, k with
  | [.ref n], k =>
    obtain ⟨v, rfl, dv⟩ := hd.one
    obtain ⟨a, ha, rfl⟩ := ref_inv dv
    simp only [bSorted] at k
    split at k
    · rename_i ns h1
      obtain ⟨xs, h2, h3⟩ := lst_bind h1
      obtain ⟨vs, e1, e2⟩ := r.lst h2 ha
      have e3 := ints_of h3 e2
      subst e3
      split at k
      · rename_i hl
        refine ⟨a, ns, rfl, .of e1, hl, fun ns' p hp hs hn => ?_⟩
        have e4 : ns' = ns.mergeSort fun a b => decide (a ≤ b) := by
          have p2 : (ns.mergeSort fun a b => decide (a ≤ b)).Perm ns := List.mergeSort_perm ns _
          have s2 : (ns.mergeSort fun a b => decide (a ≤ b)).Pairwise (· ≤ ·) := by
            have := List.pairwise_mergeSort (le := fun a b : Int => decide (a ≤ b)) (fun a b c h1 h2 => by simp at h1 h2 ⊢; omega) (fun a b => by simp; omega) ns
            exact this.imp fun h => by simpa using h
          exact (hp.trans p2.symm).eq_of_pairwise (fun a b _ _ h1 h2 => Int.le_antisymm h1 h2) hs s2
        rw [e4]
        exact k.newL r hn (.ints _)
      · exact k.elim
    · exact k.elim
  | [], k => exact k.elim
  | d :: _ :: _, k => cases d <;> exact k.elim
  | [.non], k | [.bl _], k | [.str _], k | [.ty _], k | [.int _], k | [.tup _], k | [.rl _], k => exact k.elim
theorem ci_list : CallI K g (fun xs H Q => ∃ p ys, xs = [.ref p] ∧ (SqL K H p ys ∨ SqT K H p ys) ∧ ∀ l, H l = none → Q (.ref l) (upd H l (.lst ys))) bList := fun E φ S H ds vs Q r hd k => by
  match ds, k with
  | [.ref n], k =>
    obtain ⟨v, rfl, dv⟩ := hd.one
    obtain ⟨a, ha, rfl⟩ := ref_inv dv
    simp only [bList] at k
    split at k
    · rename_i xs h1
      obtain ⟨vs, e1, e2⟩ := r.lst h1 ha
      exact ⟨a, vs, rfl, .inl (.of e1), fun l hl => k.newL r hl e2⟩
    · exact k.elim
  | [.tup xs], k =>
    obtain ⟨v, rfl, dv⟩ := hd.one
    obtain ⟨a, vs, rfl, e1, e2⟩ := tup_inv dv
    exact ⟨a, vs, rfl, .inr e1, fun l hl => k.newL r hl e2⟩
  | [], k => exact k.elim
  | d :: _ :: _, k => cases d <;> exact k.elim
  | [.non], k | [.bl _], k | [.str _], k | [.ty _], k | [.int _], k | [.rl _], k => exact k.elim
theorem ci_tuple : CallI K g (fun xs H Q => ∃ p ys, xs = [.ref p] ∧ ((SqL K H p ys ∧ ∀ l, H l = none → Q (.ref l) (upd H l (.tup ys))) ∨ (SqT K H p ys ∧ Q (.ref p) H))) bTuple := fun E φ S H ds vs Q r hd k => by
  match ds, k with
  | [.ref n], k =>
    obtain ⟨v, rfl, dv⟩ := hd.one
    obtain ⟨a, ha, rfl⟩ := ref_inv dv
    simp only [bTuple] at k
    split at k
    · rename_i xs h1
      obtain ⟨vs, e1, e2⟩ := r.lst h1 ha
      exact ⟨a, vs, rfl, .inl ⟨.of e1, fun l hl => k.newT r hl e2⟩⟩
    · exact k.elim
  | [.tup xs], k =>
    obtain ⟨v, rfl, dv⟩ := hd.one
    obtain ⟨a, vs, rfl, e1, e2⟩ := tup_inv dv
    exact ⟨a, vs, rfl, .inr ⟨e1, k.here r _ (dr_tup e1 e2)⟩⟩
  | [], k => exact k.elim
  | d :: _ :: _, k => cases d <;> exact k.elim
  | [.non], k | [.bl _], k | [.str _], k | [.ty _], k | [.int _], k | [.rl _], k => exact k.elim
theorem ci_int : CallI K g (fun xs H Q => (∃ i, xs = [.int i] ∧ Q (.int i) H) ∨ ∃ k, xs = [.bl k] ∧ Q (.int (if k then 1 else 0)) H) bInt := fun E φ S H ds vs Q r hd k => by
  match ds, k with
  | [.int i], k => obtain ⟨v, rfl, dv⟩ := hd.one; obtain rfl := int_inv dv; exact .inl ⟨i, rfl, k.here r _ dr_int⟩
  | [.bl i], k => obtain ⟨v, rfl, dv⟩ := hd.one; obtain rfl := bl_inv dv; exact .inr ⟨i, rfl, k.here r _ dr_int⟩
  | [], k => exact k.elim
  | d :: _ :: _, k => cases d <;> exact k.elim
  | [.non], k | [.str _], k | [.ty _], k | [.rl _], k | [.tup _], k | [.ref _], k => exact k.elim
theorem isiT_ok {t n : String} {b : Bool} (h : isiT t n = some b) (ht : t = "NoneType" ∨ t = "bool" ∨ t = "int" ∨ t = "str" ∨ t = "tuple" ∨ t = "list" ∨ t = "dict") : PySem.W.kitOne K (.type t) (.type n) = some b := by
  unfold isiT at h
  split at h
  · rename_i e
    subst e
    cases h
    refine kit_ty ?_
    unfold kitB
    rw [if_pos (beq_self_eq_true _)]
  · split at h
    · rename_i e
      obtain ⟨rfl, rfl⟩ := e
      cases h
      exact kit_ty (by decide +kernel)
    · rename_i ne nb
      split at h
      · rename_i e
        cases h
        obtain ⟨_, e2⟩ := e
        rcases ht with rfl | rfl | rfl | rfl | rfl | rfl | rfl <;> rcases e2 with rfl | rfl | rfl | rfl | rfl | rfl <;> first
          | exact absurd rfl ne
          | exact absurd ⟨rfl, rfl⟩ nb
          | exact kit_ty (by decide +kernel)
      · cases h
theorem tyName_ok (r : Rep K g φ S H) {d : D} {v : V} {t : String} (h : tyName S d = some t) (q : DR K φ H d v) : TyX K H v (.type t) ∧ (t = "NoneType" ∨ t = "bool" ∨ t = "int" ∨ t = "str" ∨ t = "tuple" ∨ t = "list" ∨ t = "dict") := by
  cases d with
  | non => rw [non_inv q]; simp [tyName] at h; subst h; exact ⟨.base .non, by simp⟩
  | bl b => rw [bl_inv q]; simp [tyName] at h; subst h; exact ⟨.base (.bl _), by simp⟩
  | int b => rw [int_inv q]; simp [tyName] at h; subst h; exact ⟨.base (.int _), by simp⟩
  | str b => rw [str_inv q]; simp [tyName] at h; subst h; exact ⟨.base (.str _), by simp⟩
  | ty b => simp [tyName] at h
  | rl b =>
    simp [tyName] at h; subst h
    obtain ⟨a, rfl, hp⟩ := rl_inv q
    refine ⟨?_, by simp⟩
    rcases hp with ⟨o, hp⟩ | ⟨o, _, _, h1, h2, _⟩
    · exact .base (.frz hp)
    · exact .kList h1 h2
  | tup b =>
    simp [tyName] at h; subst h
    obtain ⟨a, vs, rfl, e1, e2⟩ := tup_inv q
    refine ⟨?_, by simp⟩
    rcases e1 with (e1 | ⟨o, e1⟩) | ⟨o, _, _, h1, h2, _⟩
    · exact .base (.tup e1)
    · exact .fTuple e1
    · exact .kTuple h1 h2
  | ref n =>
    obtain ⟨a, ha, rfl⟩ := ref_inv q
    simp only [tyName] at h
    split at h
    · rename_i xs hx
      simp at h; subst h
      obtain ⟨vs, e1, e2⟩ := r.cellAt hx ha
      exact ⟨.base (.lst e1), by simp⟩
    · rename_i xs hx
      simp at h; subst h
      obtain ⟨vs, e1, e2⟩ := r.cellAt hx ha
      exact ⟨.base (.dK e1), by simp⟩
    · cases h
theorem ci_isi : CallI K g (rIsi K) bIsi := fun E φ S H ds vs Q r hd k => by
  by_cases h : ∃ d n, ds = [d, .ty n]
  · obtain ⟨d, n, rfl⟩ := h
    obtain ⟨v, w, rfl, dv, dw⟩ := hd.two
    obtain rfl := ty_inv dw
    simp only [bIsi] at k
    split at k
    · rename_i b h1
      cases h2 : tyName S d with
      | none => rw [h2] at h1; cases h1
      | some t =>
        rw [h2] at h1
        obtain ⟨a1, a2⟩ := tyName_ok r h2 dv
        exact ⟨v, .ty n, .type t, .type n, b, rfl, .ty n, a1, isiT_ok h1 a2, k.here r _ dr_bl⟩
    · exact k.elim
  · have e : bIsi ds S = .bad := by
      match ds, h with
      | [], _ => rfl
      | [d], _ => rfl
      | [d, e], h => cases e <;> first | rfl | exact absurd ⟨_, _, rfl⟩ h
      | d :: e :: _ :: _, _ => cases e <;> rfl
    rw [e] at k
    exact k.elim
def rStrJ : List V → Hp → VK → Prop := fun xs H Q => (∃ i, xs = [.int i] ∧ i.natAbs.log2 < 1920 ∧ Q (.str (toString i)) H) ∨ (∃ a, xs = [.str a] ∧ Q (.str a) H)
end
end J

set_option Elab.async false
set_option linter.all false
set_option maxRecDepth 100000
set_option maxHeartbeats 4000000
namespace J
open PySem PySem.Spec PyProof.Rows L2

/-! ### methods of lists -/
def iMeth (T : String) (fo : D → List D → Sto → R D) (fa : IE) (fr : IA) : IE := fun ρ S => (fa ρ S).bind fun d S1 => if tyName S1 d = some T then (fr ρ S1).bind fun ds S2 => fo d ds S2 else .bad
def setL (S : Sto) (n : Nat) (xs : List D) : Sto := S.set n (.lst xs)
def mAppend : D → List D → Sto → R D
  | .ref n, [d], S => match lstOf S n with
    | some xs => if xs.length < LIM then .ok .non (setL S n (xs ++ [d])) else .bad
    | none => .bad
  | _, _, _ => .bad
def mExtend : D → List D → Sto → R D
  | .ref n, [.ref m], S => match lstOf S n, lstOf S m with
    | some xs, some ys => if xs.length + ys.length < LIM then .ok .non (setL S n (xs ++ ys)) else .bad
    | _, _ => .bad
  | _, _, _ => .bad
def mInsert : D → List D → Sto → R D
  | .ref n, [.int i, d], S => match lstOf S n with
    | some xs => if xs.length < LIM ∧ 0 ≤ i ∧ i < LIM then .ok .non (setL S n (xs.take i.toNat ++ [d] ++ xs.drop i.toNat)) else .bad
    | none => .bad
  | _, _, _ => .bad
def mPop : D → List D → Sto → R D
  | .ref n, [], S => match lstOf S n with
    | some xs => match xs[xs.length - 1]? with
      | some d => .ok d (setL S n xs.dropLast)
      | none => .bad
    | none => .bad
  | .ref n, [.int i], S => match lstOf S n with
    | some xs => if xs.length < LIM then match ixN xs.length i with
      | some j => match xs[j]? with
        | some d => .ok d (setL S n (xs.eraseIdx j))
        | none => .bad
      | none => .bad
      else .bad
    | none => .bad
  | _, _, _ => .bad
def firstIx (d : D) : Nat → List D → Option Nat
  | _, [] => none
  | i, x :: xs => if eqD x d = true then some i else firstIx d (i + 1) xs
def mIndex : D → List D → Sto → R D
  | .ref n, [d], S => match lstOf S n with
    | some xs => if flatD d = true ∧ xs.all flatD = true then match firstIx d 0 xs with
      | some j => .ok (.int (j : Nat)) S
      | none => .bad
      else .bad
    | none => .bad
  | _, _, _ => .bad
def mReverse : D → List D → Sto → R D
  | .ref n, [], S => match lstOf S n with
    | some xs => .ok .non (setL S n xs.reverse)
    | none => .bad
  | _, _, _ => .bad
def mClear : D → List D → Sto → R D
  | .ref n, [], S => match lstOf S n with
    | some xs => .ok .non (setL S n [])
    | none => .bad
  | _, _, _ => .bad

section
variable {K : PySem.W.Frag} {g : G} {E : XK} {φ : List Addr} {S : Sto} {H : Hp} {Q : VK}
/-- a list is written -/
theorem Rep.put (r : Rep K g φ S H) {n : Nat} {a : Addr} {xs ys : List D} {vs : List V} (h : lstOf S n = some xs) (ha : φ[n]? = some a) (q : DRs K φ H ys vs) : Nx K g φ H (setL S n ys) φ (upd H a (.lst vs)) := by
  have hs := lstOf_some h
  have hl := (List.getElem?_eq_some_iff.mp hs).1
  obtain ⟨us, e1, _⟩ := r.lst h ha
  have hw : Wr (H a) := by rw [e1]; trivial
  exact r.write hw ha hl ⟨vs, upd_same, q.mono (List.prefix_refl _) (.upd hw)⟩
theorem tyList {K : PySem.W.Frag} {g : G} {φ : List Addr} {S : Sto} {H : Hp} {d : D} {v : V} (r : Rep K g φ S H) (h : tyName S d = some "list") (q : DR K φ H d v) : tyV K "list" v H := by
  cases d with
  | rl ns => obtain ⟨a, rfl, hp⟩ := rl_inv q; exact .inl ⟨rfl, _, hp.sq⟩
  | ref n =>
    obtain ⟨a, ha, rfl⟩ := ref_inv q
    simp only [tyName] at h
    split at h
    · rename_i xs hx
      obtain ⟨vs, e1, e2⟩ := r.cellAt hx ha
      exact .inl ⟨rfl, vs, .of e1⟩
    · simp at h
    · cases h
  | _ => simp [tyName] at h
/-- a method by values -/
def MI (K : PySem.W.Frag) (g : G) (r : V → List V → Hp → VK → Prop) (fo : D → List D → Sto → R D) : Prop := ∀ E φ S H d ds x vs Q, Rep K g φ S H → DR K φ H d x → DRs K φ H ds vs → post K g E φ H (fo d ds S) (fun z _ φ' H' => ∀ v, DR K φ' H' z v → Q v H') → r x vs H Q
theorem mi_append : MI K g rAppend mAppend := fun E φ S H d ds x vs Q r hd hv k => by
  cases d with
  | ref n =>
    obtain ⟨a, ha, rfl⟩ := ref_inv hd
    match ds, k with
    | [d], k =>
      obtain ⟨v, rfl, dv⟩ := hv.one
      simp only [mAppend] at k
      split at k
      · rename_i xs h1
        obtain ⟨us, e1, e2⟩ := r.lst h1 ha
        split at k
        · rename_i hl
          exact ⟨a, us, v, rfl, rfl, e1, by rw [e2.length]; exact lim_lt hl, k _ _ (r.put h1 ha (e2.append (.cons dv .nil))) _ dr_non⟩
        · exact k.elim
      · exact k.elim
    | [], k => exact k.elim
    | _ :: _ :: _, k => exact k.elim
  | _ => exact k.elim
theorem mi_extend : MI K g rExtend mExtend := fun E φ S H d ds x vs Q r hd hv k => by
  by_cases h : ∃ n m, d = .ref n ∧ ds = [.ref m]
  · obtain ⟨n, m, rfl, rfl⟩ := h
    obtain ⟨a, ha, rfl⟩ := ref_inv hd
    obtain ⟨v, rfl, dv⟩ := hv.one
    obtain ⟨b, hb, rfl⟩ := ref_inv dv
    simp only [mExtend] at k
    split at k
    · rename_i xs ys h1 h2
      obtain ⟨us, e1, e2⟩ := r.lst h1 ha
      obtain ⟨ws, e3, e4⟩ := r.lst h2 hb
      split at k
      · rename_i hl
        exact ⟨a, b, us, ws, rfl, rfl, e1, e3, by rw [e2.length, e4.length]; exact lim_le hl, k _ _ (r.put h1 ha (e2.append e4)) _ dr_non⟩
      · exact k.elim
    · exact k.elim
  · have e : mExtend d ds S = .bad := by
      unfold mExtend
      split
      · exact absurd ⟨_, _, rfl, rfl⟩ h
      · rfl
    rw [e] at k
    exact k.elim
theorem mi_insert : MI K g (fun x vs H Q => ∃ (l : Addr) (xs : List V) (i : Int) (y : V), x = .ref l ∧ vs = [.int i, y] ∧ H l = some (.lst xs) ∧ xs.length < sizeLine ∧ 0 ≤ i ∧ i < 2 ^ 63 ∧ Q .non (upd H l (.lst (xs.take i.toNat ++ [y] ++ xs.drop i.toNat)))) mInsert := fun E φ S H d ds x vs Q r hd hv k => by
  by_cases h : ∃ n i e, d = .ref n ∧ ds = [.int i, e]
  · obtain ⟨n, i, e, rfl, rfl⟩ := h
    obtain ⟨a, ha, rfl⟩ := ref_inv hd
    obtain ⟨v, w, rfl, dv, dw⟩ := hv.two
    obtain rfl := int_inv dv
    simp only [mInsert] at k
    split at k
    · rename_i xs h1
      obtain ⟨us, e1, e2⟩ := r.lst h1 ha
      split at k
      · rename_i hl
        have h3 : i < 1000000 := hl.2.2
        exact ⟨a, us, i, w, rfl, rfl, e1, by rw [e2.length]; exact lim_lt hl.1, hl.2.1, by omega, k _ _ (r.put h1 ha (((e2.take _).append (.cons dw .nil)).append (e2.drop _))) _ dr_non⟩
      · exact k.elim
    · exact k.elim
  · have e : mInsert d ds S = .bad := by
      unfold mInsert
      split
      · exact absurd ⟨_, _, _, rfl, rfl⟩ h
      · rfl
    rw [e] at k
    exact k.elim
theorem DRs.dropLast {ds : List D} {vs : List V} (r : DRs K φ H ds vs) : DRs K φ H ds.dropLast vs.dropLast := by
  rw [List.dropLast_eq_take, List.dropLast_eq_take, r.length]
  exact r.take _
theorem DRs.eraseIdx {ds : List D} {vs : List V} (r : DRs K φ H ds vs) (j : Nat) : DRs K φ H (ds.eraseIdx j) (vs.eraseIdx j) := by
  rw [List.eraseIdx_eq_take_drop_succ, List.eraseIdx_eq_take_drop_succ]
  exact (r.take _).append (r.drop _)
def rPopJ : V → List V → Hp → VK → Prop := fun x vs H Q => rPop x vs H Q ∨ rPopAt x vs H Q
theorem MtR.or {X : Cx} {id : String} {r r' : V → List V → Hp → VK → Prop} (h : MtR X id r) (h' : MtR X id r') : MtR X id (fun x vs H Q => r x vs H Q ∨ r' x vs H Q) := fun pins s σ H x xs v us Q I rx rv q => q.elim (h pins s σ H x xs v us Q I rx rv) (h' pins s σ H x xs v us Q I rx rv)
theorem mt_popJ {X : Cx} : MtR X "list.pop" rPopJ := MtR.or mt_pop mt_popAt
theorem mi_pop : MI K g rPopJ mPop := fun E φ S H d ds x vs Q r hd hv k => by
  cases d with
  | ref n =>
    obtain ⟨a, ha, rfl⟩ := ref_inv hd
    match ds, k with
    | [], k =>
      rw [hv.nil_inv]
      simp only [mPop] at k
      split at k
      · rename_i xs h1
        obtain ⟨us, e1, e2⟩ := r.lst h1 ha
        split at k
        · rename_i d h2
          obtain ⟨v, h3, h4⟩ := e2.get h2
          have n2 := r.put h1 ha e2.dropLast
          exact .inl ⟨a, us, v, rfl, rfl, e1, by rw [e2.length]; exact h3, k _ _ n2 _ (n2.dr h4)⟩
        · exact k.elim
      · exact k.elim
    | [.int i], k =>
      obtain ⟨v, rfl, dv⟩ := hv.one
      obtain rfl := int_inv dv
      simp only [mPop] at k
      split at k
      · rename_i xs h1
        obtain ⟨us, e1, e2⟩ := r.lst h1 ha
        split at k
        · rename_i hl
          have hl' : xs.length < 1000000 := hl
          split at k
          · rename_i j hj
            split at k
            · rename_i d h2
              obtain ⟨v, h3, h4⟩ := e2.get h2
              have n2 := r.put h1 ha (e2.eraseIdx j)
              obtain ⟨q1, q2, q3, q4⟩ := ixN_seq hj
              exact .inr ⟨a, us, i, j, v, rfl, rfl, e1, by omega, by omega, by rw [e2.length]; exact q1, h3, k _ _ n2 _ (n2.dr h4)⟩
            · exact k.elim
          · exact k.elim
        · exact k.elim
      · exact k.elim
    | .non :: _, k | .bl _ :: _, k | .str _ :: _, k | .ty _ :: _, k | .rl _ :: _, k | .tup _ :: _, k | .ref _ :: _, k => exact k.elim
    | .int _ :: _ :: _, k => exact k.elim
  | _ => exact k.elim
theorem firstIx_some {d : D} : ∀ {xs : List D} {i j : Nat}, firstIx d i xs = some j → ∃ m, j = i + m ∧ (∃ z, xs[m]? = some z ∧ eqD z d = true) ∧ ∀ l z, l < m → xs[l]? = some z → eqD z d = false
  | [], _, _, h => by simp [firstIx] at h
  | x :: xs, i, j, h => by
    simp only [firstIx] at h
    split at h
    · rename_i e
      cases h
      exact ⟨0, rfl, ⟨x, rfl, e⟩, fun l z hl => by omega⟩
    · rename_i e
      obtain ⟨m, h1, ⟨z, h2, h3⟩, h4⟩ := firstIx_some h
      refine ⟨m + 1, by omega, ⟨z, by simpa using h2, h3⟩, fun l z' hl hz => ?_⟩
      cases l with
      | zero =>
        simp at hz
        subst hz
        simpa using e
      | succ l => exact h4 l z' (by omega) (by simpa using hz)
theorem mi_index : MI K g (rIndex K) mIndex := fun E φ S H d ds x vs Q r hd hv k => by
  by_cases h : ∃ n e, d = .ref n ∧ ds = [e]
  · obtain ⟨n, e, rfl, rfl⟩ := h
    obtain ⟨a, ha, rfl⟩ := ref_inv hd
    obtain ⟨v, rfl, dv⟩ := hv.one
    simp only [mIndex] at k
    split at k
    · rename_i xs h1
      obtain ⟨us, e1, e2⟩ := r.lst h1 ha
      split at k
      · rename_i hf
        split at k
        · rename_i j hj
          obtain ⟨m, h1, ⟨z, h2, h3⟩, h4⟩ := firstIx_some hj
          have hm : j = m := by omega
          subst hm
          obtain ⟨w, h5, h6⟩ := e2.get h2
          have fl := (inV_dr dv hf.1 e2 hf.2).2
          have zf : flatD z = true := List.all_eq_true.mp hf.2 z (List.mem_of_getElem? h2)
          refine ⟨a, us, v, j, w, rfl, rfl, .of e1, flat_dr dv hf.1, fl, h5, by rw [eqV_dr h6 dv zf hf.1]; exact h3, fun l w' hl hw => ?_, k.here r _ dr_int⟩
          obtain ⟨z', h7, h8⟩ := e2.getV hw
          have zf' : flatD z' = true := List.all_eq_true.mp hf.2 z' (List.mem_of_getElem? h7)
          rw [eqV_dr h8 dv zf' hf.1]
          exact h4 l z' hl h7
        · exact k.elim
      · exact k.elim
    · exact k.elim
  · have e : mIndex d ds S = .bad := by
      unfold mIndex
      split
      · exact absurd ⟨_, _, rfl, rfl⟩ h
      · rfl
    rw [e] at k
    exact k.elim
theorem mi_reverse : MI K g rReverse mReverse := fun E φ S H d ds x vs Q r hd hv k => by
  by_cases h : ∃ n, d = .ref n ∧ ds = []
  · obtain ⟨n, rfl, rfl⟩ := h
    obtain ⟨a, ha, rfl⟩ := ref_inv hd
    rw [hv.nil_inv]
    simp only [mReverse] at k
    split at k
    · rename_i xs h1
      obtain ⟨us, e1, e2⟩ := r.lst h1 ha
      exact ⟨a, us, rfl, rfl, e1, k _ _ (r.put h1 ha e2.reverse) _ dr_non⟩
    · exact k.elim
  · have e : mReverse d ds S = .bad := by
      unfold mReverse
      split
      · exact absurd ⟨_, rfl, rfl⟩ h
      · rfl
    rw [e] at k
    exact k.elim
end
section
variable {X : Cx} {g : G} {E : XK} {pos : Pos}
theorem re_m {T name id : String} {T' : Str} {o e : Expr} {es : List Expr} {r : V → List V → Hp → VK → Prop} {fo : D → List D → Sto → R D} {fa : IE} {fr : IA} {apos cpos : Pos} (pa : PlainAttrs T) (slot : Slot T name id) (hty : typeOf (.builtin id) = pure (.type "method_descriptor")) (hm : MtR X id r) (hi : MI X.K g r fo)
    (hT : ∀ {K : PySem.W.Frag} {g : G} {φ : List Addr} {S : Sto} {H : Hp} {d : D} {v : V}, Rep K g φ S H → tyName S d = some T → DR K φ H d v → tyV K T v H)
    (ho : RE X g E o fa) (ha : RA X g E (e :: es) fr)
    (hbase : attributeBase o name X.env (eval o X.env) = eval o X.env := by rfl)
    (hfew : ((backTo cpos (starEach (e :: es) X.env)).all (fun x => !x.1) && (backToKw cpos (keywordEach [] X.env)).all (fun x => x.1.isSome)
      && decide ((e :: es).length + ([] : List Keyword).length + (if ([] : List Keyword).isEmpty then 0 else 1) < 30)) = true := by rfl)
    (hline : (apos.endLine == cpos.line) = true := by rfl) (hs : starEach (e :: es) X.env = (false, eval e X.env) :: starEach es X.env := by rfl) (hplain : (backTo cpos (starEach es X.env)).any (·.1) = false := by rfl) :
    RE X g E (.Call (.Attribute o name apos) (e :: es) [] cpos) (iMeth T fo fa fr) :=
  PE.imp (pe_bm pa slot hty hm ho ha hbase hfew hline hs hplain) fun σ H Q ⟨φ, ρ, S, er, rp, k⟩ => ⟨φ, ρ, S, er, rp, k.bind.mono fun d S1 φ1 H1 _ _ ⟨r1, n1, k1⟩ v dv => by
    split at k1
    · rename_i ht
      exact ⟨hT r1 ht dv, φ1, ρ, S1, n1.er er, r1, k1.bind.mono fun ds S2 φ2 H2 _ _ ⟨r2, n2, k2⟩ vs dvs => hi E φ2 S2 H2 d ds v vs Q r2 (n2.dr dv) dvs k2⟩
    · exact k1.elim⟩
theorem re_m0 {T name id : String} {o : Expr} {r : V → List V → Hp → VK → Prop} {fo : D → List D → Sto → R D} {fa : IE} {apos cpos : Pos} (pa : PlainAttrs T) (slot : Slot T name id) (hty : typeOf (.builtin id) = pure (.type "method_descriptor")) (hm : MtR X id r) (hi : MI X.K g r fo)
    (hT : ∀ {K : PySem.W.Frag} {g : G} {φ : List Addr} {S : Sto} {H : Hp} {d : D} {v : V}, Rep K g φ S H → tyName S d = some T → DR K φ H d v → tyV K T v H)
    (ho : RE X g E o fa)
    (hbase : attributeBase o name X.env (eval o X.env) = eval o X.env := by rfl) (hline : (apos.endLine == cpos.line) = true := by rfl) :
    RE X g E (.Call (.Attribute o name apos) [] [] cpos) (iMeth T fo fa aNil) :=
  PE.imp (pe_bm0 pa slot hty hm ho hbase hline) fun σ H Q ⟨φ, ρ, S, er, rp, k⟩ => ⟨φ, ρ, S, er, rp, k.bind.mono fun d S1 φ1 H1 _ _ ⟨r1, n1, k1⟩ v dv => by
    split at k1
    · rename_i ht
      exact ⟨hT r1 ht dv, hi E φ1 S1 H1 d [] v [] Q r1 dv .nil k1⟩
    · exact k1.elim⟩
end

/-! ### targets -/
abbrev IG := D → Env → Sto → R Env
def gN (i : Nat) : IG := fun d ρ S => .ok (ρ.set i (some d)) S
def gTs : List IG → List D → Env → Sto → R Env
  | [], [], ρ, S => .ok ρ S
  | f :: fs, d :: ds, ρ, S => (f d ρ S).bind fun ρ1 S1 => gTs fs ds ρ1 S1
  | _, _, _, _ => .bad
def gTu (fs : List IG) : IG := fun d ρ S => match d with
  | .tup ds => if ds.length = fs.length then gTs fs ds ρ S else .bad
  | .ref n => match lstOf S n with
    | some ds => if ds.length = fs.length then gTs fs ds ρ S else .bad
    | none => .bad
  | _ => .bad
def oPut : D → D → D → Sto → R Unit
  | .ref n, .int i, v, S => match lstOf S n with
    | some xs => match ixN xs.length i with
      | some j => .ok () (setL S n (xs.set j v))
      | none => .bad
    | none => .bad
  | _, _, _, _ => .bad
def gSubJ (fo fi : IE) : IG := fun d ρ S => (fo ρ S).bind fun o S1 => (fi ρ S1).bind fun i S2 => (oPut o i d S2).bind fun _ S3 => .ok ρ S3
def outside (vs : List Nat) (σ σ' : L2.St) : Prop := σ'.length = σ.length ∧ ∀ j, j ∉ vs → σ'[j]? = σ[j]?
theorem outside.refl {vs : List Nat} {σ : L2.St} : outside vs σ σ := ⟨rfl, fun _ _ => rfl⟩
def gI (K : PySem.W.Frag) (g : G) (E : XK) (vs : List Nat) (ft : IG) : TG := fun v σ H Q => ∃ φ ρ S d, ER K φ H ρ σ ∧ Rep K g φ S H ∧ DR K φ H d v ∧ post K g E φ H (ft d ρ S) fun ρ' _ φ' H' => ∀ σ', ER K φ' H' ρ' σ' → outside vs σ σ' → Q σ' H'
def gIs (K : PySem.W.Frag) (g : G) (E : XK) (vs : List Nat) (fts : List IG) : TGs := fun us σ H Q => ∃ φ ρ S ds, ER K φ H ρ σ ∧ Rep K g φ S H ∧ DRs K φ H ds us ∧ post K g E φ H (gTs fts ds ρ S) fun ρ' _ φ' H' => ∀ σ', ER K φ' H' ρ' σ' → outside vs σ σ' → Q σ' H'
section
variable {X : Cx} {g : G} {E : XK} {pos : Pos}
theorem PG.imp {X : Cx} {e : Expr} {t t' : TG} (h : PG X e t) (q : ∀ v σ H Q, t' v σ H Q → t v σ H Q) : PG X e t' := ⟨fun pins s σ H v u Q I r w => h.run pins s σ H v u Q I r (q v σ H Q w)⟩
theorem PG.or {X : Cx} {e : Expr} {t t' : TG} (h : PG X e t) (h' : PG X e t') : PG X e (fun v σ H Q => t v σ H Q ∨ t' v σ H Q) := ⟨fun pins s σ H v u Q I r w => w.elim (h.run pins s σ H v u Q I r) (h'.run pins s σ H v u Q I r)⟩
theorem PGs.imp {X : Cx} {e : List Expr} {t t' : TGs} (h : PGs X e t) (q : ∀ v σ H Q, t' v σ H Q → t v σ H Q) : PGs X e t' := ⟨fun pins s σ H v u Q I r w => h.run pins s σ H v u Q I r (q v σ H Q w)⟩
abbrev RG (X : Cx) (g : G) (E : XK) (e : Expr) (vs : List Nat) (f : IG) : Prop := PG X e (gI X.K g E vs f)
abbrev RGs (X : Cx) (g : G) (E : XK) (e : List Expr) (vs : List Nat) (f : List IG) : Prop := PGs X e (gIs X.K g E vs f)
theorem rg_n (i : Nat) {x : Str} (hN : X.N.Nodup) (hi : X.N[i]? = some x := by rfl) (hx : Loc X.env.scope x := by first | exact Or.inl rfl | exact Or.inr rfl) (hf : X.fn x = true ∨ X.env.scope.names.lookup x = some .local := by first | exact .inl rfl | exact .inr rfl | assumption) : RG X g E (.Name x pos) [i] (gN i) :=
  PG.imp (pg_name hN hi hx hf) fun v σ H Q ⟨φ, ρ, S, d, er, rp, dv, k⟩ => by
    refine k φ H (.refl rp) _ (er.set dv) ⟨by simp, fun j hj => ?_⟩
    rw [List.getElem?_set_ne (by simp at hj; exact fun e => hj e.symm)]
theorem rgs_nil : RGs X g E [] [] [] := PGs.imp pgs_nil fun us σ H Q ⟨φ, ρ, S, ds, er, rp, dv, k⟩ => by
  cases ds with
  | nil => exact ⟨dv.nil_inv, k φ H (.refl rp) _ er .refl⟩
  | cons d ds => exact k.elim
theorem outside.trans {vs ws : List Nat} {σ σ1 σ2 : L2.St} (a : outside vs σ σ1) (b : outside ws σ1 σ2) : outside (vs ++ ws) σ σ2 := ⟨b.1.trans a.1, fun j hj => by
  simp only [List.mem_append, not_or] at hj
  rw [b.2 j hj.2, a.2 j hj.1]⟩
theorem rgs_cons {e : Expr} {es : List Expr} {vs ws : List Nat} {f : IG} {fs : List IG} (h1 : RG X g E e vs f) (h2 : RGs X g E es ws fs) (hs : (assignEach (e :: es) X.env).map (·.2) = assign e X.env :: (assignEach es X.env).map (·.2) := by rfl) : RGs X g E (e :: es) (vs ++ ws) (f :: fs) :=
  PGs.imp (pgs_cons h1 h2 hs) fun us σ H Q ⟨φ, ρ, S, ds, er, rp, dv, k⟩ => by
    cases ds with
    | nil => exact k.elim
    | cons d ds =>
      obtain ⟨v, rs, rfl, q1, q2⟩ := dv.cons_inv
      refine ⟨v, rs, rfl, φ, ρ, S, d, er, rp, q1, k.bind.mono fun ρ1 S1 φ1 H1 _ _ ⟨r1, n1, k1⟩ σ' er' o1 => ?_⟩
      exact ⟨φ1, ρ1, S1, ds, er', r1, n1.drs q2, k1.mono fun ρ2 S2 φ2 H2 _ _ k2 σ2 er2 o2 => k2 σ2 er2 (o1.trans o2)⟩
theorem rg_tu {es : List Expr} {k : Nat} {vs : List Nat} {fs : List IG} (hc : X.calm = true) (h : RGs X g E es vs fs) (hlen : fs.length = es.length := by rfl) (hn : (assignEach es X.env).length = es.length := by rfl) (hst : (assignEach es X.env).findIdx? (·.1) = none := by rfl) : RG X g E (.Tuple es k pos) vs (gTu fs) :=
  PG.imp (PG.or (pg_tup hc h hn hst) (pg_lst hc h hn hst)) fun v σ H Q ⟨φ, ρ, S, d, er, rp, dv, k⟩ => by
    cases d with
    | tup ds =>
      obtain ⟨a, us, rfl, e1, e2⟩ := tup_inv dv
      simp only [gTu] at k
      split at k
      · rename_i hl
        exact .inl ⟨a, us, rfl, e1, by rw [e2.length, hl, hlen], φ, ρ, S, ds, er, rp, e2, k⟩
      · exact k.elim
    | ref n =>
      obtain ⟨a, ha, rfl⟩ := ref_inv dv
      simp only [gTu] at k
      split at k
      · rename_i ds h1
        obtain ⟨us, e1, e2⟩ := rp.lst h1 ha
        split at k
        · rename_i hl
          exact .inr ⟨a, us, rfl, .of e1, by rw [e2.length, hl, hlen], φ, ρ, S, ds, er, rp, e2, k⟩
        · exact k.elim
      · exact k.elim
    | _ => exact k.elim
theorem rg_sub {o i : Expr} {fo fi : IE} (ho : RE X g E o fo) (hi : RE X g E i fi)
    (ha : ∀ v, assign (.Subscript o i pos) X.env v = (do
      let ov ← holding [v] (eval o X.env)
      let iv ← holding [v, ov] (eval i X.env)
      standAt pos
      holding [v, ov, iv] (setItem ov iv v)
      release [v, ov, iv] []) := by intro _; rfl) : RG X g E (.Subscript o i pos) [] (gSubJ fo fi) :=
  PG.imp (pg_sub ho hi set_list ha) fun v σ H Q ⟨φ, ρ, S, d, er, rp, dv, k⟩ => ⟨φ, ρ, S, er, rp, k.bind.mono fun od S1 φ1 H1 _ _ ⟨r1, n1, k1⟩ ov dov => ⟨φ1, ρ, S1, n1.er er, r1, k1.bind.mono fun id S2 φ2 H2 _ _ ⟨r2, n2, k2⟩ iv div => by
    have dv2 := n2.dr (n1.dr dv)
    have dov2 := n2.dr dov
    cases od with
    | ref n =>
      obtain ⟨a, ha, rfl⟩ := ref_inv dov2
      cases id with
      | int i =>
        obtain rfl := int_inv div
        simp only [oPut] at k2
        split at k2
        · rename_i xs h1
          obtain ⟨us, e1, e2⟩ := r2.lst h1 ha
          split at k2
          · rename_i j h2
            have n3 := r2.put h1 ha (e2.set (i := j) dv2)
            exact ⟨a, us, i, j, rfl, rfl, e1, by rw [e2.length]; exact h2, k2 _ _ n3 σ (n3.er (n2.er (n1.er er))) .refl⟩
          · exact k2.elim
        · exact k2.elim
      | _ => exact k2.elim
    | _ => cases id <;> exact k2.elim⟩⟩
end

/-! ### statements -/
def sSkip : IS := fun ρ S => .ok (.next ρ) S
def sSeq (f h : IS) : IS := fun ρ S => (f ρ S).bind fun o S1 => match o with
  | .next ρ1 => h ρ1 S1
  | o => .ok o S1
def sDrop (f : IE) : IS := fun ρ S => (f ρ S).bind fun _ S1 => .ok (.next ρ) S1
def sRet (f : IE) : IS := fun ρ S => (f ρ S).bind fun d S1 => .ok (.ret d) S1
def sRetN : IS := fun ρ S => .ok (.ret .non) S
def sIf (c : IT) (f h : IS) : IS := fun ρ S => (c ρ S).bind fun b S1 => if b = true then f ρ S1 else h ρ S1
def sAsg (f : IE) (t : IG) : IS := fun ρ S => (f ρ S).bind fun d S1 => (t d ρ S1).bind fun ρ1 S2 => .ok (.next ρ1) S2
def sPar (i j : Nat) (fa fb : IE) : IS := fun ρ S => (fa ρ S).bind fun d S1 => (fb ρ S1).bind fun e S2 => .ok (.next ((ρ.set i (some d)).set j (some e))) S2
def sAug (i : Nat) (fo : D → D → Sto → R D) (f : IE) : IS := fun ρ S => match ρ[i]? with
  | some (some d) => (f ρ S).bind fun e S1 => (fo d e S1).bind fun z S2 => .ok (.next (ρ.set i (some z))) S2
  | _ => .bad
def sNever : IS := fun _ _ => .bad
section
variable {X : Cx} {g : G} {E : XK} {pos : Pos}
abbrev RS (X : Cx) (g : G) (E : XK) (e : Stmt) (f : IS) : Prop := PS X e (sI X.K g E f)
abbrev RSs (X : Cx) (g : G) (E : XK) (e : List Stmt) (f : IS) : Prop := PSs X e (sI X.K g E f)
theorem rss_nil : RSs X g E [] sSkip := PSs.imp pss_nil fun Dn σ H ⟨φ, ρ, S, er, rp, k⟩ => k φ H (.refl rp) σ er
theorem flow_seq {K : PySem.W.Frag} {φ : List Addr} {H : Hp} {S : Sto} {Dn : Ends} {h : IS} (rp : Rep K g φ S H) {o : Fl} (k : post K g E φ H (match o with
  | .next ρ1 => h ρ1 S
  | o => .ok o S) fun o _ φ' H' => flow K Dn φ' H' o) : flow K { Dn with nx := sI K g E h Dn } φ H o := by
  cases o with
  | next ρ1 => exact fun σ' er => ⟨φ, ρ1, S, er, rp, k⟩
  | ret d =>
    have k' : post K g E φ H (R.ok (Fl.ret d) S) (fun o _ φ' H' => flow K Dn φ' H' o) := k
    exact k' φ H (.refl rp)
  | brk ρ1 =>
    have k' : post K g E φ H (R.ok (Fl.brk ρ1) S) (fun o _ φ' H' => flow K Dn φ' H' o) := k
    exact k' φ H (.refl rp)
  | cont ρ1 =>
    have k' : post K g E φ H (R.ok (Fl.cont ρ1) S) (fun o _ φ' H' => flow K Dn φ' H' o) := k
    exact k' φ H (.refl rp)
theorem rss_cons {st : Stmt} {rest : List Stmt} {f h : IS} (h1 : RS X g E st f) (h2 : RSs X g E rest h) : RSs X g E (st :: rest) (sSeq f h) :=
  PSs.imp (pss_cons h1 h2) fun Dn σ H ⟨φ, ρ, S, er, rp, k⟩ => ⟨φ, ρ, S, er, rp, k.bind.mono fun o S1 φ1 H1 _ _ ⟨r1, n1, k1⟩ => flow_seq r1 k1⟩
theorem rss_one {st : Stmt} {f : IS} (h1 : RS X g E st f) : RSs X g E [st] f := pss_one h1
theorem rs_pass : RS X g E (.Pass pos) sSkip := PS.imp ps_pass fun Dn σ H ⟨φ, ρ, S, er, rp, k⟩ => k φ H (.refl rp) σ er
theorem rs_never {st : Stmt} : RS X g E st sNever := PS.imp ps_never fun Dn σ H ⟨φ, ρ, S, er, rp, k⟩ => k.elim
theorem rs_expr {e : Expr} {f : IE} (he : RE X g E e f) (hs : swapsWith e none pos.line X.env = pure false := by rfl) : RS X g E (.Expr e pos) (sDrop f) :=
  PS.imp (ps_expr he hs) fun Dn σ H ⟨φ, ρ, S, er, rp, k⟩ => ⟨φ, ρ, S, er, rp, k.bind.mono fun o S1 φ1 H1 _ _ ⟨r1, n1, k1⟩ v dv => k1 φ1 H1 (.refl r1) σ (n1.er er)⟩
theorem rs_ret {e : Expr} {f : IE} (he : RE X g E e f) : RS X g E (.Return (some e) pos) (sRet f) :=
  PS.imp (ps_ret he) fun Dn σ H ⟨φ, ρ, S, er, rp, k⟩ => ⟨φ, ρ, S, er, rp, k.bind.mono fun o S1 φ1 H1 _ _ ⟨r1, n1, k1⟩ v dv => k1 φ1 H1 (.refl r1) v dv⟩
theorem rs_retN : RS X g E (.Return none pos) sRetN := PS.imp ps_retN fun Dn σ H ⟨φ, ρ, S, er, rp, k⟩ => k φ H (.refl rp) _ dr_non
theorem rs_if {c : Expr} {a b : List Stmt} {t : IT} {f h : IS} (hc : RT X g E c t) (ha : RSs X g E a f) (hb : RSs X g E b h) : RS X g E (.If c a b pos) (sIf t f h) :=
  PS.imp (ps_if hc ha hb) fun Dn σ H ⟨φ, ρ, S, er, rp, k⟩ => ⟨φ, ρ, S, er, rp, k.bind.mono fun o S1 φ1 H1 _ _ ⟨r1, n1, k1⟩ => by
    cases o with
    | true => rw [if_pos rfl] at k1 ⊢; exact ⟨φ1, ρ, S1, n1.er er, r1, k1⟩
    | false => exact ⟨φ1, ρ, S1, n1.er er, r1, k1⟩⟩
theorem rs_asg {tg e : Expr} {f : IE} {vs : List Nat} {t : IG} (he : RE X g E e f) (hg : RG X g E tg vs t) (hs : swapsWithSole [tg] e pos.line X.env = pure false := by rfl) (hw : swappedStores [tg] e X.env = pure none := by rfl)
    (h1 : (assignEach [tg] X.env).map (·.2) = [assign tg X.env] := by rfl) : RS X g E (.Assign [tg] e pos) (sAsg f t) :=
  PS.imp (ps_asg he hg hs hw h1) fun Dn σ H ⟨φ, ρ, S, er, rp, k⟩ => ⟨φ, ρ, S, er, rp, k.bind.mono fun d S1 φ1 H1 _ _ ⟨r1, n1, k1⟩ v dv => ⟨φ1, ρ, S1, d, n1.er er, r1, dv, k1.bind.mono fun ρ2 S2 φ2 H2 _ _ ⟨r2, n2, k2⟩ σ' er' _ => k2 φ2 H2 (.refl r2) σ' er'⟩⟩
theorem rs_par (i j : Nat) {x y : Str} {a b : Expr} {fa fb : IE} {px py pt : Pos} {kt k2 pt2} (hc : X.calm = true) (hN : X.N.Nodup) (ha : RE X g E a fa) (hb : RE X g E b fb) (hi : X.N[i]? = some x := by rfl) (hj : X.N[j]? = some y := by rfl) (hij : i ≠ j := by decide)
    (hx : X.env.scope.names.lookup x = some .local := by rfl) (hy : X.env.scope.names.lookup y = some .local := by rfl)
    (hw : swappedStores [.Tuple [.Name x px, .Name y py] kt pt] (.Tuple [a, b] k2 pt2) X.env = pure (some [x, y]) := by rfl)
    (hs : swapsWithSole [.Tuple [.Name x px, .Name y py] kt pt] (.Tuple [a, b] k2 pt2) pos.line X.env = pure false := by rfl)
    (q1 : starEach (a :: [b]) X.env = (false, eval a X.env) :: starEach [b] X.env := by rfl) (q2 : starEach (b :: []) X.env = (false, eval b X.env) :: starEach [] X.env := by rfl) :
    RS X g E (.Assign [.Tuple [.Name x px, .Name y py] kt pt] (.Tuple [a, b] k2 pt2) pos) (sPar i j fa fb) :=
  PS.imp (ps_par hc hN hi hj hij hx hy (pa_cons ha (pa_cons hb pa_nil q2) q1) hw hs) fun Dn σ H ⟨φ, ρ, S, er, rp, k⟩ => ⟨φ, ρ, S, er, rp, k.bind.mono fun d S1 φ1 H1 _ _ ⟨r1, n1, k1⟩ v dv => ⟨φ1, ρ, S1, n1.er er, r1, k1.bind.mono fun e S2 φ2 H2 _ _ ⟨r2, n2, k2⟩ w dw =>
    ⟨v, w, rfl, k2 φ2 H2 (.refl r2) _ (((n2.er (n1.er er)).set (n2.dr dv)).set dw)⟩⟩⟩
def PipI (K : PySem.W.Frag) (g : G) (r : TIp) (fo : D → D → Sto → R D) : Prop := OpI K g r fo
theorem rs_aug (i : Nat) {x : Str} {e : Expr} {f : IE} {op : Operator} {r : TIp} {fo : D → D → Sto → R D} {pos' : Pos} (hN : X.N.Nodup) (ho : PIp X op r) (hi' : OpI X.K g r fo) (he : RE X g E e f) (hi : X.N[i]? = some x := by rfl) (hx : Loc X.env.scope x := by first | exact Or.inl rfl | exact Or.inr rfl)
    (hf : X.fn x = true ∨ X.env.scope.names.lookup x = some .local := by first | exact .inl rfl | exact .inr rfl | assumption) : RS X g E (.AugAssign (.Name x pos') op e pos) (sAug i fo f) :=
  PS.imp (ps_aug hN hi hx he ho hf) fun Dn σ H ⟨φ, ρ, S, er, rp, k⟩ => by
    unfold sAug at k
    cases h : ρ[i]? with
    | none => rw [h] at k; exact k.elim
    | some o =>
      cases o with
      | none => rw [h] at k; exact k.elim
      | some d =>
        rw [h] at k
        obtain ⟨v, h1, h2⟩ := er.2 i d h
        exact ⟨v, h1, φ, ρ, S, er, rp, k.bind.mono fun e S1 φ1 H1 _ _ ⟨r1, n1, k1⟩ w dw => hi' E φ1 S1 H1 d e v w _ r1 (n1.dr h2) dw (k1.bind.mono fun z S2 φ2 H2 _ _ ⟨r2, n2, k2⟩ u du => k2 φ2 H2 (.refl r2) _ ((n2.er (n1.er er)).set du))⟩
def oAddI : D → D → Sto → R D
  | .int i, .int j, S => .ok (.int (i + j)) S
  | _, _, _ => .bad
theorem oi_addI {K : PySem.W.Frag} : OpI K g (ipI fun i j => i + j) oAddI := fun E φ S H d e x y Q r hx hy k => by
  cases d with
  | int i =>
    cases e with
    | int j => obtain rfl := int_inv hx; obtain rfl := int_inv hy; exact ⟨i, j, rfl, rfl, k.here r _ dr_int⟩
    | _ => exact k.elim
  | _ => cases e <;> exact k.elim
theorem oi_subI {K : PySem.W.Frag} : OpI K g (ipI fun i j => i - j) oSub := fun E φ S H d e x y Q r hx hy k => by
  cases d with
  | int i =>
    cases e with
    | int j => obtain rfl := int_inv hx; obtain rfl := int_inv hy; exact ⟨i, j, rfl, rfl, k.here r _ dr_int⟩
    | _ => exact k.elim
  | _ => cases e <;> exact k.elim
end
end J

set_option Elab.async false
set_option linter.all false
set_option maxRecDepth 100000
set_option maxHeartbeats 4000000
namespace J
open PySem PySem.Spec PyProof.Rows L2

/-! ### what is walked -/
structure Src where
  items : List D
  gd : Sto → Prop
abbrev IW := Env → Sto → R Src
def WG (K : PySem.W.Frag) (g : G) (gd : Sto → Prop) (φ0 : List Addr) (H0 : Hp) : Hp → Prop := fun H => ∃ φ S, φ0 <+: φ ∧ TK K H0 H ∧ Rep K g φ S H ∧ gd S
def WY (K : PySem.W.Frag) (g : G) (s : Src) (φ0 : List Addr) (H0 : Hp) : Nat → Hp → V → Hp → Prop := fun i H x H' => (H' = H ∨ ∃ T us, H T = none ∧ H' = upd H T (.tup us)) ∧
  ∀ φ S, φ0 <+: φ → TK K H0 H → Rep K g φ S H → s.gd S → ∃ d, s.items[i]? = some d ∧ DR K φ H' d x
def wI (K : PySem.W.Frag) (g : G) (E : XK) (f : IW) : TI := fun σ H Rr => ∃ φ ρ S, ER K φ H ρ σ ∧ Rep K g φ S H ∧ post K g E φ H (f ρ S) fun s _ φ' H' => ∀ J, Walk J s.items.length (WG K g s.gd φ' H') (WY K g s φ' H') → Rr J H'
def sqSeq (fa : IE) : IW := fun ρ S => (fa ρ S).bind fun d S1 => match d with
  | .ref n => match lstOf S1 n with
    | some xs => .ok ⟨xs, fun S => lstOf S n = some xs⟩ S1
    | none => .bad
  | .tup xs => .ok ⟨xs, fun _ => True⟩ S1
  | .str z => .ok ⟨z.cps.toList.map fun c => .str ⟨#[c]⟩, fun _ => True⟩ S1
  | _ => .bad
def rngD (lo : Int) (n : Nat) : List D := (List.range n).map fun k => .int (lo + (k : Nat))
def dwnD (lo : Int) (n : Nat) : List D := (List.range n).map fun k => .int (lo - (k : Nat))
def small (i : Int) : Prop := -(LIM : Int) < i ∧ i < LIM
instance (i : Int) : Decidable (small i) := by unfold small; exact inferInstance
def sqR1 (fa : IE) : IW := fun ρ S => (fa ρ S).bind fun d S1 => match d with
  | .int j => if small j then .ok ⟨rngD 0 j.toNat, fun _ => True⟩ S1 else .bad
  | _ => .bad
def sqR2 (fa fb : IE) : IW := fun ρ S => (fa ρ S).bind fun d S1 => (fb ρ S1).bind fun e S2 => match d, e with
  | .int i, .int j => if small i ∧ small j then .ok ⟨rngD i (j - i).toNat, fun _ => True⟩ S2 else .bad
  | _, _ => .bad
/-- range(a, b, -1) -/
def sqR3 (fa fb fc : IE) : IW := fun ρ S => (fa ρ S).bind fun d S1 => (fb ρ S1).bind fun e S2 => (fc ρ S2).bind fun c S3 => match d, e, c with
  | .int i, .int j, .int k => if small i ∧ small j ∧ k = -1 then .ok ⟨dwnD i (i - j).toNat, fun _ => True⟩ S3 else .bad
  | _, _, _ => .bad
/-- reversed(range(n)) -/
def sqV1 (fa : IE) : IW := fun ρ S => (fa ρ S).bind fun d S1 => match d with
  | .int j => if small j then .ok ⟨dwnD ((j.toNat : Int) - 1) j.toNat, fun _ => True⟩ S1 else .bad
  | _ => .bad
def enumD : Nat → List D → List D
  | _, [] => []
  | k, x :: xs => .tup [.int (k : Nat), x] :: enumD (k + 1) xs
def zipD : List D → List D → List D
  | x :: xs, y :: ys => .tup [x, y] :: zipD xs ys
  | _, _ => []
def sqEn (fa : IE) : IW := fun ρ S => (fa ρ S).bind fun d S1 => match d with
  | .ref n => match lstOf S1 n with
    | some xs => .ok ⟨enumD 0 xs, fun S => lstOf S n = some xs⟩ S1
    | none => .bad
  | _ => .bad
def sqZp (fa fb : IE) : IW := fun ρ S => (fa ρ S).bind fun d S1 => (fb ρ S1).bind fun e S2 => match d, e with
  | .ref n, .ref m => match lstOf S2 n, lstOf S2 m with
    | some xs, some ys => .ok ⟨zipD xs ys, fun S => lstOf S n = some xs ∧ lstOf S m = some ys⟩ S2
    | _, _ => .bad
  | _, _ => .bad
theorem enumD_len : ∀ (k : Nat) (xs : List D), (enumD k xs).length = xs.length
  | _, [] => rfl
  | k, x :: xs => by rw [enumD, List.length_cons, List.length_cons, enumD_len]
theorem enumD_get : ∀ (k : Nat) (xs : List D) (i : Nat), (enumD k xs)[i]? = xs[i]?.map fun x => .tup [.int ((k + i : Nat) : Int), x]
  | _, [], _ => by simp [enumD]
  | k, x :: xs, 0 => by simp [enumD]
  | k, x :: xs, i + 1 => by
    rw [enumD, List.getElem?_cons_succ, List.getElem?_cons_succ, enumD_get (k + 1) xs i]
    rw [show k + 1 + i = k + (i + 1) by omega]
theorem zipD_len : ∀ (xs ys : List D), (zipD xs ys).length = min xs.length ys.length
  | [], ys => by simp [zipD]
  | x :: xs, [] => by simp [zipD]
  | x :: xs, y :: ys => by rw [zipD, List.length_cons, List.length_cons, List.length_cons, zipD_len]; omega
theorem zipD_get : ∀ (xs ys : List D) (i : Nat) (x y : D), xs[i]? = some x → ys[i]? = some y → (zipD xs ys)[i]? = some (.tup [x, y])
  | [], _, _, _, _, h, _ => by simp at h
  | _ :: _, [], _, _, _, _, h => by simp at h
  | a :: xs, b :: ys, 0, x, y, h, h' => by simp at h h'; subst h; subst h'; rfl
  | a :: xs, b :: ys, i + 1, x, y, h, h' => by rw [zipD, List.getElem?_cons_succ]; exact zipD_get xs ys i x y (by simpa using h) (by simpa using h')
section
variable {X : Cx} {g : G} {E : XK} {pos : Pos} {tg : Expr}
theorem PI.imp {e : Expr} {t t' : TI} (h : PI X tg e t) (q : ∀ σ H Q, t' σ H Q → t σ H Q) : PI X tg e t' := ⟨fun pins s σ H Q I w => h.run pins s σ H Q I (q σ H Q w)⟩
theorem PI.or {e : Expr} {t t' : TI} (h : PI X tg e t) (h' : PI X tg e t') : PI X tg e (fun σ H Q => t σ H Q ∨ t' σ H Q) := ⟨fun pins s σ H Q I w => w.elim (h.run pins s σ H Q I) (h'.run pins s σ H Q I)⟩
abbrev RI (X : Cx) (g : G) (E : XK) (tg e : Expr) (f : IW) : Prop := PI X tg e (wI X.K g E f)
theorem wl {K : PySem.W.Frag} {φ0 φ : List Addr} {S : Sto} {H : Hp} {n : Nat} {a : Addr} {xs : List D} (ha : φ0[n]? = some a) (p : φ0 <+: φ) (r : Rep K g φ S H) (h : lstOf S n = some xs) : ∃ vs, H a = some (.lst vs) ∧ DRs K φ H xs vs := r.lst h (ix_mono p ha)
theorem vget {α : Type} {vs : List α} {i : Nat} (h : i < vs.length) : ∃ v, vs[i]? = some v := ⟨vs[i], List.getElem?_eq_getElem h⟩
theorem sq_inj {K : PySem.W.Frag} {H : Hp} {a : Addr} {xs : List V} (h : H a = some (.lst xs)) : SqL K H a xs := .of h
theorem ri_seq {e : Expr} {fa : IE} (ha : RE X g E e fa) : RI X g E tg e (sqSeq fa) := by
  refine PI.imp (PI.or (pi_list ha) (PI.or (pi_tup ha) (pi_str ha))) fun σ H Rr ⟨φ, ρ, S, er, rp, k⟩ => ?_
  by_cases hl : ∃ n S1, fa ρ S = .ok (.ref n) S1
  · obtain ⟨n, S1', e0⟩ := hl
    refine .inl ⟨φ, ρ, S, er, rp, k.bind.mono fun d S1 φ1 H1 e1 _ ⟨r1, n1, k1⟩ v dv => ?_⟩
    rw [e0] at e1
    cases e1
    obtain ⟨a, ha, rfl⟩ := ref_inv dv
    dsimp only at k1
    split at k1
    · rename_i xs h1
      obtain ⟨vs, q1, q2⟩ := r1.lst h1 ha
      refine ⟨a, rfl, ⟨vs, .of q1⟩, k1 φ1 H1 (.refl r1) _ ⟨fun i H hi ⟨φ', S', p, t, r', gd⟩ => ?_, fun H ⟨φ', S', p, t, r', gd⟩ => ?_, fun i H x H' hi ⟨φ', S', p, t, r', gd⟩ y => ⟨.inl y.1, fun φ2 S2 p2 t2 r2 gd2 => ?_⟩⟩⟩
      · obtain ⟨us, e3, e4⟩ := wl ha p r' gd
        obtain ⟨u, hu⟩ := vget (vs := us) (i := i) (by rw [e4.length]; exact hi)
        exact ⟨us, u, .of e3, hu⟩
      · obtain ⟨us, e3, e4⟩ := wl ha p r' gd
        exact ⟨us, .of e3, by rw [e4.length]; exact Nat.le_refl _⟩
      · obtain ⟨us, e3, e4⟩ := wl ha p2 r2 gd2
        have hx := y.2 us (.of e3)
        obtain ⟨d, h5, h6⟩ := e4.getV hx
        refine ⟨d, h5, ?_⟩
        rw [y.1]
        exact h6
    · exact k1.elim
  · by_cases ht : ∃ xs S1, fa ρ S = .ok (.tup xs) S1
    · obtain ⟨xs, S1', e0⟩ := ht
      refine .inr (.inl ⟨φ, ρ, S, er, rp, k.bind.mono fun d S1 φ1 H1 e1 _ ⟨r1, n1, k1⟩ v dv => ?_⟩)
      rw [e0] at e1
      cases e1
      obtain ⟨a, vs, rfl, q1, q2⟩ := tup_inv dv
      refine ⟨a, rfl, ⟨vs, q1⟩, k1 φ1 H1 (.refl r1) _ ⟨fun i H hi ⟨φ', S', p, t, r', gd⟩ => ?_, fun H ⟨φ', S', p, t, r', gd⟩ => ?_, fun i H x H' hi ⟨φ', S', p, t, r', gd⟩ y => ⟨.inl y.1, fun φ2 S2 p2 t2 r2 gd2 => ?_⟩⟩⟩
      · obtain ⟨u, hu⟩ := vget (vs := vs) (i := i) (by rw [q2.length]; exact hi)
        exact ⟨vs, u, t.t _ _ q1, hu⟩
      · exact ⟨vs, t.t _ _ q1, by rw [q2.length]; exact Nat.le_refl _⟩
      · have hx := y.2 vs (t2.t _ _ q1)
        obtain ⟨d, h5, h6⟩ := (q2.mono p2 t2).getV hx
        refine ⟨d, h5, ?_⟩
        rw [y.1]
        exact h6
    · refine .inr (.inr ⟨φ, ρ, S, er, rp, k.bind.mono fun d S1 φ1 H1 e1 _ ⟨r1, n1, k1⟩ v dv => ?_⟩)
      cases d with
      | ref n => exact absurd ⟨_, _, e1⟩ hl
      | tup n => exact absurd ⟨_, _, e1⟩ ht
      | str z =>
        obtain rfl := str_inv dv
        have hz : (z.cps.toList.map fun c => D.str ⟨#[c]⟩).length = z.cps.size := by simp
        refine ⟨z, rfl, k1 φ1 H1 (.refl r1) _ ⟨fun i H hi _ => ?_, fun H _ => ?_, fun i H x H' hi _ y => ⟨.inl y.1, fun φ2 S2 p2 t2 r2 gd2 => ?_⟩⟩⟩
        · show i < z.cps.size
          rw [← hz]
          exact hi
        · show z.cps.size ≤ _
          rw [← hz]
          exact Nat.le_refl _
        · obtain ⟨_, c, h1, rfl⟩ := y
          refine ⟨.str ⟨#[c]⟩, ?_, dr_str⟩
          rw [List.getElem?_map, Array.getElem?_toList, h1]
          rfl
      | _ => exact k1.elim
theorem rngD_get {lo : Int} {n i : Nat} (h : i < n) : (rngD lo n)[i]? = some (.int (lo + (i : Nat))) := by
  unfold rngD
  rw [List.getElem?_map, List.getElem?_range h]
  rfl
theorem dwnD_get {lo : Int} {n i : Nat} (h : i < n) : (dwnD lo n)[i]? = some (.int (lo - (i : Nat))) := by
  unfold dwnD
  rw [List.getElem?_map, List.getElem?_range h]
  rfl
theorem rngD_len {lo : Int} {n : Nat} : (rngD lo n).length = n := by simp [rngD]
theorem dwnD_len {lo : Int} {n : Nat} : (dwnD lo n).length = n := by simp [dwnD]
theorem small_b {i : Int} (h : small i) : -(2 ^ 62) ≤ i ∧ i < 2 ^ 62 := by
  have h1 : -1000000 < i := h.1
  have h2 : i < 1000000 := h.2
  omega
theorem rng_walk {K : PySem.W.Frag} {lo : Int} {n : Nat} {φ : List Addr} {H : Hp} : Walk (Itr lo n) (rngD lo n).length (WG K g (fun _ => True) φ H) (WY K g ⟨rngD lo n, fun _ => True⟩ φ H) := by
  rw [rngD_len]
  exact ⟨fun i H hi _ => hi, fun H _ => Nat.le_refl _, fun i H x H' hi _ y => ⟨.inl y.1, fun φ2 S2 _ _ _ _ => ⟨_, rngD_get hi, by rw [y.2]; exact dr_int⟩⟩⟩
theorem dwn_walk {K : PySem.W.Frag} {lo : Int} {n : Nat} {φ : List Addr} {H : Hp} : Walk (Itc lo (-1) n) (dwnD lo n).length (WG K g (fun _ => True) φ H) (WY K g ⟨dwnD lo n, fun _ => True⟩ φ H) := by
  rw [dwnD_len]
  refine ⟨fun i H hi _ => hi, fun H _ => Nat.le_refl _, fun i H x H' hi _ y => ⟨.inl y.1, fun φ2 S2 _ _ _ _ => ⟨_, dwnD_get hi, ?_⟩⟩⟩
  rw [y.2, show lo + (i : Nat) * (-1 : Int) = lo - (i : Nat) by omega]
  exact dr_int
theorem ri_r1 {a : Expr} {fa : IE} {p : Pos} (hg : Gl X "range") (hm : X.mg "range" = none) (ha : RE X g E a fa) (hs : starEach [a] X.env = [(false, eval a X.env)] := by rfl) (hs1 : starEach (a :: []) X.env = (false, eval a X.env) :: starEach [] X.env := by rfl) : RI X g E tg (.Call (.Name "range" p) [a] [] pos) (sqR1 fa) :=
  PI.imp (pi_range1 hg hm (pa_cons ha pa_nil hs1) hs) fun σ H Rr ⟨φ, ρ, S, er, rp, k⟩ => ⟨φ, ρ, S, er, rp, k.bind.mono fun d S1 φ1 H1 _ _ ⟨r1, n1, k1⟩ v dv => by
    cases d with
    | int j =>
      obtain rfl := int_inv dv
      dsimp only at k1
      split at k1
      · rename_i hj
        exact ⟨j, rfl, (small_b hj).1, (small_b hj).2, k1 φ1 H1 (.refl r1) _ rng_walk⟩
      · exact k1.elim
    | _ => exact k1.elim⟩
theorem ri_r2 {a b : Expr} {fa fb : IE} {p : Pos} (hg : Gl X "range") (hm : X.mg "range" = none) (ha : RE X g E a fa) (hb : RE X g E b fb) (hs : starEach [a, b] X.env = [(false, eval a X.env), (false, eval b X.env)] := by rfl) (hs2 : starEach [b] X.env = [(false, eval b X.env)] := by rfl)
    (q1 : starEach (a :: [b]) X.env = (false, eval a X.env) :: starEach [b] X.env := by rfl) (q2 : starEach (b :: []) X.env = (false, eval b X.env) :: starEach [] X.env := by rfl) : RI X g E tg (.Call (.Name "range" p) [a, b] [] pos) (sqR2 fa fb) :=
  PI.imp (pi_range2 hg hm (pa_cons ha (pa_cons hb pa_nil q2) q1) hs hs2) fun σ H Rr ⟨φ, ρ, S, er, rp, k⟩ => ⟨φ, ρ, S, er, rp, k.bind.mono fun d S1 φ1 H1 _ _ ⟨r1, n1, k1⟩ v dv => ⟨φ1, ρ, S1, n1.er er, r1, k1.bind.mono fun e S2 φ2 H2 _ _ ⟨r2, n2, k2⟩ w dw => by
    cases d with
    | int i =>
      cases e with
      | int j =>
        obtain rfl := int_inv dv
        obtain rfl := int_inv dw
        dsimp only at k2
        split at k2
        · rename_i hj
          exact ⟨i, j, rfl, ⟨(small_b hj.1).1, (small_b hj.1).2, (small_b hj.2).1, (small_b hj.2).2⟩, k2 φ2 H2 (.refl r2) _ rng_walk⟩
        · exact k2.elim
      | _ => exact k2.elim
    | _ => exact k2.elim⟩⟩
theorem ri_r3 {a b c : Expr} {fa fb fc : IE} {p : Pos} (hg : Gl X "range") (hm : X.mg "range" = none) (ha : RE X g E a fa) (hb : RE X g E b fb) (hc : RE X g E c fc)
    (hs : starEach [a, b, c] X.env = (false, eval a X.env) :: starEach [b, c] X.env := by rfl) (hpl : (backTo pos (starEach [b, c] X.env)).any (·.1) = false := by rfl)
    (q2 : starEach (b :: [c]) X.env = (false, eval b X.env) :: starEach [c] X.env := by rfl) (q3 : starEach (c :: []) X.env = (false, eval c X.env) :: starEach [] X.env := by rfl) : RI X g E tg (.Call (.Name "range" p) [a, b, c] [] pos) (sqR3 fa fb fc) :=
  PI.imp (pi_range3 hg hm (pa_cons ha (pa_cons hb (pa_cons hc pa_nil q3) q2) hs) hs hpl) fun σ H Rr ⟨φ, ρ, S, er, rp, k⟩ => ⟨φ, ρ, S, er, rp, k.bind.mono fun d S1 φ1 H1 _ _ ⟨r1, n1, k1⟩ v dv => ⟨φ1, ρ, S1, n1.er er, r1, k1.bind.mono fun e S2 φ2 H2 _ _ ⟨r2, n2, k2⟩ w dw =>
    ⟨φ2, ρ, S2, n2.er (n1.er er), r2, k2.bind.mono fun z S3 φ3 H3 _ _ ⟨r3, n3, k3⟩ u du => by
    cases d with
    | int i =>
      cases e with
      | int j =>
        cases z with
        | int l =>
          obtain rfl := int_inv dv
          obtain rfl := int_inv dw
          obtain rfl := int_inv du
          dsimp only at k3
          split at k3
          · rename_i hj
            obtain ⟨h1, h2, rfl⟩ := hj
            exact ⟨i, j, -1, _, rfl, RgC.neg (small_b h1).1 (small_b h1).2 (small_b h2).1 (small_b h2).2, k3 φ3 H3 (.refl r3) _ dwn_walk⟩
          · exact k3.elim
        | _ => exact k3.elim
      | _ => exact k3.elim
    | _ => exact k3.elim⟩⟩⟩
theorem ri_v1 {a : Expr} {fa : IE} {p p' pos' : Pos} (hg : Gl X "reversed") (hm : X.mg "reversed" = none) (hg2 : Gl X "range") (hm2 : X.mg "range" = none) (ha : RE X g E a fa) (hs : starEach [Expr.Call (.Name "range" p') [a] [] pos'] X.env = (false, eval (Expr.Call (.Name "range" p') [a] [] pos') X.env) :: starEach [] X.env := by rfl)
    (hs2 : starEach [a] X.env = (false, eval a X.env) :: starEach [] X.env := by rfl) : RI X g E tg (.Call (.Name "reversed" p) [.Call (.Name "range" p') [a] [] pos'] [] pos) (sqV1 fa) :=
  PI.imp (pi_revR hg hm (prg_1 hg2 hm2 ha hs2) hs) fun σ H Rr ⟨φ, ρ, S, er, rp, k⟩ => ⟨φ, ρ, S, er, rp, k.bind.mono fun d S1 φ1 H1 _ _ ⟨r1, n1, k1⟩ v dv => by
    cases d with
    | int j =>
      obtain rfl := int_inv dv
      dsimp only at k1
      split at k1
      · rename_i hj
        refine ⟨j, rfl, by decide, by decide, (small_b hj).1, (small_b hj).2, ?_⟩
        have e : (0 : Int) + (((j - 0).toNat : Nat) : Int) - 1 = (j.toNat : Int) - 1 := by omega
        rw [e, show (j - 0).toNat = j.toNat by omega]
        exact k1 φ1 H1 (.refl r1) _ dwn_walk
      · exact k1.elim
    | _ => exact k1.elim⟩
theorem ri_en {a : Expr} {fa : IE} {p tpos : Pos} {elts : List Expr} {kk : Nat} (hg : Gl X "enumerate") (hm : X.mg "enumerate" = none) (ha : RE X g E a fa) (hs : starEach [a] X.env = [(false, eval a X.env)] := by rfl) (hs1 : starEach (a :: []) X.env = (false, eval a X.env) :: starEach [] X.env := by rfl) :
    RI X g E (.Tuple elts kk tpos) (.Call (.Name "enumerate" p) [a] [] pos) (sqEn fa) :=
  PI.imp (pi_enum hg hm (pa_cons ha pa_nil hs1) hs) fun σ H Rr ⟨φ, ρ, S, er, rp, k⟩ => ⟨φ, ρ, S, er, rp, k.bind.mono fun d S1 φ1 H1 _ _ ⟨r1, n1, k1⟩ v dv => by
    cases d with
    | ref n =>
      obtain ⟨a, ha, rfl⟩ := ref_inv dv
      dsimp only at k1
      split at k1
      · rename_i xs h1
        obtain ⟨vs, q1, q2⟩ := r1.lst h1 ha
        refine ⟨a, vs, rfl, .of q1, k1 φ1 H1 (.refl r1) _ ?_⟩
        rw [enumD_len]
        refine ⟨fun i H hi ⟨φ', S', p, t, r', gd⟩ => ?_, fun H ⟨φ', S', p, t, r', gd⟩ => ?_, fun i H x H' hi ⟨φ', S', p, t, r', gd⟩ y => ?_⟩
        · obtain ⟨us, e3, e4⟩ := wl ha p r' gd
          obtain ⟨u, hu⟩ := vget (vs := us) (i := i) (by rw [e4.length]; exact hi)
          exact ⟨us, u, .of e3, hu⟩
        · obtain ⟨us, e3, e4⟩ := wl ha p r' gd
          exact ⟨us, .of e3, by rw [e4.length]; exact Nat.le_refl _⟩
        · obtain ⟨T, x', rfl, hT, rfl, hx⟩ := y
          refine ⟨.inr ⟨T, _, hT, rfl⟩, fun φ2 S2 p2 t2 r2 gd2 => ?_⟩
          obtain ⟨us, e3, e4⟩ := wl ha p2 r2 gd2
          obtain ⟨d, h5, h6⟩ := e4.getV (hx us (.of e3))
          refine ⟨.tup [.int (i : Nat), d], by rw [enumD_get, h5]; simp, ?_⟩
          have n3 := r2.side (o := .tup [.int (i : Nat), x']) hT
          exact dr_tup (.of upd_same) (.cons dr_int (.cons (n3.dr h6) .nil))
      · exact k1.elim
    | _ => exact k1.elim⟩
theorem ri_zp {a b : Expr} {fa fb : IE} {p tpos : Pos} {elts : List Expr} {kk : Nat} (hg : Gl X "zip") (hm : X.mg "zip" = none) (ha : RE X g E a fa) (hb : RE X g E b fb)
    (hs : starEach [a, b] X.env = (false, eval a X.env) :: starEach [b] X.env := by rfl) (hpl : (backTo pos (starEach [b] X.env)).any (·.1) = false := by rfl) (q2 : starEach (b :: []) X.env = (false, eval b X.env) :: starEach [] X.env := by rfl) :
    RI X g E (.Tuple elts kk tpos) (.Call (.Name "zip" p) [a, b] [] pos) (sqZp fa fb) :=
  PI.imp (pi_zip hg hm (pa_cons ha (pa_cons hb pa_nil q2) hs) hs hpl) fun σ H Rr ⟨φ, ρ, S, er, rp, k⟩ => ⟨φ, ρ, S, er, rp, k.bind.mono fun d S1 φ1 H1 _ _ ⟨r1, n1, k1⟩ v dv => ⟨φ1, ρ, S1, n1.er er, r1, k1.bind.mono fun e S2 φ2 H2 _ _ ⟨r2, n2, k2⟩ w dw => by
    cases d with
    | ref n =>
      cases e with
      | ref m =>
        obtain ⟨a, ha, rfl⟩ := ref_inv (n2.dr dv)
        obtain ⟨b, hb, rfl⟩ := ref_inv dw
        dsimp only at k2
        split at k2
        · rename_i xs ys h1 h2
          obtain ⟨vs, q1, q2⟩ := r2.lst h1 ha
          obtain ⟨ws, q3, q4⟩ := r2.lst h2 hb
          obtain ⟨a', ha', ea⟩ := ref_inv dv
          have e : a' = a := by injection ea with ea; exact ea.symm
          refine ⟨_, b, vs, ws, rfl, .of q1, .of q3, k2 φ2 H2 (.refl r2) _ ?_⟩
          rw [zipD_len]
          refine ⟨fun i H hi ⟨φ', S', p, t, r', gd⟩ => ?_, fun H ⟨φ', S', p, t, r', gd⟩ => ?_, fun i H x H' hi ⟨φ', S', p, t, r', gd⟩ y => ?_⟩
          · obtain ⟨us, e3, e4⟩ := wl ha p r' gd.1
            obtain ⟨us', e5, e6⟩ := wl hb p r' gd.2
            obtain ⟨u, hu⟩ := vget (vs := us) (i := i) (by rw [e4.length]; omega)
            obtain ⟨u', hu'⟩ := vget (vs := us') (i := i) (by rw [e6.length]; omega)
            exact ⟨us, us', u, u', .of e3, .of e5, hu, hu'⟩
          · obtain ⟨us, e3, e4⟩ := wl ha p r' gd.1
            obtain ⟨us', e5, e6⟩ := wl hb p r' gd.2
            exact ⟨us, us', .of e3, .of e5, by rw [e4.length, e6.length]; omega⟩
          · obtain ⟨T, x', y', rfl, hT, rfl, hx, hy⟩ := y
            refine ⟨.inr ⟨T, _, hT, rfl⟩, fun φ2 S2 p2 t2 r2 gd2 => ?_⟩
            obtain ⟨us, e3, e4⟩ := wl ha p2 r2 gd2.1
            obtain ⟨us', e5, e6⟩ := wl hb p2 r2 gd2.2
            obtain ⟨d, h5, h6⟩ := e4.getV (hx us (.of e3))
            obtain ⟨d', h7, h8⟩ := e6.getV (hy us' (.of e5))
            refine ⟨.tup [d, d'], zipD_get _ _ _ _ _ h5 h7, ?_⟩
            have n3 := r2.side (o := .tup [x', y']) hT
            exact dr_tup (.of upd_same) (.cons (n3.dr h6) (.cons (n3.dr h8) .nil))
        · exact k2.elim
      | _ => exact k2.elim
    | _ => exact k2.elim⟩⟩
end

/-! ### loops -/
open Classical in
noncomputable def forL (gd : Sto → Prop) (tg : IG) (body : IS) : List D → IS
  | [], ρ, S => if gd S then .ok (.next ρ) S else .bad
  | d :: r, ρ, S => if gd S then (tg d ρ S).bind fun ρ1 S1 => (body ρ1 S1).bind fun o S2 => match o with
      | .next ρ2 => forL gd tg body r ρ2 S2
      | .cont ρ2 => forL gd tg body r ρ2 S2
      | .brk ρ2 => .ok (.next ρ2) S2
      | .ret d => .ok (.ret d) S2
    else .bad
noncomputable def sFor (w : IW) (tg : IG) (body : IS) : IS := fun ρ S => (w ρ S).bind fun s S1 => forL s.gd tg body s.items ρ S1
theorem forL_gd {gd : Sto → Prop} {tg : IG} {body : IS} {items : List D} {ρ : Env} {S : Sto} {K : PySem.W.Frag} {g : G} {E : XK} {φ : List Addr} {H : Hp} {k : Fl → Sto → List Addr → Hp → Prop} (h : post K g E φ H (forL gd tg body items ρ S) k) : gd S := by
  cases items with
  | nil =>
    unfold forL at h
    split at h
    · assumption
    · exact h.elim
  | cons d r =>
    unfold forL at h
    split at h
    · assumption
    · exact h.elim
section
variable {X : Cx} {g : G} {E : XK} {pos : Pos} {tg : Expr}
theorem rs_for {iter : Expr} {body : List Stmt} {w : IW} {vs : List Nat} {t : IG} {f : IS} (hp : PassesOwn (model X.prog X.w) X.A X.env X.xe) (hc : X.calm = true) (hi : RI X g E tg iter w) (hg : RG X g E tg vs t) (hb : RSs X g E body f)
    (hs : ∀ x, foldedSetIterable iter X.env x = pure x := by intro _; rfl) : RS X g E (.For tg iter body [] pos) (sFor w t f) := by
  refine PS.imp (ps_for hp hc hi hg hb hs) fun Dn σ H ⟨φ, ρ, S, er, rp, k⟩ => ⟨φ, ρ, S, er, rp, k.bind.mono fun s S1 φ1 H1 _ _ ⟨r1, n1, k1⟩ J wk => ?_⟩
  refine for_it wk (fun i σ H => ∃ φ2 ρ2 S2, φ1 <+: φ2 ∧ TK X.K H1 H ∧ ER X.K φ2 H ρ2 σ ∧ Rep X.K g φ2 S2 H ∧ post X.K g E φ2 H (forL s.gd t f (s.items.drop i) ρ2 S2) fun o _ φ' H' => flow X.K Dn φ' H' o) ⟨φ1, ρ, S1, List.prefix_refl _, .refl, n1.er er, r1, by simpa using k1⟩ ?_ ?_ ?_
  · rintro i σ H hi ⟨φ2, ρ2, S2, p2, t2, er2, r2, k2⟩
    exact ⟨φ2, S2, p2, t2, r2, forL_gd k2⟩
  · rintro i x σ H H' hi ⟨φ2, ρ2, S2, p2, t2, er2, r2, k2⟩ ⟨hH, hy⟩
    have gd := forL_gd k2
    obtain ⟨d, hd, dx⟩ := hy φ2 S2 p2 t2 r2 gd
    have n3 : Nx X.K g φ2 H S2 φ2 H' := by
      rcases hH with rfl | ⟨T, us, hT, rfl⟩
      · exact .refl r2
      · exact r2.side hT
    have ed : s.items.drop i = d :: s.items.drop (i + 1) := by
      rw [List.drop_eq_getElem_cons hi]
      congr 1
      rw [List.getElem?_eq_getElem hi] at hd
      exact Option.some.inj hd
    rw [ed] at k2
    unfold forL at k2
    rw [if_pos gd] at k2
    refine ⟨φ2, ρ2, S2, d, n3.er er2, n3.rep, dx, (post.weak n3 k2).bind.mono fun ρ4 S4 φ4 H4 _ _ ⟨r4, n4, k4⟩ σ' er' _ => ?_⟩
    refine ⟨φ4, ρ4, S4, er', r4, k4.bind.mono fun o S5 φ5 H5 _ _ ⟨r5, n5, k5⟩ => ?_⟩
    have n25 := n3.trans (n4.trans n5)
    have nxt : ∀ ρ5, post X.K g E φ5 H5 (forL s.gd t f (s.items.drop (i + 1)) ρ5 S5) (fun o _ φ' H' => flow X.K Dn φ' H' o) → ∀ σ', ER X.K φ5 H5 ρ5 σ' → ∃ φ2 ρ2 S2, φ1 <+: φ2 ∧ TK X.K H1 H5 ∧ ER X.K φ2 H5 ρ2 σ' ∧ Rep X.K g φ2 S2 H5 ∧ post X.K g E φ2 H5 (forL s.gd t f (s.items.drop (i + 1)) ρ2 S2) fun o _ φ' H' => flow X.K Dn φ' H' o :=
      fun ρ5 k6 σ' er6 => ⟨φ5, ρ5, S5, p2.trans n25.pre, t2.trans n25.tk, er6, r5, k6⟩
    cases o with
    | next ρ5 => exact nxt ρ5 k5
    | cont ρ5 => exact nxt ρ5 k5
    | brk ρ5 => exact fun σ' er6 => k5 φ5 H5 (.refl r5) σ' er6
    | ret d => exact fun v dv => k5 φ5 H5 (.refl r5) v dv
  · rintro σ H ⟨φ2, ρ2, S2, p2, t2, er2, r2, k2⟩
    have gd := forL_gd k2
    rw [List.drop_length] at k2
    unfold forL at k2
    rw [if_pos gd] at k2
    exact k2 φ2 H (.refl r2) σ er2
end
/-! while -/
def whileL (c : IT) (body : IS) : Nat → IS
  | 0, _, _ => .bad
  | n + 1, ρ, S => (c ρ S).bind fun b S1 => if b = true then (body ρ S1).bind fun o S2 => match o with
      | .next ρ2 => whileL c body n ρ2 S2
      | .cont ρ2 => whileL c body n ρ2 S2
      | .brk ρ2 => .ok (.next ρ2) S2
      | .ret d => .ok (.ret d) S2
    else .ok (.next ρ) S1
theorem bind_mono {α β : Type} {r : R α} {f h : α → Sto → R β} (q : ∀ a S, f a S ≠ .bad → h a S = f a S) (hb : r.bind f ≠ .bad) : r.bind h = r.bind f := by
  cases r with
  | ok a S => exact q a S hb
  | exc c S => rfl
  | bad => rfl
theorem whileL_mono {c : IT} {body : IS} : ∀ (n : Nat) (ρ : Env) (S : Sto), whileL c body n ρ S ≠ .bad → whileL c body (n + 1) ρ S = whileL c body n ρ S
  | 0, ρ, S, h => absurd rfl h
  | n + 1, ρ, S, h => by
    rw [whileL, whileL]
    rw [whileL] at h
    refine bind_mono (fun b S1 h1 => ?_) h
    cases b with
    | false => rfl
    | true =>
      rw [if_pos rfl] at h1 ⊢
      rw [if_pos rfl]
      refine bind_mono (fun o S2 h2 => ?_) h1
      cases o with
      | next ρ2 => exact whileL_mono n ρ2 S2 h2
      | cont ρ2 => exact whileL_mono n ρ2 S2 h2
      | brk ρ2 => rfl
      | ret d => rfl
theorem whileL_le {c : IT} {body : IS} {n m : Nat} {ρ : Env} {S : Sto} (h : n ≤ m) (hb : whileL c body n ρ S ≠ .bad) : whileL c body m ρ S = whileL c body n ρ S := by
  induction h with
  | refl => rfl
  | step hm ih => rw [whileL_mono _ _ _ (by rw [ih]; exact hb), ih]
open Classical in
noncomputable def sWhile (c : IT) (body : IS) : IS := fun ρ S => if h : ∃ n, whileL c body n ρ S ≠ .bad then whileL c body (choose h) ρ S else .bad
theorem sWhile_eq {c : IT} {body : IS} {n : Nat} {ρ : Env} {S : Sto} (hb : whileL c body n ρ S ≠ .bad) : sWhile c body ρ S = whileL c body n ρ S := by
  have h : ∃ n, whileL c body n ρ S ≠ .bad := ⟨n, hb⟩
  unfold sWhile
  rw [dif_pos h]
  have h2 := Classical.choose_spec h
  rcases Nat.le_total n (Classical.choose h) with q | q
  · exact whileL_le q hb
  · exact (whileL_le q h2).symm
section
variable {X : Cx} {g : G} {E : XK} {pos : Pos}
theorem rs_while {c : Expr} {body : List Stmt} {t : IT} {f : IS} (hp : PassesOwn (model X.prog X.w) X.A X.env X.xe) (hc : RT X g E c t) (hb : RSs X g E body f) : RS X g E (.While c body [] pos) (sWhile t f) := by
  refine PS.imp (ps_while hp hc hb) fun Dn σ H ⟨φ, ρ, S, er, rp, k⟩ => ?_
  have hex : ∃ n, post X.K g E φ H (whileL t f n ρ S) fun o _ φ' H' => flow X.K Dn φ' H' o := by
    unfold sWhile at k
    split at k
    · exact ⟨_, k⟩
    · exact k.elim
  obtain ⟨n, kn⟩ := hex
  refine ⟨fun m σ H => ∃ φ ρ S, ER X.K φ H ρ σ ∧ Rep X.K g φ S H ∧ post X.K g E φ H (whileL t f m ρ S) fun o _ φ' H' => flow X.K Dn φ' H' o, ⟨n, φ, ρ, S, er, rp, kn⟩, ?_⟩
  rintro m σ H ⟨φ, ρ, S, er, rp, k⟩
  cases m with
  | zero => exact k.elim
  | succ m =>
    rw [whileL] at k
    refine ⟨φ, ρ, S, er, rp, k.bind.mono fun b S1 φ1 H1 _ _ ⟨r1, n1, k1⟩ => ?_⟩
    cases b with
    | false =>
      rw [if_neg Bool.false_ne_true] at k1 ⊢
      exact k1 φ1 H1 (.refl r1) σ (n1.er er)
    | true =>
      rw [if_pos rfl] at k1 ⊢
      refine ⟨_, fun σ' H' w => ⟨m, Nat.lt_succ_self m, w⟩, φ1, ρ, S1, n1.er er, r1, k1.bind.mono fun o S2 φ2 H2 _ _ ⟨r2, n2, k2⟩ => ?_⟩
      cases o with
      | next ρ2 => exact fun σ' er' => ⟨φ2, ρ2, S2, er', r2, k2⟩
      | cont ρ2 => exact fun σ' er' => ⟨φ2, ρ2, S2, er', r2, k2⟩
      | brk ρ2 => exact fun σ' er' => k2 φ2 H2 (.refl r2) σ' er'
      | ret d => exact fun v dv => k2 φ2 H2 (.refl r2) v dv
end

/-! ### comprehensions -/
def wipeD (ρ : Env) : List Nat → Env
  | [] => ρ
  | v :: vs => (wipeD ρ vs).set v none
def tYesJ : IT := fun _ S => .ok true S
/-- nothing is raised -/
def R.noX {α : Type} : R α → R α
  | .exc _ _ => .bad
  | r => r
@[simp] theorem noX_ok {α : Type} (a : α) (S : Sto) : (R.ok a S).noX = .ok a S := rfl
@[simp] theorem noX_bad {α : Type} : (R.bad : R α).noX = .bad := rfl
theorem post0 {K : PySem.W.Frag} {g : G} {E : XK} {φ : List Addr} {H : Hp} {α β : Type} {r : R α} {f : α → Sto → R β} {k : β → Sto → List Addr → Hp → Prop} {k' : α → Sto → List Addr → Hp → Prop} (h : post K g E φ H (r.noX.bind f) k)
    (q : ∀ a S1 φ1 H1, r = .ok a S1 → Nx K g φ H S1 φ1 H1 → k' a S1 φ1 H1) : post K g E0 φ H r k' := by
  cases r with
  | ok a S => exact fun φ' H' m => q a S φ' H' rfl m
  | exc c S => exact h.elim
  | bad => exact h.elim
open Classical in
noncomputable def lcL (gd : Sto → Prop) (tg : IG) (t : IT) (e : IE) (ρ : Env) : List D → List D → Sto → R (List D)
  | [], acc, S => if gd S then .ok acc S else .bad
  | d :: r, acc, S => if gd S ∧ acc.length < LIM then (tg d ρ S).noX.bind fun ρ1 S1 => (t ρ1 S1).noX.bind fun b S2 => if b = true then (e ρ1 S2).noX.bind fun y S3 => lcL gd tg t e ρ r (acc ++ [y]) S3 else lcL gd tg t e ρ r acc S2
    else .bad
noncomputable def iLc (w : IW) (tg : IG) (t : IT) (e : IE) (vs : List Nat) : IE := fun ρ S => (w ρ S).bind fun s S1 => (lcL s.gd tg t e (wipeD ρ vs) s.items [] S1).bind fun ds S2 => .ok (.ref S2.length) (S2 ++ [.lst ds])
theorem ER.wipe {K : PySem.W.Frag} {φ : List Addr} {H : Hp} {ρ : Env} {σ : L2.St} (er : ER K φ H ρ σ) : ∀ vs, ER K φ H (wipeD ρ vs) (L2.wipe σ vs)
  | [] => er
  | v :: vs => (er.wipe vs).unset
theorem wipe_get {σ : L2.St} : ∀ {vs : List Nat} {j : Nat}, j < σ.length → (L2.wipe σ vs)[j]? = if j ∈ vs then some none else σ[j]?
  | [], j, _ => by simp [L2.wipe]
  | v :: vs, j, h => by
    rw [L2.wipe]
    by_cases e : v = j
    · subst e
      rw [List.getElem?_set_self (by rw [L2.wipe_length]; exact h), if_pos (by simp)]
    · rw [List.getElem?_set_ne e, wipe_get h]
      by_cases m : j ∈ vs
      · rw [if_pos m, if_pos (by simp [m])]
      · rw [if_neg m, if_neg (by simp [m]; exact fun q => e q.symm)]
theorem wipe_same {σ σ' : L2.St} {vs ws : List Nat} (o : outside ws (L2.wipe σ vs) σ') (hs : ∀ j ∈ ws, j ∈ vs) : L2.wipe σ' vs = L2.wipe σ vs := by
  have hl : σ'.length = σ.length := by rw [o.1, L2.wipe_length]
  apply List.ext_getElem?
  intro j
  by_cases hj : j < σ.length
  · rw [wipe_get (by rw [hl]; exact hj), wipe_get hj]
    by_cases m : j ∈ vs
    · rw [if_pos m, if_pos m]
    · rw [if_neg m, if_neg m, o.2 j (fun h => m (hs j h)), wipe_get hj, if_neg m]
  · rw [List.getElem?_eq_none (by rw [L2.wipe_length, hl]; omega), List.getElem?_eq_none (by rw [L2.wipe_length]; omega)]
theorem lcL_gd {gd : Sto → Prop} {tg : IG} {t : IT} {e : IE} {ρ : Env} {items acc : List D} {S : Sto} {K : PySem.W.Frag} {g : G} {E : XK} {φ : List Addr} {H : Hp} {k : List D → Sto → List Addr → Hp → Prop} (h : post K g E φ H (lcL gd tg t e ρ items acc S) k) : gd S := by
  cases items with
  | nil =>
    unfold lcL at h
    split at h
    · assumption
    · exact h.elim
  | cons d r =>
    unfold lcL at h
    split at h
    · rename_i q
      exact q.1
    · exact h.elim
/-- a list beside the store is written -/
theorem Nx.beside {K : PySem.W.Frag} {g : G} {φ0 φ : List Addr} {H0 H : Hp} {S : Sto} {p : Addr} {vs ws : List V} (n : Nx K g φ0 H0 S φ H) (h0 : H0 p = none) (h : H p = some (.lst vs)) (hn : p ∉ φ) : Nx K g φ0 H0 S φ (upd H p (.lst ws)) := by
  have hw : Wr (H p) := by rw [h]; trivial
  have r := n.rep
  refine ⟨n.pre, ⟨r.len, fun i a c h1 h2 => (r.at_ i a c h1 h2).keep (List.prefix_refl _) (.upd hw) fun u e => ?_, r.nd, tabs_upd hw r.tabs⟩, n.tk.trans (.upd hw), fun b xs hb m => ?_⟩
  · rw [upd_ne]
    · exact e
    · rintro rfl
      exact hn (List.mem_of_getElem? h1)
  · obtain ⟨h1, h2⟩ := n.fr b xs hb m
    rw [upd_ne (ne_of_none hb h0)]
    exact ⟨h1, h2⟩
/-- the list of a comprehension stands beside the store -/
structure Beside (K : PySem.W.Frag) (g : G) (φ0 : List Addr) (H0 : Hp) (Dl : Addr) (acc : List D) (φ : List Addr) (S : Sto) (H : Hp) : Prop where
  nx : Nx K g φ0 H0 S φ H
  at_ : ∃ vs, H Dl = some (.lst vs) ∧ DRs K φ H acc vs
  out : Dl ∉ φ
theorem Beside.go {K : PySem.W.Frag} {g : G} {φ0 φ φ1 : List Addr} {H0 H H1 : Hp} {S S1 : Sto} {Dl : Addr} {acc : List D} (b : Beside K g φ0 H0 Dl acc φ S H) (n : Nx K g φ H S1 φ1 H1) : Beside K g φ0 H0 Dl acc φ1 S1 H1 := by
  obtain ⟨vs, h1, h2⟩ := b.at_
  obtain ⟨h3, h4⟩ := n.fr _ _ h1 b.out
  exact ⟨b.nx.trans n, ⟨vs, h3, n.drs h2⟩, h4⟩
section
variable {X : Cx} {g : G} {E : XK} {pos : Pos} {tg : Expr}
/-- the reading of a comprehension -/
theorem lc_read {K : PySem.W.Frag} {w : IW} {vt vs : List Nat} {tgf : IG} {t : IT} {e : IE} (hsub : ∀ j ∈ vt, j ∈ vs) {σ : L2.St} {H : Hp} {Q : VK} (h : tI K g E (iLc w tgf t e vs) σ H Q) : tLc (wI K g E w) (gI K g E0 vt tgf) (tIT K g E0 t) (tI K g E0 e) vs σ H Q := by
  obtain ⟨φ, ρ, S, er, rp, k⟩ := h
  refine ⟨φ, ρ, S, er, rp, k.bind.mono fun s S1 φ1 H1 _ _ ⟨r1, n1, k1⟩ J wk Dl hD => ?_⟩
  refine lc_it wk (fun i H => ∃ φ2 S2 acc, Beside K g φ1 H1 Dl acc φ2 S2 H ∧ post K g E φ1 H1 ((lcL s.gd tgf t e (wipeD ρ vs) (s.items.drop i) acc S2).bind fun ds S3 => .ok (.ref S3.length) (S3 ++ [.lst ds])) fun d _ φ' H' => ∀ v, DR K φ' H' d v → Q v H')
    ⟨φ1, S1, [], ⟨r1.side hD, ⟨[], upd_same, .nil⟩, r1.notin hD⟩, by simpa using k1⟩ ?_ ?_ ?_
  · rintro i H hi ⟨φ2, S2, acc, b, k2⟩
    exact ⟨φ2, S2, b.nx.pre, b.nx.tk, b.nx.rep, lcL_gd k2.bind⟩
  · rintro i x H H' hi ⟨φ2, S2, acc, b, k2⟩ ⟨hH, hy⟩
    have gd := lcL_gd k2.bind
    obtain ⟨d, hd, dx⟩ := hy φ2 S2 b.nx.pre b.nx.tk b.nx.rep gd
    have n3 : Nx K g φ2 H S2 φ2 H' := by
      rcases hH with rfl | ⟨T, us, hT, rfl⟩
      · exact .refl b.nx.rep
      · exact b.nx.rep.side hT
    have b3 := b.go n3
    have ed : s.items.drop i = d :: s.items.drop (i + 1) := by
      rw [List.drop_eq_getElem_cons hi]
      congr 1
      rw [List.getElem?_eq_getElem hi] at hd
      exact Option.some.inj hd
    rw [ed] at k2
    unfold lcL at k2
    split at k2
    · rename_i hl
      have er2 : ER K φ2 H' (wipeD ρ vs) (L2.wipe σ vs) := b3.nx.er ((n1.er er).wipe vs)
      have bnd : ∀ {α β γ : Type} (r : R α) (f : α → Sto → R β) (h : β → Sto → R γ), ((r.noX.bind f).bind h) = r.noX.bind fun a S => (f a S).bind h := fun r f h => by
        cases r <;> rfl
      rw [bnd] at k2
      refine ⟨φ2, _, S2, d, er2, b3.nx.rep, dx, post0 (post.weak b3.nx k2) fun ρ4 S4 φ4 H4 e4 n4 σ' er' o' => ⟨wipe_same o' hsub, ?_⟩⟩
      rw [e4] at k2
      have k4 : post K g E φ1 H1 (((t ρ4 S4).noX.bind fun b S2 => if b = true then (e ρ4 S2).noX.bind fun y S3 => lcL s.gd tgf t e (wipeD ρ vs) (s.items.drop (i + 1)) (acc ++ [y]) S3 else lcL s.gd tgf t e (wipeD ρ vs) (s.items.drop (i + 1)) acc S2).bind fun ds S3 => .ok (.ref S3.length) (S3 ++ [.lst ds])) (fun d _ φ' H' => ∀ v, DR K φ' H' d v → Q v H') := k2
      rw [bnd] at k4
      have b4 := b3.go n4
      refine ⟨φ4, ρ4, S4, er', n4.rep, post0 (post.weak b4.nx k4) fun tb S5 φ5 H5 e5 n5 => ?_⟩
      rw [e5] at k4
      have b5 := b4.go n5
      cases tb with
      | false =>
        rw [if_neg Bool.false_ne_true]
        exact ⟨φ5, S5, acc, b5, k4⟩
      | true =>
        rw [if_pos rfl]
        have k5 : post K g E φ1 H1 (((e ρ4 S5).noX.bind fun y S3 => lcL s.gd tgf t e (wipeD ρ vs) (s.items.drop (i + 1)) (acc ++ [y]) S3).bind fun ds S3 => .ok (.ref S3.length) (S3 ++ [.lst ds])) (fun d _ φ' H' => ∀ v, DR K φ' H' d v → Q v H') := k4
        rw [bnd] at k5
        refine ⟨φ5, ρ4, S5, n5.er er', n5.rep, post0 (post.weak b5.nx k5) fun y S6 φ6 H6 e6 n6 v dv => ?_⟩
        rw [e6] at k5
        have b6 := b5.go n6
        obtain ⟨us, h7, h8⟩ := b6.at_
        have n7 := b6.nx.beside (ws := us ++ [v]) hD h7 b6.out
        have hw : Wr (H6 Dl) := by rw [h7]; trivial
        exact ⟨us, h7, by rw [h8.length]; exact lim_lt hl.2, φ6, S6, acc ++ [y], ⟨n7, ⟨us ++ [v], upd_same, (h8.append (.cons dv .nil)).mono (List.prefix_refl _) (.upd hw)⟩, b6.out⟩, k5⟩
    · exact k2.elim
  · rintro H ⟨φ2, S2, acc, b, k2⟩
    have gd := lcL_gd k2.bind
    rw [List.drop_length] at k2
    unfold lcL at k2
    rw [if_pos gd] at k2
    obtain ⟨vs', h1, h2⟩ := b.at_
    have n2 := b.nx.adopt hD h1 b.out h2
    exact k2 _ _ n2 _ (dr_ref (by rw [← b.nx.rep.len]; simp))
theorem re_lc {elt iter : Expr} {ifs : List Expr} {scope : Scope} {own : List (Str × Nat)} {w : IW} {vt : List Nat} {tgf : IG} {t : IT} {e : IE} (hc : X.calm = true) (hN : X.N.Nodup) (hi : RI X g E tg iter w) (ok : BlkOk X.N X.env.scope scope own)
    (hg : ∀ (s : Shared) (H : Hp) (C : Addr) (cl : List (Str × Addr)) (fp : List Addr), RG (X.blk s H scope (compEnvC scope cl C X.env) fp) g E0 tg vt tgf) (ht : ∀ (s : Shared) (H : Hp) (C : Addr) (cl : List (Str × Addr)) (fp : List Addr), PTs (X.blk s H scope (compEnvC scope cl C X.env) fp) ifs (tIT X.K g E0 t))
    (he : ∀ (s : Shared) (H : Hp) (C : Addr) (cl : List (Str × Addr)) (fp : List Addr), RE (X.blk s H scope (compEnvC scope cl C X.env) fp) g E0 elt e) (hsub : ∀ j ∈ vt, j ∈ own.map (·.2) := by decide) (hs : ∀ x, foldedSetIterable iter X.env x = pure x := by intro _; rfl) :
    RE X g E (.ListComp elt [⟨tg, iter, ifs, 0⟩] scope pos) (iLc w tgf t e (own.map (·.2))) :=
  PE.imp (pe_lc hc hN hi ok hg ht he hs) fun σ H Q h => lc_read hsub h
theorem rs_lc {i : Nat} {y : Str} {py : Pos} {elt iter : Expr} {ifs : List Expr} {scope : Scope} {own : List (Str × Nat)} {spos : Pos} {w : IW} {vt : List Nat} {tgf : IG} {t : IT} {e : IE} (hc : X.calm = true) (hN : X.N.Nodup) (hy : X.N[i]? = some y) (hyl : X.env.scope.names.lookup y = some .local)
    (hsw : swapsWith (.ListComp elt [⟨tg, iter, ifs, 0⟩] scope pos) (some (.Name y py)) spos.line X.env = pure true) (hi : RI X g E tg iter w) (ok : BlkOk X.N X.env.scope scope own)
    (hg : ∀ (s : Shared) (H : Hp) (C : Addr) (cl : List (Str × Addr)) (fp : List Addr), RG (X.blk s H scope (compEnvC scope cl C X.env) fp) g E0 tg vt tgf) (ht : ∀ (s : Shared) (H : Hp) (C : Addr) (cl : List (Str × Addr)) (fp : List Addr), PTs (X.blk s H scope (compEnvC scope cl C X.env) fp) ifs (tIT X.K g E0 t))
    (he : ∀ (s : Shared) (H : Hp) (C : Addr) (cl : List (Str × Addr)) (fp : List Addr), RE (X.blk s H scope (compEnvC scope cl C X.env) fp) g E0 elt e) (hsub : ∀ j ∈ vt, j ∈ own.map (·.2) := by decide) (hs : ∀ x, foldedSetIterable iter X.env x = pure x := by intro _; rfl) :
    RS X g E (.Assign [.Name y py] (.ListComp elt [⟨tg, iter, ifs, 0⟩] scope pos) spos) (sAsg (iLc w tgf t e (own.map (·.2))) (gN i)) := by
  refine PS.imp (ps_setLc hc hN hy hyl hsw hi ok hg ht he hs) fun Dn σ H ⟨φ, ρ, S, er, rp, k⟩ => lc_read hsub ⟨φ, ρ, S, er, rp, k.bind.mono fun d S1 φ1 H1 _ _ ⟨r1, n1, k1⟩ v dv => k1 φ1 H1 (.refl r1) _ ((n1.er er).set dv)⟩
theorem rts_nil : PTs X [] (tIT X.K g E0 tYesJ) := ⟨fun pins s σ H Q I ⟨φ, ρ, S, er, rp, k⟩ => (pts_nil (X := X)).run pins s σ H Q I (k φ H (.refl rp))⟩
theorem rts_one {c : Expr} {t : IT} (h : RT X g E0 c t) : PTs X [c] (tIT X.K g E0 t) := pts_one h
end

/-! ### a def's body -/
def runF (m : Nat) (body : IS) (ds : List D) (S : Sto) : R D := (body (ds.map some ++ List.replicate (m - ds.length) none) S).bind fun o S1 => match o with
  | .next _ => .ok .non S1
  | .ret d => .ok d S1
  | _ => .bad
section
variable {P : Program} {w : World} {K : PySem.W.Frag} {mg : Str → Option Value} {base : Heap} {g : G}
theorem er_start {φ : List Addr} {H : Hp} {N : List Str} {ds : List D} {vs : List V} (q : DRs K φ H ds vs) : ER K φ H (ds.map some ++ List.replicate (N.length - ds.length) none) (L2.start N vs) := by
  have hl := q.length
  refine ⟨by simp [L2.start, hl], fun i d e => ?_⟩
  by_cases hi : i < ds.length
  · rw [List.getElem?_append_left (by simpa using hi), List.getElem?_map] at e
    cases h : ds[i]? with
    | none => rw [h] at e; cases e
    | some d' =>
      rw [h] at e
      cases e
      obtain ⟨v, h1, h2⟩ := q.get h
      refine ⟨v, ?_, h2⟩
      unfold L2.start
      rw [List.getElem?_append_left (by simp [hl]; exact hi), List.getElem?_map, h1]
      rfl
  · rw [List.getElem?_append_right (by simpa using hi)] at e
    rw [List.getElem?_replicate] at e
    split at e <;> cases e
theorem fnI_mk {x : Str} {st : Stmt} {f : Addr} {fd : FuncData} {N ps : List Str} {k : Nat} {body : IS} (F : Fun K x x st f fd) (S : FnScope N ps (defScope st)) (hm : mg x = some (.ref f)) (hb : Binds K fd ps [])
    (hbody : ∀ (cdv : Value) (A : Around) (outer : List PySem.Env) (s : Shared) (H : Hp) (E : XK), At (cxOf (L2.CX P w) P w K mg base N x (defScope st) f cdv A outer s H E) E k → RSs (cxOf (L2.CX P w) P w K mg base N x (defScope st) f cdv A outer s H E) g E (defBody st) body) :
    FnI P w K mg base g x (k + 1) ps.length (runF N.length body) := by
  refine ⟨f, fd, ps, F.okX S (fun vs H Q E h => h.1) (fun cdv A outer s H vs Q E hr h => ?_), hm, F.kp, hb⟩
  obtain ⟨hlen, φ, ds, St, q, rp, hp⟩ := h
  refine ⟨_, hbody cdv A outer s H E ⟨rfl, takes_of rfl rfl rfl rfl, hr, passes_of rfl⟩, ?_⟩
  refine ⟨φ, _, St, er_start q, rp, ?_⟩
  refine hp.bind.mono fun o S1 φ1 H1 _ _ ⟨r1, n1, k1⟩ => ?_
  cases o with
  | next ρ => exact fun σ' _ => k1 φ1 H1 (.refl r1) _ dr_non
  | ret d => exact fun v dv => k1 φ1 H1 (.refl r1) v dv
  | brk ρ => exact k1.elim
  | cont ρ => exact k1.elim
theorem FnI.mono {x : Str} {j k n : Nat} {F : List D → Sto → R D} (h : FnI P w K mg base g x j n F) (hj : j ≤ k) : FnI P w K mg base g x k n F := by
  obtain ⟨f, fd, ps, h1, h2⟩ := h.ex
  exact ⟨f, fd, ps, h1.mono hj, h2⟩
end
end J

set_option Elab.async false
set_option linter.all false
set_option maxRecDepth 100000
set_option maxHeartbeats 4000000
namespace J
open PySem PySem.Spec PyProof.Rows L2
/-! ### boots -/
theorem bb_len : bootBuiltins "len" = some (.builtin "len") := PySem.boot_len
theorem bb_abs : bootBuiltins "abs" = some (.builtin "abs") := by decide +kernel
theorem bb_max : bootBuiltins "max" = some (.builtin "max") := by decide +kernel
theorem bb_min : bootBuiltins "min" = some (.builtin "min") := by decide +kernel
theorem bb_sum : bootBuiltins "sum" = some (.builtin "sum") := by decide +kernel
theorem bb_all : bootBuiltins "all" = some (.builtin "all") := by decide +kernel
theorem bb_any : bootBuiltins "any" = some (.builtin "any") := by decide +kernel
theorem bb_isi : bootBuiltins "isinstance" = some (.builtin "isinstance") := by decide +kernel
theorem bb_sorted : bootBuiltins "sorted" = some (.builtin "sorted") := by decide +kernel
theorem bb_list : bootBuiltins "list" = some (.type "list") := by decide +kernel
theorem bb_tuple : bootBuiltins "tuple" = some (.type "tuple") := by decide +kernel
theorem bb_int : bootBuiltins "int" = some (.type "int") := by decide +kernel
theorem bb_bool : bootBuiltins "bool" = some (.type "bool") := by decide +kernel
theorem bb_str : bootBuiltins "str" = some (.type "str") := by decide +kernel
theorem bb_dict : bootBuiltins "dict" = some (.type "dict") := by decide +kernel

theorem call_strJ {X : Cx} : CallR X (.type "str") rStrJ := CallR.or call_str_int SkE.call_str_str
theorem ci_str {K : PySem.W.Frag} {g : G} : CallI K g rStrJ bStr := fun E φ S H ds vs Q r hd k => by
  match ds, k with
  | [.int i], k =>
    obtain ⟨v, rfl, dv⟩ := hd.one; obtain rfl := int_inv dv
    simp only [bStr] at k
    split at k
    · rename_i h
      exact .inl ⟨i, rfl, h, k.here r _ dr_str⟩
    · exact k.elim
  | [.str i], k => obtain ⟨v, rfl, dv⟩ := hd.one; obtain rfl := str_inv dv; exact .inr ⟨i, rfl, k.here r _ dr_str⟩
  | [], k => exact k.elim
  | d :: _ :: _, k => cases d <;> exact k.elim
  | [.non], k | [.bl _], k | [.ty _], k | [.rl _], k | [.tup _], k | [.ref _], k => exact k.elim
/-! list.count -/
theorem countU {x : V} : ∀ {ys : List V} {us : List Value}, Vals ys us → ys.all flatV = true → us.countP (eqU x) = ys.countP fun y => eqV y x
  | _, _, .nil, _ => rfl
  | y :: ys, u :: us, .cons r t, f => by
    rw [List.all_cons, Bool.and_eq_true] at f
    rw [List.countP_cons, List.countP_cons, countU t f.2, eqU_of r f.1]
def rCountJ (K : PySem.W.Frag) : V → List V → Hp → VK → Prop := fun x xs H Q => ∃ (a : Addr) (ys : List V) (y : V), x = V.ref a ∧ xs = [y] ∧ SqL K H a ys ∧ flatV y = true ∧ ys.all flatV = true ∧ Q (.int ((ys.countP fun z => eqV z y : Nat) : Int)) H
theorem mt_countJ {X : Cx} : MtR X "list.count" (rCountJ X.K) := by
  intro pins s σ H x xs v us Q I rx rxs h
  obtain ⟨a, ys, y, rfl, rfl, hs, fy, fys, q⟩ := h
  cases rx
  cases rxs with
  | cons ry rt =>
    rename_i uy ut
    cases rt
    obtain ⟨its, rv, ⟨⟨cls, dd, data, sl⟩, n, ho, hc, hdn, hd⟩, hlen⟩ := I.list hs
    simp only at hc hd
    subst hc hd
    rw [← countU rv fys] at q
    refine call_meets PySem.F.slot_list_count ⟨_, ho, rfl⟩ PySem.F.entry_list_count (PySem.F.args_list_count_2 _ _)
      (SeqAt.list_countAt a its.toArray n dd sl uy (eqU y)) ⟨ho, fun u' hu' => mem_eqAt ry fy rv fys u' (by simpa using hu'), ?_⟩
    exact ⟨.int _, H, I.tok _, ⟨_, rfl⟩, by simpa using q⟩
def mCount : D → List D → Sto → R D
  | .ref n, [d], S => match lstOf S n with
    | some xs => if flatD d = true ∧ xs.all flatD = true then .ok (.int ((xs.countP fun x => eqD x d : Nat) : Int)) S else .bad
    | none => .bad
  | _, _, _ => .bad
theorem countV_dr {K : PySem.W.Frag} {φ : List Addr} {H : Hp} {d : D} {x : V} (r : DR K φ H d x) (hd : flatD d = true) : ∀ {xs : List D} {vs : List V}, DRs K φ H xs vs → xs.all flatD = true → (vs.countP fun z => eqV z x) = (xs.countP fun z => eqD z d) ∧ vs.all flatV = true
  | [], _, q, _ => by rw [q.nil_inv]; exact ⟨rfl, rfl⟩
  | z :: xs, _, q, h => by
    obtain ⟨v, rs, rfl, q1, q2⟩ := q.cons_inv
    rw [List.all_cons, Bool.and_eq_true] at h
    obtain ⟨a, b⟩ := countV_dr r hd q2 h.2
    rw [List.countP_cons, List.countP_cons, a, eqV_dr q1 r h.1 hd, List.all_cons, flat_dr q1 h.1, b]
    exact ⟨rfl, rfl⟩
theorem mi_count {K : PySem.W.Frag} {g : G} : MI K g (rCountJ K) mCount := fun E φ S H d ds x vs Q r hd hv k => by
  by_cases h : ∃ n e, d = .ref n ∧ ds = [e]
  · obtain ⟨n, e, rfl, rfl⟩ := h
    obtain ⟨a, ha, rfl⟩ := ref_inv hd
    obtain ⟨v, rfl, dv⟩ := hv.one
    simp only [mCount] at k
    split at k
    · rename_i xs h1
      obtain ⟨us, e1, e2⟩ := r.lst h1 ha
      split at k
      · rename_i hf
        obtain ⟨c1, c2⟩ := countV_dr dv hf.1 e2 hf.2
        exact ⟨a, us, v, rfl, rfl, .of e1, flat_dr dv hf.1, c2, by rw [c1]; exact k.here r _ dr_int⟩
      · exact k.elim
    · exact k.elim
  · have e : mCount d ds S = .bad := by
      unfold mCount
      split
      · exact absurd ⟨_, _, rfl, rfl⟩ h
      · rfl
    rw [e] at k
    exact k.elim
def jChain (fo fo' : D → D → Sto → R D) (fa fb fc : IE) : IT := iB (iChain fo fo' fa fb fc)
section
variable {X : Cx} {g : G} {E : XK} {pos : Pos}
theorem rss_never : ∀ {sts : List Stmt}, RSs X g E sts sNever
  | [] => PSs.imp pss_nil fun Dn σ H ⟨φ, ρ, S, er, rp, k⟩ => k.elim
  | _ :: _ => PSs.imp (rss_cons (X := X) (g := g) (E := E) (f := sNever) (h := sNever) rs_never rss_never) fun Dn σ H ⟨φ, ρ, S, er, rp, k⟩ => k.elim
theorem rt_chain {op op' : CmpOp} {r r' : R2} {fo fo' : D → D → Sto → R D} {a b c : Expr} {fa fb fc : IE} (ho : OpR X (compareOp op) r) (hi : OpI X.K g r fo) (ho' : OpR X (compareOp op') r') (hi' : OpI X.K g r' fo') (ha : RE X g E a fa) (hb : RE X g E b fb) (hc : RE X g E c fc)
    (hm : lastMarks [op, op'] [b, c] = false := by rfl) : RT X g E (.Compare a [op, op'] [b, c] pos) (jChain fo fo' fa fb fc) :=
  PT.imp (pt_chain ho ho' ha hb hc hm) fun σ H Q ⟨φ, ρ, S, er, rp, k⟩ => ⟨φ, ρ, S, er, rp, k.bind.bind.mono fun d S1 φ1 H1 _ _ ⟨r1, n1, k1⟩ v dv => ⟨φ1, ρ, S1, n1.er er, r1, k1.bind.mono fun e S2 φ2 H2 _ _ ⟨r2, n2, k2⟩ w dw =>
    hi E φ2 S2 H2 d e v w _ r2 (n2.dr dv) dw (k2.bind.mono fun z S3 φ3 H3 _ _ ⟨r3, n3, k3⟩ v3 d3 => by
      obtain ⟨bb, rfl⟩ : ∃ bb, z = .bl bb := by
        cases z <;> first | exact k3.elim | exact ⟨_, rfl⟩
      obtain rfl := bl_inv d3
      refine ⟨_, rfl, ?_⟩
      dsimp only at k3
      cases bb with
      | false =>
        rw [if_neg Bool.false_ne_true] at k3 ⊢
        exact ⟨_, rfl, (k3.here r3).2.2 φ3 H3 (.refl r3)⟩
      | true =>
        rw [if_pos rfl] at k3 ⊢
        exact ⟨φ3, ρ, S3, n3.er (n2.er (n1.er er)), r3, k3.bind.mono fun z4 S4 φ4 H4 _ _ ⟨r4, n4, k4⟩ w4 d4 => hi' E φ4 S4 H4 _ _ _ _ _ r4 (n4.dr (n3.dr dw)) d4 (k4.mono fun z5 S5 φ5 H5 _ n5 k5 v5 d5 => by
          obtain ⟨b5, rfl⟩ : ∃ bb, z5 = .bl bb := by
            cases z5 <;> first | exact k5.2.2.elim | exact ⟨_, rfl⟩
          obtain rfl := bl_inv d5
          exact ⟨_, rfl, k5.2.2 φ5 H5 (.refl n5.rep)⟩)⟩)⟩⟩
end
/-! ### a def of the text -/
structure DefAt (K : PySem.W.Frag) (x : Str) (st : Stmt) : Prop where
  ex : ∃ (f : Addr) (oc : Value) (od : Option Addr) (kV dc pm : Value) (an : Option Addr) (cd ct : Value) (sl : Array (Option Value)),
    PySem.W.nsIn K mainGlobals x = some (some (.ref f)) ∧ K.lookup f = some ⟨oc, od, .func (PySem.W.fnOf x x (defArgs st) (defBody st) (defScope st) .none kV dc pm an cd ct), sl⟩ ∧ PySem.W.codeIn K cd x = true ∧ PySem.W.keepIn K (.ref f) = true
theorem DefAt.mk' {K : PySem.W.Frag} {x : Str} {st : Stmt} {f : Addr} {oc : Value} {od : Option Addr} {kV dc pm : Value} {an : Option Addr} {cd ct : Value} {sl : Array (Option Value)} (a : PySem.W.nsIn K mainGlobals x = some (some (.ref f)))
    (l : K.lookup f = some ⟨oc, od, .func (PySem.W.fnOf x x (defArgs st) (defBody st) (defScope st) .none kV dc pm an cd ct), sl⟩) (c : PySem.W.codeIn K cd x = true) (k : PySem.W.keepIn K (.ref f) = true) : DefAt K x st := ⟨f, oc, od, kV, dc, pm, an, cd, ct, sl, a, l, c, k⟩
structure DefM (K : PySem.W.Frag) (mg : Str → Option Value) (x : Str) (st : Stmt) : Prop where
  ex : ∃ f fd, Fun K x x st f fd ∧ mg x = some (.ref f)
theorem DefAt.m {K : PySem.W.Frag} {mg : Str → Option Value} {h : Heap} {x : Str} {st : Stmt} (d : DefAt K x st) (X : K.In h) (G : h.Ns mainGlobals mg) : DefM K mg x st := by
  obtain ⟨f, oc, od, kV, dc, pm, an, cd, ct, sl, a, l, c, k⟩ := d.ex
  exact ⟨f, _, fun_mk l c k, PySem.W.mg_of X G a⟩
/-- how a def's arguments bind -/
def BindOk (x : Str) (st : Stmt) (ps : List Str) : Prop := ∀ (kV doc pm : Value) (an : Option Addr) (cdv ct : Value) (us : List Value), us.length = ps.length → bindArgs (PySem.W.fnOf x x (defArgs st) (defBody st) (defScope st) .none kV doc pm an cdv ct) ⟨us, []⟩ = pure (ps.zip us)
section
variable {P : Program} {w : World} {K : PySem.W.Frag} {mg : Str → Option Value} {base : Heap} {g : G}
theorem fnI_of {x : Str} {st : Stmt} {N ps : List Str} {k : Nat} {body : IS} (F : DefM K mg x st) (S : FnScope N ps (defScope st)) (hb : BindOk x st ps)
    (hbody : ∀ (f : Addr) (cdv : Value) (A : Around) (outer : List PySem.Env) (s : Shared) (H : Hp) (E : XK), At (cxOf (L2.CX P w) P w K mg base N x (defScope st) f cdv A outer s H E) E k → RSs (cxOf (L2.CX P w) P w K mg base N x (defScope st) f cdv A outer s H E) g E (defBody st) body) :
    FnI P w K mg base g x (k + 1) ps.length (runF N.length body) := by
  obtain ⟨f, fd, h1, h2⟩ := F.ex
  exact fnI_mk h1 S h2 (h1.binds hb) (hbody f)
theorem fnOk_mk {x : Str} {st : Stmt} {f : Addr} {fd : FuncData} {N ps : List Str} {k : Nat} {body : IS} (F : Fun K x x st f fd) (S : FnScope N ps (defScope st))
    (hbody : ∀ (f : Addr) (cdv : Value) (A : Around) (outer : List PySem.Env) (s : Shared) (H : Hp) (E : XK), At (cxOf (L2.CX P w) P w K mg base N x (defScope st) f cdv A outer s H E) E k → RSs (cxOf (L2.CX P w) P w K mg base N x (defScope st) f cdv A outer s H E) g E (defBody st) body) :
    FnOk P w K mg base (L2.CX P w) (k + 1) f fd ps (spI K g ps.length (runF N.length body)) := by
  refine F.okX S (fun vs H Q E h => h.1) (fun cdv A outer s H vs Q E hr h => ?_)
  obtain ⟨hlen, φ, ds, St, q, rp, hp⟩ := h
  refine ⟨_, hbody f cdv A outer s H E ⟨rfl, takes_of rfl rfl rfl rfl, hr, passes_of rfl⟩, ?_⟩
  refine ⟨φ, _, St, er_start q, rp, ?_⟩
  refine hp.bind.mono fun o S1 φ1 H1 _ _ ⟨r1, n1, k1⟩ => ?_
  cases o with
  | next ρ => exact fun σ' _ => k1 φ1 H1 (.refl r1) _ dr_non
  | ret d => exact fun v dv => k1 φ1 H1 (.refl r1) v dv
  | brk ρ => exact k1.elim
  | cont ρ => exact k1.elim
end
/-! ### the end of a law without lambdas -/
def g0 : G := ⟨[], fun _ => 0, fun _ => Str.empty⟩
theorem law_end {l : PySem.W.OpenLaw} {k : Nat} {q : Program} {loose : List Str} {XP : (Str → Option Value) → Heap → Prop} {YP : World → Heap → Prop} {d : DefRec} {K : Params → PySem.W.Frag} {x : Str} {st : Stmt} {F : List D → Sto → R D}
    (hn : l.most = some 63) (hdf : d.params.defaults = []) (hr : Room k callerA) (hd : d.name = ("law" : Str))
    (hY : ∀ (w : World) (h : Heap), YP w h → (K w.params).In h)
    (hD : ∀ (w : World) (h : Heap), (K w.params).In h → DefAt (K w.params) "law" st)
    (hb : ∀ (kV doc pm : Value) (an : Option Addr) (cdv ct : Value) (s : Shared) (u : Value), BindsTo s (PySem.W.fnOf "law" "law" (defArgs st) (defBody st) (defScope st) .none kV doc pm an cdv ct) ⟨[u], []⟩ [(x, u)])
    (hF : ∀ (w : World) (mg : Str → Option Value) (h : Heap), (K w.params).In h → h.Ns mainGlobals mg → ∀ (f : Addr) (fd : FuncData), Fun (K w.params) "law" "law" st f fd → ∀ base : Heap, FnOk l.prog w (K w.params) mg base (L2.CX l.prog w) k f fd [x] (spI (K w.params) g0 1 F))
    (hT : ∀ ns : List Int, ns.length ≤ 63 → (∀ z ∈ ns, Builtin.Int.intBits z ≤ 1048576) → ∃ S', F [.rl ns] [] = .ok (.bl true) S') :
    PySem.W.WalkO q loose XP YP l.row.toRowW d [] (fun f vs => PySem.call f vs) := by
  refine L2.walk_ofB (K := K) (n := 63) (k := k) (x := x) (CX := fun w => L2.CX l.prog w) (sp := fun w => spI (K w.params) g0 1 F) hn (by rw [sizeLine_eq]; decide) hdf hr hY ?_ ?_ ?_
  · intro w mg fa h KX G hmg
    obtain ⟨f, oc, od, kV, dc, pm, an, cd, ct, sl, a, lk, c, kk⟩ := (hD w h KX).ex
    have e := PySem.W.mg_of KX G a
    rw [hd] at hmg
    rw [hmg] at e
    injection e with e
    injection e with e
    subst e
    exact ⟨_, fun s u => hb kV dc pm an cd ct s u, fun base _ _ => hF w mg h KX G _ _ (fun_mk lk c kk) base⟩
  · intro w H a ns hl hbits hO hS
    have hp : SqP (K w.params) H a (ns.map V.int) := by
      rcases hS with (hS | ⟨o, hS⟩) | hS
      · rcases hO a with z | ⟨o, xs, z⟩
        · rw [hS] at z; cases z
        · rw [hS] at z; cases z
      · exact .inl ⟨o, hS⟩
      · exact .inr hS
    obtain ⟨S', hS'⟩ := hT ns hl hbits
    refine ⟨rfl, [], [.rl ns], [], .cons (by simp only [DR]; exact ⟨a, rfl, hp⟩) .nil, ⟨rfl, fun i a c h => by simp at h, List.nodup_nil, fun p hp => by cases hp⟩, ?_⟩
    rw [hS']
    exact fun φ' H' _ v dv => bl_inv dv
  · intro w H s e s' hc
    obtain ⟨_, _, _, _, _, _, _, _, _, _, _, _, z⟩ := hc
    exact z
end J

set_option Elab.async false
set_option linter.all false
set_option maxRecDepth 100000
set_option maxHeartbeats 4000000
namespace J
open PySem PySem.Spec PyProof.Rows L2
/-! ### steps found by the shape of what is wanted -/
class St (P : Prop) (Q : outParam Prop) : Prop where
  st : Q → P
class St2 (P : Prop) (A B : outParam Prop) : Prop where
  st : A → B → P
/-! ### what a run leads to -/
@[irreducible] def wp {α : Type} (r : R α) (Q : α → Sto → Prop) (X : Str → Sto → Prop) : Prop := match r with
  | .ok a S => Q a S
  | .exc c S => X c S
  | .bad => False
section
section
variable {α β : Type} {Q : α → Sto → Prop} {X : Str → Sto → Prop} {S : Sto} {ρ : Env}
theorem wp_ok {a : α} (h : Q a S) : wp (.ok a S) Q X := by
  with_unfolding_all
    exact h
instance i_wp_ok {a : α} : St (wp (.ok a S) Q X) (Q a S) := ⟨fun h => wp_ok h⟩
theorem wp_exc {c : Str} (h : X c S) : wp (α := α) (.exc c S) Q X := by
  with_unfolding_all
    exact h
theorem wp_bind {r : R β} {f : β → Sto → R α} (h : wp r (fun b S1 => wp (f b S1) Q X) X) : wp (r.bind f) Q X := by
  with_unfolding_all
    cases r <;> exact h
instance i_wp_bind {r : R β} {f : β → Sto → R α} : St (wp (r.bind f) Q X) (wp r (fun b S1 => wp (f b S1) Q X) X) := ⟨fun h => wp_bind h⟩
theorem wp_bind_inv {r : R β} {f : β → Sto → R α} (h : wp (r.bind f) Q X) : wp r (fun b S1 => wp (f b S1) Q X) X := by
  with_unfolding_all
    cases r <;> exact h
theorem wp_mono {r : R α} {Q' : α → Sto → Prop} {X' : Str → Sto → Prop} (h : wp r Q' X') (q : ∀ a S, Q' a S → Q a S) (x : ∀ c S, X' c S → X c S) : wp r Q X := by
  with_unfolding_all
    cases r with
    | ok a S => exact q a S h
    | exc c S => exact x c S h
    | bad => exact h
theorem wp_eq {r : R α} {a : α} {S' : Sto} (h : r = .ok a S') (q : Q a S') : wp r Q X := by with_unfolding_all (rw [h]; exact q)
theorem wp_eqx {r : R α} {c : Str} {S' : Sto} (h : r = .exc c S') (q : X c S') : wp r Q X := by with_unfolding_all (rw [h]; exact q)
theorem wp_if {c : Prop} {_ : Decidable c} {x y : R α} (h1 : c → wp x Q X) (h2 : ¬ c → wp y Q X) : wp (if c then x else y) Q X := by
  with_unfolding_all
    split
    · exact h1 ‹_›
    · exact h2 ‹_›
theorem wp_ift {c : Prop} {_ : Decidable c} {x y : R α} (h : c) (h1 : wp x Q X) : wp (if c then x else y) Q X := by with_unfolding_all (rw [if_pos h]; exact h1)
theorem wp_ifd {c : Prop} {_ : Decidable c} {x y : R α} (h1 : c → wp x Q X) (h2 : ¬ c → wp y Q X) : wp (if decide c = true then x else y) Q X := by
  with_unfolding_all
    exact wp_if (fun h => h1 (by simpa using h)) (fun h => h2 (by simpa using h))
theorem wp_ifnd {c : Prop} {_ : Decidable c} {x y : R α} (h1 : c → wp y Q X) (h2 : ¬ c → wp x Q X) : wp (if (!decide c) = true then x else y) Q X := by
  with_unfolding_all
    exact wp_if (fun h => h2 (by simpa using h)) (fun h => h1 (by simpa using h))
theorem wp_ifT {x y : R α} (h1 : wp x Q X) : wp (if true = true then x else y) Q X := by
  with_unfolding_all
    exact h1
instance i_wp_ifT {x y : R α} : St (wp (if true = true then x else y) Q X) (wp x Q X) := ⟨fun h => wp_ifT h⟩
theorem wp_ifF {x y : R α} (h1 : wp y Q X) : wp (if false = true then x else y) Q X := by
  with_unfolding_all
    exact h1
instance i_wp_ifF {x y : R α} : St (wp (if false = true then x else y) Q X) (wp y Q X) := ⟨fun h => wp_ifF h⟩
theorem wp_ifnT {x y : R α} (h1 : wp y Q X) : wp (if (!true) = true then x else y) Q X := by
  with_unfolding_all
    exact h1
instance i_wp_ifnT {x y : R α} : St (wp (if (!true) = true then x else y) Q X) (wp y Q X) := ⟨fun h => wp_ifnT h⟩
theorem wp_ifnF {x y : R α} (h1 : wp x Q X) : wp (if (!false) = true then x else y) Q X := by
  with_unfolding_all
    exact h1
instance i_wp_ifnF {x y : R α} : St (wp (if (!false) = true then x else y) Q X) (wp x Q X) := ⟨fun h => wp_ifnF h⟩
theorem wp_ifnn {b : Bool} {x y : R α} (h1 : wp (if b = true then x else y) Q X) : wp (if (!!b) = true then x else y) Q X := by with_unfolding_all (simpa using h1)
instance i_wp_ifnn {b : Bool} {x y : R α} : St (wp (if (!!b) = true then x else y) Q X) (wp (if b = true then x else y) Q X) := ⟨fun h => wp_ifnn h⟩
end
section
variable {Q : D → Sto → Prop} {X : Str → Sto → Prop} {S : Sto} {ρ : Env} {fo : D → D → Sto → R D} {fa fb fc : IE} {fr : IA} {d : D}
theorem wp_iC (h : Q d S) : wp (iC d ρ S) Q X := by
  with_unfolding_all
    exact h
instance i_wp_iC  : St (wp (iC d ρ S) Q X) (Q d S) := ⟨fun h => wp_iC h⟩
theorem wp_iV {i : Nat} (e : ρ[i]? = some (some d)) (h : Q d S) : wp (iV i ρ S) Q X := by with_unfolding_all (unfold iV; rw [e]; exact h)
theorem wp_iBin (h : wp (fa ρ S) (fun d S1 => wp (fb ρ S1) (fun e S2 => wp (fo d e S2) Q X) X) X) : wp (iBin fo fa fb ρ S) Q X := by
  with_unfolding_all
    exact wp_bind (wp_mono h (fun _ _ h => wp_bind h) fun _ _ h => h)
instance i_wp_iBin  : St (wp (iBin fo fa fb ρ S) Q X) (wp (fa ρ S) (fun d S1 => wp (fb ρ S1) (fun e S2 => wp (fo d e S2) Q X) X) X) := ⟨fun h => wp_iBin h⟩
theorem wp_iUn {fu : D → Sto → R D} (h : wp (fa ρ S) (fun d S1 => wp (fu d S1) Q X) X) : wp (iUn fu fa ρ S) Q X := by
  with_unfolding_all
    exact wp_bind h
instance i_wp_iUn {fu : D → Sto → R D} : St (wp (iUn fu fa ρ S) Q X) (wp (fa ρ S) (fun d S1 => wp (fu d S1) Q X) X) := ⟨fun h => wp_iUn h⟩
theorem wp_iTup (h : wp (fr ρ S) (fun ds S1 => ds.length < LIM ∧ Q (.tup ds) S1) X) : wp (iTup fr ρ S) Q X := by
  with_unfolding_all
    exact wp_bind (wp_mono h (fun _ _ h => wp_ift h.1 h.2) fun _ _ h => h)
instance i_wp_iTup  : St (wp (iTup fr ρ S) Q X) (wp (fr ρ S) (fun ds S1 => ds.length < LIM ∧ Q (.tup ds) S1) X) := ⟨fun h => wp_iTup h⟩
theorem wp_iLst (h : wp (fr ρ S) (fun ds S1 => ds.length < LIM ∧ Q (.ref S1.length) (S1 ++ [.lst ds])) X) : wp (iLst fr ρ S) Q X := by
  with_unfolding_all
    exact wp_bind (wp_mono h (fun _ _ h => wp_ift h.1 h.2) fun _ _ h => h)
instance i_wp_iLst  : St (wp (iLst fr ρ S) Q X) (wp (fr ρ S) (fun ds S1 => ds.length < LIM ∧ Q (.ref S1.length) (S1 ++ [.lst ds])) X) := ⟨fun h => wp_iLst h⟩
theorem wp_aNil {Q : List D → Sto → Prop} (h : Q [] S) : wp (aNil ρ S) Q X := by
  with_unfolding_all
    exact h
instance i_wp_aNil {Q : List D → Sto → Prop} : St (wp (aNil ρ S) Q X) (Q [] S) := ⟨fun h => wp_aNil h⟩
theorem wp_aCons {Q : List D → Sto → Prop} (h : wp (fa ρ S) (fun d S1 => wp (fr ρ S1) (fun ds S2 => Q (d :: ds) S2) X) X) : wp (aCons fa fr ρ S) Q X := by
  with_unfolding_all
    exact wp_bind (wp_mono h (fun _ _ h => wp_bind h) fun _ _ h => h)
instance i_wp_aCons {Q : List D → Sto → Prop} : St (wp (aCons fa fr ρ S) Q X) (wp (fa ρ S) (fun d S1 => wp (fr ρ S1) (fun ds S2 => Q (d :: ds) S2) X) X) := ⟨fun h => wp_aCons h⟩
theorem wp_call {F : List D → Sto → R D} (h : wp (fr ρ S) (fun ds S1 => wp (F ds S1) Q X) X) : wp (iCallF F fr ρ S) Q X := by
  with_unfolding_all
    exact wp_bind h
instance i_wp_call {F : List D → Sto → R D} : St (wp (iCallF F fr ρ S) Q X) (wp (fr ρ S) (fun ds S1 => wp (F ds S1) Q X) X) := ⟨fun h => wp_call h⟩
/-- a value that is a truth value -/
def isB (Q : Bool → Sto → Prop) (d : D) (S : Sto) : Prop := match d with
  | .bl b => Q b S
  | _ => False
theorem isB_bl {Q : Bool → Sto → Prop} {b : Bool} (h : Q b S) : isB Q (.bl b) S := h
instance i_isB_bl {Q : Bool → Sto → Prop} {b : Bool} : St (isB Q (.bl b) S) (Q b S) := ⟨fun h => isB_bl h⟩
theorem wp_iB {Q : Bool → Sto → Prop} (h : wp (fa ρ S) (isB Q) X) : wp (iB fa ρ S) Q X := by
  with_unfolding_all
    exact wp_bind (wp_mono h (fun d S h => by cases d <;> exact h) fun _ _ h => h)
instance i_wp_iB {Q : Bool → Sto → Prop} : St (wp (iB fa ρ S) Q X) (wp (fa ρ S) (isB Q) X) := ⟨fun h => wp_iB h⟩
def isTru (Q : Bool → Sto → Prop) (d : D) (S : Sto) : Prop := ∃ b, tru S d = some b ∧ Q b S
theorem isTru_bl {Q : Bool → Sto → Prop} {b : Bool} (h : Q b S) : isTru Q (.bl b) S := ⟨b, rfl, h⟩
instance i_isTru_bl {Q : Bool → Sto → Prop} {b : Bool} : St (isTru Q (.bl b) S) (Q b S) := ⟨fun h => isTru_bl h⟩
theorem isTru_int {Q : Bool → Sto → Prop} {i : Int} (h : Q (!decide (i = 0)) S) : isTru Q (.int i) S := ⟨_, rfl, by
  have e : (i != 0) = !decide (i = 0) := by
    rw [Bool.eq_iff_iff]; simp
  rw [e]; exact h⟩
instance i_isTru_int {Q : Bool → Sto → Prop} {i : Int} : St (isTru Q (.int i) S) (Q (!decide (i = 0)) S) := ⟨fun h => isTru_int h⟩
theorem isTru_non {Q : Bool → Sto → Prop} (h : Q false S) : isTru Q .non S := ⟨_, rfl, h⟩
instance i_isTru_non {Q : Bool → Sto → Prop} : St (isTru Q .non S) (Q false S) := ⟨fun h => isTru_non h⟩
theorem lstOf_cell {n : Nat} {xs : List D} (e : lstOf S n = some xs) : S[n]? = some (.lst xs) := by
  unfold lstOf at e
  split at e
  · injection e with e; subst e; assumption
  · cases e
theorem isTru_ref {Q : Bool → Sto → Prop} {n : Nat} {xs : List D} (e : lstOf S n = some xs) (h : Q (!decide (xs = [])) S) : isTru Q (.ref n) S :=
  ⟨!xs.isEmpty, by simp only [tru, lstOf_cell e], by
    have e : (!xs.isEmpty) = !decide (xs = []) := by cases xs <;> simp
    rw [e]; exact h⟩
theorem isTru_tup {Q : Bool → Sto → Prop} {xs : List D} (h : Q (!decide (xs = [])) S) : isTru Q (.tup xs) S := ⟨!xs.isEmpty, rfl, by
  have e : (!xs.isEmpty) = !decide (xs = []) := by cases xs <;> simp
  rw [e]; exact h⟩
instance i_isTru_tup {Q : Bool → Sto → Prop} {xs : List D} : St (isTru Q (.tup xs) S) (Q (!decide (xs = [])) S) := ⟨fun h => isTru_tup h⟩
theorem wp_iTru {Q : Bool → Sto → Prop} (h : wp (fa ρ S) (isTru Q) X) : wp (iTru fa ρ S) Q X := by
  with_unfolding_all
    exact wp_bind (wp_mono h (fun d S ⟨b, e, h⟩ => by rw [e]; exact h) fun _ _ h => h)
instance i_wp_iTru {Q : Bool → Sto → Prop} : St (wp (iTru fa ρ S) Q X) (wp (fa ρ S) (isTru Q) X) := ⟨fun h => wp_iTru h⟩
variable {t t' : IT}
theorem wp_jAnd {Q : Bool → Sto → Prop} (h : wp (t ρ S) (fun b S1 => wp (if b = true then t' ρ S1 else .ok false S1) Q X) X) : wp (jAnd t t' ρ S) Q X := by
  with_unfolding_all
    exact wp_bind h
instance i_wp_jAnd {Q : Bool → Sto → Prop} : St (wp (jAnd t t' ρ S) Q X) (wp (t ρ S) (fun b S1 => wp (if b = true then t' ρ S1 else .ok false S1) Q X) X) := ⟨fun h => wp_jAnd h⟩
theorem wp_jOr {Q : Bool → Sto → Prop} (h : wp (t ρ S) (fun b S1 => wp (if b = true then .ok true S1 else t' ρ S1) Q X) X) : wp (jOr t t' ρ S) Q X := by
  with_unfolding_all
    exact wp_bind h
instance i_wp_jOr {Q : Bool → Sto → Prop} : St (wp (jOr t t' ρ S) Q X) (wp (t ρ S) (fun b S1 => wp (if b = true then .ok true S1 else t' ρ S1) Q X) X) := ⟨fun h => wp_jOr h⟩
theorem wp_jNot {Q : Bool → Sto → Prop} (h : wp (t ρ S) (fun b S1 => Q (!b) S1) X) : wp (jNot t ρ S) Q X := by
  with_unfolding_all
    exact wp_bind h
instance i_wp_jNot {Q : Bool → Sto → Prop} : St (wp (jNot t ρ S) Q X) (wp (t ρ S) (fun b S1 => Q (!b) S1) X) := ⟨fun h => wp_jNot h⟩
theorem wp_iAnd (h : wp (fa ρ S) (isB fun b S1 => wp (if b = true then fb ρ S1 else .ok (.bl false) S1) Q X) X) : wp (iAnd fa fb ρ S) Q X := by
  with_unfolding_all
    exact wp_bind (wp_mono h (fun d S h => by cases d <;> exact h) fun _ _ h => h)
instance i_wp_iAnd  : St (wp (iAnd fa fb ρ S) Q X) (wp (fa ρ S) (isB fun b S1 => wp (if b = true then fb ρ S1 else .ok (.bl false) S1) Q X) X) := ⟨fun h => wp_iAnd h⟩
theorem wp_iOr (h : wp (fa ρ S) (isB fun b S1 => wp (if b = true then .ok (.bl true) S1 else fb ρ S1) Q X) X) : wp (iOr fa fb ρ S) Q X := by
  with_unfolding_all
    exact wp_bind (wp_mono h (fun d S h => by cases d <;> exact h) fun _ _ h => h)
instance i_wp_iOr  : St (wp (iOr fa fb ρ S) Q X) (wp (fa ρ S) (isB fun b S1 => wp (if b = true then .ok (.bl true) S1 else fb ρ S1) Q X) X) := ⟨fun h => wp_iOr h⟩
theorem wp_iNot (h : wp (fa ρ S) (isB fun b S1 => Q (.bl (!b)) S1) X) : wp (iNot fa ρ S) Q X := by
  with_unfolding_all
    exact wp_bind (wp_mono h (fun d S h => by cases d <;> exact h) fun _ _ h => h)
instance i_wp_iNot  : St (wp (iNot fa ρ S) Q X) (wp (fa ρ S) (isB fun b S1 => Q (.bl (!b)) S1) X) := ⟨fun h => wp_iNot h⟩
theorem wp_iIf (h : wp (t ρ S) (fun b S1 => wp (if b = true then fa ρ S1 else fb ρ S1) Q X) X) : wp (iIf t fa fb ρ S) Q X := by
  with_unfolding_all
    exact wp_bind h
instance i_wp_iIf  : St (wp (iIf t fa fb ρ S) Q X) (wp (t ρ S) (fun b S1 => wp (if b = true then fa ρ S1 else fb ρ S1) Q X) X) := ⟨fun h => wp_iIf h⟩
theorem wp_iChain {fo' : D → D → Sto → R D} (h : wp (fa ρ S) (fun x S1 => wp (fb ρ S1) (fun y S2 => wp (fo x y S2) (isB fun b S3 => wp (if b = true then (fc ρ S3).bind fun w S4 => fo' y w S4 else .ok (.bl false) S3) Q X) X) X) X) : wp (iChain fo fo' fa fb fc ρ S) Q X := by
  with_unfolding_all
    exact wp_bind (wp_mono h (fun x S1 h => wp_bind (wp_mono h (fun y S2 h => wp_bind (wp_mono h (fun z S3 h => by cases z <;> exact h) fun _ _ h => h)) fun _ _ h => h)) fun _ _ h => h)
instance i_wp_iChain {fo' : D → D → Sto → R D} : St (wp (iChain fo fo' fa fb fc ρ S) Q X) (wp (fa ρ S) (fun x S1 => wp (fb ρ S1) (fun y S2 => wp (fo x y S2) (isB fun b S3 => wp (if b = true then (fc ρ S3).bind fun w S4 => fo' y w S4 else .ok (.bl false) S3) Q X) X) X) X) := ⟨fun h => wp_iChain h⟩
theorem wp_jChain {fo' : D → D → Sto → R D} {Q : Bool → Sto → Prop} (h : wp (iChain fo fo' fa fb fc ρ S) (isB Q) X) : wp (jChain fo fo' fa fb fc ρ S) Q X := by
  with_unfolding_all
    exact wp_iB h
instance i_wp_jChain {fo' : D → D → Sto → R D} {Q : Bool → Sto → Prop} : St (wp (jChain fo fo' fa fb fc ρ S) Q X) (wp (iChain fo fo' fa fb fc ρ S) (isB Q) X) := ⟨fun h => wp_jChain h⟩
theorem wp_iMeth {T : String} {fm : D → List D → Sto → R D} (h : wp (fa ρ S) (fun d S1 => tyName S1 d = some T ∧ wp (fr ρ S1) (fun ds S2 => wp (fm d ds S2) Q X) X) X) : wp (iMeth T fm fa fr ρ S) Q X := by
  with_unfolding_all
    exact wp_bind (wp_mono h (fun d S1 h => wp_ift h.1 (wp_bind h.2)) fun _ _ h => h)
instance i_wp_iMeth {T : String} {fm : D → List D → Sto → R D} : St (wp (iMeth T fm fa fr ρ S) Q X) (wp (fa ρ S) (fun d S1 => tyName S1 d = some T ∧ wp (fr ρ S1) (fun ds S2 => wp (fm d ds S2) Q X) X) X) := ⟨fun h => wp_iMeth h⟩
/-! operations -/
variable {i j : Int} {n m : Nat} {xs ys : List D}
theorem wp_add (h : Q (.int (i + j)) S) : wp (oAdd (.int i) (.int j) S) Q X := by
  with_unfolding_all
    exact h
instance i_wp_add  : St (wp (oAdd (.int i) (.int j) S) Q X) (Q (.int (i + j)) S) := ⟨fun h => wp_add h⟩
theorem wp_addI (h : Q (.int (i + j)) S) : wp (oAddI (.int i) (.int j) S) Q X := by
  with_unfolding_all
    exact h
instance i_wp_addI  : St (wp (oAddI (.int i) (.int j) S) Q X) (Q (.int (i + j)) S) := ⟨fun h => wp_addI h⟩
theorem wp_addL (e1 : lstOf S m = some xs) (e2 : lstOf S n = some ys) (hl : xs.length + ys.length < LIM) (h : Q (.ref S.length) (S ++ [.lst (xs ++ ys)])) : wp (oAdd (.ref m) (.ref n) S) Q X := by
  with_unfolding_all
    simp only [oAdd, e1, e2]; exact wp_ift hl h
theorem wp_addT (hl : xs.length + ys.length < LIM) (h : Q (.tup (xs ++ ys)) S) : wp (oAdd (.tup xs) (.tup ys) S) Q X := by
  with_unfolding_all
    exact wp_ift hl h
theorem wp_addS {x y : Str} (hl : x.length + y.length < LIM) (h : Q (.str (x ++ y)) S) : wp (oAdd (.str x) (.str y) S) Q X := by
  with_unfolding_all
    exact wp_ift hl h
theorem wp_sub (h : Q (.int (i - j)) S) : wp (oSub (.int i) (.int j) S) Q X := by
  with_unfolding_all
    exact h
instance i_wp_sub  : St (wp (oSub (.int i) (.int j) S) Q X) (Q (.int (i - j)) S) := ⟨fun h => wp_sub h⟩
theorem wp_mul (hl : mulOk i j) (h : Q (.int (i * j)) S) : wp (oMul (.int i) (.int j) S) Q X := by
  with_unfolding_all
    exact wp_ift hl h
instance i_wp_mul  : St2 (wp (oMul (.int i) (.int j) S) Q X) (mulOk i j) (Q (.int (i * j)) S) := ⟨fun a b => wp_mul a b⟩
theorem wp_mulL (e1 : lstOf S m = some xs) (hl : i < LIM ∧ -(LIM : Int) < i ∧ xs.length * i.toNat < LIM) (h : Q (.ref S.length) (S ++ [.lst (List.replicate i.toNat xs).flatten])) : wp (oMul (.ref m) (.int i) S) Q X := by
  with_unfolding_all
    simp only [oMul, e1]; exact wp_ift hl h
theorem wp_div (hl : divOk i j) (h : Q (.int (i / j)) S) : wp (oDiv (.int i) (.int j) S) Q X := by
  with_unfolding_all
    exact wp_ift hl h
instance i_wp_div  : St2 (wp (oDiv (.int i) (.int j) S) Q X) (divOk i j) (Q (.int (i / j)) S) := ⟨fun a b => wp_div a b⟩
theorem wp_mod (hl : 0 < j) (h : Q (.int (i % j)) S) : wp (oMod (.int i) (.int j) S) Q X := by
  with_unfolding_all
    exact wp_ift hl h
instance i_wp_mod  : St2 (wp (oMod (.int i) (.int j) S) Q X) (0 < j) (Q (.int (i % j)) S) := ⟨fun a b => wp_mod a b⟩
theorem wp_pow (hl : 0 ≤ j ∧ j ≤ 1000000 ∧ i.natAbs < 2 ^ 64) (h : Q (.int (i ^ j.toNat)) S) : wp (oPow (.int i) (.int j) S) Q X := by
  with_unfolding_all
    exact wp_ift hl h
theorem wp_p9 (h : Q (.int 1000000000) S) : wp (oPow (.int 10) (.int 9) S) Q X := by
  with_unfolding_all
    exact wp_pow (by decide) h
instance i_wp_p9  : St (wp (oPow (.int 10) (.int 9) S) Q X) (Q (.int 1000000000) S) := ⟨fun h => wp_p9 h⟩
theorem wp_p18 (h : Q (.int 1000000000000000000) S) : wp (oPow (.int 10) (.int 18) S) Q X := by
  with_unfolding_all
    exact wp_pow (by decide) h
instance i_wp_p18  : St (wp (oPow (.int 10) (.int 18) S) Q X) (Q (.int 1000000000000000000) S) := ⟨fun h => wp_p18 h⟩
theorem wp_p24 (h : Q (.int 1000000000000000000000000) S) : wp (oPow (.int 10) (.int 24) S) Q X := by
  with_unfolding_all
    exact wp_pow (by decide) h
instance i_wp_p24  : St (wp (oPow (.int 10) (.int 24) S) Q X) (Q (.int 1000000000000000000000000) S) := ⟨fun h => wp_p24 h⟩
theorem wp_p30 (h : Q (.int 1000000000000000000000000000000) S) : wp (oPow (.int 10) (.int 30) S) Q X := by
  with_unfolding_all
    exact wp_pow (by decide) h
instance i_wp_p30  : St (wp (oPow (.int 10) (.int 30) S) Q X) (Q (.int 1000000000000000000000000000000) S) := ⟨fun h => wp_p30 h⟩
theorem wp_p60 (h : Q (.int 1000000000000000000000000000000000000000000000000000000000000) S) : wp (oPow (.int 10) (.int 60) S) Q X := by
  with_unfolding_all
    exact wp_pow (by decide) h
instance i_wp_p60  : St (wp (oPow (.int 10) (.int 60) S) Q X) (Q (.int 1000000000000000000000000000000000000000000000000000000000000) S) := ⟨fun h => wp_p60 h⟩
theorem wp_neg (h : Q (.int (-i)) S) : wp (oNeg (.int i) S) Q X := by
  with_unfolding_all
    exact h
instance i_wp_neg  : St (wp (oNeg (.int i) S) Q X) (Q (.int (-i)) S) := ⟨fun h => wp_neg h⟩
theorem wp_lt (h : Q (.bl (decide (i < j))) S) : wp (oLt (.int i) (.int j) S) Q X := by
  with_unfolding_all
    exact h
instance i_wp_lt  : St (wp (oLt (.int i) (.int j) S) Q X) (Q (.bl (decide (i < j))) S) := ⟨fun h => wp_lt h⟩
theorem wp_le (h : Q (.bl (decide (i ≤ j))) S) : wp (oLe (.int i) (.int j) S) Q X := by
  with_unfolding_all
    exact h
instance i_wp_le  : St (wp (oLe (.int i) (.int j) S) Q X) (Q (.bl (decide (i ≤ j))) S) := ⟨fun h => wp_le h⟩
theorem wp_gt (h : Q (.bl (decide (j < i))) S) : wp (oGt (.int i) (.int j) S) Q X := by
  with_unfolding_all
    exact h
instance i_wp_gt  : St (wp (oGt (.int i) (.int j) S) Q X) (Q (.bl (decide (j < i))) S) := ⟨fun h => wp_gt h⟩
theorem wp_ge (h : Q (.bl (decide (j ≤ i))) S) : wp (oGe (.int i) (.int j) S) Q X := by
  with_unfolding_all
    exact h
instance i_wp_ge  : St (wp (oGe (.int i) (.int j) S) Q X) (Q (.bl (decide (j ≤ i))) S) := ⟨fun h => wp_ge h⟩
theorem wp_isN (h : Q (.bl (isNon d)) S) : wp (oIs d .non S) Q X := by with_unfolding_all (cases d <;> exact h)
theorem wp_isNotN (h : Q (.bl (!isNon d)) S) : wp (oIsNot d .non S) Q X := by with_unfolding_all (cases d <;> exact h)
theorem eqv_int {i j : Int} : PyData.eqv (.int i) (.int j) = decide (i = j) := by
  rw [Bool.eq_iff_iff]; simp [PyData.eqv]
theorem wp_eqI (h : Q (.bl (decide (i = j))) S) : wp (oEq (.int i) (.int j) S) Q X := by
  with_unfolding_all
    have e : oEq (.int i) (.int j) S = .ok (.bl (decide (i = j))) S := by rw [← eqv_int]; rfl
    exact wp_eq e h
instance i_wp_eqI  : St (wp (oEq (.int i) (.int j) S) Q X) (Q (.bl (decide (i = j))) S) := ⟨fun h => wp_eqI h⟩
theorem wp_neI (h : Q (.bl (!decide (i = j))) S) : wp (oNe (.int i) (.int j) S) Q X := by
  with_unfolding_all
    have e : oNe (.int i) (.int j) S = .ok (.bl (!decide (i = j))) S := by rw [← eqv_int]; rfl
    exact wp_eq e h
instance i_wp_neI  : St (wp (oNe (.int i) (.int j) S) Q X) (Q (.bl (!decide (i = j))) S) := ⟨fun h => wp_neI h⟩
theorem wp_eqD {e : D} {a b : PyData} (h1 : toP 8 S d = some a) (h2 : toP 8 S e = some b) (h : Q (.bl (PyData.eqv a b)) S) : wp (oEq d e S) Q X := by
  with_unfolding_all
    simp only [oEq, h1, h2]; exact h
theorem wp_neD {e : D} {a b : PyData} (h1 : toP 8 S d = some a) (h2 : toP 8 S e = some b) (h : Q (.bl (!PyData.eqv a b)) S) : wp (oNe d e S) Q X := by
  with_unfolding_all
    simp only [oNe, h1, h2]; exact h
theorem wp_ixL (e : lstOf S n = some xs) (e2 : atI xs i = some d) (h : Q d S) : wp (oIx (.ref n) (.int i) S) Q X := by
  with_unfolding_all
    simp only [oIx, e, e2]; exact h
theorem wp_ixT (e2 : atI xs i = some d) (h : Q d S) : wp (oIx (.tup xs) (.int i) S) Q X := by
  with_unfolding_all
    simp only [oIx, e2]; exact h
theorem wp_ixR {ns : List Int} (e2 : atI ns i = some j) (h : Q (.int j) S) : wp (oIx (.rl ns) (.int i) S) Q X := by
  with_unfolding_all
    simp only [oIx, e2]; exact h
theorem wp_iSl {fl fh : IO} (h : wp (fa ρ S) (fun d S1 => wp (fl ρ S1) (fun lo S2 => wp (fh ρ S2) (fun hi S3 => wp (oSl d lo hi S3) Q X) X) X) X) : wp (iSl fa fl fh ρ S) Q X := by
  with_unfolding_all
    exact wp_bind (wp_mono h (fun _ _ h => wp_bind (wp_mono h (fun _ _ h => wp_bind h) fun _ _ h => h)) fun _ _ h => h)
instance i_wp_iSl {fl fh : IO} : St (wp (iSl fa fl fh ρ S) Q X) (wp (fa ρ S) (fun d S1 => wp (fl ρ S1) (fun lo S2 => wp (fh ρ S2) (fun hi S3 => wp (oSl d lo hi S3) Q X) X) X) X) := ⟨fun h => wp_iSl h⟩
theorem wp_pNo {Q : Option Int → Sto → Prop} (h : Q none S) : wp (pNo ρ S) Q X := by
  with_unfolding_all
    exact h
instance i_wp_pNo {Q : Option Int → Sto → Prop} : St (wp (pNo ρ S) Q X) (Q none S) := ⟨fun h => wp_pNo h⟩
def isI (Q : Int → Sto → Prop) (d : D) (S : Sto) : Prop := match d with
  | .int b => Q b S
  | _ => False
theorem isI_int {Q : Int → Sto → Prop} {b : Int} (h : Q b S) : isI Q (.int b) S := h
instance i_isI_int {Q : Int → Sto → Prop} {b : Int} : St (isI Q (.int b) S) (Q b S) := ⟨fun h => isI_int h⟩
theorem wp_pSo {Q : Option Int → Sto → Prop} (h : wp (fa ρ S) (isI fun i S1 => Q (some i) S1) X) : wp (pSo fa ρ S) Q X := by
  with_unfolding_all
    exact wp_bind (wp_mono h (fun d S h => by cases d <;> exact h) fun _ _ h => h)
instance i_wp_pSo {Q : Option Int → Sto → Prop} : St (wp (pSo fa ρ S) Q X) (wp (fa ρ S) (isI fun i S1 => Q (some i) S1) X) := ⟨fun h => wp_pSo h⟩
theorem wp_slL {lo hi : Option Int} (e : lstOf S n = some xs) (h : Q (.ref S.length) (S ++ [.lst (cutD xs lo hi)])) : wp (oSl (.ref n) lo hi S) Q X := by
  with_unfolding_all
    simp only [oSl, e]; exact h
theorem wp_slT {lo hi : Option Int} (h : Q (.tup (cutD xs lo hi)) S) : wp (oSl (.tup xs) lo hi S) Q X := by
  with_unfolding_all
    exact h
instance i_wp_slT {lo hi : Option Int} : St (wp (oSl (.tup xs) lo hi S) Q X) (Q (.tup (cutD xs lo hi)) S) := ⟨fun h => wp_slT h⟩
theorem wp_revL (e : lstOf S n = some xs) (h : Q (.ref S.length) (S ++ [.lst xs.reverse])) : wp (oRevL (.ref n) S) Q X := by
  with_unfolding_all
    simp only [oRevL, e]; exact h
theorem wp_lenL (e : lstOf S n = some xs) (h : Q (.int xs.length) S) : wp (bLen [.ref n] S) Q X := by
  with_unfolding_all
    unfold bLen; simp only [seqOf, e]; exact h
theorem wp_lenR {ns : List Int} (h : Q (.int ns.length) S) : wp (bLen [.rl ns] S) Q X := by
  with_unfolding_all
    unfold bLen; simp only [seqOf, List.length_map]; exact h
instance i_wp_lenR {ns : List Int} : St (wp (bLen [.rl ns] S) Q X) (Q (.int ns.length) S) := ⟨fun h => wp_lenR h⟩
theorem wp_lenT (h : Q (.int xs.length) S) : wp (bLen [.tup xs] S) Q X := by
  with_unfolding_all
    exact h
instance i_wp_lenT  : St (wp (bLen [.tup xs] S) Q X) (Q (.int xs.length) S) := ⟨fun h => wp_lenT h⟩
theorem wp_lenS {x : Str} (hl : x.length < LIM) (h : Q (.int x.length) S) : wp (bLen [.str x] S) Q X := by
  with_unfolding_all
    exact wp_ift hl h
theorem wp_abs (h : Q (.int (if i < 0 then -i else i)) S) : wp (bAbs [.int i] S) Q X := by
  with_unfolding_all
    exact h
instance i_wp_abs  : St (wp (bAbs [.int i] S) Q X) (Q (.int (if i < 0 then -i else i)) S) := ⟨fun h => wp_abs h⟩
theorem wp_max (h : Q (.int (if j > i then j else i)) S) : wp (bMax [.int i, .int j] S) Q X := by
  with_unfolding_all
    exact h
instance i_wp_max  : St (wp (bMax [.int i, .int j] S) Q X) (Q (.int (if j > i then j else i)) S) := ⟨fun h => wp_max h⟩
theorem wp_min (h : Q (.int (if j < i then j else i)) S) : wp (bMin [.int i, .int j] S) Q X := by
  with_unfolding_all
    exact h
instance i_wp_min  : St (wp (bMin [.int i, .int j] S) Q X) (Q (.int (if j < i then j else i)) S) := ⟨fun h => wp_min h⟩
theorem wp_sumR {ns : List Int} (h : Q (.int ns.sum) S) : wp (bSum [.rl ns] S) Q X := by
  with_unfolding_all
    exact h
instance i_wp_sumR {ns : List Int} : St (wp (bSum [.rl ns] S) Q X) (Q (.int ns.sum) S) := ⟨fun h => wp_sumR h⟩
theorem mapM_int {ns : List Int} : (ns.map D.int).mapM asInt = some ns := by
  induction ns with
  | nil => rfl
  | cons a r ih => simp only [List.map_cons, List.mapM_cons, ih, asInt]; rfl
theorem wp_sumL {ns : List Int} (e : lstOf S n = some (ns.map D.int)) (h : Q (.int ns.sum) S) : wp (bSum [.ref n] S) Q X := by
  with_unfolding_all
    simp only [bSum, e, Option.bind_some, mapM_int]; exact h
theorem mapM_bl {ns : List Bool} : (ns.map D.bl).mapM asBl = some ns := by
  induction ns with
  | nil => rfl
  | cons a r ih => simp only [List.map_cons, List.mapM_cons, ih, asBl]; rfl
theorem wp_all {ns : List Bool} (e : lstOf S n = some (ns.map D.bl)) (h : Q (.bl (ns.all id)) S) : wp (bAll [.ref n] S) Q X := by
  with_unfolding_all
    simp only [bAll, e, Option.bind_some, mapM_bl]; exact h
theorem wp_any {ns : List Bool} (e : lstOf S n = some (ns.map D.bl)) (h : Q (.bl (ns.any id)) S) : wp (bAny [.ref n] S) Q X := by
  with_unfolding_all
    simp only [bAny, e, Option.bind_some, mapM_bl]; exact h
theorem wp_listL (e : lstOf S n = some xs) (h : Q (.ref S.length) (S ++ [.lst xs])) : wp (bList [.ref n] S) Q X := by
  with_unfolding_all
    simp only [bList, e]; exact h
theorem wp_listT (h : Q (.ref S.length) (S ++ [.lst xs])) : wp (bList [.tup xs] S) Q X := by
  with_unfolding_all
    exact h
theorem wp_tupL (e : lstOf S n = some xs) (h : Q (.tup xs) S) : wp (bTuple [.ref n] S) Q X := by
  with_unfolding_all
    simp only [bTuple, e]; exact h
theorem wp_tupT (h : Q (.tup xs) S) : wp (bTuple [.tup xs] S) Q X := by
  with_unfolding_all
    exact h
theorem wp_isi {nm : String} {b : Bool} (e : (tyName S d).bind (fun t => isiT t nm) = some b) (h : Q (.bl b) S) : wp (bIsi [d, .ty nm] S) Q X := by
  with_unfolding_all
    simp only [bIsi, e]; exact h
theorem wp_append (e : lstOf S n = some xs) (hl : xs.length < LIM) (h : Q .non (setL S n (xs ++ [d]))) : wp (mAppend (.ref n) [d] S) Q X := by
  with_unfolding_all
    simp only [mAppend, e]; exact wp_ift hl h
theorem lstOf_new {c : List D} : lstOf (S ++ [.lst c]) S.length = some c := by simp [lstOf]
theorem lstOf_lt (h : lstOf S n = some xs) : n < S.length := by
  unfold lstOf at h
  by_cases q : n < S.length
  · exact q
  · rw [List.getElem?_eq_none (by omega)] at h; cases h
theorem lstOf_old {T : Sto} (h : lstOf S n = some xs) : lstOf (S ++ T) n = some xs := by
  have q := lstOf_lt h
  unfold lstOf at h ⊢
  rw [List.getElem?_append_left q]; exact h
theorem setL_new {c c' : List D} : setL (S ++ [.lst c]) S.length c' = S ++ [.lst c'] := by simp [setL]
theorem lstOf_set (h : n < S.length) : lstOf (setL S n xs) n = some xs := by simp [lstOf, setL, h]
theorem lstOf_set_ne (h : m ≠ n) : lstOf (setL S m xs) n = lstOf S n := by simp [lstOf, setL, List.getElem?_set, h]
theorem setL_old {T : Sto} (h : n < S.length) : setL (S ++ T) n xs = setL S n xs ++ T := by simp [setL, List.set_append, h]
theorem setL_len : (setL S n xs).length = S.length := by simp [setL]
theorem setL_setL : setL (setL S n xs) n ys = setL S n ys := by simp [setL]
theorem wp_appendN {c : List D} (hl : c.length < LIM) (h : Q .non (S ++ [.lst (c ++ [d])])) : wp (mAppend (.ref S.length) [d] (S ++ [.lst c])) Q X := by
  with_unfolding_all
    exact wp_append lstOf_new hl (by rw [setL_new]; exact h)
instance i_wp_appendN {c : List D} : St2 (wp (mAppend (.ref S.length) [d] (S ++ [.lst c])) Q X) (c.length < LIM) (Q .non (S ++ [.lst (c ++ [d])])) := ⟨fun a b => wp_appendN a b⟩
theorem tyN_ref (e : lstOf S n = some xs) : tyName S (.ref n) = some "list" := by
  simp only [tyName, lstOf_cell e]
end
section
variable {Q : Fl → Sto → Prop} {X : Str → Sto → Prop} {S : Sto} {ρ : Env} {fa fb : IE} {f h : IS} {t : IG} {c : IT}
def seqK (h : IS) (Q : Fl → Sto → Prop) (X : Str → Sto → Prop) : Fl → Sto → Prop
  | .next ρ, S => wp (h ρ S) Q X
  | o, S => Q o S
theorem seqK_n (w : wp (h ρ S) Q X) : seqK h Q X (.next ρ) S := by
  with_unfolding_all
    exact w
instance i_seqK_n  : St (seqK h Q X (.next ρ) S) (wp (h ρ S) Q X) := ⟨fun h => seqK_n h⟩
theorem seqK_r {d : D} (w : Q (.ret d) S) : seqK h Q X (.ret d) S := w
instance i_seqK_r {d : D} : St (seqK h Q X (.ret d) S) (Q (.ret d) S) := ⟨fun h => seqK_r h⟩
theorem seqK_b (w : Q (.brk ρ) S) : seqK h Q X (.brk ρ) S := w
instance i_seqK_b  : St (seqK h Q X (.brk ρ) S) (Q (.brk ρ) S) := ⟨fun h => seqK_b h⟩
theorem seqK_c (w : Q (.cont ρ) S) : seqK h Q X (.cont ρ) S := w
instance i_seqK_c  : St (seqK h Q X (.cont ρ) S) (Q (.cont ρ) S) := ⟨fun h => seqK_c h⟩
theorem wp_sSkip (w : Q (.next ρ) S) : wp (sSkip ρ S) Q X := by
  with_unfolding_all
    exact w
instance i_wp_sSkip  : St (wp (sSkip ρ S) Q X) (Q (.next ρ) S) := ⟨fun h => wp_sSkip h⟩
theorem wp_sSeq (w : wp (f ρ S) (seqK h Q X) X) : wp (sSeq f h ρ S) Q X := by
  with_unfolding_all
    exact wp_bind (wp_mono w (fun o S w => by cases o <;> exact w) fun _ _ h => h)
instance i_wp_sSeq  : St (wp (sSeq f h ρ S) Q X) (wp (f ρ S) (seqK h Q X) X) := ⟨fun h => wp_sSeq h⟩
theorem wp_sDrop (w : wp (fa ρ S) (fun _ S1 => Q (.next ρ) S1) X) : wp (sDrop fa ρ S) Q X := by
  with_unfolding_all
    exact wp_bind w
instance i_wp_sDrop  : St (wp (sDrop fa ρ S) Q X) (wp (fa ρ S) (fun _ S1 => Q (.next ρ) S1) X) := ⟨fun h => wp_sDrop h⟩
theorem wp_sRet (w : wp (fa ρ S) (fun d S1 => Q (.ret d) S1) X) : wp (sRet fa ρ S) Q X := by
  with_unfolding_all
    exact wp_bind w
instance i_wp_sRet  : St (wp (sRet fa ρ S) Q X) (wp (fa ρ S) (fun d S1 => Q (.ret d) S1) X) := ⟨fun h => wp_sRet h⟩
theorem wp_sRetN (w : Q (.ret .non) S) : wp (sRetN ρ S) Q X := by
  with_unfolding_all
    exact w
instance i_wp_sRetN  : St (wp (sRetN ρ S) Q X) (Q (.ret .non) S) := ⟨fun h => wp_sRetN h⟩
theorem wp_sIf (w : wp (c ρ S) (fun b S1 => wp (if b = true then f ρ S1 else h ρ S1) Q X) X) : wp (sIf c f h ρ S) Q X := by
  with_unfolding_all
    exact wp_bind w
instance i_wp_sIf  : St (wp (sIf c f h ρ S) Q X) (wp (c ρ S) (fun b S1 => wp (if b = true then f ρ S1 else h ρ S1) Q X) X) := ⟨fun h => wp_sIf h⟩
theorem wp_sAsg (w : wp (fa ρ S) (fun d S1 => wp (t d ρ S1) (fun ρ1 S2 => Q (.next ρ1) S2) X) X) : wp (sAsg fa t ρ S) Q X := by
  with_unfolding_all
    exact wp_bind (wp_mono w (fun _ _ h => wp_bind h) fun _ _ h => h)
instance i_wp_sAsg  : St (wp (sAsg fa t ρ S) Q X) (wp (fa ρ S) (fun d S1 => wp (t d ρ S1) (fun ρ1 S2 => Q (.next ρ1) S2) X) X) := ⟨fun h => wp_sAsg h⟩
theorem wp_sPar {i j : Nat} (w : wp (fa ρ S) (fun d S1 => wp (fb ρ S1) (fun e S2 => Q (.next ((ρ.set i (some d)).set j (some e))) S2) X) X) : wp (sPar i j fa fb ρ S) Q X := by
  with_unfolding_all
    exact wp_bind (wp_mono w (fun _ _ h => wp_bind h) fun _ _ h => h)
instance i_wp_sPar {i j : Nat} : St (wp (sPar i j fa fb ρ S) Q X) (wp (fa ρ S) (fun d S1 => wp (fb ρ S1) (fun e S2 => Q (.next ((ρ.set i (some d)).set j (some e))) S2) X) X) := ⟨fun h => wp_sPar h⟩
theorem wp_sAug {i : Nat} {fo : D → D → Sto → R D} {d : D} (e : ρ[i]? = some (some d)) (w : wp (fa ρ S) (fun e S1 => wp (fo d e S1) (fun z S2 => Q (.next (ρ.set i (some z))) S2) X) X) : wp (sAug i fo fa ρ S) Q X := by
  with_unfolding_all
    unfold sAug; rw [e]; exact wp_bind (wp_mono w (fun _ _ h => wp_bind h) fun _ _ h => h)
variable {QE : Env → Sto → Prop} {d : D}
theorem wp_gN {i : Nat} (w : QE (ρ.set i (some d)) S) : wp (gN i d ρ S) QE X := by
  with_unfolding_all
    exact w
instance i_wp_gN {i : Nat} : St (wp (gN i d ρ S) QE X) (QE (ρ.set i (some d)) S) := ⟨fun h => wp_gN h⟩
theorem wp_gTuT {ts : List IG} {ds : List D} (e : ds.length = ts.length) (w : wp (gTs ts ds ρ S) QE X) : wp (gTu ts (.tup ds) ρ S) QE X := by
  with_unfolding_all
    exact wp_ift e w
theorem wp_gTuL {ts : List IG} {n : Nat} {ds : List D} (q : lstOf S n = some ds) (e : ds.length = ts.length) (w : wp (gTs ts ds ρ S) QE X) : wp (gTu ts (.ref n) ρ S) QE X := by
  with_unfolding_all
    simp only [gTu, q]; exact wp_ift e w
theorem wp_gTs0 (w : QE ρ S) : wp (gTs [] [] ρ S) QE X := by
  with_unfolding_all
    exact w
instance i_wp_gTs0  : St (wp (gTs [] [] ρ S) QE X) (QE ρ S) := ⟨fun h => wp_gTs0 h⟩
theorem wp_gTs1 {ts : List IG} {ds : List D} (w : wp (t d ρ S) (fun ρ1 S1 => wp (gTs ts ds ρ1 S1) QE X) X) : wp (gTs (t :: ts) (d :: ds) ρ S) QE X := by
  with_unfolding_all
    exact wp_bind w
instance i_wp_gTs1 {ts : List IG} {ds : List D} : St (wp (gTs (t :: ts) (d :: ds) ρ S) QE X) (wp (t d ρ S) (fun ρ1 S1 => wp (gTs ts ds ρ1 S1) QE X) X) := ⟨fun h => wp_gTs1 h⟩
def runK (Q : D → Sto → Prop) : Fl → Sto → Prop
  | .next _, S => Q .non S
  | .ret d, S => Q d S
  | _, _ => False
theorem runK_n {Q : D → Sto → Prop} (w : Q .non S) : runK Q (.next ρ) S := w
instance i_runK_n {Q : D → Sto → Prop} : St (runK Q (.next ρ) S) (Q .non S) := ⟨fun h => runK_n h⟩
theorem runK_r {Q : D → Sto → Prop} (w : Q d S) : runK Q (.ret d) S := w
instance i_runK_r {Q : D → Sto → Prop} : St (runK Q (.ret d) S) (Q d S) := ⟨fun h => runK_r h⟩
theorem wp_run {Q : D → Sto → Prop} {m : Nat} {ds : List D} (w : wp (f (ds.map some ++ List.replicate (m - ds.length) none) S) (runK Q) X) : wp (runF m f ds S) Q X := by
  with_unfolding_all
    exact wp_bind (wp_mono w (fun o S w => by cases o <;> exact w) fun _ _ h => h)
/-! sources -/
theorem wp_sFor {w : IW} (q : wp (w ρ S) (fun s S1 => wp (forL s.gd t f s.items ρ S1) Q X) X) : wp (sFor w t f ρ S) Q X := by
  with_unfolding_all
    exact wp_bind q
instance i_wp_sFor {w : IW} : St (wp (sFor w t f ρ S) Q X) (wp (w ρ S) (fun s S1 => wp (forL s.gd t f s.items ρ S1) Q X) X) := ⟨fun h => wp_sFor h⟩
def seqS (Q : Src → Sto → Prop) (d : D) (S : Sto) : Prop := match d with
  | .ref n => ∃ xs, lstOf S n = some xs ∧ Q ⟨xs, fun S => lstOf S n = some xs⟩ S
  | .tup xs => Q ⟨xs, fun _ => True⟩ S
  | .str z => Q ⟨z.cps.toList.map fun c => .str ⟨#[c]⟩, fun _ => True⟩ S
  | _ => False
variable {QS : Src → Sto → Prop}
theorem seqS_ref {n : Nat} {xs : List D} (e : lstOf S n = some xs) (h : QS ⟨xs, fun S => lstOf S n = some xs⟩ S) : seqS QS (.ref n) S := ⟨xs, e, h⟩
theorem seqS_tup {xs : List D} (h : QS ⟨xs, fun _ => True⟩ S) : seqS QS (.tup xs) S := h
instance i_seqS_tup {xs : List D} : St (seqS QS (.tup xs) S) (QS ⟨xs, fun _ => True⟩ S) := ⟨fun h => seqS_tup h⟩
theorem wp_sqSeq (q : wp (fa ρ S) (seqS QS) X) : wp (sqSeq fa ρ S) QS X := by
  with_unfolding_all
    exact wp_bind (wp_mono q (fun d S h => by
      cases d with
      | ref n => obtain ⟨xs, e, h⟩ := h; dsimp only; rw [e]; exact h
      | tup xs => exact h
      | str z => exact h
      | _ => exact h.elim) fun _ _ h => h)
instance i_wp_sqSeq  : St (wp (sqSeq fa ρ S) QS X) (wp (fa ρ S) (seqS QS) X) := ⟨fun h => wp_sqSeq h⟩
theorem wp_sqR1 (q : wp (fa ρ S) (isI fun j S1 => small j ∧ QS ⟨rngD 0 j.toNat, fun _ => True⟩ S1) X) : wp (sqR1 fa ρ S) QS X := by
  with_unfolding_all
    exact wp_bind (wp_mono q (fun d S h => by
      cases d with
      | int n => exact wp_ift h.1 h.2
      | _ => exact h.elim) fun _ _ h => h)
instance i_wp_sqR1  : St (wp (sqR1 fa ρ S) QS X) (wp (fa ρ S) (isI fun j S1 => small j ∧ QS ⟨rngD 0 j.toNat, fun _ => True⟩ S1) X) := ⟨fun h => wp_sqR1 h⟩
theorem wp_sqR2 (q : wp (fa ρ S) (fun d S1 => wp (fb ρ S1) (fun e S2 => isI (fun i _ => isI (fun j _ => small i ∧ small j ∧ QS ⟨rngD i (j - i).toNat, fun _ => True⟩ S2) e S2) d S2) X) X) : wp (sqR2 fa fb ρ S) QS X := by
  with_unfolding_all
    exact wp_bind (wp_mono q (fun d S h => wp_bind (wp_mono h (fun e S h => by
      cases d <;> try exact h.elim
      cases e <;> try exact h.elim
      exact wp_ift ⟨h.1, h.2.1⟩ h.2.2) fun _ _ h => h)) fun _ _ h => h)
instance i_wp_sqR2  : St (wp (sqR2 fa fb ρ S) QS X) (wp (fa ρ S) (fun d S1 => wp (fb ρ S1) (fun e S2 => isI (fun i _ => isI (fun j _ => small i ∧ small j ∧ QS ⟨rngD i (j - i).toNat, fun _ => True⟩ S2) e S2) d S2) X) X) := ⟨fun h => wp_sqR2 h⟩
theorem wp_sqV1 (q : wp (fa ρ S) (isI fun j S1 => small j ∧ QS ⟨dwnD ((j.toNat : Int) - 1) j.toNat, fun _ => True⟩ S1) X) : wp (sqV1 fa ρ S) QS X := by
  with_unfolding_all
    exact wp_bind (wp_mono q (fun d S h => by
      cases d with
      | int n => exact wp_ift h.1 h.2
      | _ => exact h.elim) fun _ _ h => h)
instance i_wp_sqV1  : St (wp (sqV1 fa ρ S) QS X) (wp (fa ρ S) (isI fun j S1 => small j ∧ QS ⟨dwnD ((j.toNat : Int) - 1) j.toNat, fun _ => True⟩ S1) X) := ⟨fun h => wp_sqV1 h⟩
def forK (Q : Fl → Sto → Prop) (nx : Env → Sto → Prop) : Fl → Sto → Prop
  | .next ρ, S => nx ρ S
  | .cont ρ, S => nx ρ S
  | .brk ρ, S => Q (.next ρ) S
  | .ret d, S => Q (.ret d) S
theorem forK_n {Q : Fl → Sto → Prop} {nx : Env → Sto → Prop} {ρ : Env} {S : Sto} (w : nx ρ S) : forK Q nx (.next ρ) S := w
instance i_forK_n {Q : Fl → Sto → Prop} {nx : Env → Sto → Prop} {ρ : Env} {S : Sto} : St (forK Q nx (.next ρ) S) (nx ρ S) := ⟨fun h => forK_n h⟩
theorem forK_c {Q : Fl → Sto → Prop} {nx : Env → Sto → Prop} {ρ : Env} {S : Sto} (w : nx ρ S) : forK Q nx (.cont ρ) S := w
instance i_forK_c {Q : Fl → Sto → Prop} {nx : Env → Sto → Prop} {ρ : Env} {S : Sto} : St (forK Q nx (.cont ρ) S) (nx ρ S) := ⟨fun h => forK_c h⟩
theorem forK_b {Q : Fl → Sto → Prop} {nx : Env → Sto → Prop} {ρ : Env} {S : Sto} (w : Q (.next ρ) S) : forK Q nx (.brk ρ) S := w
instance i_forK_b {Q : Fl → Sto → Prop} {nx : Env → Sto → Prop} {ρ : Env} {S : Sto} : St (forK Q nx (.brk ρ) S) (Q (.next ρ) S) := ⟨fun h => forK_b h⟩
theorem forK_r {Q : Fl → Sto → Prop} {nx : Env → Sto → Prop} {d : D} {S : Sto} (w : Q (.ret d) S) : forK Q nx (.ret d) S := w
instance i_forK_r {Q : Fl → Sto → Prop} {nx : Env → Sto → Prop} {d : D} {S : Sto} : St (forK Q nx (.ret d) S) (Q (.ret d) S) := ⟨fun h => forK_r h⟩
/-- a loop by an invariant: I k ρ S holds ahead of the item k -/
theorem wp_for {gd : Sto → Prop} {items : List D} (I : Nat → Env → Sto → Prop) (h0 : I 0 ρ S) (hg : ∀ k ρ S, k ≤ items.length → I k ρ S → gd S)
    (hs : ∀ k d ρ S, items[k]? = some d → I k ρ S → wp (t d ρ S) (fun ρ1 S1 => wp (f ρ1 S1) (forK Q (I (k + 1))) X) X) (he : ∀ ρ S, I items.length ρ S → Q (.next ρ) S) : wp (forL gd t f items ρ S) Q X := by
  with_unfolding_all
    have main : ∀ (r : List D) (k : Nat) ρ S, items.drop k = r → k ≤ items.length → I k ρ S → wp (forL gd t f r ρ S) Q X := by
      intro r
      induction r with
      | nil =>
        intro k ρ S hd hk hI
        have : k = items.length := by
          have := congrArg List.length hd
          simp at this; omega
        subst this
        unfold forL
        exact wp_ift (hg _ _ _ hk hI) (he _ _ hI)
      | cons d r ih =>
        intro k ρ S hd hk hI
        have h1 : items[k]? = some d := by
          have := congrArg List.head? hd
          simpa [List.head?_drop] using this
        have h2 : k < items.length := (List.getElem?_eq_some_iff.mp h1).1
        have h3 : items.drop (k + 1) = r := by
          have := congrArg List.tail hd
          simpa [List.tail_drop] using this
        unfold forL
        refine wp_ift (hg _ _ _ hk hI) (wp_bind (wp_mono (hs k d ρ S h1 hI) (fun ρ1 S1 h => wp_bind (wp_mono h (fun o S2 h => ?_) fun _ _ h => h)) fun _ _ h => h))
        cases o with
        | next ρ2 => exact ih (k + 1) _ _ h3 h2 h
        | cont ρ2 => exact ih (k + 1) _ _ h3 h2 h
        | brk ρ2 => exact h
        | ret d => exact h
    exact main items 0 ρ S rfl (Nat.zero_le _) h0
/-! comprehensions -/
theorem wp_noX {α : Type} {r : R α} {Q : α → Sto → Prop} {X : Str → Sto → Prop} (h : wp r Q fun _ _ => False) : wp r.noX Q X := by
  with_unfolding_all
    cases r with
    | ok a S => exact h
    | exc c S => exact h.elim
    | bad => exact h
theorem wp_iLc {w : IW} {tt : IT} {vs : List Nat} {Q : D → Sto → Prop} (q : wp (w ρ S) (fun s S1 => wp (lcL s.gd t tt fa (wipeD ρ vs) s.items [] S1) (fun ds S2 => Q (.ref S2.length) (S2 ++ [.lst ds])) X) X) : wp (iLc w t tt fa vs ρ S) Q X := by
  with_unfolding_all
    exact wp_bind (wp_mono q (fun _ _ h => wp_bind h) fun _ _ h => h)
instance i_wp_iLc {w : IW} {tt : IT} {vs : List Nat} {Q : D → Sto → Prop} : St (wp (iLc w t tt fa vs ρ S) Q X) (wp (w ρ S) (fun s S1 => wp (lcL s.gd t tt fa (wipeD ρ vs) s.items [] S1) (fun ds S2 => Q (.ref S2.length) (S2 ++ [.lst ds])) X) X) := ⟨fun h => wp_iLc h⟩
theorem wp_lc {gd : Sto → Prop} {items : List D} {tt : IT} {Q : List D → Sto → Prop} (hl : items.length < LIM) (I : Nat → List D → Sto → Prop) (h0 : I 0 [] S) (hg : ∀ k acc S, k ≤ items.length → I k acc S → gd S)
    (hs : ∀ k d acc S, items[k]? = some d → I k acc S → wp (t d ρ S) (fun ρ1 S1 => wp (tt ρ1 S1) (fun b S2 => wp (if b = true then fa ρ1 S2 else .ok (.ty "") S2) (fun y S3 => if b = true then I (k + 1) (acc ++ [y]) S3 else I (k + 1) acc S2) fun _ _ => False) fun _ _ => False) fun _ _ => False)
    (he : ∀ acc S, I items.length acc S → Q acc S) : wp (lcL gd t tt fa ρ items [] S) Q X := by
  with_unfolding_all
    have main : ∀ (r : List D) (k : Nat) acc S, items.drop k = r → k ≤ items.length → acc.length ≤ k → I k acc S → wp (lcL gd t tt fa ρ r acc S) Q X := by
      intro r
      induction r with
      | nil =>
        intro k acc S hd hk ha hI
        have : k = items.length := by
          have := congrArg List.length hd
          simp at this; omega
        subst this
        unfold lcL
        exact wp_ift (hg _ _ _ hk hI) (he _ _ hI)
      | cons d r ih =>
        intro k acc S hd hk ha hI
        have h1 : items[k]? = some d := by
          have := congrArg List.head? hd
          simpa [List.head?_drop] using this
        have h2 : k < items.length := (List.getElem?_eq_some_iff.mp h1).1
        have h3 : items.drop (k + 1) = r := by
          have := congrArg List.tail hd
          simpa [List.tail_drop] using this
        unfold lcL
        refine wp_ift ⟨hg _ _ _ hk hI, Nat.lt_of_le_of_lt (Nat.le_trans ha hk) hl⟩ (wp_bind (wp_mono (wp_noX (hs k d acc S h1 hI)) (fun ρ1 S1 h => wp_bind (wp_mono (wp_noX h) (fun b S2 h => ?_) fun _ _ h => h)) fun _ _ h => h))
        cases b with
        | false => exact ih (k + 1) _ _ h3 h2 (by omega) h
        | true => exact wp_bind (wp_mono (wp_noX h) (fun y S3 h => ih (k + 1) _ _ h3 h2 (by simp; omega) h) fun _ _ h => h)
    exact main items 0 [] S rfl (Nat.zero_le _) (Nat.le_refl _) h0
theorem wp_tYes {Q : Bool → Sto → Prop} (h : Q true S) : wp (tYesJ ρ S) Q X := by
  with_unfolding_all
    exact h
instance i_wp_tYes {Q : Bool → Sto → Prop} : St (wp (tYesJ ρ S) Q X) (Q true S) := ⟨fun h => wp_tYes h⟩
theorem eqv_bl {a b : Bool} : PyData.eqv (.bool a) (.bool b) = decide (a = b) := by
  rw [Bool.eq_iff_iff]; simp [PyData.eqv]
theorem wp_eqB {Q : D → Sto → Prop} {a b : Bool} (h : Q (.bl (decide (a = b))) S) : wp (oEq (.bl a) (.bl b) S) Q X := by
  with_unfolding_all
    have e : oEq (.bl a) (.bl b) S = .ok (.bl (decide (a = b))) S := by rw [← eqv_bl]; rfl
    exact wp_eq e h
instance i_wp_eqB {Q : D → Sto → Prop} {a b : Bool} : St (wp (oEq (.bl a) (.bl b) S) Q X) (Q (.bl (decide (a = b))) S) := ⟨fun h => wp_eqB h⟩
theorem wp_neB {Q : D → Sto → Prop} {a b : Bool} (h : Q (.bl (!decide (a = b))) S) : wp (oNe (.bl a) (.bl b) S) Q X := by
  with_unfolding_all
    have e : oNe (.bl a) (.bl b) S = .ok (.bl (!decide (a = b))) S := by rw [← eqv_bl]; rfl
    exact wp_eq e h
instance i_wp_neB {Q : D → Sto → Prop} {a b : Bool} : St (wp (oNe (.bl a) (.bl b) S) Q X) (Q (.bl (!decide (a = b))) S) := ⟨fun h => wp_neB h⟩
/-- a while loop by a measure -/
theorem wp_while {α : Type} (I : α → Env → Sto → Prop) (μ : α → Nat) {a : α} (h0 : I a ρ S)
    (hs : ∀ a ρ S, I a ρ S → wp (c ρ S) (fun b S1 => wp (if b = true then f ρ S1 else .ok (.brk ρ) S1) (forK Q fun ρ2 S2 => ∃ a', μ a' < μ a ∧ I a' ρ2 S2) X) X) : wp (sWhile c f ρ S) Q X := by
  with_unfolding_all
    have main : ∀ n a ρ S, μ a < n → I a ρ S → wp (whileL c f n ρ S) Q X := by
      intro n
      induction n with
      | zero => intro a ρ S hn; omega
      | succ n ih =>
        intro a ρ S hn hI
        rw [whileL]
        refine wp_bind (wp_mono (hs a ρ S hI) (fun b S1 h => ?_) fun _ _ h => h)
        cases b with
        | false => exact h
        | true =>
          rw [if_pos rfl] at h ⊢
          refine wp_bind (wp_mono h (fun o S2 h => ?_) fun _ _ h => h)
          cases o with
          | next ρ2 => obtain ⟨a', h1, h2⟩ := h; exact ih a' ρ2 S2 (by omega) h2
          | cont ρ2 => obtain ⟨a', h1, h2⟩ := h; exact ih a' ρ2 S2 (by omega) h2
          | brk ρ2 => exact h
          | ret d => exact h
    have q := main (μ a + 1) a ρ S (Nat.lt_succ_self _) h0
    rw [sWhile_eq (n := μ a + 1) (fun e => by rw [e] at q; exact q)]
    exact q
theorem wp_law {F : List D → Sto → R D} {ds : List D} (h : wp (F ds []) (fun d _ => d = .bl true) (fun _ _ => False)) : ∃ S', F ds [] = .ok (.bl true) S' := by
  with_unfolding_all
    revert h
    generalize F ds [] = r
    intro h
    cases r with
    | ok a S => exact ⟨S, by rw [show a = .bl true from h]⟩
    | exc c S => exact h.elim
    | bad => exact h.elim
end
end
end J

set_option Elab.async false
set_option linter.all false
set_option maxRecDepth 100000
set_option maxHeartbeats 4000000
namespace J
open PySem PySem.Spec PyProof.Rows L2
/-! ### sizes -/
structure Sz (n : Nat) (i : Int) : Prop where
  lt : i.natAbs < 2 ^ n
theorem Sz.mono {n m : Nat} {i : Int} (h : Sz n i) (q : n ≤ m) : Sz m i := ⟨Nat.lt_of_lt_of_le h.lt (Nat.pow_le_pow_right (by decide) q)⟩
theorem Sz.add {n m : Nat} {i j : Int} (p : Nat) (h : Sz n i) (q : Sz m j) (hn : n < p := by omega) (hm : m < p := by omega) : Sz p (i + j) := by
  obtain ⟨k, rfl⟩ : ∃ k, p = k + 1 := ⟨p - 1, by omega⟩
  have h1 := (h.mono (show n ≤ k by omega)).lt
  have h2 := (q.mono (show m ≤ k by omega)).lt
  refine ⟨?_⟩
  rw [Nat.pow_succ]
  generalize 2 ^ k = z at *
  omega
theorem Sz.neg {n : Nat} {i : Int} (h : Sz n i) : Sz n (-i) := ⟨by rw [Int.natAbs_neg]; exact h.lt⟩
theorem Sz.sub {n m : Nat} {i j : Int} (p : Nat) (h : Sz n i) (q : Sz m j) (hn : n < p := by omega) (hm : m < p := by omega) : Sz p (i - j) := by
  rw [Int.sub_eq_add_neg]; exact h.add p q.neg hn hm
theorem Sz.mul {n m : Nat} {i j : Int} (h : Sz n i) (q : Sz m j) : Sz (n + m) (i * j) := ⟨by
  rw [Int.natAbs_mul, Nat.pow_add]
  exact Nat.mul_lt_mul_of_lt_of_lt h.lt q.lt⟩
theorem Sz.abs {n : Nat} {i : Int} (h : Sz n i) : Sz n (if i < 0 then -i else i) := by
  split
  · exact h.neg
  · exact h
theorem Sz.mod {m : Nat} {i j : Int} (q : 0 < j) (h : Sz m j) : Sz m (i % j) := ⟨by
  have h1 := Int.emod_nonneg i (show j ≠ 0 by omega)
  have h2 := Int.emod_lt_of_pos i q
  have := h.lt
  omega⟩
theorem Sz.div {n : Nat} {i j : Int} (q : 0 < j) (h : Sz n i) : Sz n (i / j) := ⟨by
  have := h.lt
  have : (i / j).natAbs ≤ i.natAbs := by
    rcases Int.le_total 0 i with h0 | h0
    · have h1 := Int.ediv_nonneg h0 (show 0 ≤ j by omega)
      have h2 := Int.ediv_le_self j h0
      omega
    · have h1 : i / j ≤ 0 := by
        have h3 : i / j < 1 := (Int.ediv_lt_iff_lt_mul q).mpr (by omega)
        omega
      have h2 : i ≤ i / j := (Int.le_ediv_iff_mul_le q).mpr (by
        obtain ⟨k, rfl⟩ : ∃ k, i = -k := ⟨-i, by omega⟩
        have h4 : 1 * k ≤ j * k := Int.mul_le_mul_of_nonneg_right (by omega) (by omega)
        rw [Int.neg_mul, Int.mul_comm]
        omega)
      omega
  omega⟩
theorem Sz.of {n : Nat} {i b : Int} (h0 : 0 ≤ i) (h1 : i < b) (hb : b.natAbs ≤ 2 ^ n) : Sz n i := ⟨by omega⟩
theorem Sz.lit {n : Nat} {i : Int} (h : decide (i.natAbs < 2 ^ n) = true) : Sz n i := ⟨of_decide_eq_true h⟩
theorem Sz.bits {n : Nat} {i : Int} (h : Builtin.Int.intBits i ≤ n) : Sz n i := ⟨by
  unfold Builtin.Int.intBits at h
  split at h
  · rename_i q
    have : i = 0 := by simpa using q
    subst this
    exact Nat.two_pow_pos n
  · rename_i q
    have : i ≠ 0 := by simpa using q
    exact (Nat.log2_lt (by omega)).mp (by omega)⟩
theorem Sz.ib {n : Nat} {i : Int} (h : Sz n i) : Builtin.Int.intBits i ≤ n := by
  unfold Builtin.Int.intBits
  split
  · omega
  · rename_i q
    have : i ≠ 0 := by simpa using q
    have := (Nat.log2_lt (n := i.natAbs) (k := n) (by omega)).mpr h.lt
    omega
theorem Sz.mulOk {n m : Nat} {i j : Int} (h : Sz n i) (q : Sz m j) (hs : n + m ≤ 134217728 := by omega) : J.mulOk i j := by
  have h1 := h.ib
  have h2 := q.ib
  unfold J.mulOk
  omega
theorem digs {y : Int} {n : Nat} (h : Sz n y) (hn : 0 < n) : (if y == 0 then 0 else y.natAbs.log2 / 30 + 1) ≤ (n - 1) / 30 + 1 := by
  split
  · omega
  · rename_i q
    have : y ≠ 0 := by simpa using q
    have := (Nat.log2_lt (n := y.natAbs) (k := n) (by omega)).mpr h.lt
    omega
theorem Sz.divOk {n : Nat} {i j : Int} (h0 : 0 < j) (h : Sz n j) (hs : n ≤ 9000 := by omega) : J.divOk i j := by
  refine ⟨h0, ?_⟩
  have h1 := digs (h.mono hs) (by omega)
  unfold Builtin.divisionGoesByPylong
  simp only [Bool.and_eq_false_iff, decide_eq_false_iff_not]
  exact .inl (by omega)
theorem Sz.divOk' {n : Nat} {i j : Int} (h0 : 0 < j) (h : Sz n i) (hs : n ≤ 4500 := by omega) : J.divOk i j := by
  refine ⟨h0, ?_⟩
  have h1 := digs (h.mono hs) (by omega)
  unfold Builtin.divisionGoesByPylong
  simp only [Bool.and_eq_false_iff, decide_eq_false_iff_not]
  exact .inr (by omega)
end J
namespace J
open PySem PySem.Spec PyProof.Rows L2
theorem wp_cut {α : Type} {r : R α} {Q : α → Sto → Prop} {X : Str → Sto → Prop} (P : α → Sto → Prop) (h : wp r P X) (q : ∀ a S, P a S → Q a S) : wp r Q X := by
  with_unfolding_all
    exact wp_mono h q fun _ _ h => h
/-- numbers drawn below bounds -/
inductive Drawn : List Int → List Int → Prop where
  | nil : Drawn [] []
  | snoc {ps vs : List Int} {p v : Int} (h : Drawn ps vs) (h0 : 0 ≤ v) (h1 : v < p) : Drawn (ps ++ [p]) (vs ++ [v])
theorem Drawn.length {ps vs : List Int} (h : Drawn ps vs) : vs.length = ps.length := by
  induction h with
  | nil => rfl
  | snoc h h0 h1 ih => simp [ih]
theorem Drawn.get {ps vs : List Int} (h : Drawn ps vs) : ∀ (i : Nat) (p : Int), ps[i]? = some p → ∃ v, vs[i]? = some v ∧ 0 ≤ v ∧ v < p := by
  induction h with
  | nil => intro i p e; simp at e
  | snoc h h0 h1 ih =>
    intro i p e
    have hl := h.length
    rename_i ps vs p' v
    by_cases q : i < ps.length
    · rw [List.getElem?_append_left q] at e
      obtain ⟨v, h1, h2⟩ := ih i p e
      exact ⟨v, by rw [List.getElem?_append_left (by omega)]; exact h1, h2⟩
    · rw [List.getElem?_append_right (by omega)] at e
      have : i - ps.length = 0 := by
        by_cases z : i - ps.length = 0
        · exact z
        · rw [List.getElem?_eq_none (by simp; omega)] at e; cases e
      rw [this] at e
      simp at e
      subst e
      exact ⟨v, by rw [List.getElem?_append_right (by omega), hl, this]; rfl, h0, h1⟩
theorem Drawn.one {p : Int} {vs : List Int} (h : Drawn [p] vs) : ∃ a, vs = [a] ∧ 0 ≤ a ∧ a < p := by
  have hl := h.length
  obtain ⟨a, ea, ha⟩ := h.get 0 _ rfl
  match vs, hl with
  | [v], _ => simp at ea; subst ea; exact ⟨_, rfl, ha⟩
theorem Drawn.two {p q : Int} {vs : List Int} (h : Drawn [p, q] vs) : ∃ a b, vs = [a, b] ∧ (0 ≤ a ∧ a < p) ∧ 0 ≤ b ∧ b < q := by
  have hl := h.length
  obtain ⟨a, ea, ha⟩ := h.get 0 _ rfl
  obtain ⟨b, eb, hb⟩ := h.get 1 _ rfl
  match vs, hl with
  | [v, w], _ => simp at ea eb; subst ea eb; exact ⟨_, _, rfl, ha, hb⟩
theorem Drawn.three {p q r : Int} {vs : List Int} (h : Drawn [p, q, r] vs) : ∃ a b c, vs = [a, b, c] ∧ (0 ≤ a ∧ a < p) ∧ (0 ≤ b ∧ b < q) ∧ 0 ≤ c ∧ c < r := by
  have hl := h.length
  obtain ⟨a, ea, ha⟩ := h.get 0 _ rfl
  obtain ⟨b, eb, hb⟩ := h.get 1 _ rfl
  obtain ⟨c, ec, hc⟩ := h.get 2 _ rfl
  match vs, hl with
  | [v, w, x], _ => simp at ea eb ec; subst ea eb ec; exact ⟨_, _, _, rfl, ha, hb, hc⟩
theorem Drawn.four {p q r s : Int} {vs : List Int} (h : Drawn [p, q, r, s] vs) : ∃ a b c d, vs = [a, b, c, d] ∧ (0 ≤ a ∧ a < p) ∧ (0 ≤ b ∧ b < q) ∧ (0 ≤ c ∧ c < r) ∧ 0 ≤ d ∧ d < s := by
  have hl := h.length
  obtain ⟨a, ea, ha⟩ := h.get 0 _ rfl
  obtain ⟨b, eb, hb⟩ := h.get 1 _ rfl
  obtain ⟨c, ec, hc⟩ := h.get 2 _ rfl
  obtain ⟨d, ed, hd⟩ := h.get 3 _ rfl
  match vs, hl with
  | [v, w, x, y], _ => simp at ea eb ec ed; subst ea eb ec ed; exact ⟨_, _, _, _, rfl, ha, hb, hc, hd⟩
theorem Drawn.five {p q r s t : Int} {vs : List Int} (h : Drawn [p, q, r, s, t] vs) : ∃ a b c d e, vs = [a, b, c, d, e] ∧ (0 ≤ a ∧ a < p) ∧ (0 ≤ b ∧ b < q) ∧ (0 ≤ c ∧ c < r) ∧ (0 ≤ d ∧ d < s) ∧ 0 ≤ e ∧ e < t := by
  have hl := h.length
  obtain ⟨a, ea, ha⟩ := h.get 0 _ rfl
  obtain ⟨b, eb, hb⟩ := h.get 1 _ rfl
  obtain ⟨c, ec, hc⟩ := h.get 2 _ rfl
  obtain ⟨d, ed, hd⟩ := h.get 3 _ rfl
  obtain ⟨e, ee, he⟩ := h.get 4 _ rfl
  match vs, hl with
  | [v, w, x, y, z], _ => simp at ea eb ec ed ee; subst ea eb ec ed ee; exact ⟨_, _, _, _, _, rfl, ha, hb, hc, hd, he⟩
theorem Drawn.six {p q r s t u : Int} {vs : List Int} (h : Drawn [p, q, r, s, t, u] vs) : ∃ a b c d e f, vs = [a, b, c, d, e, f] ∧ (0 ≤ a ∧ a < p) ∧ (0 ≤ b ∧ b < q) ∧ (0 ≤ c ∧ c < r) ∧ (0 ≤ d ∧ d < s) ∧ (0 ≤ e ∧ e < t) ∧ 0 ≤ f ∧ f < u := by
  have hl := h.length
  obtain ⟨a, ea, ha⟩ := h.get 0 _ rfl
  obtain ⟨b, eb, hb⟩ := h.get 1 _ rfl
  obtain ⟨c, ec, hc⟩ := h.get 2 _ rfl
  obtain ⟨d, ed, hd⟩ := h.get 3 _ rfl
  obtain ⟨e, ee, he⟩ := h.get 4 _ rfl
  obtain ⟨f, ef, hf⟩ := h.get 5 _ rfl
  match vs, hl with
  | [v, w, x, y, z, z'], _ => simp at ea eb ec ed ee ef; subst ea eb ec ed ee ef; exact ⟨_, _, _, _, _, _, rfl, ha, hb, hc, hd, he, hf⟩
theorem len_and {α : Type} {xs : List α} {p : Prop} (h : Nat.blt xs.length LIM = true) (q : p) : xs.length < LIM ∧ p := ⟨by rw [Nat.blt_eq] at h; exact h, q⟩
theorem lim_of {n : Nat} (h : n < 1000000) : n < LIM := h
theorem small_of {i : Int} (h : -1000000 < i) (h' : i < 1000000) : small i := ⟨h, h'⟩
theorem wp_forN {gd : Sto → Prop} {t : IG} {f : IS} {ρ : Env} {S : Sto} {Q : Fl → Sto → Prop} {X : Str → Sto → Prop} (h : gd S) (w : Q (.next ρ) S) : wp (forL gd t f [] ρ S) Q X := by
  with_unfolding_all
    unfold forL; exact wp_ift h w
theorem wp_forC {gd : Sto → Prop} {t : IG} {f : IS} {d : D} {r : List D} {ρ : Env} {S : Sto} {Q : Fl → Sto → Prop} {X : Str → Sto → Prop} (h : gd S) (w : wp (t d ρ S) (fun ρ1 S1 => wp (f ρ1 S1) (forK Q fun ρ2 S2 => wp (forL gd t f r ρ2 S2) Q X) X) X) : wp (forL gd t f (d :: r) ρ S) Q X := by
  with_unfolding_all
    unfold forL; exact wp_ift h (wp_bind (wp_mono w (fun _ _ h => wp_bind (wp_mono h (fun o _ h => by cases o <;> exact h) fun _ _ h => h)) fun _ _ h => h))
theorem meth_and {S : Sto} {n : Nat} {xs : List D} {p : Prop} (e : lstOf S n = some xs) (w : p) : tyName S (.ref n) = some "list" ∧ p := ⟨tyN_ref e, w⟩
theorem atI_0 {α : Type} {x0 : α} {xs : List α} : atI (x0 :: xs) 0 = some x0 := by
  unfold atI ixN
  rw [if_pos (by decide), if_pos (by simp only [List.length_cons]; omega)]
  rfl
theorem atI_1 {α : Type} {x0 x1 : α} {xs : List α} : atI (x0 :: x1 :: xs) 1 = some x1 := by
  unfold atI ixN
  rw [if_pos (by decide), if_pos (by simp only [List.length_cons]; omega)]
  rfl
theorem atI_2 {α : Type} {x0 x1 x2 : α} {xs : List α} : atI (x0 :: x1 :: x2 :: xs) 2 = some x2 := by
  unfold atI ixN
  rw [if_pos (by decide), if_pos (by simp only [List.length_cons]; omega)]
  rfl
theorem atI_3 {α : Type} {x0 x1 x2 x3 : α} {xs : List α} : atI (x0 :: x1 :: x2 :: x3 :: xs) 3 = some x3 := by
  unfold atI ixN
  rw [if_pos (by decide), if_pos (by simp only [List.length_cons]; omega)]
  rfl
theorem atI_4 {α : Type} {x0 x1 x2 x3 x4 : α} {xs : List α} : atI (x0 :: x1 :: x2 :: x3 :: x4 :: xs) 4 = some x4 := by
  unfold atI ixN
  rw [if_pos (by decide), if_pos (by simp only [List.length_cons]; omega)]
  rfl
theorem atI_5 {α : Type} {x0 x1 x2 x3 x4 x5 : α} {xs : List α} : atI (x0 :: x1 :: x2 :: x3 :: x4 :: x5 :: xs) 5 = some x5 := by
  unfold atI ixN
  rw [if_pos (by decide), if_pos (by simp only [List.length_cons]; omega)]
  rfl
theorem atI_6 {α : Type} {x0 x1 x2 x3 x4 x5 x6 : α} {xs : List α} : atI (x0 :: x1 :: x2 :: x3 :: x4 :: x5 :: x6 :: xs) 6 = some x6 := by
  unfold atI ixN
  rw [if_pos (by decide), if_pos (by simp only [List.length_cons]; omega)]
  rfl
theorem atI_7 {α : Type} {x0 x1 x2 x3 x4 x5 x6 x7 : α} {xs : List α} : atI (x0 :: x1 :: x2 :: x3 :: x4 :: x5 :: x6 :: x7 :: xs) 7 = some x7 := by
  unfold atI ixN
  rw [if_pos (by decide), if_pos (by simp only [List.length_cons]; omega)]
  rfl
section
variable {Q : D → Sto → Prop} {X : Str → Sto → Prop} {S : Sto}
theorem wp_isNn (h : Q (.bl true) S) : wp (oIs .non .non S) Q X := by
  with_unfolding_all
    exact h
instance i_wp_isNn  : St (wp (oIs .non .non S) Q X) (Q (.bl true) S) := ⟨fun h => wp_isNn h⟩
theorem wp_isNotNn (h : Q (.bl false) S) : wp (oIsNot .non .non S) Q X := by
  with_unfolding_all
    exact h
instance i_wp_isNotNn  : St (wp (oIsNot .non .non S) Q X) (Q (.bl false) S) := ⟨fun h => wp_isNotNn h⟩
theorem wp_isNi {i : Int} (h : Q (.bl false) S) : wp (oIs (.int i) .non S) Q X := by
  with_unfolding_all
    exact h
instance i_wp_isNi {i : Int} : St (wp (oIs (.int i) .non S) Q X) (Q (.bl false) S) := ⟨fun h => wp_isNi h⟩
theorem wp_isNotNi {i : Int} (h : Q (.bl true) S) : wp (oIsNot (.int i) .non S) Q X := by
  with_unfolding_all
    exact h
instance i_wp_isNotNi {i : Int} : St (wp (oIsNot (.int i) .non S) Q X) (Q (.bl true) S) := ⟨fun h => wp_isNotNi h⟩
theorem wp_isNb {i : Bool} (h : Q (.bl false) S) : wp (oIs (.bl i) .non S) Q X := by
  with_unfolding_all
    exact h
instance i_wp_isNb {i : Bool} : St (wp (oIs (.bl i) .non S) Q X) (Q (.bl false) S) := ⟨fun h => wp_isNb h⟩
theorem wp_isNotNb {i : Bool} (h : Q (.bl true) S) : wp (oIsNot (.bl i) .non S) Q X := by
  with_unfolding_all
    exact h
instance i_wp_isNotNb {i : Bool} : St (wp (oIsNot (.bl i) .non S) Q X) (Q (.bl true) S) := ⟨fun h => wp_isNotNb h⟩
theorem wp_isNs {i : Str} (h : Q (.bl false) S) : wp (oIs (.str i) .non S) Q X := by
  with_unfolding_all
    exact h
instance i_wp_isNs {i : Str} : St (wp (oIs (.str i) .non S) Q X) (Q (.bl false) S) := ⟨fun h => wp_isNs h⟩
theorem wp_isNotNs {i : Str} (h : Q (.bl true) S) : wp (oIsNot (.str i) .non S) Q X := by
  with_unfolding_all
    exact h
instance i_wp_isNotNs {i : Str} : St (wp (oIsNot (.str i) .non S) Q X) (Q (.bl true) S) := ⟨fun h => wp_isNotNs h⟩
theorem wp_isNt {i : List D} (h : Q (.bl false) S) : wp (oIs (.tup i) .non S) Q X := by
  with_unfolding_all
    exact h
instance i_wp_isNt {i : List D} : St (wp (oIs (.tup i) .non S) Q X) (Q (.bl false) S) := ⟨fun h => wp_isNt h⟩
theorem wp_isNotNt {i : List D} (h : Q (.bl true) S) : wp (oIsNot (.tup i) .non S) Q X := by
  with_unfolding_all
    exact h
instance i_wp_isNotNt {i : List D} : St (wp (oIsNot (.tup i) .non S) Q X) (Q (.bl true) S) := ⟨fun h => wp_isNotNt h⟩
theorem wp_isNr {i : Nat} (h : Q (.bl false) S) : wp (oIs (.ref i) .non S) Q X := by
  with_unfolding_all
    exact h
instance i_wp_isNr {i : Nat} : St (wp (oIs (.ref i) .non S) Q X) (Q (.bl false) S) := ⟨fun h => wp_isNr h⟩
theorem wp_isNotNr {i : Nat} (h : Q (.bl true) S) : wp (oIsNot (.ref i) .non S) Q X := by
  with_unfolding_all
    exact h
instance i_wp_isNotNr {i : Nat} : St (wp (oIsNot (.ref i) .non S) Q X) (Q (.bl true) S) := ⟨fun h => wp_isNotNr h⟩
theorem wp_isNl {i : List Int} (h : Q (.bl false) S) : wp (oIs (.rl i) .non S) Q X := by
  with_unfolding_all
    exact h
instance i_wp_isNl {i : List Int} : St (wp (oIs (.rl i) .non S) Q X) (Q (.bl false) S) := ⟨fun h => wp_isNl h⟩
theorem wp_isNotNl {i : List Int} (h : Q (.bl true) S) : wp (oIsNot (.rl i) .non S) Q X := by
  with_unfolding_all
    exact h
instance i_wp_isNotNl {i : List Int} : St (wp (oIsNot (.rl i) .non S) Q X) (Q (.bl true) S) := ⟨fun h => wp_isNotNl h⟩
end
theorem wp_isiL {Q : D → Sto → Prop} {X : Str → Sto → Prop} {S : Sto} {n : Nat} {xs : List D} {nm : String} {b : Bool} (e : lstOf S n = some xs) (e2 : isiT "list" nm = some b) (h : Q (.bl b) S) : wp (bIsi [.ref n, .ty nm] S) Q X := by
  with_unfolding_all
    exact wp_isi (by rw [tyN_ref e]; exact e2) h
section
variable {X : Str → Sto → Prop} {S : Sto} {ρ : Env}
theorem g_wp_iV {i : Nat} {Q : D → Sto → Prop} (h : wp (iV i ρ S) Q X) : wp (iV i ρ S) Q X := by
  with_unfolding_all
    exact h
theorem g_wp_pow {d e : D} {Q : D → Sto → Prop} (h : wp (oPow d e S) Q X) : wp (oPow d e S) Q X := by
  with_unfolding_all
    exact h
theorem g_wp_sAug {i : Nat} {fo : D → D → Sto → R D} {fa : IE} {Q : Fl → Sto → Prop} (h : wp (sAug i fo fa ρ S) Q X) : wp (sAug i fo fa ρ S) Q X := by
  with_unfolding_all
    exact h
theorem g_wp_gTuT {ts : List IG} {ds : List D} {Q : Env → Sto → Prop} (h : wp (gTu ts (.tup ds) ρ S) Q X) : wp (gTu ts (.tup ds) ρ S) Q X := by
  with_unfolding_all
    exact h
theorem g_wp_gTuL {ts : List IG} {n : Nat} {Q : Env → Sto → Prop} (h : wp (gTu ts (.ref n) ρ S) Q X) : wp (gTu ts (.ref n) ρ S) Q X := by
  with_unfolding_all
    exact h
theorem g_wp_slL {n : Nat} {lo hi : Option Int} {Q : D → Sto → Prop} (h : wp (oSl (.ref n) lo hi S) Q X) : wp (oSl (.ref n) lo hi S) Q X := by
  with_unfolding_all
    exact h
theorem g_wp_ixT {xs : List D} {e : D} {Q : D → Sto → Prop} (h : wp (oIx (.tup xs) e S) Q X) : wp (oIx (.tup xs) e S) Q X := by
  with_unfolding_all
    exact h
theorem g_wp_isiL {n : Nat} {e : D} {Q : D → Sto → Prop} (h : wp (bIsi [.ref n, e] S) Q X) : wp (bIsi [.ref n, e] S) Q X := by
  with_unfolding_all
    exact h
theorem g_wp_isi {ds : List D} {Q : D → Sto → Prop} (h : wp (bIsi ds S) Q X) : wp (bIsi ds S) Q X := by
  with_unfolding_all
    exact h
theorem g_len_and {α : Type} {xs : List α} {p : Prop} (h : xs.length < LIM ∧ p) : xs.length < LIM ∧ p := h
theorem g_wp_ixL {n : Nat} {e : D} {Q : D → Sto → Prop} (h : wp (oIx (.ref n) e S) Q X) : wp (oIx (.ref n) e S) Q X := by
  with_unfolding_all
    exact h
theorem g_seqS_ref {n : Nat} {QS : Src → Sto → Prop} (h : seqS QS (.ref n) S) : seqS QS (.ref n) S := h
theorem g_wp_lenL {n : Nat} {Q : D → Sto → Prop} (h : wp (bLen [.ref n] S) Q X) : wp (bLen [.ref n] S) Q X := by
  with_unfolding_all
    exact h
theorem g_isTru_ref {n : Nat} {Q : Bool → Sto → Prop} (h : isTru Q (.ref n) S) : isTru Q (.ref n) S := h
theorem g_meth_and {n : Nat} {p : Prop} (h : tyName S (.ref n) = some "list" ∧ p) : tyName S (.ref n) = some "list" ∧ p := h
theorem g_wp_append {n : D} {ds : List D} {Q : D → Sto → Prop} (h : wp (mAppend n ds S) Q X) : wp (mAppend n ds S) Q X := by
  with_unfolding_all
    exact h
end
theorem rngD_at {lo : Int} {n k : Nat} {d : D} (h : (rngD lo n)[k]? = some d) : d = .int (lo + k) ∧ k < n := by
  have q : k < n := by have := (List.getElem?_eq_some_iff.mp h).1; rwa [rngD_len] at this
  unfold rngD at h
  rw [List.getElem?_map, List.getElem?_range q] at h
  simp at h
  exact ⟨h.symm, q⟩
theorem dwnD_at {lo : Int} {n k : Nat} {d : D} (h : (dwnD lo n)[k]? = some d) : d = .int (lo - k) ∧ k < n := by
  have q : k < n := by have := (List.getElem?_eq_some_iff.mp h).1; rwa [dwnD_len] at this
  unfold dwnD at h
  rw [List.getElem?_map, List.getElem?_range q] at h
  simp at h
  exact ⟨h.symm, q⟩
end J

set_option Elab.async false
set_option linter.all false
set_option maxRecDepth 100000
set_option maxHeartbeats 4000000
namespace J
open PySem PySem.Spec PyProof.Rows L2
local macro_rules | `(tactic| array_mem_dec) => `(tactic| with_reducible first | exact lstOf_new | assumption | exact lstOf_old (by array_mem_dec) | fail)
local macro_rules | `(tactic| array_get_dec) => `(tactic| with_reducible first
  | refine St.st ?_
  | refine St2.st ?_ ?_
  | (refine g_wp_iV ?_; refine wp_iV (by with_unfolding_all rfl) ?_)
  | (refine g_wp_pow ?_; refine wp_pow (by decide) ?_)
  | (refine g_wp_sAug ?_; refine wp_sAug (by with_unfolding_all rfl) ?_)
  | (refine g_wp_gTuT ?_; refine wp_gTuT (by with_unfolding_all rfl) ?_)
  | (refine g_wp_gTuL ?_; refine wp_gTuL (by array_mem_dec) (by with_unfolding_all rfl) ?_)
  | (refine g_wp_slL ?_; refine wp_slL (by array_mem_dec) ?_)
  | (refine g_wp_ixT ?_; refine wp_ixT (by first | exact atI_0 | exact atI_1 | exact atI_2 | exact atI_3 | exact atI_4 | exact atI_5 | exact atI_6 | exact atI_7) ?_)
  | (refine g_wp_isiL ?_; refine wp_isiL (by array_mem_dec) (by with_unfolding_all rfl) ?_)
  | (refine g_wp_isi ?_; refine wp_isi (by with_unfolding_all rfl) ?_)
  | (refine g_len_and ?_; refine len_and (by with_unfolding_all rfl) ?_)
  | refine wp_forN trivial ?_
  | refine wp_forC trivial ?_
  | (refine g_wp_ixL ?_; refine wp_ixL (by array_mem_dec) (by first | exact atI_0 | exact atI_1 | exact atI_2 | exact atI_3 | exact atI_4 | exact atI_5 | exact atI_6 | exact atI_7) ?_)
  | (refine g_seqS_ref ?_; refine seqS_ref (by array_mem_dec) ?_)
  | (refine g_wp_lenL ?_; refine wp_lenL (by array_mem_dec) ?_)
  | (refine g_isTru_ref ?_; refine isTru_ref (by array_mem_dec) ?_)
  | (refine g_meth_and ?_; refine meth_and (by array_mem_dec) ?_)
  | (refine g_wp_append ?_; refine wp_append (by array_mem_dec) ?_ ?_)
  | fail)
section
variable {Q : D → Sto → Prop} {X : Str → Sto → Prop} {S : Sto}
theorem sum_sz {ns : List Int} {n : Nat} (h : ∀ z ∈ ns, Sz n z) : Sz (n + ns.length) ns.sum := by
  induction ns with
  | nil => exact ⟨by simp [Nat.two_pow_pos]⟩
  | cons a r ih =>
    rw [List.sum_cons]
    have h1 := h a (by simp)
    have h2 := ih fun z hz => h z (by simp [hz])
    exact h1.add (n + (a :: r).length) h2 (by simp) (by simp)
noncomputable def gcdB : IS := sSeq (sWhile (iB (iBin oGt (iV 1) (iC (.int 0)))) (sPar 0 1 (iV 1) (iBin oMod (iV 0) (iV 1)))) (sRet (iV 0))
theorem wp_gcd {a b : Int} (ha : 0 ≤ a) (hb : 0 ≤ b) (q : Q (.int (Int.gcd a b : Nat)) S) : wp (runF 2 gcdB [.int a, .int b] S) Q X := by
  obtain ⟨a, rfl⟩ := Int.eq_ofNat_of_zero_le ha
  obtain ⟨b, rfl⟩ := Int.eq_ofNat_of_zero_le hb
  refine wp_run ?_
  unfold gcdB
  refine wp_sSeq ?_
  refine wp_while (fun (p : Nat × Nat) ρ S' => ρ = [some (.int (p.1 : Nat)), some (.int (p.2 : Nat))] ∧ S' = S ∧ Nat.gcd p.1 p.2 = Nat.gcd a b) (fun p => p.2) (a := (a, b)) ⟨rfl, rfl, rfl⟩ ?_
  rintro ⟨x, y⟩ ρ S' ⟨rfl, rfl, hg⟩
  dsimp only at hg ⊢
  repeat' array_get_dec
  refine wp_ifd (fun h => ?_) fun h => ?_
  · repeat' array_get_dec
    · exact h
    · refine ⟨(y, x % y), Nat.mod_lt _ (by omega), rfl, rfl, ?_⟩
      dsimp only
      rw [← hg, Nat.gcd_comm x y, Nat.gcd_rec y x, Nat.gcd_comm]
  · repeat' array_get_dec
    have : y = 0 := by omega
    subst this
    rw [Nat.gcd_zero_right] at hg
    subst hg
    exact q
def aD (q : Rat) : D := .tup [.int q.num, .int q.den]
theorem divInt_of {n d : Int} (hd : 0 < d) : (Rat.divInt n d).num = n / (Int.gcd n d : Nat) ∧ ((Rat.divInt n d).den : Int) = d / (Int.gcd n d : Nat) := by
  obtain ⟨k, rfl⟩ := Int.eq_ofNat_of_zero_le (Int.le_of_lt hd)
  have hk : k ≠ 0 := by omega
  have e : Rat.divInt n (k : Int) = mkRat n k := rfl
  rw [e, Rat.mkRat_def, dif_neg hk, Rat.normalize_eq]
  refine ⟨?_, ?_⟩
  · simp [Int.gcd]
  · simp [Int.gcd]
theorem gcd_sz {a b : Int} {n : Nat} (hb : 0 < b) (h : Sz n b) : Sz n (Int.gcd a b : Nat) ∧ 0 < ((Int.gcd a b : Nat) : Int) := by
  have h1 : Int.gcd a b ≤ b.natAbs := Nat.le_of_dvd (by omega) (Int.gcd_dvd_natAbs_right a b)
  have h2 : 0 < Int.gcd a b := Int.gcd_pos_of_ne_zero_right a (by omega)
  have := h.lt
  exact ⟨⟨by simp only [Int.natAbs_natCast]; omega⟩, by omega⟩
theorem divInt_eq {a b : Int} (hb : b ≠ 0) : (Rat.divInt a b).num * b = a * (Rat.divInt a b).den := by
  have h : Rat.divInt (Rat.divInt a b).num (Rat.divInt a b).den = Rat.divInt a b := Rat.num_divInt_den _
  exact (Rat.divInt_eq_divInt_iff (by have := (Rat.divInt a b).den_pos; omega) hb).mp h
theorem divInt_le {a b : Int} (hb : b ≠ 0) : (Rat.divInt a b).num.natAbs ≤ a.natAbs ∧ (Rat.divInt a b).den ≤ b.natAbs := by
  have main : ∀ a b : Int, 0 < b → (Rat.divInt a b).num.natAbs ≤ a.natAbs ∧ (Rat.divInt a b).den ≤ b.natAbs := by
    intro a b h
    obtain ⟨e1, e2⟩ := divInt_of (n := a) h
    have hg : 0 < Int.gcd a b := Int.gcd_pos_of_ne_zero_right a (by omega)
    refine ⟨?_, ?_⟩
    · rw [e1, Int.natAbs_ediv_of_dvd (Int.gcd_dvd_left ..)]
      exact Nat.div_le_self _ _
    · have : (b / (Int.gcd a b : Nat)).natAbs ≤ b.natAbs := by
        rw [Int.natAbs_ediv_of_dvd (Int.gcd_dvd_right ..)]
        exact Nat.div_le_self _ _
      omega
  by_cases h : 0 < b
  · exact main a b h
  · have h2 := main (-a) (-b) (by omega)
    rw [Rat.divInt_neg', Int.neg_neg] at h2
    omega
theorem divInt_sz {a b : Int} {n m : Nat} (hb : b ≠ 0) (ha : Sz n a) (hs : Sz m b) : Sz n (Rat.divInt a b).num ∧ Sz m (Rat.divInt a b).den := by
  obtain ⟨h1, h2⟩ := divInt_le (a := a) hb
  have := ha.lt
  have := hs.lt
  exact ⟨⟨by omega⟩, ⟨by simp only [Int.natAbs_natCast]; omega⟩⟩
/-- two values that are the same: n bounds how deep they are -/
inductive Sm (S : Sto) : Nat → D → D → Prop where
  | non {n : Nat} : Sm S (n + 1) .non .non
  | bl {n : Nat} {b : Bool} : Sm S (n + 1) (.bl b) (.bl b)
  | int {n : Nat} {i : Int} : Sm S (n + 1) (.int i) (.int i)
  | str {n : Nat} {x : Str} (h : PySem.PyData.strOk x = true) : Sm S (n + 1) (.str x) (.str x)
  | tup {n : Nat} {xs ys : List D} (hl : xs.length = ys.length) (hm : xs.length < LIM) (h : ∀ (k : Nat) (x y : D), xs[k]? = some x → ys[k]? = some y → Sm S n x y) : Sm S (n + 1) (.tup xs) (.tup ys)
  | lst {n a b : Nat} {xs ys : List D} (ha : lstOf S a = some xs) (hb : lstOf S b = some ys) (hl : xs.length = ys.length) (hm : xs.length < LIM) (h : ∀ (k : Nat) (x y : D), xs[k]? = some x → ys[k]? = some y → Sm S n x y) : Sm S (n + 1) (.ref a) (.ref b)
theorem Sm.old {S T : Sto} {n : Nat} {d e : D} (h : Sm S n d e) : Sm (S ++ T) n d e := by
  induction h with
  | non => exact .non
  | bl => exact .bl
  | int => exact .int
  | str h => exact .str h
  | tup hl hm h ih => exact .tup hl hm ih
  | lst ha hb hl hm h ih => exact .lst (lstOf_old ha) (lstOf_old hb) hl hm ih
theorem atI_jn {α : Type} {xs : List α} {k : Nat} {x : α} (h : xs[k]? = some x) : atI xs (k : Int) = some x := by
  have := (List.getElem?_eq_some_iff.mp h).1
  unfold atI ixN
  rw [if_pos (by omega), if_pos (by omega)]
  exact h
theorem eqv_str {x : Str} : PyData.eqv (.str x) (.str x) = true := by simp [PyData.eqv]
theorem atI_old {xs : List D} {k : Nat} (h : k < xs.length) : ∃ x, xs[k]? = some x := ⟨xs[k], List.getElem?_eq_getElem h⟩
theorem rep_bl {k : Nat} : List.replicate k (D.bl true) = (List.replicate k true).map D.bl := by simp
end
/-! amounts -/
structure Am (n : Nat) (q : Rat) : Prop where
  num : Sz n q.num
  den : Sz n q.den
theorem rat_add (p q : Rat) : p + q = Rat.divInt (p.num * q.den + q.num * p.den) (p.den * q.den) := by
  rw [Rat.add_def', ← Int.natCast_mul]; rfl
theorem rat_sub (p q : Rat) : p - q = Rat.divInt (p.num * q.den - q.num * p.den) (p.den * q.den) := by
  rw [Rat.sub_def', ← Int.natCast_mul]; rfl
theorem rat_mul (p q : Rat) : p * q = Rat.divInt (p.num * q.num) (p.den * q.den) := by
  rw [Rat.mul_def', ← Int.natCast_mul]; rfl
theorem rat_div (p q : Rat) : p / q = Rat.divInt (p.num * q.den) (p.den * q.num) := by
  rw [Rat.div_def, Rat.inv_def]
  conv => lhs; rw [← Rat.num_divInt_den p]
  rw [Rat.divInt_mul_divInt]
theorem den_pos (q : Rat) : (0 : Int) < q.den := by have := q.den_pos; omega
theorem Am.of {a b : Int} {n : Nat} (hb : b ≠ 0) (h : Sz n a) (h' : Sz n b) : Am n (Rat.divInt a b) := ⟨(divInt_sz hb h h').1, (divInt_sz hb h h').2⟩
theorem Am.mono {n m : Nat} {q : Rat} (h : Am n q) (hm : n ≤ m) : Am m q := ⟨h.num.mono hm, h.den.mono hm⟩
theorem mul_pos' {a b : Int} (h : 0 < a) (h' : 0 < b) : 0 < a * b := Int.mul_pos h h'
theorem Am.add {n m : Nat} {p q : Rat} (h : Am n p) (h' : Am m q) : Am (n + m + 1) (p + q) := by
  rw [rat_add]
  exact .of (Int.ne_of_gt (mul_pos' (den_pos p) (den_pos q))) ((h.num.mul h'.den).add (n + m + 1) (h'.num.mul h.den)) ((h.den.mul h'.den).mono (by omega))
theorem Am.sub {n m : Nat} {p q : Rat} (h : Am n p) (h' : Am m q) : Am (n + m + 1) (p - q) := by
  rw [rat_sub]
  exact .of (Int.ne_of_gt (mul_pos' (den_pos p) (den_pos q))) ((h.num.mul h'.den).sub (n + m + 1) (h'.num.mul h.den)) ((h.den.mul h'.den).mono (by omega))
theorem Am.mul {n m : Nat} {p q : Rat} (h : Am n p) (h' : Am m q) : Am (n + m) (p * q) := by
  rw [rat_mul]
  exact .of (Int.ne_of_gt (mul_pos' (den_pos p) (den_pos q))) (h.num.mul h'.num) (h.den.mul h'.den)
theorem num_ne {q : Rat} (h : q ≠ 0) : q.num ≠ 0 := fun e => h (Rat.num_eq_zero.mp e)
theorem Am.div {n m : Nat} {p q : Rat} (h : Am n p) (h' : Am m q) (hq : q ≠ 0) : Am (n + m) (p / q) := by
  rw [rat_div]
  exact .of (Int.mul_ne_zero (Int.ne_of_gt (den_pos p)) (num_ne hq)) (h.num.mul h'.den) (h.den.mul h'.num)
theorem Am.neg {n : Nat} {p : Rat} (h : Am n p) : Am n (-p) := ⟨h.num.neg, h.den⟩
theorem Am.int {n : Nat} {i : Int} (h : Sz n i) (hn : 0 < n) : Am n (i : Rat) := ⟨by simpa using h, by simpa using Sz.lit (n := n) (i := 1) (by
  have : 2 ^ 1 ≤ 2 ^ n := Nat.pow_le_pow_right (by decide) hn
  simp; omega)⟩
theorem aD_int {i : Int} : aD (i : Rat) = .tup [.int i, .int 1] := by simp [aD]
theorem aD_zero : aD 0 = .tup [.int 0, .int 1] := rfl
theorem aD_one : aD 1 = .tup [.int 1, .int 1] := rfl
theorem Sm.aD {S : Sto} {n : Nat} {p : Rat} : Sm S (n + 2) (aD p) (aD p) := .tup rfl (lim_of (by simp)) fun k x y hx hy => by
  rw [hx] at hy
  cases hy
  match k, hx with
  | 0, hx => cases hx; exact .int
  | 1, hx => cases hx; exact .int
  | k + 2, hx => simp at hx
theorem Sm.lsts {S : Sto} {n a b : Nat} {xs : List D} (ha : lstOf S a = some xs) (hb : lstOf S b = some xs) (hl : xs.length < 1000000) (h : ∀ x ∈ xs, Sm S n x x) : Sm S (n + 1) (.ref a) (.ref b) := .lst ha hb rfl hl fun k x y hx hy => by
  rw [hx] at hy
  cases hy
  exact h x (List.mem_of_getElem? hx)
theorem wp_ixA0 {p : Rat} {Q : D → Sto → Prop} {X : Str → Sto → Prop} {S : Sto} (h : Q (.int p.num) S) : wp (oIx (aD p) (.int 0) S) Q X := wp_ixT rfl h
instance i_wp_ixA0 {p : Rat} {Q : D → Sto → Prop} {X : Str → Sto → Prop} {S : Sto} : St (wp (oIx (aD p) (.int 0) S) Q X) (Q (.int p.num) S) := ⟨fun h => wp_ixA0 h⟩
theorem wp_ixA1 {p : Rat} {Q : D → Sto → Prop} {X : Str → Sto → Prop} {S : Sto} (h : Q (.int p.den) S) : wp (oIx (aD p) (.int 1) S) Q X := wp_ixT rfl h
instance i_wp_ixA1 {p : Rat} {Q : D → Sto → Prop} {X : Str → Sto → Prop} {S : Sto} : St (wp (oIx (aD p) (.int 1) S) Q X) (Q (.int p.den) S) := ⟨fun h => wp_ixA1 h⟩
theorem parts_ok {ps : List Int} (h : ps.all (fun p => decide (0 < p) && decide (p.natAbs < 2 ^ 200)) = true) : ∀ p ∈ ps, 0 < p ∧ Sz 300 p := fun p hp => by
  have := List.all_eq_true.mp h p hp
  simp only [Bool.and_eq_true, decide_eq_true_eq] at this
  exact ⟨this.1, Sz.mono (n := 200) ⟨this.2⟩ (by decide)⟩
theorem Sm.aDs {S : Sto} {n a b : Nat} {ps : List Rat} (ha : lstOf S a = some (ps.map J.aD)) (hb : lstOf S b = some (ps.map J.aD)) (hl : ps.length < 1000000 := by simp) : Sm S (n + 3) (.ref a) (.ref b) := .lsts ha hb (by simpa using hl) fun x hx => by
  obtain ⟨p, _, rfl⟩ := List.mem_map.mp hx
  exact .aD
theorem rat_eq_iff {p q : Rat} : p = q ↔ p.num = q.num ∧ (p.den : Int) = q.den :=
  ⟨fun h => by rw [h]; exact ⟨rfl, rfl⟩, fun ⟨h1, h2⟩ => Rat.ext h1 (by omega)⟩
theorem eqv_aD {p q : Rat} : PyData.eqv (.tuple [.int p.num, .int p.den]) (.tuple [.int q.num, .int q.den]) = decide (p = q) := by
  rw [Bool.eq_iff_iff]
  simp [PyData.eqv, PyData.eqvAll, rat_eq_iff]
theorem toP_aD {S : Sto} {p : Rat} : toP 8 S (aD p) = some (.tuple [.int p.num, .int p.den]) := rfl
theorem wp_eqA {p q : Rat} {Q : D → Sto → Prop} {X : Str → Sto → Prop} {S : Sto} (h : Q (.bl (decide (p = q))) S) : wp (oEq (aD p) (aD q) S) Q X := wp_eqD toP_aD toP_aD (by rw [eqv_aD]; exact h)
instance i_wp_eqA {p q : Rat} {Q : D → Sto → Prop} {X : Str → Sto → Prop} {S : Sto} : St (wp (oEq (aD p) (aD q) S) Q X) (Q (.bl (decide (p = q))) S) := ⟨fun h => wp_eqA h⟩
theorem wp_neA {p q : Rat} {Q : D → Sto → Prop} {X : Str → Sto → Prop} {S : Sto} (h : Q (.bl (!decide (p = q))) S) : wp (oNe (aD p) (aD q) S) Q X := wp_neD toP_aD toP_aD (by rw [eqv_aD]; exact h)
instance i_wp_neA {p q : Rat} {Q : D → Sto → Prop} {X : Str → Sto → Prop} {S : Sto} : St (wp (oNe (aD p) (aD q) S) Q X) (Q (.bl (!decide (p = q))) S) := ⟨fun h => wp_neA h⟩
theorem wp_eqA0 {p : Rat} {Q : D → Sto → Prop} {X : Str → Sto → Prop} {S : Sto} (h : Q (.bl (decide (p = 0))) S) : wp (oEq (aD p) (.tup [.int 0, .int 1]) S) Q X := wp_eqA h
instance i_wp_eqA0 {p : Rat} {Q : D → Sto → Prop} {X : Str → Sto → Prop} {S : Sto} : St (wp (oEq (aD p) (.tup [.int 0, .int 1]) S) Q X) (Q (.bl (decide (p = 0))) S) := ⟨fun h => wp_eqA0 h⟩
theorem wp_neA0 {p : Rat} {Q : D → Sto → Prop} {X : Str → Sto → Prop} {S : Sto} (h : Q (.bl (!decide (p = 0))) S) : wp (oNe (aD p) (.tup [.int 0, .int 1]) S) Q X := wp_neA h
instance i_wp_neA0 {p : Rat} {Q : D → Sto → Prop} {X : Str → Sto → Prop} {S : Sto} : St (wp (oNe (aD p) (.tup [.int 0, .int 1]) S) Q X) (Q (.bl (!decide (p = 0))) S) := ⟨fun h => wp_neA0 h⟩
theorem wp_count {n : Nat} {xs : List D} {d : D} {Q : D → Sto → Prop} {X : Str → Sto → Prop} {S : Sto} (e : lstOf S n = some xs) (hf : flatD d = true ∧ xs.all flatD = true) (h : Q (.int ((xs.countP fun x => eqD x d : Nat) : Int)) S) : wp (mCount (.ref n) [d] S) Q X := by
  have e2 : mCount (.ref n) [d] S = .ok (.int ((xs.countP fun x => eqD x d : Nat) : Int)) S := by simp only [mCount, e, hf, and_self, if_true]
  exact wp_eq e2 h
theorem below_iff {p q : Rat} : p.num * q.den < q.num * p.den ↔ p < q := (Rat.lt_iff p q).symm
theorem strOk_of (x : String) : PySem.PyData.strOk (Str.ofString x) = true := by
  rw [Str.ofString_eq_toList]
  unfold PySem.PyData.strOk
  have h2 : ∀ c : Char, c.toNat < 0x110000 := fun c => by
    have := c.valid
    unfold UInt32.isValidChar Nat.isValidChar at this
    unfold Char.toNat
    omega
  rw [List.size_toArray, List.all_toArray']
  · rw [List.all_map, List.all_eq_true]
    intro c _
    exact decide_eq_true (h2 c)
  · simp
theorem strOk_int (i : Int) : PySem.PyData.strOk (Str.ofString (toString i)) = true := strOk_of _
theorem strOk_app {x y : Str} (hx : PySem.PyData.strOk x = true) (hy : PySem.PyData.strOk y = true) : PySem.PyData.strOk (x ++ y) = true := by
  unfold PySem.PyData.strOk at *
  show (x.cps ++ y.cps).all _ = true
  rw [Array.all_append, hx, hy]
  rfl
theorem Sz.log2 {n : Nat} {i : Int} (h : Sz n i) (hn : n ≤ 1900) : i.natAbs.log2 < 1920 := by
  by_cases q : i = 0
  · subst q; decide
  · have := (Nat.log2_lt (n := i.natAbs) (k := n) (by omega)).mpr h.lt
    omega
theorem len_int {i : Int} (h : i.natAbs.log2 < 1920) : (Str.ofString (toString i)).length ≤ 2000 := by
  have e := int_text_length_le (k := 1920) (by decide) h
  rw [PySem.ofString_length]; omega
theorem wp_strI {i : Int} {Q : D → Sto → Prop} {X : Str → Sto → Prop} {S : Sto} (h : i.natAbs.log2 < 1920) (q : Q (.str (Str.ofString (toString i))) S) : wp (bStr [.int i] S) Q X := by
  have e : bStr [.int i] S = .ok (.str (Str.ofString (toString i))) S := by simp only [bStr, h, if_true]
  exact wp_eq e q
/-- an amount as a text -/
def shw (p : Rat) : Str := if (p.den : Int) = 1 then Str.ofString (toString p.num) else Str.ofString (toString p.num) ++ ("/" : Str) ++ Str.ofString (toString (p.den : Int))
theorem shw_ok (p : Rat) : PySem.PyData.strOk (shw p) = true := by
  unfold shw
  split
  · exact strOk_int _
  · exact strOk_app (strOk_app (strOk_int _) (strOk_of _)) (strOk_int _)
theorem aD_one_over {d : Int} (hd : 0 < d) : aD (Rat.divInt 1 d) = .tup [.int 1, .int d] := by
  obtain ⟨e1, e2⟩ := divInt_of (n := 1) hd
  rw [Int.one_gcd] at e1 e2
  unfold aD
  rw [e1, e2]
  simp
end J

set_option Elab.async false
set_option linter.all false
set_option maxRecDepth 100000
set_option maxHeartbeats 4000000
namespace J
open PySem PySem.Spec PyProof.Rows L2
/-! ### more steps -/
theorem atI_k {α : Type} {xs : List α} {i : Int} {k : Nat} {x : α} (hi : i = (k : Nat)) (h : xs[k]? = some x) : atI xs i = some x := by subst hi; exact atI_jn h
theorem atI_last {α : Type} {xs : List α} {x : α} (h : xs.getLast? = some x) : atI xs (-1) = some x := by
  rw [List.getLast?_eq_getElem?] at h
  have := (List.getElem?_eq_some_iff.mp h).1
  unfold atI ixN
  rw [if_neg (by decide), if_pos (by omega)]
  rw [show (-1 + (xs.length : Int)).toNat = xs.length - 1 by omega]
  exact h
theorem map_at {α β : Type} {f : α → β} {xs : List α} {k : Nat} {x : α} (h : xs[k]? = some x) : (xs.map f)[k]? = some (f x) := by rw [List.getElem?_map, h]; rfl
theorem at_lt {α : Type} {xs : List α} {k : Nat} (h : k < xs.length) : ∃ x, xs[k]? = some x := ⟨xs[k], List.getElem?_eq_getElem h⟩
theorem drop_at {α : Type} {xs : List α} {k : Nat} {x : α} (h : xs[k]? = some x) : xs.drop k = x :: xs.drop (k + 1) := by
  have q := (List.getElem?_eq_some_iff.mp h).1
  rw [List.drop_eq_getElem_cons q]
  rw [List.getElem?_eq_getElem q] at h
  cases h
  rfl
section
variable {Q : D → Sto → Prop} {X : Str → Sto → Prop} {S : Sto} {n m : Nat} {xs : List D} {d : D}
theorem wp_intB {b : Bool} (h : Q (.int (if b then 1 else 0)) S) : wp (bInt [.bl b] S) Q X := wp_eq rfl h
instance i_wp_intB {b : Bool} : St (wp (bInt [.bl b] S) Q X) (Q (.int (if b then 1 else 0)) S) := ⟨fun h => wp_intB h⟩
theorem wp_intI {i : Int} (h : Q (.int i) S) : wp (bInt [.int i] S) Q X := wp_eq rfl h
instance i_wp_intI {i : Int} : St (wp (bInt [.int i] S) Q X) (Q (.int i) S) := ⟨fun h => wp_intI h⟩
theorem wp_insert {i : Int} (e : lstOf S n = some xs) (hl : xs.length < LIM ∧ 0 ≤ i ∧ i < LIM) (h : Q .non (setL S n (xs.take i.toNat ++ [d] ++ xs.drop i.toNat))) : wp (mInsert (.ref n) [.int i, d] S) Q X := by
  have e2 : mInsert (.ref n) [.int i, d] S = .ok .non (setL S n (xs.take i.toNat ++ [d] ++ xs.drop i.toNat)) := by simp only [mInsert, e]; rw [if_pos hl]
  exact wp_eq e2 h
theorem wp_insert0 (e : lstOf S n = some xs) (hl : xs.length < LIM) (h : Q .non (setL S n (d :: xs))) : wp (mInsert (.ref n) [.int 0, d] S) Q X := wp_insert e ⟨hl, by decide, by decide⟩ h
theorem toP_list {k : Nat} {ps : List PyData} (e : lstOf S n = some xs) (h : xs.mapM (toP k S) = some ps) : toP (k + 1) S (.ref n) = some (.list ps) := by simp only [toP, e, h]; rfl
theorem mapM_toP {α : Type} {f : α → D} {p : α → PyData} {k : Nat} (h : ∀ a, toP k S (f a) = some (p a)) : ∀ as : List α, (as.map f).mapM (toP k S) = some (as.map p)
  | [] => rfl
  | a :: r => by rw [List.map_cons, List.mapM_cons, h a, mapM_toP h r]; rfl
theorem toP_ints {k : Nat} {ns : List Int} (e : lstOf S n = some (ns.map D.int)) : toP (k + 2) S (.ref n) = some (.list (ns.map .int)) := toP_list e (mapM_toP (fun _ => rfl) ns)
theorem toP_aD' {k : Nat} {p : Rat} : toP (k + 2) S (aD p) = some (.tuple [.int p.num, .int p.den]) := rfl
theorem toP_aDs {k : Nat} {ps : List Rat} (e : lstOf S n = some (ps.map aD)) : toP (k + 3) S (.ref n) = some (.list (ps.map fun p => .tuple [.int p.num, .int p.den])) := toP_list e (mapM_toP (fun _ => rfl) ps)
theorem eqvAll_nil {ps : List PyData} : PyData.eqv (.list ps) (.list []) = decide (ps = []) := by
  cases ps <;> simp [PyData.eqv, PyData.eqvAll]
theorem wp_neNil {ps : List PyData} (h1 : toP 8 S (.ref n) = some (.list ps)) (e2 : lstOf S m = some []) (h : Q (.bl (!decide (ps = []))) S) : wp (oNe (.ref n) (.ref m) S) Q X :=
  wp_neD h1 (toP_list (ps := []) e2 rfl) (by rw [eqvAll_nil]; exact h)
theorem wp_eqNil {ps : List PyData} (h1 : toP 8 S (.ref n) = some (.list ps)) (e2 : lstOf S m = some []) (h : Q (.bl (decide (ps = []))) S) : wp (oEq (.ref n) (.ref m) S) Q X :=
  wp_eqD h1 (toP_list (ps := []) e2 rfl) (by rw [eqvAll_nil]; exact h)
end
/-! the store grows -/
theorem setL_tail {S T : Sto} {n : Nat} {xs : List D} (h : S.length ≤ n) : setL (S ++ T) n xs = S ++ setL T (n - S.length) xs := by
  unfold setL
  rw [List.set_append, if_neg (by omega)]
theorem setL_mid {S T : Sto} {c c' : List D} : setL (S ++ [.lst c] ++ T) S.length c' = S ++ [.lst c'] ++ T := by
  rw [setL_old (by simp), setL_new]
theorem lstOf_mid {S T : Sto} {c : List D} : lstOf (S ++ [.lst c] ++ T) S.length = some c := lstOf_old lstOf_new
/-! floors -/
theorem lt_floor (q : Rat) : q < ((q.num / q.den + 1 : Int) : Rat) := by
  have h := Int.lt_ediv_add_one_mul_self q.num (den_pos q)
  generalize q.num / (q.den : Int) + 1 = z at h
  rw [Rat.lt_iff, Rat.num_intCast, Rat.den_intCast]
  simpa using h
theorem floor_nn {q : Rat} (h : 0 ≤ q) : 0 ≤ q.num / (q.den : Int) := Int.ediv_nonneg (Rat.num_nonneg.mpr h) (Int.le_of_lt (den_pos q))
end J
namespace J
open PySem PySem.Spec PyProof.Rows L2
theorem cutD_nat {α : Type} {xs : List α} {a b : Nat} (hab : a ≤ b) (hb : b ≤ xs.length) : cutD xs (some (a : Int)) (some (b : Int)) = (xs.drop a).take (b - a) := by
  unfold cutD
  rw [HT.sIx_nat, HT.sIx_nat, Nat.min_eq_left hb, Nat.min_eq_left (by omega)]
theorem cutD_from {α : Type} {xs : List α} {a : Nat} (ha : a ≤ xs.length) : cutD xs (some (a : Int)) none = xs.drop a := by
  unfold cutD
  rw [HT.sIx_nat, Nat.min_eq_left ha]
  show (xs.drop a).take (xs.length - a) = _
  rw [List.take_of_length_le (by simp)]
theorem cutD_to {α : Type} {xs : List α} {b : Nat} (hb : b ≤ xs.length) : cutD xs none (some (b : Int)) = xs.take b := by
  unfold cutD
  rw [HT.sIx_nat, Nat.min_eq_left hb]
  rfl
theorem divInt_pos {a b : Int} (ha : 0 < a) (hb : 0 < b) : 0 < Rat.divInt a b := by
  have h := divInt_eq (a := a) (b := b) (by omega)
  have h1 := den_pos (Rat.divInt a b)
  have h2 : 0 < (Rat.divInt a b).num * b := by rw [h]; exact Int.mul_pos ha h1
  have h3 : 0 < (Rat.divInt a b).num := by
    by_cases q : 0 < (Rat.divInt a b).num
    · exact q
    · have := Int.mul_nonpos_of_nonpos_of_nonneg (show (Rat.divInt a b).num ≤ 0 by omega) (show 0 ≤ b by omega)
      omega
  rw [Rat.lt_iff]
  simpa using h3
section
variable {X : Str → Sto → Prop} {S : Sto}
theorem g_wp_mulL {n : Nat} {e : D} {Q : D → Sto → Prop} (h : wp (oMul (.ref n) e S) Q X) : wp (oMul (.ref n) e S) Q X := h
theorem g_wp_addL {n m : Nat} {Q : D → Sto → Prop} (h : wp (oAdd (.ref n) (.ref m) S) Q X) : wp (oAdd (.ref n) (.ref m) S) Q X := h
end
end J
namespace J
open PySem PySem.Spec PyProof.Rows L2
section
variable {X : Str → Sto → Prop} {S : Sto} {ρ : Env} {fa fb fc : IE} {QS : Src → Sto → Prop}
theorem wp_sqR3 (q : wp (fa ρ S) (fun d S1 => wp (fb ρ S1) (fun e S2 => wp (fc ρ S2) (fun c S3 => isI (fun i _ => isI (fun j _ => isI (fun k _ => small i ∧ small j ∧ k = -1 ∧ QS ⟨dwnD i (i - j).toNat, fun _ => True⟩ S3) c S3) e S3) d S3) X) X) X) : wp (sqR3 fa fb fc ρ S) QS X := by
  unfold sqR3
  exact wp_bind (wp_mono q (fun d S h => wp_bind (wp_mono h (fun e S h => wp_bind (wp_mono h (fun c S h => by
    cases d <;> try exact h.elim
    cases e <;> try exact h.elim
    cases c <;> try exact h.elim
    exact wp_ift ⟨h.1, h.2.1, h.2.2.1⟩ (wp_ok h.2.2.2)) fun _ _ h => h)) fun _ _ h => h)) fun _ _ h => h)
instance i_wp_sqR3  : St (wp (sqR3 fa fb fc ρ S) QS X) (wp (fa ρ S) (fun d S1 => wp (fb ρ S1) (fun e S2 => wp (fc ρ S2) (fun c S3 => isI (fun i _ => isI (fun j _ => isI (fun k _ => small i ∧ small j ∧ k = -1 ∧ QS ⟨dwnD i (i - j).toNat, fun _ => True⟩ S3) c S3) e S3) d S3) X) X) X) := ⟨fun h => wp_sqR3 h⟩
def ref2 (Q : Nat → Nat → Prop) : D → D → Prop
  | .ref n, .ref m => Q n m
  | _, _ => False
theorem wp_sqZp (q : wp (fa ρ S) (fun d S1 => wp (fb ρ S1) (fun e S2 => ref2 (fun n m => ∃ xs ys, lstOf S2 n = some xs ∧ lstOf S2 m = some ys ∧ QS ⟨zipD xs ys, fun S => lstOf S n = some xs ∧ lstOf S m = some ys⟩ S2) d e) X) X) : wp (sqZp fa fb ρ S) QS X := by
  unfold sqZp
  exact wp_bind (wp_mono q (fun d S h => wp_bind (wp_mono h (fun e S h => by
    cases d <;> try exact h.elim
    cases e <;> try exact h.elim
    obtain ⟨xs, ys, h1, h2, h3⟩ := h
    dsimp only
    rw [h1, h2]
    exact wp_ok h3) fun _ _ h => h)) fun _ _ h => h)
instance i_wp_sqZp  : St (wp (sqZp fa fb ρ S) QS X) (wp (fa ρ S) (fun d S1 => wp (fb ρ S1) (fun e S2 => ref2 (fun n m => ∃ xs ys, lstOf S2 n = some xs ∧ lstOf S2 m = some ys ∧ QS ⟨zipD xs ys, fun S => lstOf S n = some xs ∧ lstOf S m = some ys⟩ S2) d e) X) X) := ⟨fun h => wp_sqZp h⟩
theorem ref2_mk {S : Sto} {n m : Nat} {xs ys : List D} (h1 : lstOf S n = some xs) (h2 : lstOf S m = some ys) (h : QS ⟨zipD xs ys, fun S => lstOf S n = some xs ∧ lstOf S m = some ys⟩ S) : ref2 (fun n m => ∃ xs ys, lstOf S n = some xs ∧ lstOf S m = some ys ∧ QS ⟨zipD xs ys, fun S => lstOf S n = some xs ∧ lstOf S m = some ys⟩ S) (.ref n) (.ref m) := ⟨xs, ys, h1, h2, h⟩
theorem g_ref2 {n m : Nat} {P : Nat → Nat → Prop} (h : ref2 P (.ref n) (.ref m)) : ref2 P (.ref n) (.ref m) := h
theorem wp_sqEn (q : wp (fa ρ S) (fun d S1 => ∃ n xs, d = .ref n ∧ lstOf S1 n = some xs ∧ QS ⟨enumD 0 xs, fun S => lstOf S n = some xs⟩ S1) X) : wp (sqEn fa ρ S) QS X := by
  unfold sqEn
  exact wp_bind (wp_mono q (fun d S h => by
    obtain ⟨n, xs, rfl, h1, h3⟩ := h
    dsimp only
    rw [h1]
    exact wp_ok h3) fun _ _ h => h)
theorem zipD_at : ∀ {xs ys : List D} {k : Nat} {d : D}, (zipD xs ys)[k]? = some d → ∃ x y, xs[k]? = some x ∧ ys[k]? = some y ∧ d = .tup [x, y]
  | [], _, _, _, h => by simp [zipD] at h
  | _ :: _, [], _, _, h => by simp [zipD] at h
  | x :: xs, y :: ys, 0, d, h => by simp [zipD] at h; exact ⟨x, y, rfl, rfl, h.symm⟩
  | x :: xs, y :: ys, k + 1, d, h => by
    simp only [zipD, List.getElem?_cons_succ] at h
    obtain ⟨a, b, h1, h2, h3⟩ := zipD_at (xs := xs) (ys := ys) (k := k) h
    exact ⟨a, b, by simpa using h1, by simpa using h2, h3⟩
end
theorem wp_eqA1 {p : Rat} {Q : D → Sto → Prop} {X : Str → Sto → Prop} {S : Sto} (h : Q (.bl (decide (p = 1))) S) : wp (oEq (aD p) (.tup [.int 1, .int 1]) S) Q X := wp_eqA (q := 1) h
instance i_wp_eqA1 {p : Rat} {Q : D → Sto → Prop} {X : Str → Sto → Prop} {S : Sto} : St (wp (oEq (aD p) (.tup [.int 1, .int 1]) S) Q X) (Q (.bl (decide (p = 1))) S) := ⟨fun h => wp_eqA1 h⟩
theorem wp_neA1 {p : Rat} {Q : D → Sto → Prop} {X : Str → Sto → Prop} {S : Sto} (h : Q (.bl (!decide (p = 1))) S) : wp (oNe (aD p) (.tup [.int 1, .int 1]) S) Q X := wp_neA (q := 1) h
instance i_wp_neA1 {p : Rat} {Q : D → Sto → Prop} {X : Str → Sto → Prop} {S : Sto} : St (wp (oNe (aD p) (.tup [.int 1, .int 1]) S) Q X) (Q (.bl (!decide (p = 1))) S) := ⟨fun h => wp_neA1 h⟩
end J

set_option Elab.async false
set_option linter.all false
set_option maxRecDepth 100000
set_option maxHeartbeats 4000000
namespace J
open PySem PySem.Spec PyProof.Rows L2
/-! ### the mathematics of hands that walk -/
/-- the paces at which all walk -/
def spd : List Int → List Rat → List Int
  | p :: ps, x :: xs => (match spd ps xs, xs with
    | s :: _, y :: _ => if x = y then (if s < p then s else p) else p
    | _, _ => p) :: spd ps xs
  | _, _ => []
theorem spd_len : ∀ {ps : List Int} {xs : List Rat}, xs.length = ps.length → (spd ps xs).length = ps.length
  | [], _, _ => by simp [spd]
  | p :: ps, x :: xs, h => by simp only [spd, List.length_cons, spd_len (ps := ps) (xs := xs) (by simpa using h)]
  | p :: ps, [], h => by simp at h
/-- v is the least of the paces from a on, below j, of those at the place of a -/
structure IsM (ps : List Int) (xs : List Rat) (a j : Nat) (v : Int) : Prop where
  ex : ∃ k, a ≤ k ∧ k < j ∧ xs[k]? = xs[a]? ∧ ps[k]? = some v
  le : ∀ k p, a ≤ k → k < j → xs[k]? = xs[a]? → ps[k]? = some p → v ≤ p
theorem IsM.uniq {ps : List Int} {xs : List Rat} {a j : Nat} {v w : Int} (h : IsM ps xs a j v) (h' : IsM ps xs a j w) : v = w := by
  obtain ⟨k, h1, h2, h3, h4⟩ := h.ex
  obtain ⟨k', h1', h2', h3', h4'⟩ := h'.ex
  have := h.le k' w h1' h2' h3' h4'
  have := h'.le k v h1 h2 h3 h4
  omega
theorem IsM.cons {ps : List Int} {xs : List Rat} {a j : Nat} {v p : Int} {x : Rat} (h : IsM ps xs a j v) : IsM (p :: ps) (x :: xs) (a + 1) (j + 1) v := by
  obtain ⟨k, h1, h2, h3, h4⟩ := h.ex
  refine ⟨⟨k + 1, by omega, by omega, by simpa using h3, by simpa using h4⟩, fun k' p' q1 q2 q3 q4 => ?_⟩
  obtain ⟨k'', rfl⟩ : ∃ z, k' = z + 1 := ⟨k' - 1, by omega⟩
  exact h.le k'' p' (by omega) (by omega) (by simpa using q3) (by simpa using q4)
theorem spd_isM : ∀ {ps : List Int} {xs : List Rat} {a : Nat} {v : Int}, xs.length = ps.length → xs.Pairwise (· ≤ ·) → (spd ps xs)[a]? = some v → IsM ps xs a ps.length v
  | [], _, _, _, _, _, e => by simp [spd] at e
  | p :: ps, [], _, _, h, _, _ => by simp at h
  | p :: ps, x :: xs, a + 1, v, h, hs, e => by
    simp only [spd, List.getElem?_cons_succ] at e
    exact (spd_isM (by simpa using h) (List.pairwise_cons.mp hs).2 e).cons
  | p :: ps, x :: xs, 0, v, h, hs, e => by
    have hl : xs.length = ps.length := by simpa using h
    obtain ⟨hx, hs'⟩ := List.pairwise_cons.mp hs
    simp only [spd, List.getElem?_cons_zero, Option.some.injEq] at e
    have far : (∀ y z, xs = y :: z → x ≠ y) → IsM (p :: ps) (x :: xs) 0 (p :: ps).length p := fun hne => by
      refine ⟨⟨0, by omega, by simp, rfl, rfl⟩, fun k p' _ hk h3 h4 => ?_⟩
      cases k with
      | zero => simp at h4; omega
      | succ k =>
        simp at h3
        cases xs with
        | nil => simp at h3
        | cons y z =>
          have h5 := hx y (by simp)
          have h6 : y ≤ x := by
            cases k with
            | zero => simp at h3; subst h3; exact Rat.le_refl
            | succ k => exact (List.pairwise_cons.mp hs').1 x (List.mem_of_getElem? (by simpa using h3))
          exact absurd (Rat.le_antisymm h5 h6) (hne y z rfl)
    cases hR : spd ps xs with
    | nil =>
      rw [hR] at e
      dsimp only at e
      subst e
      refine far fun y z e => ?_
      have := spd_len hl
      rw [hR] at this
      rw [e] at hl
      simp at this hl
      omega
    | cons s r =>
      rw [hR] at e
      cases xs with
      | nil =>
        dsimp only at e
        subst e
        exact far fun y z e => by cases e
      | cons y z =>
        dsimp only at e
        split at e
        · rename_i hxy
          have ih : IsM ps (y :: z) 0 ps.length s := spd_isM hl hs' (by rw [hR]; rfl)
          have hl' : (p :: ps).length = ps.length + 1 := rfl
          split at e
          · rename_i hsp
            subst e
            obtain ⟨k, h1, h2, h3, h4⟩ := ih.ex
            refine ⟨⟨k + 1, by omega, by rw [hl']; omega, by simp at h3 ⊢; rw [h3, hxy], by simpa using h4⟩, fun k' p' _ q2 q3 q4 => ?_⟩
            cases k' with
            | zero => simp at q4; omega
            | succ k' => exact ih.le k' p' (by omega) (by rw [hl'] at q2; omega) (by simp at q3 ⊢; rw [q3, hxy]) (by simpa using q4)
          · rename_i hsp
            subst e
            refine ⟨⟨0, by omega, by simp, rfl, rfl⟩, fun k' p' _ q2 q3 q4 => ?_⟩
            cases k' with
            | zero => simp at q4; omega
            | succ k' =>
              have := ih.le k' p' (by omega) (by rw [hl'] at q2; omega) (by simp at q3 ⊢; rw [q3, hxy]) (by simpa using q4)
              omega
        · rename_i hxy
          subst e
          exact far fun y' z' e => by cases e; exact hxy
/-- hands as they are drawn -/
structure Stand (len : Int) (ps : List Int) (xs : List Rat) : Prop where
  l : xs.length = ps.length
  h8 : ps.length ≤ 8
  p : ∀ p ∈ ps, 1 ≤ p ∧ p ≤ 12
  s : xs.Pairwise (· ≤ ·)
  x : ∀ x ∈ xs, 0 ≤ x ∧ x < (len : Rat) ∧ Am 100 x
  n : 1 ≤ len ∧ Sz 120 len
theorem rat_divI (p : Rat) {k : Int} : p / (k : Rat) = Rat.divInt p.num (p.den * k) := by
  rw [rat_div, Rat.den_intCast, Rat.num_intCast]
  simp
theorem rat_mulI (p : Rat) {k : Int} : p * (k : Rat) = Rat.divInt (p.num * k) p.den := by
  rw [rat_mul, Rat.den_intCast, Rat.num_intCast]
  simp
/-- the hours after which the hand i comes to the next one, if it comes closer to one ahead -/
def cnd (xs : List Rat) (rs : List Int) (i : Nat) : Option Rat := match xs[i]?, xs[i + 1]?, rs[i]?, rs[i + 1]? with
  | some x, some y, some r, some s => if x ≠ y ∧ s < r then some ((y - x) / ((r - s : Int) : Rat)) else none
  | _, _, _, _ => none
def stp (c : Nat → Option Rat) (a : Rat) (i : Nat) : Rat := match c i with
  | some h => if h < a then h else a
  | none => a
/-- the hours till the meeting -/
def untl (len : Int) (ps : List Int) (xs : List Rat) : Rat := (List.range (ps.length - 1)).foldl (stp (cnd xs (spd ps xs))) (((len : Rat) - xs.getLastD 0) / (((spd ps xs).getLastD 1 : Int) : Rat))
theorem spd_bd : ∀ {ps : List Int} {xs : List Rat}, (∀ p ∈ ps, 1 ≤ p ∧ p ≤ 12) → ∀ r ∈ spd ps xs, 1 ≤ r ∧ r ≤ 12
  | [], _, _, r, hr => by simp [spd] at hr
  | p :: ps, [], _, r, hr => by simp [spd] at hr
  | p :: ps, x :: xs, h, r, hr => by
    have ih := spd_bd (ps := ps) (xs := xs) fun p hp => h p (by simp [hp])
    have hp := h p (by simp)
    simp only [spd, List.mem_cons] at hr
    rcases hr with hr | hr
    · subst hr
      cases hR : spd ps xs with
      | nil => exact hp
      | cons s t =>
        have := ih s (by rw [hR]; simp)
        cases xs with
        | nil => exact hp
        | cons y z =>
          dsimp only
          split
          · split <;> omega
          · exact hp
    · exact ih r hr
theorem Sz12 {r : Int} (h : 1 ≤ r ∧ r ≤ 12) : Sz 4 r := .of (b := 16) (by omega) (by omega) (by decide)
theorem rat_ne0 {k : Int} (h : 0 < k) : (k : Rat) ≠ 0 := fun e => by
  have : k = 0 := by exact_mod_cast e
  omega
theorem last_at {α : Type} {xs : List α} {d : α} (h : xs ≠ []) : ∃ x, xs.getLastD d = x ∧ xs.getLast? = some x ∧ xs[xs.length - 1]? = some x ∧ x ∈ xs := by
  have e := List.getLast?_eq_some_getLast h
  refine ⟨xs.getLast h, ?_, e, ?_, List.getLast_mem h⟩
  · rw [List.getLastD_eq_getLast?, e]; rfl
  · rw [← List.getLast?_eq_getElem?]; exact e
theorem cnd_am {n : Nat} {xs : List Rat} {rs : List Int} {i : Nat} {h : Rat} (hr : ∀ r ∈ rs, 1 ≤ r ∧ r ≤ 12) (hx : ∀ x ∈ xs, Am n x) (e : cnd xs rs i = some h) : Am (2 * n + 20) h := by
  unfold cnd at e
  split at e
  · rename_i x y r s h1 h2 h3 h4
    split at e
    · rename_i hc
      cases e
      have r1 := hr r (List.mem_of_getElem? h3)
      have r2 := hr s (List.mem_of_getElem? h4)
      exact (((hx y (List.mem_of_getElem? h2)).sub (hx x (List.mem_of_getElem? h1))).div (.int (n := 4) (.of (b := 16) (by omega) (by omega) (by decide)) (by decide)) (rat_ne0 (by omega))).mono (by omega)
    · cases e
  · cases e
theorem fold_am {n : Nat} {c : Nat → Option Rat} (hc : ∀ i h, c i = some h → Am n h) : ∀ (l : List Nat) (a : Rat), Am n a → Am n (l.foldl (stp c) a)
  | [], _, h => h
  | i :: l, a, h => by
    rw [List.foldl_cons]
    refine fold_am hc l _ ?_
    unfold stp
    split
    · rename_i h' e
      split
      · exact hc i h' e
      · exact h
    · exact h
theorem start_am {n : Nat} {len : Int} {ps : List Int} {xs : List Rat} (hl : xs.length = ps.length) (hne : ps ≠ []) (hp : ∀ p ∈ ps, 1 ≤ p ∧ p ≤ 12) (hx : ∀ x ∈ xs, Am n x) (hlen : Sz n len) (hn : 0 < n) : Am (2 * n + 20) (((len : Rat) - xs.getLastD 0) / (((spd ps xs).getLastD 1 : Int) : Rat)) := by
  obtain ⟨x, e1, _, _, m1⟩ := last_at (xs := xs) (d := 0) (fun e => hne (List.length_eq_zero_iff.mp (by rw [← hl, e]; rfl)))
  obtain ⟨r, e2, _, _, m2⟩ := last_at (xs := spd ps xs) (d := 1) (fun e => hne (List.length_eq_zero_iff.mp (by rw [← spd_len hl, e]; rfl)))
  rw [e1, e2]
  have hr := spd_bd hp r m2
  exact ((Am.int hlen hn).sub (hx x m1) |>.div (.int (n := 4) (Sz12 hr) (by decide)) (rat_ne0 (by omega))).mono (by omega)
theorem untl_am {n : Nat} {len : Int} {ps : List Int} {xs : List Rat} (hl : xs.length = ps.length) (hne : ps ≠ []) (hp : ∀ p ∈ ps, 1 ≤ p ∧ p ≤ 12) (hx : ∀ x ∈ xs, Am n x) (hlen : Sz n len) (hn : 0 < n) : Am (2 * n + 20) (untl len ps xs) :=
  fold_am (fun i h e => cnd_am (spd_bd hp) hx e) _ _ (start_am hl hne hp hx hlen hn)
/-- the places behind some hours without a meeting -/
def wlk (ps : List Int) (xs : List Rat) (h : Rat) : List Rat := List.zipWith (fun (x : Rat) (r : Int) => x + (r : Rat) * h) xs (spd ps xs)
theorem wlk_len {ps : List Int} {xs : List Rat} {h : Rat} (hl : xs.length = ps.length) : (wlk ps xs h).length = xs.length := by
  unfold wlk
  rw [List.length_zipWith, spd_len hl]
  omega
theorem wlk_at {ps : List Int} {xs : List Rat} {h : Rat} {i : Nat} {x : Rat} {r : Int} (h1 : xs[i]? = some x) (h2 : (spd ps xs)[i]? = some r) : (wlk ps xs h)[i]? = some (x + (r : Rat) * h) := by
  unfold wlk
  rw [List.getElem?_zipWith, h1, h2]
end J

set_option Elab.async false
set_option linter.all false
set_option maxRecDepth 100000
set_option maxHeartbeats 4000000
namespace J
open PySem PySem.Spec PyProof.Rows L2
/-! ### hands that walk: nothing overtakes till the meeting -/
theorem le_div_iff' {a b c : Rat} (h : 0 < c) : a ≤ b / c ↔ a * c ≤ b := by
  have := Rat.div_lt_iff (a := b) (b := c) (c := a) h
  grind
theorem ratI_pos {k : Int} (h : 0 < k) : (0 : Rat) < (k : Rat) := by
  rw [show (0 : Rat) = ((0 : Int) : Rat) from rfl, Rat.intCast_lt_intCast]; exact h
theorem ratI_le {i k : Int} (h : i ≤ k) : (i : Rat) ≤ (k : Rat) := Rat.intCast_le_intCast.mpr h
theorem cnd_cons {x : Rat} {xs : List Rat} {r : Int} {rs : List Int} {i : Nat} : cnd (x :: xs) (r :: rs) (i + 1) = cnd xs rs i := by
  unfold cnd
  simp only [List.getElem?_cons_succ]
theorem cnd_zero {x y : Rat} {xs : List Rat} {r s : Int} {rs : List Int} : cnd (x :: y :: xs) (r :: s :: rs) 0 = if x ≠ y ∧ s < r then some ((y - x) / ((r - s : Int) : Rat)) else none := by
  unfold cnd
  simp only [List.getElem?_cons_succ, List.getElem?_cons_zero]
theorem spd_cons {p : Int} {ps : List Int} {x y : Rat} {xs : List Rat} {s : Int} {rs : List Int} (h : spd ps (y :: xs) = s :: rs) : spd (p :: ps) (x :: y :: xs) = (if x = y then (if s < p then s else p) else p) :: s :: rs := by
  have e : spd (p :: ps) (x :: y :: xs) = (match spd ps (y :: xs), y :: xs with
    | s :: _, y :: _ => if x = y then (if s < p then s else p) else p
    | _, _ => p) :: spd ps (y :: xs) := rfl
  rw [e, h]
theorem spd_tl {p : Int} {ps : List Int} {x : Rat} {xs : List Rat} : ∃ r, spd (p :: ps) (x :: xs) = r :: spd ps xs := ⟨_, rfl⟩
theorem wlk_cons {p : Int} {ps : List Int} {x t : Rat} {xs : List Rat} {r : Int} {rs : List Int} (h : spd (p :: ps) (x :: xs) = r :: rs) : wlk (p :: ps) (x :: xs) t = (x + (r : Rat) * t) :: wlk ps xs t := by
  have h2 : spd ps xs = rs := by obtain ⟨r', e⟩ := spd_tl (p := p) (ps := ps) (x := x) (xs := xs); rw [e] at h; exact (List.cons.inj h).2
  unfold wlk
  rw [h, h2]
  rfl
theorem spd_hd {ps : List Int} {xs : List Rat} (hl : xs.length = ps.length) : spd ps xs = [] ∧ xs = [] ∧ ps = [] ∨ ∃ s rs p qs y ys, spd ps xs = s :: rs ∧ xs = y :: ys ∧ ps = p :: qs := by
  cases ps with
  | nil => exact .inl ⟨rfl, List.length_eq_zero_iff.mp hl, rfl⟩
  | cons p qs =>
    cases xs with
    | nil => simp at hl
    | cons y ys => exact .inr ⟨_, _, p, qs, y, ys, rfl, rfl, rfl⟩
/-- a step of the rates: hands at one place -/
theorem spd_step : ∀ {ps : List Int} {xs : List Rat} {i : Nat} {x : Rat} {r s : Int}, xs.length = ps.length → xs[i]? = some x → xs[i + 1]? = some x → (spd ps xs)[i]? = some r → (spd ps xs)[i + 1]? = some s → r ≤ s
  | [], _, _, _, _, _, _, _, _, h, _ => by simp [spd] at h
  | p :: ps, [], _, _, _, _, hl, _, _, _, _ => by simp at hl
  | p :: ps, x :: xs, i + 1, z, r, s, hl, h1, h2, h3, h4 => by
    obtain ⟨r', e⟩ := spd_tl (p := p) (ps := ps) (x := x) (xs := xs)
    rw [e] at h3 h4
    simp only [List.getElem?_cons_succ] at h1 h2 h3 h4
    exact spd_step (by simpa using hl) h1 h2 h3 h4
  | p :: ps, x :: xs, 0, z, r, s, hl, h1, h2, h3, h4 => by
    rcases spd_hd (ps := ps) (xs := xs) (by simpa using hl) with ⟨_, e, _⟩ | ⟨s', rs, q, qs, y, ys, e1, rfl, rfl⟩
    · subst e; simp at h2
    · rw [spd_cons e1] at h3 h4
      simp only [List.getElem?_cons_succ, List.getElem?_cons_zero, Option.some.injEq] at h1 h2 h3 h4
      subst h1 h2 h4
      rw [if_pos rfl] at h3
      subst h3
      split <;> omega
/-- till the meeting the rates stay -/
theorem wlk_rates : ∀ {ps : List Int} {xs : List Rat} {t : Rat}, xs.length = ps.length → xs.Pairwise (· ≤ ·) → 0 ≤ t → (∀ i g, cnd xs (spd ps xs) i = some g → t < g) → spd ps (wlk ps xs t) = spd ps xs
  | [], _, _, _, _, _, _ => by simp [spd]
  | p :: ps, [], _, hl, _, _, _ => by simp at hl
  | p :: ps, x :: xs, t, hl, hs, ht, hc => by
    have hl' : xs.length = ps.length := by simpa using hl
    obtain ⟨hx, hs'⟩ := List.pairwise_cons.mp hs
    rcases spd_hd hl' with ⟨_, rfl, rfl⟩ | ⟨s, rs, q, qs, y, ys, e1, rfl, rfl⟩
    · rfl
    have e2 := spd_cons (p := p) (x := x) e1
    have e3 := wlk_cons (t := t) e2
    have e4 := wlk_cons (t := t) e1
    have ih := wlk_rates (t := t) hl' hs' ht (fun i g e => hc (i + 1) g (by rw [e2, cnd_cons, ← e1]; exact e))
    rw [e1, e4] at ih
    rw [e3, e4, spd_cons ih, e2]
    congr 1
    have h0 := hc 0
    rw [e2, cnd_zero] at h0
    have hxy := hx y (by simp)
    clear e1 e2 e3 e4 ih hc hs hs' hx hl hl'
    by_cases e : x = y
    · subst e
      simp only [if_true]
      by_cases hsp : s < p
      · simp only [if_pos hsp, if_true]
      · simp only [if_neg hsp]
        split <;> rfl
    · simp only [if_neg e] at h0 ⊢
      have hlt : x < y := by grind
      rw [if_neg]
      by_cases hsp : s < p
      · have hpos := ratI_pos (show 0 < p - s by omega)
        have h1 := h0 _ (by rw [if_pos ⟨e, hsp⟩])
        rw [Rat.lt_div_iff hpos, Rat.intCast_sub] at h1
        grind
      · have h2 := ratI_le (show p ≤ s by omega)
        have : 0 ≤ ((s : Rat) - (p : Rat)) * t := Rat.mul_nonneg (by grind) ht
        grind
theorem wlk_zero : ∀ {ps : List Int} {xs : List Rat}, xs.length = ps.length → wlk ps xs 0 = xs
  | [], [], _ => rfl
  | [], _ :: _, h => by simp at h
  | _ :: _, [], h => by simp at h
  | p :: ps, x :: xs, h => by
    obtain ⟨r', e⟩ := spd_tl (p := p) (ps := ps) (x := x) (xs := xs)
    rw [wlk_cons e, wlk_zero (by simpa using h)]
    grind
theorem zip_zip {as : List Int} : ∀ {xs : List Rat} {t u : Rat}, List.zipWith (fun (x : Rat) (r : Int) => x + (r : Rat) * u) (List.zipWith (fun (x : Rat) (r : Int) => x + (r : Rat) * t) xs as) as = List.zipWith (fun (x : Rat) (r : Int) => x + (r : Rat) * (t + u)) xs as := by
  induction as with
  | nil => intro xs t u; simp
  | cons a as ih =>
    intro xs t u
    cases xs with
    | nil => rfl
    | cons x xs =>
      simp only [List.zipWith_cons_cons, ih]
      congr 1
      grind
/-- two pieces, the second one nought or the first one short of the meeting -/
theorem wlk_wlk {ps : List Int} {xs : List Rat} {t u : Rat} (hl : xs.length = ps.length) (hs : xs.Pairwise (· ≤ ·)) (ht : 0 ≤ t) (hc : u = 0 ∨ ∀ i g, cnd xs (spd ps xs) i = some g → t < g) : wlk ps (wlk ps xs t) u = wlk ps xs (t + u) := by
  rcases hc with rfl | hc
  · rw [wlk_zero (by rw [wlk_len hl, hl]), show t + 0 = t by grind]
  · have e := wlk_rates hl hs ht hc
    have e2 : wlk ps (wlk ps xs t) u = List.zipWith (fun (x : Rat) (r : Int) => x + (r : Rat) * u) (wlk ps xs t) (spd ps (wlk ps xs t)) := rfl
    rw [e2, e]
    exact zip_zip
theorem stp_le {c : Nat → Option Rat} {a : Rat} {i : Nat} : stp c a i ≤ a := by
  unfold stp
  split
  · split <;> grind
  · exact Rat.le_refl
theorem fold_spec {c : Nat → Option Rat} {a : Rat} : ∀ k, (List.range k).foldl (stp c) a ≤ a ∧ (∀ i h, i < k → c i = some h → (List.range k).foldl (stp c) a ≤ h) ∧ ((List.range k).foldl (stp c) a = a ∨ ∃ i, i < k ∧ c i = some ((List.range k).foldl (stp c) a))
  | 0 => ⟨Rat.le_refl, fun _ _ h => by omega, .inl rfl⟩
  | k + 1 => by
    obtain ⟨h1, h2, h3⟩ := fold_spec (c := c) (a := a) k
    rw [List.range_succ, List.foldl_append, List.foldl_cons, List.foldl_nil]
    generalize (List.range k).foldl (stp c) a = b at *
    have hle : stp c b k ≤ b := stp_le
    refine ⟨by grind, fun i h hi e => ?_, ?_⟩
    · by_cases q : i = k
      · subst q
        unfold stp
        rw [e]
        dsimp only
        split <;> grind
      · have := h2 i h (by omega) e
        grind
    · have old : b = a ∨ ∃ i, i < k + 1 ∧ c i = some b := by
        rcases h3 with h3 | ⟨i, hi, h3⟩
        · exact .inl h3
        · exact .inr ⟨i, by omega, h3⟩
      cases e : c k with
      | none =>
        have : stp c b k = b := by unfold stp; rw [e]
        rw [this]; exact old
      | some h =>
        have : stp c b k = if h < b then h else b := by unfold stp; rw [e]
        rw [this]
        split
        · exact .inr ⟨k, by omega, e⟩
        · exact old
theorem cnd_inv {xs : List Rat} {rs : List Int} {i : Nat} {h : Rat} (e : cnd xs rs i = some h) : ∃ x y r s, xs[i]? = some x ∧ xs[i + 1]? = some y ∧ rs[i]? = some r ∧ rs[i + 1]? = some s ∧ x ≠ y ∧ s < r ∧ h = (y - x) / ((r - s : Int) : Rat) := by
  unfold cnd at e
  split at e
  · rename_i x y r s h1 h2 h3 h4
    split at e
    · rename_i hc
      cases e
      exact ⟨x, y, r, s, h1, h2, h3, h4, hc.1, hc.2, rfl⟩
    · cases e
  · cases e
theorem pair_at {xs : List Rat} {i j : Nat} {x y : Rat} (hs : xs.Pairwise (· ≤ ·)) (hij : i < j) (h1 : xs[i]? = some x) (h2 : xs[j]? = some y) : x ≤ y := by
  obtain ⟨a1, b1⟩ := List.getElem?_eq_some_iff.mp h1
  obtain ⟨a2, b2⟩ := List.getElem?_eq_some_iff.mp h2
  subst b1 b2
  exact List.pairwise_iff_getElem.mp hs i j a1 a2 hij
theorem cnd_pos {xs : List Rat} {rs : List Int} {i : Nat} {h : Rat} (hs : xs.Pairwise (· ≤ ·)) (e : cnd xs rs i = some h) : 0 < h := by
  obtain ⟨x, y, r, s, h1, h2, h3, h4, h5, h6, rfl⟩ := cnd_inv e
  have := pair_at hs (Nat.lt_succ_self i) h1 h2
  rw [Rat.lt_div_iff (ratI_pos (by omega))]
  grind
/-- what is known of the hours till the meeting -/
structure Unt (len : Int) (ps : List Int) (xs : List Rat) (h : Rat) : Prop where
  pos : 0 < h
  c : ∀ i g, cnd xs (spd ps xs) i = some g → h ≤ g
  l : ∀ x r, xs[ps.length - 1]? = some x → (spd ps xs)[ps.length - 1]? = some r → h * (r : Rat) ≤ (len : Rat) - x
  ex : (∃ x r, xs[ps.length - 1]? = some x ∧ (spd ps xs)[ps.length - 1]? = some r ∧ h * (r : Rat) = (len : Rat) - x) ∨ ∃ i, i + 1 < ps.length ∧ cnd xs (spd ps xs) i = some h
theorem untl_spec {len : Int} {ps : List Int} {xs : List Rat} (hl : xs.length = ps.length) (hne : ps ≠ []) (hp : ∀ p ∈ ps, 1 ≤ p ∧ p ≤ 12) (hs : xs.Pairwise (· ≤ ·)) (hx : ∀ x ∈ xs, x < (len : Rat)) : Unt len ps xs (untl len ps xs) := by
  obtain ⟨x, l1, _, l2, l3⟩ := last_at (xs := xs) (d := 0) (fun e => hne (List.length_eq_zero_iff.mp (by rw [← hl, e]; rfl)))
  obtain ⟨r, l4, _, l5, l6⟩ := last_at (xs := spd ps xs) (d := 1) (fun e => hne (List.length_eq_zero_iff.mp (by rw [← spd_len hl, e]; rfl)))
  have hsl := spd_len hl
  rw [hl] at l2
  rw [hsl] at l5
  have hr := spd_bd hp r l6
  have hrp := ratI_pos (show 0 < r by omega)
  obtain ⟨h1, h2, h3⟩ := fold_spec (c := cnd xs (spd ps xs)) (a := ((len : Rat) - xs.getLastD 0) / (((spd ps xs).getLastD 1 : Int) : Rat)) (ps.length - 1)
  have hlt := hx x l3
  show Unt len ps xs ((List.range (ps.length - 1)).foldl (stp (cnd xs (spd ps xs))) (((len : Rat) - xs.getLastD 0) / (((spd ps xs).getLastD 1 : Int) : Rat)))
  rw [l1, l4] at *
  generalize hz : (List.range (ps.length - 1)).foldl (stp (cnd xs (spd ps xs))) (((len : Rat) - x) / (r : Rat)) = z at *
  refine ⟨?_, fun i g e => h2 i g ?_ e, fun x' r' e1 e2 => ?_, ?_⟩
  · rcases h3 with h3 | ⟨i, _, h3⟩
    · rw [h3, Rat.lt_div_iff hrp]
      grind
    · exact cnd_pos hs h3
  · obtain ⟨_, y, _, _, _, q, _⟩ := cnd_inv e
    have := (List.getElem?_eq_some_iff.mp q).1
    omega
  · rw [l2] at e1
    rw [l5] at e2
    cases e1; cases e2
    exact (le_div_iff' hrp).mp h1
  · rcases h3 with h3 | ⟨i, hi, h3⟩
    · refine .inl ⟨x, r, l2, l5, ?_⟩
      rw [h3]
      exact Rat.div_mul_cancel (by grind)
    · exact .inr ⟨i, by omega, h3⟩
/-- nobody is beyond the next one -/
theorem wlk_mono {ps : List Int} {xs : List Rat} {t : Rat} (hl : xs.length = ps.length) (hs : xs.Pairwise (· ≤ ·)) (ht : 0 ≤ t) (hc : ∀ i g, cnd xs (spd ps xs) i = some g → t ≤ g) {i : Nat} {x y : Rat} {r s : Int} (h1 : xs[i]? = some x) (h2 : xs[i + 1]? = some y) (h3 : (spd ps xs)[i]? = some r) (h4 : (spd ps xs)[i + 1]? = some s) :
    x + (r : Rat) * t ≤ y + (s : Rat) * t := by
  have hxy := pair_at hs (Nat.lt_succ_self i) h1 h2
  by_cases e : x = y
  · subst e
    have := ratI_le (spd_step hl h1 h2 h3 h4)
    have : 0 ≤ ((s : Rat) - (r : Rat)) * t := Rat.mul_nonneg (by grind) ht
    grind
  · by_cases hsp : s < r
    · have h0 := hc i _ (by unfold cnd; rw [h1, h2, h3, h4]; dsimp only; rw [if_pos ⟨e, hsp⟩])
      rw [le_div_iff' (ratI_pos (by omega)), Rat.intCast_sub] at h0
      grind
    · have := ratI_le (show r ≤ s by omega)
      have : 0 ≤ ((s : Rat) - (r : Rat)) * t := Rat.mul_nonneg (by grind) ht
      grind
theorem Am.ofI {n : Nat} {i : Int} (h : Sz n i) (hn : 0 < n) : Am n (i : Rat) := .int h hn
theorem Stand.am {len : Int} {ps : List Int} {xs : List Rat} (h : Stand len ps xs) : ∀ x ∈ xs, Am 120 x := fun x hx => (h.x x hx).2.2.mono (by decide)
theorem Stand.unt {len : Int} {ps : List Int} {xs : List Rat} (h : Stand len ps xs) (hne : ps ≠ []) : Unt len ps xs (untl len ps xs) := untl_spec h.l hne h.p h.s fun x hx => (h.x x hx).2.1
theorem Sm.ints {S : Sto} {n a b : Nat} {ps : List Int} (ha : lstOf S a = some (ps.map D.int)) (hb : lstOf S b = some (ps.map D.int)) (hl : ps.length < 1000000) : Sm S (n + 2) (.ref a) (.ref b) := .lsts ha hb (by simpa using hl) fun x hx => by
  obtain ⟨p, _, rfl⟩ := List.mem_map.mp hx
  exact .int
/-- two lists in a list -/
theorem Sm.two {S : Sto} {n a b : Nat} {x y z w : D} (ha : lstOf S a = some [x, y]) (hb : lstOf S b = some [z, w]) (h1 : Sm S n x z) (h2 : Sm S n y w) : Sm S (n + 1) (.ref a) (.ref b) := .lst ha hb rfl (lim_of (by simp)) fun j u v hu hv => by
  match j, hu, hv with
  | 0, hu, hv => cases hu; cases hv; exact h1
  | 1, hu, hv => cases hu; cases hv; exact h2
  | j + 2, hu, hv => simp at hu
theorem meet_spec {len : Int} {ps : List Int} {xs : List Rat} (hst : Stand len ps xs) (hne : ps ≠ []) : (∀ (i : Nat) (w g : Rat), (wlk ps xs (untl len ps xs))[i]? = some w → ((wlk ps xs (untl len ps xs)).drop 1 ++ [(len : Rat)])[i]? = some g → ¬ g < w) ∧
    ∃ i, i < ps.length ∧ (wlk ps xs (untl len ps xs))[i]? = ((wlk ps xs (untl len ps xs)).drop 1 ++ [(len : Rat)])[i]? ∧ (i + 1 < ps.length → xs[i]? ≠ xs[i + 1]?) := by
  have hu := hst.unt hne
  generalize untl len ps xs = h at hu
  have hl := hst.l
  have hs := hst.s
  have hsl := spd_len hl
  have hwl := wlk_len (h := h) hl
  have hpos : 0 < ps.length := List.length_pos_iff.mpr hne
  have up : ∀ i, i + 1 < ps.length → ((wlk ps xs h).drop 1 ++ [(len : Rat)])[i]? = (wlk ps xs h)[i + 1]? := fun i hi => by
    rw [List.getElem?_append_left (by simp; omega), List.getElem?_drop, Nat.add_comm]
  have last : ((wlk ps xs h).drop 1 ++ [(len : Rat)])[ps.length - 1]? = some (len : Rat) := by
    rw [List.getElem?_append_right (by simp; omega)]
    simp [hwl, hl]
  refine ⟨fun i w g hw hg => ?_, ?_⟩
  · have hi := (List.getElem?_eq_some_iff.mp hw).1
    obtain ⟨x, hx⟩ := at_lt (xs := xs) (k := i) (by omega)
    obtain ⟨r, hr⟩ := at_lt (xs := spd ps xs) (k := i) (by omega)
    rw [wlk_at hx hr] at hw
    cases hw
    by_cases q : i + 1 < ps.length
    · rw [up i q] at hg
      obtain ⟨y, hy⟩ := at_lt (xs := xs) (k := i + 1) (by omega)
      obtain ⟨s, hs'⟩ := at_lt (xs := spd ps xs) (k := i + 1) (by omega)
      rw [wlk_at hy hs'] at hg
      cases hg
      have := wlk_mono hl hs (Rat.le_of_lt hu.pos) hu.c hx hy hr hs'
      grind
    · have e : i = ps.length - 1 := by omega
      subst e
      rw [last] at hg
      cases hg
      have := hu.l x r hx hr
      grind
  · rcases hu.ex with ⟨x, r, hx, hr, e⟩ | ⟨i, hi, e⟩
    · refine ⟨ps.length - 1, by omega, ?_, fun q => by omega⟩
      rw [last, wlk_at hx hr]
      congr 1
      grind
    · obtain ⟨x, y, r, s, hx, hy, hr, hs', h5, h6, h7⟩ := cnd_inv e
      refine ⟨i, by omega, ?_, fun _ => by rw [hx, hy]; intro z; cases z; exact h5 rfl⟩
      rw [up i hi, wlk_at hx hr, wlk_at hy hs']
      congr 1
      have hp := ratI_pos (show 0 < r - s by omega)
      have : h * ((r - s : Int) : Rat) = y - x := by rw [h7]; exact Rat.div_mul_cancel (by grind)
      rw [Rat.intCast_sub] at this
      grind
end J

set_option Elab.async false
set_option linter.all false
set_option maxRecDepth 100000
set_option maxHeartbeats 4000000
namespace J
open PySem PySem.Spec PyProof.Rows L2
/-! ### a module's constants -/
section
variable {K : PySem.W.Frag} {mg : Str → Option Value} {x : Str} {d : D}
def GCAt (K : PySem.W.Frag) (x : Str) (d : D) : Prop := ∃ (u : Value) (v : V), PySem.W.nsIn K mainGlobals x = some (some u) ∧ RelV v u ∧ Still K v d
def GC (K : PySem.W.Frag) (mg : Str → Option Value) (x : Str) (d : D) : Prop := ∃ (u : Value) (v : V), mg x = some u ∧ RelV v u ∧ Still K v d
theorem GCAt.m {h : Heap} (c : GCAt K x d) (X : K.In h) (G : h.Ns mainGlobals mg) : GC K mg x d := by
  obtain ⟨u, v, a, r, s⟩ := c
  exact ⟨u, v, PySem.W.mg_of X G a, r, s⟩
theorem GCAt.int {i : Int} {t : Tok} (h : PySem.W.nsIn K mainGlobals x = some (some (.int i t))) : GCAt K x (.int i) := ⟨_, .int i, h, ⟨t, rfl⟩, still_int⟩
theorem GCAt.str {i : Str} {t : Tok} (h : PySem.W.nsIn K mainGlobals x = some (some (.str i t))) : GCAt K x (.str i) := ⟨_, .str i, h, ⟨t, rfl⟩, still_str⟩
theorem GCAt.two {i j : Int} {t t' : Tok} {a : Addr} {od : Option Addr} {n : Nat} {sl : Array (Option Value)} (h : PySem.W.nsIn K mainGlobals x = some (some (.ref a))) (l : K.lookup a = some ⟨.type "tuple", od, .seq #[.int i t, .int j t'] n, sl⟩) : GCAt K x (.tup [.int i, .int j]) :=
  ⟨_, .ref a, h, rfl, fun φ H => dr_tup (vs := [.int i, .int j]) (.inr ⟨_, _, _, l, rfl, rfl, by rw [sizeLine_eq]; simp, .cons (a := V.int i) ⟨t, rfl⟩ (.cons (a := V.int j) ⟨t', rfl⟩ .nil)⟩) (.cons dr_int (.cons dr_int .nil))⟩
theorem GCAt.a0 {t t' : Tok} {a : Addr} {od : Option Addr} {n : Nat} {sl : Array (Option Value)} (h : PySem.W.nsIn K mainGlobals x = some (some (.ref a))) (l : K.lookup a = some ⟨.type "tuple", od, .seq #[.int 0 t, .int 1 t'] n, sl⟩) : GCAt K x (aD 0) := GCAt.two h l
theorem GCAt.a1 {t t' : Tok} {a : Addr} {od : Option Addr} {n : Nat} {sl : Array (Option Value)} (h : PySem.W.nsIn K mainGlobals x = some (some (.ref a))) (l : K.lookup a = some ⟨.type "tuple", od, .seq #[.int 1 t, .int 1 t'] n, sl⟩) : GCAt K x (aD 1) := GCAt.two h l
end
theorem re_gc {X : Cx} {g : G} {E : XK} {x : Str} {pos : Pos} {d : D} (hg : Gl X x) (c : GC X.K X.mg x d) (hd : (x == ("__debug__" : Str)) = false := by decide) : RE X g E (.Name x pos) (iC d) := by
  obtain ⟨u, v, m, r, s⟩ := c
  exact re_c (pe_glob hg m r hd) s

/-! a comprehension in a comprehension -/
def relJ (scope sc : Scope) : Scope := { scope with names := scope.names.map fun (n, k) => if (k == NameKind.free && sc.kind == .function && sc.names.lookup n == some .cell) then (n, .cell) else (n, k) }
theorem blkOk_in {X : Cx} {s : Shared} {H : Hp} {scO scope : Scope} {cl : List (Str × Addr)} {C : Addr} {fp : List Addr} {N : List Str} {own : List (Str × Nat)} (h : blkC N (relJ scO X.env.scope) scope own = true) :
    BlkOk N (X.blk s H scO (compEnvC scO cl C X.env) fp).env.scope scope own := blkOk_by h
end J

set_option Elab.async false
set_option linter.all false
set_option maxRecDepth 100000
set_option maxHeartbeats 4000000
namespace J
open PySem PySem.Spec PyProof.Rows L2
/-! ### shares: the mathematics -/
/-- q times d is whole -/
def Dv (d : Nat) (q : Rat) : Prop := ∃ a : Int, q * (d : Rat) = (a : Rat)
theorem natI (d : Nat) : ((d : Int) : Rat) = (d : Rat) := rfl
theorem Dv.int {d : Nat} (i : Int) : Dv d (i : Rat) := ⟨i * d, by rw [Rat.intCast_mul, natI]⟩
theorem Dv.zero {d : Nat} : Dv d 0 := Dv.int 0
theorem Dv.one {d : Nat} : Dv d 1 := Dv.int 1
theorem Dv.add {d : Nat} {p q : Rat} (h : Dv d p) (h' : Dv d q) : Dv d (p + q) := by
  obtain ⟨a, e⟩ := h
  obtain ⟨b, e'⟩ := h'
  exact ⟨a + b, by rw [Rat.intCast_add, ← e, ← e']; grind⟩
theorem Dv.sub {d : Nat} {p q : Rat} (h : Dv d p) (h' : Dv d q) : Dv d (p - q) := by
  obtain ⟨a, e⟩ := h
  obtain ⟨b, e'⟩ := h'
  exact ⟨a - b, by rw [Rat.intCast_sub, ← e, ← e']; grind⟩
theorem natMul (d e : Nat) : ((d * e : Nat) : Rat) = (d : Rat) * (e : Rat) := by
  rw [← natI, Int.natCast_mul, Rat.intCast_mul, natI, natI]
theorem Dv.mul {d e : Nat} {p q : Rat} (h : Dv d p) (h' : Dv e q) : Dv (d * e) (p * q) := by
  obtain ⟨a, e1⟩ := h
  obtain ⟨b, e2⟩ := h'
  refine ⟨a * b, ?_⟩
  rw [Rat.intCast_mul, ← e1, ← e2, natMul]
  grind
theorem Dv.up {d : Nat} {q : Rat} (e : Nat) (h : Dv d q) : Dv (e * d) q := by
  have := (Dv.one (d := e)).mul h
  rwa [show (1 : Rat) * q = q by grind] at this
theorem Dv.up' {d : Nat} {q : Rat} (e : Nat) (h : Dv d q) : Dv (d * e) q := by rw [Nat.mul_comm]; exact h.up e
theorem Dv.den {d : Nat} {q : Rat} (hd : 0 < d) (h : Dv d q) : q.den ∣ d := by
  obtain ⟨a, e⟩ := h
  have hd' : (d : Rat) ≠ 0 := by rw [← natI]; exact rat_ne0 (by omega)
  have hq : q = Rat.divInt a (d : Nat) := by
    rw [Rat.divInt_eq_div, ← e, natI, Rat.mul_div_cancel hd']
  obtain ⟨_, e2⟩ := divInt_of (n := a) (d := (d : Nat)) (by omega)
  rw [← hq] at e2
  have : (q.den : Int) * (Int.gcd a (d : Nat) : Nat) = (d : Nat) := by
    rw [e2]
    exact Int.ediv_mul_cancel (Int.gcd_dvd_right ..)
  have : q.den * Int.gcd a (d : Nat) = d := by exact_mod_cast this
  exact ⟨_, this.symm⟩
/-- a bound of the size by a common denominator -/
theorem Dv.am {d n m : Nat} {q : Rat} {b : Int} (hd : 0 < d) (hn : d < 2 ^ n) (h : Dv d q) (h0 : 0 ≤ q) (h1 : q ≤ (b : Rat)) (hb : Sz m b) : Am (m + n) q := by
  have hden : q.den ≤ d := Nat.le_of_dvd hd (h.den hd)
  have hdp := q.den_pos
  have hb0 : 0 ≤ b := by
    have : (0 : Rat) ≤ (b : Rat) := by grind
    rw [show (0 : Rat) = ((0 : Int) : Rat) from rfl, Rat.intCast_le_intCast] at this
    exact this
  have hnum : q.num ≤ b * q.den := by
    have e := (Rat.le_iff q (b : Rat)).mp h1
    rw [Rat.num_intCast, Rat.den_intCast] at e
    simpa using e
  have hn0 := Rat.num_nonneg.mpr h0
  have hlt := hb.lt
  have hp : 2 ^ (m + n) = 2 ^ m * 2 ^ n := Nat.pow_add ..
  have h2 : b.natAbs * q.den < 2 ^ m * 2 ^ n := Nat.mul_lt_mul_of_lt_of_lt hlt (by omega)
  refine ⟨⟨?_⟩, ⟨?_⟩⟩
  · have : q.num.natAbs ≤ b.natAbs * q.den := by
      have h3 : (q.num.natAbs : Int) ≤ ((b.natAbs * q.den : Nat) : Int) := by
        rw [Int.natCast_mul, Int.natAbs_of_nonneg hn0, Int.natAbs_of_nonneg hb0]
        exact hnum
      exact_mod_cast h3
    rw [hp]; omega
  · rw [hp]
    have : 1 ≤ 2 ^ m := Nat.one_le_two_pow
    have : 2 ^ n ≤ 2 ^ m * 2 ^ n := Nat.le_mul_of_pos_left _ (by omega)
    show ((q.den : Int)).natAbs < _
    rw [Int.natAbs_natCast]
    omega
/-- paces that stand slow to quick -/
structure Ris (ps : List Int) : Prop where
  ne : ps ≠ []
  h8 : ps.length ≤ 8
  p : ∀ p ∈ ps, 1 ≤ p ∧ p ≤ 12
  s : ps.Pairwise (· ≤ ·)
theorem Ris.pos {ps : List Int} (h : Ris ps) : 0 < ps.length := List.length_pos_iff.mpr h.ne
theorem Ris.get {ps : List Int} (h : Ris ps) {i : Nat} (hi : i < ps.length) : ∃ p, ps[i]? = some p ∧ ps.getD i 1 = p ∧ 1 ≤ p ∧ p ≤ 12 := by
  obtain ⟨p, e⟩ := at_lt hi
  exact ⟨p, e, by rw [List.getD_eq_getElem?_getD, e]; rfl, h.p p (List.mem_of_getElem? e)⟩
/-- the part of the share before it -/
def kp (ps : List Int) (i : Nat) : Rat := if i = 0 then 0 else ((ps.getD (i - 1) 1 : Int) : Rat) / ((ps.getD i 1 : Int) : Rat)
theorem kp_bd {ps : List Int} (h : Ris ps) {i : Nat} (hi : i < ps.length) : 0 ≤ kp ps i ∧ kp ps i ≤ 1 := by
  unfold kp
  split
  · exact ⟨Rat.le_refl, by decide⟩
  · obtain ⟨p, e1, e2, h1, h2⟩ := h.get (i := i - 1) (by omega)
    obtain ⟨q, e3, e4, h3, h4⟩ := h.get hi
    rw [e2, e4]
    have hq := ratI_pos (show 0 < q by omega)
    have hpq : p ≤ q := by
      obtain ⟨a1, b1⟩ := List.getElem?_eq_some_iff.mp e1
      obtain ⟨a2, b2⟩ := List.getElem?_eq_some_iff.mp e3
      subst b1 b2
      exact List.pairwise_iff_getElem.mp h.s (i - 1) i a1 a2 (by omega)
    have h5 := ratI_le hpq
    have h6 := ratI_le h1
    refine ⟨?_, ?_⟩
    · rw [le_div_iff' hq]
      have : ((1 : Int) : Rat) = 1 := rfl
      grind
    · have : ¬ 1 < (p : Rat) / (q : Rat) := by rw [Rat.lt_div_iff hq]; grind
      grind
theorem dv_div {p q : Int} (h1 : 1 ≤ q) (h2 : q ≤ 12) : Dv 27720 ((p : Rat) / (q : Rat)) := by
  have hq : (q : Rat) ≠ 0 := rat_ne0 (by omega)
  obtain ⟨c, hc⟩ : ∃ c : Int, (27720 : Int) = q * c := by
    have : q = 1 ∨ q = 2 ∨ q = 3 ∨ q = 4 ∨ q = 5 ∨ q = 6 ∨ q = 7 ∨ q = 8 ∨ q = 9 ∨ q = 10 ∨ q = 11 ∨ q = 12 := by omega
    rcases this with rfl | rfl | rfl | rfl | rfl | rfl | rfl | rfl | rfl | rfl | rfl | rfl
    · exact ⟨27720, rfl⟩
    · exact ⟨13860, rfl⟩
    · exact ⟨9240, rfl⟩
    · exact ⟨6930, rfl⟩
    · exact ⟨5544, rfl⟩
    · exact ⟨4620, rfl⟩
    · exact ⟨3960, rfl⟩
    · exact ⟨3465, rfl⟩
    · exact ⟨3080, rfl⟩
    · exact ⟨2772, rfl⟩
    · exact ⟨2520, rfl⟩
    · exact ⟨2310, rfl⟩
  refine ⟨p * c, ?_⟩
  have e : ((27720 : Nat) : Rat) = (q : Rat) * (c : Rat) := by
    rw [← Rat.intCast_mul, ← hc]; rfl
  rw [e, Rat.intCast_mul, ← Rat.mul_assoc, Rat.div_mul_cancel hq]
theorem kp_dv {ps : List Int} (h : Ris ps) {i : Nat} (hi : i < ps.length) : Dv 27720 (kp ps i) := by
  unfold kp
  split
  · exact .zero
  · obtain ⟨q, e3, e4, h3, h4⟩ := h.get hi
    rw [e4]
    exact dv_div h3 h4
theorem kp_am {ps : List Int} (h : Ris ps) {i : Nat} (hi : i < ps.length) : Am 20 (kp ps i) ∧ Am 20 (1 - kp ps i) := by
  have h1 := kp_bd h hi
  have h2 := kp_dv h hi
  have e1 : ((1 : Int) : Rat) = 1 := rfl
  exact ⟨(h2.am (n := 15) (m := 1) (b := 1) (by decide) (by decide) h1.1 (by rw [e1]; exact h1.2) (.lit (by decide))).mono (by decide),
    ((Dv.one.sub h2).am (n := 15) (m := 1) (b := 1) (by decide) (by decide) (by grind) (by rw [e1]; grind) (.lit (by decide))).mono (by decide)⟩
/-- one round -/
def rnd (ps : List Int) (v : List Rat) : List Rat := (List.range ps.length).map fun i => kp ps i * v.getD (i - 1) 0 + (1 - kp ps i) * v.getD (ps.length - 1) 0
def rnds (ps : List Int) : Nat → List Rat → List Rat
  | 0, v => v
  | r + 1, v => rnd ps (rnds ps r v)
theorem rnd_len {ps : List Int} {v : List Rat} : (rnd ps v).length = ps.length := by simp [rnd]
theorem rnds_len {ps : List Int} {v : List Rat} (h : v.length = ps.length) : ∀ r, (rnds ps r v).length = ps.length
  | 0 => h
  | r + 1 => rnd_len
theorem rnd_at {ps : List Int} {v : List Rat} {i : Nat} (hi : i < ps.length) : (rnd ps v)[i]? = some (kp ps i * v.getD (i - 1) 0 + (1 - kp ps i) * v.getD (ps.length - 1) 0) := by
  simp [rnd, hi]
theorem rnds_add {ps : List Int} {v : List Rat} (r : Nat) : ∀ s, rnds ps (r + s) v = rnds ps s (rnds ps r v)
  | 0 => rfl
  | s + 1 => by
    show rnd ps (rnds ps (r + s) v) = rnd ps (rnds ps s (rnds ps r v))
    rw [rnds_add r s]
theorem getD_all {P : Rat → Prop} {v : List Rat} (h : ∀ x ∈ v, P x) {i : Nat} (hi : i < v.length) : P (v.getD i 0) := by
  obtain ⟨x, e⟩ := at_lt hi
  rw [List.getD_eq_getElem?_getD, e]
  exact h x (List.mem_of_getElem? e)
/-- what lies within bounds stays there -/
theorem rnd_bd {ps : List Int} {v : List Rat} {a b : Rat} (h : Ris ps) (hl : v.length = ps.length) (hv : ∀ x ∈ v, a ≤ x ∧ x ≤ b) : ∀ x ∈ rnd ps v, a ≤ x ∧ x ≤ b := by
  intro x hx
  obtain ⟨i, hi⟩ := List.mem_iff_getElem?.mp hx
  have hi' := (List.getElem?_eq_some_iff.mp hi).1
  rw [rnd_len] at hi'
  rw [rnd_at hi'] at hi
  cases hi
  obtain ⟨k0, k1⟩ := kp_bd h hi'
  obtain ⟨a1, a2⟩ := getD_all (P := fun x => a ≤ x ∧ x ≤ b) hv (i := i - 1) (by omega)
  obtain ⟨b1, b2⟩ := getD_all (P := fun x => a ≤ x ∧ x ≤ b) hv (i := ps.length - 1) (by have := h.pos; omega)
  generalize kp ps i = k at *
  generalize v.getD (i - 1) 0 = x at *
  generalize v.getD (ps.length - 1) 0 = y at *
  have c1 : 0 ≤ k * (x - a) := Rat.mul_nonneg k0 (by grind)
  have c2 : 0 ≤ (1 - k) * (y - a) := Rat.mul_nonneg (by grind) (by grind)
  have c3 : 0 ≤ k * (b - x) := Rat.mul_nonneg k0 (by grind)
  have c4 : 0 ≤ (1 - k) * (b - y) := Rat.mul_nonneg (by grind) (by grind)
  exact ⟨by grind, by grind⟩
theorem rnds_bd {ps : List Int} {v : List Rat} {a b : Rat} (h : Ris ps) (hl : v.length = ps.length) (hv : ∀ x ∈ v, a ≤ x ∧ x ≤ b) : ∀ r, ∀ x ∈ rnds ps r v, a ≤ x ∧ x ≤ b
  | 0 => hv
  | r + 1 => rnd_bd h (rnds_len hl r) (rnds_bd h hl hv r)
theorem rnd_dv {ps : List Int} {v : List Rat} {d : Nat} (h : Ris ps) (hl : v.length = ps.length) (hv : ∀ x ∈ v, Dv d x) : ∀ x ∈ rnd ps v, Dv (27720 * d) x := by
  intro x hx
  obtain ⟨i, hi⟩ := List.mem_iff_getElem?.mp hx
  have hi' := (List.getElem?_eq_some_iff.mp hi).1
  rw [rnd_len] at hi'
  rw [rnd_at hi'] at hi
  cases hi
  exact ((kp_dv h hi').mul (getD_all hv (by omega))).add ((Dv.one.sub (kp_dv h hi')).mul (getD_all hv (by have := h.pos; omega)))
theorem rnds_dv {ps : List Int} {v : List Rat} {d : Nat} (h : Ris ps) (hl : v.length = ps.length) (hv : ∀ x ∈ v, Dv d x) : ∀ r, ∀ x ∈ rnds ps r v, Dv (27720 ^ r * d) x
  | 0 => by rw [Nat.pow_zero, Nat.one_mul]; exact hv
  | r + 1 => by
    rw [Nat.pow_succ, Nat.mul_comm (27720 ^ r), Nat.mul_assoc]
    exact rnd_dv h (rnds_len hl r) (rnds_dv h hl hv r)
theorem pow_lt (r : Nat) : 27720 ^ r < 2 ^ (15 * r + 1) := by
  have h1 : 27720 ^ r ≤ (2 ^ 15) ^ r := Nat.pow_le_pow_left (by decide) r
  rw [← Nat.pow_mul] at h1
  have : 2 ^ (15 * r) < 2 ^ (15 * r + 1) := Nat.pow_lt_pow_right (by decide) (by omega)
  omega
theorem pow_pos' (r : Nat) : 0 < 27720 ^ r := Nat.pow_pos (by decide)
/-- sizes behind some rounds -/
theorem rnds_am {ps : List Int} {v : List Rat} {d m n : Nat} {b : Int} (h : Ris ps) (hl : v.length = ps.length) (hv : ∀ x ∈ v, Dv d x) (hd : 0 < d ∧ d < 2 ^ n) (hb : ∀ x ∈ v, 0 ≤ x ∧ x ≤ (b : Rat)) (hs : Sz m b) (r : Nat) : ∀ x ∈ rnds ps r v, Am (m + (15 * r + 1 + n)) x := fun x hx => by
  obtain ⟨h0, h1⟩ := rnds_bd h hl hb r x hx
  refine (rnds_dv h hl hv r x hx).am (Nat.mul_pos (pow_pos' r) hd.1) ?_ h0 h1 hs
  rw [Nat.pow_add]
  exact Nat.mul_lt_mul_of_lt_of_lt (pow_lt r) hd.2
/-! the table -/
def unl (n k : Nat) : List Rat := (List.range n).map fun i => if i = k then 1 else 0
theorem unl_len {n k : Nat} : (unl n k).length = n := by simp [unl]
theorem unl_at {n k i : Nat} (hi : i < n) : (unl n k)[i]? = some (if i = k then 1 else 0) := by simp [unl, hi]
theorem unl_all {n k : Nat} : ∀ x ∈ unl n k, Dv 1 x ∧ 0 ≤ x ∧ x ≤ ((1 : Int) : Rat) := fun x hx => by
  simp only [unl, List.mem_map] at hx
  obtain ⟨i, _, rfl⟩ := hx
  split
  · exact ⟨.one, by decide, by decide⟩
  · exact ⟨.zero, by decide, by decide⟩
def tbl (ps : List Int) (r i k : Nat) : Rat := (rnds ps r (unl ps.length k)).getD i 0
def tblR (ps : List Int) (r : Nat) : List (List Rat) := (List.range ps.length).map fun i => (List.range ps.length).map fun k => tbl ps r i k
theorem tbl_mem {ps : List Int} {r i k : Nat} (hi : i < ps.length) : tbl ps r i k ∈ rnds ps r (unl ps.length k) := by
  unfold tbl
  have hl := rnds_len (ps := ps) (v := unl ps.length k) unl_len r
  obtain ⟨x, e⟩ := at_lt (xs := rnds ps r (unl ps.length k)) (k := i) (by omega)
  rw [List.getD_eq_getElem?_getD, e]
  exact List.mem_of_getElem? e
theorem tbl_bd {ps : List Int} (h : Ris ps) {r i k : Nat} (hi : i < ps.length) : 0 ≤ tbl ps r i k ∧ tbl ps r i k ≤ 1 := by
  have := rnds_bd (a := 0) (b := ((1 : Int) : Rat)) h unl_len (fun x hx => (unl_all x hx).2) r _ (tbl_mem (r := r) (k := k) hi)
  exact this
theorem tbl_dv {ps : List Int} (h : Ris ps) {r i k : Nat} (hi : i < ps.length) : Dv (27720 ^ r) (tbl ps r i k) := by
  have := rnds_dv (d := 1) h unl_len (fun x hx => (unl_all x hx).1) r _ (tbl_mem (r := r) (k := k) hi)
  rwa [Nat.mul_one] at this
theorem tbl_am {ps : List Int} (h : Ris ps) {r i k : Nat} (hr : r ≤ 25) (hi : i < ps.length) : Am 400 (tbl ps r i k) :=
  ((tbl_dv h hi).am (n := 15 * r + 1) (m := 1) (b := 1) (pow_pos' r) (pow_lt r) (tbl_bd h hi).1 (tbl_bd h hi).2 (.lit (by decide))).mono (by omega)
theorem tbl_zero {ps : List Int} {i k : Nat} (hi : i < ps.length) : tbl ps 0 i k = if i = k then 1 else 0 := by
  unfold tbl rnds
  rw [List.getD_eq_getElem?_getD, unl_at hi]
  rfl
theorem tbl_succ {ps : List Int} {r i k : Nat} (hi : i < ps.length) : tbl ps (r + 1) i k = kp ps i * tbl ps r (i - 1) k + (1 - kp ps i) * tbl ps r (ps.length - 1) k := by
  show (rnd ps (rnds ps r (unl ps.length k))).getD i 0 = _
  rw [List.getD_eq_getElem?_getD, rnd_at hi]
  rfl
/-! sums -/
def smm : List Rat → Rat
  | [] => 0
  | x :: xs => x + smm xs
theorem smm_app : ∀ xs ys : List Rat, smm (xs ++ ys) = smm xs + smm ys
  | [], ys => by simp only [List.nil_append, smm]; grind
  | x :: xs, ys => by simp only [List.cons_append, smm, smm_app xs ys]; grind
theorem smm_take {xs : List Rat} {k : Nat} {x : Rat} (h : xs[k]? = some x) : smm (xs.take (k + 1)) = smm (xs.take k) + x := by
  rw [List.take_add_one, h, smm_app]
  simp only [Option.toList, smm]
  grind
def row (ps : List Int) (r i : Nat) : List Rat := (List.range ps.length).map fun k => tbl ps r i k
theorem row_len {ps : List Int} {r i : Nat} : (row ps r i).length = ps.length := by simp [row]
theorem row_at {ps : List Int} {r i k : Nat} (hk : k < ps.length) : (row ps r i)[k]? = some (tbl ps r i k) := by simp [row, hk]
/-- sums of functions -/
def sm (f : Nat → Rat) : Nat → Rat
  | 0 => 0
  | n + 1 => sm f n + f n
theorem sm_map (f : Nat → Rat) : ∀ n, smm ((List.range n).map f) = sm f n
  | 0 => rfl
  | n + 1 => by
    rw [List.range_succ, List.map_append, smm_app, sm_map f n]
    simp only [List.map_cons, List.map_nil, smm, sm]
    grind
theorem sm_congr {f g : Nat → Rat} : ∀ {n}, (∀ i, i < n → f i = g i) → sm f n = sm g n
  | 0, _ => rfl
  | n + 1, h => by
    simp only [sm]
    rw [sm_congr fun i hi => h i (by omega), h n (by omega)]
theorem sm_add {f g : Nat → Rat} : ∀ n, sm (fun i => f i + g i) n = sm f n + sm g n
  | 0 => by simp only [sm]; grind
  | n + 1 => by simp only [sm, sm_add n]; grind
theorem sm_mul {f : Nat → Rat} {c : Rat} : ∀ n, sm (fun i => c * f i) n = c * sm f n
  | 0 => by simp only [sm]; grind
  | n + 1 => by simp only [sm, sm_mul n]; grind
theorem sm_zero : ∀ n, sm (fun _ => 0) n = 0
  | 0 => rfl
  | n + 1 => by simp only [sm, sm_zero n]; grind
theorem sm_one {k : Nat} {c : Rat} : ∀ n, sm (fun i => if i = k then c else 0) n = if k < n then c else 0
  | 0 => by simp only [sm]; rw [if_neg (by omega)]
  | n + 1 => by
    simp only [sm, sm_one n]
    by_cases h1 : k < n
    · rw [if_pos h1, if_neg (by omega), if_pos (by omega)]; grind
    · by_cases h2 : n = k
      · rw [if_neg h1, if_pos h2, if_pos (by omega)]; grind
      · rw [if_neg h1, if_neg h2, if_neg (by omega)]; grind
theorem sm_nn {f : Nat → Rat} : ∀ {n}, (∀ i, i < n → 0 ≤ f i) → 0 ≤ sm f n
  | 0, _ => Rat.le_refl
  | n + 1, h => by
    simp only [sm]
    have := sm_nn (f := f) (n := n) fun i hi => h i (by omega)
    have := h n (by omega)
    grind
theorem sm_le {f g : Nat → Rat} : ∀ {n}, (∀ i, i < n → f i ≤ g i) → sm f n ≤ sm g n
  | 0, _ => Rat.le_refl
  | n + 1, h => by
    simp only [sm]
    have := sm_le (f := f) (g := g) (n := n) fun i hi => h i (by omega)
    have := h n (by omega)
    grind
theorem sm_dv {f : Nat → Rat} {d : Nat} : ∀ {n}, (∀ i, i < n → Dv d (f i)) → Dv d (sm f n)
  | 0, _ => .zero
  | n + 1, h => by
    simp only [sm]
    exact (sm_dv fun i hi => h i (by omega)).add (h n (by omega))
theorem tbl_sum {ps : List Int} (h : Ris ps) : ∀ {r i : Nat}, i < ps.length → sm (fun k => tbl ps r i k) ps.length = 1
  | 0, i, hi => by
    rw [sm_congr (g := fun k => if k = i then 1 else 0) fun k hk => by rw [tbl_zero hi]; by_cases e : i = k <;> simp [e, eq_comm], sm_one, if_pos hi]
  | r + 1, i, hi => by
    have hp := h.pos
    rw [sm_congr (g := fun k => kp ps i * tbl ps r (i - 1) k + (1 - kp ps i) * tbl ps r (ps.length - 1) k) fun k hk => tbl_succ hi, sm_add, sm_mul, sm_mul, tbl_sum h (by omega), tbl_sum h (by omega)]
    grind
/-- the rounds by the table -/
theorem rnds_tbl {ps : List Int} (h : Ris ps) {v : List Rat} (hl : v.length = ps.length) : ∀ {r i : Nat}, i < ps.length → (rnds ps r v)[i]? = some (sm (fun k => tbl ps r i k * v.getD k 0) ps.length)
  | 0, i, hi => by
    obtain ⟨x, e⟩ := at_lt (xs := v) (k := i) (by omega)
    rw [rnds, e, sm_congr (g := fun k => if k = i then v.getD i 0 else 0) fun k hk => ?_, sm_one, if_pos hi, List.getD_eq_getElem?_getD, e]
    · rfl
    · rw [tbl_zero hi]
      by_cases q : i = k
      · subst q; simp only [if_true]; grind
      · rw [if_neg q, if_neg (Ne.symm q)]; grind
  | r + 1, i, hi => by
    have hp := h.pos
    have e : ∀ j, j < ps.length → (rnds ps r v).getD j 0 = sm (fun k => tbl ps r j k * v.getD k 0) ps.length := fun j hj => by
      rw [List.getD_eq_getElem?_getD, rnds_tbl h hl hj]; rfl
    rw [rnds, rnd_at hi, e _ (by omega), e _ (by omega)]
    congr 1
    rw [← sm_mul, ← sm_mul, ← sm_add]
    exact sm_congr fun k hk => by rw [tbl_succ hi]; grind

/-! stores -/
theorem wp_gSub {fo fi : IE} {d : D} {ρ : Env} {S : Sto} {Q : Env → Sto → Prop} {X : Str → Sto → Prop} (w : wp (fo ρ S) (fun o S1 => wp (fi ρ S1) (fun i S2 => wp (oPut o i d S2) (fun _ S3 => Q ρ S3) X) X) X) : wp (gSubJ fo fi d ρ S) Q X := by
  unfold gSubJ
  exact wp_bind (wp_mono w (fun o S h => wp_bind (wp_mono h (fun i S h => wp_bind (wp_mono h (fun _ _ h => wp_ok h) fun _ _ h => h)) fun _ _ h => h)) fun _ _ h => h)
instance i_wp_gSub {fo fi : IE} {d : D} {ρ : Env} {S : Sto} {Q : Env → Sto → Prop} {X : Str → Sto → Prop} : St (wp (gSubJ fo fi d ρ S) Q X) (wp (fo ρ S) (fun o S1 => wp (fi ρ S1) (fun i S2 => wp (oPut o i d S2) (fun _ S3 => Q ρ S3) X) X) X) := ⟨fun h => wp_gSub h⟩
theorem ixN_nat {n k : Nat} {i : Int} (hi : i = (k : Nat)) (h : k < n) : ixN n i = some k := by
  subst hi
  unfold ixN
  rw [if_pos (by omega), if_pos (by omega)]
  rfl
theorem wp_put {n k : Nat} {i : Int} {xs : List D} {v : D} {S : Sto} {Q : Unit → Sto → Prop} {X : Str → Sto → Prop} (e : lstOf S n = some xs) (hi : i = (k : Nat)) (hk : k < xs.length) (h : Q () (setL S n (xs.set k v))) : wp (oPut (.ref n) (.int i) v S) Q X := by
  have e2 : oPut (.ref n) (.int i) v S = .ok () (setL S n (xs.set k v)) := by simp only [oPut, e, ixN_nat hi hk]
  exact wp_eq e2 h
theorem wp_sorted {n : Nat} {ns : List Int} {S : Sto} {Q : D → Sto → Prop} {X : Str → Sto → Prop} (e : lstOf S n = some (ns.map D.int)) (hl : ns.length < 64) (h : ∀ ms : List Int, ms.Perm ns → ms.Pairwise (· ≤ ·) → Q (.ref S.length) (S ++ [.lst (ms.map D.int)])) : wp (bSorted [.ref n] S) Q X := by
  have e2 : bSorted [.ref n] S = .ok (.ref S.length) (S ++ [.lst ((ns.mergeSort fun a b => decide (a ≤ b)).map D.int)]) := by
    simp only [bSorted, e, Option.bind_some, mapM_int, hl, if_true]
  refine wp_eq e2 (h _ (List.mergeSort_perm ns _) ?_)
  have := List.pairwise_mergeSort (le := fun a b : Int => decide (a ≤ b)) (fun a b c h1 h2 => by simp at h1 h2 ⊢; omega) (fun a b => by simp; omega) ns
  exact this.imp fun h => by simpa using h
/-- a list of lists of amounts, row by row -/
structure Rows (b : Nat) (S : Sto) (rs : List Nat) (M : List (List Rat)) (i : Nat) : Prop where
  len : rs.length = i
  pw : rs.Pairwise (· < ·)
  bd : ∀ r ∈ rs, b ≤ r ∧ r < S.length
  row : ∀ (j r : Nat) (w : List Rat), rs[j]? = some r → M[j]? = some w → lstOf S r = some (w.map aD)
theorem Rows.nil {b : Nat} {S : Sto} {M : List (List Rat)} : Rows b S [] M 0 := ⟨rfl, .nil, by simp, by simp⟩
theorem Rows.old {b : Nat} {S T : Sto} {rs : List Nat} {M : List (List Rat)} {i : Nat} (h : Rows b S rs M i) : Rows b (S ++ T) rs M i :=
  ⟨h.len, h.pw, fun r hr => ⟨(h.bd r hr).1, by have := (h.bd r hr).2; simp; omega⟩, fun j r w h1 h2 => lstOf_old (h.row j r w h1 h2)⟩
/-- a further row, somewhere behind all others -/
theorem Rows.snoc {b : Nat} {S : Sto} {rs : List Nat} {M : List (List Rat)} {i r : Nat} {w : List Rat} (h : Rows b S rs M i) (hr : lstOf S r = some (w.map aD)) (hb : b ≤ r) (hn : ∀ r' ∈ rs, r' < r) (hw : M[i]? = some w) : Rows b S (rs ++ [r]) M (i + 1) := by
  refine ⟨by simp [h.len], ?_, fun r' hr' => ?_, fun j r' w' h1 h2 => ?_⟩
  · rw [List.pairwise_append]
    refine ⟨h.pw, by simp, fun a ha c hc => ?_⟩
    rw [List.mem_singleton] at hc
    subst hc
    exact hn a ha
  · rcases List.mem_append.mp hr' with q | q
    · exact h.bd r' q
    · rw [List.mem_singleton] at q
      subst q
      exact ⟨hb, lstOf_lt hr⟩
  · by_cases q : j < rs.length
    · rw [List.getElem?_append_left q] at h1
      exact h.row j r' w' h1 h2
    · rw [List.getElem?_append_right (by omega)] at h1
      have : j - rs.length = 0 := by
        have := (List.getElem?_eq_some_iff.mp h1).1
        simp at this; omega
      rw [this] at h1
      simp at h1
      subst h1
      have : j = i := by have := h.len; omega
      subst this
      rw [hw] at h2
      cases h2
      exact hr
/-- a row made at the end of the store -/
theorem Rows.new {b : Nat} {S : Sto} {rs : List Nat} {M : List (List Rat)} {i : Nat} {w : List Rat} (h : Rows b S rs M i) (hb : b ≤ S.length) (hw : M[i]? = some w) : Rows b (S ++ [.lst (w.map aD)]) (rs ++ [S.length]) M (i + 1) :=
  h.old.snoc lstOf_new hb (fun r hr => (h.bd r hr).2) hw
structure Mat (b : Nat) (S : Sto) (a : Nat) (rs : List Nat) (M : List (List Rat)) : Prop where
  top : lstOf S a = some (rs.map D.ref)
  rows : Rows b S rs M M.length
theorem Mat.old {b : Nat} {S T : Sto} {a : Nat} {rs : List Nat} {M : List (List Rat)} (h : Mat b S a rs M) : Mat b (S ++ T) a rs M := ⟨lstOf_old h.top, h.rows.old⟩
theorem Mat.lt {b : Nat} {S : Sto} {a : Nat} {rs : List Nat} {M : List (List Rat)} (h : Mat b S a rs M) {i : Nat} (hi : i < M.length) : ∃ r w, rs[i]? = some r ∧ M[i]? = some w ∧ lstOf S r = some (w.map aD) := by
  obtain ⟨r, h1⟩ := at_lt (xs := rs) (k := i) (by rw [h.rows.len]; exact hi)
  obtain ⟨w, h2⟩ := at_lt hi
  exact ⟨r, w, h1, h2, h.rows.row i r w h1 h2⟩
theorem Mat.sm {b c : Nat} {S : Sto} {a a' : Nat} {rs rs' : List Nat} {M : List (List Rat)} {n : Nat} (h : Mat b S a rs M) (h' : Mat c S a' rs' M) (hl : M.length < 1000) (hw : ∀ w ∈ M, w.length < 1000) : Sm S (n + 4) (.ref a) (.ref a') := by
  refine .lst h.top h'.top (by simp [h.rows.len, h'.rows.len]) (lim_of (by simp [h.rows.len]; omega)) fun k x y hx hy => ?_
  rw [List.getElem?_map, Option.map_eq_some_iff] at hx hy
  obtain ⟨r, hr, rfl⟩ := hx
  obtain ⟨r', hr', rfl⟩ := hy
  have hk : k < M.length := by
    have := (List.getElem?_eq_some_iff.mp hr).1
    rw [h.rows.len] at this
    exact this
  obtain ⟨w, hw'⟩ := at_lt hk
  exact .aDs (h.rows.row k r w hr hw') (h'.rows.row k r' w hr' hw') (by have := hw w (List.mem_of_getElem? hw'); omega)
theorem tblR_at {ps : List Int} {r i : Nat} (hi : i < ps.length) : (tblR ps r)[i]? = some (row ps r i) := by simp [tblR, row, hi]
theorem tblR_len {ps : List Int} {r : Nat} : (tblR ps r).length = ps.length := by simp [tblR]
theorem tblR_row {ps : List Int} {r : Nat} : ∀ w ∈ tblR ps r, w.length = ps.length := fun w hw => by
  simp only [tblR, List.mem_map] at hw
  obtain ⟨i, _, rfl⟩ := hw
  simp
/-- sums of products, from the left -/
def dt : List Rat → List Rat → Rat
  | p :: ps, f :: fs => p * f + dt ps fs
  | _, _ => 0
theorem dt_take : ∀ {ps fs : List Rat} {k : Nat} {p f : Rat}, ps[k]? = some p → fs[k]? = some f → dt (ps.take (k + 1)) (fs.take (k + 1)) = dt (ps.take k) (fs.take k) + p * f
  | [], _, _, _, _, h, _ => by simp at h
  | _ :: _, [], _, _, _, _, h => by simp at h
  | p :: ps, f :: fs, 0, _, _, h, h' => by
    simp at h h'
    subst h h'
    simp only [List.take_succ_cons, List.take_zero, dt]
    grind
  | p :: ps, f :: fs, k + 1, q, g, h, h' => by
    simp only [List.getElem?_cons_succ] at h h'
    have := dt_take h h'
    rw [List.take_succ_cons, List.take_succ_cons, dt, this, List.take_succ_cons, List.take_succ_cons, dt]
    grind
theorem dt_sm {n : Nat} {f g : Nat → Rat} : ∀ k, k ≤ n → dt (((List.range n).map f).take k) (((List.range n).map g).take k) = sm (fun i => f i * g i) k
  | 0, _ => by simp [dt, sm]
  | k + 1, h => by
    rw [dt_take (p := f k) (f := g k) (by rw [List.getElem?_map, List.getElem?_range (by omega)]; rfl) (by rw [List.getElem?_map, List.getElem?_range (by omega)]; rfl), dt_sm k (by omega)]
    rfl
/-- the row of one round -/
def mrow (ps : List Int) (i : Nat) : List Rat := (List.range ps.length).map fun j => if j = ps.length - 1 then 1 - kp ps i else if j + 1 = i then kp ps i else 0
theorem mrow_len {ps : List Int} {i : Nat} : (mrow ps i).length = ps.length := by simp [mrow]
theorem mrow_at {ps : List Int} {i j : Nat} (hj : j < ps.length) : (mrow ps i)[j]? = some (if j = ps.length - 1 then 1 - kp ps i else if j + 1 = i then kp ps i else 0) := by simp [mrow, hj]
theorem kp_zero {ps : List Int} : kp ps 0 = 0 := rfl
/-- what is summed up by and by -/
theorem mrow_dt {ps : List Int} {v : List Rat} {i : Nat} (hi : i < ps.length) (hl : v.length = ps.length) : ∀ k, k ≤ ps.length → dt ((mrow ps i).take k) (v.take k) = (if i ≤ k ∧ k < ps.length ∨ k = ps.length then kp ps i * v.getD (i - 1) 0 else 0) + (if k = ps.length then (1 - kp ps i) * v.getD (ps.length - 1) 0 else 0)
  | 0, _ => by
    simp only [List.take_zero, dt]
    rw [if_neg (show ¬ 0 = ps.length by omega)]
    by_cases h0 : i = 0
    · subst h0
      rw [if_pos (.inl ⟨Nat.le_refl _, hi⟩), kp_zero]
      grind
    · rw [if_neg (by omega)]
      grind
  | k + 1, hk => by
    obtain ⟨x, hx⟩ := at_lt (xs := v) (k := k) (by omega)
    have hx' : v.getD k 0 = x := by rw [List.getD_eq_getElem?_getD, hx]; rfl
    rw [dt_take (mrow_at (by omega)) hx, mrow_dt hi hl k (by omega)]
    rw [if_neg (show ¬ k = ps.length by omega)]
    by_cases h1 : k = ps.length - 1
    · rw [if_pos h1, if_pos (show i ≤ k ∧ k < ps.length ∨ k = ps.length by omega), if_pos (show i ≤ k + 1 ∧ k + 1 < ps.length ∨ k + 1 = ps.length by omega), if_pos (show k + 1 = ps.length by omega), ← h1, hx']
      grind
    · rw [if_neg h1, if_neg (show ¬ k + 1 = ps.length by omega)]
      by_cases h2 : k + 1 = i
      · rw [if_pos h2, if_neg (show ¬ (i ≤ k ∧ k < ps.length ∨ k = ps.length) by omega), if_pos (show i ≤ k + 1 ∧ k + 1 < ps.length ∨ k + 1 = ps.length by omega), show i - 1 = k by omega, hx']
        grind
      · rw [if_neg h2]
        by_cases h3 : i ≤ k
        · rw [if_pos (show i ≤ k ∧ k < ps.length ∨ k = ps.length by omega), if_pos (show i ≤ k + 1 ∧ k + 1 < ps.length ∨ k + 1 = ps.length by omega)]
          grind
        · rw [if_neg (show ¬ (i ≤ k ∧ k < ps.length ∨ k = ps.length) by omega), if_neg (show ¬ (i ≤ k + 1 ∧ k + 1 < ps.length ∨ k + 1 = ps.length) by omega)]
          grind

theorem row_take {ps : List Int} {r i k : Nat} : smm ((row ps r i).take k) = sm (fun j => tbl ps r i j) (min k ps.length) := by
  rw [← sm_map]
  unfold row
  rw [← List.map_take, List.take_range]
theorem row_sum {ps : List Int} (h : Ris ps) {r i : Nat} (hi : i < ps.length) : smm (row ps r i) = 1 := by
  have := row_take (ps := ps) (r := r) (i := i) (k := ps.length)
  rw [List.take_of_length_le (by rw [row_len]; exact Nat.le_refl _), Nat.min_self, tbl_sum h hi] at this
  exact this
theorem sm_bd {f : Nat → Rat} : ∀ {n}, (∀ i, i < n → f i ≤ 1) → sm f n ≤ ((n : Int) : Rat)
  | 0, _ => Rat.le_refl
  | n + 1, h => by
    have h1 := sm_bd (f := f) (n := n) fun i hi => h i (by omega)
    have h2 := h n (by omega)
    have e : (((n + 1 : Nat) : Int) : Rat) = ((n : Int) : Rat) + 1 := by rw [show ((n + 1 : Nat) : Int) = (n : Int) + 1 by omega, Rat.intCast_add]; rfl
    rw [e]
    simp only [sm]
    grind
theorem row_am {ps : List Int} (h : Ris ps) {r i : Nat} (hr : r ≤ 25) (hi : i < ps.length) (k : Nat) : Am 400 (smm ((row ps r i).take k)) := by
  rw [row_take]
  have hk : min k ps.length ≤ 8 := by have := h.h8; omega
  generalize min k ps.length = n at hk
  refine ((sm_dv (d := 27720 ^ r) fun j _ => tbl_dv h hi).am (n := 15 * r + 1) (m := 5) (b := (n : Int)) (pow_pos' r) (pow_lt r) (sm_nn fun j _ => (tbl_bd h hi).1) (sm_bd fun j _ => (tbl_bd h hi).2) (.of (b := 16) (by omega) (by omega) (by decide))).mono (by omega)
theorem row_all {ps : List Int} (h : Ris ps) {r i : Nat} (hr : r ≤ 25) (hi : i < ps.length) : ∀ x ∈ row ps r i, Am 400 x ∧ 0 ≤ x := fun x hx => by
  simp only [row, List.mem_map, List.mem_range] at hx
  obtain ⟨k, hk, rfl⟩ := hx
  exact ⟨tbl_am h hr hi, (tbl_bd h hi).1⟩
theorem unl_row {ps : List Int} {i : Nat} (hi : i < ps.length) : row ps 0 i = unl ps.length i := by
  refine List.ext_getElem? fun j => ?_
  by_cases hj : j < ps.length
  · rw [row_at hj, unl_at hj, tbl_zero hi]
    by_cases e : i = j
    · rw [if_pos e, if_pos e.symm]
    · rw [if_neg e, if_neg (Ne.symm e)]
  · rw [List.getElem?_eq_none (by rw [row_len]; omega), List.getElem?_eq_none (by rw [unl_len]; omega)]
theorem tblR_zero {ps : List Int} : tblR ps 0 = (List.range ps.length).map (unl ps.length) := by
  refine List.ext_getElem? fun i => ?_
  by_cases hi : i < ps.length
  · rw [tblR_at hi, List.getElem?_map, List.getElem?_range hi, unl_row hi]; rfl
  · rw [List.getElem?_eq_none (by rw [tblR_len]; omega), List.getElem?_eq_none (by simp; omega)]

/-! shares behind some rounds -/
structure Shr (d : Nat) (b : Int) (n : Nat) (v : List Rat) : Prop where
  len : v.length = n
  all : ∀ x ∈ v, Dv d x ∧ 0 ≤ x ∧ x ≤ (b : Rat)
theorem list_rng (v : List Rat) : v = (List.range v.length).map fun j => v.getD j 0 := by
  refine List.ext_getElem? fun j => ?_
  by_cases hj : j < v.length
  · obtain ⟨x, hx⟩ := at_lt hj
    rw [List.getElem?_map, List.getElem?_range hj]
    show v[j]? = some (v.getD j 0)
    rw [List.getD_eq_getElem?_getD, hx]
    rfl
  · rw [List.getElem?_eq_none (by omega), List.getElem?_eq_none (by simp; omega)]
theorem row_dt {ps : List Int} {v : List Rat} {r i k : Nat} (hl : v.length = ps.length) (hk : k ≤ ps.length) : dt ((row ps r i).take k) (v.take k) = sm (fun j => tbl ps r i j * v.getD j 0) k := by
  have e := list_rng v
  rw [hl] at e
  conv => lhs; rw [e]
  unfold row
  exact dt_sm k hk
theorem Shr.rnds {d : Nat} {b : Int} {ps : List Int} {v : List Rat} (h : Ris ps) (s : Shr d b ps.length v) (r : Nat) : Shr (27720 ^ r * d) b ps.length (rnds ps r v) :=
  ⟨rnds_len s.len r, fun x hx => ⟨rnds_dv h s.len (fun y hy => (s.all y hy).1) r x hx, rnds_bd h s.len (fun y hy => (s.all y hy).2) r x hx⟩⟩
theorem Shr.am {d n m : Nat} {b : Int} {ps : List Int} {v : List Rat} (h : Ris ps) (s : Shr d b ps.length v) (hd : 0 < d ∧ d < 2 ^ n) (hb : Sz m b) (r : Nat) : ∀ x ∈ J.rnds ps r v, Am (m + (15 * r + 1 + n)) x := rnds_am h s.len (fun x hx => (s.all x hx).1) hd (fun x hx => (s.all x hx).2) hb r
theorem sm_bdc {f : Nat → Rat} {b : Int} : ∀ {n}, (∀ i, i < n → f i ≤ (b : Rat)) → sm f n ≤ ((n * b : Int) : Rat)
  | 0, _ => by simp only [sm]; rw [show (((0 : Nat) : Int) * b) = 0 by omega]; exact Rat.le_refl
  | n + 1, h => by
    have h1 := sm_bdc (f := f) (n := n) fun i hi => h i (by omega)
    have h2 := h n (by omega)
    have e : (((n + 1 : Nat) : Int) * b) = (n : Int) * b + b := by rw [show ((n + 1 : Nat) : Int) = (n : Int) + 1 by omega, Int.add_mul, Int.one_mul]
    rw [e, Rat.intCast_add]
    simp only [sm]
    grind
theorem row_dt_am {d n m : Nat} {b : Int} {ps : List Int} {v : List Rat} (h : Ris ps) (s : Shr d b ps.length v) (hd : 0 < d ∧ d < 2 ^ n) (hb : Sz m b) {r i k : Nat} (hi : i < ps.length) (hk : k ≤ ps.length) : Am (4 + m + (15 * r + 1 + n)) (dt ((row ps r i).take k) (v.take k)) := by
  rw [row_dt s.len hk]
  have h8 := h.h8
  have el : ∀ j, j < k → Dv d (v.getD j 0) ∧ 0 ≤ v.getD j 0 ∧ v.getD j 0 ≤ (b : Rat) := fun j hj => getD_all (P := fun x => Dv d x ∧ 0 ≤ x ∧ x ≤ (b : Rat)) s.all (by have := s.len; omega)
  have hz : Sz (4 + m) ((k : Int) * b) := .mul (.of (b := 16) (by omega) (by omega) (by decide)) hb
  refine (sm_dv (d := 27720 ^ r * d) fun j hj => (tbl_dv h hi).mul (el j hj).1).am (Nat.mul_pos (pow_pos' r) hd.1) ?_ (sm_nn fun j hj => Rat.mul_nonneg (tbl_bd h hi).1 (el j hj).2.1) (sm_bdc fun j hj => ?_) hz
  · rw [Nat.pow_add]
    exact Nat.mul_lt_mul_of_lt_of_lt (pow_lt r) hd.2
  · obtain ⟨t0, t1⟩ := tbl_bd h (r := r) (k := j) hi
    obtain ⟨_, v0, v1⟩ := el j hj
    generalize tbl ps r i j = x at *
    generalize v.getD j 0 = y at *
    have : 0 ≤ (1 - x) * y := Rat.mul_nonneg (by grind) v0
    grind
end J

set_option Elab.async false
set_option linter.all false
set_option maxRecDepth 100000
set_option maxHeartbeats 4000000
namespace J
open PySem PySem.Spec PyProof.Rows L2
/-! ### least, greatest, spread, narrowing -/
def lo (a x : Rat) : Rat := if x < a then x else a
def hi (a x : Rat) : Rat := if a < x then x else a
def mn (l : List Rat) : Rat := l.foldl lo (l.headD 0)
def mx (l : List Rat) : Rat := l.foldl hi (l.headD 0)
theorem lo_le {a x : Rat} : lo a x ≤ a ∧ lo a x ≤ x ∧ (lo a x = a ∨ lo a x = x) := by
  unfold lo
  split
  · exact ⟨by grind, Rat.le_refl, .inr rfl⟩
  · exact ⟨Rat.le_refl, by grind, .inl rfl⟩
theorem hi_le {a x : Rat} : a ≤ hi a x ∧ x ≤ hi a x ∧ (hi a x = a ∨ hi a x = x) := by
  unfold hi
  split
  · exact ⟨by grind, Rat.le_refl, .inr rfl⟩
  · exact ⟨Rat.le_refl, by grind, .inl rfl⟩
theorem lo_fold : ∀ (l : List Rat) (a : Rat), l.foldl lo a ≤ a ∧ (∀ x ∈ l, l.foldl lo a ≤ x) ∧ (l.foldl lo a = a ∨ l.foldl lo a ∈ l)
  | [], a => ⟨Rat.le_refl, by simp, .inl rfl⟩
  | x :: l, a => by
    obtain ⟨h1, h2, h3⟩ := lo_fold l (lo a x)
    obtain ⟨b1, b2, b3⟩ := lo_le (a := a) (x := x)
    rw [List.foldl_cons]
    generalize l.foldl lo (lo a x) = z at *
    refine ⟨by grind, fun y hy => ?_, ?_⟩
    · rcases List.mem_cons.mp hy with rfl | h
      · grind
      · exact h2 y h
    · rcases h3 with h3 | h3
      · rcases b3 with b3 | b3
        · exact .inl (by rw [h3, b3])
        · exact .inr (by rw [h3, b3]; simp)
      · exact .inr (List.mem_cons_of_mem _ h3)
theorem hi_fold : ∀ (l : List Rat) (a : Rat), a ≤ l.foldl hi a ∧ (∀ x ∈ l, x ≤ l.foldl hi a) ∧ (l.foldl hi a = a ∨ l.foldl hi a ∈ l)
  | [], a => ⟨Rat.le_refl, by simp, .inl rfl⟩
  | x :: l, a => by
    obtain ⟨h1, h2, h3⟩ := hi_fold l (hi a x)
    obtain ⟨b1, b2, b3⟩ := hi_le (a := a) (x := x)
    rw [List.foldl_cons]
    generalize l.foldl hi (hi a x) = z at *
    refine ⟨by grind, fun y hy => ?_, ?_⟩
    · rcases List.mem_cons.mp hy with rfl | h
      · grind
      · exact h2 y h
    · rcases h3 with h3 | h3
      · rcases b3 with b3 | b3
        · exact .inl (by rw [h3, b3])
        · exact .inr (by rw [h3, b3]; simp)
      · exact .inr (List.mem_cons_of_mem _ h3)
theorem headD_mem {l : List Rat} (h : l ≠ []) : l.headD 0 ∈ l := by
  cases l with
  | nil => exact absurd rfl h
  | cons x l => simp
theorem mn_le {l : List Rat} : ∀ x ∈ l, mn l ≤ x := (lo_fold l _).2.1
theorem mn_mem {l : List Rat} (h : l ≠ []) : mn l ∈ l := by
  rcases (lo_fold l (l.headD 0)).2.2 with e | e
  · unfold mn; rw [e]; exact headD_mem h
  · exact e
theorem mx_le {l : List Rat} : ∀ x ∈ l, x ≤ mx l := (hi_fold l _).2.1
theorem mx_mem {l : List Rat} (h : l ≠ []) : mx l ∈ l := by
  rcases (hi_fold l (l.headD 0)).2.2 with e | e
  · unfold mx; rw [e]; exact headD_mem h
  · exact e
theorem lo_take {l : List Rat} (h : l ≠ []) (k : Nat) : (l.take k).foldl lo (l.headD 0) ∈ l := by
  rcases (lo_fold (l.take k) (l.headD 0)).2.2 with e | e
  · rw [e]; exact headD_mem h
  · exact List.mem_of_mem_take e
theorem hi_take {l : List Rat} (h : l ≠ []) (k : Nat) : (l.take k).foldl hi (l.headD 0) ∈ l := by
  rcases (hi_fold (l.take k) (l.headD 0)).2.2 with e | e
  · rw [e]; exact headD_mem h
  · exact List.mem_of_mem_take e
def sprd (l : List Rat) : Rat := mx l - mn l
theorem mn_two {x y : Rat} : mn [x, y] = lo x y := by
  unfold mn
  simp only [List.headD_cons, List.foldl_cons, List.foldl_nil]
  rw [show lo x x = x by unfold lo; split <;> rfl]
theorem rnds_sprd {ps : List Int} {v : List Rat} (h : Ris ps) (hl : v.length = ps.length) (r : Nat) : sprd (rnds ps r v) ≤ sprd v := by
  have hb := rnds_bd (a := mn v) (b := mx v) h hl (fun x hx => ⟨mn_le x hx, mx_le x hx⟩) r
  have hne : rnds ps r v ≠ [] := fun e => by
    have hlen := rnds_len hl r
    rw [e] at hlen
    have := h.pos
    simp at hlen; omega
  have h1 := (hb _ (mx_mem hne)).2
  have h2 := (hb _ (mn_mem hne)).1
  unfold sprd
  grind
/-- what two rows both have -/
def shr (ps : List Int) (r a j : Nat) : Rat := sm (fun k => lo (tbl ps r a k) (tbl ps r j k)) ps.length
theorem lo_bd {ps : List Int} (h : Ris ps) {r a j k : Nat} (ha : a < ps.length) (hj : j < ps.length) : 0 ≤ lo (tbl ps r a k) (tbl ps r j k) ∧ lo (tbl ps r a k) (tbl ps r j k) ≤ 1 ∧ Dv (27720 ^ r) (lo (tbl ps r a k) (tbl ps r j k)) := by
  obtain ⟨h1, h2, h3⟩ := lo_le (a := tbl ps r a k) (x := tbl ps r j k)
  have t1 := tbl_bd h (r := r) (k := k) ha
  have t2 := tbl_bd h (r := r) (k := k) hj
  have d1 := tbl_dv h (r := r) (k := k) ha
  have d2 := tbl_dv h (r := r) (k := k) hj
  rcases h3 with e | e <;> rw [e] <;> exact ⟨by grind, by grind, by assumption⟩
theorem lo_am {ps : List Int} (h : Ris ps) {r a j k : Nat} (hr : r ≤ 25) (ha : a < ps.length) (hj : j < ps.length) : Am 400 (lo (tbl ps r a k) (tbl ps r j k)) := by
  rcases (lo_le (a := tbl ps r a k) (x := tbl ps r j k)).2.2 with e | e <;> rw [e]
  · exact tbl_am h hr ha
  · exact tbl_am h hr hj
theorem shr_nn {ps : List Int} (h : Ris ps) {r a j : Nat} (ha : a < ps.length) (hj : j < ps.length) : 0 ≤ shr ps r a j := sm_nn fun k _ => (lo_bd h ha hj).1
theorem shr_am {ps : List Int} (h : Ris ps) {r a j k : Nat} (hr : r ≤ 25) (ha : a < ps.length) (hj : j < ps.length) (hk : k ≤ ps.length) : Am 400 (sm (fun k => lo (tbl ps r a k) (tbl ps r j k)) k) := by
  have h8 := h.h8
  refine ((sm_dv (d := 27720 ^ r) fun j _ => (lo_bd h ha hj).2.2).am (n := 15 * r + 1) (m := 5) (b := (k : Int)) (pow_pos' r) (pow_lt r) (sm_nn fun j _ => (lo_bd h ha hj).1) (sm_bd fun j _ => (lo_bd h ha hj).2.1) (.of (b := 16) (by omega) (by omega) (by decide))).mono (by omega)
theorem shr_self {ps : List Int} (h : Ris ps) {r a : Nat} (ha : a < ps.length) : shr ps r a a = 1 := by
  rw [← tbl_sum h (r := r) ha]
  exact sm_congr fun k _ => by unfold lo; split <;> rfl
theorem shr_comm {ps : List Int} {r a j : Nat} : shr ps r a j = shr ps r j a := sm_congr fun k _ => by unfold lo; split <;> split <;> grind
/-- the least of them -/
def bth (ps : List Int) (r : Nat) : Nat → Rat
  | 0 => 1
  | a + 1 => mn (bth ps r a :: (List.range a).map fun j => shr ps r a j)
structure Bth (ps : List Int) (r n : Nat) (b : Rat) : Prop where
  one : b ≤ 1
  nn : 0 ≤ b
  le : ∀ a j, a < n → j < a → b ≤ shr ps r a j
  ex : b = 1 ∨ ∃ a j, a < n ∧ j < a ∧ b = shr ps r a j
theorem bth_spec {ps : List Int} (h : Ris ps) {r : Nat} : ∀ n, n ≤ ps.length → Bth ps r n (bth ps r n)
  | 0, _ => ⟨Rat.le_refl, show (0 : Rat) ≤ 1 by decide, fun a j h => by omega, .inl rfl⟩
  | n + 1, hn => by
    have ih := bth_spec h (r := r) n (by omega)
    have hm := mn_mem (l := bth ps r n :: (List.range n).map fun j => shr ps r n j) (by simp)
    have hl := mn_le (l := bth ps r n :: (List.range n).map fun j => shr ps r n j)
    show Bth ps r (n + 1) (mn (bth ps r n :: (List.range n).map fun j => shr ps r n j))
    generalize mn (bth ps r n :: (List.range n).map fun j => shr ps r n j) = b at *
    have h0 := hl _ (List.mem_cons_self ..)
    refine ⟨by have := ih.one; grind, ?_, fun a j ha hj => ?_, ?_⟩
    · rcases List.mem_cons.mp hm with e | e
      · rw [e]; exact ih.nn
      · obtain ⟨j, hj, rfl⟩ := List.mem_map.mp e
        exact shr_nn h (by omega) (by have := List.mem_range.mp hj; omega)
    · by_cases e : a = n
      · subst e
        exact hl _ (List.mem_cons_of_mem _ (List.mem_map.mpr ⟨j, List.mem_range.mpr hj, rfl⟩))
      · have := ih.le a j (by omega) hj
        grind
    · rcases List.mem_cons.mp hm with e | e
      · rw [e]
        rcases ih.ex with e' | ⟨a, j, h1, h2, h3⟩
        · exact .inl e'
        · exact .inr ⟨a, j, by omega, h2, h3⟩
      · obtain ⟨j, hj, e'⟩ := List.mem_map.mp e
        exact .inr ⟨n, j, by omega, List.mem_range.mp hj, e'.symm⟩
theorem bth_am {ps : List Int} (h : Ris ps) {r : Nat} (hr : r ≤ 25) {n : Nat} (hn : n ≤ ps.length) : Am 400 (bth ps r n) := by
  rcases (bth_spec h (r := r) n hn).ex with e | ⟨a, j, h1, h2, e⟩ <;> rw [e]
  · exact .mono (n := 2) ⟨.lit (by decide), .lit (by decide)⟩ (by decide)
  · exact shr_am h hr (by omega) (by omega) (Nat.le_refl _)
theorem Bth.all {ps : List Int} {r : Nat} {b : Rat} (h : Ris ps) (hb : Bth ps r ps.length b) {a j : Nat} (ha : a < ps.length) (hj : j < ps.length) : b ≤ shr ps r a j := by
  by_cases e : a = j
  · subst e
    rw [shr_self h ha]
    exact hb.one
  · by_cases q : j < a
    · exact hb.le a j ha q
    · rw [shr_comm]
      exact hb.le j a hj (by omega)
/-- by so much the spread narrows -/
theorem narrow {ps : List Int} {v : List Rat} {r : Nat} {b : Rat} (h : Ris ps) (hl : v.length = ps.length) (hb : Bth ps r ps.length b) : sprd (rnds ps r v) ≤ sprd v * (1 - b) := by
  have hlen := rnds_len hl r
  have hne : rnds ps r v ≠ [] := fun e => by
    rw [e] at hlen
    have := h.pos
    simp at hlen; omega
  have hv : ∀ k, k < ps.length → mn v ≤ v.getD k 0 ∧ v.getD k 0 ≤ mx v := fun k hk => getD_all (P := fun x => mn v ≤ x ∧ x ≤ mx v) (fun x hx => ⟨mn_le x hx, mx_le x hx⟩) (by omega)
  have hvne : v ≠ [] := fun e => by
    rw [e] at hl
    have := h.pos
    simp at hl; omega
  have hs0 : mn v ≤ mx v := mx_le _ (mn_mem hvne)
  obtain ⟨i, hi⟩ := List.mem_iff_getElem?.mp (mx_mem hne)
  obtain ⟨j, hj⟩ := List.mem_iff_getElem?.mp (mn_mem hne)
  have hi' := (List.getElem?_eq_some_iff.mp hi).1
  have hj' := (List.getElem?_eq_some_iff.mp hj).1
  rw [hlen] at hi' hj'
  rw [rnds_tbl h hl hi'] at hi
  rw [rnds_tbl h hl hj'] at hj
  have e1 := Option.some.inj hi
  have e2 := Option.some.inj hj
  unfold sprd
  rw [← e1, ← e2]
  have hsh := hb.all h hi' hj'
  have ti := tbl_sum h (r := r) hi'
  have tj := tbl_sum h (r := r) hj'
  unfold shr at hsh
  -- above
  have a1 : sm (fun k => tbl ps r i k * v.getD k 0) ps.length ≤ sm (fun k => lo (tbl ps r i k) (tbl ps r j k) * v.getD k 0 + mx v * (tbl ps r i k + (-1) * lo (tbl ps r i k) (tbl ps r j k))) ps.length := sm_le fun k hk => by
    obtain ⟨_, c2⟩ := hv k hk
    have := (lo_le (a := tbl ps r i k) (x := tbl ps r j k)).1
    generalize lo (tbl ps r i k) (tbl ps r j k) = m at *
    have : 0 ≤ (tbl ps r i k - m) * (mx v - v.getD k 0) := Rat.mul_nonneg (by grind) (by grind)
    grind
  have a2 : sm (fun k => lo (tbl ps r i k) (tbl ps r j k) * v.getD k 0 + mn v * (tbl ps r j k + (-1) * lo (tbl ps r i k) (tbl ps r j k))) ps.length ≤ sm (fun k => tbl ps r j k * v.getD k 0) ps.length := sm_le fun k hk => by
    obtain ⟨c1, _⟩ := hv k hk
    have := (lo_le (a := tbl ps r i k) (x := tbl ps r j k)).2.1
    generalize lo (tbl ps r i k) (tbl ps r j k) = m at *
    have : 0 ≤ (tbl ps r j k - m) * (v.getD k 0 - mn v) := Rat.mul_nonneg (by grind) (by grind)
    grind
  rw [sm_add, sm_mul, sm_add, sm_mul, ti] at a1
  rw [sm_add, sm_mul, sm_add, sm_mul, tj] at a2
  generalize sm (fun k => lo (tbl ps r i k) (tbl ps r j k)) ps.length = s at *
  generalize sm (fun k => lo (tbl ps r i k) (tbl ps r j k) * v.getD k 0) ps.length = w at *
  generalize sm (fun k => tbl ps r i k * v.getD k 0) ps.length = p at *
  generalize sm (fun k => tbl ps r j k * v.getD k 0) ps.length = q at *
  have : 0 ≤ (mx v - mn v) * (s - b) := Rat.mul_nonneg (by grind) (by grind)
  grind
theorem lo_mix {al be x y z : Rat} (a0 : 0 ≤ al) (a1 : al ≤ 1) (b0 : 0 ≤ be) (b1 : be ≤ 1) : al * be * lo x y + al * (1 - be) * lo x z + ((1 - al) * be * lo z y + (1 - al) * (1 - be) * z) ≤ lo (al * x + (1 - al) * z) (be * y + (1 - be) * z) := by
  obtain ⟨p1, p2, _⟩ := lo_le (a := x) (x := y)
  obtain ⟨q1, q2, _⟩ := lo_le (a := x) (x := z)
  obtain ⟨r1, r2, _⟩ := lo_le (a := z) (x := y)
  have w1 : 0 ≤ al * be := Rat.mul_nonneg a0 b0
  have w2 : 0 ≤ al * (1 - be) := Rat.mul_nonneg a0 (by grind)
  have w3 : 0 ≤ (1 - al) * be := Rat.mul_nonneg (by grind) b0
  generalize lo x y = m1 at *
  generalize lo x z = m2 at *
  generalize lo z y = m3 at *
  have c1 : 0 ≤ al * be * (x - m1) := Rat.mul_nonneg w1 (by grind)
  have c2 : 0 ≤ al * (1 - be) * (x - m2) := Rat.mul_nonneg w2 (by grind)
  have c3 : 0 ≤ (1 - al) * be * (z - m3) := Rat.mul_nonneg w3 (by grind)
  have d1 : 0 ≤ al * be * (y - m1) := Rat.mul_nonneg w1 (by grind)
  have d2 : 0 ≤ al * (1 - be) * (z - m2) := Rat.mul_nonneg w2 (by grind)
  have d3 : 0 ≤ (1 - al) * be * (y - m3) := Rat.mul_nonneg w3 (by grind)
  rcases (lo_le (a := al * x + (1 - al) * z) (x := be * y + (1 - be) * z)).2.2 with e | e <;> rw [e] <;> grind
/-- a round more does not narrow less -/
theorem bth_mono {ps : List Int} (h : Ris ps) {r : Nat} {b b' : Rat} (hb : Bth ps r ps.length b) (hb' : Bth ps (r + 1) ps.length b') : b ≤ b' := by
  rcases hb'.ex with e | ⟨a, j, ha, hj, e⟩
  · rw [e]; exact hb.one
  · have hp := h.pos
    have hj' : j < ps.length := by omega
    obtain ⟨a0, a1⟩ := kp_bd h ha
    obtain ⟨j0, j1⟩ := kp_bd h hj'
    have key : sm (fun k => kp ps a * kp ps j * lo (tbl ps r (a - 1) k) (tbl ps r (j - 1) k) + kp ps a * (1 - kp ps j) * lo (tbl ps r (a - 1) k) (tbl ps r (ps.length - 1) k) + ((1 - kp ps a) * kp ps j * lo (tbl ps r (ps.length - 1) k) (tbl ps r (j - 1) k) + (1 - kp ps a) * (1 - kp ps j) * tbl ps r (ps.length - 1) k)) ps.length ≤ shr ps (r + 1) a j := sm_le fun k hk => by
      rw [tbl_succ ha, tbl_succ hj']
      exact lo_mix a0 a1 j0 j1
    rw [sm_add, sm_add, sm_add, sm_mul, sm_mul, sm_mul, sm_mul, tbl_sum h (by omega)] at key
    have s1 := hb.all h (a := a - 1) (j := j - 1) (by omega) (by omega)
    have s2 := hb.all h (a := a - 1) (j := ps.length - 1) (by omega) (by omega)
    have s3 := hb.all h (a := ps.length - 1) (j := j - 1) (by omega) (by omega)
    have s4 := hb.one
    unfold shr at s1 s2 s3
    rw [e]
    generalize sm (fun k => lo (tbl ps r (a - 1) k) (tbl ps r (j - 1) k)) ps.length = x1 at *
    generalize sm (fun k => lo (tbl ps r (a - 1) k) (tbl ps r (ps.length - 1) k)) ps.length = x2 at *
    generalize sm (fun k => lo (tbl ps r (ps.length - 1) k) (tbl ps r (j - 1) k)) ps.length = x3 at *
    generalize kp ps a = al at *
    generalize kp ps j = be at *
    have w1 : 0 ≤ al * be := Rat.mul_nonneg a0 j0
    have w2 : 0 ≤ al * (1 - be) := Rat.mul_nonneg a0 (by grind)
    have w3 : 0 ≤ (1 - al) * be := Rat.mul_nonneg (by grind) j0
    have w4 : 0 ≤ (1 - al) * (1 - be) := Rat.mul_nonneg (by grind) (by grind)
    have c1 : 0 ≤ al * be * (x1 - b) := Rat.mul_nonneg w1 (by grind)
    have c2 : 0 ≤ al * (1 - be) * (x2 - b) := Rat.mul_nonneg w2 (by grind)
    have c3 : 0 ≤ (1 - al) * be * (x3 - b) := Rat.mul_nonneg w3 (by grind)
    have c4 : 0 ≤ (1 - al) * (1 - be) * (1 - b) := Rat.mul_nonneg w4 (by grind)
    grind
theorem bth_zero {ps : List Int} (h : Ris ps) {b : Rat} (hb : Bth ps 0 ps.length b) : 1 - b = ((if 1 < ps.length then 1 else 0 : Int) : Rat) := by
  by_cases h1 : 1 < ps.length
  · rw [if_pos h1]
    have h2 := hb.le 1 0 h1 (by omega)
    have h3 : shr ps 0 1 0 = 0 := by
      unfold shr
      rw [sm_congr (g := fun _ => 0) fun k hk => ?_, sm_zero]
      rw [tbl_zero h1, tbl_zero (by omega)]
      unfold lo
      by_cases e : 1 = k
      · rw [if_pos e, if_neg (show ¬ 0 = k by omega)]; decide
      · rw [if_neg e]
        by_cases e2 : 0 = k
        · rw [if_pos e2]; decide
        · rw [if_neg e2]; decide
    have := hb.nn
    have : b = 0 := by grind
    have e1 : ((1 : Int) : Rat) = 1 := rfl
    rw [this, e1]; grind
  · rw [if_neg h1]
    rcases hb.ex with e | ⟨a, j, ha, hj, _⟩
    · have e1 : ((0 : Int) : Rat) = 0 := rfl
      rw [e, e1]; grind
    · omega
end J

set_option Elab.async false
set_option linter.all false
set_option maxRecDepth 100000
set_option maxHeartbeats 4000000
namespace J
open PySem PySem.Spec PyProof.Rows L2
/-! ### how many unlike ints a list has -/
def cntD (ns : List Int) : Nat := (PyProof.Rows.firstMet (fun j => ns.getD j 0) ns.length).length
def oLenSet : D → Sto → R D
  | .ref n, S => match (lstOf S n).bind (List.mapM asInt) with
    | some ns => if ns.length < 4000 then .ok (.int (cntD ns : Nat)) S else .bad
    | none => .bad
  | _, _ => .bad
/-- len(set(a)) of a list of ints that may have the same one twice -/
def tLs (K : PySem.W.Frag) (ta : TE) : TE := fun σ H Q => ta σ H fun y H1 => ∃ (b : Addr) (ns : List Int), y = V.ref b ∧ SqL K H1 b (ns.map V.int) ∧ ns.length < 4000 ∧ Q (V.int (cntD ns : Nat)) H1
open RZ in
theorem pe_ls {X : Cx} {a : Expr} {ta : TE} {p p2 q pos : Pos} (g1 : Gl X "len") (m1 : X.mg "len" = none) (g2 : Gl X "set") (m2 : X.mg "set" = none) (pa : PE X a ta) (calm : X.calm = true := by rfl)
    (es : starEach [a] X.env = (false, eval a X.env) :: starEach [] X.env := by rfl) : PE X (.Call (.Name "len" p) [.Call (.Name "set" p2) [a] [] q] [] pos) (tLs X.K ta) := ⟨fun pins s σ H Q I w => by
  refine Call_ (ld_blt I g1 m1 boot_len (PyProof.Rows.callWith_builtin1 (PyProof.Rows.args_cons (Call_ (ld_blt I g2 m2 boot_set (PyProof.Rows.callWith_type1 (PyProof.Rows.args_cons ?run es) es rfl))) rfl) rfl rfl))
  refine thn (pa.run pins s σ H _ I w) fun v s1 ⟨y, H1, I1, ry, b, ns, ey, hq, hl, k⟩ => PyProof.Rows.args_nil ?_
  subst ey
  cases ry
  obtain ⟨its, rv, pl, _⟩ := I1.list hq
  have size : its.toArray.size = ns.length := by simpa using rv.length.symm
  refine call_set_list (I1.ok.hd calm) pl.isList (by simpa using intsAre_vals rv) (by rw [size]; unfold scanBound; omega) fun h' tk made keep => PyProof.Rows.args_nil ?_
  rw [size] at made
  obtain ⟨o, es', ep, t, there, exact_, data, _, _, _, fits, many⟩ := made
  have le := PyProof.Rows.firstMet_length_le (fun j => ns.getD j 0) ns.length
  have I2 : Inv X pins σ H1 { s1 with heap := h', toks := tk } := I1.kept fun c o' e => keep c o' (Heap.lt_size e) e
  exact call_len_set there exact_ data fits (by rw [many]; omega) ⟨V.int (cntD ns : Nat), H1, I2.tok _, ⟨_, by rw [many]; rfl⟩, k⟩⟩
theorem re_lenSet {X : Cx} {g : G} {E : XK} {a : Expr} {fa : IE} {p p2 q pos : Pos} (g1 : Gl X "len") (m1 : X.mg "len" = none) (g2 : Gl X "set") (m2 : X.mg "set" = none) (ha : RE X g E a fa) (calm : X.calm = true := by rfl)
    (es : starEach [a] X.env = (false, eval a X.env) :: starEach [] X.env := by rfl) : RE X g E (.Call (.Name "len" p) [.Call (.Name "set" p2) [a] [] q] [] pos) (iUn oLenSet fa) :=
  PE.imp (pe_ls g1 m1 g2 m2 ha calm es) fun σ H Q ⟨φ, ρ, S, er, rp, k⟩ => ⟨φ, ρ, S, er, rp, k.bind.mono fun d S1 φ1 H1 _ _ ⟨r1, n1, k1⟩ v dv => by
    cases d with
    | ref n =>
      obtain ⟨b, hb, rfl⟩ := ref_inv dv
      simp only [oLenSet] at k1
      split at k1
      · rename_i ns h1
        obtain ⟨xs, h2, h3⟩ := lst_bind h1
        obtain ⟨vs, e1, e2⟩ := r1.lst h2 hb
        have e3 := ints_of h3 e2
        subst e3
        split at k1
        · rename_i hl
          exact ⟨b, ns, rfl, .of e1, hl, k1.here r1 _ dr_int⟩
        · exact k1.elim
      · exact k1.elim
    | _ => exact k1.elim⟩
theorem wp_lenSet {n : Nat} {ns : List Int} {S : Sto} {Q : D → Sto → Prop} {X : Str → Sto → Prop} (e : lstOf S n = some (ns.map D.int)) (hl : ns.length < 4000) (h : Q (.int (cntD ns : Nat)) S) : wp (oLenSet (.ref n) S) Q X := by
  have e2 : oLenSet (.ref n) S = .ok (.int (cntD ns : Nat)) S := by
    simp only [oLenSet, e, Option.bind_some, mapM_int, hl, if_true]
  exact wp_eq e2 h
end J

set_option Elab.async false
set_option linter.all false
set_option maxRecDepth 100000
set_option maxHeartbeats 4000000
namespace J
open PySem PySem.Spec PyProof.Rows L2
/-! ### ways -/
structure Way (w : List (Int × Int)) : Prop where
  n : 1 ≤ w.length ∧ w.length ≤ 6
  p : ∀ p ∈ w, (1 ≤ p.1 ∧ p.1 ≤ 9) ∧ 1 ≤ p.2 ∧ p.2 ≤ 9
def pD (p : Int × Int) : D := .tup [.int p.1, .int p.2]
def lab (w : List (Int × Int)) : Int := (w.map fun p => p.1 * p.2).sum
theorem lab_bd : ∀ {w : List (Int × Int)}, (∀ p ∈ w, (1 ≤ p.1 ∧ p.1 ≤ 9) ∧ 1 ≤ p.2 ∧ p.2 ≤ 9) → (w.length : Int) ≤ lab w ∧ lab w ≤ 81 * w.length
  | [], _ => by simp [lab]
  | p :: w, h => by
    obtain ⟨h1, h2⟩ := lab_bd (w := w) fun q hq => h q (by simp [hq])
    obtain ⟨⟨a1, a2⟩, b1, b2⟩ := h p (by simp)
    have e : lab (p :: w) = p.1 * p.2 + lab w := by simp [lab]
    have m1 : 1 * 1 ≤ p.1 * p.2 := Int.mul_le_mul a1 b1 (by decide) (by omega)
    have m2 : p.1 * p.2 ≤ 9 * 9 := Int.mul_le_mul a2 b2 (by omega) (by decide)
    rw [e, List.length_cons]
    omega
theorem Way.lab {w : List (Int × Int)} (h : Way w) : 1 ≤ J.lab w ∧ J.lab w ≤ 486 := by
  obtain ⟨h1, h2⟩ := lab_bd h.p
  obtain ⟨h3, h4⟩ := h.n
  omega
theorem Sm.ways {S : Sto} {n a b : Nat} {w : List (Int × Int)} (ha : lstOf S a = some (w.map pD)) (hb : lstOf S b = some (w.map pD)) (hl : w.length < 1000000) : Sm S (n + 3) (.ref a) (.ref b) := .lsts ha hb (by simpa using hl) fun x hx => by
  obtain ⟨p, _, rfl⟩ := List.mem_map.mp hx
  refine .tup rfl (lim_of (by simp)) fun k x y hx hy => ?_
  rw [hx] at hy
  cases hy
  match k, hx with
  | 0, hx => cases hx; exact .int
  | 1, hx => cases hx; exact .int
  | k + 2, hx => simp at hx
/-! shares that rest, and rings -/
theorem all_rep {v : List Rat} {c : Rat} (h : ∀ x ∈ v, x = c) : v = List.replicate v.length c := List.eq_replicate_iff.mpr ⟨rfl, h⟩
theorem rnds_rep {ps : List Int} {c : Rat} (h : Ris ps) (r : Nat) : rnds ps r (List.replicate ps.length c) = List.replicate ps.length c := by
  have hl : (List.replicate ps.length c).length = ps.length := List.length_replicate
  have hb := rnds_bd (a := c) (b := c) h hl (fun x hx => by rw [(List.mem_replicate.mp hx).2]; exact ⟨Rat.le_refl, Rat.le_refl⟩) r
  have := all_rep (v := rnds ps r (List.replicate ps.length c)) (c := c) fun x hx => Rat.le_antisymm (hb x hx).2 (hb x hx).1
  rw [rnds_len hl] at this
  exact this
theorem sprd_rep {n : Nat} {c : Rat} (hn : 0 < n) : sprd (List.replicate n c) = 0 := by
  have hne : List.replicate n c ≠ [] := fun e => by have := congrArg List.length e; simp at this; omega
  have h1 := (List.mem_replicate.mp (mx_mem hne)).2
  have h2 := (List.mem_replicate.mp (mn_mem hne)).2
  unfold sprd
  rw [h1, h2]
  grind
theorem sm_shift {f : Nat → Rat} : ∀ n, sm f (n + 1) = f 0 + sm (fun i => f (i + 1)) n
  | 0 => by simp only [sm]; grind
  | n + 1 => by
    rw [sm, sm_shift n]
    simp only [sm]
    grind
/-- paces by shares, summed up -/
def wsm (ps : List Int) (v : List Rat) : Rat := sm (fun i => v.getD i 0 * ((ps.getD i 1 : Int) : Rat)) ps.length
theorem wsm_tel {ps : List Int} {z : Rat} {f : Nat → Rat} : ∀ n, sm (fun i => f i * ((ps.getD i 1 : Int) : Rat) + (((ps.getD (i + 1) 1 : Int) : Rat) - ((ps.getD i 1 : Int) : Rat)) * z) n = sm (fun i => f i * ((ps.getD i 1 : Int) : Rat)) n + (((ps.getD n 1 : Int) : Rat) - ((ps.getD 0 1 : Int) : Rat)) * z
  | 0 => by simp only [sm]; grind
  | n + 1 => by
    rw [sm, wsm_tel n, sm]
    grind
theorem wsm_rnd {ps : List Int} {v : List Rat} (h : Ris ps) (hl : v.length = ps.length) : wsm ps (rnd ps v) = wsm ps v := by
  obtain ⟨n, hn⟩ : ∃ n, ps.length = n + 1 := ⟨ps.length - 1, by have := h.pos; omega⟩
  unfold wsm
  rw [hn, sm_shift]
  have e0 : (rnd ps v).getD 0 0 = v.getD n 0 := by
    rw [List.getD_eq_getElem?_getD, rnd_at (by omega), kp_zero, hn]
    show 0 * _ + (1 - 0) * v.getD (n + 1 - 1) 0 = _
    rw [Nat.add_sub_cancel]
    grind
  rw [e0, sm_congr (g := fun i => v.getD i 0 * ((ps.getD i 1 : Int) : Rat) + (((ps.getD (i + 1) 1 : Int) : Rat) - ((ps.getD i 1 : Int) : Rat)) * v.getD n 0) fun i hi => ?_, wsm_tel, sm]
  · grind
  · rw [List.getD_eq_getElem?_getD, rnd_at (by omega), hn]
    show (kp ps (i + 1) * v.getD (i + 1 - 1) 0 + (1 - kp ps (i + 1)) * v.getD (n + 1 - 1) 0) * _ = _
    rw [Nat.add_sub_cancel, Nat.add_sub_cancel]
    obtain ⟨p, _, hp2, hp3, _⟩ := h.get (i := i + 1) (by omega)
    have hz := rat_ne0 (show 0 < p by omega)
    have ek : kp ps (i + 1) * (p : Rat) = ((ps.getD i 1 : Int) : Rat) := by
      unfold kp
      rw [if_neg (by omega), Nat.add_sub_cancel, hp2]
      exact Rat.div_mul_cancel hz
    rw [hp2]
    grind
theorem wsm_rnds {ps : List Int} {v : List Rat} (h : Ris ps) (hl : v.length = ps.length) : ∀ r, wsm ps (rnds ps r v) = wsm ps v
  | 0 => rfl
  | r + 1 => by
    show wsm ps (rnd ps (rnds ps r v)) = _
    rw [wsm_rnd h (rnds_len hl r), wsm_rnds h hl r]
/-- a ring -/
theorem kp_rep {n i : Nat} {p : Int} (hp : 1 ≤ p) (hi : i < n) : kp (List.replicate n p) i = if i = 0 then 0 else 1 := by
  unfold kp
  by_cases e : i = 0
  · rw [if_pos e, if_pos e]
  · rw [if_neg e, if_neg e, List.getD_eq_getElem?_getD, List.getD_eq_getElem?_getD, List.getElem?_replicate, List.getElem?_replicate, if_pos (by omega), if_pos hi]
    have hz := rat_ne0 (show 0 < p by omega)
    simp only [Option.getD_some]
    rw [Rat.div_def, Rat.mul_inv_cancel _ hz]
theorem ring {n : Nat} {p : Int} {v : List Rat} (hp : 1 ≤ p) (hl : v.length = n) : ∀ r, r ≤ n → ∀ i, i < n → (rnds (List.replicate n p) r v)[i]? = if r ≤ i then v[i - r]? else v[n + i - r]?
  | 0, _, i, hi => by rw [if_pos (Nat.zero_le _)]; rfl
  | r + 1, hr, i, hi => by
    have ih := ring hp hl r (by omega)
    have hrl : (List.replicate n p).length = n := List.length_replicate
    have gd : ∀ j, j < n → some ((rnds (List.replicate n p) r v).getD j 0) = (rnds (List.replicate n p) r v)[j]? := fun j hj => by
      obtain ⟨x, hx⟩ := at_lt (xs := rnds (List.replicate n p) r v) (k := j) (by rw [rnds_len (by rw [hl, hrl]), hrl]; exact hj)
      rw [List.getD_eq_getElem?_getD, hx]; rfl
    show (rnd (List.replicate n p) (rnds (List.replicate n p) r v))[i]? = _
    rw [rnd_at (by rw [hrl]; exact hi), hrl, kp_rep hp hi]
    by_cases e : i = 0
    · subst e
      rw [if_pos rfl, if_neg (by omega), show (0 : Rat) * (rnds (List.replicate n p) r v).getD (0 - 1) 0 + (1 - 0) * (rnds (List.replicate n p) r v).getD (n - 1) 0 = (rnds (List.replicate n p) r v).getD (n - 1) 0 by grind, gd _ (by omega), ih _ (by omega), if_pos (by omega)]
      rw [show n - 1 - r = n + 0 - (r + 1) by omega]
    · rw [if_neg e, show (1 : Rat) * (rnds (List.replicate n p) r v).getD (i - 1) 0 + (1 - 1) * (rnds (List.replicate n p) r v).getD (n - 1) 0 = (rnds (List.replicate n p) r v).getD (i - 1) 0 by grind, gd _ (by omega), ih _ (by omega)]
      by_cases q : r + 1 ≤ i
      · rw [if_pos q, if_pos (by omega), show i - 1 - r = i - (r + 1) by omega]
      · rw [if_neg q, if_neg (by omega), show n + (i - 1) - r = n + i - (r + 1) by omega]
theorem ring_full {n : Nat} {p : Int} {v : List Rat} (hp : 1 ≤ p) (hl : v.length = n) : rnds (List.replicate n p) n v = v := by
  have hrl : (List.replicate n p).length = n := List.length_replicate
  refine List.ext_getElem? fun i => ?_
  by_cases hi : i < n
  · rw [ring hp hl n (Nat.le_refl _) i hi, if_neg (by omega), show n + i - n = i by omega]
  · rw [List.getElem?_eq_none (by rw [rnds_len (by rw [hl, hrl]), hrl]; omega), List.getElem?_eq_none (by omega)]
theorem ring_one {n : Nat} {p : Int} {v : List Rat} {z : Rat} (hp : 1 ≤ p) (hl : v.length = n) (hn : 0 < n) (hz : v[n - 1]? = some z) : rnds (List.replicate n p) 1 v = z :: v.dropLast := by
  have hrl : (List.replicate n p).length = n := List.length_replicate
  refine List.ext_getElem? fun i => ?_
  by_cases hi : i < n
  · rw [ring hp hl 1 (by omega) i hi]
    by_cases e : i = 0
    · subst e
      rw [if_neg (by omega), show n + 0 - 1 = n - 1 by omega, hz]; rfl
    · obtain ⟨j, rfl⟩ : ∃ j, i = j + 1 := ⟨i - 1, by omega⟩
      rw [if_pos (by omega), Nat.add_sub_cancel, List.getElem?_cons_succ, List.getElem?_dropLast, if_pos (by omega)]
  · rw [List.getElem?_eq_none (by rw [rnds_len (by rw [hl, hrl]), hrl]; omega), List.getElem?_eq_none (by simp; omega)]
theorem ris_rep {n : Nat} {p : Int} (hn : 0 < n ∧ n ≤ 8) (hp : 1 ≤ p ∧ p ≤ 12) : Ris (List.replicate n p) := ⟨fun e => by have := congrArg List.length e; simp at this; omega, by simp; omega, fun q hq => by rw [(List.mem_replicate.mp hq).2]; exact hp, by
  rw [List.pairwise_replicate]; exact .inr (Int.le_refl _)⟩
theorem sum_bd : ∀ {ps : List Int}, (∀ p ∈ ps, 1 ≤ p ∧ p ≤ 12) → (ps.length : Int) ≤ ps.sum ∧ ps.sum ≤ 12 * ps.length
  | [], _ => by simp
  | p :: ps, h => by
    obtain ⟨h1, h2⟩ := sum_bd (ps := ps) fun q hq => h q (by simp [hq])
    have := h p (by simp)
    rw [List.sum_cons, List.length_cons]
    omega
end J

set_option Elab.async false
set_option linter.all false
set_option maxRecDepth 100000
set_option maxHeartbeats 4000000
namespace J
open PySem PySem.Spec PyProof.Rows L2
/-! ### own exception classes -/
/-- B.m(e, ..): a def that stands in the own class B, called off the class -/
theorem pe_off {X : Cx} {CX : CXT} {k : Nat} {B f : Addr} {mc : Value} {fd : FuncData} {ps : List Str} {sp : Sp} {E : XK} {x m : Str} {e : Expr} {es : List Expr} {t : TA} {p1 p2 pos : Pos} {pl : Sem Bool} (gx : Gl X x) (mx : X.mg x = some (.ref B)) (rd : ClX.CRead X.K B mc) (cv : ClX.CVal X.K B mc m (.ref f) (.ref f))
    (F : FnOk X.prog X.w X.K X.mg X.base CX k f fd ps sp) (kp : PySem.W.keepIn X.K (.ref f) = true) (room : Room k X.A) (bs : Binds X.K fd ps []) (px : Passes CX X E) (pa : PA X (e :: es) t) (nd : (x == ("__debug__" : Str)) = false := by decide)
    (ev : eval (.Call (.Attribute (.Name x p1) m p2) (e :: es) [] pos) X.env = (do let ov ← eval (.Name x p1) X.env; standAt p2.atName; let (g, first) ← holding [ov] (getMethod ov m pl); callWith pos g first (backTo pos (starEach (e :: es) X.env)) (backToKw pos (keywordEach [] X.env))) := by rfl)
    (st : starEach (e :: es) X.env = (false, eval e X.env) :: starEach es X.env := by rfl) (ns : (backTo pos (starEach es X.env)).any (·.1) = false := by rfl) : PE X (.Call (.Attribute (.Name x p1) m p2) (e :: es) [] pos) (tCall sp [] E t) := ⟨fun pins s σ H Q I w => by
  refine PySem.W.methodCall_KW (pl := pl) (ld_glob I gx mx (PySem.W.method_cls I.kIn rd.ga (ClX.getcval_ok I rd cv fun s2 I2 => ?_)) nd) ev
  refine PySem.W.callWith_K (h₀ := X.base) (first := []) I2.ok.mod.kin kp (thn (pa.run pos pins s2 σ H _ I2 w) fun us s3 ⟨vs, H3, I3, r3, q3⟩ => ⟨I3.kIn, ?_⟩) st ns
  exact run_fn F room bs .nil px I3 r3 q3⟩
def refusedT : Str := "refused"
/-- the base's __init__: ValueError.__init__(self, ..); self.word = 'refused' -/
def spI0 (K : PySem.W.Frag) : Sp := fun vs H Q _ => ∃ a C : Addr, vs = [V.ref a] ∧ OexC K C ∧ PySem.W.findIn K (.ref C) wordT = some none ∧ H a = some (exo a C none) ∧ ∀ dx : Addr, H dx = none → dx ≠ a → Q V.non (upd (upd H dx (exd dx [(wordT, V.str refusedT)])) a (exo a C (some dx)))
/-- an own one's: B.__init__(self); self.word = w -/
def spI1 (K : PySem.W.Frag) (w : Str) : Sp := fun vs H Q _ => ∃ a C : Addr, vs = [V.ref a] ∧ OexC K C ∧ PySem.W.findIn K (.ref C) wordT = some none ∧ H a = some (exo a C none) ∧ ∀ dx : Addr, H dx = none → dx ≠ a → Q V.non (upd (upd (upd H dx (exd dx [(wordT, V.str refusedT)])) a (exo a C (some dx))) dx (exd dx [(wordT, V.str w), (wordT, V.str refusedT)]))
section
variable {P : Program} {w : World} {K : PySem.W.Frag} {mg : Str → Option Value} {base : Heap}
theorem ini0 {f : Addr} {fd : FuncData} {q : Str} {st : Stmt} {N : List Str} {k : Nat} (F : Fun K "__init__" q st f fd) (sc : FnScope N ["self"] (defScope st))
    (body : ∀ (cdv : Value) (A : Around) (outer : List PySem.Env) (s : Shared) (H : Hp) (E : XK), PSs (cxOf (L2.CX P w) P w K mg base N q (defScope st) f cdv A outer s H E) (defBody st) (tSeq (tDrop (tVeI K (tCons (tVar 0) (tCons (tC (V.str refusedT)) tNil)))) (tOst K wordT (tVar 0) (tC (V.str refusedT)))))
    (h0 : ∀ a : Addr, (L2.start N [V.ref a])[0]? = some (some (V.ref a))) : FnOk P w K mg base (L2.CX P w) (k + 1) f fd ["self"] (spI0 K) := by
  refine F.okX sc (fun vs H Q E h => ?_) fun cdv A outer s H vs Q E hr h => ?_
  · obtain ⟨a, C, rfl, _⟩ := h
    rfl
  · obtain ⟨a, C, rfl, T, no, ea, hq⟩ := h
    refine ⟨_, body cdv A outer s H E, ?_⟩
    refine ⟨_, h0 a, a, C, [V.str refusedT], rfl, by simp, T, ea, _, h0 a, a, C, rfl, T, no, .inl ⟨ea, hq⟩⟩
theorem ini1 {f f0 : Addr} {fd fd0 : FuncData} {q : Str} {st : Stmt} {N : List Str} {k : Nat} {wd : Str} (F : Fun K "__init__" q st f fd) (sc : FnScope N ["self"] (defScope st))
    (body : ∀ (cdv : Value) (A : Around) (outer : List PySem.Env) (s : Shared) (H : Hp) (E : XK), Room k (A.deeper (envOfC q (defScope st) s.heap.objs.size f cdv)) → PSs (cxOf (L2.CX P w) P w K mg base N q (defScope st) f cdv A outer s H E) (defBody st) (tSeq (tDrop (tCall (spI0 K) [] E0 (tCons (tVar 0) tNil))) (tOst K wordT (tVar 0) (tC (V.str wd)))))
    (h0 : ∀ a : Addr, (L2.start N [V.ref a])[0]? = some (some (V.ref a))) : FnOk P w K mg base (L2.CX P w) (k + 1) f fd ["self"] (spI1 K wd) := by
  refine F.okX sc (fun vs H Q E h => ?_) fun cdv A outer s H vs Q E hr h => ?_
  · obtain ⟨a, C, rfl, _⟩ := h
    rfl
  · obtain ⟨a, C, rfl, T, no, ea, hq⟩ := h
    refine ⟨_, body cdv A outer s H E hr, ?_⟩
    refine ⟨_, h0 a, a, C, rfl, T, no, ea, fun dx hd hne => ⟨_, h0 a, a, C, rfl, T, no, .inr ⟨dx, _, upd_same, ?_, by simp, hq dx hd hne⟩⟩⟩
    rw [upd_ne hne, upd_same]
end
/-- the class x: where it stands, its __init__, its word -/
structure ExOk (P : Program) (w : World) (K : PySem.W.Frag) (mg : Str → Option Value) (base : Heap) (g : G) (x : Str) (wd : Str) (j : Nat) : Prop where
  ex : ∃ (f : Addr) (fd : FuncData), mg x = some (.ref (g.cls x)) ∧ PySem.W.keepIn K (.ref (g.cls x)) = true ∧ OexC K (g.cls x) ∧ PySem.W.findIn K (.ref (g.cls x)) "__init__" = some (some (.ref f)) ∧ PySem.W.typeIn K (.ref f) = some (.type "function") ∧ PySem.W.findIn K (.ref (g.cls x)) wordT = some none ∧
    g.word x = wd ∧ Binds K fd ["self"] [] ∧ FnOk P w K mg base (L2.CX P w) j f fd ["self"] (spI1 K wd)
/-- x(), x an own exception class with such an __init__ -/
theorem pmk_none {X : Cx} {g : G} {x wd : Str} {j : Nat} {p pos : Pos} (O : ExOk X.prog X.w X.K X.mg X.base g x wd j) (room : Room (j + 1) X.A) (px : Passes (L2.CX X.prog X.w) X (fun _ _ _ => False)) (gx : Gl X x) (nd : (x == ("__debug__" : Str)) = false := by decide) :
    PMk X (.Call (.Name x p) [] [] pos) (fun _ H Q => ∀ dx : Addr, H dx = none → Q (.ref (g.cls x)) (some dx) (upd H dx (.xd [(wordT, V.str wd), (wordT, V.str refusedT)]))) := by
  intro pins s σ H Q I q
  obtain ⟨f, fd, mx, kp, T, iC, tI, no, _, bs, F1⟩ := O.ex
  generalize g.cls x = C at *
  obtain ⟨nm, qn, N, cb, bm, sn, sub, ab, col, dd, k0, k1, k2, k3, k5, hC, hbm⟩ := T.cls
  refine wpAny_Call_Name_kw (ld_glob I gx mx (PySem.W.callWith_K0 I.kIn kp ?_) nd)
  show wpAny _ _ (call (.ref C) []) _ _ _
  obtain ⟨hp, gs, dr, tk, os⟩ := s
  have hsz : hp.objs.size ≤ hp.objs.size + 1 := Nat.le_succ _
  have hn : H (hp.objs.size + 1) = none := I.hok.fresh hsz
  have keep : ∀ b o, hp.get? b = some o → ((hp.push (PySem.W.kdv_tup [])).push (PySem.HandSPX.excO C hp.objs.size)).get? b = some o := fun b o e => Heap.get?_push_of_some _ (Heap.get?_push_of_some _ e)
  have hget : ((hp.push (PySem.W.kdv_tup [])).push (PySem.HandSPX.excO C hp.objs.size)).get? (hp.objs.size + 1) = some (PySem.HandSPX.excO C hp.objs.size) := by heap_get
  have I2 : Inv X pins σ (upd H (hp.objs.size + 1) (exo (hp.objs.size + 1) C none)) ⟨(hp.push (PySem.W.kdv_tup [])).push (PySem.HandSPX.excO C hp.objs.size), gs, dr, tk, os⟩ := I.laid (t' := tk) keep hsz (exo_ok hget)
  have sp1 : spI1 X.K wd [V.ref (hp.objs.size + 1)] (upd H (hp.objs.size + 1) (exo (hp.objs.size + 1) C none)) (fun v H2 => v = .non ∧ ∃ (d : Addr) (fs : List (Str × V)), H2 (hp.objs.size + 1) = some (exo (hp.objs.size + 1) C (some d)) ∧ H2 d = some (exd d fs) ∧ H d = none ∧ Q (.ref C) (some d) (upd (del H2 (hp.objs.size + 1)) d (.xd fs))) (fun _ _ _ => False) := by
    refine ⟨_, C, rfl, T, no, upd_same, fun dx hd hne => ⟨rfl, dx, _, by rw [upd_ne (Ne.symm hne), upd_same], upd_same, ?_, ?_⟩⟩
    · rw [upd_ne hne] at hd
      exact hd
    · rw [upd_ne hne] at hd
      have := q dx hd
      refine (congrArg (Q (.ref C) (some dx)) ?_).mp this
      funext b
      by_cases h1 : b = dx
      · subst h1
        rw [upd_same, upd_same]
      · rw [upd_ne h1, upd_ne h1]
        by_cases h2 : b = hp.objs.size + 1
        · subst h2
          rw [del_same, hn]
        · rw [del_ne h2, upd_ne h1, upd_ne h2, upd_ne h1, upd_ne h2]
  refine wpAny_call (PySem.HandSPX.call_own F.excBase_ValueError (fun Y => PySem.HandSPX.refsVE_contains Y bm hbm) (I.kIn _ _ hC) (PySem.W.looks_findIn I.kIn iC) (fun self => PySem.W.bind_fn I.kIn self tI) (Nat.zero_le _)
    (codeAny_mono (F1.run _ X.stack _ _ ⟨[Value.ref (hp.objs.size + 1)], []⟩ [Value.ref (hp.objs.size + 1)] _ _ (fun _ _ _ => False) (room.make C [] []) (I2.env0.make C [] []) (bs _ [Value.ref (hp.objs.size + 1)] I2.kIn rfl) (.cons (a := V.ref (hp.objs.size + 1)) rfl .nil) sp1) fun r s' hq' => ?_))
  cases r with
  | error er => exact px pins σ _ _ er s' I2 hq'
  | ok fl =>
    cases fl with
    | ret u =>
      obtain ⟨v, H2, os2, bare2, un2, hok2, rv, ev, d, fs, ea, ed, hd1, q2⟩ := hq'
      subst ev
      obtain ⟨h2, g2, d2, t2, os'⟩ := s'
      exact ⟨rv, mk_end (raises_own T.exC T.tyC) I hsz keep un2 hok2 os2 bare2 ea ed hd1 q2⟩
    | _ => exact False.elim hq'
def sRaise (x : Str) : IS := fun _ S => .exc x S
theorem rs_raise {X : Cx} {g : G} {E : XK} {x wd : Str} {j k : Nat} {p pos pos' : Pos} (O : ExOk X.prog X.w X.K X.mg X.base g x wd j) (at_ : At X E k) (hj : j + 1 ≤ k) (gx : Gl X x) (nd : (x == ("__debug__" : Str)) = false := by decide) : RS X g E (.Raise (some (.Call (.Name x p) [] [] pos)) none pos') (sRaise x) :=
  PS.imp (ps_raise at_.calm at_.tk (pmk_none O (at_.room.mono hj) passE0 gx nd)) fun Dn σ H ⟨φ, ρ, S, er, rp, k⟩ => fun dx hd => by
    obtain ⟨_, _, _, _, _, _, _, _, hw, _⟩ := O.ex
    refine k φ _ dx _ (rp.side hd) upd_same ?_
    rw [hw]
    rfl
end J

set_option Elab.async false
set_option linter.all false
set_option maxRecDepth 100000
set_option maxHeartbeats 4000000
namespace J
open PySem PySem.Spec PyProof.Rows L2
/-! ### f(lambda: ..), f catches the own exceptions and tells their word -/
/-- what is told: ('told', what it gave), or (its word,) -/
def iWord (ws : List (Str × Str)) (f : IE) : IE := fun ρ S => match f ρ S with
  | .ok d S1 => .ok (.tup [.str "told", d]) S1
  | .exc c S1 => match ws.lookup c with
    | some w => .ok (.tup [.str w]) S1
    | none => .bad
  | .bad => .bad
/-- the class C is caught by 'except B', and its instances' word can be read -/
structure Caught (K : PySem.W.Frag) (B C : Addr) : Prop where
  is_ : PySem.W.exmOne K (.ref C) (.ref B) = some true
  xf : XfC K C
  no : PySem.W.findIn K (.ref C) wordT = some none
def WordX (K : PySem.W.Frag) (B : Addr) (Q : VK) : XK := fun cls d H => ∃ (C dd : Addr) (fs : List (Str × V)) (v : V), cls = .ref C ∧ d = some dd ∧ Caught K B C ∧ H dd = some (.xd fs) ∧ fs.lookup wordT = some v ∧ ∀ p, H p = none → Q (.ref p) (upd H p (.tup [v]))
def TWord (K : PySem.W.Frag) (B : Addr) : (XK → Hp → VK → Prop) → Hp → VK → Prop := fun tl H Q => tl (WordX K B Q) H fun v H1 => [V.str "told", v].length ≤ sizeLine ∧ ∀ p, H1 p = none → Q (.ref p) (upd H1 p (.tup [V.str "told", v]))
theorem word_gives {X : Cx} {Ng : List Str} {x a e n q : Str} {sg : Scope} {g B : Addr} {cdg : Value} {j x1 x2 : Nat} {p0 p1 p2 p3 p4 p5 p6 p7 p8 p9 pa pb : Pos} (hge : sg.names.lookup e = some .globalImplicit) (hme : X.mg e = some (.ref B)) (hde : (e == ("__debug__" : Str)) = false)
    (nd : Ng.Nodup) (hN : Ng[1]? = some n) (hln : sg.names.lookup n = some .local) (hdn : (n == ("__debug__" : Str)) = false) (hcn : (n == ("__classdict__" : Str)) = false) (h0 : ∀ f : Addr, L2.start Ng [V.ref f] = [some (V.ref f), none]) :
    LamX.GivesTo X Ng x sg g cdg [.Try [.Return (some (.Tuple [.Constant (.str "told") j p0, .Call (.Name a p1) [] [] p2] x1 p3)) p4] [.ExceptHandler (some (.Name e p5)) (some n) [.Return (some (.Tuple [.Attribute (.Name n p6) wordT p7] x2 p8)) p9] pa] [] [] pb] a q (TWord X.K B) := by
  intro f c' s H Q tl act hc h
  have hgl : Gl (cxOf C8.CX0 X.prog X.w X.K X.mg X.base Ng x sg g cdg X.A X.stack s H C8.E0).nox e := hge
  have hvn : Vis sg n := .inl hln
  refine ⟨_, pss_one (ps_try_as (X := (cxOf C8.CX0 X.prog X.w X.K X.mg X.base Ng x sg g cdg X.A X.stack s H C8.E0).nox) (i := 1) (c := .ref B) (n := n)
      (tb := fun W D σ H => ∃ Ech : XK, (∀ cls d σ' H', Ech cls d H' → W cls d σ' H') ∧ σ[0]? = some (some (.ref f)) ∧ H c' = some (LamX.CodeO c' q) ∧ tl Ech H fun v H1 => [V.str "told", v].length ≤ sizeLine ∧ ∀ p, H1 p = none → D.rt (.ref p) (upd H1 p (.tup [V.str "told", v])))
      (ts := fun a cls d D σ H => ∃ (C dd : Addr) (fs : List (Str × V)) (v : V), cls = .ref C ∧ d = some dd ∧ Caught X.K B C ∧ H dd = some (.xd fs) ∧ fs.lookup wordT = some v ∧ (∃ σ0 : L2.St, σ = σ0.set 1 (some (.ref a))) ∧ ∀ p, H p = none → D.rt (.ref p) (upd H p (.tup [v])))
      rfl rfl nd hN hln ⟨hgl, hde, .inl hme⟩ takes0 (fun W pn xe tk _ => ?_) (fun a oe cls d pn hz hf => ?_)), ?_⟩
  · refine ⟨fun pins s' σ H' D I h' => ?_⟩
    obtain ⟨Ech, hW, h1, h2, h3⟩ := h'
    have hp := act W pn xe Ech p1 p2 tk hW
    have hq := pss_one (ps_ret (pos := p4) (pe_tup (pos := p3) (x1 := x1) (pa_cons (pe_str (x := ("told" : Str)) (pos := p0) (j := j)) (pa_cons hp pa_nil))))
    exact hq.run pins s' σ H' D I ⟨h1, h2, h3⟩
  · refine ⟨fun pins s' σ H' D I h' => ?_⟩
    obtain ⟨C, dd, fs, v, e1, e2, K1, e3, e4, ⟨σ0, e5⟩, e6⟩ := h'
    have e5' : σ[1]? = some (some (.ref a)) := by
      have hl : σ.length = Ng.length := I.len
      have h1 := (List.getElem?_eq_some_iff.mp hN).1
      rw [e5, List.length_set] at hl
      rw [e5, List.getElem?_set_self (by omega)]
    have he := pe_xf (X := (cxOf C8.CX0 X.prog X.w X.K X.mg X.base Ng x sg g cdg X.A X.stack s H C8.E0).nox) (a := a) (pos := p7) (d := d) (cls := cls) (pn := pn) K1.xf K1.no hz hf (pe_var (pos := p6) (i := 1) hN hvn hdn hcn)
    have hq := pss_one (ps_ret (pos := p9) (pe_tup (pos := p8) (x1 := x2) (pa_cons he pa_nil)))
    refine hq.run pins s' σ H' D I ?_
    exact ⟨_, e5', rfl, e1, dd, fs, v, e2, e3, e4, by show (1 : Nat) ≤ sizeLine; rw [sizeLine_eq]; decide, e6⟩
  · refine ⟨WordX X.K B Q, fun cls d σ' H' ⟨C, dd, fs, v, e1, e2, K1, e3, e4, e5⟩ => ⟨true, ?_, fun _ b hb => ?_, fun z => absurd z (by decide)⟩, ?_, hc, h⟩
    · rw [e1]
      exact K1.is_
    · exact ⟨C, dd, fs, v, e1, e2, K1, e3, e4, ⟨σ', rfl⟩, e5⟩
    · rw [h0]
      rfl

section
variable {K : PySem.W.Frag} {g : G} {φ : List Addr} {H H' : Hp} {S : Sto}
theorem _root_.LamX.ExtN.tk (e : LamX.ExtN H H') : TK K H H' := by
  have fz : ∀ a o u, H a = some (.frz o u) → H' a = some (.frz o u) := fun a o u h => e _ _ h fun ps z => by cases z
  refine ⟨fun a xs q => ?_, fz⟩
  rcases q with (q | ⟨u, q⟩) | q
  · exact .inl (.inl (e _ _ q fun ps z => by cases z))
  · exact .inl (.inr ⟨u, fz _ _ _ q⟩)
  · exact .inr q
theorem Rep.extN (r : Rep K g φ S H) (e : LamX.ExtN H H') (t : LamX.Tabs g.T H') : Nx K g φ H S φ H' := by
  refine ⟨List.prefix_refl _, ⟨r.len, fun i a c h1 h2 => ?_, r.nd, t⟩, e.tk, fun b xs h n => ⟨e _ _ h (fun ps z => by cases z), n⟩⟩
  have q := r.at_ i a c h1 h2
  cases c with
  | lst ds =>
    obtain ⟨vs, h3, h4⟩ := q
    exact ⟨vs, e _ _ h3 (fun ps z => by cases z), h4.mono (List.prefix_refl _) e.tk⟩
  | dct kvs =>
    obtain ⟨ws, h3, h4⟩ := q
    exact ⟨ws, e _ _ h3 (fun ps z => by cases z), PySem.Paired.mono (fun _ _ q => ⟨q.1, q.2.mono (List.prefix_refl _) e.tk⟩) h4⟩
  | ins c fs =>
    obtain ⟨dx, ws, h3, h4⟩ := q
    exact ⟨dx, ws, e _ _ h3 (fun ps z => by cases z), PySem.Paired.mono (fun _ _ q => ⟨q.1, q.2.mono (List.prefix_refl _) e.tk⟩) h4⟩
  | fzd kvs =>
    obtain ⟨o, ws, h3, h4⟩ := q
    exact ⟨o, ws, e _ _ h3 (fun ps z => by cases z), PySem.Paired.mono (fun _ _ q => ⟨q.1, q.2.mono (List.prefix_refl _) e.tk⟩) h4⟩
end
/-- the law's code object and its table -/
structure LamAt (X : Cx) (g : G) (q : Str) : Prop where
  ex : ∃ c P : Addr, LamX.TabB X.base X.mg c P ∧ X.env.code = .ref c ∧ (P, q) ∈ g.T ∧ ∀ p ∈ g.T, p.1 = P → p.2 = q
/-- the def that catches: its text, the class it names -/
structure WordOk (K : PySem.W.Frag) (mg : Str → Option Value) (g : G) (x a : Str) (ws : List (Str × Str)) (st : Stmt) : Prop where
  ex : ∃ B : Addr, DefM K mg x st ∧ BindOk x st [a] ∧ FnScope [a, "e"] [a] (defScope st) ∧ Vis (defScope st) a ∧ (∀ c w, ws.lookup c = some w → Caught K B (g.cls c) ∧ g.word c = w) ∧
    ∀ (X : Cx) (f : Addr) (cdv : Value) (q : Str), X.K = K → X.mg = mg → LamX.GivesTo X [a, "e"] x (defScope st) f cdv (defBody st) a q (TWord X.K B)
theorem re_word {X : Cx} {g : G} {E : XK} {x a : Str} {ws : List (Str × Str)} {st : Stmt} {k : Nat} {params : Arguments} {body : Expr} {scope : Scope} {fB : IE} {p lpos pos : Pos} (W : WordOk X.K X.mg g x a ws st) (at_ : LamAt X g (X.env.qual ++ "<lambda>")) (hr : Room (k + 2) X.A) (hg : Gl X x)
    (L : LamX.LamS X.env.scope scope) (hdef : defaultsOf params X.env = ([], []))
    (hbind : ∀ (q : Str) (cl : List (Str × Addr)) (pm cv ctv : Value), bindArgs (PySem.W.kla_fn "<lambda>" q params body scope cl pm cv ctv) ⟨[], []⟩ = pure [])
    (hbody : ∀ (A : Around) (outer : List PySem.Env) (s : Shared) (H : Hp) (E : XK) (f c' : Addr), At (LamX.lamCx X A outer s H E scope f c') E k → RE (LamX.lamCx X A outer s H E scope f c') g E body fB)
    (hdb : (x == ("__debug__" : Str)) = false := by decide) (hd : (a == ("__debug__" : Str)) = false := by decide) (hcd : (a == ("__classdict__" : Str)) = false := by decide) :
    RE X g E (.Call (.Name x p) [.Lambda params body scope lpos] [] pos) (iWord ws fB) := by
  obtain ⟨B, D, hb, Sg, hva, hC, hG⟩ := W.ex
  obtain ⟨f, fd, F, hm⟩ := D.ex
  have hbs := F.binds hb
  have kp := F.kp
  obtain ⟨oc, od, kV, doc, pm, an, cdv, ct, osl, rfl, lk, hcg⟩ := F.ex
  obtain ⟨c, P, TB, hcode, hmT, hu⟩ := at_.ex
  refine PE.imp (LamX.pe_lamcall (T := g.T) (t := fun E => tI X.K g E fB) (Ng := [a, "e"]) hg hm kp lk hcg hbs Sg rfl hva (hG X f cdv _ rfl rfl) TB hcode hmT hu hr L hdef hbind (fun A outer s H E f c' hr2 => hbody A outer s H E f c' ⟨rfl, takes_of rfl rfl rfl rfl, hr2, passes_of rfl⟩) hdb hd hcd) ?_
  intro σ H Q ⟨φ, ρ, S, er, rp, k⟩
  refine ⟨rp.tabs, fun H1 eN T1 => ?_⟩
  have n1 := rp.extN eN T1
  refine ⟨φ, ρ, S, n1.er er, n1.rep, ?_⟩
  unfold iWord at k
  cases hf : fB ρ S with
  | bad =>
    rw [hf] at k
    exact k.elim
  | ok d S1 =>
    rw [hf] at k
    intro φ' H2 n2 v dv
    refine ⟨by show (2 : Nat) ≤ sizeLine; rw [sizeLine_eq]; decide, fun q hq => ?_⟩
    have n3 := n2.rep.side (o := .tup [V.str "told", v]) hq
    refine k φ' _ ((n1.trans n2).trans n3) _ ?_
    simp only [DR]
    exact ⟨q, _, rfl, .of upd_same, .cons (by simp only [DR]) (.cons (n3.dr dv) .nil)⟩
  | exc c S1 =>
    rw [hf] at k
    dsimp only at k
    cases hw : ws.lookup c with
    | none =>
      rw [hw] at k
      exact k.elim
    | some w =>
      rw [hw] at k
      obtain ⟨C1, e1⟩ := hC c w hw
      intro φ' H2 dx fs n2 hdx hfs
      refine ⟨g.cls c, dx, fs, V.str (g.word c), rfl, rfl, C1, hdx, hfs, fun q hq => ?_⟩
      have n3 := n2.rep.side (o := .tup [V.str (g.word c)]) hq
      refine k φ' _ ((n1.trans n2).trans n3) _ ?_
      simp only [DR]
      exact ⟨q, _, rfl, .of upd_same, .cons (by simp only [DR]; rw [e1]) .nil⟩
end J

set_option Elab.async false
set_option linter.all false
set_option maxRecDepth 100000
set_option maxHeartbeats 4000000
namespace J
open PySem PySem.Spec PyProof.Rows L2
/-! ### the end of a law that holds lambdas itself -/
/-- nothing may leave -/
def cxNo : CXT := fun _ _ _ _ _ _ => False
/-- the list at a told as one that stays -/
theorem un_frz {fs : List Addr} {H H' : Hp} {h h' : Heap} {a : Addr} {o : Obj} {xs : List V} (ha : H a = some (.lst xs)) (U : Un fs [] (upd H a (.frz o (.lst xs))) H' h h') : Un fs [] H H' h h' := by
  have ne : ∀ b u, H b = u → u ≠ some (.lst xs) → b ≠ a := fun b u e n z => n (by rw [← e, z, ha])
  have on : ∀ b, H b = none → upd H a (.frz o (.lst xs)) b = none := fun b e => by rw [upd_ne (ne b _ e (by simp))]; exact e
  refine ⟨fun b u e n => U.keep b u e (on b n), fun b u e n => U.slot b u e (on b n), fun b u e n => U.free b u e (on b n), U.there, fun b ys e => U.tups b ys ?_, fun b u v e => U.frzs b u v ?_, fun b ps e => U.tbls b ps ?_⟩
  · rw [upd_ne (ne b _ e (by simp))]
    exact e
  · rw [upd_ne (ne b _ e (by simp))]
    exact e
  · rw [upd_ne (ne b _ e (by simp))]
    exact e
theorem hok_frz {P : Program} {w : World} {H : Hp} {h : Heap} {a : Addr} {xs : List V} (hok : HOk P w H h) (ha : H a = some (.lst xs)) : ∃ o : Obj, HOk P w (upd H a (.frz o (.lst xs))) h := by
  obtain ⟨hl, its, n, r, e⟩ := hok a _ ha
  have ne : ∀ b u, H b = some u → u ≠ .lst xs → b ≠ a := fun b u e n z => n (by rw [z, ha] at e; exact (Option.some.inj e).symm)
  refine ⟨{ cls := .type "list", data := .seq its.toArray n }, fun b u q => ?_⟩
  by_cases hb : b = a
  · subst hb
    rw [upd_same] at q
    cases q
    exact ⟨e, hl, its, n, r, e⟩
  · rw [upd_ne hb] at q
    exact (hok b u q).stay (fun c v _ z => z) (fun c z => by rw [upd_ne (ne c _ z (by simp))]; exact z) (fun c ys z => by rw [upd_ne (ne c _ z (by simp))]; exact z)
/-- what the end asks: the law's answer at each script is True -/
def spEnd (K : PySem.W.Frag) (g : G) (F : List D → Sto → R D) : Sp := fun vs H Q E => ∃ (a : Addr) (ns : List Int), vs = [V.ref a] ∧ SqL K H a (ns.map V.int) ∧ LamX.Tabs g.T H ∧ (∃ S', F [.rl ns] [] = .ok (.bl true) S') ∧ (∀ H', Q (.bl true) H') ∧ ∀ c d H', ¬ E c d H'
theorem fnOk_end {P : Program} {w : World} {K : PySem.W.Frag} {mg : Str → Option Value} {base : Heap} {g : G} {k : Nat} {f : Addr} {fd : FuncData} {x : Str} {F0 : List D → Sto → R D} (F : FnOk P w K mg base (L2.CX P w) k f fd [x] (spI K g 1 F0)) : FnOk P w K mg base cxNo k f fd [x] (spEnd K g F0) := by
  refine ⟨fun vs H Q E ⟨a, ns, e, _⟩ => by rw [e]; rfl, fun A outer s H args us vs Q E hr e0 hb rv ⟨a, ns, e, hS, hT, ⟨S', hF⟩, hQ, hE⟩ => ?_⟩
  subst e
  have spH : ∀ H1 : Hp, SqP K H1 a (ns.map V.int) → LamX.Tabs g.T H1 → spI K g 1 F0 [V.ref a] H1 (fun v _ => v = .bl true) fun _ _ _ => False := fun H1 hp ht => by
    refine ⟨rfl, [], [.rl ns], [], .cons (by simp only [DR]; exact ⟨a, rfl, hp⟩) .nil, ⟨rfl, fun i a c h => by simp at h, List.nodup_nil, ht⟩, ?_⟩
    rw [hF]
    exact fun φ' H' _ v dv => bl_inv dv
  have go : ∀ H1 : Hp, Env0 P w K mg base A outer s H1 → SqP K H1 a (ns.map V.int) → LamX.Tabs g.T H1 → (∀ H' h', Un (frs outer) [] H1 H' s.heap h' → Un (frs outer) [] H H' s.heap h') → codeAny (model P w) A (.call (.ref f) args) (CR cxNo outer P w H s Q E) s := fun H1 e1 hp ht hu => by
    refine codeAny_mono (F.run A outer s H1 args us _ _ _ hr e1 hb rv (spH H1 hp ht)) fun r s' h => ?_
    cases r with
    | error e =>
      obtain ⟨_, _, _, _, _, _, _, _, _, _, _, _, z⟩ := h
      exact z
    | ok fl =>
      cases fl with
      | ret u =>
        obtain ⟨v, H', os, bare, un, hok, rv, q⟩ := h
        subst q
        exact ⟨_, H', os, bare, hu _ _ un, hok, rv, hQ H'⟩
      | next => exact False.elim h
      | brk => exact False.elim h
      | cont => exact False.elim h
  rcases hS with (hS | ⟨o, hS⟩) | hS
  · obtain ⟨o, hok⟩ := hok_frz e0.hok hS
    have ne : ∀ b u, H b = u → u ≠ some (.lst (ns.map V.int)) → b ≠ a := fun b u e n z => n (by rw [← e, z, hS])
    refine go (upd H a (.frz o (.lst (ns.map V.int)))) ⟨e0.frames, e0.mod, fun b u e => ?_, e0.bsz, e0.funs, fun b hb => ?_, hok, e0.bare⟩ (.inl ⟨o, upd_same⟩) (tabs_upd (by rw [hS]; trivial) hT) fun H' h' U => un_frz hS U
    · obtain ⟨z1, z2⟩ := e0.bs b u e
      exact ⟨z1, by rw [upd_ne (ne b _ z2 (by simp))]; exact z2⟩
    · have z2 := e0.frf b hb
      rw [upd_ne (ne b _ z2 (by simp))]
      exact z2
  · exact go H e0 (.inl ⟨o, hS⟩) hT fun _ _ U => U
  · exact go H e0 (.inr hS) hT fun _ _ U => U
/-- what the law's text brings: classes by name, words by class name, the tables -/
def gK (K : PySem.W.Frag) (ws : List (Str × Str)) (T : List (Addr × Str)) : G := ⟨T, fun x => match PySem.W.nsIn K mainGlobals x with
  | some (some (.ref C)) => C
  | _ => 0, fun x => (ws.lookup x).getD Str.empty⟩
/-- the law's def with its code object and its table -/
structure LawC (K : PySem.W.Frag) (st : Stmt) : Prop where
  ex : ∃ (f c P : Addr) (oc : Value) (od : Option Addr) (kV dc pm : Value) (an : Option Addr) (ct : Value) (sl : Array (Option Value)) (e : Value) (dd : Option Addr) (vs : Array Value) (sl2 : Array (Option Value)),
    PySem.W.nsIn K mainGlobals "law" = some (some (.ref f)) ∧ K.lookup f = some ⟨oc, od, .func (PySem.W.fnOf "law" "law" (defArgs st) (defBody st) (defScope st) .none kV dc pm an (.ref c) ct), sl⟩ ∧ PySem.W.codeIn K (.ref c) "law" = true ∧ PySem.W.keepIn K (.ref f) = true ∧
      K.lookup c = some ⟨e, dd, .fields vs, sl2⟩ ∧ vs[11]? = some (.ref P) ∧ K.lookup P = none ∧ PySem.W.codeHdIn K c P = true
theorem LawC.mk' {K : PySem.W.Frag} {st : Stmt} {f c P : Addr} {oc : Value} {od : Option Addr} {kV dc pm : Value} {an : Option Addr} {ct : Value} {sl : Array (Option Value)} {e : Value} {dd : Option Addr} {vs : Array Value} {sl2 : Array (Option Value)}
    (a : PySem.W.nsIn K mainGlobals "law" = some (some (.ref f))) (l : K.lookup f = some ⟨oc, od, .func (PySem.W.fnOf "law" "law" (defArgs st) (defBody st) (defScope st) .none kV dc pm an (.ref c) ct), sl⟩) (b : PySem.W.codeIn K (.ref c) "law" = true) (k : PySem.W.keepIn K (.ref f) = true)
    (m : K.lookup c = some ⟨e, dd, .fields vs, sl2⟩) (v : vs[11]? = some (.ref P)) (n : K.lookup P = none) (h : PySem.W.codeHdIn K c P = true) : LawC K st := ⟨f, c, P, oc, od, kV, dc, pm, an, ct, sl, e, dd, vs, sl2, a, l, b, k, m, v, n, h⟩
abbrev lawQ : Str := (("law" : Str) ++ (".<locals>." : Str)) ++ ("<lambda>" : Str)
/-- the law's def, entered at code object c with table P -/
structure FunC (K : PySem.W.Frag) (st : Stmt) (f : Addr) (fd : FuncData) (c : Addr) : Prop where
  ex : ∃ (oc : Value) (od : Option Addr) (kV doc pm : Value) (an : Option Addr) (ct : Value) (osl : Array (Option Value)),
    fd = PySem.W.fnOf "law" "law" (defArgs st) (defBody st) (defScope st) .none kV doc pm an (.ref c) ct ∧ K.lookup f = some ⟨oc, od, .func fd, osl⟩ ∧ PySem.W.codeIn K (.ref c) "law" = true
theorem fnOk_mkC {P : Program} {w : World} {K : PySem.W.Frag} {mg : Str → Option Value} {base : Heap} {st : Stmt} {f c Pt : Addr} {fd : FuncData} {N ps : List Str} {k : Nat} {ws : List (Str × Str)} {body : IS} (F : FunC K st f fd c) (TB : LamX.TabB base mg c Pt) (S : FnScope N ps (defScope st))
    (hbody : ∀ (A : Around) (outer : List PySem.Env) (s : Shared) (H : Hp) (E : XK), At (cxOf (L2.CX P w) P w K mg base N "law" (defScope st) f (.ref c) A outer s H E) E k → LamAt (cxOf (L2.CX P w) P w K mg base N "law" (defScope st) f (.ref c) A outer s H E) (gK K ws [(Pt, lawQ)]) lawQ → RSs (cxOf (L2.CX P w) P w K mg base N "law" (defScope st) f (.ref c) A outer s H E) (gK K ws [(Pt, lawQ)]) E (defBody st) body) :
    FnOk P w K mg base (L2.CX P w) (k + 1) f fd ps (spI K (gK K ws [(Pt, lawQ)]) ps.length (runF N.length body)) := by
  obtain ⟨oc, od, kV, doc, pm, an, ct, osl, rfl, lk, hcd⟩ := F.ex
  refine fn_of lk hcd S (fun vs H Q E h => h.1) fun A outer s H vs Q E hr h => ?_
  obtain ⟨hlen, φ, ds, St, q, rp, hp⟩ := h
  refine ⟨_, hbody A outer s H E ⟨rfl, takes_of rfl rfl rfl rfl, hr, passes_of rfl⟩ ⟨c, Pt, TB, rfl, List.mem_singleton.mpr rfl, fun p hp _ => by rw [List.mem_singleton.mp hp]⟩, ?_⟩
  refine ⟨φ, _, St, er_start q, rp, ?_⟩
  refine hp.bind.mono fun o S1 φ1 H1 _ _ ⟨r1, n1, k1⟩ => ?_
  cases o with
  | next ρ => exact fun σ' _ => k1 φ1 H1 (.refl r1) _ dr_non
  | ret d => exact fun v dv => k1 φ1 H1 (.refl r1) v dv
  | brk ρ => exact k1.elim
  | cont ρ => exact k1.elim
theorem law_endL {l : PySem.W.OpenLaw} {k : Nat} {q : Program} {loose : List Str} {XP : (Str → Option Value) → Heap → Prop} {YP : World → Heap → Prop} {d : DefRec} {K : Params → PySem.W.Frag} {x : Str} {st : Stmt} {ws : List (Str × Str)} {F : List D → Sto → R D}
    (hn : l.most = some 63) (hdf : d.params.defaults = []) (hr : Room k callerA) (hd : d.name = ("law" : Str)) (hrec : ((recsOf q).any fun e => e.name == d.name) = true)
    (hY : ∀ (w : World) (h : Heap), YP w h → (K w.params).In h)
    (hD : ∀ (w : World) (h : Heap), (K w.params).In h → LawC (K w.params) st)
    (hb : ∀ (kV doc pm : Value) (an : Option Addr) (cdv ct : Value) (s : Shared) (u : Value), BindsTo s (PySem.W.fnOf "law" "law" (defArgs st) (defBody st) (defScope st) .none kV doc pm an cdv ct) ⟨[u], []⟩ [(x, u)])
    (hF : ∀ (w : World) (mg : Str → Option Value) (h : Heap), (K w.params).In h → h.Ns mainGlobals mg → ∀ (f c Pt : Addr) (fd : FuncData), FunC (K w.params) st f fd c → ∀ base : Heap, LamX.TabB base mg c Pt → FnOk l.prog w (K w.params) mg base (L2.CX l.prog w) k f fd [x] (spI (K w.params) (gK (K w.params) ws [(Pt, lawQ)]) 1 F))
    (hT : ∀ ns : List Int, ns.length ≤ 63 → (∀ z ∈ ns, Builtin.Int.intBits z ≤ 1048576) → ∃ S', F [.rl ns] [] = .ok (.bl true) S') :
    PySem.W.WalkO q loose XP YP l.row.toRowW d [] (fun f vs => PySem.call f vs) := by
  refine LamX.walk_ofOwn (K := K) (n := 63) (k := k) (x := x) (CX := fun _ => cxNo) hn (by rw [sizeLine_eq]; decide) hdf hr hrec hY ?_ fun _ _ _ _ _ z => z
  intro w mg fa h _ KX G hmg own
  obtain ⟨f, c, Pt, oc, od, kV, dc, pm, an, ct, sl, e, dd, vs, sl2, a, lk, cc, kk, lc, hv, hn, hh⟩ := (hD w h KX).ex
  have e1 := PySem.W.mg_of KX G a
  rw [hd] at hmg
  rw [hmg] at e1
  injection e1 with e1
  injection e1 with e1
  subst e1
  have hP := own c Pt _ _ e dd vs sl2 lk rfl rfl lc hv
  refine ⟨_, [(c, Pt)], spEnd (K w.params) (gK (K w.params) ws [(Pt, lawQ)]) F, fun p hp => ?_, fun p hp => ?_, fun p hp => ?_, fun s u => hb kV dc pm an _ ct s u, fun H a ns hl hbits hO hS => ?_, fun base KB NB TB => fnOk_end (hF w mg h KX G _ c Pt _ ⟨oc, od, kV, dc, pm, an, ct, sl, rfl, lk, cc⟩ base (TB (c, Pt) (List.mem_singleton.mpr rfl)))⟩
  · rw [List.mem_singleton.mp hp]
    exact hP
  · rw [List.mem_singleton.mp hp]
    exact hn
  · rw [List.mem_singleton.mp hp]
    exact PySem.W.codeHd_of_K KX hh
  · refine ⟨a, ns, rfl, hS, fun p hp => ?_, hT ns hl hbits, fun _ => rfl, fun _ _ _ z => z⟩
    rw [List.mem_singleton.mp hp]
    exact .nil (hO (c, Pt) (List.mem_singleton.mpr rfl))
end J

set_option Elab.async false
set_option linter.all false
set_option maxRecDepth 100000
set_option maxHeartbeats 4000000
namespace J
open PySem PySem.Spec PyProof.Rows L2
/-! ### facts of own exception classes -/
theorem caughtOne {K : PySem.W.Frag} {S C : Addr} (h1 : PySem.W.subIn K (.ref S) (.type "BaseException") = some true) (h2 : PySem.W.isClsIn K S = true) (h3 : PySem.W.typeIn K (.ref S) = some (.type "type")) (h4 : PySem.W.subIn K (.ref C) (.ref S) = some true) : PySem.W.exmOne K (.ref C) (.ref S) = some true := by
  have hs : (PySem.W.clsIn K S).isSome = true := h2
  have a : ((PySem.W.clsIn K S).isSome && PySem.W.typeIn K (.ref S) == some (.type "type")) = true := by
    rw [hs, h3] <;> rfl
  have b : (PySem.W.subIn K (.ref S) (.type "BaseException") == some true) = true := by
    rw [h1] <;> rfl
  show (if (PySem.W.subIn K (.ref S) (.type "BaseException") == some true) = true then (if ((PySem.W.clsIn K S).isSome && PySem.W.typeIn K (.ref S) == some (.type "type")) = true then PySem.W.subIn K (.ref C) (.ref S) else none) else none) = some true
  rw [if_pos b, if_pos a, h4]
/-- the own class x below ValueError, its __init__ is the def st -/
structure ExAt (K : PySem.W.Frag) (x q : Str) (st : Stmt) (C f : Addr) : Prop where
  nm : PySem.W.nsIn K mainGlobals x = some (some (.ref C))
  oe : OexC K C
  xf : XfC K C
  no : PySem.W.findIn K (.ref C) wordT = some none
  i1 : PySem.W.findIn K (.ref C) "__init__" = some (some (.ref f))
  t1 : PySem.W.typeIn K (.ref f) = some (.type "function")
  fn : ∃ fd, Fun K "__init__" q st f fd
theorem ExAt.mk' {K : PySem.W.Frag} {x q : Str} {st : Stmt} {C f : Addr} {nm qn : Str} {N : Addr} {bs bm : List Value} {sn : List Str} {sub : List Value} {ab : Bool} {col : Option Bool} {dd : Option Addr} {m0 m1 m2 m3 m5 : Option Value} {oc : Value} {od : Option Addr} {kV dc pm : Value} {an : Option Addr} {cd ct : Value} {sl : Array (Option Value)}
    (a : PySem.W.nsIn K mainGlobals x = some (some (.ref C))) (xL : K.lookup C = some (excClassObj nm qn C N bs bm true sn sub ab col dd m0 m1 m2 m3 m5 "ValueError.__new__")) (xb : PySem.HandSPX.refsVE bm = true)
    (sa : PySem.W.findIn K (.ref C) "__setattr__" = some (some (.builtin "object.__setattr__"))) (ga : PySem.W.findIn K (.ref C) "__getattribute__" = some (some (.builtin "BaseException.__getattribute__"))) (gg : PySem.W.findIn K (.ref C) "__getattr__" = some none) (no : PySem.W.findIn K (.ref C) wordT = some none)
    (i1 : PySem.W.findIn K (.ref C) "__init__" = some (some (.ref f))) (t1 : PySem.W.typeIn K (.ref f) = some (.type "function")) (l1 : K.lookup f = some ⟨oc, od, .func (PySem.W.fnOf "__init__" q (defArgs st) (defBody st) (defScope st) .none kV dc pm an cd ct), sl⟩) (c1 : PySem.W.codeIn K cd q = true) (k1 : PySem.W.keepIn K (.ref f) = true)
    (kC : PySem.W.keepIn K (.ref C) = true) (eC : PySem.W.subIn K (.ref C) (.type "BaseException") = some true) (tC : PySem.W.typeIn K (.ref C) = some (.type "type")) (hC : PySem.W.hasDictIn K C = true) : ∃ C f, ExAt K x q st C f :=
  ⟨C, f, a, ⟨⟨nm, qn, N, bs, bm, sn, sub, ab, col, dd, m0, m1, m2, m3, m5, xL, xb⟩, sa, eC, tC, kC⟩, ⟨ga, gg, eC, hC⟩, no, i1, t1, _, fun_mk l1 c1 k1⟩
/-- the base of them all: what is called off it, what a clause that names it catches -/
structure BaseAt (K : PySem.W.Frag) (x q : Str) (st : Stmt) (C f : Addr) : Prop where
  ex : ExAt K x q st C f
  rd : ClX.CRead K C (.type "type")
  cv : ClX.CVal K C (.type "type") "__init__" (.ref f) (.ref f)
  is_ : PySem.W.isClsIn K C = true
theorem BaseAt.mk' {K : PySem.W.Frag} {x q : Str} {st : Stmt} {C f : Addr} {nm qn : Str} {N : Addr} {bs bm : List Value} {sn : List Str} {sub : List Value} {ab : Bool} {col : Option Bool} {dd : Option Addr} {m0 m1 m2 m3 m5 : Option Value} {oc : Value} {od : Option Addr} {kV dc pm : Value} {an : Option Addr} {cd ct : Value} {sl : Array (Option Value)}
    (a : PySem.W.nsIn K mainGlobals x = some (some (.ref C))) (xL : K.lookup C = some (excClassObj nm qn C N bs bm true sn sub ab col dd m0 m1 m2 m3 m5 "ValueError.__new__")) (xb : PySem.HandSPX.refsVE bm = true)
    (sa : PySem.W.findIn K (.ref C) "__setattr__" = some (some (.builtin "object.__setattr__"))) (ga : PySem.W.findIn K (.ref C) "__getattribute__" = some (some (.builtin "BaseException.__getattribute__"))) (gg : PySem.W.findIn K (.ref C) "__getattr__" = some none) (no : PySem.W.findIn K (.ref C) wordT = some none)
    (i1 : PySem.W.findIn K (.ref C) "__init__" = some (some (.ref f))) (t1 : PySem.W.typeIn K (.ref f) = some (.type "function")) (l1 : K.lookup f = some ⟨oc, od, .func (PySem.W.fnOf "__init__" q (defArgs st) (defBody st) (defScope st) .none kV dc pm an cd ct), sl⟩) (c1 : PySem.W.codeIn K cd q = true) (k1 : PySem.W.keepIn K (.ref f) = true)
    (kC : PySem.W.keepIn K (.ref C) = true) (eC : PySem.W.subIn K (.ref C) (.type "BaseException") = some true) (tC : PySem.W.typeIn K (.ref C) = some (.type "type")) (hC : PySem.W.hasDictIn K C = true)
    (r1 : PySem.W.readsIn K C (.type "type") = true) (r2 : PySem.W.specialIn K (.ref C) "__getattribute__" = some (some (.builtin "type.__getattribute__"))) (r3 : PySem.W.findCls K (.ref C) (.type "type") "__init__" = some (.val (.ref f))) (iC : PySem.W.isClsIn K C = true) : ∃ C f, BaseAt K x q st C f :=
  ⟨C, f, ⟨a, ⟨⟨nm, qn, N, bs, bm, sn, sub, ab, col, dd, m0, m1, m2, m3, m5, xL, xb⟩, sa, eC, tC, kC⟩, ⟨ga, gg, eC, hC⟩, no, i1, t1, _, fun_mk l1 c1 k1⟩, ⟨r1, r2⟩, ⟨r3, rfl⟩, iC⟩
/-- x stands below b -/
theorem SubAt.mk' {K : PySem.W.Frag} {x b : Str} {C B : Addr} (a : PySem.W.nsIn K mainGlobals x = some (some (.ref C))) (c : PySem.W.nsIn K mainGlobals b = some (some (.ref B))) (s : PySem.W.subIn K (.ref C) (.ref B) = some true) :
    ∃ C B, PySem.W.nsIn K mainGlobals x = some (some (.ref C)) ∧ PySem.W.nsIn K mainGlobals b = some (some (.ref B)) ∧ PySem.W.subIn K (.ref C) (.ref B) = some true := ⟨C, B, a, c, s⟩
theorem gK_cls {K : PySem.W.Frag} {ws : List (Str × Str)} {T : List (Addr × Str)} {x : Str} {C : Addr} (h : PySem.W.nsIn K mainGlobals x = some (some (.ref C))) : (gK K ws T).cls x = C := by
  show (match PySem.W.nsIn K mainGlobals x with
    | some (some (.ref C)) => C
    | _ => 0) = C
  rw [h]
section
variable {P : Program} {w : World} {K : PySem.W.Frag} {mg : Str → Option Value} {base : Heap}
def selfOnly (q : Str) (st : Stmt) : Prop := ∀ (kV doc pm : Value) (an : Option Addr) (cdv ct : Value) (us : List Value), us.length = (["self"] : List Str).length → bindArgs (PySem.W.fnOf "__init__" q (defArgs st) (defBody st) (defScope st) .none kV doc pm an cdv ct) ⟨us, []⟩ = pure ((["self"] : List Str).zip us)
/-- the base, in the module -/
structure BaseM (P : Program) (w : World) (K : PySem.W.Frag) (mg : Str → Option Value) (base : Heap) (b : Str) : Prop where
  ex : ∃ (C f : Addr) (fd : FuncData), mg b = some (.ref C) ∧ PySem.W.nsIn K mainGlobals b = some (some (.ref C)) ∧ ClX.CRead K C (.type "type") ∧ ClX.CVal K C (.type "type") "__init__" (.ref f) (.ref f) ∧ PySem.W.isClsIn K C = true ∧ OexC K C ∧ PySem.W.keepIn K (.ref f) = true ∧ Binds K fd ["self"] [] ∧ FnOk P w K mg base (L2.CX P w) 1 f fd ["self"] (spI0 K)
theorem BaseAt.m {x q : Str} {st : Stmt} {C f : Addr} {h : Heap} (b : BaseAt K x q st C f) (X : K.In h) (G : h.Ns mainGlobals mg) (bd : selfOnly q st) (ok : ∀ f fd, Fun K "__init__" q st f fd → FnOk P w K mg base (L2.CX P w) 1 f fd ["self"] (spI0 K)) : BaseM P w K mg base x := by
  obtain ⟨fd, F⟩ := b.ex.fn
  exact ⟨C, f, fd, PySem.W.mg_of X G b.ex.nm, b.ex.nm, b.rd, b.cv, b.is_, b.ex.oe, F.kp, F.binds bd, ok f fd F⟩
/-- a derived one's __init__ -/
theorem ini1M {f : Addr} {fd : FuncData} {q b wd : Str} {st : Stmt} {N : List Str} (B : BaseM P w K mg base b) (F : Fun K "__init__" q st f fd) (sc : FnScope N ["self"] (defScope st))
    (body : ∀ (cdv : Value) (A : Around) (outer : List PySem.Env) (s : Shared) (H : Hp) (E : XK) (C f0 : Addr) (fd0 : FuncData), mg b = some (.ref C) → ClX.CRead K C (.type "type") → ClX.CVal K C (.type "type") "__init__" (.ref f0) (.ref f0) → PySem.W.keepIn K (.ref f0) = true → Binds K fd0 ["self"] [] → FnOk P w K mg base (L2.CX P w) 1 f0 fd0 ["self"] (spI0 K) → Room 1 (A.deeper (envOfC q (defScope st) s.heap.objs.size f cdv)) →
      PSs (cxOf (L2.CX P w) P w K mg base N q (defScope st) f cdv A outer s H E) (defBody st) (tSeq (tDrop (tCall (spI0 K) [] E0 (tCons (tVar 0) tNil))) (tOst K wordT (tVar 0) (tC (V.str wd)))))
    (h0 : ∀ a : Addr, (L2.start N [V.ref a])[0]? = some (some (V.ref a))) : FnOk P w K mg base (L2.CX P w) 2 f fd ["self"] (spI1 K wd) := by
  obtain ⟨C, f0, fd0, m, _, rd, cv, _, _, kp, bs, F0⟩ := B.ex
  exact ini1 (f0 := f0) (fd0 := fd0) F sc (fun cdv A outer s H E hr => body cdv A outer s H E C f0 fd0 m rd cv kp bs F0 hr) h0
theorem ExAt.ok {x q wd : Str} {st : Stmt} {C f : Addr} {h : Heap} {ws : List (Str × Str)} {T : List (Addr × Str)} (e : ExAt K x q st C f) (X : K.In h) (G : h.Ns mainGlobals mg) (hw : (gK K ws T).word x = wd) (bd : selfOnly q st)
    (ok : ∀ f fd, Fun K "__init__" q st f fd → FnOk P w K mg base (L2.CX P w) 2 f fd ["self"] (spI1 K wd)) : ExOk P w K mg base (gK K ws T) x wd 2 := by
  obtain ⟨fd, F⟩ := e.fn
  have hc : (gK K ws T).cls x = C := gK_cls e.nm
  refine ⟨f, fd, ?_⟩
  rw [hc]
  exact ⟨PySem.W.mg_of X G e.nm, e.oe.kC, e.oe, e.i1, e.t1, e.no, hw, F.binds bd, ok f fd F⟩
theorem ExAt.caught {x b q wd : Str} {st : Stmt} {C f Bd : Addr} {ws : List (Str × Str)} {T : List (Addr × Str)} (e : ExAt K x q st C f) (hw : (gK K ws T).word x = wd) (nB : PySem.W.nsIn K mainGlobals b = some (some (.ref Bd))) (iB : PySem.W.isClsIn K Bd = true) (oB : OexC K Bd)
    (sub : ∃ C B, PySem.W.nsIn K mainGlobals x = some (some (.ref C)) ∧ PySem.W.nsIn K mainGlobals b = some (some (.ref B)) ∧ PySem.W.subIn K (.ref C) (.ref B) = some true) : Caught K Bd ((gK K ws T).cls x) ∧ (gK K ws T).word x = wd := by
  have hc : (gK K ws T).cls x = C := gK_cls e.nm
  rw [hc]
  obtain ⟨C', B', n1, n2, s⟩ := sub
  rw [e.nm] at n1
  cases n1
  rw [nB] at n2
  cases n2
  exact ⟨⟨caughtOne oB.exC iB oB.tyC s, e.xf, e.no⟩, hw⟩
end
def AllC (K : PySem.W.Frag) (B : Addr) (g : G) (ws : List (Str × Str)) : Prop := ∀ c w, ws.lookup c = some w → Caught K B (g.cls c) ∧ g.word c = w
theorem allC_nil {K : PySem.W.Frag} {B : Addr} {g : G} : AllC K B g [] := fun c w h => by simp at h
theorem allC_cons {K : PySem.W.Frag} {B : Addr} {g : G} {x wd : Str} {ws : List (Str × Str)} (h : Caught K B (g.cls x) ∧ g.word x = wd) (r : AllC K B g ws) : AllC K B g ((x, wd) :: ws) := fun c w e => by
  rw [List.lookup_cons] at e
  split at e
  · rename_i z
    have z' : c = x := by simpa using z
    subst z'
    cases e
    exact h
  · exact r c w e
theorem WordOk.mk' {P : Program} {w : World} {K : PySem.W.Frag} {mg : Str → Option Value} {base : Heap} {g : G} {x a b : Str} {ws : List (Str × Str)} {st : Stmt} (B : BaseM P w K mg base b) (D : DefM K mg x st) (hb : BindOk x st [a]) (Sg : FnScope [a, "e"] [a] (defScope st)) (hva : Vis (defScope st) a)
    (hC : ∀ Bd, PySem.W.nsIn K mainGlobals b = some (some (.ref Bd)) → PySem.W.isClsIn K Bd = true → OexC K Bd → AllC K Bd g ws)
    (hG : ∀ (Bd : Addr) (X : Cx) (f : Addr) (cdv : Value) (q : Str), X.mg b = some (.ref Bd) → LamX.GivesTo X [a, "e"] x (defScope st) f cdv (defBody st) a q (TWord X.K Bd)) : WordOk K mg g x a ws st := by
  obtain ⟨C, f0, fd0, m, n, rd, cv, i, o, kp, bs, F0⟩ := B.ex
  exact ⟨C, D, hb, Sg, hva, hC C n i o, fun X f cdv q eK em => hG C X f cdv q (by rw [em]; exact m)⟩
end J

set_option Elab.async false
set_option linter.all false
set_option maxRecDepth 100000
set_option maxHeartbeats 4000000
namespace J
open PySem PySem.Spec PyProof.Rows L2
section
variable {ρ : Env} {S : Sto} {X : Str → Sto → Prop}
theorem wp_sRaise {x : Str} {Q : Fl → Sto → Prop} (h : X x S) : wp (sRaise x ρ S) Q X := wp_exc h
instance i_wp_sRaise {x : Str} {Q : Fl → Sto → Prop} : St (wp (sRaise x ρ S) Q X) (X x S) := ⟨fun h => wp_sRaise h⟩
theorem wp_exc_inv {α : Type} {c : Str} {Q : α → Sto → Prop} (h : wp (α := α) (.exc c S) Q X) : X c S := by
  with_unfolding_all
    exact h
theorem wp_iWord {ws : List (Str × Str)} {f : IE} {Q : D → Sto → Prop} (h : wp (f ρ S) (fun d S1 => Q (.tup [.str "told", d]) S1) fun c S1 => ∃ w, ws.lookup c = some w ∧ Q (.tup [.str w]) S1) : wp (iWord ws f ρ S) Q X := by
  with_unfolding_all
    unfold iWord
    cases hf : f ρ S with
    | ok d S1 =>
      rw [hf] at h
      exact h
    | exc c S1 =>
      rw [hf] at h
      obtain ⟨w, e, q⟩ := wp_exc_inv h
      dsimp only
      rw [e]
      exact q
    | bad =>
      rw [hf] at h
      exact h
instance i_wp_iWord {ws : List (Str × Str)} {f : IE} {Q : D → Sto → Prop} : St (wp (iWord ws f ρ S) Q X) (wp (f ρ S) (fun d S1 => Q (.tup [.str "told", d]) S1) fun c S1 => ∃ w, ws.lookup c = some w ∧ Q (.tup [.str w]) S1) := ⟨fun h => wp_iWord h⟩
end
/-- a way that may be no way: few stretches, numbers of a bounded size -/
structure WayZ (w : List (Int × Int)) : Prop where
  n : w.length ≤ 60
  p : ∀ p ∈ w, Sz 50 p.1 ∧ Sz 50 p.2
def good (p : Int × Int) : Prop := (1 ≤ p.1 ∧ p.1 ≤ 9) ∧ 1 ≤ p.2 ∧ p.2 ≤ 9
instance (p : Int × Int) : Decidable (good p) := inferInstanceAs (Decidable (_ ∧ _))
def cnt (w : List (Int × Int)) : Int := (w.map fun p => p.1).sum
theorem Way.z {w : List (Int × Int)} (h : Way w) : WayZ w := ⟨by have := h.n; omega, fun p hp => by
  obtain ⟨a, b⟩ := h.p p hp
  exact ⟨.of (b := 16) (by omega) (by omega) (by decide), .of (b := 16) (by omega) (by omega) (by decide)⟩⟩
theorem WayZ.rep {w : List (Int × Int)} (h : WayZ w) {k : Nat} (hk : w.length * k ≤ 60) : WayZ (List.replicate k w).flatten := ⟨by
  rw [List.length_flatten, List.map_replicate, List.sum_replicate_nat]
  rw [Nat.mul_comm]
  exact hk, fun p hp => by
  obtain ⟨l, hl, hp⟩ := List.mem_flatten.mp hp
  rw [(List.mem_replicate.mp hl).2] at hp
  exact h.p p hp⟩
theorem WayZ.app {v w : List (Int × Int)} (h : WayZ v) (h2 : WayZ w) (hl : v.length + w.length ≤ 60) : WayZ (v ++ w) := ⟨by rw [List.length_append]; exact hl, fun p hp => (List.mem_append.mp hp).elim (h.p p) (h2.p p)⟩
theorem WayZ.take {w : List (Int × Int)} (h : WayZ w) (k : Nat) : WayZ (w.take k) := ⟨by have := h.n; rw [List.length_take]; omega, fun p hp => h.p p (List.mem_of_mem_take hp)⟩
theorem WayZ.drop {w : List (Int × Int)} (h : WayZ w) (k : Nat) : WayZ (w.drop k) := ⟨by have := h.n; rw [List.length_drop]; omega, fun p hp => h.p p (List.mem_of_mem_drop hp)⟩
theorem WayZ.ones {k : Nat} (hk : k ≤ 60) : WayZ (List.replicate k (1, 1)) := ⟨by rw [List.length_replicate]; exact hk, fun p hp => by
  rw [(List.mem_replicate.mp hp).2]
  exact ⟨.lit (by decide), .lit (by decide)⟩⟩
theorem map_flat {w : List (Int × Int)} {k : Nat} : (List.replicate k (w.map pD)).flatten = ((List.replicate k w).flatten).map pD := by rw [List.map_flatten, List.map_replicate]
end J

set_option Elab.async false
set_option linter.all false
set_option maxRecDepth 100000
set_option maxHeartbeats 4000000
namespace J
open PySem PySem.Spec PyProof.Rows L2
/-! ### places of steps, steps of places -/
/-- the lesser of two -/
def mq (a b : Rat) : Rat := if a < b then a else b
def pl : List (Int × Int) → Rat → Rat
  | [], _ => 0
  | p :: w, s => mq s p.1 * p.2 + pl w (s - mq s p.1)
def st : List (Int × Int) → Rat → Rat
  | [], _ => 0
  | p :: w, q => mq q ((p.1 * p.2 : Int) : Rat) / p.2 + st w (q - mq q ((p.1 * p.2 : Int) : Rat))
def goods (w : List (Int × Int)) : Prop := ∀ p ∈ w, good p
theorem goods.tl {p : Int × Int} {w : List (Int × Int)} (h : goods (p :: w)) : good p ∧ goods w := ⟨h p (by simp), fun q hq => h q (by simp [hq])⟩
theorem good.r {p : Int × Int} (h : good p) : (1 : Rat) ≤ (p.1 : Rat) ∧ (p.1 : Rat) ≤ 9 ∧ (1 : Rat) ≤ (p.2 : Rat) ∧ (p.2 : Rat) ≤ 9 := by
  obtain ⟨⟨a, b⟩, c, d⟩ := h
  exact ⟨ratI_le a, ratI_le b, ratI_le c, ratI_le d⟩
theorem mq_le {a b : Rat} : mq a b ≤ b ∧ mq a b ≤ a := by
  unfold mq
  split <;> grind
theorem mq_nn {a b : Rat} (ha : 0 ≤ a) (hb : 0 ≤ b) : 0 ≤ mq a b := by
  unfold mq
  split <;> assumption
theorem mq_l {a b : Rat} (h : a < b) : mq a b = a := if_pos h
theorem mq_r {a b : Rat} (h : ¬ a < b) : mq a b = b := if_neg h
theorem mq_dv {d : Nat} {a b : Rat} (ha : Dv d a) (hb : Dv d b) : Dv d (mq a b) := by
  unfold mq
  split <;> assumption
theorem mul_nn {a b : Rat} (ha : 0 ≤ a) (hb : 1 ≤ b) : 0 ≤ a * b := Rat.mul_nonneg ha (by grind)
theorem pl_nn : ∀ {w : List (Int × Int)} {s : Rat}, goods w → 0 ≤ s → 0 ≤ pl w s
  | [], _, _, _ => by show (0 : Rat) ≤ 0; grind
  | p :: w, s, h, hs => by
    obtain ⟨h1, h2⟩ := h.tl
    obtain ⟨a, _, b, _⟩ := h1.r
    have m0 := mq_nn hs (show (0 : Rat) ≤ p.1 by grind)
    have := pl_nn h2 (show 0 ≤ s - mq s p.1 by have := (mq_le (a := s) (b := p.1)).2; grind)
    have := mul_nn m0 b
    show 0 ≤ mq s p.1 * p.2 + pl w (s - mq s p.1)
    grind
theorem pl_zero : ∀ {w : List (Int × Int)}, goods w → pl w 0 = 0
  | [], _ => rfl
  | p :: w, h => by
    obtain ⟨h1, h2⟩ := h.tl
    obtain ⟨a, _, b, _⟩ := h1.r
    have e : mq 0 (p.1 : Rat) = 0 := mq_l (by grind)
    show mq 0 p.1 * p.2 + pl w (0 - mq 0 p.1) = 0
    rw [e, show (0 : Rat) - 0 = 0 by grind, pl_zero h2]
    grind
theorem st_zero : ∀ {w : List (Int × Int)}, goods w → st w 0 = 0
  | [], _ => rfl
  | p :: w, h => by
    obtain ⟨h1, h2⟩ := h.tl
    obtain ⟨a, _, b, _⟩ := h1.r
    have e : mq 0 ((p.1 * p.2 : Int) : Rat) = 0 := mq_l (by
      rw [Rat.intCast_mul]
      have := mul_nn (show (0 : Rat) ≤ (p.1 : Rat) - 1 by grind) b
      grind)
    show mq 0 ((p.1 * p.2 : Int) : Rat) / p.2 + st w (0 - mq 0 ((p.1 * p.2 : Int) : Rat)) = 0
    rw [e, show (0 : Rat) - 0 = 0 by grind, st_zero h2]
    rw [Rat.div_def, Rat.zero_mul]
    grind
theorem lab_cons {p : Int × Int} {w : List (Int × Int)} : J.lab (p :: w) = p.1 * p.2 + J.lab w := by simp [lab]
theorem cnt_cons {p : Int × Int} {w : List (Int × Int)} : cnt (p :: w) = p.1 + cnt w := by simp [cnt]
theorem pl_le : ∀ {w : List (Int × Int)} {s : Rat}, goods w → 0 ≤ s → pl w s ≤ (J.lab w : Rat)
  | [], _, _, _ => by show (0 : Rat) ≤ ((0 : Int) : Rat); exact Rat.le_refl
  | p :: w, s, h, hs => by
    obtain ⟨h1, h2⟩ := h.tl
    obtain ⟨a, _, b, _⟩ := h1.r
    have := pl_le h2 (show 0 ≤ s - mq s p.1 by have := (mq_le (a := s) (b := p.1)).2; grind)
    have m := (mq_le (a := s) (b := p.1)).1
    have := mul_nn (show (0 : Rat) ≤ (p.1 : Rat) - mq s p.1 by grind) b
    show mq s p.1 * p.2 + pl w (s - mq s p.1) ≤ _
    rw [lab_cons, Rat.intCast_add, Rat.intCast_mul]
    grind
theorem st_pl : ∀ {w : List (Int × Int)} {s : Rat}, goods w → 0 ≤ s → s ≤ (cnt w : Rat) → st w (pl w s) = s
  | [], s, _, h0, h1 => by
    have : s = 0 := by
      have e : ((cnt ([] : List (Int × Int)) : Int) : Rat) = 0 := rfl
      grind
    rw [this]
    rfl
  | p :: w, s, h, h0, h1 => by
    obtain ⟨g1, g2⟩ := h.tl
    obtain ⟨a, _, b, _⟩ := g1.r
    have hb : (p.2 : Rat) ≠ 0 := by grind
    rw [cnt_cons, Rat.intCast_add] at h1
    show mq (mq s p.1 * p.2 + pl w (s - mq s p.1)) ((p.1 * p.2 : Int) : Rat) / p.2 + st w (mq s p.1 * p.2 + pl w (s - mq s p.1) - mq (mq s p.1 * p.2 + pl w (s - mq s p.1)) ((p.1 * p.2 : Int) : Rat)) = s
    rw [Rat.intCast_mul]
    by_cases hs : s < p.1
    · rw [mq_l hs, show s - s = 0 by grind, pl_zero g2, show s * (p.2 : Rat) + 0 = s * p.2 by grind, mq_l (a := s * p.2) (by
        have e : ((p.1 : Rat) - s) * p.2 = p.1 * p.2 - s * p.2 := by grind
        have := Rat.mul_pos (show (0 : Rat) < (p.1 : Rat) - s by grind) (show (0 : Rat) < (p.2 : Rat) by grind)
        grind), show s * (p.2 : Rat) - s * p.2 = 0 by grind, st_zero g2, Rat.mul_div_cancel hb]
      grind
    · have hn := pl_nn g2 (show 0 ≤ s - p.1 by grind)
      rw [mq_r hs, mq_r (by grind), Rat.mul_div_cancel hb, show (p.1 : Rat) * p.2 + pl w (s - p.1) - p.1 * p.2 = pl w (s - p.1) by grind, st_pl g2 (by grind) (by grind)]
      grind
/-- one step at a time -/
theorem mq_step {l : Rat} {j : Nat} (hl : 0 ≤ l) : mq l ((j + 1 : Nat) : Rat) = mq l (j : Rat) + mq (l - mq l (j : Rat)) 1 := by
  have e : ((j + 1 : Nat) : Rat) = (j : Rat) + 1 := by
    rw [← natI, Int.natCast_add, Rat.intCast_add]
    rfl
  rw [e]
  unfold mq
  split <;> split <;> split <;> grind
end J
namespace J
theorem cnt_bd : ∀ {w : List (Int × Int)}, goods w → (w.length : Int) ≤ cnt w ∧ cnt w ≤ 9 * w.length
  | [], _ => by simp [cnt]
  | p :: w, h => by
    obtain ⟨g1, g2⟩ := h.tl
    obtain ⟨a, b⟩ := cnt_bd g2
    obtain ⟨⟨c, d⟩, _⟩ := g1
    rw [cnt_cons, List.length_cons]
    omega
theorem drop_cons {w : List (Int × Int)} {k : Nat} {p : Int × Int} (h : w[k]? = some p) : w.drop k = p :: w.drop (k + 1) := by
  obtain ⟨hk, e⟩ := List.getElem?_eq_some_iff.mp h
  rw [List.drop_eq_getElem_cons hk, e]
end J
namespace J
theorem pl_dv {d : Nat} : ∀ {w : List (Int × Int)} {s : Rat}, Dv d s → Dv d (pl w s)
  | [], _, _ => Dv.zero
  | p :: w, s, h => by
    have hm : Dv d (mq s p.1) := mq_dv h (.int _)
    have h1 : Dv d (mq s p.1 * (p.2 : Rat)) := by
      have := hm.mul (Dv.int (d := 1) p.2)
      rwa [Nat.mul_one] at this
    exact h1.add (pl_dv (h.sub hm))
end J

set_option Elab.async false
set_option linter.all false
set_option maxRecDepth 100000
set_option maxHeartbeats 4000000
namespace J
open PySem PySem.Spec PyProof.Rows L2
/-! ### back from a step to its place; the stretch of a place -/
theorem mq_mono {s r c : Rat} (h : s ≤ r) : mq s c ≤ mq r c ∧ s - mq s c ≤ r - mq r c := by
  unfold mq
  split <;> split <;> constructor <;> grind
theorem pl_mono : ∀ {w : List (Int × Int)} {s r : Rat}, goods w → s ≤ r → pl w s ≤ pl w r
  | [], _, _, _, _ => Rat.le_refl
  | p :: w, s, r, h, hs => by
    obtain ⟨h1, h2⟩ := h.tl
    obtain ⟨a, _, b, _⟩ := h1.r
    obtain ⟨m1, m2⟩ := mq_mono (c := (p.1 : Rat)) hs
    have := pl_mono h2 m2
    have := Rat.mul_nonneg (show 0 ≤ mq r p.1 - mq s p.1 by grind) (show (0 : Rat) ≤ p.2 by grind)
    show mq s p.1 * p.2 + pl w (s - mq s p.1) ≤ mq r p.1 * p.2 + pl w (r - mq r p.1)
    grind
theorem st_nn : ∀ {w : List (Int × Int)} {z : Rat}, goods w → 0 ≤ z → 0 ≤ st w z
  | [], _, _, _ => Rat.le_refl
  | p :: w, z, h, hz => by
    obtain ⟨h1, h2⟩ := h.tl
    obtain ⟨a, _, b, _⟩ := h1.r
    have hc : (0 : Rat) ≤ ((p.1 * p.2 : Int) : Rat) := by
      rw [Rat.intCast_mul]
      exact Rat.mul_nonneg (by grind) (by grind)
    have m0 := mq_nn hz hc
    have := st_nn h2 (show 0 ≤ z - mq z ((p.1 * p.2 : Int) : Rat) by have := (mq_le (a := z) (b := ((p.1 * p.2 : Int) : Rat))).2; grind)
    have : 0 ≤ mq z ((p.1 * p.2 : Int) : Rat) / p.2 := by
      rw [le_div_iff' (by grind)]
      grind
    show 0 ≤ mq z ((p.1 * p.2 : Int) : Rat) / p.2 + st w (z - mq z ((p.1 * p.2 : Int) : Rat))
    grind
theorem st_le : ∀ {w : List (Int × Int)} {z : Rat}, goods w → st w z ≤ (cnt w : Rat)
  | [], _, _ => Rat.le_refl
  | p :: w, z, h => by
    obtain ⟨h1, h2⟩ := h.tl
    obtain ⟨a, _, b, _⟩ := h1.r
    have tp : (0 : Rat) < (p.2 : Rat) := by grind
    have := st_le (z := z - mq z ((p.1 * p.2 : Int) : Rat)) h2
    have m1 := (mq_le (a := z) (b := ((p.1 * p.2 : Int) : Rat))).1
    have : mq z ((p.1 * p.2 : Int) : Rat) / p.2 ≤ p.1 := by
      have : ¬ (p.1 : Rat) < mq z ((p.1 * p.2 : Int) : Rat) / p.2 := by
        rw [Rat.lt_div_iff tp]
        rw [Rat.intCast_mul] at m1 ⊢
        grind
      grind
    rw [cnt_cons, Rat.intCast_add]
    show mq z ((p.1 * p.2 : Int) : Rat) / p.2 + st w (z - mq z ((p.1 * p.2 : Int) : Rat)) ≤ _
    grind
theorem pl_st : ∀ {w : List (Int × Int)} {z : Rat}, goods w → 0 ≤ z → z ≤ (J.lab w : Rat) → pl w (st w z) = z
  | [], z, _, h0, h1 => by
    have : z = 0 := by
      have e : ((J.lab ([] : List (Int × Int)) : Int) : Rat) = 0 := rfl
      grind
    rw [this]
    rfl
  | p :: w, z, h, h0, h1 => by
    obtain ⟨g1, g2⟩ := h.tl
    obtain ⟨a, _, b, _⟩ := g1.r
    have tp : (0 : Rat) < (p.2 : Rat) := by grind
    have hb : (p.2 : Rat) ≠ 0 := by grind
    rw [lab_cons, Rat.intCast_add, Rat.intCast_mul] at h1
    show mq (mq z ((p.1 * p.2 : Int) : Rat) / p.2 + st w (z - mq z ((p.1 * p.2 : Int) : Rat))) p.1 * p.2 + pl w (mq z ((p.1 * p.2 : Int) : Rat) / p.2 + st w (z - mq z ((p.1 * p.2 : Int) : Rat)) - mq (mq z ((p.1 * p.2 : Int) : Rat) / p.2 + st w (z - mq z ((p.1 * p.2 : Int) : Rat))) p.1) = z
    rw [Rat.intCast_mul]
    by_cases hs : z < p.1 * p.2
    · have hlt : z / p.2 < p.1 := by
        rw [Rat.div_lt_iff tp]
        exact hs
      rw [mq_l hs, show z - z = 0 by grind, st_zero g2, show z / (p.2 : Rat) + 0 = z / p.2 by grind, mq_l hlt, show z / (p.2 : Rat) - z / p.2 = 0 by grind, pl_zero g2, Rat.div_mul_cancel hb]
      grind
    · have hn := st_nn g2 (show 0 ≤ z - p.1 * p.2 by grind)
      rw [mq_r hs, Rat.mul_div_cancel hb, mq_r (a := (p.1 : Rat) + st w (z - p.1 * p.2)) (by grind), show (p.1 : Rat) + st w (z - p.1 * p.2) - p.1 = st w (z - p.1 * p.2) by grind, pl_st g2 (by grind) (by grind)]
      grind
theorem st_dv {d : Nat} : ∀ {w : List (Int × Int)} {z : Rat}, goods w → Dv d z → Dv (d * 27720) (st w z)
  | [], _, _, _ => Dv.zero
  | p :: w, z, hg, h => by
    obtain ⟨g1, g2⟩ := hg.tl
    have hm : Dv d (mq z ((p.1 * p.2 : Int) : Rat)) := mq_dv h (.int _)
    have h1 : Dv (d * 27720) (mq z ((p.1 * p.2 : Int) : Rat) / p.2) := by
      have := hm.mul (dv_div (p := 1) g1.2.1 (by have := g1.2.2; omega))
      rwa [show mq z ((p.1 * p.2 : Int) : Rat) * (((1 : Int) : Rat) / (p.2 : Rat)) = mq z ((p.1 * p.2 : Int) : Rat) / p.2 by
        rw [Rat.div_def, Rat.div_def]
        have : ((1 : Int) : Rat) = 1 := rfl
        grind] at this
    exact h1.add (st_dv g2 (h.sub hm))
/-- half of a place is reached sooner -/
theorem st_half {w : List (Int × Int)} {z : Rat} (h : goods w) (h0 : 0 < z) (h1 : z ≤ (J.lab w : Rat)) : st w (z / 2) < st w z := by
  have e2 : z / 2 < z ∧ 0 ≤ z / 2 := by grind
  have a := pl_st h e2.2 (by grind)
  have b := pl_st h (show 0 ≤ z by grind) h1
  by_cases q : st w (z / 2) < st w z
  · exact q
  · have := pl_mono (w := w) h (show st w z ≤ st w (z / 2) by grind)
    grind
/-- the first stretch from k on that ends behind z -/
def strG (w : List (Int × Int)) (z : Rat) : Nat → Nat → Nat
  | 0, _ => w.length - 1
  | n + 1, k => if z < ((J.lab (w.take (k + 1)) : Int) : Rat) then k else strG w z n (k + 1)
theorem lab_take {w : List (Int × Int)} {k : Nat} {p : Int × Int} (h : w[k]? = some p) : J.lab (w.take (k + 1)) = J.lab (w.take k) + p.1 * p.2 := by
  rw [List.take_add_one, h]
  simp [lab]
theorem strG_le (w : List (Int × Int)) (z : Rat) (h : 1 ≤ w.length) : ∀ (n k : Nat), k + n ≤ w.length → strG w z n k < w.length
  | 0, _, _ => by unfold strG; omega
  | n + 1, k, hk => by
    unfold strG
    split
    · omega
    · exact strG_le w z h n (k + 1) (by omega)
end J
namespace J
theorem strG_succ {w : List (Int × Int)} {z : Rat} {n k : Nat} : strG w z (n + 1) k = if z < ((J.lab (w.take (k + 1)) : Int) : Rat) then k else strG w z n (k + 1) := rfl
theorem strG_end {w : List (Int × Int)} {z : Rat} {k : Nat} : strG w z 0 k = w.length - 1 := rfl
end J

set_option Elab.async false
set_option linter.all false
set_option maxRecDepth 100000
set_option maxHeartbeats 4000000
namespace J
open PySem PySem.Spec PyProof.Rows L2
/-! ### paces that are refused -/
open Classical in
/-- the class that refuses a list of paces -/
noncomputable def pW (ps : List Int) : Option Str := if 1 ≤ ps.length ∧ ps.length ≤ 8 then if ∀ p ∈ ps, 1 ≤ p ∧ p ≤ 12 then if ps.Pairwise (· ≤ ·) then none else some ("NotRising" : Str) else some ("BadPace" : Str) else some ("BadCount" : Str)
theorem pW_count {ps : List Int} (h : ¬ (1 ≤ ps.length ∧ ps.length ≤ 8)) : pW ps = some ("BadCount" : Str) := if_neg h
theorem pW_pace {ps : List Int} (h : 1 ≤ ps.length ∧ ps.length ≤ 8) (h2 : ¬ ∀ p ∈ ps, 1 ≤ p ∧ p ≤ 12) : pW ps = some ("BadPace" : Str) := by
  unfold pW
  rw [if_pos h, if_neg h2]
theorem pW_rise {ps : List Int} (h : 1 ≤ ps.length ∧ ps.length ≤ 8) (h2 : ∀ p ∈ ps, 1 ≤ p ∧ p ≤ 12) (h3 : ¬ ps.Pairwise (· ≤ ·)) : pW ps = some ("NotRising" : Str) := by
  unfold pW
  rw [if_pos h, if_pos h2, if_neg h3]
theorem pW_none {ps : List Int} (h : 1 ≤ ps.length ∧ ps.length ≤ 8) (h2 : ∀ p ∈ ps, 1 ≤ p ∧ p ≤ 12) (h3 : ps.Pairwise (· ≤ ·)) : pW ps = none := by
  unfold pW
  rw [if_pos h, if_pos h2, if_pos h3]
theorem rising_of {ps : List Int} (h : ∀ (k : Nat) (a b : Int), ps[k]? = some a → ps[k + 1]? = some b → a ≤ b) : ps.Pairwise (· ≤ ·) := by
  induction ps with
  | nil => exact .nil
  | cons p r ih =>
    have ihr := ih fun k a b h1 h2 => h (k + 1) a b (by simpa using h1) (by simpa using h2)
    refine List.pairwise_cons.mpr ⟨fun q hq => ?_, ihr⟩
    cases r with
    | nil => cases hq
    | cons x t =>
      have hpx := h 0 p x rfl rfl
      rcases List.mem_cons.mp hq with rfl | hq
      · exact hpx
      · exact Int.le_trans hpx ((List.pairwise_cons.mp ihr).1 q hq)
end J
namespace J
open PySem PySem.Spec PyProof.Rows L2
/-- d in xs, both flat -/
theorem wp_inL {d : D} {xs : List D} {n : Nat} {S : Sto} {Q : D → Sto → Prop} {X : Str → Sto → Prop} (e : lstOf S n = some xs) (hf : flatD d = true ∧ xs.all flatD = true) (h : Q (.bl (inD d xs)) S) : wp (oIn d (.ref n) S) Q X := by
  have e2 : oIn d (.ref n) S = .ok (.bl (inD d xs)) S := by
    unfold oIn
    simp only [e]
    rw [if_pos hf]
  exact wp_eq e2 h
theorem in_two {i a b : Int} : inD (.int i) [.int a, .int b] = decide (i = a ∨ i = b) := by
  simp only [inD, List.any_cons, List.any_nil, eqD, Bool.or_false]
  rw [Bool.eq_iff_iff]
  simp only [Bool.or_eq_true, beq_iff_eq, decide_eq_true_eq]
  constructor
  · rintro (h | h)
    · exact .inl h.symm
    · exact .inr h.symm
  · rintro (h | h)
    · exact .inl h.symm
    · exact .inr h.symm
end J

set_option Elab.async false
set_option linter.all false
set_option maxRecDepth 100000
set_option maxHeartbeats 4000000
namespace J
open PySem PySem.Spec PyProof.Rows L2
/-! ### strings and lists compared -/
section
variable {Q : D → Sto → Prop} {X : Str → Sto → Prop} {S : Sto} {n m : Nat}
theorem toP_str {k : Nat} {x : Str} (h : PySem.PyData.strOk x = true) : toP (k + 1) S (.str x) = some (.str x) := by
  unfold toP
  rw [if_pos h]
theorem eqv_strs {a b : Str} : PyData.eqv (.str a) (.str b) = decide (a = b) := by
  rw [Bool.eq_iff_iff]
  simp [PyData.eqv]
theorem eqvAll_ints : ∀ {xs ys : List Int}, PyData.eqvAll (xs.map .int) (ys.map .int) = decide (xs = ys)
  | [], [] => by simp [PyData.eqvAll]
  | [], _ :: _ => by simp [PyData.eqvAll]
  | _ :: _, [] => by simp [PyData.eqvAll]
  | a :: xs, b :: ys => by
    rw [Bool.eq_iff_iff, List.map_cons, List.map_cons]
    simp only [PyData.eqvAll, eqv_int, eqvAll_ints, Bool.and_eq_true, decide_eq_true_eq, List.cons.injEq]
theorem eqvAll_strs : ∀ {xs ys : List Str}, PyData.eqvAll (xs.map .str) (ys.map .str) = decide (xs = ys)
  | [], [] => by simp [PyData.eqvAll]
  | [], _ :: _ => by simp [PyData.eqvAll]
  | _ :: _, [] => by simp [PyData.eqvAll]
  | a :: xs, b :: ys => by
    rw [Bool.eq_iff_iff, List.map_cons, List.map_cons]
    simp only [PyData.eqvAll, eqv_strs, eqvAll_strs, Bool.and_eq_true, decide_eq_true_eq, List.cons.injEq]
theorem mapM_strs {k : Nat} : ∀ {ns : List Str}, (∀ x ∈ ns, PySem.PyData.strOk x = true) → (ns.map D.str).mapM (toP (k + 1) S) = some (ns.map .str)
  | [], _ => rfl
  | a :: r, h => by rw [List.map_cons, List.mapM_cons, toP_str (h a (by simp)), mapM_strs fun x hx => h x (by simp [hx])]; rfl
theorem toP_strs {k : Nat} {ns : List Str} (e : lstOf S n = some (ns.map D.str)) (h : ∀ x ∈ ns, PySem.PyData.strOk x = true) : toP (k + 2) S (.ref n) = some (.list (ns.map .str)) := toP_list e (mapM_strs h)
theorem eqv_list {xs ys : List PyData} : PyData.eqv (.list xs) (.list ys) = PyData.eqvAll xs ys := by simp [PyData.eqv]
theorem wp_eqS {a b : Str} (ha : PySem.PyData.strOk a = true) (hb : PySem.PyData.strOk b = true) (h : Q (.bl (decide (a = b))) S) : wp (oEq (.str a) (.str b) S) Q X := wp_eqD (toP_str ha) (toP_str hb) (by rw [eqv_strs]; exact h)
theorem wp_neS {a b : Str} (ha : PySem.PyData.strOk a = true) (hb : PySem.PyData.strOk b = true) (h : Q (.bl (!decide (a = b))) S) : wp (oNe (.str a) (.str b) S) Q X := wp_neD (toP_str ha) (toP_str hb) (by rw [eqv_strs]; exact h)
theorem wp_eqIs {xs ys : List Int} (e1 : lstOf S n = some (xs.map D.int)) (e2 : lstOf S m = some (ys.map D.int)) (h : Q (.bl (decide (xs = ys))) S) : wp (oEq (.ref n) (.ref m) S) Q X := wp_eqD (toP_ints e1) (toP_ints e2) (by rw [eqv_list, eqvAll_ints]; exact h)
theorem wp_neIs {xs ys : List Int} (e1 : lstOf S n = some (xs.map D.int)) (e2 : lstOf S m = some (ys.map D.int)) (h : Q (.bl (!decide (xs = ys))) S) : wp (oNe (.ref n) (.ref m) S) Q X := wp_neD (toP_ints e1) (toP_ints e2) (by rw [eqv_list, eqvAll_ints]; exact h)
theorem wp_eqSs {xs ys : List Str} (e1 : lstOf S n = some (xs.map D.str)) (h1 : ∀ x ∈ xs, PySem.PyData.strOk x = true) (e2 : lstOf S m = some (ys.map D.str)) (h2 : ∀ x ∈ ys, PySem.PyData.strOk x = true) (h : Q (.bl (decide (xs = ys))) S) : wp (oEq (.ref n) (.ref m) S) Q X := wp_eqD (toP_strs e1 h1) (toP_strs e2 h2) (by rw [eqv_list, eqvAll_strs]; exact h)
theorem wp_neSs {xs ys : List Str} (e1 : lstOf S n = some (xs.map D.str)) (h1 : ∀ x ∈ xs, PySem.PyData.strOk x = true) (e2 : lstOf S m = some (ys.map D.str)) (h2 : ∀ x ∈ ys, PySem.PyData.strOk x = true) (h : Q (.bl (!decide (xs = ys))) S) : wp (oNe (.ref n) (.ref m) S) Q X := wp_neD (toP_strs e1 h1) (toP_strs e2 h2) (by rw [eqv_list, eqvAll_strs]; exact h)
/-- sorted(xs) == xs -/
theorem sorted_same {ms ps : List Int} (h1 : ms.Perm ps) (h2 : ms.Pairwise (· ≤ ·)) : ms = ps ↔ ps.Pairwise (· ≤ ·) := ⟨fun e => e ▸ h2, fun h => h1.eq_of_pairwise (fun a b _ _ => Int.le_antisymm) h2 h⟩
end
end J

set_option Elab.async false
set_option linter.all false
set_option maxRecDepth 100000
set_option maxHeartbeats 4000000
namespace J
open PySem PySem.Spec PyProof.Rows L2
/-! ### instances of own classes -/
def insOf (S : Sto) (n : Nat) : Option (Str × List (Str × D)) := match S[n]? with
  | some (.ins c fs) => some (c, fs)
  | _ => none
theorem insOf_some {S : Sto} {n : Nat} {p : Str × List (Str × D)} (h : insOf S n = some p) : S[n]? = some (.ins p.1 p.2) := by
  unfold insOf at h
  split at h
  · rename_i c fs hy
    cases h
    exact hy
  · cases h
def putD (f : Str) (v : D) : List (Str × D) → List (Str × D)
  | [] => [(f, v)]
  | (x, w) :: r => if x = f then (x, v) :: r else (x, w) :: putD f v r
def setI (S : Sto) (n : Nat) (c : Str) (fs : List (Str × D)) : Sto := S.set n (.ins c fs)
def setK (S : Sto) (n : Nat) (kvs : List (Key × D)) : Sto := S.set n (.dct kvs)
theorem fldR_find {K : PySem.W.Frag} {φ : List Addr} {H : Hp} {f : Str} {d : D} : ∀ {fs : List (Str × D)} {ws : List (Str × V)}, Paired (FldR K φ H) fs ws → fs.lookup f = some d → ∃ v, ws.lookup f = some v ∧ DR K φ H d v
  | _, _, .nil, h => by simp at h
  | (x, e) :: fs, (y, u) :: ws, .cons r t, h => by
    obtain ⟨r1, r2⟩ := r
    dsimp only at r1 r2
    subst r1
    rw [List.lookup_cons] at h ⊢
    split at h
    · cases h
      exact ⟨u, rfl, r2⟩
    · exact fldR_find t h
theorem fldR_no {K : PySem.W.Frag} {φ : List Addr} {H : Hp} {f : Str} : ∀ {fs : List (Str × D)} {ws : List (Str × V)}, Paired (FldR K φ H) fs ws → fs.lookup f = none → ws.lookup f = none
  | _, _, .nil, h => rfl
  | (x, e) :: fs, (y, u) :: ws, .cons r t, h => by
    obtain ⟨r1, r2⟩ := r
    dsimp only at r1 r2
    subst r1
    rw [List.lookup_cons] at h ⊢
    split at h
    · cases h
    · exact fldR_no t h
theorem fldR_put {K : PySem.W.Frag} {φ : List Addr} {H : Hp} {f : Str} {d : D} {v : V} (q : DR K φ H d v) : ∀ {fs : List (Str × D)} {ws : List (Str × V)}, Paired (FldR K φ H) fs ws → Paired (FldR K φ H) (putD f d fs) (putF f v ws)
  | _, _, .nil => .cons ⟨rfl, q⟩ .nil
  | (x, e) :: fs, (y, u) :: ws, .cons r t => by
    obtain ⟨r1, r2⟩ := r
    dsimp only at r1 r2
    subst r1
    show Paired (FldR K φ H) (if x = f then (x, d) :: fs else (x, e) :: putD f d fs) (if x = f then (x, v) :: ws else (x, u) :: putF f v ws)
    by_cases hx : x = f
    · rw [if_pos hx, if_pos hx]
      exact .cons ⟨rfl, q⟩ t
    · rw [if_neg hx, if_neg hx]
      exact .cons ⟨rfl, r2⟩ (fldR_put q t)
def oFld (C f : Str) : D → Sto → R D
  | .ref n, S => match insOf S n with
    | some (c, fs) => if c = C then match fs.lookup f with
      | some d => .ok d S
      | none => .bad
      else .bad
    | none => .bad
  | _, _ => .bad
/-- what it is called off -/
def oSelf (C m : Str) : D → Sto → R D
  | .ref n, S => match insOf S n with
    | some (c, fs) => if c = C ∧ (fs.lookup m).isNone = true then .ok (.ref n) S else .bad
    | none => .bad
  | _, _ => .bad
def oPutF (C f : Str) : D → D → Sto → R Unit
  | .ref n, v, S => match insOf S n with
    | some (c, fs) => if c = C ∧ fs.length < 900 then .ok () (setI S n c (putD f v fs)) else .bad
    | none => .bad
  | _, _, _ => .bad
def sFldS (C f : Str) (fo fv : IE) : IS := fun ρ S => (fv ρ S).bind fun v S1 => (fo ρ S1).bind fun o S2 => (oPutF C f o v S2).bind fun _ S3 => .ok (.next ρ) S3
def sFldA (C f : Str) (op : D → D → Sto → R D) (fo fv : IE) : IS := fun ρ S => (fo ρ S).bind fun o S1 => (oFld C f o S1).bind fun x S2 => (fv ρ S2).bind fun y S3 => (op x y S3).bind fun z S4 => (oPutF C f o z S4).bind fun _ S5 => .ok (.next ρ) S5
def iOwn (C m : Str) (F : List D → Sto → R D) (fo : IE) (fa : IA) : IE := fun ρ S => (fo ρ S).bind fun o S1 => (oSelf C m o S1).bind fun o1 S2 => (fa ρ S2).bind fun ds S3 => F (o1 :: ds) S3
def iNew (C : Str) (F : List D → Sto → R D) (fa : IA) : IE := fun ρ S => (fa ρ S).bind fun ds S1 => (F (.ref S1.length :: ds) (S1 ++ [.ins C []])).bind fun d S2 => match d with
  | .non => .ok (.ref S1.length) S2
  | _ => .bad
/-- the class C with its attributes -/
structure ClsM (K : PySem.W.Frag) (mg : Str → Option Value) (g : G) (C : Str) (fs : List Str) : Prop where
  cls : Cls K (g.cls C)
  no : ∀ (i : Nat) (f : Str), fs[i]? = some f → NoAttr K (g.cls C) f
  mg : mg C = some (.ref (g.cls C))
structure MetI (P : Program) (w : World) (K : PySem.W.Frag) (mg : Str → Option Value) (base : Heap) (g : G) (C m : Str) (k n : Nat) (F : List D → Sto → R D) : Prop where
  ex : ∃ f fd ps, FnOk P w K mg base (L2.CX P w) k f fd ps (spI K g n F) ∧ Meth K (g.cls C) m f ∧ Binds K fd ps []
structure NewI (P : Program) (w : World) (K : PySem.W.Frag) (mg : Str → Option Value) (base : Heap) (g : G) (C : Str) (k n : Nat) (F : List D → Sto → R D) : Prop where
  ex : ∃ f fd ps, FnOk P w K mg base (L2.CX P w) k f fd ps (spI K g n F) ∧ Mk K (g.cls C) f ∧ mg C = some (.ref (g.cls C)) ∧ Binds K fd ps []
section
variable {X : Cx} {g : G} {E : XK} {pos : Pos}
theorem Rep.putI {K : PySem.W.Frag} {g : G} {φ : List Addr} {S : Sto} {H : Hp} (r : Rep K g φ S H) {n : Nat} {a dx : Addr} {C f : Str} {fs : List (Str × D)} {ws : List (Str × V)} {d : D} {v : V} (h : S[n]? = some (.ins C fs)) (ha : φ[n]? = some a) (e1 : H a = some (.ins (g.cls C) dx ws)) (e2 : Paired (FldR K φ H) fs ws) (q : DR K φ H d v) :
    Nx K g φ H (setI S n C (putD f d fs)) φ (upd H a (.ins (g.cls C) dx (putF f v ws))) := by
  have hw : Wr (H a) := by rw [e1]; trivial
  exact r.write hw ha (List.getElem?_eq_some_iff.mp h).1 ⟨dx, _, upd_same, PySem.Paired.mono (fun _ _ q => ⟨q.1, q.2.mono (List.prefix_refl _) (.upd hw)⟩) (fldR_put q e2)⟩
theorem re_fld {e : Expr} {C f : Str} {fs : List Str} {fo : IE} (c : ClsM X.K X.mg g C fs) (i : Nat) (h : RE X g E e fo) (hi : fs[i]? = some f := by rfl) (hb : attributeBase e f X.env (eval e X.env) = eval e X.env := by rfl) : RE X g E (.Attribute e f pos) (iUn (oFld C f) fo) :=
  PE.imp (pe_fld h hb) fun σ H Q ⟨φ, ρ, S, er, rp, k⟩ => ⟨φ, ρ, S, er, rp, k.bind.mono fun d S1 φ1 H1 _ _ ⟨r1, n1, k1⟩ v dv => by
    cases d with
    | ref n =>
      obtain ⟨a, ha, rfl⟩ := ref_inv dv
      simp only [oFld] at k1
      split at k1
      · rename_i c' fs' h1
        split at k1
        · rename_i hc
          subst hc
          split at k1
          · rename_i d h2
            obtain ⟨dx, ws, e1, e2⟩ := r1.cellAt (insOf_some h1) ha
            obtain ⟨w, e3, e4⟩ := fldR_find e2 h2
            exact ⟨a, _, dx, ws, w, rfl, e1, c.cls, c.no i f hi, e3, k1 φ1 H1 (.refl r1) _ e4⟩
          · exact k1.elim
        · exact k1.elim
      · exact k1.elim
    | _ => exact k1.elim⟩
theorem rs_fld {o value : Expr} {C f : Str} {fs : List Str} {fo fv : IE} {pos' : Pos} (c : ClsM X.K X.mg g C fs) (i : Nat) (ho : RE X g E o fo) (hv : RE X g E value fv) (hi : fs[i]? = some f := by rfl) (hs : swapsWith value (some (.Attribute o f pos')) pos.line X.env = pure false := by rfl) :
    RS X g E (.Assign [.Attribute o f pos'] value pos) (sFldS C f fo fv) :=
  PS.imp (ps_fld ho hv hs) fun Dn σ H ⟨φ, ρ, S, er, rp, k⟩ => ⟨φ, ρ, S, er, rp, k.bind.mono fun d S1 φ1 H1 _ _ ⟨r1, n1, k1⟩ v dv => ⟨φ1, ρ, S1, n1.er er, r1, k1.bind.mono fun od S2 φ2 H2 _ _ ⟨r2, n2, k2⟩ ov dov => by
    have dv2 := n2.dr dv
    cases od with
    | ref n =>
      obtain ⟨a, ha, rfl⟩ := ref_inv dov
      simp only [oPutF] at k2
      split at k2
      · rename_i c' fs' h1
        split at k2
        · rename_i hc
          obtain ⟨rfl, hl⟩ := hc
          have h2 := insOf_some h1
          obtain ⟨dx, ws, e1, e2⟩ := r2.cellAt h2 ha
          have n3 := r2.putI (f := f) h2 ha e1 e2 dv2
          refine ⟨a, _, dx, ws, rfl, e1, c.cls, c.no i f hi, by rw [← PySem.Paired.length e2]; show fs'.length < 1000; omega, ?_⟩
          exact k2 _ _ n3 σ (n3.er (n2.er (n1.er er)))
        · exact k2.elim
      · exact k2.elim
    | _ => exact k2.elim⟩⟩
theorem rs_fldA {o value : Expr} {C f : Str} {fs : List Str} {fo fv : IE} {op : Operator} {r : R2} {fop : D → D → Sto → R D} {pos' : Pos} (hop : InOp X op r) (hi' : OpI X.K g r fop) (c : ClsM X.K X.mg g C fs) (i : Nat) (ho : RE X g E o fo) (hv : RE X g E value fv) (hi : fs[i]? = some f := by rfl) :
    RS X g E (.AugAssign (.Attribute o f pos') op value pos) (sFldA C f fop fo fv) :=
  PS.imp (ps_fldaug ho hv hop) fun Dn σ H ⟨φ, ρ, S, er, rp, k⟩ => ⟨φ, ρ, S, er, rp, k.bind.mono fun od S1 φ1 H1 _ _ ⟨r1, n1, k1⟩ ov dov => by
    cases od with
    | ref n =>
      have dov' := dov
      obtain ⟨a, ha, rfl⟩ := ref_inv dov
      have k1' := k1.bind
      simp only [oFld] at k1'
      split at k1'
      · rename_i c' fs' h1
        split at k1'
        · rename_i hc
          subst hc
          split at k1'
          · rename_i d h2
            obtain ⟨dx, ws, e1, e2⟩ := r1.cellAt (insOf_some h1) ha
            obtain ⟨w, e3, e4⟩ := fldR_find e2 h2
            refine ⟨a, _, dx, ws, w, rfl, e1, c.cls, c.no i f hi, e3, φ1, ρ, S1, n1.er er, r1, ?_⟩
            obtain ⟨_, _, k3⟩ := k1' φ1 H1 (.refl r1)
            refine k3.bind.mono fun y S3 φ3 H3 _ _ ⟨r3, n3, k3⟩ vy dy => ?_
            refine hi' E φ3 S3 H3 d y w vy _ r3 (n3.dr e4) dy (k3.bind.mono fun z S4 φ4 H4 _ _ ⟨r4, n4, k4⟩ vz dz => ?_)
            have ha4 : φ4[n]? = some a := ix_mono (n3.pre.trans n4.pre) ha
            simp only [oPutF] at k4
            split at k4
            · rename_i c4 fs4 h4
              split at k4
              · rename_i hc
                obtain ⟨rfl, hl⟩ := hc
                have h5 := insOf_some h4
                obtain ⟨dx4, ws4, e5, e6⟩ := r4.cellAt h5 ha4
                have n5 := r4.putI (f := f) h5 ha4 e5 e6 dz
                refine ⟨dx4, ws4, e5, by rw [← PySem.Paired.length e6]; show fs4.length < 1000; omega, ?_⟩
                exact k4 _ _ n5 σ (n5.er (n4.er (n3.er (n1.er er))))
              · exact k4.elim
            · exact k4.elim
          · exact k1'.elim
        · exact k1'.elim
      · exact k1'.elim
    | _ => exact k1.elim⟩
theorem re_meth {o e : Expr} {es : List Expr} {C m : Str} {fs : List Str} {j n : Nat} {F : List D → Sto → R D} {fo : IE} {fa : IA} {apos : Pos} {pl : Sem Bool} (c : ClsM X.K X.mg g C fs) (hF : MetI X.prog X.w X.K X.mg X.base g C m j n F) (hr : Room j X.A) (hx : Passes (L2.CX X.prog X.w) X E) (ho : RE X g E o fo) (ha : RA X g E (e :: es) fa)
    (hl : ∀ ρ S ds S', fa ρ S = .ok ds S' → ds.length + 1 = n)
    (h1 : starEach (e :: es) X.env = (false, eval e X.env) :: starEach es X.env := by rfl) (h2 : (backTo pos (starEach es X.env)).any (·.1) = false := by rfl)
    (h3 : eval (.Call (.Attribute o m apos) (e :: es) [] pos) X.env = (do
      let ov ← eval o X.env
      standAt apos.atName
      let (f, first) ← holding [ov] (getMethod ov m pl)
      callWith pos f first (backTo pos (starEach (e :: es) X.env)) (backToKw pos (keywordEach [] X.env))) := by rfl) :
    RE X g E (.Call (.Attribute o m apos) (e :: es) [] pos) (iOwn C m F fo fa) := by
  obtain ⟨f, fd, ps, q1, q2, q3⟩ := hF.ex
  refine PE.imp (pe_meth ho c.cls q2 q1 hr q3 .nil hx ha h1 h2 h3) fun σ H Q ⟨φ, ρ, S, er, rp, k⟩ => ⟨φ, ρ, S, er, rp, k.bind.mono fun od S1 φ1 H1 _ _ ⟨r1, n1, k1⟩ ov dov => ?_⟩
  cases od with
  | ref n =>
    have dov' := dov
    obtain ⟨a, ha, rfl⟩ := ref_inv dov
    have k1' := k1.bind
    simp only [oSelf] at k1'
    split at k1'
    · rename_i c' fs' h1
      split at k1'
      · rename_i hc
        obtain ⟨rfl, hn⟩ := hc
        obtain ⟨dx, ws, e1, e2⟩ := r1.cellAt (insOf_some h1) ha
        obtain ⟨_, _, k3⟩ := k1' φ1 H1 (.refl r1)
        refine ⟨a, dx, ws, rfl, e1, fldR_no e2 (by simpa using hn), φ1, ρ, S1, n1.er er, r1, k3.bind.mono fun ds S3 φ3 H3 e3 _ ⟨r3, n3, k3⟩ vs dvs => ?_⟩
        have hlen := hl _ _ _ _ e3
        exact ⟨by rw [List.append_nil, List.length_cons, dvs.length]; exact hlen, φ3, .ref n :: ds, S3, by rw [List.append_nil]; exact .cons (n3.dr dov') dvs, r3, k3⟩
      · exact k1'.elim
    · exact k1'.elim
  | _ => exact k1.elim
theorem re_meth0 {o : Expr} {C m : Str} {fs : List Str} {j : Nat} {F : List D → Sto → R D} {fo : IE} {apos : Pos} {pl : Sem Bool} (c : ClsM X.K X.mg g C fs) (hF : MetI X.prog X.w X.K X.mg X.base g C m j 1 F) (hr : Room j X.A) (hx : Passes (L2.CX X.prog X.w) X E) (ho : RE X g E o fo)
    (h3 : eval (.Call (.Attribute o m apos) [] [] pos) X.env = (do
      let ov ← eval o X.env
      standAt apos.atName
      let (f, first) ← holding [ov] (getMethod ov m pl)
      callWith pos f first (backTo pos (starEach [] X.env)) (backToKw pos (keywordEach [] X.env))) := by rfl) :
    RE X g E (.Call (.Attribute o m apos) [] [] pos) (iOwn C m F fo aNil) := by
  obtain ⟨f, fd, ps, q1, q2, q3⟩ := hF.ex
  refine PE.imp (pe_meth0 ho c.cls q2 q1 hr q3 .nil hx h3) fun σ H Q ⟨φ, ρ, S, er, rp, k⟩ => ⟨φ, ρ, S, er, rp, k.bind.mono fun od S1 φ1 H1 _ _ ⟨r1, n1, k1⟩ ov dov => ?_⟩
  cases od with
  | ref n =>
    have dov' := dov
    obtain ⟨a, ha, rfl⟩ := ref_inv dov
    have k1' := k1.bind
    simp only [oSelf] at k1'
    split at k1'
    · rename_i c' fs' h1
      split at k1'
      · rename_i hc
        obtain ⟨rfl, hn⟩ := hc
        obtain ⟨dx, ws, e1, e2⟩ := r1.cellAt (insOf_some h1) ha
        obtain ⟨_, _, k3⟩ := k1' φ1 H1 (.refl r1)
        have k4 := k3.bind φ1 H1 (.refl r1)
        exact ⟨a, dx, ws, rfl, e1, fldR_no e2 (by simpa using hn), rfl, φ1, [.ref n], S1, .cons dov' .nil, r1, k4.2.2⟩
      · exact k1'.elim
    · exact k1'.elim
  | _ => exact k1.elim
theorem new_step {K : PySem.W.Frag} {g : G} {E : XK} {φ1 : List Addr} {H1 : Hp} {S1 : Sto} {C : Str} {n : Nat} {F : List D → Sto → R D} {ds : List D} {vs : List V} {Q : VK} (r1 : Rep K g φ1 S1 H1) (dvs : DRs K φ1 H1 ds vs) (hl : ds.length + 1 = n)
    (k1 : post K g E φ1 H1 ((F (.ref S1.length :: ds) (S1 ++ [.ins C []])).bind fun d S2 => match d with
      | .non => .ok (.ref S1.length) S2
      | _ => .bad) fun d _ φ' H' => ∀ v, DR K φ' H' d v → Q v H') (x dx : Addr) (hx : H1 x = none) (hdx : H1 dx = none) (hne : dx ≠ x) :
    spI K g n F (V.ref x :: vs) (upd (upd H1 dx (.own x)) x (.ins (g.cls C) dx [])) (fun v H2 => v = .non ∧ Q (.ref x) H2) E := by
  have n2 := r1.side (o := .own x) hdx
  have hx2 : upd H1 dx (.own x) x = none := by rw [upd_ne (Ne.symm hne)]; exact hx
  have n3 := n2.rep.alloc (o := .ins (g.cls C) dx []) (c := .ins C []) hx2 ⟨dx, [], upd_same, .nil⟩
  have hix : (φ1 ++ [x])[S1.length]? = some x := by rw [← r1.len]; simp
  refine ⟨by rw [List.length_cons, dvs.length]; exact hl, _, .ref S1.length :: ds, _, .cons (by simp only [DR]; exact ⟨x, hix, rfl⟩) (n3.drs (n2.drs dvs)), n3.rep, ?_⟩
  refine (post.weak (n2.trans n3) k1).bind.mono fun d S4 φ4 H4 _ _ ⟨r4, n4, k4⟩ v dv => ?_
  cases d with
  | non =>
    simp only [DR] at dv
    exact ⟨dv, k4 φ4 H4 (.refl r4) _ (by simp only [DR]; exact ⟨x, ix_mono n4.pre hix, rfl⟩)⟩
  | _ => exact k4.elim
theorem re_new {e : Expr} {es : List Expr} {C : Str} {j n : Nat} {F : List D → Sto → R D} {fa : IA} {p : Pos} (hF : NewI X.prog X.w X.K X.mg X.base g C j n F) (hr : Room (j + 1) X.A) (hx : Passes (L2.CX X.prog X.w) X E) (hg : Gl X C) (ha : RA X g E (e :: es) fa)
    (hl : ∀ ρ S ds S', fa ρ S = .ok ds S' → ds.length + 1 = n) (hdb : (C == ("__debug__" : Str)) = false := by decide)
    (h1 : starEach (e :: es) X.env = (false, eval e X.env) :: starEach es X.env := by rfl) (h2 : (backTo pos (starEach es X.env)).any (·.1) = false := by rfl) : RE X g E (.Call (.Name C p) (e :: es) [] pos) (iNew C F fa) := by
  obtain ⟨f, fd, ps, q1, q2, q3, q4⟩ := hF.ex
  refine PE.imp (pe_make q2 q1 hr hg q3 q4 .nil hx ha hdb h1 h2) fun σ H Q ⟨φ, ρ, S, er, rp, k⟩ => ⟨φ, ρ, S, er, rp, k.bind.mono fun ds S1 φ1 H1 e1 _ ⟨r1, n1, k1⟩ vs dvs => fun x dx hx hdx hne => ?_⟩
  rw [List.append_nil]
  exact new_step r1 dvs (hl _ _ _ _ e1) k1 x dx hx hdx hne
theorem re_new0 {C : Str} {j : Nat} {F : List D → Sto → R D} {p : Pos} (hF : NewI X.prog X.w X.K X.mg X.base g C j 1 F) (hr : Room (j + 1) X.A) (hx : Passes (L2.CX X.prog X.w) X E) (hg : Gl X C) (hdb : (C == ("__debug__" : Str)) = false := by decide) : RE X g E (.Call (.Name C p) [] [] pos) (iNew C F aNil) := by
  obtain ⟨f, fd, ps, q1, q2, q3, q4⟩ := hF.ex
  refine PE.imp (pe_make0 q2 q1 hr hg q3 q4 .nil hx hdb) fun σ H Q ⟨φ, ρ, S, er, rp, k⟩ => fun x dx hx hdx hne => ?_
  exact new_step rp .nil rfl (k.bind φ H (.refl rp)).2.2 x dx hx hdx hne
end
end J

set_option Elab.async false
set_option linter.all false
set_option maxRecDepth 100000
set_option maxHeartbeats 4000000
namespace J
open PySem PySem.Spec PyProof.Rows L2
/-! ### dict displays with written texts as keys, d[text] = v -/
def keysD (ks : List Str) : List Key := ks.map Sum.inr
def recK (ks : List Str) (ds : List D) : List (Key × D) := (keysD ks).zip ds
def iDct (ks : List Str) (fa : IA) : IE := fun ρ S => (fa ρ (S ++ [.dct []])).bind fun ds S1 => match dctOf S1 S.length with
  | some [] => if ds.length = ks.length then .ok (.ref S.length) (setK S1 S.length (recK ks ds)) else .bad
  | _ => .bad
def oPutK : D → D → D → Sto → R Unit
  | .ref n, .str x, v, S => match dctOf S n with
    | some kvs => if kvs.length < LIM then .ok () (setK S n (putK kvs (.inr x) v)) else .bad
    | none => .bad
  | _, _, _, _ => .bad
def gSubK (fo fi : IE) : IG := fun d ρ S => (fo ρ S).bind fun o S1 => (fi ρ S1).bind fun i S2 => (oPutK o i d S2).bind fun _ S3 => .ok ρ S3
theorem mergeK_app {ks : List Key} : ∀ {vs : List V} {acc : List (Key × V)}, ks.Nodup → (∀ k ∈ ks, ∀ p ∈ acc, p.1 ≠ k) → mergeK acc (ks.zip vs) = acc ++ ks.zip vs := by
  induction ks with
  | nil => intro vs acc _ _; simp [mergeK]
  | cons k ks ih =>
    intro vs acc nd h
    cases vs with
    | nil => simp [mergeK]
    | cons v vs =>
      have e1 : L2.putK acc k v = acc ++ [(k, v)] := by
        unfold L2.putK
        rw [if_neg]
        simp only [List.any_eq_true, decide_eq_true_eq, not_exists, not_and]
        exact fun p hp => h k (by simp) p hp
      have e2 : mergeK acc ((k, v) :: ks.zip vs) = mergeK (L2.putK acc k v) (ks.zip vs) := rfl
      rw [List.zip_cons_cons, e2, e1, ih (List.nodup_cons.mp nd).2]
      · simp
      · intro k' hk' p hp
        rcases List.mem_append.mp hp with hp | hp
        · exact h k' (by simp [hk']) p hp
        · rw [List.mem_singleton.mp hp]
          rintro rfl
          exact (List.nodup_cons.mp nd).1 hk'
theorem nd_keys {ks : List Str} (h : ks.Nodup) : (keysD ks).Nodup := by
  unfold keysD
  rw [List.nodup_iff_pairwise_ne] at h ⊢
  exact List.pairwise_map.mpr (h.imp fun h e => h (by cases e; rfl))
theorem zip_kV : ∀ {ks : List Str} {vs : List V}, (ks.map V.str).zip vs = ((keysD ks).zip vs).map fun kv => (kV kv.1, kv.2)
  | [], _ => rfl
  | _ :: _, [] => rfl
  | k :: ks, v :: vs => by
    show (V.str k, v) :: (ks.map V.str).zip vs = (V.str k, v) :: ((keysD ks).zip vs).map fun kv => (kV kv.1, kv.2)
    rw [zip_kV]
theorem rec_pair {K : PySem.W.Frag} {φ : List Addr} {H : Hp} : ∀ {ks : List Key} {ds : List D} {vs : List V}, DRs K φ H ds vs → Paired (KeyR K φ H) (ks.zip ds) (ks.zip vs)
  | [], _, _, _ => by simp; exact .nil
  | k :: ks, [], _, q => by rw [q.nil_inv]; simp; exact .nil
  | k :: ks, d :: ds, _, q => by
    obtain ⟨v, rs, rfl, q1, q2⟩ := q.cons_inv
    exact .cons ⟨rfl, q1⟩ (rec_pair q2)
section
variable {X : Cx} {g : G} {E : XK} {pos : Pos}
structure RD (X : Cx) (g : G) (E : XK) (pos : Pos) (keys : List (Option Expr)) (vals : List Expr) (ks : List Str) (fa : IA) (trs : List (TE × TE)) : Prop where
  pp : PPs X pos keys vals trs
  im : ∀ σ H (Q : List (V × V) → Hp → Prop), tIA X.K g E fa σ H (fun vs H' => Q ((ks.map V.str).zip vs) H') → tPairs trs σ H Q
theorem rd_nil : RD X g E pos [] [] [] aNil [] := ⟨pps_nil, fun σ H Q ⟨φ, ρ, S, er, rp, k⟩ => k φ H (.refl rp) [] .nil⟩
theorem rd_cons {k : Str} {j : Nat} {p : Pos} {v : Expr} {keys : List (Option Expr)} {vals : List Expr} {ks : List Str} {f : IE} {fa : IA} {trs : List (TE × TE)} (h : RE X g E v f) (r : RD X g E pos keys vals ks fa trs) : RD X g E pos (some (.Constant (.str k) j p) :: keys) (v :: vals) (k :: ks) (aCons f fa) ((tC (V.str k), tI X.K g E f) :: trs) :=
  ⟨pps_cons pe_str h r.pp, fun σ H Q ⟨φ, ρ, S, er, rp, k⟩ => ⟨φ, ρ, S, er, rp, k.bind.mono fun d S1 φ1 H1 _ _ ⟨r1, n1, k1⟩ v dv => r.im σ H1 _ ⟨φ1, ρ, S1, n1.er er, r1, k1.bind.mono fun ds S2 φ2 H2 _ _ ⟨r2, n2, k2⟩ vs dvs =>
    k2 φ2 H2 (.refl r2) (v :: vs) (.cons (n2.dr dv) dvs)⟩⟩⟩
theorem re_dct {keys : List (Option Expr)} {vals : List Expr} {ks : List Str} {fa : IA} {trs : List (TE × TE)} (h : RD X g E pos keys vals ks fa trs) (nd : ks.Nodup := by decide +kernel) (h1 : (keys.all fun x => x.isSome) = true := by rfl) (h2 : keys.length = vals.length := by rfl) (h3 : keys ≠ [] := by simp) (h4 : keys.length ≤ 15 := by decide) (h5 : ks.length ≤ 15 := by decide) : RE X g E (.Dict keys vals pos) (iDct ks fa) :=
  PE.imp (pe_disp h.pp h1 h2 h3 h4) fun σ H Q ⟨φ, ρ, S, er, rp, k⟩ => fun p hp => by
    have n0 := rp.alloc (o := .dK []) (c := .dct []) hp ⟨[], upd_same, .nil⟩
    refine h.im σ _ _ ⟨φ ++ [p], ρ, S ++ [.dct []], n0.er er, n0.rep, (post.weak n0 k).bind.mono fun ds S1 φ1 H1 _ _ ⟨r1, n1, k1⟩ vs dvs => ?_⟩
    have hix : φ1[S.length]? = some p := ix_mono n1.pre (by rw [← rp.len]; simp)
    split at k1
    · rename_i h6
      split at k1
      · rename_i hl
        obtain ⟨ws, e1, e2⟩ := r1.dct h6 hix
        have e3 : ws = [] := by
          cases e2
          rfl
        subst e3
        refine ⟨e1, (keysD ks).zip vs, zip_kV, by rw [List.length_zip]; unfold keysD; rw [List.length_map]; omega, ?_⟩
        rw [mergeK_app (nd_keys nd) (fun _ _ p hp => by cases hp), List.nil_append]
        have hlt : S.length < S1.length := (List.getElem?_eq_some_iff.mp (dctOf_some h6)).1
        have hw : Wr (H1 p) := by rw [e1]; trivial
        have n2 := r1.write (o := .dK ((keysD ks).zip vs)) (c := .dct (recK ks ds)) hw hix hlt ⟨_, upd_same, rec_pair (dvs.mono (List.prefix_refl _) (.upd hw))⟩
        exact k1 _ _ n2 _ (by simp only [DR]; exact ⟨p, hix, rfl⟩)
      · exact k1.elim
    · exact k1.elim
theorem keyR_any {K : PySem.W.Frag} {φ : List Addr} {H : Hp} {k : Key} : ∀ {kvs : List (Key × D)} {ws : List (Key × V)}, Paired (KeyR K φ H) kvs ws → (kvs.any fun kv => decide (kv.1 = k)) = (ws.any fun kv => decide (kv.1 = k))
  | _, _, .nil => rfl
  | p :: kvs, q :: ws, .cons r t => by
    rw [List.any_cons, List.any_cons, keyR_any t, r.1]
theorem keyR_map {K : PySem.W.Frag} {φ : List Addr} {H : Hp} {k : Key} {d : D} {v : V} (q : DR K φ H d v) : ∀ {kvs : List (Key × D)} {ws : List (Key × V)}, Paired (KeyR K φ H) kvs ws → Paired (KeyR K φ H) (kvs.map fun kv => if kv.1 = k then (kv.1, d) else kv) (ws.map fun kv => if kv.1 = k then (kv.1, v) else kv)
  | _, _, .nil => .nil
  | p :: kvs, q' :: ws, .cons r t => by
    refine .cons ?_ (keyR_map q t)
    dsimp only
    by_cases e : p.1 = k
    · rw [if_pos e, if_pos (r.1 ▸ e)]
      exact ⟨r.1, q⟩
    · rw [if_neg e, if_neg (r.1 ▸ e)]
      exact r
theorem keyR_app {K : PySem.W.Frag} {φ : List Addr} {H : Hp} {k : Key} {d : D} {v : V} (q : DR K φ H d v) : ∀ {kvs : List (Key × D)} {ws : List (Key × V)}, Paired (KeyR K φ H) kvs ws → Paired (KeyR K φ H) (kvs ++ [(k, d)]) (ws ++ [(k, v)])
  | _, _, .nil => .cons ⟨rfl, q⟩ .nil
  | p :: kvs, q' :: ws, .cons r t => .cons r (keyR_app q t)
theorem keyR_put {K : PySem.W.Frag} {φ : List Addr} {H : Hp} {k : Key} {d : D} {v : V} (q : DR K φ H d v) {kvs : List (Key × D)} {ws : List (Key × V)} (r : Paired (KeyR K φ H) kvs ws) : Paired (KeyR K φ H) (putK kvs k d) (L2.putK ws k v) := by
  unfold putK L2.putK
  rw [keyR_any r]
  split
  · exact keyR_map q r
  · exact keyR_app q r
theorem rg_subK {o i : Expr} {fo fi : IE} (hu : X.A.units + 1 < cLine) (ho : RE X g E o fo) (hi : RE X g E i fi)
    (ha : ∀ v, assign (.Subscript o i pos) X.env v = (do
      let ov ← holding [v] (eval o X.env)
      let iv ← holding [v, ov] (eval i X.env)
      standAt pos
      holding [v, ov, iv] (setItem ov iv v)
      release [v, ov, iv] []) := by intro _; rfl) : RG X g E (.Subscript o i pos) [] (gSubK fo fi) :=
  PG.imp (pg_sub ho hi (set_dict hu) ha) fun v σ H Q ⟨φ, ρ, S, d, er, rp, dv, k⟩ => ⟨φ, ρ, S, er, rp, k.bind.mono fun od S1 φ1 H1 _ _ ⟨r1, n1, k1⟩ ov dov => ⟨φ1, ρ, S1, n1.er er, r1, k1.bind.mono fun id S2 φ2 H2 _ _ ⟨r2, n2, k2⟩ iv div => by
    have dv2 := n2.dr (n1.dr dv)
    have dov2 := n2.dr dov
    cases od with
    | ref n =>
      obtain ⟨a, ha, rfl⟩ := ref_inv dov2
      cases id with
      | str x =>
        obtain rfl := str_inv div
        simp only [oPutK] at k2
        split at k2
        · rename_i kvs h1
          obtain ⟨ws, e1, e2⟩ := r2.dct h1 ha
          split at k2
          · rename_i hl
            have hw : Wr (H2 a) := by rw [e1]; trivial
            have n3 := r2.write (o := .dK (L2.putK ws (.inr x) v)) (c := .dct (putK kvs (.inr x) d)) hw ha (List.getElem?_eq_some_iff.mp (dctOf_some h1)).1 ⟨_, upd_same, keyR_put (dv2.mono (List.prefix_refl _) (.upd hw)) (PySem.Paired.mono (fun _ _ q => ⟨q.1, q.2.mono (List.prefix_refl _) (.upd hw)⟩) e2)⟩
            exact ⟨a, _, rfl, DPut.k (k := Sum.inr x) e1 (by rw [← PySem.Paired.length e2]; exact lim_lt hl), k2 _ _ n3 σ (n3.er (n2.er (n1.er er))) .refl⟩
          · exact k2.elim
        · exact k2.elim
      | _ => exact k2.elim
    | _ => cases id <;> exact k2.elim⟩⟩
end
/-! ### methods and classes of the text -/
section
variable {P : Program} {w : World} {K : PySem.W.Frag} {mg : Str → Option Value} {base : Heap} {g : G}
theorem fnQ_mk {m q : Str} {st : Stmt} {f : Addr} {fd : FuncData} {N ps : List Str} {k : Nat} {body : IS} (F : Fun K m q st f fd) (S : FnScope N ps (defScope st))
    (hbody : ∀ (cdv : Value) (A : Around) (outer : List PySem.Env) (s : Shared) (H : Hp) (E : XK), At (cxOf (L2.CX P w) P w K mg base N q (defScope st) f cdv A outer s H E) E k → RSs (cxOf (L2.CX P w) P w K mg base N q (defScope st) f cdv A outer s H E) g E (defBody st) body) :
    FnOk P w K mg base (L2.CX P w) (k + 1) f fd ps (spI K g ps.length (runF N.length body)) := by
  refine F.okX S (fun vs H Q E h => h.1) (fun cdv A outer s H vs Q E hr h => ?_)
  obtain ⟨hlen, φ, ds, St, q, rp, hp⟩ := h
  refine ⟨_, hbody cdv A outer s H E ⟨rfl, takes_of rfl rfl rfl rfl, hr, passes_of rfl⟩, ?_⟩
  refine ⟨φ, _, St, er_start q, rp, ?_⟩
  refine hp.bind.mono fun o S1 φ1 H1 _ _ ⟨r1, n1, k1⟩ => ?_
  cases o with
  | next ρ => exact fun σ' _ => k1 φ1 H1 (.refl r1) _ dr_non
  | ret d => exact fun v dv => k1 φ1 H1 (.refl r1) v dv
  | brk ρ => exact k1.elim
  | cont ρ => exact k1.elim
/-- how a method's arguments bind -/
def BindQ (m q : Str) (st : Stmt) (ps : List Str) : Prop := ∀ (kV doc pm : Value) (an : Option Addr) (cdv ct : Value) (us : List Value), us.length = ps.length → bindArgs (PySem.W.fnOf m q (defArgs st) (defBody st) (defScope st) .none kV doc pm an cdv ct) ⟨us, []⟩ = pure (ps.zip us)
end
/-- the method m of the class C, the def st -/
structure MetAt (K : PySem.W.Frag) (C m q : Str) (st : Stmt) : Prop where
  ex : ∃ (c f : Addr) (fd : FuncData), PySem.W.nsIn K mainGlobals C = some (some (.ref c)) ∧ PySem.W.findIn K (.ref c) m = some (some (.ref f)) ∧ PySem.W.isFn K (.ref f) = true ∧ Fun K m q st f fd
theorem MetAt.mk' {K : PySem.W.Frag} {C m q : Str} {st : Stmt} {c f : Addr} {oc : Value} {od : Option Addr} {kV dc pm : Value} {an : Option Addr} {cd ct : Value} {sl : Array (Option Value)} (a : PySem.W.nsIn K mainGlobals C = some (some (.ref c))) (b : PySem.W.findIn K (.ref c) m = some (some (.ref f))) (i : PySem.W.isFn K (.ref f) = true)
    (l : K.lookup f = some ⟨oc, od, .func (PySem.W.fnOf m q (defArgs st) (defBody st) (defScope st) .none kV dc pm an cd ct), sl⟩) (cc : PySem.W.codeIn K cd q = true) (k : PySem.W.keepIn K (.ref f) = true) : MetAt K C m q st := ⟨c, f, _, a, b, i, fun_mk l cc k⟩
structure ClsAt (K : PySem.W.Frag) (C : Str) : Prop where
  ex : ∃ c : Addr, PySem.W.nsIn K mainGlobals C = some (some (.ref c)) ∧ Cls K c ∧ PySem.W.makesIn K c = true ∧ PySem.W.keepIn K (.ref c) = true
theorem ClsAt.mk' {K : PySem.W.Frag} {C : Str} {c : Addr} (a : PySem.W.nsIn K mainGlobals C = some (some (.ref c))) (pg : PySem.W.plainGet K c Str.empty = true) (hd : PySem.W.hasDictIn K c = true) (po : PySem.W.plainOver K c = true) (sa : PySem.W.findIn K (.ref c) "__setattr__" = some (some (.builtin "object.__setattr__"))) (mk : PySem.W.makesIn K c = true) (kc : PySem.W.keepIn K (.ref c) = true) : ClsAt K C :=
  ⟨c, a, ⟨pg, hd, po, sa⟩, mk, kc⟩
/-- the class C has nothing at f -/
structure NoAt (K : PySem.W.Frag) (C f : Str) : Prop where
  ex : ∃ c : Addr, PySem.W.nsIn K mainGlobals C = some (some (.ref c)) ∧ PySem.W.findIn K (.ref c) f = some none
theorem NoAt.mk' {K : PySem.W.Frag} {C f : Str} {c : Addr} (a : PySem.W.nsIn K mainGlobals C = some (some (.ref c))) (b : PySem.W.findIn K (.ref c) f = some none) : NoAt K C f := ⟨c, a, b⟩
section
variable {P : Program} {w : World} {K : PySem.W.Frag} {mg : Str → Option Value} {base : Heap} {ws : List (Str × Str)} {T : List (Addr × Str)} {h : Heap}
def NoAll (K : PySem.W.Frag) (C : Str) (fs : List Str) : Prop := ∀ (i : Nat) (f : Str), fs[i]? = some f → NoAt K C f
theorem noAll_nil {C : Str} : NoAll K C [] := fun i f h => by simp at h
theorem noAll_cons {C f : Str} {fs : List Str} (h : NoAt K C f) (r : NoAll K C fs) : NoAll K C (f :: fs) := fun i f' e => by
  cases i with
  | zero => cases e; exact h
  | succ i => exact r i f' e
theorem ClsAt.m {C : Str} {fs : List Str} (c : ClsAt K C) (X : K.In h) (G : h.Ns mainGlobals mg) (no : NoAll K C fs) : ClsM K mg (gK K ws T) C fs := by
  obtain ⟨a, h1, h2, _, _⟩ := c.ex
  have e : (gK K ws T).cls C = a := gK_cls h1
  refine ⟨by rw [e]; exact h2, fun i f hf => ?_, by rw [e]; exact PySem.W.mg_of X G h1⟩
  obtain ⟨a', h3, h4⟩ := (no i f hf).ex
  rw [h1] at h3
  cases h3
  rw [e]
  exact h4
theorem MetAt.m {C m q : Str} {st : Stmt} {N ps : List Str} {k : Nat} {body : IS} (d : MetAt K C m q st) (S : FnScope N ps (defScope st)) (hb : BindQ m q st ps)
    (hbody : ∀ (f : Addr) (cdv : Value) (A : Around) (outer : List PySem.Env) (s : Shared) (H : Hp) (E : XK), At (cxOf (L2.CX P w) P w K mg base N q (defScope st) f cdv A outer s H E) E k → RSs (cxOf (L2.CX P w) P w K mg base N q (defScope st) f cdv A outer s H E) (gK K ws T) E (defBody st) body) :
    MetI P w K mg base (gK K ws T) C m (k + 1) ps.length (runF N.length body) := by
  obtain ⟨a, f, fd, h1, h2, h3, h4⟩ := d.ex
  have e : (gK K ws T).cls C = a := gK_cls h1
  exact ⟨f, fd, ps, fnQ_mk h4 S (hbody f), by rw [e]; exact ⟨h2, h3, h4.kp⟩, h4.binds hb⟩
theorem MetAt.new {C q : Str} {st : Stmt} {N ps : List Str} {k : Nat} {body : IS} (d : MetAt K C "__init__" q st) (c : ClsAt K C) (X : K.In h) (G : h.Ns mainGlobals mg) (S : FnScope N ps (defScope st)) (hb : BindQ "__init__" q st ps)
    (hbody : ∀ (f : Addr) (cdv : Value) (A : Around) (outer : List PySem.Env) (s : Shared) (H : Hp) (E : XK), At (cxOf (L2.CX P w) P w K mg base N q (defScope st) f cdv A outer s H E) E k → RSs (cxOf (L2.CX P w) P w K mg base N q (defScope st) f cdv A outer s H E) (gK K ws T) E (defBody st) body) :
    NewI P w K mg base (gK K ws T) C (k + 1) ps.length (runF N.length body) := by
  obtain ⟨a, f, fd, h1, h2, h3, h4⟩ := d.ex
  obtain ⟨a', g1, _, g3, g4⟩ := c.ex
  rw [h1] at g1
  cases g1
  have e : (gK K ws T).cls C = a := gK_cls h1
  exact ⟨f, fd, ps, fnQ_mk h4 S (hbody f), by rw [e]; exact ⟨g3, h2, h3, g4⟩, by rw [e]; exact PySem.W.mg_of X G h1, h4.binds hb⟩
end
/-! ### the end of a law with classes, without lambdas -/
theorem law_endC {l : PySem.W.OpenLaw} {k : Nat} {q : Program} {loose : List Str} {XP : (Str → Option Value) → Heap → Prop} {YP : World → Heap → Prop} {d : DefRec} {K : Params → PySem.W.Frag} {x : Str} {st : Stmt} {F : List D → Sto → R D}
    (hn : l.most = some 63) (hdf : d.params.defaults = []) (hr : Room k callerA) (hd : d.name = ("law" : Str))
    (hY : ∀ (w : World) (h : Heap), YP w h → (K w.params).In h)
    (hD : ∀ (w : World) (h : Heap), (K w.params).In h → DefAt (K w.params) "law" st)
    (hb : ∀ (kV doc pm : Value) (an : Option Addr) (cdv ct : Value) (s : Shared) (u : Value), BindsTo s (PySem.W.fnOf "law" "law" (defArgs st) (defBody st) (defScope st) .none kV doc pm an cdv ct) ⟨[u], []⟩ [(x, u)])
    (hF : ∀ (w : World) (mg : Str → Option Value) (h : Heap), (K w.params).In h → h.Ns mainGlobals mg → ∀ (f : Addr) (fd : FuncData), Fun (K w.params) "law" "law" st f fd → ∀ base : Heap, FnOk l.prog w (K w.params) mg base (L2.CX l.prog w) k f fd [x] (spI (K w.params) (gK (K w.params) [] []) 1 F))
    (hT : ∀ ns : List Int, ns.length ≤ 63 → (∀ z ∈ ns, Builtin.Int.intBits z ≤ 1048576) → ∃ S', F [.rl ns] [] = .ok (.bl true) S') :
    PySem.W.WalkO q loose XP YP l.row.toRowW d [] (fun f vs => PySem.call f vs) := by
  refine L2.walk_ofB (K := K) (n := 63) (k := k) (x := x) (CX := fun w => L2.CX l.prog w) (sp := fun w => spI (K w.params) (gK (K w.params) [] []) 1 F) hn (by rw [sizeLine_eq]; decide) hdf hr hY ?_ ?_ ?_
  · intro w mg fa h KX G hmg
    obtain ⟨f, oc, od, kV, dc, pm, an, cd, ct, sl, a, lk, c, kk⟩ := (hD w h KX).ex
    have e := PySem.W.mg_of KX G a
    rw [hd] at hmg
    rw [hmg] at e
    injection e with e
    injection e with e
    subst e
    exact ⟨_, fun s u => hb kV dc pm an cd ct s u, fun base _ _ => hF w mg h KX G _ _ (fun_mk lk c kk) base⟩
  · intro w H a ns hl hbits hO hS
    have hp : SqP (K w.params) H a (ns.map V.int) := by
      rcases hS with (hS | ⟨o, hS⟩) | hS
      · rcases hO a with z | ⟨o, xs, z⟩
        · rw [hS] at z; cases z
        · rw [hS] at z; cases z
      · exact .inl ⟨o, hS⟩
      · exact .inr hS
    obtain ⟨S', hS'⟩ := hT ns hl hbits
    refine ⟨rfl, [], [.rl ns], [], .cons (by simp only [DR]; exact ⟨a, rfl, hp⟩) .nil, ⟨rfl, fun i a c h => by simp at h, List.nodup_nil, fun p hp => by cases hp⟩, ?_⟩
    rw [hS']
    exact fun φ' H' _ v dv => bl_inv dv
  · intro w H s e s' hc
    obtain ⟨_, _, _, _, _, _, _, _, _, _, _, _, z⟩ := hc
    exact z
end J

set_option Elab.async false
set_option linter.all false
set_option maxRecDepth 100000
set_option maxHeartbeats 4000000
namespace J
open PySem PySem.Spec PyProof.Rows L2
theorem oi_inAdd {K : PySem.W.Frag} {g : G} : OpI K g rAdd oAddI := oi_addI
theorem oi_inSub {K : PySem.W.Frag} {g : G} : OpI K g rSub oSub := oi_subI
theorem len1 {fa : IA} {n : Nat} (h : ∀ ρ S ds S', fa ρ S = .ok ds S' → ds.length = n) : ∀ ρ S ds S', fa ρ S = .ok ds S' → ds.length + 1 = n + 1 := fun ρ S ds S' e => by rw [h ρ S ds S' e]
/-! ### records by place -/
class KAt (ks : List Str) (f : Str) (i : outParam Nat) : Prop where
  nd : ks.Nodup
  at_ : ks[i]? = some f
def recI (ks : List Str) (ds : List D) : List (Str × D) := ks.zip ds
theorem zip_look {α β : Type} [DecidableEq α] {f : α} {d : β} : ∀ {ks : List α} {ds : List β} {i : Nat}, ks.Nodup → ks[i]? = some f → ds[i]? = some d → (ks.zip ds).lookup f = some d
  | [], _, _, _, h, _ => by simp at h
  | k :: ks, [], _, _, _, h => by simp at h
  | k :: ks, e :: ds, 0, _, h1, h2 => by
    simp at h1 h2
    subst h1; subst h2
    simp [List.lookup_cons]
  | k :: ks, e :: ds, i + 1, nd, h1, h2 => by
    have h1' : ks[i]? = some f := by simpa using h1
    have h2' : ds[i]? = some d := by simpa using h2
    have ne : f ≠ k := by
      rintro rfl
      exact (List.nodup_cons.mp nd).1 (List.mem_of_getElem? h1')
    rw [List.zip_cons_cons, List.lookup_cons]
    rw [show (f == k) = false from by simpa using ne]
    exact zip_look (List.nodup_cons.mp nd).2 h1' h2'
theorem rec_look {ks : List Str} {f : Str} {i : Nat} [k : KAt ks f i] {ds : List D} {d : D} (h : ds[i]? = some d) : (recI ks ds).lookup f = some d := zip_look k.nd k.at_ h
theorem rec_none {m : Str} : ∀ {ks : List Str} {ds : List D}, m ∉ ks → ((recI ks ds).lookup m).isNone = true
  | [], _, _ => rfl
  | k :: ks, [], _ => rfl
  | k :: ks, d :: ds, h => by
    unfold recI
    rw [List.zip_cons_cons, List.lookup_cons]
    rw [show (m == k) = false from by simp at h; simpa using h.1]
    exact rec_none (ks := ks) (ds := ds) (by simp at h; exact h.2)
theorem zip_set : ∀ {ks : List Str} {ds : List D} {i : Nat} {f : Str} {v : D}, ks.Nodup → ks[i]? = some f → i < ds.length → putD f v (ks.zip ds) = ks.zip (ds.set i v)
  | [], _, _, _, _, _, h, _ => by simp at h
  | k :: ks, [], _, _, _, _, _, h => by simp at h
  | k :: ks, e :: ds, 0, f, v, _, h1, h2 => by
    simp at h1
    subst h1
    simp [putD]
  | k :: ks, e :: ds, i + 1, f, v, nd, h1, h2 => by
    have h1' : ks[i]? = some f := by simpa using h1
    have ne : k ≠ f := by
      rintro rfl
      exact (List.nodup_cons.mp nd).1 (List.mem_of_getElem? h1')
    rw [List.zip_cons_cons, List.set_cons_succ, List.zip_cons_cons]
    show (if k = f then _ else _) = _
    rw [if_neg ne, zip_set (List.nodup_cons.mp nd).2 h1' (by simpa using h2)]
theorem zip_add : ∀ {ks : List Str} {ds : List D} {f : Str} {v : D}, ks.Nodup → ks[ds.length]? = some f → putD f v (ks.zip ds) = ks.zip (ds ++ [v])
  | [], _, _, _, _, h => by simp at h
  | k :: ks, [], f, v, _, h1 => by
    simp at h1
    subst h1
    simp [putD]
  | k :: ks, e :: ds, f, v, nd, h1 => by
    have h1' : ks[ds.length]? = some f := by simpa using h1
    have ne : k ≠ f := by
      rintro rfl
      exact (List.nodup_cons.mp nd).1 (List.mem_of_getElem? h1')
    rw [List.zip_cons_cons, List.cons_append, List.zip_cons_cons]
    show (if k = f then _ else _) = _
    rw [if_neg ne, zip_add (List.nodup_cons.mp nd).2 h1']
/-! dicts with written keys -/
theorem getK_cons {p : Key × D} {r : List (Key × D)} {k : Key} : getK (p :: r) k = if p.1 = k then some p.2 else getK r k := by
  unfold getK
  rw [List.find?_cons]
  by_cases h : p.1 = k
  · rw [if_pos h]; simp [h]
  · rw [if_neg h]; simp [h]
theorem zipK_look {f : Key} {d : D} : ∀ {ks : List Key} {ds : List D} {i : Nat}, ks.Nodup → ks[i]? = some f → ds[i]? = some d → getK (ks.zip ds) f = some d
  | [], _, _, _, h, _ => by simp at h
  | k :: ks, [], _, _, _, h => by simp at h
  | k :: ks, e :: ds, 0, _, h1, h2 => by
    simp at h1 h2
    subst h1; subst h2
    rw [List.zip_cons_cons, getK_cons, if_pos rfl]
  | k :: ks, e :: ds, i + 1, nd, h1, h2 => by
    have h1' : ks[i]? = some f := by simpa using h1
    have h2' : ds[i]? = some d := by simpa using h2
    have ne : ¬ k = f := by
      rintro rfl
      exact (List.nodup_cons.mp nd).1 (List.mem_of_getElem? h1')
    rw [List.zip_cons_cons, getK_cons, if_neg ne]
    exact zipK_look (List.nodup_cons.mp nd).2 h1' h2'
theorem keysD_at {ks : List Str} {i : Nat} {f : Str} (h : ks[i]? = some f) : (keysD ks)[i]? = some (.inr f) := by
  unfold keysD
  rw [List.getElem?_map, h]; rfl
theorem recK_look {ks : List Str} {f : Str} {i : Nat} [k : KAt ks f i] {ds : List D} {d : D} (h : ds[i]? = some d) : getK (recK ks ds) (.inr f) = some d := zipK_look (nd_keys k.nd) (keysD_at k.at_) h
theorem putK_map {f : Key} {v : D} : ∀ {ks : List Key} {ds : List D}, f ∉ ks → (ks.zip ds).map (fun kv => if kv.1 = f then (kv.1, v) else kv) = ks.zip ds
  | [], _, _ => rfl
  | k :: ks, [], _ => rfl
  | k :: ks, d :: ds, h => by
    rw [List.zip_cons_cons, List.map_cons, putK_map (by simp at h; exact h.2)]
    dsimp only
    rw [if_neg (by simp at h; exact fun e => h.1 e.symm)]
theorem zipK_map {f : Key} {v : D} : ∀ {ks : List Key} {ds : List D} {i : Nat}, ks.Nodup → ks[i]? = some f → (ks.zip ds).map (fun kv => if kv.1 = f then (kv.1, v) else kv) = ks.zip (ds.set i v)
  | [], _, _, _, h => by simp at h
  | k :: ks, [], _, _, _ => by simp
  | k :: ks, e :: ds, 0, nd, h1 => by
    simp at h1
    subst h1
    rw [List.zip_cons_cons, List.map_cons, putK_map (List.nodup_cons.mp nd).1, List.set_cons_zero, List.zip_cons_cons]
    dsimp only
    rw [if_pos rfl]
  | k :: ks, e :: ds, i + 1, nd, h1 => by
    have h1' : ks[i]? = some f := by simpa using h1
    have ne : ¬ k = f := by
      rintro rfl
      exact (List.nodup_cons.mp nd).1 (List.mem_of_getElem? h1')
    rw [List.zip_cons_cons, List.map_cons, zipK_map (List.nodup_cons.mp nd).2 h1', List.set_cons_succ, List.zip_cons_cons]
    dsimp only
    rw [if_neg ne]
theorem recK_put {ks : List Str} {f : Str} {i : Nat} [k : KAt ks f i] {ds : List D} {v : D} (h : i < ds.length) : putK (recK ks ds) (.inr f) v = recK ks (ds.set i v) := by
  unfold putK
  rw [if_pos]
  · exact zipK_map (nd_keys k.nd) (keysD_at k.at_)
  · rw [List.any_eq_true]
    refine ⟨(.inr f, ds[i]), ?_, by simp⟩
    refine List.mem_of_getElem? (i := i) ?_
    unfold recK
    rw [List.getElem?_zip_eq_some]
    exact ⟨keysD_at k.at_, List.getElem?_eq_getElem h⟩
section
variable {S T : Sto} {n m : Nat} {C : Str} {fs gs : List (Str × D)} {p : Str × List (Str × D)} {kvs kvs' : List (Key × D)} {xs : List D}
theorem insOf_new : insOf (S ++ [.ins C fs]) S.length = some (C, fs) := by simp [insOf]
theorem insOf_lt (h : insOf S n = some p) : n < S.length := (List.getElem?_eq_some_iff.mp (insOf_some h)).1
theorem insOf_old (h : insOf S n = some p) : insOf (S ++ T) n = some p := by
  have q := insOf_lt h
  unfold insOf at h ⊢
  rw [List.getElem?_append_left q]; exact h
theorem dctOf_new : dctOf (S ++ [.dct kvs]) S.length = some kvs := by simp [dctOf]
theorem dctOf_lt (h : dctOf S n = some kvs) : n < S.length := (List.getElem?_eq_some_iff.mp (dctOf_some h)).1
theorem dctOf_old (h : dctOf S n = some kvs) : dctOf (S ++ T) n = some kvs := by
  have q := dctOf_lt h
  unfold dctOf at h ⊢
  rw [List.getElem?_append_left q]; exact h
theorem insOf_here (h : insOf S n = some p) : insOf (setI S n C fs) n = some (C, fs) := by
  simp [insOf, setI, insOf_lt h]
theorem dctOf_here (h : dctOf S n = some kvs) : dctOf (setK S n kvs') n = some kvs' := by
  simp [dctOf, setK, dctOf_lt h]
theorem lstOf_setI (e : insOf S n = some p) (h : lstOf S m = some xs) : lstOf (setI S n C fs) m = some xs := by
  have ne : n ≠ m := by
    rintro rfl
    have a := insOf_some e
    have b := lstOf_cell h
    rw [a] at b; cases b
  simpa [lstOf, setI, List.getElem?_set, ne] using h
theorem lstOf_setK (e : dctOf S n = some kvs) (h : lstOf S m = some xs) : lstOf (setK S n kvs') m = some xs := by
  have ne : n ≠ m := by
    rintro rfl
    have a := dctOf_some e
    have b := lstOf_cell h
    rw [a] at b; cases b
  simpa [lstOf, setK, List.getElem?_set, ne] using h
theorem insOf_setK (e : dctOf S n = some kvs) (h : insOf S m = some p) : insOf (setK S n kvs') m = some p := by
  have ne : n ≠ m := by
    rintro rfl
    have a := dctOf_some e
    have b := insOf_some h
    rw [a] at b; cases b
  simpa [insOf, setK, List.getElem?_set, ne] using h
theorem dctOf_setI (e : insOf S n = some p) (h : dctOf S m = some kvs) : dctOf (setI S n C fs) m = some kvs := by
  have ne : n ≠ m := by
    rintro rfl
    have a := insOf_some e
    have b := dctOf_some h
    rw [a] at b; cases b
  simpa [dctOf, setI, List.getElem?_set, ne] using h
theorem insOf_setL (e : lstOf S n = some xs) {ys : List D} (h : insOf S m = some p) : insOf (setL S n ys) m = some p := by
  have ne : n ≠ m := by
    rintro rfl
    have a := lstOf_cell e
    have b := insOf_some h
    rw [a] at b; cases b
  simpa [insOf, setL, List.getElem?_set, ne] using h
theorem dctOf_setL (e : lstOf S n = some xs) {ys : List D} (h : dctOf S m = some kvs) : dctOf (setL S n ys) m = some kvs := by
  have ne : n ≠ m := by
    rintro rfl
    have a := lstOf_cell e
    have b := dctOf_some h
    rw [a] at b; cases b
  simpa [dctOf, setL, List.getElem?_set, ne] using h
theorem insOf_setI_ne (ne : n ≠ m) (h : insOf S m = some p) : insOf (setI S n C fs) m = some p := by
  simpa [insOf, setI, List.getElem?_set, ne] using h
theorem setI_len : (setI S n C fs).length = S.length := by simp [setI]
theorem setK_len : (setK S n kvs).length = S.length := by simp [setK]
end
/-! guards: a rule is tried only where it fits -/
section
variable {S T : Sto} {n m : Nat} {C : Str} {fs : List (Str × D)} {p : Option (Str × List (Str × D))} {kvs : List (Key × D)} {k : Option (List (Key × D))} {ys : List D} {xs : Option (List D)}
theorem q_lstOld (h : lstOf (S ++ T) n = xs) : lstOf (S ++ T) n = xs := h
theorem q_insOld (h : insOf (S ++ T) n = p) : insOf (S ++ T) n = p := h
theorem q_dctOld (h : dctOf (S ++ T) n = k) : dctOf (S ++ T) n = k := h
theorem q_lstI (h : lstOf (setI S n C fs) m = xs) : lstOf (setI S n C fs) m = xs := h
theorem q_lstK (h : lstOf (setK S n kvs) m = xs) : lstOf (setK S n kvs) m = xs := h
theorem q_insI (h : insOf (setI S n C fs) m = p) : insOf (setI S n C fs) m = p := h
theorem q_insK (h : insOf (setK S n kvs) m = p) : insOf (setK S n kvs) m = p := h
theorem q_insL (h : insOf (setL S n ys) m = p) : insOf (setL S n ys) m = p := h
theorem q_dctI (h : dctOf (setI S n C fs) m = k) : dctOf (setI S n C fs) m = k := h
theorem q_dctK (h : dctOf (setK S n kvs) m = k) : dctOf (setK S n kvs) m = k := h
theorem q_dctL (h : dctOf (setL S n ys) m = k) : dctOf (setL S n ys) m = k := h
end
/-! all but some cells stay -/
structure Kp (ns : List Nat) (S S' : Sto) : Prop where
  len : S.length ≤ S'.length
  at_ : ∀ i, i ∉ ns → i < S.length → S'[i]? = S[i]?
namespace Kp
variable {ns : List Nat} {S S' S'' T : Sto}
theorem refl : Kp ns S S := ⟨Nat.le_refl _, fun _ _ _ => rfl⟩
theorem trans (a : Kp ns S S') (b : Kp ns S' S'') : Kp ns S S'' := ⟨Nat.le_trans a.len b.len, fun i h l => (b.at_ i h (Nat.lt_of_lt_of_le l a.len)).trans (a.at_ i h l)⟩
theorem app (a : Kp ns S S') : Kp ns S (S' ++ T) := ⟨by rw [List.length_append]; have := a.len; omega, fun i h l => by rw [List.getElem?_append_left (Nat.lt_of_lt_of_le l a.len)]; exact a.at_ i h l⟩
theorem add : Kp ns S (S ++ T) := refl.app
theorem setI {n : Nat} {C : Str} {fs : List (Str × D)} (a : Kp ns S S') (h : n ∈ ns) : Kp ns S (J.setI S' n C fs) := ⟨by rw [setI_len]; exact a.len, fun i hi l => by
  have ne : n ≠ i := by rintro rfl; exact hi h
  simp only [J.setI]
  rw [List.getElem?_set_ne ne]; exact a.at_ i hi l⟩
theorem setK {n : Nat} {kvs : List (Key × D)} (a : Kp ns S S') (h : n ∈ ns) : Kp ns S (J.setK S' n kvs) := ⟨by rw [setK_len]; exact a.len, fun i hi l => by
  have ne : n ≠ i := by rintro rfl; exact hi h
  simp only [J.setK]
  rw [List.getElem?_set_ne ne]; exact a.at_ i hi l⟩
theorem setL {n : Nat} {xs : List D} (a : Kp ns S S') (h : n ∈ ns) : Kp ns S (J.setL S' n xs) := ⟨by rw [setL_len]; exact a.len, fun i hi l => by
  have ne : n ≠ i := by rintro rfl; exact hi h
  simp only [J.setL]
  rw [List.getElem?_set_ne ne]; exact a.at_ i hi l⟩
theorem lst {n : Nat} {xs : List D} (a : Kp ns S S') (hn : n ∉ ns) (h : lstOf S n = some xs) : lstOf S' n = some xs := by
  unfold lstOf at h ⊢
  rw [a.at_ n hn (lstOf_lt h)]; exact h
theorem ins {n : Nat} {p : Str × List (Str × D)} (a : Kp ns S S') (hn : n ∉ ns) (h : insOf S n = some p) : insOf S' n = some p := by
  unfold insOf at h ⊢
  rw [a.at_ n hn (insOf_lt h)]; exact h
theorem dct {n : Nat} {kvs : List (Key × D)} (a : Kp ns S S') (hn : n ∉ ns) (h : dctOf S n = some kvs) : dctOf S' n = some kvs := by
  unfold dctOf at h ⊢
  rw [a.at_ n hn (dctOf_lt h)]; exact h
theorem mono {ns' : List Nat} (a : Kp ns S S') (h : ∀ n ∈ ns, n ∈ ns') : Kp ns' S S' := ⟨a.len, fun i hi l => a.at_ i (fun c => hi (h i c)) l⟩
/-- what is new need not stay -/
theorem drop (a : Kp ns S S') (h : ∀ n ∈ ns, S.length ≤ n) : Kp [] S S' := ⟨a.len, fun i _ l => a.at_ i (fun c => by have := h i c; omega) l⟩
/-- nothing changed: more behind -/
theorem pre (a : Kp [] S S') : ∃ T, S' = S ++ T := by
  refine ⟨S'.drop S.length, ?_⟩
  apply List.ext_getElem?
  intro i
  by_cases h : i < S.length
  · rw [List.getElem?_append_left h]; exact a.at_ i (by simp) h
  · rw [List.getElem?_append_right (by omega), List.getElem?_drop]
    congr 1; omega
end Kp
section
variable {Q : D → Sto → Prop} {QU : Unit → Sto → Prop} {QF : Fl → Sto → Prop} {QE : Env → Sto → Prop} {X : Str → Sto → Prop} {S : Sto} {ρ : Env} {n : Nat} {C f m : Str} {ks : List Str} {ds : List D} {d v : D} {i : Nat} {fo fv fi : IE} {fa : IA}
theorem wp_fld (e : insOf S n = some (C, recI ks ds)) (k : KAt ks f i) (h : ds[i]? = some d) (q : Q d S) : wp (oFld C f (.ref n) S) Q X := by
  with_unfolding_all
    simp only [oFld, e, rec_look h, if_true]; exact q
theorem wp_self (e : insOf S n = some (C, recI ks ds)) (h : m ∉ ks) (q : Q (.ref n) S) : wp (oSelf C m (.ref n) S) Q X := by
  with_unfolding_all
    simp only [oSelf, e, rec_none h, and_self, if_true]; exact q
theorem wp_putF (e : insOf S n = some (C, recI ks ds)) (k : KAt ks f i) (hl : ks.length < 900) (h : i < ds.length) (q : QU () (setI S n C (recI ks (ds.set i v)))) : wp (oPutF C f (.ref n) v S) QU X := by
  with_unfolding_all
    have e1 : (recI ks ds).length < 900 := by
      unfold recI
      rw [List.length_zip]; omega
    have e2 : putD f v (recI ks ds) = recI ks (ds.set i v) := zip_set k.nd k.at_ h
    simp only [oPutF, e, e1, and_self, if_true, e2]; exact q
theorem wp_putFn (e : insOf S n = some (C, recI ks ds)) (k : KAt ks f i) (hl : ks.length < 900) (h : ds.length = i) (q : QU () (setI S n C (recI ks (ds ++ [v])))) : wp (oPutF C f (.ref n) v S) QU X := by
  with_unfolding_all
    have e1 : (recI ks ds).length < 900 := by
      unfold recI
      rw [List.length_zip]; omega
    have e2 : putD f v (recI ks ds) = recI ks (ds ++ [v]) := zip_add k.nd (by rw [h]; exact k.at_)
    simp only [oPutF, e, e1, and_self, if_true, e2]; exact q
theorem wp_ixK (e : dctOf S n = some (recK ks ds)) (k : KAt ks f i) (h : ds[i]? = some d) (q : Q d S) : wp (oIx (.ref n) (.str f) S) Q X := by
  with_unfolding_all
    simp only [oIx, e, recK_look h]; exact q
theorem wp_putK (e : dctOf S n = some (recK ks ds)) (k : KAt ks f i) (hl : ks.length < LIM) (h : i < ds.length) (q : QU () (setK S n (recK ks (ds.set i v)))) : wp (oPutK (.ref n) (.str f) v S) QU X := by
  with_unfolding_all
    have e1 : (recK ks ds).length < LIM := by
      unfold recK keysD
      rw [List.length_zip, List.length_map]; omega
    simp only [oPutK, e, e1, if_true, recK_put h]; exact q
theorem g_wp_fld (h : wp (oFld C f (.ref n) S) Q X) : wp (oFld C f (.ref n) S) Q X := h
theorem g_wp_self (h : wp (oSelf C m (.ref n) S) Q X) : wp (oSelf C m (.ref n) S) Q X := h
theorem g_wp_putF (h : wp (oPutF C f (.ref n) v S) QU X) : wp (oPutF C f (.ref n) v S) QU X := h
theorem g_wp_putFn (h : wp (oPutF C f (.ref n) v S) QU X) : wp (oPutF C f (.ref n) v S) QU X := h
theorem g_wp_ixK (h : wp (oIx (.ref n) (.str f) S) Q X) : wp (oIx (.ref n) (.str f) S) Q X := h
theorem g_wp_putK (h : wp (oPutK (.ref n) (.str f) v S) QU X) : wp (oPutK (.ref n) (.str f) v S) QU X := h
theorem wp_sFldS (w : wp (fv ρ S) (fun v S1 => wp (fo ρ S1) (fun o S2 => wp (oPutF C f o v S2) (fun _ S3 => QF (.next ρ) S3) X) X) X) : wp (sFldS C f fo fv ρ S) QF X := by
  with_unfolding_all
    exact wp_bind (wp_mono w (fun _ _ h => wp_bind (wp_mono h (fun _ _ h => wp_bind h) fun _ _ h => h)) fun _ _ h => h)
instance i_wp_sFldS  : St (wp (sFldS C f fo fv ρ S) QF X) (wp (fv ρ S) (fun v S1 => wp (fo ρ S1) (fun o S2 => wp (oPutF C f o v S2) (fun _ S3 => QF (.next ρ) S3) X) X) X) := ⟨fun h => wp_sFldS h⟩
theorem wp_sFldA {op : D → D → Sto → R D} (w : wp (fo ρ S) (fun o S1 => wp (oFld C f o S1) (fun x S2 => wp (fv ρ S2) (fun y S3 => wp (op x y S3) (fun z S4 => wp (oPutF C f o z S4) (fun _ S5 => QF (.next ρ) S5) X) X) X) X) X) : wp (sFldA C f op fo fv ρ S) QF X := by
  with_unfolding_all
    exact wp_bind (wp_mono w (fun _ _ h => wp_bind (wp_mono h (fun _ _ h => wp_bind (wp_mono h (fun _ _ h => wp_bind (wp_mono h (fun _ _ h => wp_bind h) fun _ _ h => h)) fun _ _ h => h)) fun _ _ h => h)) fun _ _ h => h)
instance i_wp_sFldA {op : D → D → Sto → R D} : St (wp (sFldA C f op fo fv ρ S) QF X) (wp (fo ρ S) (fun o S1 => wp (oFld C f o S1) (fun x S2 => wp (fv ρ S2) (fun y S3 => wp (op x y S3) (fun z S4 => wp (oPutF C f o z S4) (fun _ S5 => QF (.next ρ) S5) X) X) X) X) X) := ⟨fun h => wp_sFldA h⟩
theorem wp_iOwn {F : List D → Sto → R D} (w : wp (fo ρ S) (fun o S1 => wp (oSelf C m o S1) (fun o1 S2 => wp (fa ρ S2) (fun ds S3 => wp (F (o1 :: ds) S3) Q X) X) X) X) : wp (iOwn C m F fo fa ρ S) Q X := by
  with_unfolding_all
    exact wp_bind (wp_mono w (fun _ _ h => wp_bind (wp_mono h (fun _ _ h => wp_bind h) fun _ _ h => h)) fun _ _ h => h)
instance i_wp_iOwn {F : List D → Sto → R D} : St (wp (iOwn C m F fo fa ρ S) Q X) (wp (fo ρ S) (fun o S1 => wp (oSelf C m o S1) (fun o1 S2 => wp (fa ρ S2) (fun ds S3 => wp (F (o1 :: ds) S3) Q X) X) X) X) := ⟨fun h => wp_iOwn h⟩
theorem wp_iNew {F : List D → Sto → R D} (w : wp (fa ρ S) (fun ds S1 => wp (F (.ref S1.length :: ds) (S1 ++ [.ins C []])) (fun d S2 => d = .non ∧ Q (.ref S1.length) S2) X) X) : wp (iNew C F fa ρ S) Q X := by
  with_unfolding_all
    exact wp_bind (wp_mono w (fun _ _ h => wp_bind (wp_mono h (fun d S h => by obtain ⟨rfl, h⟩ := h; exact h) fun _ _ h => h)) fun _ _ h => h)
instance i_wp_iNew {F : List D → Sto → R D} : St (wp (iNew C F fa ρ S) Q X) (wp (fa ρ S) (fun ds S1 => wp (F (.ref S1.length :: ds) (S1 ++ [.ins C []])) (fun d S2 => d = .non ∧ Q (.ref S1.length) S2) X) X) := ⟨fun h => wp_iNew h⟩
theorem wp_iDct (w : wp (fa ρ (S ++ [.dct []])) (fun ds S1 => dctOf S1 S.length = some [] ∧ ds.length = ks.length ∧ Q (.ref S.length) (setK S1 S.length (recK ks ds))) X) : wp (iDct ks fa ρ S) Q X := by
  with_unfolding_all
    exact wp_bind (wp_mono w (fun _ _ h => by rw [h.1]; exact wp_ift h.2.1 h.2.2) fun _ _ h => h)
instance i_wp_iDct  : St (wp (iDct ks fa ρ S) Q X) (wp (fa ρ (S ++ [.dct []])) (fun ds S1 => dctOf S1 S.length = some [] ∧ ds.length = ks.length ∧ Q (.ref S.length) (setK S1 S.length (recK ks ds))) X) := ⟨fun h => wp_iDct h⟩
theorem wp_gSubK (w : wp (fo ρ S) (fun o S1 => wp (fi ρ S1) (fun i S2 => wp (oPutK o i d S2) (fun _ S3 => QE ρ S3) X) X) X) : wp (gSubK fo fi d ρ S) QE X := by
  with_unfolding_all
    exact wp_bind (wp_mono w (fun _ _ h => wp_bind (wp_mono h (fun _ _ h => wp_bind h) fun _ _ h => h)) fun _ _ h => h)
instance i_wp_gSubK  : St (wp (gSubK fo fi d ρ S) QE X) (wp (fo ρ S) (fun o S1 => wp (fi ρ S1) (fun i S2 => wp (oPutK o i d S2) (fun _ S3 => QE ρ S3) X) X) X) := ⟨fun h => wp_gSubK h⟩
end
end J

set_option Elab.async false
set_option linter.all false
set_option maxRecDepth 100000
set_option maxHeartbeats 4000000
namespace J
open PySem PySem.Spec PyProof.Rows L2
theorem cutD_init {α : Type} {xs : List α} (h : xs ≠ []) : cutD xs none (some (-1)) = xs.dropLast := by
  have hl := List.length_pos_iff.mpr h
  have e : HT.sIx xs.length xs.length (some (-1)) = xs.length - 1 := by
    show (if (-1 : Int) < 0 then ((-1 : Int) + (xs.length : Int)).toNat else min (-1 : Int).toNat xs.length) = _
    rw [if_pos (by decide)]
    omega
  unfold cutD
  rw [e]
  show (xs.drop 0).take (xs.length - 1 - 0) = _
  rw [List.drop_zero, Nat.sub_zero, List.dropLast_eq_take]
/-! ### a march: the mathematics -/
theorem spd_le : ∀ {ps : List Int} {xs : List Rat} {i : Nat} {r p : Int}, (spd ps xs)[i]? = some r → ps[i]? = some p → r ≤ p
  | [], _, _, _, _, h, _ => by simp [spd] at h
  | q :: ps, [], _, _, _, h, _ => by simp [spd] at h
  | q :: ps, x :: xs, i + 1, r, p, h, h2 => by
    obtain ⟨r', e⟩ := spd_tl (p := q) (ps := ps) (x := x) (xs := xs)
    rw [e] at h
    simp only [List.getElem?_cons_succ] at h h2
    exact spd_le h h2
  | q :: ps, x :: xs, 0, r, p, h, h2 => by
    simp only [spd, List.getElem?_cons_zero, Option.some.injEq] at h h2
    subst h2
    split at h
    · split at h
      · split at h <;> omega
      · omega
    · omega
theorem spd_at : ∀ {ps : List Int} {xs : List Rat} {i : Nat} {x y : Rat} {p s : Int}, xs[i]? = some x → xs[i + 1]? = some y → ps[i]? = some p → (spd ps xs)[i + 1]? = some s → (spd ps xs)[i]? = some (if x = y then (if s < p then s else p) else p)
  | [], _, _, _, _, _, _, _, _, h, _ => by simp at h
  | q :: ps, [], _, _, _, _, _, h, _, _, _ => by simp at h
  | q :: ps, z :: xs, i + 1, x, y, p, s, h1, h2, h3, h4 => by
    obtain ⟨r', e⟩ := spd_tl (p := q) (ps := ps) (x := z) (xs := xs)
    rw [e] at h4 ⊢
    simp only [List.getElem?_cons_succ] at h1 h2 h3 h4 ⊢
    exact spd_at h1 h2 h3 h4
  | q :: ps, z :: [], 0, x, y, p, s, h1, h2, h3, h4 => by simp at h2
  | q :: ps, z :: w :: xs, 0, x, y, p, s, h1, h2, h3, h4 => by
    obtain ⟨r', e⟩ := spd_tl (p := q) (ps := ps) (x := z) (xs := w :: xs)
    rw [e] at h4
    simp only [List.getElem?_cons_succ, List.getElem?_cons_zero, Option.some.injEq, Nat.zero_add] at h1 h2 h3 h4
    subst h1 h2 h3
    cases hR : spd ps (w :: xs) with
    | nil => rw [hR] at h4; simp at h4
    | cons s' r =>
      rw [hR] at h4
      simp only [List.getElem?_cons_zero, Option.some.injEq] at h4
      subst h4
      rw [spd_cons hR]
      rfl
/-- the rates fall, unless a hand goes back to the well -/
theorem spd_fall {t : Rat} : ∀ {ps : List Int} {xs : List Rat} {i : Nat} {r s : Int}, xs.length = ps.length → (spd ps (wlk ps xs t))[i]? = some r → (spd ps xs)[i]? = some s → r ≤ s
  | [], _, _, _, _, _, h, _ => by simp [spd] at h
  | q :: ps, [], _, _, _, hl, _, _ => by simp at hl
  | q :: ps, x :: xs, i, r, s, hl, h1, h2 => by
    have hl' : xs.length = ps.length := by simpa using hl
    obtain ⟨r0, e⟩ := spd_tl (p := q) (ps := ps) (x := x) (xs := xs)
    cases i with
    | succ i =>
      rw [wlk_cons e] at h1
      obtain ⟨r1, e1⟩ := spd_tl (p := q) (ps := ps) (x := x + (r0 : Rat) * t) (xs := wlk ps xs t)
      rw [e1] at h1
      rw [e] at h2
      simp only [List.getElem?_cons_succ] at h1 h2
      exact spd_fall hl' h1 h2
    | zero =>
      have hle : r ≤ q := spd_le h1 rfl
      rcases spd_hd hl' with ⟨e0, rfl, rfl⟩ | ⟨s1, rs, p1, qs, y, ys, e1, rfl, rfl⟩
      · simp [spd] at h2
        omega
      · have e2 := spd_cons (p := q) (x := x) e1
        rw [e2] at h2
        simp only [List.getElem?_cons_zero, Option.some.injEq] at h2
        by_cases hc : x = y ∧ s1 < q
        · obtain ⟨rfl, hc⟩ := hc
          rw [if_pos rfl, if_pos hc] at h2
          subst h2
          have e3 := wlk_cons (t := t) e2
          have e4 := wlk_cons (t := t) e1
          rw [if_pos rfl, if_pos hc] at e3
          rw [e3] at h1
          cases hR : spd (p1 :: qs) (wlk (p1 :: qs) (x :: ys) t) with
          | nil =>
            have := spd_len (ps := p1 :: qs) (xs := wlk (p1 :: qs) (x :: ys) t) (by rw [wlk_len hl', hl'])
            rw [hR] at this
            simp at this
          | cons s2 r2 =>
            have ih : s2 ≤ s1 := spd_fall (i := 0) hl' (by rw [hR]; rfl) (by rw [e1]; rfl)
            rw [e4] at hR h1
            rw [spd_cons hR, if_pos rfl] at h1
            simp only [List.getElem?_cons_zero, Option.some.injEq] at h1
            split at h1 <;> omega
        · have : s = q := by
            rw [← h2]
            by_cases h : x = y
            · rw [if_pos h, if_neg (fun c => hc ⟨h, c⟩)]
            · rw [if_neg h]
          omega
/-- the hand i walks with the next one -/
def stuck (ps : List Int) (xs : List Rat) (i : Nat) : Prop := ∃ x p s, xs[i]? = some x ∧ xs[i + 1]? = some x ∧ ps[i]? = some p ∧ (spd ps xs)[i + 1]? = some s ∧ s ≤ p
open Classical in
noncomputable def nst (ps : List Int) (xs : List Rat) : Nat := (List.range (ps.length - 1)).countP fun i => decide (¬ stuck ps xs i)
theorem nst_le {ps : List Int} {xs : List Rat} : nst ps xs ≤ ps.length - 1 := by
  unfold nst
  refine Nat.le_trans List.countP_le_length ?_
  rw [List.length_range]
  exact Nat.le_refl _
theorem countP_lt {α : Type} {p q : α → Bool} : ∀ {l : List α}, (∀ x ∈ l, q x = true → p x = true) → (∃ x ∈ l, p x = true ∧ q x = false) → l.countP q < l.countP p
  | [], _, h => by obtain ⟨x, h, _⟩ := h; cases h
  | a :: l, h, e => by
    have hle : l.countP q ≤ l.countP p := List.countP_mono_left fun x hx => h x (by simp [hx])
    obtain ⟨x, hx, h1, h2⟩ := e
    rw [List.countP_cons, List.countP_cons]
    rcases List.mem_cons.mp hx with rfl | hx
    · rw [if_pos h1, if_neg (by simp [h2])]; omega
    · have := countP_lt (l := l) (fun x hx => h x (by simp [hx])) ⟨x, hx, h1, h2⟩
      by_cases hq : q a = true
      · rw [if_pos hq, if_pos (h a (by simp) hq)]; omega
      · rw [if_neg hq]; omega
theorem stuck_stays {ps : List Int} {xs : List Rat} {t : Rat} {i : Nat} (hl : xs.length = ps.length) (h : stuck ps xs i) : stuck ps (wlk ps xs t) i := by
  obtain ⟨x, p, s, h1, h2, h3, h4, h5⟩ := h
  have h6 := spd_at h1 h2 h3 h4
  rw [if_pos rfl, show (if s < p then s else p) = s by split <;> omega] at h6
  obtain ⟨s', h7⟩ := at_lt (xs := spd ps (wlk ps xs t)) (k := i + 1) (by
    rw [spd_len (by rw [wlk_len hl, hl]), ← hl]; exact (List.getElem?_eq_some_iff.mp h2).1)
  exact ⟨_, p, s', wlk_at h1 h6, wlk_at h2 h4, h3, h7, Int.le_trans (spd_fall hl h7 h4) h5⟩
theorem stuck_new {ps : List Int} {xs : List Rat} {t : Rat} {i : Nat} (hl : xs.length = ps.length) (h : cnd xs (spd ps xs) i = some t) : ¬ stuck ps xs i ∧ stuck ps (wlk ps xs t) i := by
  obtain ⟨x, y, r, s, h1, h2, h3, h4, h5, h6, h7⟩ := cnd_inv h
  refine ⟨?_, ?_⟩
  · rintro ⟨x', p, s', q1, q2, _⟩
    rw [h1] at q1
    rw [h2] at q2
    cases q1; cases q2
    exact h5 rfl
  · obtain ⟨p, h8⟩ := at_lt (xs := ps) (k := i) (by rw [← hl]; exact (List.getElem?_eq_some_iff.mp h1).1)
    have h9 := spd_le h3 h8
    obtain ⟨s', h10⟩ := at_lt (xs := spd ps (wlk ps xs t)) (k := i + 1) (by
      rw [spd_len (by rw [wlk_len hl, hl]), ← hl]; exact (List.getElem?_eq_some_iff.mp h2).1)
    have e : x + (r : Rat) * t = y + (s : Rat) * t := by
      have hp := ratI_pos (show 0 < r - s by omega)
      have : t * ((r - s : Int) : Rat) = y - x := by rw [h7]; exact Rat.div_mul_cancel (by grind)
      rw [Rat.intCast_sub] at this
      grind
    exact ⟨_, p, s', wlk_at h1 h3, by rw [e]; exact wlk_at h2 h4, h8, h10, by have := spd_fall hl h10 h4; omega⟩
theorem nst_lt {ps : List Int} {xs : List Rat} {t : Rat} {i : Nat} (hl : xs.length = ps.length) (hi : i + 1 < ps.length) (h : cnd xs (spd ps xs) i = some t) : nst ps (wlk ps xs t) < nst ps xs := by
  unfold nst
  obtain ⟨a, b⟩ := stuck_new hl h
  refine countP_lt (fun j _ hj => ?_) ⟨i, List.mem_range.mpr (by omega), by simpa using a, by simpa using b⟩
  simp only [decide_eq_true_eq] at hj ⊢
  exact fun c => hj (stuck_stays hl c)
/-! sums of places -/
def sr : List Rat → Rat
  | [] => 0
  | x :: xs => x + sr xs
theorem sr_app : ∀ {xs ys : List Rat}, sr (xs ++ ys) = sr xs + sr ys
  | [], ys => by simp only [List.nil_append, sr]; grind
  | x :: xs, ys => by simp only [List.cons_append, sr, sr_app (xs := xs)]; grind
theorem sr_nn : ∀ {xs : List Rat}, (∀ x ∈ xs, 0 ≤ x) → 0 ≤ sr xs
  | [], _ => Rat.le_refl
  | x :: xs, h => by
    have h1 := h x (by simp)
    have h2 := sr_nn (xs := xs) fun y hy => h y (by simp [hy])
    simp only [sr]; grind
def si : List Int → Rat
  | [] => 0
  | x :: xs => (x : Rat) + si xs
theorem si_sum : ∀ {ps : List Int}, si ps = ((ps.sum : Int) : Rat)
  | [] => rfl
  | p :: ps => by rw [si, si_sum (ps := ps), List.sum_cons, Rat.intCast_add]
theorem sr_wlk {t : Rat} : ∀ {ps : List Int} {xs : List Rat}, xs.length = ps.length → sr (wlk ps xs t) = sr xs + si (spd ps xs) * t
  | [], [], _ => by simp [wlk, spd, sr, si]; grind
  | [], _ :: _, h => by simp at h
  | _ :: _, [], h => by simp at h
  | p :: ps, x :: xs, h => by
    obtain ⟨r', e⟩ := spd_tl (p := p) (ps := ps) (x := x) (xs := xs)
    rw [wlk_cons e, e, sr, sr, si, sr_wlk (by simpa using h)]
    grind
theorem si_spd : ∀ {ps : List Int} {xs : List Rat}, xs.length = ps.length → si (spd ps xs) ≤ si ps
  | [], [], _ => by simp [spd]
  | [], _ :: _, h => by simp at h
  | _ :: _, [], h => by simp at h
  | p :: ps, x :: xs, h => by
    obtain ⟨r', e⟩ := spd_tl (p := p) (ps := ps) (x := x) (xs := xs)
    have h1 := ratI_le (spd_le (ps := p :: ps) (xs := x :: xs) (i := 0) (by rw [e]; rfl) rfl)
    have h2 := si_spd (ps := ps) (xs := xs) (by simpa using h)
    rw [e, si, si]
    grind
theorem pw_adj : ∀ {xs : List Rat}, (∀ i x y, xs[i]? = some x → xs[i + 1]? = some y → x ≤ y) → xs.Pairwise (· ≤ ·)
  | [], _ => .nil
  | x :: xs, h => by
    have ih := pw_adj (xs := xs) fun i a b h1 h2 => h (i + 1) a b (by simpa using h1) (by simpa using h2)
    refine .cons (fun y hy => ?_) ih
    cases xs with
    | nil => cases hy
    | cons z zs =>
      have h1 := h 0 x z rfl rfl
      rcases List.mem_cons.mp hy with rfl | hy
      · exact h1
      · have := (List.pairwise_cons.mp ih).1 y hy
        grind
/-! hands that go back to the well -/
def rot (L : Rat) : Nat → List Rat → Int → List Rat × Int
  | 0, xs, o => (xs, o)
  | k + 1, xs, o => if xs.getLast? = some L then rot L k (0 :: xs.dropLast) (o + 1) else (xs, o)
structure RotOk (L : Rat) (n : Nat) (xs : List Rat) : Prop where
  l : xs.length = n
  s : xs.Pairwise (· ≤ ·)
  b : ∀ x ∈ xs, 0 ≤ x ∧ x ≤ L
theorem RotOk.one {L : Rat} {n : Nat} {xs : List Rat} (h : RotOk L n xs) (hL : 0 < L) (e : xs.getLast? = some L) : RotOk L n (0 :: xs.dropLast) ∧ (0 :: xs.dropLast).count L + 1 = xs.count L ∧ sr (0 :: xs.dropLast) + L = sr xs := by
  obtain ⟨ys, rfl⟩ : ∃ ys, xs = ys ++ [L] := ⟨xs.dropLast, by
    have := List.dropLast_concat_getLast (l := xs) (by rintro rfl; simp at e)
    rw [List.getLast?_eq_some_getLast (by rintro rfl; simp at e)] at e
    injection e with e
    rw [e] at this
    exact this.symm⟩
  rw [List.dropLast_concat]
  have hs := List.pairwise_append.mp h.s
  refine ⟨⟨?_, ?_, ?_⟩, ?_, ?_⟩
  · have := h.l
    simp at this ⊢
    exact this
  · exact .cons (fun y hy => (h.b y (by simp [hy])).1) hs.1
  · intro x hx
    rcases List.mem_cons.mp hx with rfl | hx
    · exact ⟨Rat.le_refl, Rat.le_of_lt hL⟩
    · exact h.b x (by simp [hx])
  · rw [List.count_append, List.count_cons]
    have : (((0 : Rat) == L)) = false := by
      rw [beq_eq_false_iff_ne]
      intro c
      rw [← c] at hL
      exact absurd hL (Rat.lt_irrefl)
    rw [this]
    simp
  · rw [sr_app]
    simp only [sr]
    grind
structure RotR (L : Rat) (n k : Nat) (xs : List Rat) (o : Int) (r : List Rat × Int) : Prop where
  ok : RotOk L n r.1
  last : r.1.getLast? ≠ some L
  w : (r.2 : Rat) * L + sr r.1 = (o : Rat) * L + sr xs
  o1 : o ≤ r.2
  o2 : r.2 ≤ o + k
  all : ∀ P : Rat → Prop, P 0 → (∀ x ∈ xs, P x) → ∀ x ∈ r.1, P x
theorem rot_spec {L : Rat} {n : Nat} (hL : 0 < L) : ∀ {k : Nat} {xs : List Rat} {o : Int}, xs.count L ≤ k → RotOk L n xs → RotR L n k xs o (rot L k xs o)
  | 0, xs, o, hc, h => ⟨h, fun e => by
      have h1 := List.mem_of_getLast? e
      have h2 := List.count_pos_iff.mpr h1
      unfold rot at h2
      dsimp only at h2
      omega, rfl, Int.le_refl _, by simp [rot], fun P _ h => h⟩
  | k + 1, xs, o, hc, h => by
    unfold rot
    by_cases e : xs.getLast? = some L
    · rw [if_pos e]
      obtain ⟨h1, h2, h3⟩ := h.one hL e
      have r := rot_spec (k := k) (o := o + 1) hL (by omega) h1
      refine ⟨r.ok, r.last, ?_, by have := r.o1; omega, by have := r.o2; omega, fun P h0 hx => r.all P h0 fun x hx' => ?_⟩
      · rw [r.w, Rat.intCast_add]
        have : ((1 : Int) : Rat) = 1 := rfl
        grind
      · rcases List.mem_cons.mp hx' with rfl | hx'
        · exact h0
        · exact hx x ((List.dropLast_sublist _).subset hx')
    · rw [if_neg e]
      exact ⟨h, e, rfl, Int.le_refl _, by omega, fun P _ h => h⟩
theorem rot_none {L : Rat} {k : Nat} {xs : List Rat} {o : Int} (e : xs.getLast? ≠ some L) : rot L k xs o = (xs, o) := by
  cases k with
  | zero => rfl
  | succ k => rw [rot, if_neg e]
theorem rot_gt {L : Rat} {n k : Nat} {xs : List Rat} {o : Int} (hL : 0 < L) (hc : xs.count L ≤ k) (h : RotOk L n xs) (e : xs.getLast? = some L) : o + 1 ≤ (rot L k xs o).2 := by
  have hp := List.count_pos_iff.mpr (List.mem_of_getLast? e)
  obtain ⟨k, rfl⟩ : ∃ j, k = j + 1 := ⟨k - 1, by omega⟩
  rw [rot, if_pos e]
  obtain ⟨h1, h2, h3⟩ := h.one hL e
  exact (rot_spec (k := k) (o := o + 1) hL (by omega) h1).o1
/-! the march -/
structure Mst where
  xs : List Rat
  t : Rat
  o : Int
def part (L : Int) (ps : List Int) (most : Option Rat) (s : Mst) : Rat := match most with
  | some m => if m < s.t + untl L ps s.xs then m - s.t else untl L ps s.xs
  | none => untl L ps s.xs
def mstep (L : Int) (ps : List Int) (most : Option Rat) (s : Mst) : Mst :=
  ⟨(rot (L : Rat) ps.length (wlk ps s.xs (part L ps most s)) s.o).1, s.t + part L ps most s, (rot (L : Rat) ps.length (wlk ps s.xs (part L ps most s)) s.o).2⟩
def mrun (L : Int) (ps : List Int) (h : Rat) : Nat → Mst → Mst
  | 0, s => s
  | k + 1, s => if s.t < h then mrun L ps h k (mstep L ps (some h) s) else s
def mst0 (n : Nat) : Mst := ⟨List.replicate n 0, 0, 0⟩
structure Hnd (L : Int) (ps : List Int) : Prop where
  ne : ps ≠ []
  h8 : ps.length ≤ 8
  p : ∀ p ∈ ps, 1 ≤ p ∧ p ≤ 12
  L1 : 1 ≤ L
structure Mok (L : Int) (ps : List Int) (d : Nat) (s : Mst) : Prop where
  l : s.xs.length = ps.length
  so : s.xs.Pairwise (· ≤ ·)
  b : ∀ x ∈ s.xs, 0 ≤ x ∧ x < (L : Rat)
  t0 : 0 ≤ s.t
  o0 : 0 ≤ s.o
  w : (s.o : Rat) * (L : Rat) + sr s.xs ≤ si ps * s.t
  d0 : 0 < d
  dt : Dv d s.t
  dx : ∀ x ∈ s.xs, Dv d x
theorem sr_rep {n : Nat} : sr (List.replicate n 0) = 0 := by
  induction n with
  | zero => rfl
  | succ n ih => rw [List.replicate_succ, sr, ih]; grind
theorem Mok.start {L : Int} {ps : List Int} (h : Hnd L ps) : Mok L ps 1 (mst0 ps.length) := by
  have hL := ratI_pos (show 0 < L by have := h.L1; omega)
  refine ⟨List.length_replicate, ?_, fun x hx => ?_, Rat.le_refl, Int.le_refl _, ?_, by decide, Dv.zero, fun x hx => ?_⟩
  · exact List.pairwise_replicate.mpr (.inr Rat.le_refl)
  · rw [(List.mem_replicate.mp hx).2]
    exact ⟨Rat.le_refl, hL⟩
  · show (((0 : Int) : Rat)) * _ + sr (List.replicate ps.length 0) ≤ si ps * 0
    rw [sr_rep, show ((0 : Int) : Rat) = 0 from rfl]
    grind
  · rw [(List.mem_replicate.mp hx).2]
    exact Dv.zero
theorem dv_of_mul {d : Nat} {q a : Rat} {r : Int} (hr : 0 < r) (h : Dv d a) (e : q * (r : Rat) = a) : Dv (r.toNat * d) q := by
  obtain ⟨b, hb⟩ := h
  refine ⟨b, ?_⟩
  rw [natMul, ← hb, ← e, ← natI r.toNat, Int.toNat_of_nonneg (by omega)]
  grind
section
variable {L : Int} {ps : List Int} {d : Nat} {s : Mst} {most : Option Rat}
theorem Mok.unt (h : Mok L ps d s) (H : Hnd L ps) : Unt L ps s.xs (untl L ps s.xs) := untl_spec h.l H.ne H.p h.so fun x hx => (h.b x hx).2
theorem Mok.dvu (h : Mok L ps d s) (H : Hnd L ps) : ∃ e, 0 < e ∧ e ≤ 12 ∧ Dv (e * d) (untl L ps s.xs) := by
  have u := h.unt H
  rcases u.ex with ⟨x, r, h1, h2, h3⟩ | ⟨i, hi, h3⟩
  · have hr := spd_bd (xs := s.xs) H.p r (List.mem_of_getElem? h2)
    exact ⟨r.toNat, by omega, by omega, dv_of_mul (by omega) ((Dv.int L).sub (h.dx x (List.mem_of_getElem? h1))) h3⟩
  · obtain ⟨x, y, r, q, h1, h2, h4, h5, h6, h7, h8⟩ := cnd_inv h3
    have hr := spd_bd (xs := s.xs) H.p r (List.mem_of_getElem? h4)
    have hq := spd_bd (xs := s.xs) H.p q (List.mem_of_getElem? h5)
    have hp := ratI_pos (show 0 < r - q by omega)
    exact ⟨(r - q).toNat, by omega, by omega, dv_of_mul (by omega) ((h.dx y (List.mem_of_getElem? h2)).sub (h.dx x (List.mem_of_getElem? h1))) (by rw [h8]; exact Rat.div_mul_cancel (by grind))⟩
/-- walked no longer than to the meeting -/
theorem Mok.walk (h : Mok L ps d s) (H : Hnd L ps) {t : Rat} (h0 : 0 ≤ t) (h1 : t ≤ untl L ps s.xs) : RotOk (L : Rat) ps.length (wlk ps s.xs t) := by
  have u := h.unt H
  have hsl := spd_len h.l
  have hpos : 0 < ps.length := List.length_pos_iff.mpr H.ne
  have so : (wlk ps s.xs t).Pairwise (· ≤ ·) := pw_adj fun i a b e1 e2 => by
    have q := (List.getElem?_eq_some_iff.mp e2).1
    rw [wlk_len h.l, h.l] at q
    obtain ⟨x, hx⟩ := at_lt (xs := s.xs) (k := i) (by rw [h.l]; omega)
    obtain ⟨y, hy⟩ := at_lt (xs := s.xs) (k := i + 1) (by rw [h.l]; omega)
    obtain ⟨r, hr⟩ := at_lt (xs := spd ps s.xs) (k := i) (by omega)
    obtain ⟨r', hr'⟩ := at_lt (xs := spd ps s.xs) (k := i + 1) (by omega)
    rw [wlk_at hx hr] at e1
    rw [wlk_at hy hr'] at e2
    cases e1; cases e2
    exact wlk_mono h.l h.so h0 (fun i g e => by have := u.c i g e; grind) hx hy hr hr'
  obtain ⟨x, hx⟩ := at_lt (xs := s.xs) (k := ps.length - 1) (by rw [h.l]; omega)
  obtain ⟨r, hr⟩ := at_lt (xs := spd ps s.xs) (k := ps.length - 1) (by omega)
  have hz := wlk_at (h := t) hx hr
  have hle : x + (r : Rat) * t ≤ (L : Rat) := by
    have h2 := u.l x r hx hr
    have r0 : 0 ≤ (r : Rat) := by
      have := spd_bd (xs := s.xs) H.p r (List.mem_of_getElem? hr)
      exact Rat.le_of_lt (ratI_pos (by omega))
    have : 0 ≤ (untl L ps s.xs - t) * (r : Rat) := Rat.mul_nonneg (by grind) r0
    grind
  refine ⟨by rw [wlk_len h.l, h.l], so, fun y hy => ?_⟩
  obtain ⟨j, hj⟩ := List.getElem?_of_mem hy
  have hj2 := (List.getElem?_eq_some_iff.mp hj).1
  rw [wlk_len h.l, h.l] at hj2
  constructor
  · obtain ⟨x', hx'⟩ := at_lt (xs := s.xs) (k := j) (by rw [h.l]; omega)
    obtain ⟨r', hr'⟩ := at_lt (xs := spd ps s.xs) (k := j) (by omega)
    rw [wlk_at hx' hr'] at hj
    cases hj
    have := spd_bd (xs := s.xs) H.p r' (List.mem_of_getElem? hr')
    have h3 : 0 ≤ (r' : Rat) * t := Rat.mul_nonneg (Rat.le_of_lt (ratI_pos (by omega))) h0
    have := (h.b x' (List.mem_of_getElem? hx')).1
    grind
  · by_cases q : j = ps.length - 1
    · subst q
      rw [hz] at hj
      cases hj
      exact hle
    · have := pair_at so (show j < ps.length - 1 by omega) hj hz
      grind
theorem part_bd (hu : 0 < untl L ps s.xs) (hm : ∀ m, most = some m → s.t < m) : 0 < part L ps most s ∧ part L ps most s ≤ untl L ps s.xs ∧ (∀ m, most = some m → s.t + part L ps most s ≤ m ∧ (s.t + part L ps most s = m ∨ part L ps most s = untl L ps s.xs)) := by
  unfold part
  cases most with
  | none => exact ⟨hu, Rat.le_refl, fun m e => by cases e⟩
  | some m =>
    have := hm m rfl
    dsimp only
    split
    · exact ⟨by grind, by grind, fun m' e => by cases e; exact ⟨by grind, .inl (by grind)⟩⟩
    · exact ⟨hu, Rat.le_refl, fun m' e => by cases e; exact ⟨by grind, .inr rfl⟩⟩
structure Went (L : Int) (ps : List Int) (most : Option Rat) (s : Mst) : Prop where
  t1 : s.t < (mstep L ps most s).t
  tm : ∀ m, most = some m → (mstep L ps most s).t ≤ m
  o1 : s.o ≤ (mstep L ps most s).o
  o2 : (mstep L ps most s).o ≤ s.o + ps.length
  go : (most = some (mstep L ps most s).t) ∨ s.o + 1 ≤ (mstep L ps most s).o ∨ nst ps (mstep L ps most s).xs < nst ps s.xs
theorem Mok.step (h : Mok L ps d s) (H : Hnd L ps) (hm : ∀ m, most = some m → s.t < m ∧ Dv d m) : ∃ e, 0 < e ∧ e ≤ 12 ∧ Mok L ps (e * d) (mstep L ps most s) ∧ Went L ps most s := by
  have u := h.unt H
  obtain ⟨p1, p2, p3⟩ := part_bd u.pos (fun m e => (hm m e).1)
  have hL : 0 < (L : Rat) := ratI_pos (by have := H.L1; omega)
  have hw := h.walk H (Rat.le_of_lt p1) p2
  have hc : (wlk ps s.xs (part L ps most s)).count (L : Rat) ≤ ps.length := by
    have := List.count_le_length (a := (L : Rat)) (l := wlk ps s.xs (part L ps most s))
    rw [hw.l] at this
    exact this
  have R := rot_spec (o := s.o) hL hc hw
  obtain ⟨e, e1, e2, e3⟩ := h.dvu H
  have hdp : Dv (e * d) (part L ps most s) := by
    have : part L ps most s = untl L ps s.xs ∨ ∃ m, most = some m ∧ part L ps most s = m - s.t := by
      unfold part
      cases most with
      | none => exact .inl rfl
      | some m =>
        dsimp only
        split
        · exact .inr ⟨m, rfl, rfl⟩
        · exact .inl rfl
    rcases this with q | ⟨m, em, q⟩
    · rw [q]; exact e3
    · rw [q]; exact ((hm m em).2.sub h.dt).up e
  have hsw := sr_wlk (t := part L ps most s) h.l
  have hsi := si_spd (xs := s.xs) h.l
  refine ⟨e, e1, e2, ⟨R.ok.l, R.ok.s, fun x hx => ⟨(R.ok.b x hx).1, ?_⟩, ?_, ?_, ?_, Nat.mul_pos e1 h.d0, (h.dt.up e).add hdp, ?_⟩, ⟨?_, fun m em => (p3 m em).1, R.o1, R.o2, ?_⟩⟩
  · -- below the end
    have hb := R.ok.b x hx
    have hne : (rot (L : Rat) ps.length (wlk ps s.xs (part L ps most s)) s.o).1 ≠ [] := by
      rintro c
      have hx : x ∈ (rot (L : Rat) ps.length (wlk ps s.xs (part L ps most s)) s.o).1 := hx
      rw [c] at hx; cases hx
    have hx' : x ∈ (rot (L : Rat) ps.length (wlk ps s.xs (part L ps most s)) s.o).1 := hx
    generalize rot (L : Rat) ps.length (wlk ps s.xs (part L ps most s)) s.o = r at R hx' hne
    obtain ⟨z, _, z1, z2, z3⟩ := last_at (d := 0) hne
    have hz : z ≤ (L : Rat) := (R.ok.b z z3).2
    have hzn : z ≠ (L : Rat) := fun c => R.last (by rw [z1, c])
    obtain ⟨j, hj⟩ := List.getElem?_of_mem hx'
    have hj2 := (List.getElem?_eq_some_iff.mp hj).1
    by_cases q : j = r.1.length - 1
    · subst q
      rw [z2] at hj
      cases hj
      grind
    · have := pair_at R.ok.s (show j < r.1.length - 1 by omega) hj z2
      grind
  · show 0 ≤ s.t + part L ps most s
    have := h.t0
    grind
  · show 0 ≤ (rot (L : Rat) ps.length (wlk ps s.xs (part L ps most s)) s.o).2
    have := R.o1
    have := h.o0
    omega
  · show ((rot (L : Rat) ps.length (wlk ps s.xs (part L ps most s)) s.o).2 : Rat) * (L : Rat) + sr (rot (L : Rat) ps.length (wlk ps s.xs (part L ps most s)) s.o).1 ≤ si ps * (s.t + part L ps most s)
    rw [R.w, hsw]
    have h2 := h.w
    have h3 : 0 ≤ (si ps - si (spd ps s.xs)) * part L ps most s := Rat.mul_nonneg (by grind) (Rat.le_of_lt p1)
    grind
  · refine R.all _ Dv.zero fun x hx => ?_
    obtain ⟨j, hj⟩ := List.getElem?_of_mem hx
    have hj2 := (List.getElem?_eq_some_iff.mp hj).1
    rw [hw.l] at hj2
    obtain ⟨x', hx'⟩ := at_lt (xs := s.xs) (k := j) (by rw [h.l]; omega)
    obtain ⟨r', hr'⟩ := at_lt (xs := spd ps s.xs) (k := j) (by rw [spd_len h.l]; omega)
    rw [wlk_at hx' hr'] at hj
    cases hj
    have h4 : Dv (1 * (e * d)) ((r' : Rat) * part L ps most s) := (Dv.int (d := 1) r').mul hdp
    rw [Nat.one_mul] at h4
    exact ((h.dx x' (List.mem_of_getElem? hx')).up e).add h4
  · show s.t < s.t + part L ps most s
    grind
  · have key : part L ps most s = untl L ps s.xs → s.o + 1 ≤ (mstep L ps most s).o ∨ nst ps (mstep L ps most s).xs < nst ps s.xs := fun q => by
      by_cases hl : (wlk ps s.xs (part L ps most s)).getLast? = some (L : Rat)
      · exact .inl (rot_gt hL hc hw hl)
      · right
        have e0 : (mstep L ps most s).xs = wlk ps s.xs (part L ps most s) := by
          show (rot (L : Rat) ps.length (wlk ps s.xs (part L ps most s)) s.o).1 = _
          rw [rot_none hl]
        rw [e0, q]
        rcases u.ex with ⟨x, r, h1, h2, h3⟩ | ⟨i, hi, h3⟩
        · refine absurd ?_ hl
          rw [q, List.getLast?_eq_getElem?, wlk_len h.l, h.l, wlk_at h1 h2]
          congr 1
          grind
        · exact nst_lt h.l hi h3
    cases most with
    | none => exact .inr (key rfl)
    | some m =>
      rcases (p3 m rfl).2 with q | q
      · exact .inl (by show some m = some (s.t + part L ps (some m) s); rw [q])
      · exact .inr (key q)
end
/-! up to an hour -/
noncomputable def mu (ps : List Int) (h : Rat) (s : Mst) : Nat := if s.t < h then (60 - s.o).toNat * 4 + nst ps s.xs + 1 else 0
structure Mar (L : Int) (ps : List Int) (h : Rat) (s : Mst) : Prop where
  ex : ∃ d, Mok L ps d s ∧ Dv d h ∧ d * 12 ^ mu ps h s ≤ 60 * 12 ^ 244
  le : s.t ≤ h
structure Hrs (L : Int) (ps : List Int) (h : Rat) : Prop where
  H : Hnd L ps
  h4 : ps.length ≤ 4
  L54 : L ≤ 54
  h0 : 0 ≤ h
  h60 : h ≤ 60
  dn : h.den ≤ 60
  w : si ps * h ≤ 60 * (L : Rat)
section
variable {L : Int} {ps : List Int} {h : Rat} {s : Mst}
theorem Mar.o60 (m : Mar L ps h s) (H : Hrs L ps h) : 0 ≤ s.o ∧ s.o ≤ 60 := by
  obtain ⟨d, k, _, _⟩ := m.ex
  refine ⟨k.o0, ?_⟩
  have h1 := k.w
  have h2 := sr_nn fun x hx => (k.b x hx).1
  have hL : 0 < (L : Rat) := ratI_pos (by have := H.H.L1; omega)
  have hsi : 0 ≤ si ps := by
    rw [si_sum]
    have : ∀ l : List Int, (∀ p ∈ l, 1 ≤ p ∧ p ≤ 12) → 0 ≤ l.sum := fun l => by
      induction l with
      | nil => intro _; simp
      | cons a l ih => intro h; have := h a (by simp); have := ih fun p hp => h p (by simp [hp]); simp; omega
    have h5 := ratI_le (this ps H.H.p)
    exact h5
  have h3 : 0 ≤ si ps * (h - s.t) := Rat.mul_nonneg hsi (by have := m.le; grind)
  have h4 : (s.o : Rat) * (L : Rat) ≤ 60 * (L : Rat) := by have := H.w; grind
  by_cases c : s.o ≤ 60
  · exact c
  · have h5 := ratI_le (show 61 ≤ s.o by omega)
    have h6 : 0 ≤ ((s.o : Rat) - ((61 : Int) : Rat)) * (L : Rat) := Rat.mul_nonneg (by grind) (Rat.le_of_lt hL)
    have : ((61 : Int) : Rat) = 61 := rfl
    grind
theorem den_self {q : Rat} : q * (q.den : Rat) = (q.num : Rat) := by
  have e := Rat.num_divInt_den q
  rw [Rat.divInt_eq_div, natI] at e
  have hd : (q.den : Rat) ≠ 0 := by rw [← natI]; exact rat_ne0 (by have := q.den_pos; omega)
  have h2 : ((q.num : Rat) / (q.den : Rat)) * (q.den : Rat) = (q.num : Rat) := Rat.div_mul_cancel hd
  rw [e] at h2
  exact h2
theorem dv_self {q : Rat} : Dv q.den q := ⟨q.num, den_self⟩
theorem Mar.start (H : Hrs L ps h) : Mar L ps h (mst0 ps.length) := by
  have k := Mok.start H.H
  refine ⟨⟨h.den, ⟨k.l, k.so, k.b, k.t0, k.o0, k.w, h.den_pos, Dv.zero, fun x hx => ?_⟩, dv_self, ?_⟩, H.h0⟩
  · rw [(List.mem_replicate.mp hx).2]
    exact Dv.zero
  · refine Nat.mul_le_mul H.dn (Nat.pow_le_pow_right (by decide) ?_)
    unfold mu
    split
    · have := nst_le (ps := ps) (xs := (mst0 ps.length).xs)
      have := H.h4
      show (60 - (0 : Int)).toNat * 4 + _ + 1 ≤ 244
      omega
    · omega
theorem Mar.step (m : Mar L ps h s) (H : Hrs L ps h) (lt : s.t < h) : Mar L ps h (mstep L ps (some h) s) ∧ mu ps h (mstep L ps (some h) s) < mu ps h s := by
  have ho := m.o60 H
  obtain ⟨d, k, dh, hd⟩ := m.ex
  obtain ⟨e, e1, e2, k', g⟩ := k.step H.H (most := some h) fun m em => by cases em; exact ⟨lt, dh⟩
  have hmu : mu ps h (mstep L ps (some h) s) < mu ps h s := by
    unfold mu
    rw [if_pos lt]
    split
    · rename_i c
      have h1 := nst_le (ps := ps) (xs := (mstep L ps (some h) s).xs)
      have := H.h4
      have := g.o1
      rcases g.go with q | q | q
      · injection q with q
        rw [← q] at c
        exact absurd c Rat.lt_irrefl
      · -- more emptied; the bound
        by_cases c2 : s.o < 60
        · omega
        · have e60 : s.o = 60 := by omega
          exfalso
          have h2 := k'.w
          have h3 := sr_nn fun x hx => (k'.b x hx).1
          have hL : 0 < (L : Rat) := ratI_pos (by have := H.H.L1; omega)
          have hsi : 0 ≤ si ps := by
            have h7 := k'.w
            by_cases z : 0 ≤ si ps
            · exact z
            · exfalso
              have h8 : si ps * (mstep L ps (some h) s).t ≤ 0 := by
                have : 0 ≤ (- si ps) * (mstep L ps (some h) s).t := Rat.mul_nonneg (by grind) k'.t0
                grind
              have h9 : (0 : Rat) < ((mstep L ps (some h) s).o : Rat) * (L : Rat) := Rat.mul_pos (ratI_pos (by omega)) hL
              grind
          have h4 := ratI_le (show 61 ≤ (mstep L ps (some h) s).o by omega)
          have h5 : 0 ≤ si ps * (h - (mstep L ps (some h) s).t) := Rat.mul_nonneg hsi (by have := g.tm h rfl; grind)
          have h6 : 0 ≤ (((mstep L ps (some h) s).o : Rat) - ((61 : Int) : Rat)) * (L : Rat) := Rat.mul_nonneg (by grind) (Rat.le_of_lt hL)
          have : ((61 : Int) : Rat) = 61 := rfl
          have := H.w
          grind
      · omega
    · omega
  refine ⟨⟨⟨e * d, k', dh.up e, ?_⟩, g.tm h rfl⟩, hmu⟩
  have h1 : 12 ^ (mu ps h (mstep L ps (some h) s)) * 12 ≤ 12 ^ mu ps h s := by
    rw [← Nat.pow_succ]
    exact Nat.pow_le_pow_right (by decide) hmu
  have h2 : e * d * 12 ^ mu ps h (mstep L ps (some h) s) ≤ d * (12 ^ mu ps h (mstep L ps (some h) s) * 12) := by
    rw [Nat.mul_assoc, Nat.mul_comm e, Nat.mul_assoc]
    exact Nat.mul_le_mul_left _ (Nat.mul_le_mul_left _ e2)
  exact Nat.le_trans h2 (Nat.le_trans (Nat.mul_le_mul_left _ h1) hd)
theorem Mar.am (m : Mar L ps h s) (H : Hrs L ps h) : (∀ x ∈ s.xs, Am 950 x) ∧ Am 950 s.t ∧ Am 20 h := by
  obtain ⟨d, k, dh, hd⟩ := m.ex
  have hd2 : d < 2 ^ 900 := by
    have h1 : d ≤ 60 * 12 ^ 244 := Nat.le_trans (Nat.le_mul_of_pos_right d (Nat.pow_pos (by decide))) hd
    exact Nat.lt_of_le_of_lt h1 (by decide +kernel)
  refine ⟨fun x hx => ?_, ?_, ?_⟩
  · have hb := k.b x hx
    exact ((k.dx x hx).am (b := L) k.d0 hd2 hb.1 (Rat.le_of_lt hb.2) (Sz.of (n := 6) (b := 64) (by have := H.H.L1; omega) (by have := H.L54; omega) (by decide))).mono (by decide)
  · refine (k.dt.am (b := 60) (m := 6) k.d0 hd2 k.t0 ?_ (Sz.lit (by decide))).mono (by decide)
    have := m.le
    have := H.h60
    have : ((60 : Int) : Rat) = 60 := rfl
    grind
  · refine (dv_self.am (b := 60) (n := 6) (m := 6) h.den_pos (by have := H.dn; omega) H.h0 ?_ (Sz.lit (by decide))).mono (by decide)
    have := H.h60
    have : ((60 : Int) : Rat) = 60 := rfl
    grind
theorem mrun_more {k : Nat} (lt : s.t < h) : mrun L ps h (k + 1) s = mrun L ps h k (mstep L ps (some h) s) := by rw [mrun, if_pos lt]
theorem mrun_end {k : Nat} (lt : ¬ s.t < h) : mrun L ps h k s = s := by
  cases k with
  | zero => rfl
  | succ k => rw [mrun, if_neg lt]
end
end J

set_option Elab.async false
set_option linter.all false
set_option maxRecDepth 100000
set_option maxHeartbeats 4000000
namespace J
open PySem PySem.Spec PyProof.Rows L2
/-! ### lists of lists of numbers; all orders -/
structure LLs (b : Nat) (S : Sto) (rs : List Nat) (os : List (List Int)) : Prop where
  len : rs.length = os.length
  at_ : ∀ (i r : Nat) (o : List Int), rs[i]? = some r → os[i]? = some o → b ≤ r ∧ lstOf S r = some (o.map D.int)
namespace LLs
variable {b : Nat} {S S' T : Sto} {rs rs' : List Nat} {os os' : List (List Int)}
theorem nil : LLs b S [] [] := ⟨rfl, fun i r o h => by simp at h⟩
theorem lt (h : LLs b S rs os) : ∀ r ∈ rs, b ≤ r ∧ r < S.length := fun r hr => by
  obtain ⟨i, hi⟩ := List.getElem?_of_mem hr
  obtain ⟨o, ho⟩ := at_lt (xs := os) (k := i) (by rw [← h.len]; exact (List.getElem?_eq_some_iff.mp hi).1)
  have := h.at_ i r o hi ho
  exact ⟨this.1, lstOf_lt this.2⟩
theorem kp {ns : List Nat} (h : LLs b S rs os) (k : Kp ns S S') (hn : ∀ r ∈ rs, r ∉ ns) : LLs b S' rs os := ⟨h.len, fun i r o h1 h2 => ⟨(h.at_ i r o h1 h2).1, k.lst (hn r (List.mem_of_getElem? h1)) (h.at_ i r o h1 h2).2⟩⟩
theorem old (h : LLs b S rs os) : LLs b (S ++ T) rs os := h.kp (ns := []) .add (by simp)
theorem app (h : LLs b S rs os) (h' : LLs b S rs' os') : LLs b S (rs ++ rs') (os ++ os') := ⟨by rw [List.length_append, List.length_append, h.len, h'.len], fun i r o h1 h2 => by
  by_cases c : i < rs.length
  · rw [List.getElem?_append_left c] at h1
    rw [List.getElem?_append_left (by rw [← h.len]; exact c)] at h2
    exact h.at_ i r o h1 h2
  · rw [List.getElem?_append_right (by omega)] at h1
    rw [List.getElem?_append_right (by rw [← h.len]; omega)] at h2
    rw [← h.len] at h2
    exact h'.at_ _ r o h1 h2⟩
theorem one {r : Nat} {o : List Int} (hb : b ≤ r) (h : lstOf S r = some (o.map D.int)) : LLs b S [r] [o] := ⟨rfl, fun i r' o' h1 h2 => by
  match i, h1, h2 with
  | 0, h1, h2 => cases h1; cases h2; exact ⟨hb, h⟩
  | i + 1, h1, h2 => simp at h1⟩
end LLs
theorem in_ints {i : Int} {o : List Int} : inD (.int i) (o.map D.int) = decide (i ∈ o) := by
  unfold inD
  rw [List.any_map, Bool.eq_iff_iff, List.any_eq_true, decide_eq_true_iff]
  constructor
  · rintro ⟨x, hx, e⟩
    have e : (x == i) = true := e
    rw [beq_iff_eq] at e
    subst e
    exact hx
  · intro h
    refine ⟨i, h, ?_⟩
    show (i == i) = true
    simp
theorem flat_ints {o : List Int} : (o.map D.int).all flatD = true := by
  rw [List.all_map, List.all_eq_true]
  intro _ _; rfl
theorem wp_notInI {i : Int} {o : List Int} {n : Nat} {S : Sto} {Q : D → Sto → Prop} {X : Str → Sto → Prop} (e : lstOf S n = some (o.map D.int)) (h : Q (.bl (!decide (i ∈ o))) S) : wp (oNotIn (.int i) (.ref n) S) Q X := by
  have e2 : oNotIn (.int i) (.ref n) S = .ok (.bl (!inD (.int i) (o.map D.int))) S := by
    unfold oNotIn
    simp only [e]
    rw [if_pos ⟨rfl, flat_ints⟩]
  rw [in_ints] at e2
  exact wp_eq e2 h
theorem wp_inI {i : Int} {o : List Int} {n : Nat} {S : Sto} {Q : D → Sto → Prop} {X : Str → Sto → Prop} (e : lstOf S n = some (o.map D.int)) (h : Q (.bl (decide (i ∈ o))) S) : wp (oIn (.int i) (.ref n) S) Q X := by
  refine wp_inL e ⟨rfl, flat_ints⟩ ?_
  rw [in_ints]
  exact h
theorem wp_extend {n m : Nat} {xs ys : List D} {S : Sto} {Q : D → Sto → Prop} {X : Str → Sto → Prop} (e1 : lstOf S n = some xs) (e2 : lstOf S m = some ys) (hl : xs.length + ys.length < LIM) (h : Q .non (setL S n (xs ++ ys))) : wp (mExtend (.ref n) [.ref m] S) Q X := by
  have e : mExtend (.ref n) [.ref m] S = .ok .non (setL S n (xs ++ ys)) := by
    unfold mExtend
    simp only [e1, e2]
    rw [if_pos hl]
  exact wp_eq e h
/-! all orders -/
def more (m : Nat) (o : List Int) (k : Nat) : List (List Int) := ((List.range k).filter fun (i : Nat) => !decide ((i : Int) ∈ o)).map fun (i : Nat) => o ++ [(i : Int)]
def nxt (m : Nat) (os : List (List Int)) : List (List Int) := os.flatMap fun o => more m o m
def ords (m : Nat) : Nat → List (List Int)
  | 0 => [[]]
  | j + 1 => nxt m (ords m j)
theorem more_len {m k : Nat} {o : List Int} : (more m o k).length ≤ k := by
  unfold more
  rw [List.length_map]
  have := List.length_filter_le (fun (i : Nat) => !decide ((i : Int) ∈ o)) (List.range k)
  rw [List.length_range] at this
  exact this
theorem more_succ {m k : Nat} {o : List Int} : more m o (k + 1) = if (k : Int) ∈ o then more m o k else more m o k ++ [o ++ [(k : Int)]] := by
  unfold more
  rw [List.range_succ, List.filter_append]
  by_cases h : (k : Int) ∈ o
  · rw [if_pos h]; simp [h]
  · rw [if_neg h]; simp [h]
theorem nxt_len {m : Nat} : ∀ {os : List (List Int)}, (nxt m os).length ≤ m * os.length
  | [] => by simp [nxt]
  | o :: os => by
    have h1 := more_len (m := m) (k := m) (o := o)
    have h2 := nxt_len (m := m) (os := os)
    unfold nxt at h2 ⊢
    rw [List.flatMap_cons, List.length_append, List.length_cons, Nat.mul_add]
    omega
theorem nxt_take {m i : Nat} {os : List (List Int)} {o : List Int} (h : os[i]? = some o) : nxt m (os.take (i + 1)) = nxt m (os.take i) ++ more m o m := by
  rw [List.take_add_one, h]
  unfold nxt
  simp
theorem ords_len {m : Nat} : ∀ j, (ords m j).length ≤ m ^ j
  | 0 => by simp [ords]
  | j + 1 => by
    have h1 := nxt_len (m := m) (os := ords m j)
    have h2 := ords_len (m := m) j
    rw [Nat.pow_succ, Nat.mul_comm]
    exact Nat.le_trans h1 (Nat.mul_le_mul_left m h2)
theorem ords_olen {m : Nat} : ∀ {j : Nat} {o : List Int}, o ∈ ords m j → o.length = j
  | 0, o, h => by
    rw [show ords m 0 = [[]] from rfl, List.mem_singleton] at h
    subst h; rfl
  | j + 1, o, h => by
    have h : o ∈ nxt m (ords m j) := h
    unfold nxt at h
    rw [List.mem_flatMap] at h
    obtain ⟨o', h1, h2⟩ := h
    unfold more at h2
    rw [List.mem_map] at h2
    obtain ⟨i, _, rfl⟩ := h2
    rw [List.length_append, ords_olen h1]; rfl
theorem ords_perm {m : Nat} (h : m ≤ 4) {o : List Int} (ho : o ∈ ords m m) : o.Perm ((List.range m).map fun (i : Nat) => (i : Int)) := by
  have key : ∀ m, m < 5 → (ords m m).all (fun o => o.isPerm ((List.range m).map fun (i : Nat) => (i : Int))) = true := by decide +kernel
  have := List.all_eq_true.mp (key m (by omega)) o ho
  exact List.isPerm_iff.mp this
/-- the paces in an order -/
def prm (ps o : List Int) : List Int := o.map fun k => ps.getD k.toNat 0
theorem prm_id {ps : List Int} : prm ps ((List.range ps.length).map fun (i : Nat) => (i : Int)) = ps := by
  unfold prm
  rw [List.map_map]
  apply List.ext_getElem?
  intro i
  rw [List.getElem?_map]
  by_cases h : i < ps.length
  · rw [List.getElem?_range h]
    simp [h]
  · rw [List.getElem?_eq_none (by simp; omega), List.getElem?_eq_none (by omega)]; rfl
theorem prm_perm {ps o : List Int} (h : ps.length ≤ 4) (ho : o ∈ ords ps.length ps.length) : (prm ps o).Perm ps := by
  have := (ords_perm h ho).map fun k => ps.getD k.toNat 0
  have e : ((List.range ps.length).map fun (i : Nat) => (i : Int)).map (fun k => ps.getD k.toNat 0) = ps := prm_id
  rw [e] at this
  exact this
theorem si_perm {ps qs : List Int} (h : ps.Perm qs) : si ps = si qs := by
  induction h with
  | nil => rfl
  | cons x _ ih => rw [si, si, ih]
  | swap x y l => simp only [si]; grind
  | trans _ _ ih1 ih2 => rw [ih1, ih2]
theorem sum_perm {ps qs : List Int} (h : ps.Perm qs) : ps.sum = qs.sum := by
  induction h with
  | nil => rfl
  | cons x _ ih => rw [List.sum_cons, List.sum_cons, ih]
  | swap x y l => simp only [List.sum_cons]; omega
  | trans _ _ ih1 ih2 => rw [ih1, ih2]
theorem Hrs.perm {L : Int} {ps qs : List Int} {h : Rat} (H : Hrs L ps h) (e : qs.Perm ps) : Hrs L qs h := ⟨⟨fun c => by
    subst c
    exact H.H.ne (List.perm_nil.mp e.symm), by rw [e.length_eq]; exact H.H.h8, fun p hp => H.H.p p (e.mem_iff.mp hp), H.H.L1⟩, by rw [e.length_eq]; exact H.h4, H.L54, H.h0, H.h60, H.dn, by rw [si_perm e]; exact H.w⟩
theorem prm_hrs {L : Int} {ps o : List Int} {h : Rat} (H : Hrs L ps h) (ho : o ∈ ords ps.length ps.length) : Hrs L (prm ps o) h := H.perm (prm_perm H.h4 ho)
theorem ord_lt {m : Nat} (h : m ≤ 4) {o : List Int} (ho : o ∈ ords m m) : o.length = m ∧ ∀ k ∈ o, 0 ≤ k ∧ k < m := by
  have e := ords_perm h ho
  refine ⟨by rw [e.length_eq]; simp, fun k hk => ?_⟩
  have := e.mem_iff.mp hk
  rw [List.mem_map] at this
  obtain ⟨i, hi, rfl⟩ := this
  rw [List.mem_range] at hi
  omega
/-- the first of the best -/
def bst (f : List Int → Int) : List (List Int) → Int × List Int
  | os => os.foldl (fun m o => if m.1 < f o then (f o, o) else m) (-1, [])
theorem bst_take {f : List Int → Int} {os : List (List Int)} {i : Nat} {o : List Int} (h : os[i]? = some o) : bst f (os.take (i + 1)) = if (bst f (os.take i)).1 < f o then (f o, o) else bst f (os.take i) := by
  unfold bst
  rw [List.take_add_one, h, List.foldl_append]
  rfl
end J

set_option Elab.async false
set_option linter.all false
set_option maxRecDepth 100000
set_option maxHeartbeats 4000000
namespace J
open PySem PySem.Spec PyProof.Rows L2
/-! ### what refuses labour, paces and hours -/
open Classical in
noncomputable def hW (L : Int) (ps : List Int) : Option Str := if 1 ≤ L ∧ L ≤ 54 then if 1 ≤ ps.length ∧ ps.length ≤ 4 then if ∀ p ∈ ps, 1 ≤ p ∧ p ≤ 12 then none else some ("BadPace" : Str) else some ("BadCount" : Str) else some ("BadLabour" : Str)
open Classical in
noncomputable def tW (L : Int) (ps : List Int) (h : Rat) : Option Str := if hW L ps = none then if 0 ≤ h ∧ h ≤ 60 ∧ h.den ≤ 60 then if 60 * (L : Rat) < h * (ps.sum : Rat) then some ("TooLong" : Str) else none else some ("BadTime" : Str) else hW L ps
section
variable {L : Int} {ps : List Int} {h : Rat}
theorem hW_labour (h : ¬ (1 ≤ L ∧ L ≤ 54)) : hW L ps = some ("BadLabour" : Str) := if_neg h
theorem hW_count (h1 : 1 ≤ L ∧ L ≤ 54) (h2 : ¬ (1 ≤ ps.length ∧ ps.length ≤ 4)) : hW L ps = some ("BadCount" : Str) := by
  unfold hW
  rw [if_pos h1, if_neg h2]
theorem hW_pace (h1 : 1 ≤ L ∧ L ≤ 54) (h2 : 1 ≤ ps.length ∧ ps.length ≤ 4) (h3 : ¬ ∀ p ∈ ps, 1 ≤ p ∧ p ≤ 12) : hW L ps = some ("BadPace" : Str) := by
  unfold hW
  rw [if_pos h1, if_pos h2, if_neg h3]
theorem hW_none (h1 : 1 ≤ L ∧ L ≤ 54) (h2 : 1 ≤ ps.length ∧ ps.length ≤ 4) (h3 : ∀ p ∈ ps, 1 ≤ p ∧ p ≤ 12) : hW L ps = none := by
  unfold hW
  rw [if_pos h1, if_pos h2, if_pos h3]
theorem hW_inv (h : hW L ps = none) : (1 ≤ L ∧ L ≤ 54) ∧ (1 ≤ ps.length ∧ ps.length ≤ 4) ∧ ∀ p ∈ ps, 1 ≤ p ∧ p ≤ 12 := by
  unfold hW at h
  split at h
  · rename_i h1
    split at h
    · rename_i h2
      split at h
      · rename_i h3
        exact ⟨h1, h2, h3⟩
      · cases h
    · cases h
  · cases h
theorem hW_hnd (h : hW L ps = none) : Hnd L ps := by
  obtain ⟨h1, h2, h3⟩ := hW_inv h
  exact ⟨List.length_pos_iff.mp (by omega), by omega, h3, h1.1⟩
theorem hW_cases {c : Str} (h : hW L ps = some c) : c = ("BadLabour" : Str) ∨ c = ("BadCount" : Str) ∨ c = ("BadPace" : Str) := by
  unfold hW at h
  split at h
  · split at h
    · split at h
      · cases h
      · cases h; exact .inr (.inr rfl)
    · cases h; exact .inr (.inl rfl)
  · cases h; exact .inl rfl
theorem tW_hW {c : Str} (h : hW L ps = some c) {x : Rat} : tW L ps x = some c := by
  unfold tW
  rw [h]
  exact if_neg (by simp)
theorem tW_time (h1 : hW L ps = none) (h2 : ¬ (0 ≤ h ∧ h ≤ 60 ∧ h.den ≤ 60)) : tW L ps h = some ("BadTime" : Str) := by
  unfold tW
  rw [if_pos h1, if_neg h2]
theorem tW_long (h1 : hW L ps = none) (h2 : 0 ≤ h ∧ h ≤ 60 ∧ h.den ≤ 60) (h3 : 60 * (L : Rat) < h * (ps.sum : Rat)) : tW L ps h = some ("TooLong" : Str) := by
  unfold tW
  rw [if_pos h1, if_pos h2, if_pos h3]
theorem tW_none (h1 : hW L ps = none) (h2 : 0 ≤ h ∧ h ≤ 60 ∧ h.den ≤ 60) (h3 : ¬ 60 * (L : Rat) < h * (ps.sum : Rat)) : tW L ps h = none := by
  unfold tW
  rw [if_pos h1, if_pos h2, if_neg h3]
theorem tW_hrs (e : tW L ps h = none) : Hrs L ps h := by
  unfold tW at e
  split at e
  · rename_i h1
    split at e
    · rename_i h2
      split at e
      · cases e
      · rename_i h3
        obtain ⟨a, b, _⟩ := hW_inv h1
        exact ⟨hW_hnd h1, b.2, a.2, h2.1, h2.2.1, h2.2.2, by rw [si_sum]; grind⟩
    · cases e
  · rename_i h1
    exact absurd e h1
theorem hrs_tW (H : Hrs L ps h) : hW L ps = none ∧ tW L ps h = none := by
  have h1 : hW L ps = none := hW_none ⟨H.H.L1, H.L54⟩ ⟨List.length_pos_iff.mpr H.H.ne, H.h4⟩ H.H.p
  exact ⟨h1, tW_none h1 ⟨H.h0, H.h60, H.dn⟩ (by have := H.w; rw [si_sum] at this; grind)⟩
theorem tW_zero : tW L ps 0 = hW L ps := by
  cases e : hW L ps with
  | some c => exact tW_hW e
  | none =>
    obtain ⟨a, _, _⟩ := hW_inv e
    refine tW_none e ⟨Rat.le_refl, by decide, by decide⟩ ?_
    have := ratI_le a.1
    have : ((1 : Int) : Rat) = 1 := rfl
    grind
theorem tW_cases {c : Str} (e : tW L ps h = some c) : c = ("BadLabour" : Str) ∨ c = ("BadCount" : Str) ∨ c = ("BadPace" : Str) ∨ c = ("BadTime" : Str) ∨ c = ("TooLong" : Str) := by
  unfold tW at e
  split at e
  · split at e
    · split at e
      · cases e; simp
      · cases e
    · cases e; simp
  · rcases hW_cases e with r | r | r <;> simp [r]
end
end J

set_option Elab.async false
set_option linter.all false
set_option maxRecDepth 100000
set_option maxHeartbeats 4000000
namespace J
open PySem PySem.Spec PyProof.Rows L2
/-! ### rows of hours and places -/
def pA (q : Rat) : PyData := .tuple [.int q.num, .int q.den]
theorem toP_aDn {k : Nat} {S : Sto} {p : Rat} : toP (k + 2) S (aD p) = some (pA p) := rfl
theorem eqvAll_aDs : ∀ {xs ys : List Rat}, PyData.eqvAll (xs.map pA) (ys.map pA) = decide (xs = ys)
  | [], [] => by simp [PyData.eqvAll]
  | [], _ :: _ => by simp [PyData.eqvAll]
  | _ :: _, [] => by simp [PyData.eqvAll]
  | x :: xs, y :: ys => by
    have e : PyData.eqv (pA x) (pA y) = decide (x = y) := eqv_aD
    rw [Bool.eq_iff_iff]
    simp only [List.map_cons, PyData.eqvAll, e, eqvAll_aDs, Bool.and_eq_true, decide_eq_true_eq, List.cons.injEq]
theorem toP_aDl {k n : Nat} {S : Sto} {xs : List Rat} (e : lstOf S n = some (xs.map aD)) : toP (k + 3) S (.ref n) = some (.list (xs.map pA)) := toP_list e (mapM_toP (fun _ => rfl) xs)
section
variable {S : Sto} {n m : Nat} {Q : D → Sto → Prop} {X : Str → Sto → Prop}
theorem wp_eqAs {xs ys : List Rat} (e1 : lstOf S n = some (xs.map aD)) (e2 : lstOf S m = some (ys.map aD)) (h : Q (.bl (decide (xs = ys))) S) : wp (oEq (.ref n) (.ref m) S) Q X := wp_eqD (toP_aDl e1) (toP_aDl e2) (by rw [eqv_list, eqvAll_aDs]; exact h)
theorem wp_neAs {xs ys : List Rat} (e1 : lstOf S n = some (xs.map aD)) (e2 : lstOf S m = some (ys.map aD)) (h : Q (.bl (!decide (xs = ys))) S) : wp (oNe (.ref n) (.ref m) S) Q X := wp_neD (toP_aDl e1) (toP_aDl e2) (by rw [eqv_list, eqvAll_aDs]; exact h)
abbrev HRow := Rat × List Rat
def rowD (r : Nat) (p : HRow) : D := .tup [aD p.1, .ref r]
def lgD (rs : List Nat) (g : List HRow) : List D := List.zipWith rowD rs g
theorem toP_row {k r : Nat} {p : HRow} (e : lstOf S r = some (p.2.map aD)) : toP (k + 4) S (rowD r p) = some (.tuple [pA p.1, .list (p.2.map pA)]) := by
  show (([aD p.1, D.ref r] : List D).mapM (toP (k + 3) S)).map PyData.tuple = _
  simp only [List.mapM_cons, List.mapM_nil, toP_aDl e, show toP (k + 3) S (aD p.1) = some (pA p.1) from rfl]
  rfl
theorem eqv_row {p q : HRow} : PyData.eqv (.tuple [pA p.1, .list (p.2.map pA)]) (.tuple [pA q.1, .list (q.2.map pA)]) = decide (p = q) := by
  have e1 : PyData.eqv (pA p.1) (pA q.1) = decide (p.1 = q.1) := eqv_aD
  have e2 : PyData.eqv (.list (p.2.map pA)) (.list (q.2.map pA)) = decide (p.2 = q.2) := by rw [eqv_list, eqvAll_aDs]
  rw [Bool.eq_iff_iff]
  simp only [PyData.eqv, PyData.eqvAll] at e2 ⊢
  simp only [e1, e2, Bool.and_eq_true, decide_eq_true_eq, Bool.and_true]
  exact ⟨fun h => Prod.ext h.1 h.2, fun h => by rw [h]; exact ⟨rfl, rfl⟩⟩
theorem wp_eqRow {r r' : Nat} {p q : HRow} (e1 : lstOf S r = some (p.2.map aD)) (e2 : lstOf S r' = some (q.2.map aD)) (h : Q (.bl (decide (p = q))) S) : wp (oEq (rowD r p) (rowD r' q) S) Q X := wp_eqD (toP_row e1) (toP_row e2) (by rw [eqv_row]; exact h)
theorem wp_neRow {r r' : Nat} {p q : HRow} (e1 : lstOf S r = some (p.2.map aD)) (e2 : lstOf S r' = some (q.2.map aD)) (h : Q (.bl (!decide (p = q))) S) : wp (oNe (rowD r p) (rowD r' q) S) Q X := wp_neD (toP_row e1) (toP_row e2) (by rw [eqv_row]; exact h)
theorem wp_eqNI {i : Int} (h : Q (.bl false) S) : wp (oEq .non (.int i) S) Q X := wp_eqD (a := .none) (b := .int i) rfl rfl (by simpa [PyData.eqv] using h)
end
theorem nd_inj {l : List Nat} (h : l.Nodup) {i j r : Nat} (h1 : l[i]? = some r) (h2 : l[j]? = some r) : i = j := by
  obtain ⟨l1, e1⟩ := List.getElem?_eq_some_iff.mp h1
  obtain ⟨l2, e2⟩ := List.getElem?_eq_some_iff.mp h2
  have hp := List.pairwise_iff_getElem.mp (List.nodup_iff_pairwise_ne.mp h)
  by_cases c : i < j
  · exact absurd (e1.trans e2.symm) (hp i j l1 l2 c)
  · by_cases c2 : j < i
    · exact absurd (e2.trans e1.symm) (hp j i l2 l1 c2)
    · omega
theorem nd_of {l : List Nat} (h : ∀ i j r : Nat, l[i]? = some r → l[j]? = some r → i = j) : l.Nodup := by
  rw [List.nodup_iff_pairwise_ne]
  refine List.pairwise_iff_getElem.mpr fun i j hi hj hij e => ?_
  have := h i j l[i] (List.getElem?_eq_getElem hi) (by rw [List.getElem?_eq_getElem hj, e])
  omega
/-- the lists of the rows in the store, each its own -/
structure LogR (b : Nat) (S : Sto) (rs : List Nat) (g : List HRow) : Prop where
  len : rs.length = g.length
  nd : rs.Nodup
  at_ : ∀ (i r : Nat) (p : HRow), rs[i]? = some r → g[i]? = some p → b ≤ r ∧ lstOf S r = some (p.2.map aD)
theorem lgD_len {rs : List Nat} {g : List HRow} (h : rs.length = g.length) : (lgD rs g).length = g.length := by
  unfold lgD
  rw [List.length_zipWith]; omega
theorem lgD_at {rs : List Nat} {g : List HRow} {i r : Nat} {p : HRow} (h1 : rs[i]? = some r) (h2 : g[i]? = some p) : (lgD rs g)[i]? = some (rowD r p) := by
  unfold lgD
  rw [List.getElem?_zipWith, h1, h2]
theorem lgD_inv {rs : List Nat} {g : List HRow} {i : Nat} {d : D} (h : (lgD rs g)[i]? = some d) : ∃ r p, rs[i]? = some r ∧ g[i]? = some p ∧ d = rowD r p := by
  unfold lgD at h
  rw [List.getElem?_zipWith] at h
  split at h
  · rename_i r p h1 h2
    cases h
    exact ⟨r, p, h1, h2, rfl⟩
  · cases h
namespace LogR
variable {b : Nat} {S S' T : Sto} {rs : List Nat} {g : List HRow}
theorem nil : LogR b S [] [] := ⟨rfl, .nil, fun i r o h => by simp at h⟩
theorem lt (h : LogR b S rs g) : ∀ r ∈ rs, b ≤ r ∧ r < S.length := fun r hr => by
  obtain ⟨i, hi⟩ := List.getElem?_of_mem hr
  obtain ⟨o, ho⟩ := at_lt (xs := g) (k := i) (by rw [← h.len]; exact (List.getElem?_eq_some_iff.mp hi).1)
  have := h.at_ i r o hi ho
  exact ⟨this.1, lstOf_lt this.2⟩
theorem kp {ns : List Nat} (h : LogR b S rs g) (k : Kp ns S S') (hn : ∀ r ∈ rs, r ∉ ns) : LogR b S' rs g := ⟨h.len, h.nd, fun i r o h1 h2 => ⟨(h.at_ i r o h1 h2).1, k.lst (hn r (List.mem_of_getElem? h1)) (h.at_ i r o h1 h2).2⟩⟩
theorem old (h : LogR b S rs g) : LogR b (S ++ T) rs g := h.kp (ns := []) .add (by simp)
theorem low {b' : Nat} (h : LogR b S rs g) (hb : b' ≤ b) : LogR b' S rs g := ⟨h.len, h.nd, fun i r o h1 h2 => ⟨Nat.le_trans hb (h.at_ i r o h1 h2).1, (h.at_ i r o h1 h2).2⟩⟩
theorem snoc {r : Nat} {p : HRow} (h : LogR b S rs g) (hb : b ≤ r) (hn : r ∉ rs) (e : lstOf S r = some (p.2.map aD)) : LogR b S (rs ++ [r]) (g ++ [p]) := by
  refine ⟨by rw [List.length_append, List.length_append, h.len]; rfl, ?_, fun i r' p' h1 h2 => ?_⟩
  · rw [List.nodup_append]
    exact ⟨h.nd, by simp, fun x hx y hy => by
      rw [List.mem_singleton] at hy
      rintro rfl
      subst hy
      exact hn hx⟩
  · by_cases c : i < rs.length
    · rw [List.getElem?_append_left c] at h1
      rw [List.getElem?_append_left (by rw [← h.len]; exact c)] at h2
      exact h.at_ i r' p' h1 h2
    · have hlt := (List.getElem?_eq_some_iff.mp h1).1
      simp at hlt
      have e1 : i = rs.length := by omega
      subst e1
      rw [List.getElem?_append_right (Nat.le_refl _), Nat.sub_self] at h1
      rw [h.len, List.getElem?_append_right (Nat.le_refl _), Nat.sub_self] at h2
      cases h1; cases h2
      exact ⟨hb, e⟩
/-- other places in the row i -/
theorem setL {i r : Nat} {p : HRow} {ys : List Rat} (h : LogR b S rs g) (h1 : rs[i]? = some r) (h2 : g[i]? = some p) : LogR b (setL S r (ys.map aD)) rs (g.set i (p.1, ys)) := by
  refine ⟨by rw [List.length_set]; exact h.len, h.nd, fun j r' p' q1 q2 => ?_⟩
  by_cases c : j = i
  · subst c
    rw [h1] at q1
    cases q1
    rw [List.getElem?_set_self (List.getElem?_eq_some_iff.mp h2).1] at q2
    cases q2
    obtain ⟨a1, a2⟩ := h.at_ j r p h1 h2
    exact ⟨a1, lstOf_set (lstOf_lt a2)⟩
  · rw [List.getElem?_set_ne (fun e => c e.symm)] at q2
    obtain ⟨a1, a2⟩ := h.at_ j r' p' q1 q2
    refine ⟨a1, ?_⟩
    rw [lstOf_set_ne]
    · exact a2
    · rintro rfl
      exact c (nd_inj h.nd q1 h1)
/-- another hour in the row i -/
theorem setH {i : Nat} {p : HRow} {t : Rat} (h : LogR b S rs g) (h2 : g[i]? = some p) : LogR b S rs (g.set i (t, p.2)) := by
  refine ⟨by rw [List.length_set]; exact h.len, h.nd, fun j r' p' q1 q2 => ?_⟩
  by_cases c : j = i
  · subst c
    rw [List.getElem?_set_self (List.getElem?_eq_some_iff.mp h2).1] at q2
    cases q2
    exact h.at_ j r' p q1 h2
  · rw [List.getElem?_set_ne (fun e => c e.symm)] at q2
    exact h.at_ j r' p' q1 q2
theorem erase {i : Nat} (h : LogR b S rs g) : LogR b S (rs.eraseIdx i) (g.eraseIdx i) := by
  refine ⟨?_, h.nd.sublist (List.eraseIdx_sublist ..), fun j r' p' q1 q2 => ?_⟩
  · rw [List.length_eraseIdx, List.length_eraseIdx, h.len]
  · rw [List.getElem?_eraseIdx] at q1 q2
    split at q1
    · rename_i c
      rw [if_pos c] at q2
      exact h.at_ _ _ _ q1 q2
    · rename_i c
      rw [if_neg c] at q2
      exact h.at_ _ _ _ q1 q2
theorem insert {i r : Nat} {p : HRow} (h : LogR b S rs g) (hi : i ≤ rs.length) (hb : b ≤ r) (hn : r ∉ rs) (e : lstOf S r = some (p.2.map aD)) : LogR b S (rs.take i ++ [r] ++ rs.drop i) (g.take i ++ [p] ++ g.drop i) := by
  have hl := h.len
  refine ⟨by simp; omega, ?_, fun j r' p' q1 q2 => ?_⟩
  · have e1 : (rs.take i ++ [r] ++ rs.drop i).Perm (r :: rs) := by
      have : (rs.take i ++ [r] ++ rs.drop i).Perm ([r] ++ rs.take i ++ rs.drop i) := List.Perm.append_right _ List.perm_append_comm
      rw [List.append_assoc [r], List.take_append_drop] at this
      exact this
    exact (e1.nodup_iff).mpr (List.nodup_cons.mpr ⟨hn, h.nd⟩)
  · by_cases c : j < i
    · rw [List.append_assoc, List.getElem?_append_left (by simp; omega), List.getElem?_take_of_lt c] at q1 q2
      exact h.at_ _ _ _ q1 q2
    · by_cases c2 : j = i
      · subst c2
        rw [List.append_assoc, List.getElem?_append_right (by rw [List.length_take]; omega), List.length_take, Nat.min_eq_left (by omega), Nat.sub_self] at q1 q2
        cases q1; cases q2
        exact ⟨hb, e⟩
      · rw [List.getElem?_append_right (by simp; omega), List.getElem?_drop] at q1 q2
        simp only [List.length_append, List.length_take, List.length_singleton] at q1 q2
        rw [show min i rs.length = i by omega] at q1
        rw [show min i g.length = i by omega] at q2
        exact h.at_ _ _ _ q1 q2
theorem swap {i j ri rj : Nat} {pi pj : HRow} (h : LogR b S rs g) (h1 : rs[i]? = some ri) (h2 : g[i]? = some pi) (h3 : rs[j]? = some rj) (h4 : g[j]? = some pj) : LogR b S ((rs.set i rj).set j ri) ((g.set i pj).set j pi) := by
  obtain ⟨l1, e1⟩ := List.getElem?_eq_some_iff.mp h1
  obtain ⟨l3, e3⟩ := List.getElem?_eq_some_iff.mp h3
  have hl := h.len
  refine ⟨by simp [hl], ?_, fun k r' p' q1 q2 => ?_⟩
  · refine nd_of fun a c r qa qc => ?_
    have ha := (List.getElem?_eq_some_iff.mp qa).1
    have hc := (List.getElem?_eq_some_iff.mp qc).1
    simp only [List.length_set] at ha hc
    have key : ∀ x, x < rs.length → ∃ y, ((rs.set i rj).set j ri)[x]? = rs[y]? ∧ (x = i → y = j) ∧ (x = j → y = i) ∧ (x ≠ i → x ≠ j → y = x) := fun x hx => by
      by_cases xj : x = j
      · subst xj
        refine ⟨i, ?_, fun e => e.symm, fun _ => rfl, fun _ q => absurd rfl q⟩
        rw [List.getElem?_set_self (by simp; exact hx), h1]
      · rw [List.getElem?_set_ne (fun e => xj e.symm)]
        by_cases xi : x = i
        · subst xi
          refine ⟨j, ?_, fun _ => rfl, fun e => absurd e xj, fun q => absurd rfl q⟩
          rw [List.getElem?_set_self hx, h3]
        · refine ⟨x, ?_, fun e => absurd e xi, fun e => absurd e xj, fun _ _ => rfl⟩
          rw [List.getElem?_set_ne (fun e => xi e.symm)]
    obtain ⟨ya, ea, a1, a2, a3⟩ := key a ha
    obtain ⟨yc, ec, c1, c2, c3⟩ := key c hc
    rw [ea] at qa
    rw [ec] at qc
    have hy := nd_inj h.nd qa qc
    by_cases x1 : a = i
    · have := a1 x1
      by_cases x3 : c = i
      · omega
      · by_cases x4 : c = j
        · have := c2 x4; omega
        · have := c3 x3 x4; omega
    · by_cases x2 : a = j
      · have := a2 x2
        by_cases x3 : c = i
        · have := c1 x3; omega
        · by_cases x4 : c = j
          · omega
          · have := c3 x3 x4; omega
      · have := a3 x1 x2
        by_cases x3 : c = i
        · have := c1 x3; omega
        · by_cases x4 : c = j
          · have := c2 x4; omega
          · have := c3 x3 x4; omega
  · by_cases kj : k = j
    · subst kj
      rw [List.getElem?_set_self (by simp; exact l3)] at q1
      rw [List.getElem?_set_self (by simp; omega)] at q2
      cases q1; cases q2
      exact h.at_ i ri pi h1 h2
    · rw [List.getElem?_set_ne (fun e => kj e.symm)] at q1 q2
      by_cases ki : k = i
      · subst ki
        rw [List.getElem?_set_self l1] at q1
        rw [List.getElem?_set_self (by omega)] at q2
        cases q1; cases q2
        exact h.at_ j rj pj h3 h4
      · rw [List.getElem?_set_ne (fun e => ki e.symm)] at q1 q2
        exact h.at_ k r' p' q1 q2
end LogR
theorem lgD_snoc {rs : List Nat} {g : List HRow} {r : Nat} {p : HRow} (h : rs.length = g.length) : lgD (rs ++ [r]) (g ++ [p]) = lgD rs g ++ [rowD r p] := by
  unfold lgD
  rw [List.zipWith_append h]; rfl
theorem lgD_setH {rs : List Nat} {g : List HRow} {i r : Nat} {p : HRow} (h : rs[i]? = some r) : (lgD rs g).set i (rowD r p) = lgD rs (g.set i p) := by
  unfold lgD
  apply List.ext_getElem?
  intro j
  rw [List.getElem?_set, List.getElem?_zipWith, List.getElem?_zipWith, List.getElem?_set]
  by_cases c : i = j
  · subst c
    rw [if_pos rfl, if_pos rfl, h, List.length_zipWith]
    have := (List.getElem?_eq_some_iff.mp h).1
    by_cases l : i < g.length
    · rw [if_pos (by omega), if_pos l]
    · rw [if_neg (by omega), if_neg l]
  · rw [if_neg c, if_neg c]
theorem lgD_setL {rs : List Nat} {g : List HRow} {i : Nat} {p : HRow} {ys : List Rat} (h2 : g[i]? = some p) : lgD rs (g.set i (p.1, ys)) = lgD rs g := by
  unfold lgD
  apply List.ext_getElem?
  intro j
  rw [List.getElem?_zipWith, List.getElem?_zipWith, List.getElem?_set]
  by_cases c : i = j
  · subst c
    rw [if_pos rfl, if_pos (List.getElem?_eq_some_iff.mp h2).1, h2]
    cases rs[i]? <;> rfl
  · rw [if_neg c]
theorem lgD_set {rs : List Nat} {g : List HRow} {i r : Nat} {p : HRow} (h : rs.length = g.length) : (lgD rs g).set i (rowD r p) = lgD (rs.set i r) (g.set i p) := by
  unfold lgD
  apply List.ext_getElem?
  intro j
  rw [List.getElem?_set, List.getElem?_zipWith, List.getElem?_zipWith, List.getElem?_set, List.getElem?_set]
  by_cases c : i = j
  · subst c
    rw [if_pos rfl, if_pos rfl, if_pos rfl, List.length_zipWith]
    by_cases l : i < rs.length
    · rw [if_pos (by omega), if_pos l, if_pos (by omega)]
    · rw [if_neg (by omega), if_neg l]
  · rw [if_neg c, if_neg c, if_neg c]
theorem lgD_erase {rs : List Nat} {g : List HRow} {i : Nat} (h : rs.length = g.length) : (lgD rs g).eraseIdx i = lgD (rs.eraseIdx i) (g.eraseIdx i) := by
  unfold lgD
  apply List.ext_getElem?
  intro j
  rw [List.getElem?_eraseIdx, List.getElem?_zipWith, List.getElem?_zipWith, List.getElem?_zipWith, List.getElem?_eraseIdx, List.getElem?_eraseIdx]
  split <;> rfl
theorem lgD_insert {rs : List Nat} {g : List HRow} {i r : Nat} {p : HRow} (h : rs.length = g.length) : (lgD rs g).take i ++ [rowD r p] ++ (lgD rs g).drop i = lgD (rs.take i ++ [r] ++ rs.drop i) (g.take i ++ [p] ++ g.drop i) := by
  unfold lgD
  rw [List.zipWith_append (by simp [h]), List.zipWith_append (by simp [h]), List.take_zipWith, List.drop_zipWith]
  rfl
end J

set_option Elab.async false
set_option linter.all false
set_option maxRecDepth 100000
set_option maxHeartbeats 4000000
namespace J
open PySem PySem.Spec PyProof.Rows L2
theorem sum12 : ∀ {l : List Int}, (∀ p ∈ l, 1 ≤ p ∧ p ≤ 12) → 0 ≤ l.sum ∧ l.sum ≤ 12 * l.length
  | [], _ => by simp
  | a :: l, h => by
    have h1 := h a (by simp)
    have h2 := sum12 (l := l) fun p hp => h p (by simp [hp])
    simp only [List.sum_cons, List.length_cons]
    omega
/-! ### a march from pail to pail -/
def mout (L : Int) (ps : List Int) (o : Int) : Nat → Mst → Mst
  | 0, s => s
  | k + 1, s => if s.o = o then mout L ps o k (mstep L ps none s) else s
noncomputable def mu1 (ps : List Int) (o : Int) (s : Mst) : Nat := if s.o = o then nst ps s.xs + 1 else 0
def nxtO (L : Int) (ps : List Int) (s : Mst) : Mst := mout L ps s.o 8 s
def rst (L : Int) (ps : List Int) : Nat → Mst
  | 0 => mst0 ps.length
  | n + 1 => nxtO L ps (rst L ps n)
def rowS (L : Int) (ps : List Int) (n : Nat) : HRow := ((rst L ps (n + 1)).t, (rst L ps (n + 1)).xs)
structure MokB (L : Int) (ps : List Int) (b : Nat) (s : Mst) : Prop where
  ex : ∃ d, Mok L ps d s ∧ d ≤ 12 ^ b
  tb : s.t ≤ (L : Rat) * (b : Rat)
section
variable {L : Int} {ps : List Int} {b : Nat} {s : Mst} {o : Int}
theorem MokB.start (H : Hnd L ps) : MokB L ps 0 (mst0 ps.length) := ⟨⟨1, Mok.start H, Nat.le_refl _⟩, by
  show (0 : Rat) ≤ (L : Rat) * ((0 : Nat) : Rat)
  have : ((0 : Nat) : Rat) = 0 := rfl
  grind⟩
theorem MokB.step (h : MokB L ps b s) (H : Hnd L ps) : MokB L ps (b + 1) (mstep L ps none s) ∧ Went L ps none s := by
  obtain ⟨d, k, hd⟩ := h.ex
  obtain ⟨e, e1, e2, k', g⟩ := k.step H (most := none) fun m em => by cases em
  refine ⟨⟨⟨e * d, k', ?_⟩, ?_⟩, g⟩
  · rw [Nat.pow_succ, Nat.mul_comm]
    exact Nat.mul_le_mul hd e2
  · have u := k.unt H
    have hpos : 0 < ps.length := List.length_pos_iff.mpr H.ne
    obtain ⟨x, hx⟩ := at_lt (xs := s.xs) (k := ps.length - 1) (by rw [k.l]; omega)
    obtain ⟨r, hr⟩ := at_lt (xs := spd ps s.xs) (k := ps.length - 1) (by rw [spd_len k.l]; omega)
    have h2 := u.l x r hx hr
    have h3 := (k.b x (List.mem_of_getElem? hx)).1
    have r1 := spd_bd (xs := s.xs) H.p r (List.mem_of_getElem? hr)
    have h4 := ratI_le r1.1
    have e1 : ((1 : Int) : Rat) = 1 := rfl
    have h5 : 0 ≤ untl L ps s.xs * ((r : Rat) - 1) := Rat.mul_nonneg (Rat.le_of_lt u.pos) (by grind)
    have h6 : untl L ps s.xs ≤ (L : Rat) := by grind
    show s.t + untl L ps s.xs ≤ (L : Rat) * ((b + 1 : Nat) : Rat)
    have e2 : ((b + 1 : Nat) : Rat) = (b : Rat) + 1 := by rw [← natI, Int.natCast_add, Rat.intCast_add]; rfl
    have h7 := h.tb
    rw [e2]
    grind
theorem mu1_step (h : MokB L ps b s) (H : Hnd L ps) (e : s.o = o) : mu1 ps o (mstep L ps none s) < mu1 ps o s := by
  obtain ⟨_, g⟩ := h.step H
  unfold mu1
  rw [if_pos e]
  split
  · rename_i c
    rcases g.go with q | q | q
    · cases q
    · omega
    · omega
  · omega
theorem MokB.am (h : MokB L ps b s) (hb : b ≤ 90) (H : Hnd L ps) (hL : L ≤ 54) : (∀ x ∈ s.xs, Am 400 x) ∧ Am 400 s.t := by
  obtain ⟨d, k, hd⟩ := h.ex
  have h1 := H.L1
  have hd2 : d < 2 ^ 330 := by
    have h1 : d ≤ 12 ^ 90 := Nat.le_trans hd (Nat.pow_le_pow_right (by decide) hb)
    exact Nat.lt_of_le_of_lt h1 (by decide +kernel)
  refine ⟨fun x hx => ?_, ?_⟩
  · have hb := k.b x hx
    exact ((k.dx x hx).am (b := L) k.d0 hd2 hb.1 (Rat.le_of_lt hb.2) (Sz.of (n := 6) (b := 64) (by omega) (by omega) (by decide))).mono (by decide)
  · have e1 : s.t ≤ ((L * (b : Int) : Int) : Rat) := by
      rw [Rat.intCast_mul, natI]
      exact h.tb
    have h2 : 0 ≤ L * (b : Int) := Int.mul_nonneg (by omega) (by omega)
    have h3 : L * (b : Int) ≤ 54 * 90 := Int.mul_le_mul hL (by omega) (by omega) (by omega)
    exact (k.dt.am (b := L * (b : Int)) (m := 13) k.d0 hd2 k.t0 e1 (Sz.of (b := 8192) h2 (by omega) (by decide))).mono (by decide)
theorem mout_more {k : Nat} (e : s.o = o) : mout L ps o (k + 1) s = mout L ps o k (mstep L ps none s) := by rw [mout, if_pos e]
theorem mout_end {k : Nat} (e : ¬ s.o = o) : mout L ps o k s = s := by
  cases k with
  | zero => rfl
  | succ k => rw [mout, if_neg e]
theorem mu1_le (h4 : ps.length ≤ 4) : mu1 ps o s ≤ 4 := by
  unfold mu1
  have := nst_le (ps := ps) (xs := s.xs)
  split <;> omega
theorem mout_ok (H : Hnd L ps) : ∀ (k c : Nat) (s : Mst), MokB L ps c s → mu1 ps o s ≤ k → ∃ c', MokB L ps c' (mout L ps o k s) ∧ c' ≤ c + mu1 ps o s ∧ (mout L ps o k s).o ≠ o
  | 0, c, s, h, hk => by
    refine ⟨c, h, by omega, fun e => ?_⟩
    have e : s.o = o := e
    unfold mu1 at hk
    rw [if_pos e] at hk
    omega
  | k + 1, c, s, h, hk => by
    by_cases e : s.o = o
    · rw [mout_more e]
      have h1 := mu1_step h H e
      obtain ⟨c', h2, h3, h4⟩ := mout_ok H k (c + 1) _ (h.step H).1 (by omega)
      exact ⟨c', h2, by omega, h4⟩
    · rw [mout_end e]
      exact ⟨c, h, by omega, e⟩
theorem MokB.mono {c : Nat} (h : MokB L ps b s) (hb : b ≤ c) (H : Hnd L ps) : MokB L ps c s := by
  obtain ⟨d, k, hd⟩ := h.ex
  refine ⟨⟨d, k, Nat.le_trans hd (Nat.pow_le_pow_right (by decide) hb)⟩, ?_⟩
  have h1 := h.tb
  have h2 : (b : Rat) ≤ (c : Rat) := by rw [← natI, ← natI]; exact ratI_le (by omega)
  have h3 : 0 ≤ (L : Rat) * ((c : Rat) - (b : Rat)) := Rat.mul_nonneg (Rat.le_of_lt (ratI_pos (by have := H.L1; omega))) (by grind)
  grind
theorem rst_ok (H : Hnd L ps) (h4 : ps.length ≤ 4) : ∀ n, MokB L ps (4 * n) (rst L ps n)
  | 0 => .start H
  | n + 1 => by
    have ih := rst_ok H h4 n
    have hm := mu1_le (o := (rst L ps n).o) (s := rst L ps n) h4
    obtain ⟨c', h1, h2, _⟩ := mout_ok (o := (rst L ps n).o) H 8 _ _ ih (by omega)
    exact h1.mono (by omega) H
end
/-- what is said of a log -/
def IsF (L : Int) (ps : List Int) (g : List HRow) (d : D) : Prop := (∃ (i : Nat) (p : HRow), d = .int i ∧ g[i]? = some p ∧ p ≠ rowS L ps i ∧ ∀ j, j < i → g[j]? = some (rowS L ps j)) ∨ (d = .non ∧ ∀ j, j < g.length → g[j]? = some (rowS L ps j))
theorem IsF.uniq {L : Int} {ps : List Int} {g : List HRow} {d e : D} (h : IsF L ps g d) (h' : IsF L ps g e) : d = e := by
  rcases h with ⟨i, p, rfl, h1, h2, h3⟩ | ⟨rfl, h1⟩
  · rcases h' with ⟨j, q, rfl, g1, g2, g3⟩ | ⟨rfl, g1⟩
    · have : i = j := by
        by_cases c : i < j
        · have := g3 i c
          rw [h1] at this
          cases this
          exact absurd rfl h2
        · by_cases c2 : j < i
          · have := h3 j c2
            rw [g1] at this
            cases this
            exact absurd rfl g2
          · omega
      rw [this]
    · have := g1 i (List.getElem?_eq_some_iff.mp h1).1
      rw [h1] at this
      cases this
      exact absurd rfl h2
  · rcases h' with ⟨j, q, rfl, g1, g2, g3⟩ | ⟨rfl, g1⟩
    · have := h1 j (List.getElem?_eq_some_iff.mp g1).1
      rw [g1] at this
      cases this
      exact absurd rfl g2
    · rfl
theorem wp_pop {n k : Nat} {xs : List D} {d : D} {S : Sto} {Q : D → Sto → Prop} {X : Str → Sto → Prop} (e : lstOf S n = some xs) (hl : xs.length < LIM) (h : xs[k]? = some d) (q : Q d (setL S n (xs.eraseIdx k))) : wp (mPop (.ref n) [.int k] S) Q X := by
  have e2 : mPop (.ref n) [.int k] S = .ok d (setL S n (xs.eraseIdx k)) := by
    unfold mPop
    simp only [e]
    rw [if_pos hl, ixN_nat rfl (List.getElem?_eq_some_iff.mp h).1]
    simp only [h]
  exact wp_eq e2 q
theorem Kp.setNew {S S' : Sto} {n : Nat} {xs : List D} (k : Kp [] S S') (h : S.length ≤ n) : Kp [] S (J.setL S' n xs) := ((k.mono (ns' := [n]) (by simp)).setL (by simp)).drop (by simpa using h)
end J

set_option Elab.async false
set_option linter.all false
set_option maxRecDepth 100000
set_option maxHeartbeats 4000000
namespace J
open PySem PySem.Spec PyProof.Rows L2
/-! ### dicts by name: {}, key in d, dict(d); list.remove of a text -/
def iDn : IE := fun ρ S => .ok (.ref S.length) (S ++ [.dct []])
def oInK : D → D → Sto → R D
  | .str x, .ref n, S => match dctOf S n with
    | some kvs => .ok (.bl (getK kvs (.inr x)).isSome) S
    | none => .bad
  | _, _, _ => .bad
def oNotInK : D → D → Sto → R D
  | .str x, .ref n, S => match dctOf S n with
    | some kvs => .ok (.bl (!(getK kvs (.inr x)).isSome)) S
    | none => .bad
  | _, _, _ => .bad
def bDict : List D → Sto → R D
  | [.ref n], S => match dctOf S n with
    | some kvs => .ok (.ref S.length) (S ++ [.dct kvs])
    | none => .bad
  | _, _ => .bad
def mRemove : D → List D → Sto → R D
  | .ref n, [.str x], S => match lstOf S n with
    | some xs => match xs.mapM asStr with
      | some zs => if x ∈ zs then .ok .non (setL S n (xs.eraseIdx (zs.idxOf x))) else .bad
      | none => .bad
    | none => .bad
  | _, _, _ => .bad
section
variable {X : Cx} {g : G} {E : XK} {pos : Pos}
theorem re_dn : RE X g E (.Dict [] [] pos) iDn :=
  PE.imp pe_dnewK fun σ H Q ⟨φ, ρ, S, er, rp, k⟩ => fun p hp => by
    have n0 := rp.alloc (o := .dK []) (c := .dct []) hp ⟨[], upd_same, .nil⟩
    exact k _ _ n0 _ (by simp only [DR]; exact ⟨p, by rw [← rp.len]; simp, rfl⟩)
def rInK (neg : Bool) : R2 := fun x y H Q => ∃ a kvs k, y = .ref a ∧ H a = some (.dK kvs) ∧ x = kV k ∧ Q (.bl (if neg then !(valV kvs k).isSome else (valV kvs k).isSome)) H
theorem op_inK (hu : X.A.units + 1 < cLine) : OpR X (compareOp .In) (rInK false) := fun pins s σ H x y v u Q I rx ry ⟨a, kvs, k, ey, e, ex, q⟩ => by
  subst ey
  cases (show u = Value.ref a from ry)
  exact d_in hu I (.k e) (ex ▸ rx) fun s' I' => ⟨.bl _, H, I', rfl, q⟩
theorem op_notInK (hu : X.A.units + 1 < cLine) : OpR X (compareOp .NotIn) (rInK true) := fun pins s σ H x y v u Q I rx ry ⟨a, kvs, k, ey, e, ex, q⟩ => by
  subst ey
  cases (show u = Value.ref a from ry)
  exact d_notIn hu I (.k e) (ex ▸ rx) fun s' I' => ⟨.bl _, H, I', rfl, q⟩
end
theorem keyR_some {K : PySem.W.Frag} {φ : List Addr} {H : Hp} {kvs : List (Key × D)} {ws : List (Key × V)} {k : Key} (h : Paired (KeyR K φ H) kvs ws) : (valV ws k).isSome = (getK kvs k).isSome := by
  cases e : getK kvs k with
  | none => rw [keyR_none h e]; rfl
  | some d =>
    obtain ⟨v, h1, _⟩ := keyR_find h e
    rw [h1]; rfl
theorem oi_inK {K : PySem.W.Frag} {g : G} : OpI K g (rInK false) oInK := fun E φ S H d e x y Q r hx hy k => by
  cases d with
  | str z =>
    obtain rfl := str_inv hx
    cases e with
    | ref n =>
      obtain ⟨a, ha, rfl⟩ := ref_inv hy
      simp only [oInK] at k
      split at k
      · rename_i kvs h1
        obtain ⟨ws, e1, e2⟩ := r.dct h1 ha
        refine ⟨a, ws, .inr z, rfl, e1, rfl, ?_⟩
        rw [if_neg (by simp), keyR_some e2]
        exact k.here r _ dr_bl
      · exact k.elim
    | _ => exact k.elim
  | _ => cases e <;> exact k.elim
theorem oi_notInK {K : PySem.W.Frag} {g : G} : OpI K g (rInK true) oNotInK := fun E φ S H d e x y Q r hx hy k => by
  cases d with
  | str z =>
    obtain rfl := str_inv hx
    cases e with
    | ref n =>
      obtain ⟨a, ha, rfl⟩ := ref_inv hy
      simp only [oNotInK] at k
      split at k
      · rename_i kvs h1
        obtain ⟨ws, e1, e2⟩ := r.dct h1 ha
        refine ⟨a, ws, .inr z, rfl, e1, rfl, ?_⟩
        rw [if_pos rfl, keyR_some e2]
        exact k.here r _ dr_bl
      · exact k.elim
    | _ => exact k.elim
  | _ => cases e <;> exact k.elim
theorem ci_dict {K : PySem.W.Frag} {g : G} : CallI K g (fun xs H Q => ∃ (a : Addr) (kvs : List (Key × V)), xs = [.ref a] ∧ Rd H a (.dK kvs) ∧ ∀ p, H p = none → Q (.ref p) (upd H p (.dK kvs))) bDict := fun E φ S H ds vs Q r hd k => by
  match ds, k with
  | [.ref n], k =>
    obtain ⟨v, rfl, dv⟩ := hd.one
    obtain ⟨a, ha, rfl⟩ := ref_inv dv
    simp only [bDict] at k
    split at k
    · rename_i kvs h1
      obtain ⟨ws, e1, e2⟩ := r.dct h1 ha
      refine ⟨a, ws, rfl, .inl e1, fun p hp => ?_⟩
      have hw : Wr (H p) := by rw [hp]; trivial
      have n0 := r.alloc (o := .dK ws) (c := .dct kvs) hp ⟨ws, upd_same, PySem.Paired.mono (fun _ _ q => ⟨q.1, q.2.mono (List.prefix_append _ _) (.upd hw)⟩) e2⟩
      exact k _ _ n0 _ (by simp only [DR]; exact ⟨p, by rw [← r.len]; simp, rfl⟩)
    · exact k.elim
  | [], k => exact k.elim
  | [.int _], k => exact k.elim
  | [.bl _], k => exact k.elim
  | [.str _], k => exact k.elim
  | [.non], k => exact k.elim
  | [.ty _], k => exact k.elim
  | [.rl _], k => exact k.elim
  | [.tup _], k => exact k.elim
  | x :: _ :: _, k => cases x <;> exact k.elim
/-! list.remove of a text -/
theorem idx_ne {k : Str} : ∀ {l : List Str} {m : Nat}, m < l.idxOf k → l[m]? ≠ some k
  | [], m, h => by simp
  | a :: l, m, h => by
    rw [List.idxOf_cons] at h
    by_cases e : a = k
    · subst e
      simp at h
    · rw [show (a == k) = false from by simpa using e] at h
      have h' : m < l.idxOf k + 1 := h
      cases m with
      | zero => simpa using e
      | succ m =>
        rw [List.getElem?_cons_succ]
        exact idx_ne (by omega)
def rRemS : V → List V → Hp → VK → Prop := fun x xs H Q => ∃ (l : Addr) (zs : List Str) (k : Str), x = .ref l ∧ xs = [.str k] ∧ H l = some (.lst (zs.map V.str)) ∧ k ∈ zs ∧ Q .non (upd H l (.lst ((zs.map V.str).eraseIdx (zs.idxOf k))))
theorem mt_removeS {X : Cx} : MtM X "list.remove" rRemS := by
  intro pins s σ H x xs v us Q I rx rxs h
  obtain ⟨l, zs, k, rfl, rfl, hH, hmem, q⟩ := h
  cases rx
  obtain ⟨u, rfl, ru⟩ := rxs.one
  obtain ⟨t, rfl⟩ := (show ∃ t, u = Value.str k t from ru)
  obtain ⟨z, its, n, r, hl, e⟩ := I.lstM hH
  have hi := strs_of_vals r
  rw [List.length_map] at hl z
  have hjn : zs.idxOf k < zs.length := List.idxOf_lt_length_iff.mpr hmem
  generalize hj : zs.idxOf k = j at *
  have hjl : j < its.toArray.size := by rw [List.size_toArray]; omega
  have get : ∀ m (hm : m < zs.length), ∃ tm, its[m]? = some (Value.str zs[m] tm) := fun m hm => by
    obtain ⟨w, hw, rw'⟩ := r.get (i := m) (x := V.str zs[m]) (by rw [List.getElem?_map, List.getElem?_eq_getElem hm]; rfl)
    obtain ⟨tm, rfl⟩ := (show ∃ t, w = Value.str zs[m] t from rw')
    exact ⟨tm, hw⟩
  refine call_meets PySem.F.slot_list_remove ⟨_, e, rfl⟩ PySem.F.entry_list_remove (PySem.F.args_list_remove_2 _ _)
    (MeetsSeq.list_remove l its.toArray n (.str k t) (isStrOf k) (fun y hy => eq_isStrOf k t hi y (by simpa using hy)) j hjl ?_ ?_ (by rw [List.size_toArray]; omega)) ⟨e, ?_⟩
  · obtain ⟨tj, hjt⟩ := get j hjn
    obtain ⟨h1, h2⟩ := List.getElem?_eq_some_iff.mp hjt
    have e1 : its.toArray[j] = .str zs[j] tj := by simpa using h2
    rw [e1]
    have : zs[j] = k := by
      subst hj
      exact List.getElem_idxOf hjn
    rw [this]
    exact beq_self_eq_true k
  · intro m hm hmj
    have hmn : m < zs.length := by omega
    obtain ⟨tm, hmt⟩ := get m hmn
    obtain ⟨h1, h2⟩ := List.getElem?_eq_some_iff.mp hmt
    have e1 : its.toArray[m] = .str zs[m] tm := by simpa using h2
    rw [e1]
    refine beq_eq_false_iff_ne.mpr fun e2 => ?_
    exact idx_ne (l := zs) (k := k) (m := m) (by rw [hj]; exact hmj) (by rw [List.getElem?_eq_getElem hmn, e2])
  · have rr := r.eraseIdx j
    refine ⟨.non, _, I.lset (its' := its.eraseIdx j) (t' := s.toks) hH e ?_ rr ?_, rfl, q⟩
    · show its.toArray.eraseIdxIfInBounds j = (its.eraseIdx j).toArray
      rw [List.eraseIdxIfInBounds_toArray]
    · have := List.length_eraseIdx_le (zs.map V.str) j
      rw [List.length_map] at this
      omega
theorem erase_drs {K : PySem.W.Frag} {φ : List Addr} {H : Hp} : ∀ {xs : List D} {us : List V} {j : Nat}, DRs K φ H xs us → DRs K φ H (xs.eraseIdx j) (us.eraseIdx j)
  | [], us, j, q => by rw [q.nil_inv]; simp; exact .nil
  | x :: xs, us, 0, q => by
    obtain ⟨v, rs, rfl, q1, q2⟩ := q.cons_inv
    exact q2
  | x :: xs, us, j + 1, q => by
    obtain ⟨v, rs, rfl, q1, q2⟩ := q.cons_inv
    exact .cons q1 (erase_drs q2)
theorem mi_remove {K : PySem.W.Frag} {g : G} : MI K g rRemS mRemove := fun E φ S H d ds x vs Q r hd hv k => by
  by_cases h : ∃ n z, d = .ref n ∧ ds = [.str z]
  · obtain ⟨n, z, rfl, rfl⟩ := h
    obtain ⟨a, ha, rfl⟩ := ref_inv hd
    obtain ⟨v, rfl, dv⟩ := hv.one
    obtain rfl := str_inv dv
    simp only [mRemove] at k
    split at k
    · rename_i xs h1
      split at k
      · rename_i zs h2
        split at k
        · rename_i hm
          obtain ⟨us, e1, e2⟩ := r.lst h1 ha
          have e3 := strs_of h2 e2
          subst e3
          exact ⟨a, zs, z, rfl, rfl, e1, hm, k _ _ (r.put h1 ha (erase_drs e2)) _ dr_non⟩
        · exact k.elim
      · exact k.elim
    · exact k.elim
  · exfalso
    have hb : mRemove d ds S = .bad := by
      unfold mRemove
      split
      · exact absurd ⟨_, _, rfl, rfl⟩ h
      · rfl
    rw [hb] at k
    exact k
end J

set_option Elab.async false
set_option linter.all false
set_option maxRecDepth 100000
set_option maxHeartbeats 4000000
namespace J
open PySem PySem.Spec PyProof.Rows L2
/-! ### dicts by name as lists of pairs -/
def dK {α : Type} (f : α → D) (l : List (Str × α)) : List (Key × D) := l.map fun p => (Sum.inr p.1, f p.2)
def putS {α : Type} (l : List (Str × α)) (k : Str) (v : α) : List (Str × α) := if (l.any fun p => decide (p.1 = k)) = true then l.map (fun p => if p.1 = k then (p.1, v) else p) else l ++ [(k, v)]
section
variable {α : Type} {f : α → D} {l : List (Str × α)} {k : Str} {v : α}
theorem get_dK : ∀ {l : List (Str × α)}, getK (dK f l) (.inr k) = (l.lookup k).map f
  | [] => rfl
  | p :: l => by
    have e : dK f (p :: l) = (Sum.inr p.1, f p.2) :: dK f l := rfl
    rw [e, getK_cons, get_dK (l := l), List.lookup_cons]
    by_cases h : p.1 = k
    · rw [if_pos (by rw [h]), show (k == p.1) = true from by simp [h]]
      rfl
    · rw [if_neg (fun c => h (by injection c)), show (k == p.1) = false from by simpa using fun c => h c.symm]
theorem any_dK : (dK f l).any (fun kv => decide (kv.1 = .inr k)) = l.any fun p => decide (p.1 = k) := by
  unfold dK
  rw [List.any_map]
  congr 1
  funext p
  show decide ((Sum.inr p.1 : Key) = Sum.inr k) = decide (p.1 = k)
  simp
theorem put_dK : putK (dK f l) (.inr k) (f v) = dK f (putS l k v) := by
  unfold putK putS
  rw [any_dK]
  split
  · unfold dK
    rw [List.map_map, List.map_map]
    congr 1
    funext p
    show (if (Sum.inr p.1 : Key) = Sum.inr k then ((Sum.inr p.1 : Key), f v) else (Sum.inr p.1, f p.2)) = _
    by_cases h : p.1 = k
    · simp [h]
    · simp [h]
  · unfold dK
    rw [List.map_append]
    rfl
theorem look_map : ∀ {l : List (Str × α)} {k' : Str}, (l.map fun p => if p.1 = k then (p.1, v) else p).lookup k' = if k' = k then (if (l.any fun p => decide (p.1 = k)) = true then some v else none) else l.lookup k'
  | [], k' => by simp
  | p :: l, k' => by
    rw [List.map_cons, List.lookup_cons, List.lookup_cons, List.any_cons, look_map (l := l)]
    by_cases h : p.1 = k
    · simp only [h, if_true, decide_true, Bool.true_or]
      by_cases c : k' = k
      · simp [c]
      · rw [show (k' == k) = false from by simpa using c, if_neg c, if_neg c]
    · simp only [h, if_false, decide_false, Bool.false_or]
      by_cases c : k' = k
      · subst c
        rw [show (k' == p.1) = false from by simpa using fun e => h e.symm]
      · simp only [c, if_false]
theorem look_app : ∀ {l : List (Str × α)} {k' : Str}, (l.any fun p => decide (p.1 = k)) = false → (l ++ [(k, v)]).lookup k' = if k' = k then some v else l.lookup k'
  | [], k', _ => by
    rw [List.nil_append, List.lookup_cons]
    by_cases c : k' = k
    · simp [c]
    · rw [show (k' == k) = false from by simpa using c, if_neg c]
  | p :: l, k', h => by
    rw [List.any_cons, Bool.or_eq_false_iff] at h
    have h1 : ¬ p.1 = k := by simpa using h.1
    rw [List.cons_append, List.lookup_cons, List.lookup_cons, look_app h.2]
    by_cases c : k' = k
    · subst c
      rw [show (k' == p.1) = false from by simpa using fun e => h1 e.symm]
    · simp only [c, if_false]
theorem look_put {k' : Str} : (putS l k v).lookup k' = if k' = k then some v else l.lookup k' := by
  unfold putS
  split
  · rename_i h
    rw [look_map, if_pos h]
  · rename_i h
    exact look_app (Bool.eq_false_iff.mpr h)
theorem putS_len : (putS l k v).length ≤ l.length + 1 := by
  unfold putS
  split <;> simp
end
section
variable {α : Type} {f : α → D} {l : List (Str × α)} {k : Str} {v : α} {n : Nat} {S : Sto} {Q : D → Sto → Prop} {QU : Unit → Sto → Prop} {X : Str → Sto → Prop}
theorem wp_getS (e : dctOf S n = some (dK f l)) (h : l.lookup k = some v) (q : Q (f v) S) : wp (oIx (.ref n) (.str k) S) Q X := by
  have e2 : oIx (.ref n) (.str k) S = .ok (f v) S := by
    simp only [oIx, e, get_dK, h, Option.map_some]
  exact wp_eq e2 q
theorem wp_putS (e : dctOf S n = some (dK f l)) (hl : l.length < 900000) (q : QU () (setK S n (dK f (putS l k v)))) : wp (oPutK (.ref n) (.str k) (f v) S) QU X := by
  have e2 : oPutK (.ref n) (.str k) (f v) S = .ok () (setK S n (dK f (putS l k v))) := by
    have : (dK f l).length < LIM := by
      unfold dK
      rw [List.length_map]
      exact lim_of (by omega)
    simp only [oPutK, e, this, if_true, put_dK]
  exact wp_eq e2 q
theorem wp_inS (e : dctOf S n = some (dK f l)) (q : Q (.bl (l.lookup k).isSome) S) : wp (oInK (.str k) (.ref n) S) Q X := by
  have e2 : oInK (.str k) (.ref n) S = .ok (.bl (l.lookup k).isSome) S := by
    simp only [oInK, e, get_dK, Option.isSome_map]
  exact wp_eq e2 q
theorem wp_notInS (e : dctOf S n = some (dK f l)) (q : Q (.bl (!(l.lookup k).isSome)) S) : wp (oNotInK (.str k) (.ref n) S) Q X := by
  have e2 : oNotInK (.str k) (.ref n) S = .ok (.bl (!(l.lookup k).isSome)) S := by
    simp only [oNotInK, e, get_dK, Option.isSome_map]
  exact wp_eq e2 q
theorem wp_dict {kvs : List (Key × D)} (e : dctOf S n = some kvs) (q : Q (.ref S.length) (S ++ [.dct kvs])) : wp (bDict [.ref n] S) Q X := by
  have e2 : bDict [.ref n] S = .ok (.ref S.length) (S ++ [.dct kvs]) := by simp only [bDict, e]
  exact wp_eq e2 q
theorem wp_iDn {ρ : Env} (q : Q (.ref S.length) (S ++ [.dct []])) : wp (iDn ρ S) Q X := by
  have e2 : iDn ρ S = .ok (.ref S.length) (S ++ [.dct []]) := rfl
  exact wp_eq e2 q
instance i_wp_iDn {ρ : Env} : St (wp (iDn ρ S) Q X) (Q (.ref S.length) (S ++ [.dct []])) := ⟨fun h => wp_iDn h⟩
/-! texts in lists -/
theorem in_strs {x : Str} {o : List Str} : inD (.str x) (o.map D.str) = decide (x ∈ o) := by
  unfold inD
  rw [List.any_map, Bool.eq_iff_iff, List.any_eq_true, decide_eq_true_iff]
  constructor
  · rintro ⟨y, hy, e⟩
    have e : (y == x) = true := e
    rw [beq_iff_eq] at e
    subst e
    exact hy
  · intro h
    refine ⟨x, h, ?_⟩
    show (x == x) = true
    simp
theorem flat_strs {o : List Str} : (o.map D.str).all flatD = true := by
  rw [List.all_map, List.all_eq_true]
  intro _ _; rfl
theorem wp_inSs {x : Str} {o : List Str} (e : lstOf S n = some (o.map D.str)) (h : Q (.bl (decide (x ∈ o))) S) : wp (oIn (.str x) (.ref n) S) Q X := by
  refine wp_inL e ⟨rfl, flat_strs⟩ ?_
  rw [in_strs]
  exact h
theorem wp_notInSs {x : Str} {o : List Str} (e : lstOf S n = some (o.map D.str)) (h : Q (.bl (!decide (x ∈ o))) S) : wp (oNotIn (.str x) (.ref n) S) Q X := by
  have e2 : oNotIn (.str x) (.ref n) S = .ok (.bl (!inD (.str x) (o.map D.str))) S := by
    unfold oNotIn
    simp only [e]
    rw [if_pos ⟨rfl, flat_strs⟩]
  rw [in_strs] at e2
  exact wp_eq e2 h
theorem mapM_str : ∀ {zs : List Str}, (zs.map D.str).mapM asStr = some zs
  | [] => rfl
  | a :: r => by rw [List.map_cons, List.mapM_cons, mapM_str]; rfl
theorem erase_strs : ∀ {zs : List Str} {j : Nat}, (zs.map D.str).eraseIdx j = (zs.eraseIdx j).map D.str
  | [], j => by simp
  | a :: r, 0 => by simp
  | a :: r, j + 1 => by simp [erase_strs (zs := r)]
theorem wp_remove {x : Str} {o : List Str} (e : lstOf S n = some (o.map D.str)) (hm : x ∈ o) (h : Q .non (setL S n ((o.erase x).map D.str))) : wp (mRemove (.ref n) [.str x] S) Q X := by
  have e2 : mRemove (.ref n) [.str x] S = .ok .non (setL S n ((o.erase x).map D.str)) := by
    unfold mRemove
    simp only [e, mapM_str]
    rw [if_pos hm, erase_strs, List.erase_eq_eraseIdx_of_idxOf rfl]
  exact wp_eq e2 h
end
end J

set_option Elab.async false
set_option linter.all false
set_option maxRecDepth 100000
set_option maxHeartbeats 4000000
namespace J
open PySem PySem.Spec PyProof.Rows L2
/-! ### a chain of hands, as plain data -/
abbrev Leg := Str × Rat × Rat
abbrev Led := Rat × Rat × Rat
structure Chn where
  L : Int
  t : Rat
  row : List Str
  rates : List (Str × Int)
  away : List (Str × Bool)
  loads : List (Int × Rat)
  tales : List (List Leg)
  accts : List (Str × Led)
  gone : List Int
/-- where its parts lie -/
structure ChA where
  row : Nat
  rates : Nat
  away : Nat
  loads : Nat
  tales : Nat
  accts : Nat
  gone : Nat
  ts : List Nat
def loadD (p : Int × Rat) : D := .tup [.int p.1, aD p.2]
def taleD (p : Leg) : D := .tup [.str p.1, aD p.2.1, aD p.2.2]
def acctD (p : Led) : D := .tup [aD p.1, aD p.2.1, aD p.2.2]
/-- the lists apart, the dicts apart -/
structure Apt (A : ChA) : Prop where
  l1 : A.row ≠ A.loads
  l2 : A.row ≠ A.tales
  l3 : A.row ≠ A.gone
  l4 : A.loads ≠ A.tales
  l5 : A.loads ≠ A.gone
  l6 : A.tales ≠ A.gone
  t : ∀ r ∈ A.ts, r ≠ A.row ∧ r ≠ A.loads ∧ r ≠ A.tales ∧ r ≠ A.gone
  nd : A.ts.Nodup
  d1 : A.rates ≠ A.away
  d2 : A.rates ≠ A.accts
  d3 : A.away ≠ A.accts
def foot (n : Nat) (A : ChA) : List Nat := n :: A.row :: A.rates :: A.away :: A.loads :: A.tales :: A.accts :: A.gone :: A.ts
def mkc (L : Int) (t : Rat) (row : Nat) (rates away loads tales accts gone : Nat) : List D := [.int L, aD t, .ref row, .ref rates, .ref away, .ref loads, .ref tales, .ref accts, .ref gone]
theorem dctOf_setK_ne {S : Sto} {n m : Nat} {kvs : List (Key × D)} (h : n ≠ m) : dctOf (setK S n kvs) m = dctOf S m := by simp [dctOf, setK, List.getElem?_set, h]
/-- the parts in the store -/
structure Parts (A : ChA) (S : Sto) (c : Chn) : Prop where
  row : lstOf S A.row = some (c.row.map D.str)
  rates : dctOf S A.rates = some (dK D.int c.rates)
  away : dctOf S A.away = some (dK D.bl c.away)
  loads : lstOf S A.loads = some (c.loads.map loadD)
  tales : lstOf S A.tales = some (A.ts.map D.ref)
  accts : dctOf S A.accts = some (dK acctD c.accts)
  gone : lstOf S A.gone = some (c.gone.map D.int)
  tl : A.ts.length = c.tales.length
  ta : ∀ (i r : Nat) (x : List Leg), A.ts[i]? = some r → c.tales[i]? = some x → lstOf S r = some (x.map taleD)
  apt : Apt A
namespace Parts
variable {A : ChA} {S S' T : Sto} {c : Chn}
theorem kp {ns : List Nat} (h : Parts A S c) (k : Kp ns S S') (n : Nat) (hn : ∀ i ∈ foot n A, i ∉ ns) : Parts A S' c := by
  unfold foot at hn
  simp only [List.mem_cons, forall_eq_or_imp] at hn
  obtain ⟨_, h1, h2, h3, h4, h5, h6, h7, h8⟩ := hn
  exact ⟨k.lst h1 h.row, k.dct h2 h.rates, k.dct h3 h.away, k.lst h4 h.loads, k.lst h5 h.tales, k.dct h6 h.accts, k.lst h7 h.gone, h.tl, fun i r x e1 e2 => k.lst (h8 r (List.mem_of_getElem? e1)) (h.ta i r x e1 e2), h.apt⟩
theorem old (h : Parts A S c) : Parts A (S ++ T) c := h.kp (ns := []) .add 0 (by simp)
theorem setI {n : Nat} {C : Str} {fs : List (Str × D)} {p : Str × List (Str × D)} (h : Parts A S c) (e : insOf S n = some p) : Parts A (J.setI S n C fs) c :=
  ⟨lstOf_setI e h.row, dctOf_setI e h.rates, dctOf_setI e h.away, lstOf_setI e h.loads, lstOf_setI e h.tales, dctOf_setI e h.accts, lstOf_setI e h.gone, h.tl, fun i r x e1 e2 => lstOf_setI e (h.ta i r x e1 e2), h.apt⟩
theorem setRow {xs : List Str} (h : Parts A S c) : Parts A (setL S A.row (xs.map D.str)) { c with row := xs } := by
  have a := h.apt
  refine ⟨lstOf_set (lstOf_lt h.row), dctOf_setL h.row h.rates, dctOf_setL h.row h.away, ?_, ?_, dctOf_setL h.row h.accts, ?_, h.tl, fun i r x e1 e2 => ?_, h.apt⟩
  · rw [lstOf_set_ne a.l1]; exact h.loads
  · rw [lstOf_set_ne a.l2]; exact h.tales
  · rw [lstOf_set_ne a.l3]; exact h.gone
  · rw [lstOf_set_ne (fun e => (a.t r (List.mem_of_getElem? e1)).1 e.symm)]; exact h.ta i r x e1 e2
theorem setLoads {xs : List (Int × Rat)} (h : Parts A S c) : Parts A (setL S A.loads (xs.map loadD)) { c with loads := xs } := by
  have a := h.apt
  refine ⟨?_, dctOf_setL h.loads h.rates, dctOf_setL h.loads h.away, lstOf_set (lstOf_lt h.loads), ?_, dctOf_setL h.loads h.accts, ?_, h.tl, fun i r x e1 e2 => ?_, h.apt⟩
  · rw [lstOf_set_ne (fun e => a.l1 e.symm)]; exact h.row
  · rw [lstOf_set_ne a.l4]; exact h.tales
  · rw [lstOf_set_ne a.l5]; exact h.gone
  · rw [lstOf_set_ne (fun e => (a.t r (List.mem_of_getElem? e1)).2.1 e.symm)]; exact h.ta i r x e1 e2
theorem setGone {xs : List Int} (h : Parts A S c) : Parts A (setL S A.gone (xs.map D.int)) { c with gone := xs } := by
  have a := h.apt
  refine ⟨?_, dctOf_setL h.gone h.rates, dctOf_setL h.gone h.away, ?_, ?_, dctOf_setL h.gone h.accts, lstOf_set (lstOf_lt h.gone), h.tl, fun i r x e1 e2 => ?_, h.apt⟩
  · rw [lstOf_set_ne (fun e => a.l3 e.symm)]; exact h.row
  · rw [lstOf_set_ne (fun e => a.l5 e.symm)]; exact h.loads
  · rw [lstOf_set_ne (fun e => a.l6 e.symm)]; exact h.tales
  · rw [lstOf_set_ne (fun e => (a.t r (List.mem_of_getElem? e1)).2.2.2 e.symm)]; exact h.ta i r x e1 e2
/-- a tale more, new in the store -/
theorem newTale (h : Parts A S c) : Parts { A with ts := A.ts ++ [S.length] } (setL (S ++ [.lst []]) A.tales (A.ts.map D.ref ++ [.ref S.length])) { c with tales := c.tales ++ [[]] } := by
  have a := h.apt
  have o := h.old (T := [.lst []])
  have hlt : ∀ r ∈ A.ts, r < S.length := fun r hr => by
    obtain ⟨i, hi⟩ := List.getElem?_of_mem hr
    obtain ⟨x, hx⟩ := at_lt (xs := c.tales) (k := i) (by rw [← h.tl]; exact (List.getElem?_eq_some_iff.mp hi).1)
    exact lstOf_lt (h.ta i r x hi hx)
  have h1 := lstOf_lt h.row
  have h2 := lstOf_lt h.loads
  have h3 := lstOf_lt h.tales
  have h4 := lstOf_lt h.gone
  refine ⟨?_, dctOf_setL o.tales o.rates, dctOf_setL o.tales o.away, ?_, ?_, dctOf_setL o.tales o.accts, ?_, ?_, fun i r x e1 e2 => ?_, ⟨a.l1, a.l2, a.l3, a.l4, a.l5, a.l6, fun r hr => ?_, ?_, a.d1, a.d2, a.d3⟩⟩
  · rw [lstOf_set_ne (fun e => a.l2 e.symm)]; exact o.row
  · rw [lstOf_set_ne (fun e => a.l4 e.symm)]; exact o.loads
  · rw [List.map_append]; exact lstOf_set (lstOf_lt o.tales)
  · rw [lstOf_set_ne a.l6]; exact o.gone
  · simp [h.tl]
  · have e1 : (A.ts ++ [S.length])[i]? = some r := e1
    have e2 : (c.tales ++ [[]])[i]? = some x := e2
    by_cases q : i < A.ts.length
    · rw [List.getElem?_append_left q] at e1
      rw [List.getElem?_append_left (by rw [← h.tl]; exact q)] at e2
      show lstOf (setL _ A.tales _) r = _
      rw [lstOf_set_ne (fun e => (a.t r (List.mem_of_getElem? e1)).2.2.1 e.symm)]
      exact o.ta i r x e1 e2
    · have := (List.getElem?_eq_some_iff.mp e1).1
      simp at this
      have e3 : i = A.ts.length := by omega
      subst e3
      rw [List.getElem?_append_right (Nat.le_refl _), Nat.sub_self] at e1
      rw [h.tl, List.getElem?_append_right (Nat.le_refl _), Nat.sub_self] at e2
      cases e1; cases e2
      show lstOf (setL _ A.tales _) S.length = _
      rw [lstOf_set_ne (by omega)]
      exact lstOf_new
  · rcases List.mem_append.mp hr with hr | hr
    · exact a.t r hr
    · rw [List.mem_singleton] at hr
      subst hr
      exact ⟨Nat.ne_of_gt h1, Nat.ne_of_gt h2, Nat.ne_of_gt h3, Nat.ne_of_gt h4⟩
  · show (A.ts ++ [S.length]).Nodup
    rw [List.nodup_append]
    exact ⟨a.nd, by simp, fun x hx y hy => by
      rw [List.mem_singleton] at hy
      have := hlt x hx
      omega⟩
/-- one tale written on -/
theorem setTale {i r : Nat} {ys : List Leg} (h : Parts A S c) (hr : A.ts[i]? = some r) : Parts A (setL S r (ys.map taleD)) { c with tales := c.tales.set i ys } := by
  have a := h.apt
  obtain ⟨n1, n2, n3, n4⟩ := a.t r (List.mem_of_getElem? hr)
  have hi := (List.getElem?_eq_some_iff.mp hr).1
  obtain ⟨x0, hx0⟩ := at_lt (xs := c.tales) (k := i) (by rw [← h.tl]; exact hi)
  have e0 := h.ta i r x0 hr hx0
  refine ⟨?_, dctOf_setL e0 h.rates, dctOf_setL e0 h.away, ?_, ?_, dctOf_setL e0 h.accts, ?_, ?_, fun j r' x e1 e2 => ?_, h.apt⟩
  · rw [lstOf_set_ne n1]; exact h.row
  · rw [lstOf_set_ne n2]; exact h.loads
  · rw [lstOf_set_ne n3]; exact h.tales
  · rw [lstOf_set_ne n4]; exact h.gone
  · show A.ts.length = (c.tales.set i ys).length
    rw [List.length_set]; exact h.tl
  · have e2 : (c.tales.set i ys)[j]? = some x := e2
    by_cases q : j = i
    · subst q
      rw [hr] at e1
      cases e1
      rw [List.getElem?_set_self (by rw [← h.tl]; exact hi)] at e2
      cases e2
      exact lstOf_set (lstOf_lt e0)
    · rw [List.getElem?_set_ne (fun e => q e.symm)] at e2
      rw [lstOf_set_ne]
      · exact h.ta j r' x e1 e2
      · rintro rfl
        exact q (nd_inj a.nd e1 hr)
theorem setRates {xs : List (Str × Int)} (h : Parts A S c) : Parts A (setK S A.rates (dK D.int xs)) { c with rates := xs } := by
  have a := h.apt
  refine ⟨lstOf_setK h.rates h.row, dctOf_here h.rates, ?_, lstOf_setK h.rates h.loads, lstOf_setK h.rates h.tales, ?_, lstOf_setK h.rates h.gone, h.tl, fun i r x e1 e2 => lstOf_setK h.rates (h.ta i r x e1 e2), h.apt⟩
  · rw [dctOf_setK_ne a.d1]; exact h.away
  · rw [dctOf_setK_ne a.d2]; exact h.accts
theorem setAway {xs : List (Str × Bool)} (h : Parts A S c) : Parts A (setK S A.away (dK D.bl xs)) { c with away := xs } := by
  have a := h.apt
  refine ⟨lstOf_setK h.away h.row, ?_, dctOf_here h.away, lstOf_setK h.away h.loads, lstOf_setK h.away h.tales, ?_, lstOf_setK h.away h.gone, h.tl, fun i r x e1 e2 => lstOf_setK h.away (h.ta i r x e1 e2), h.apt⟩
  · rw [dctOf_setK_ne (fun e => a.d1 e.symm)]; exact h.rates
  · rw [dctOf_setK_ne a.d3]; exact h.accts
theorem setAccts {xs : List (Str × Led)} (h : Parts A S c) : Parts A (setK S A.accts (dK acctD xs)) { c with accts := xs } := by
  have a := h.apt
  refine ⟨lstOf_setK h.accts h.row, ?_, ?_, lstOf_setK h.accts h.loads, lstOf_setK h.accts h.tales, dctOf_here h.accts, lstOf_setK h.accts h.gone, h.tl, fun i r x e1 e2 => lstOf_setK h.accts (h.ta i r x e1 e2), h.apt⟩
  · rw [dctOf_setK_ne (fun e => a.d2 e.symm)]; exact h.rates
  · rw [dctOf_setK_ne (fun e => a.d3 e.symm)]; exact h.away
theorem setT {t : Rat} (h : Parts A S c) : Parts A S { c with t := t } := ⟨h.row, h.rates, h.away, h.loads, h.tales, h.accts, h.gone, h.tl, h.ta, h.apt⟩
end Parts
end J

set_option Elab.async false
set_option linter.all false
set_option maxRecDepth 100000
set_option maxHeartbeats 4000000
namespace J
open PySem PySem.Spec PyProof.Rows L2
/-! ### names -/
def chS (c : Nat) : Str := ⟨#[c]⟩
def lets : Str := "abcdefghijklmnopqrstuvwxyz"
def NameOk (x : Str) : Prop := (1 ≤ x.length ∧ x.length ≤ 8) ∧ ∀ c ∈ x.cps.toList, c ∈ lets.cps.toList
section
variable {QS : Src → Sto → Prop} {Q : D → Sto → Prop} {X : Str → Sto → Prop} {S : Sto}
theorem seqS_str {x : Str} (h : QS ⟨x.cps.toList.map fun c => .str ⟨#[c]⟩, fun _ => True⟩ S) : seqS QS (.str x) S := h
instance i_seqS_str {x : Str} : St (seqS QS (.str x) S) (QS ⟨x.cps.toList.map fun c => .str ⟨#[c]⟩, fun _ => True⟩ S) := ⟨fun h => seqS_str h⟩
theorem wp_inCh {c : Nat} {z : Str} (h : Q (.bl (decide (c ∈ z.cps.toList))) S) : wp (oIn (.str ⟨#[c]⟩) (.str z) S) Q X := by
  have e : oIn (.str ⟨#[c]⟩) (.str z) S = .ok (.bl (decide (c ∈ z.cps.toList))) S := by
    show (if (#[c] : Array Nat).size = 1 then R.ok (D.bl (decide ((#[c] : Array Nat).getD 0 0 ∈ z.cps.toList))) S else .bad) = _
    exact if_pos (show (#[c] : Array Nat).size = 1 from rfl)
  exact wp_eq e h
instance i_wp_inCh {c : Nat} {z : Str} : St (wp (oIn (.str ⟨#[c]⟩) (.str z) S) Q X) (Q (.bl (decide (c ∈ z.cps.toList))) S) := ⟨fun h => wp_inCh h⟩
theorem str_len {x : Str} : x.length = x.cps.toList.length := by
  show x.cps.size = _
  rw [Array.length_toList]
end
end J

set_option Elab.async false
set_option linter.all false
set_option maxRecDepth 100000
set_option maxHeartbeats 4000000
namespace J
open PySem PySem.Spec PyProof.Rows L2
/-! ### a dict while a loop walks it: locked -/
def fzOf (S : Sto) (n : Nat) : Option (List (Key × D)) := match S[n]? with
  | some (.fzd kvs) => some kvs
  | _ => none
theorem fzOf_some {S : Sto} {n : Nat} {kvs : List (Key × D)} (h : fzOf S n = some kvs) : S[n]? = some (.fzd kvs) := by
  unfold fzOf at h
  split at h
  · rename_i ys hy
    cases h
    exact hy
  · cases h
def setZ (S : Sto) (n : Nat) (kvs : List (Key × D)) : Sto := S.set n (.fzd kvs)
def keyU : Key → D
  | .inl i => .int i
  | .inr x => .str x
def sqKeys (fa : IE) : IW := fun ρ S => (fa ρ S).bind fun d S1 => match d with
  | .ref n => match fzOf S1 n with
    | some kvs => .ok ⟨kvs.map fun p => keyU p.1, fun S => fzOf S n = some kvs⟩ S1
    | none => .bad
  | _ => .bad
def unlk (n : Nat) (kvs : List (Key × D)) : R Fl → R Fl
  | .ok o S' => .ok o (S'.set n (.dct kvs))
  | _ => .bad
def sLock (fa : IE) (f : IS) : IS := fun ρ S => match fa ρ S with
  | .ok (.ref n) _ => match dctOf S n with
    | some kvs => unlk n kvs (f ρ (setZ S n kvs))
    | none => .bad
  | _ => .bad
/-- a value of a dict, locked or not -/
def oIxZ : D → D → Sto → R D
  | .ref n, .str x, S => match fzOf S n with
    | some kvs => match getK kvs (.inr x) with
      | some d => .ok d S
      | none => .bad
    | none => match dctOf S n with
      | some kvs => match getK kvs (.inr x) with
        | some d => .ok d S
        | none => .bad
      | none => .bad
  | _, _, _ => .bad
/-- d.get(k, x) -/
def oGet2 : D → D → D → Sto → R D
  | .ref n, .str x, z, S => match dctOf S n with
    | some kvs => .ok ((getK kvs (.inr x)).getD z) S
    | none => .bad
  | _, _, _, _ => .bad
def iGet2 (fo fe ff : IE) : IE := fun ρ S => (fo ρ S).bind fun o S1 => match o with
  | .ref n => match dctOf S1 n with
    | some _ => (fe ρ S1).bind fun y S2 => (ff ρ S2).bind fun z S3 => oGet2 (.ref n) y z S3
    | none => .bad
  | _ => .bad
section
variable {K : PySem.W.Frag} {g : G} {E : XK} {φ : List Addr} {S : Sto} {H H' : Hp}
theorem Rep.fz (r : Rep K g φ S H) {n : Nat} {a : Addr} {xs : List (Key × D)} (h : fzOf S n = some xs) (ha : φ[n]? = some a) : ∃ o ws, H a = some (.frz o (.dK ws)) ∧ Paired (KeyR K φ H) xs ws := r.cellAt (fzOf_some h) ha
theorem dr_key {k : Key} : DR K φ H (keyU k) (kV k) := by
  cases k with
  | inl i => simp only [keyU, DR]; rfl
  | inr x => simp only [keyU, DR]; rfl
/-- all but what stands at a stays, and that is no list or tuple -/
structure Un (H H' : Hp) (a : Addr) : Prop where
  fz : ∃ od ws, H a = some (.frz od (.dK ws))
  ne : ∀ b, b ≠ a → H' b = H b
theorem Un.sqp {a : Addr} (u : Un H H' a) {b : Addr} {xs : List V} (h : SqP K H b xs) : SqP K H' b xs := by
  rcases h with ⟨o, h⟩ | h
  · refine .inl ⟨o, ?_⟩
    rw [u.ne]
    · exact h
    · rintro rfl
      obtain ⟨od, ws, e⟩ := u.fz
      rw [e] at h
      cases h
  · exact .inr h
theorem Un.sqt {a : Addr} (u : Un H H' a) {b : Addr} {xs : List V} (h : SqT K H b xs) : SqT K H' b xs := by
  obtain ⟨od, ws, e⟩ := u.fz
  rcases h with (h | ⟨o, h⟩) | h
  · refine .inl (.inl ?_)
    rw [u.ne]
    · exact h
    · rintro rfl
      rw [e] at h
      cases h
  · refine .inl (.inr ⟨o, ?_⟩)
    rw [u.ne]
    · exact h
    · rintro rfl
      rw [e] at h
      cases h
  · exact .inr h
mutual
theorem DR.un {a : Addr} (u : Un H H' a) : ∀ {d : D} {v : V}, DR K φ H d v → DR K φ H' d v
  | .non, _, r => by simpa only [DR] using r
  | .bl _, _, r => by simpa only [DR] using r
  | .int _, _, r => by simpa only [DR] using r
  | .str _, _, r => by simpa only [DR] using r
  | .ty _, _, r => by simpa only [DR] using r
  | .rl _, _, r => by
    simp only [DR] at r ⊢
    obtain ⟨b, e, q⟩ := r
    exact ⟨b, e, u.sqp q⟩
  | .ref _, _, r => by simpa only [DR] using r
  | .tup _, _, r => by
    simp only [DR] at r ⊢
    obtain ⟨b, vs, e, s, q⟩ := r
    exact ⟨b, vs, e, u.sqt s, DRs.un u q⟩
theorem DRs.un {a : Addr} (u : Un H H' a) : ∀ {ds : List D} {vs : List V}, DRs K φ H ds vs → DRs K φ H' ds vs
  | [], _, r => by simpa only [DRs] using r
  | _ :: _, _, r => by
    simp only [DRs] at r ⊢
    obtain ⟨v, rs, e, q1, q2⟩ := r
    exact ⟨v, rs, e, DR.un u q1, DRs.un u q2⟩
end
theorem ER.un {a : Addr} (u : Un H H' a) {ρ : List (Option D)} {σ : L2.St} (r : ER K φ H ρ σ) : ER K φ H' ρ σ := ⟨r.1, fun i d e => by
  obtain ⟨v, h1, h2⟩ := r.2 i d e
  exact ⟨v, h1, h2.un u⟩⟩
theorem CellR.un {a b : Addr} {c : Cell} (u : Un H H' a) (hb : b ≠ a) (r : CellR K g φ H b c) : CellR K g φ H' b c := by
  cases c with
  | lst ds =>
    obtain ⟨vs, h1, h2⟩ := r
    exact ⟨vs, by rw [u.ne b hb]; exact h1, h2.un u⟩
  | dct kvs =>
    obtain ⟨vs, h1, h2⟩ := r
    exact ⟨vs, by rw [u.ne b hb]; exact h1, PySem.Paired.mono (fun _ _ q => ⟨q.1, q.2.un u⟩) h2⟩
  | ins c fs =>
    obtain ⟨dx, vs, h1, h2⟩ := r
    exact ⟨dx, vs, by rw [u.ne b hb]; exact h1, PySem.Paired.mono (fun _ _ q => ⟨q.1, q.2.un u⟩) h2⟩
  | fzd kvs =>
    obtain ⟨o, vs, h1, h2⟩ := r
    exact ⟨o, vs, by rw [u.ne b hb]; exact h1, PySem.Paired.mono (fun _ _ q => ⟨q.1, q.2.un u⟩) h2⟩
theorem tabs_un {T : List (Addr × Str)} {a : Addr} (u : Un H H' a) (t : LamX.Tabs T H) : LamX.Tabs T H' := fun q hq => by
  obtain ⟨od, ws, e0⟩ := u.fz
  obtain ⟨ps, h1, h2, h3⟩ := t q hq
  refine ⟨ps, ?_, h2, fun pos cv hc => ?_⟩
  · rw [u.ne]
    · exact h1
    · intro e
      rw [e, e0] at h1
      cases h1
  · obtain ⟨c, e1, e2⟩ := h3 pos cv hc
    refine ⟨c, e1, ?_⟩
    rw [u.ne]
    · exact e2
    · intro e
      rw [e, e0] at e2
      cases e2
/-- back from the lock -/
theorem Nx.unlock {φ' : List Addr} {S' : Sto} {n : Nat} {a : Addr} {od : Obj} {kvs : List (Key × D)} {ws : List (Key × V)} (ha : φ[n]? = some a) (e1 : H a = some (.dK ws)) (e2 : Paired (KeyR K φ H) kvs ws) (n1 : Nx K g φ (upd H a (.frz od (.dK ws))) S' φ' H') :
    H' a = some (.frz od (.dK ws)) ∧ Un H' (upd H' a (.dK ws)) a ∧ Nx K g φ H (S'.set n (.dct kvs)) φ' (upd H' a (.dK ws)) := by
  have hw : Wr (H a) := by rw [e1]; trivial
  have t0 : TK K H (upd H a (.frz od (.dK ws))) := .upd hw
  have f1 : H' a = some (.frz od (.dK ws)) := n1.tk.f _ _ _ upd_same
  have u : Un H' (upd H' a (.dK ws)) a := ⟨⟨_, _, f1⟩, fun b hb => upd_ne hb⟩
  have ha' : φ'[n]? = some a := ix_mono n1.pre ha
  have hn : n < S'.length := by rw [← n1.rep.len]; exact (List.getElem?_eq_some_iff.mp ha').1
  refine ⟨f1, u, n1.pre, ⟨by simp [n1.rep.len], fun i b c h1 h2 => ?_, n1.rep.nd, tabs_un u n1.rep.tabs⟩, ⟨fun b xs q => u.sqt (n1.tk.t _ _ (t0.t _ _ q)), fun b o v q => ?_⟩, fun b xs h m => ?_⟩
  · by_cases hi : n = i
    · subst hi
      rw [ha'] at h1
      cases h1
      rw [List.getElem?_set_self hn] at h2
      cases h2
      exact ⟨ws, upd_same, PySem.Paired.mono (fun _ _ q => ⟨q.1, ((q.2.mono (List.prefix_refl _) t0).mono n1.pre n1.tk).un u⟩) e2⟩
    · rw [List.getElem?_set_ne hi] at h2
      have hb : b ≠ a := by
        rintro rfl
        obtain ⟨i1, q1⟩ := List.getElem?_eq_some_iff.mp h1
        obtain ⟨i2, q2⟩ := List.getElem?_eq_some_iff.mp ha'
        exact hi ((List.getElem_inj n1.rep.nd).mp (q2.trans q1.symm))
      exact (n1.rep.at_ i b c h1 h2).un u hb
  · have hb : b ≠ a := by
      rintro rfl
      rw [e1] at q
      cases q
    rw [upd_ne hb]
    exact n1.tk.f _ _ _ (by rw [upd_ne hb]; exact q)
  · have hb : b ≠ a := by
      rintro rfl
      rw [e1] at h
      cases h
    obtain ⟨h3, h4⟩ := n1.fr b xs (by rw [upd_ne hb]; exact h) m
    exact ⟨by rw [upd_ne hb]; exact h3, h4⟩
end
section
variable {X : Cx} {g : G} {E : XK} {pos : Pos} {tg : Expr}
theorem ri_keys {e : Expr} {fa : IE} (ha : RE X g E e fa) : RI X g E tg e (sqKeys fa) :=
  PI.imp (pi_keys ha) fun σ H Rr ⟨φ, ρ, S, er, rp, k⟩ => ⟨φ, ρ, S, er, rp, k.bind.mono fun d S1 φ1 H1 _ _ ⟨r1, n1, k1⟩ v dv => by
    cases d with
    | ref n =>
      obtain ⟨a, ha, rfl⟩ := ref_inv dv
      dsimp only at k1
      split at k1
      · rename_i kvs h1
        obtain ⟨o, ws, q1, q2⟩ := r1.fz h1 ha
        have hl : kvs.length = ws.length := PySem.Paired.length q2
        refine ⟨a, o, rfl, .inl ⟨ws, q1, k1 φ1 H1 (.refl r1) _ ⟨fun i H hi ⟨φ', S', p, t, r', gd⟩ => ⟨t.f _ _ _ q1, ?_⟩, fun H ⟨φ', S', p, t, r', gd⟩ => ⟨t.f _ _ _ q1, ?_⟩, fun i H x H' hi ⟨φ', S', p, t, r', gd⟩ y => ⟨.inl y.1, fun φ2 S2 p2 t2 r2 gd2 => ?_⟩⟩⟩⟩
        · rw [List.length_map] at hi
          omega
        · rw [List.length_map]
          omega
        · obtain ⟨k, w, hk, rfl⟩ := y.2
          rw [List.length_map] at hi
          refine ⟨keyU kvs[i].1, by rw [List.getElem?_map, List.getElem?_eq_getElem hi]; rfl, ?_⟩
          obtain ⟨z, h3, h4⟩ := paired_get q2 (List.getElem?_eq_getElem hi)
          rw [hk] at h3
          cases h3
          rw [h4.1]
          exact dr_key
      · exact k1.elim
    | _ => exact k1.elim⟩
theorem rs_lock {st : Stmt} {fa : IE} {f : IS} (h : RS X g E st f) : RS X g E st (sLock fa f) :=
  PS.imp (ps_lock h) fun Dn σ H ⟨φ, ρ, S, er, rp, k⟩ => by
    unfold sLock at k
    split at k
    · rename_i n S1 hfa
      split at k
      · rename_i kvs h1
        have hS := dctOf_some h1
        obtain ⟨a, ha, hc⟩ := rp.cell hS
        obtain ⟨ws, e1, e2⟩ := hc
        have hw : Wr (H a) := by rw [e1]; trivial
        refine ⟨a, .dK ws, e1, trivial, fun od => ?_⟩
        have n0 : Nx X.K g φ H (setZ S n kvs) φ (upd H a (.frz od (.dK ws))) := rp.write hw ha (List.getElem?_eq_some_iff.mp hS).1 ⟨od, ws, upd_same, PySem.Paired.mono (fun _ _ q => ⟨q.1, q.2.mono (List.prefix_refl _) (.upd hw)⟩) e2⟩
        refine ⟨φ, ρ, setZ S n kvs, n0.er er, n0.rep, ?_⟩
        cases hf : f ρ (setZ S n kvs) with
        | bad => rw [hf] at k; exact k
        | exc c S' => rw [hf] at k; exact k.elim
        | ok o S' =>
          rw [hf] at k
          intro φ' H' n1
          obtain ⟨f1, u, n2⟩ := n1.unlock ha e1 e2
          have fl := k φ' _ n2
          cases o with
          | next ρ1 => exact fun σ' er' => ⟨f1, fl σ' (er'.un u)⟩
          | ret d => exact fun v dv => ⟨f1, fl v (dv.un u)⟩
          | brk ρ1 => exact fun σ' er' => ⟨f1, fl σ' (er'.un u)⟩
          | cont ρ1 => exact fun σ' er' => ⟨f1, fl σ' (er'.un u)⟩
      · exact k.elim
    · exact k.elim
theorem re_ixZ {a b : Expr} {fa fb : IE} (hu : X.A.units + 1 < cLine) (ha : RE X g E a fa) (hb : RE X g E b fb) (hs2 : NoSl b := by exact fun _ _ => rfl) : RE X g E (.Subscript a b pos) (iBin oIxZ fa fb) :=
  PE.imp (pe_dget (hu := hu) (hs := hs2) ha hb) fun σ H Q ⟨φ, ρ, S, er, rp, k⟩ => ⟨φ, ρ, S, er, rp, k.bind.mono fun d S1 φ1 H1 e1 _ ⟨r1, n1, k1⟩ v dv => ⟨φ1, ρ, S1, n1.er er, r1, k1.bind.mono fun e S2 φ2 H2 e2 _ ⟨r2, n2, k2⟩ w dw => by
    cases d with
    | ref n =>
      cases e with
      | str z =>
        obtain ⟨a, ha, rfl⟩ := ref_inv (n2.dr dv)
        obtain rfl := str_inv dw
        simp only [oIxZ] at k2
        split at k2
        · rename_i kvs h1
          obtain ⟨o, ws, e3, e4⟩ := r2.fz h1 ha
          split at k2
          · rename_i d h2
            obtain ⟨v, h3, h4⟩ := keyR_find e4 h2
            exact ⟨a, v, rfl, .inl ⟨ws, .inr z, .inr ⟨o, e3⟩, rfl, h3.symm⟩, k2.here r2 _ h4⟩
          · exact k2.elim
        · split at k2
          · rename_i kvs h1
            obtain ⟨ws, e3, e4⟩ := r2.dct h1 ha
            split at k2
            · rename_i d h2
              obtain ⟨v, h3, h4⟩ := keyR_find e4 h2
              exact ⟨a, v, rfl, .inl ⟨ws, .inr z, .inl e3, rfl, h3.symm⟩, k2.here r2 _ h4⟩
            · exact k2.elim
          · exact k2.elim
      | _ => exact k2.elim
    | _ => cases e <;> exact k2.elim⟩⟩
theorem re_get2 {o e f : Expr} {apos cpos : Pos} {fo fe ff : IE} (hu : X.A.units + 1 < cLine) (ho : RE X g E o fo) (he : RE X g E e fe) (hf : RE X g E f ff) (hbase : attributeBase o "get" X.env (eval o X.env) = eval o X.env := by rfl)
    (hfew : ((backTo cpos (starEach [e, f] X.env)).all (fun x => !x.1) && (backToKw cpos (keywordEach [] X.env)).all (fun x => x.1.isSome)
      && decide (([e, f] : List Expr).length + ([] : List Keyword).length + (if ([] : List Keyword).isEmpty then 0 else 1) < 30)) = true := by rfl) (hline : (apos.endLine == cpos.line) = true := by rfl)
    (ht : backTo cpos (starEach [e, f] X.env) = [(false, eval e X.env), (false, eval f X.env)] := by rfl) : RE X g E (.Call (.Attribute o "get" apos) [e, f] [] cpos) (iGet2 fo fe ff) :=
  PE.imp (pe_dget2 hu ho he hf ⟨hbase, hfew, hline, ht⟩) fun σ H Q ⟨φ, ρ, S, er, rp, k⟩ => ⟨φ, ρ, S, er, rp, k.bind.mono fun d S1 φ1 H1 _ _ ⟨r1, n1, k1⟩ v dv => by
    cases d with
    | ref n =>
      obtain ⟨a, ha, rfl⟩ := ref_inv dv
      dsimp only at k1
      split at k1
      · rename_i kvs h1
        obtain ⟨ws, q1, q2⟩ := r1.dct h1 ha
        refine ⟨a, rfl, .inl ⟨ws, .inl q1⟩, φ1, ρ, S1, n1.er er, r1, k1.bind.mono fun y S2 φ2 H2 _ _ ⟨r2, n2, k2⟩ w dw => ⟨φ2, ρ, S2, n2.er (n1.er er), r2, k2.bind.mono fun z S3 φ3 H3 _ _ ⟨r3, n3, k3⟩ u du => ?_⟩⟩
        have ha3 := ix_mono n3.pre (ix_mono n2.pre ha)
        cases y with
        | str x =>
          obtain rfl := str_inv (n3.dr dw)
          simp only [oGet2] at k3
          split at k3
          · rename_i kvs' h3
            obtain ⟨ws', e3, e4⟩ := r3.dct h3 ha3
            refine ⟨_, .inl ⟨ws', .inr x, .inl e3, rfl, rfl⟩, ?_⟩
            cases hg : getK kvs' (.inr x) with
            | none =>
              rw [hg] at k3
              rw [keyR_none e4 hg]
              exact k3.here r3 _ du
            | some d =>
              rw [hg] at k3
              obtain ⟨v, h5, h6⟩ := keyR_find e4 hg
              rw [h5]
              exact k3.here r3 _ h6
          · exact k3.elim
        | _ => exact k3.elim
      · exact k1.elim
    | _ => exact k1.elim⟩
end
end J

set_option Elab.async false
set_option linter.all false
set_option maxRecDepth 100000
set_option maxHeartbeats 4000000
namespace J
open PySem PySem.Spec PyProof.Rows L2
/-! ### steps under a lock -/
def isRef (Q : Nat → Prop) : D → Prop
  | .ref n => Q n
  | _ => False
section
variable {S : Sto} {n m : Nat} {kvs kvs' : List (Key × D)}
theorem fz_here (h : n < S.length) : fzOf (setZ S n kvs) n = some kvs := by simp [fzOf, setZ, h]
theorem fz_ne (h : n ≠ m) : fzOf (setZ S n kvs) m = fzOf S m := by simp [fzOf, setZ, List.getElem?_set, h]
theorem setZ_len : (setZ S n kvs).length = S.length := by simp [setZ]
theorem setZ_lst {xs : List D} (e : dctOf S n = some kvs) (h : lstOf S m = some xs) : lstOf (setZ S n kvs') m = some xs := by
  have hne : n ≠ m := by
    rintro rfl
    have h1 := dctOf_some e
    unfold lstOf at h
    rw [h1] at h
    cases h
  unfold lstOf setZ
  rw [List.getElem?_set_ne hne]
  exact h
theorem setZ_ins {p : Str × List (Str × D)} (e : dctOf S n = some kvs) (h : insOf S m = some p) : insOf (setZ S n kvs') m = some p := by
  have hne : n ≠ m := by
    rintro rfl
    have h1 := dctOf_some e
    unfold insOf at h
    rw [h1] at h
    cases h
  unfold insOf setZ
  rw [List.getElem?_set_ne hne]
  exact h
theorem setZ_dct (hne : n ≠ m) : dctOf (setZ S n kvs') m = dctOf S m := by
  unfold dctOf setZ
  rw [List.getElem?_set_ne hne]
theorem Kp.setZ : Kp [n] S (J.setZ S n kvs) := ⟨by rw [setZ_len]; exact Nat.le_refl _, fun i hi _ => by
  unfold J.setZ
  rw [List.getElem?_set_ne (fun e => hi (by simp [e]))]⟩
/-- back from the lock, new things behind -/
theorem unlock_app {T : Sto} (e : dctOf S n = some kvs) : (setZ S n kvs ++ T).set n (.dct kvs) = S ++ T := by
  have h1 := dctOf_some e
  have hn := (List.getElem?_eq_some_iff.mp h1).1
  have h2 := (List.getElem?_eq_some_iff.mp h1).2
  rw [List.set_append_left _ _ (by rw [setZ_len]; exact hn)]
  congr 1
  unfold setZ
  rw [List.set_set, ← h2]
  exact List.set_getElem_self hn
theorem fz_old {T : Sto} (h : fzOf S n = some kvs) : fzOf (S ++ T) n = some kvs := by
  have h1 := fzOf_some h
  unfold fzOf
  rw [List.getElem?_append_left (List.getElem?_eq_some_iff.mp h1).1, h1]
end
section
variable {α : Type} {S : Sto} {ρ : Env} {n : Nat} {x : Str} {Q : D → Sto → Prop} {QF : Fl → Sto → Prop} {QS : Src → Sto → Prop} {X : Str → Sto → Prop} {fa : IE} {f : IS} {kvs : List (Key × D)} {fo : α → D} {l : List (Str × α)} {v : α} {z : D}
theorem wp_sLock (h : wp (fa ρ S) (fun d S1 => isRef (fun n => ∃ kvs, dctOf S n = some kvs ∧ wp (f ρ (setZ S n kvs)) (fun o S' => QF o (S'.set n (.dct kvs))) (fun _ _ => False)) d) (fun _ _ => False)) : wp (sLock fa f ρ S) QF X := by
  with_unfolding_all
    unfold sLock
    cases hf : fa ρ S with
    | bad => rw [hf] at h; exact h
    | exc c S1 => rw [hf] at h; exact h
    | ok d S1 =>
      rw [hf] at h
      cases d with
      | ref n =>
        obtain ⟨kvs, e, h⟩ := (show ∃ kvs, dctOf S n = some kvs ∧ wp (f ρ (setZ S n kvs)) (fun o S' => QF o (S'.set n (.dct kvs))) (fun _ _ => False) from h)
        simp only [e]
        cases hg : f ρ (setZ S n kvs) with
        | bad => rw [hg] at h; exact h
        | exc c S1 => rw [hg] at h; exact h
        | ok o S' => rw [hg] at h; exact h
      | _ => exact h
instance i_wp_sLock  : St (wp (sLock fa f ρ S) QF X) (wp (fa ρ S) (fun d S1 => isRef (fun n => ∃ kvs, dctOf S n = some kvs ∧ wp (f ρ (setZ S n kvs)) (fun o S' => QF o (S'.set n (.dct kvs))) (fun _ _ => False)) d) (fun _ _ => False)) := ⟨fun h => wp_sLock h⟩
theorem isRef_ref {Q : Nat → Prop} (h : Q n) : isRef Q (.ref n) := h
instance i_isRef_ref {Q : Nat → Prop} : St (isRef Q (.ref n)) (Q n) := ⟨fun h => isRef_ref h⟩
theorem wp_sqKeys (h : wp (fa ρ S) (fun d S1 => isRef (fun n => ∃ kvs, fzOf S1 n = some kvs ∧ QS ⟨kvs.map fun p => keyU p.1, fun S => fzOf S n = some kvs⟩ S1) d) X) : wp (sqKeys fa ρ S) QS X := by
  with_unfolding_all
    unfold sqKeys
    refine wp_bind (wp_mono h (fun d S1 h => ?_) fun _ _ h => h)
    cases d with
    | ref n =>
      obtain ⟨kvs, e, h⟩ := h
      simp only [e]
      exact h
    | _ => exact h.elim
instance i_wp_sqKeys  : St (wp (sqKeys fa ρ S) QS X) (wp (fa ρ S) (fun d S1 => isRef (fun n => ∃ kvs, fzOf S1 n = some kvs ∧ QS ⟨kvs.map fun p => keyU p.1, fun S => fzOf S n = some kvs⟩ S1) d) X) := ⟨fun h => wp_sqKeys h⟩
theorem wp_ixZ (e : fzOf S n = some (dK fo l)) (h : l.lookup x = some v) (q : Q (fo v) S) : wp (oIxZ (.ref n) (.str x) S) Q X := by
  have e2 : oIxZ (.ref n) (.str x) S = .ok (fo v) S := by
    simp only [oIxZ, e, get_dK, h, Option.map_some]
  exact wp_eq e2 q
theorem wp_get2 (e : dctOf S n = some (dK fo l)) (q : Q (((l.lookup x).map fo).getD z) S) : wp (oGet2 (.ref n) (.str x) z S) Q X := by
  have e2 : oGet2 (.ref n) (.str x) z S = .ok (((l.lookup x).map fo).getD z) S := by
    simp only [oGet2, e, get_dK]
  exact wp_eq e2 q
theorem wp_iGet2 {fe ff : IE} (h : wp (fa ρ S) (fun d S1 => isRef (fun n => (∃ kvs, dctOf S1 n = some kvs) ∧ wp (fe ρ S1) (fun y S2 => wp (ff ρ S2) (fun z S3 => wp (oGet2 (.ref n) y z S3) Q X) X) X) d) X) : wp (iGet2 fa fe ff ρ S) Q X := by
  with_unfolding_all
    unfold iGet2
    refine wp_bind (wp_mono h (fun d S1 h => ?_) fun _ _ h => h)
    cases d with
    | ref n =>
      obtain ⟨⟨kvs, e⟩, h⟩ := h
      simp only [e]
      exact wp_bind (wp_mono h (fun _ _ h => wp_bind h) fun _ _ h => h)
    | _ => exact h.elim
instance i_wp_iGet2 {fe ff : IE} : St (wp (iGet2 fa fe ff ρ S) Q X) (wp (fa ρ S) (fun d S1 => isRef (fun n => (∃ kvs, dctOf S1 n = some kvs) ∧ wp (fe ρ S1) (fun y S2 => wp (ff ρ S2) (fun z S3 => wp (oGet2 (.ref n) y z S3) Q X) X) X) d) X) := ⟨fun h => wp_iGet2 h⟩
end
theorem keys_dK {α : Type} {f : α → D} {l : List (Str × α)} : ((dK f l).map fun p => keyU p.1) = (l.map fun p => p.1).map D.str := by
  unfold dK
  rw [List.map_map, List.map_map]
  rfl
/-! ### a model of a chain: a dict with its parts -/
def km : List Str := ["len", "clock", "row", "loads", "gone", "tales", "pace", "away", "led"]
instance km0 : KAt km "len" 0 := ⟨by decide +kernel, rfl⟩
instance km1 : KAt km "clock" 1 := ⟨by decide +kernel, rfl⟩
instance km2 : KAt km "row" 2 := ⟨by decide +kernel, rfl⟩
instance km3 : KAt km "loads" 3 := ⟨by decide +kernel, rfl⟩
instance km4 : KAt km "gone" 4 := ⟨by decide +kernel, rfl⟩
instance km5 : KAt km "tales" 5 := ⟨by decide +kernel, rfl⟩
instance km6 : KAt km "pace" 6 := ⟨by decide +kernel, rfl⟩
instance km7 : KAt km "away" 7 := ⟨by decide +kernel, rfl⟩
instance km8 : KAt km "led" 8 := ⟨by decide +kernel, rfl⟩
def mkm (L : Int) (t : Rat) (row rates away loads tales accts gone : Nat) : List D := [.int L, aD t, .ref row, .ref loads, .ref gone, .ref tales, .ref rates, .ref away, .ref accts]
structure ModR (A : ChA) (S : Sto) (d : Nat) (c : Chn) : Prop where
  dct : dctOf S d = some (recK km (mkm c.L c.t A.row A.rates A.away A.loads A.tales A.accts A.gone))
  ps : Parts A S c
  n1 : d ≠ A.rates
  n2 : d ≠ A.away
  n3 : d ≠ A.accts
theorem ModR.kp {A : ChA} {S S' : Sto} {d : Nat} {c : Chn} {ns : List Nat} (h : ModR A S d c) (k : Kp ns S S') (hn : ∀ i ∈ foot d A, i ∉ ns) : ModR A S' d c := ⟨k.dct (hn d (by simp [foot])) h.dct, h.ps.kp k d hn, h.n1, h.n2, h.n3⟩
theorem ModR.old {A : ChA} {S T : Sto} {d : Nat} {c : Chn} (h : ModR A S d c) : ModR A (S ++ T) d c := h.kp (ns := []) .add (by simp)
/-- a key of its own laid behind the others -/
theorem recK_new {ks : List Str} {f : Str} {ds : List D} {v : D} (hl : ds.length = ks.length) (hf : f ∉ ks) : putK (recK ks ds) (.inr f) v = recK (ks ++ [f]) (ds ++ [v]) := by
  unfold putK recK keysD
  rw [if_neg, List.map_append, List.zip_append (by rw [List.length_map]; exact hl.symm)]
  · rfl
  · intro h
    rw [List.any_eq_true] at h
    obtain ⟨p, hp, e⟩ := h
    obtain ⟨z, hz, e2⟩ := List.mem_map.mp (List.of_mem_zip hp).1
    simp only [decide_eq_true_eq] at e
    rw [← e2] at e
    injection e with e
    exact hf (e ▸ hz)
theorem putS_same {α : Type} {l : List (Str × α)} {k : Str} {v : α} (nd : (l.map fun p => p.1).Nodup) (h : l.lookup k = some v) : putS l k v = l := by
  have hm : ∀ p ∈ l, p.1 = k → p = (k, v) := fun p hp e => by
    have key : ∀ (l : List (Str × α)), (l.map fun p => p.1).Nodup → l.lookup k = some v → ∀ p ∈ l, p.1 = k → p = (k, v) := fun l => by
      induction l with
      | nil => intro _ _ p hp; cases hp
      | cons q l ih =>
        intro nd h p hp e
        rw [List.map_cons] at nd
        have nd := List.nodup_cons.mp nd
        rw [List.lookup_cons] at h
        rcases List.mem_cons.mp hp with rfl | hp
        · rw [show (k == p.1) = true by simp [e]] at h
          have h := Option.some.inj h
          rw [← e, ← h]
        · have hne : ¬ q.1 = k := fun c => nd.1 (by rw [c, ← e]; exact List.mem_map.mpr ⟨p, hp, rfl⟩)
          rw [show (k == q.1) = false by simpa using fun c => hne c.symm] at h
          exact ih nd.2 h p hp e
    exact key l nd h p hp e
  unfold putS
  have hany : (l.any fun p => decide (p.1 = k)) = true := by
    have : ∀ (l : List (Str × α)), l.lookup k = some v → (l.any fun p => decide (p.1 = k)) = true := fun l => by
      induction l with
      | nil => intro h; simp at h
      | cons q l ih =>
        intro h
        rw [List.any_cons]
        by_cases c : q.1 = k
        · simp [c]
        · rw [List.lookup_cons, show (k == q.1) = false by simpa using fun e => c e.symm] at h
          rw [ih h, Bool.or_true]
    exact this l h
  rw [if_pos hany]
  refine (List.map_congr_left fun p hp => ?_).trans (List.map_id _)
  by_cases c : p.1 = k
  · rw [if_pos c, hm p hp c]; rfl
  · rw [if_neg c]; rfl
theorem putS_nd {α : Type} {l : List (Str × α)} {k : Str} {v : α} (nd : (l.map fun p => p.1).Nodup) : ((putS l k v).map fun p => p.1).Nodup := by
  unfold putS
  split
  · have e : ((l.map fun p => if p.1 = k then (p.1, v) else p).map fun p => p.1) = l.map fun p => p.1 := by
      rw [List.map_map]
      refine List.map_congr_left fun p _ => ?_
      show (if p.1 = k then (p.1, v) else p).1 = p.1
      by_cases c : p.1 = k
      · rw [if_pos c]
      · rw [if_neg c]
    rw [e]
    exact nd
  · rename_i h
    rw [List.map_append, List.nodup_append]
    refine ⟨nd, by simp, fun a ha b hb => ?_⟩
    simp only [List.map_cons, List.map_nil, List.mem_singleton] at hb
    rintro rfl
    obtain ⟨p, hp, e⟩ := List.mem_map.mp ha
    exact h (List.any_eq_true.mpr ⟨p, hp, by simp [e, hb]⟩)
theorem lookup_some {α : Type} {l : List (Str × α)} {k : Str} (h : k ∈ l.map fun p => p.1) : (l.lookup k).isSome = true := by
  induction l with
  | nil => cases h
  | cons q l ih =>
    rw [List.lookup_cons]
    by_cases c : k = q.1
    · rw [show (k == q.1) = true by simp [c]]; rfl
    · rw [show (k == q.1) = false by simpa using c]
      rw [List.map_cons] at h
      rcases List.mem_cons.mp h with h | h
      · exact absurd h c
      · exact ih h
theorem lstOf_newE {S : Sto} {n : Nat} {c : List D} (h : n = S.length) : lstOf (S ++ [.lst c]) n = some c := h ▸ lstOf_new
theorem dctOf_newE {S : Sto} {n : Nat} {c : List (Key × D)} (h : n = S.length) : dctOf (S ++ [.dct c]) n = some c := h ▸ dctOf_new
theorem wp_putNew {S : Sto} {X : Str → Sto → Prop} {n : Nat} {ks : List Str} {f : Str} {ds : List D} {v : D} {QU : Unit → Sto → Prop} (e : dctOf S n = some (recK ks ds)) (hl : ds.length = ks.length) (hf : f ∉ ks) (hm : ks.length < 1000) (q : QU () (setK S n (recK (ks ++ [f]) (ds ++ [v])))) : wp (oPutK (.ref n) (.str f) v S) QU X := by
  have e2 : oPutK (.ref n) (.str f) v S = .ok () (setK S n (recK (ks ++ [f]) (ds ++ [v]))) := by
    have : (recK ks ds).length < LIM := by
      unfold recK keysD
      rw [List.length_zip, List.length_map]
      exact lim_of (by omega)
    simp only [oPutK, e, this, if_true, recK_new hl hf]
  exact wp_eq e2 q
/-! texts by their length -/
theorem len_app (x y : Str) : (x ++ y).length = x.length + y.length := by
  show (x.cps ++ y.cps).size = x.cps.size + y.cps.size
  rw [Array.size_append]
theorem len_cut {x : Str} {lo hi : Option Int} : (cutS x lo hi).length ≤ x.length := by
  show ((List.take _ (List.drop _ x.cps.toList)).toArray).size ≤ x.cps.size
  rw [List.size_toArray, List.length_take, List.length_drop, Array.length_toList]
  omega
section
variable {S : Sto} {x y : Str} {Q : D → Sto → Prop} {X : Str → Sto → Prop}
theorem wp_addSS (hl : x.length + y.length < 900000) (q : Q (.str (x ++ y)) S) : wp (oAdd (.str x) (.str y) S) Q X := by
  have e2 : oAdd (.str x) (.str y) S = .ok (.str (x ++ y)) S := by
    have : x.length + y.length < LIM := lim_of (by omega)
    simp only [oAdd, this, if_true]
  exact wp_eq e2 q
theorem wp_slSS {lo hi : Option Int} (hl : x.length < 900000) (q : Q (.str (cutS x lo hi)) S) : wp (oSl (.str x) lo hi S) Q X := by
  have e2 : oSl (.str x) lo hi S = .ok (.str (cutS x lo hi)) S := by
    have : x.length < LIM := lim_of (by omega)
    simp only [oSl, this, if_true]
  exact wp_eq e2 q
theorem wp_mulSS {k : Int} (h : x.length = 1) (h0 : 0 ≤ k ∧ k < 100) (q : Q (.str (strRep x k.toNat)) S) : wp (oMul (.str x) (.int k) S) Q X := by
  have e2 : oMul (.str x) (.int k) S = .ok (.str (strRep x k.toNat)) S := by
    have : x.length = 1 ∧ 0 ≤ k ∧ k < LIM := ⟨h, h0.1, by have : ((100 : Nat) : Int) < LIM := by decide
                                                          omega⟩
    simp only [oMul]
    rw [if_pos this]
  exact wp_eq e2 q
end

/-! of a chain -/
def Chn.ps (c : Chn) : List Int := c.row.map fun x => (c.rates.lookup x).getD 0
def Chn.xs (c : Chn) : List Rat := c.loads.map fun p => p.2
structure Good (c : Chn) : Prop where
  r : ∀ x ∈ c.row, (c.rates.lookup x).isSome = true
  a : ∀ x ∈ c.row, (c.away.lookup x).isSome = true
  d : ∀ x ∈ c.row, (c.accts.lookup x).isSome = true
  l : c.loads.length = c.row.length
  i : ∀ p ∈ c.loads, 0 ≤ p.1 ∧ p.1 < (c.tales.length : Int)
  nd : c.row.Nodup
  h8 : c.row.length ≤ 8
theorem Good.pl {c : Chn} (h : Good c) : (Chn.ps c).length = c.row.length ∧ (Chn.xs c).length = (Chn.ps c).length := by
  unfold Chn.ps Chn.xs
  simp [h.l]
end J

set_option Elab.async false
set_option linter.all false
set_option maxRecDepth 100000
set_option maxHeartbeats 4000000
namespace J
open PySem PySem.Spec PyProof.Rows L2
/-! ### xs[a:b] = ys -/
def oPutSl : D → Option Int → Option Int → D → Sto → R Unit
  | .ref n, some i, some j, .ref m, S => match lstOf S n, lstOf S m with
    | some xs, some ys => if n ≠ m ∧ 0 ≤ i ∧ i ≤ j ∧ j ≤ xs.length ∧ xs.length + ys.length < LIM then .ok () (setL S n (xs.take i.toNat ++ ys ++ xs.drop j.toNat)) else .bad
    | _, _ => .bad
  | _, _, _, _, _ => .bad
def gSlJ (fo : IE) (fl fh : IO) : IG := fun d ρ S => (fo ρ S).bind fun o S1 => (fl ρ S1).bind fun lo S2 => (fh ρ S2).bind fun hi S3 => (oPutSl o lo hi d S3).bind fun _ S4 => .ok ρ S4
def gSl (to : TE) (tl th : TO) : TG := fun v σ H Q => to σ H fun x H1 => tl σ H1 fun l H2 => th σ H2 fun u H3 => ∃ a b xs ys i j, x = .ref a ∧ v = .ref b ∧ H3 a = some (.lst xs) ∧ H3 b = some (.lst ys) ∧ a ≠ b ∧ l = some i ∧ u = some j ∧ 0 ≤ i ∧ i ≤ j ∧ j ≤ (xs.length : Int) ∧ xs.length + ys.length ≤ sizeLine ∧ Q σ (upd H3 a (.lst (xs.take i.toNat ++ ys ++ xs.drop j.toNat)))
section
variable {X : Cx} {g : G} {E : XK} {pos : Pos}
theorem pg_slice {o : Expr} {lo hi : Option Expr} {p2 : Pos} {to : TE} {tl th : TO} (ho : PE X o to) (hl : PO X lo tl) (hu : PO X hi th)
    (ha : ∀ v, assign (.Subscript o (.Slice lo hi none p2) pos) X.env v = (do
      let ov ← holding [v] (eval o X.env)
      let iv ← holding [v, ov] (eval (.Slice lo hi none p2) X.env)
      standAt pos
      holding [v, ov, iv] (setItem ov iv v)
      release [iv, v, ov] []) := by intro _; rfl) : PG X (.Subscript o (.Slice lo hi none p2) pos) (gSl to tl th) := by
  refine ⟨fun pins s σ H v u Q I r h => ?_⟩
  rw [ha]
  refine wpAny_bind (wpAny_holding (thn (ho.run pins s σ H _ I h) fun ov s1 ⟨x, H1, I1, r1, q1⟩ => ?_))
  refine wpAny_bind (wpAny_holding ?_)
  refine wpAny_Slice (thn (hl.run pins s1 σ H1 _ I1 q1) fun vl s2 ⟨l, H2, I2, pl, q2⟩ => thn (hu.run pins s2 σ H2 _ I2 q2) fun vu s3 ⟨uu, H3, I3, pu, q3⟩ => ?_)
  rw [evalPart_none]
  refine wpAny_pure ?_
  have I4 : Inv X pins σ H3 { s3 with heap := s3.heap.push { cls := .type "slice", data := .fields #[vl, vu, .none] } } := I3.kept (t' := s3.toks) fun b ob q => Heap.get?_push_of_some _ q
  obtain ⟨a, b, xs, ys, i, j, ex, ev, e1, e2, hne, el, eu, h0, hij, hj, hz, q⟩ := q3
  subst ex ev el eu
  cases r1
  cases r
  cases pl with
  | int i t =>
    cases pu with
    | int j t2 =>
      refine wpAny_bind (wpAny_standAt (wpAny_bind (wpAny_holding ?_)))
      refine set_slice I4 e1 e2 hne (Heap.IsSliceOf.new ..) ⟨_, rfl⟩ ⟨_, rfl⟩ h0 hij hj hz fun s5 I5 => ?_
      exact wpAny_release ⟨σ, _, I5, q⟩
theorem rg_sl {o : Expr} {lo hi : Option Expr} {p2 : Pos} {fo : IE} {fl fh : IO} (ho : RE X g E o fo) (hl : RO X g E lo fl) (hu : RO X g E hi fh)
    (ha : ∀ v, assign (.Subscript o (.Slice lo hi none p2) pos) X.env v = (do
      let ov ← holding [v] (eval o X.env)
      let iv ← holding [v, ov] (eval (.Slice lo hi none p2) X.env)
      standAt pos
      holding [v, ov, iv] (setItem ov iv v)
      release [iv, v, ov] []) := by intro _; rfl) : RG X g E (.Subscript o (.Slice lo hi none p2) pos) [] (gSlJ fo fl fh) :=
  PG.imp (pg_slice ho hl hu ha) fun v σ H Q ⟨φ, ρ, S, d, er, rp, dv, k⟩ => ⟨φ, ρ, S, er, rp, k.bind.mono fun od S1 φ1 H1 _ _ ⟨r1, n1, k1⟩ ov dov => ⟨φ1, ρ, S1, n1.er er, r1, k1.bind.mono fun lo S2 φ2 H2 _ _ ⟨r2, n2, k2⟩ => ⟨φ2, ρ, S2, n2.er (n1.er er), r2, k2.bind.mono fun hi S3 φ3 H3 _ _ ⟨r3, n3, k3⟩ => by
    have dv3 := n3.dr (n2.dr (n1.dr dv))
    have dov3 := n3.dr (n2.dr dov)
    cases od with
    | ref n =>
      cases lo with
      | some i =>
        cases hi with
        | some j =>
          cases d with
          | ref m =>
            obtain ⟨a, ha, rfl⟩ := ref_inv dov3
            obtain ⟨b, hb, rfl⟩ := ref_inv dv3
            simp only [oPutSl] at k3
            split at k3
            · rename_i xs ys h1 h2
              obtain ⟨us, e1, e2⟩ := r3.lst h1 ha
              obtain ⟨vs, e3, e4⟩ := r3.lst h2 hb
              split at k3
              · rename_i hc
                obtain ⟨hnm, h0, hij, hj, hz⟩ := hc
                have n4 := r3.put h1 ha (((e2.take i.toNat).append e4).append (e2.drop j.toNat))
                have hne : a ≠ b := by
                  rintro rfl
                  obtain ⟨i1, q1⟩ := List.getElem?_eq_some_iff.mp ha
                  obtain ⟨i2, q2⟩ := List.getElem?_eq_some_iff.mp hb
                  exact hnm ((List.getElem_inj r3.nd).mp (q1.trans q2.symm))
                exact ⟨a, b, us, vs, i, j, rfl, rfl, e1, e3, hne, rfl, rfl, h0, hij, by rw [e2.length]; exact hj, lim_le (by rw [e2.length, e4.length]; exact hz), k3 _ _ n4 σ (n4.er (n3.er (n2.er (n1.er er)))) .refl⟩
              · exact k3.elim
            · exact k3.elim
          | _ => exact k3.elim
        | none => exact k3.elim
      | none => exact k3.elim
    | _ => cases lo <;> cases hi <;> cases d <;> exact k3.elim⟩⟩⟩
end
section
variable {S : Sto} {ρ : Env} {d : D} {n m : Nat} {xs ys : List D} {i j : Nat} {fo : IE} {fl fh : IO} {QE : Env → Sto → Prop} {QU : Unit → Sto → Prop} {X : Str → Sto → Prop}
theorem wp_gSlJ (w : wp (fo ρ S) (fun o S1 => wp (fl ρ S1) (fun lo S2 => wp (fh ρ S2) (fun hi S3 => wp (oPutSl o lo hi d S3) (fun _ S4 => QE ρ S4) X) X) X) X) : wp (gSlJ fo fl fh d ρ S) QE X := by
  with_unfolding_all
    exact wp_bind (wp_mono w (fun _ _ h => wp_bind (wp_mono h (fun _ _ h => wp_bind (wp_mono h (fun _ _ h => wp_bind h) fun _ _ h => h)) fun _ _ h => h)) fun _ _ h => h)
instance i_wp_gSlJ  : St (wp (gSlJ fo fl fh d ρ S) QE X) (wp (fo ρ S) (fun o S1 => wp (fl ρ S1) (fun lo S2 => wp (fh ρ S2) (fun hi S3 => wp (oPutSl o lo hi d S3) (fun _ S4 => QE ρ S4) X) X) X) X) := ⟨fun h => wp_gSlJ h⟩
theorem wp_putSl (e1 : lstOf S n = some xs) (e2 : lstOf S m = some ys) (hne : n ≠ m) (hij : i ≤ j) (hj : j ≤ xs.length) (hl : xs.length + ys.length < 900000) (q : QU () (setL S n (xs.take i ++ ys ++ xs.drop j))) : wp (oPutSl (.ref n) (some (i : Int)) (some (j : Int)) (.ref m) S) QU X := by
  have e3 : oPutSl (.ref n) (some (i : Int)) (some (j : Int)) (.ref m) S = .ok () (setL S n (xs.take i ++ ys ++ xs.drop j)) := by
    simp only [oPutSl, e1, e2]
    rw [if_pos ⟨hne, by omega, by omega, by omega, lim_of (by omega)⟩]
    rfl
  exact wp_eq e3 q
end
/-! a test that is a choice -/
def jIf (t f h : IT) : IT := fun ρ S => (t ρ S).bind fun b S1 => if b = true then f ρ S1 else h ρ S1
section
variable {X : Cx} {g : G} {E : XK} {pos : Pos}
theorem pt_ifExp {c a b : Expr} {tc ta tb : TT} (hc : PT X c tc) (ha : PT X a ta) (hb : PT X b tb) : PT X (.IfExp c a b pos) (fun σ H Q => tc σ H fun d H1 => if d = true then ta σ H1 Q else tb σ H1 Q) := by
  refine ⟨fun pins s σ H Q I h => ?_⟩
  rw [arm_isTrue_IfExp]
  refine wpAny_bind (thn (hc.run pins s σ H _ I h) fun d s1 ⟨H1, I1, q1⟩ => ?_)
  cases d with
  | true => exact ha.run pins s1 σ H1 Q I1 q1
  | false => exact hb.run pins s1 σ H1 Q I1 q1
theorem rt_if {c a b : Expr} {t f h : IT} (hc : RT X g E c t) (ha : RT X g E a f) (hb : RT X g E b h) : RT X g E (.IfExp c a b pos) (jIf t f h) :=
  PT.imp (pt_ifExp hc ha hb) fun σ H Q ⟨φ, ρ, S, er, rp, k⟩ => ⟨φ, ρ, S, er, rp, k.bind.mono fun d S1 φ1 H1 _ _ ⟨r1, n1, k1⟩ => by
    cases d with
    | true => rw [if_pos rfl] at k1 ⊢; exact ⟨φ1, ρ, S1, n1.er er, r1, k1⟩
    | false => exact ⟨φ1, ρ, S1, n1.er er, r1, k1⟩⟩
end
section
variable {S : Sto} {ρ : Env} {t f h : IT} {QB : Bool → Sto → Prop} {X : Str → Sto → Prop}
theorem wp_jIf (w : wp (t ρ S) (fun b S1 => wp (if b = true then f ρ S1 else h ρ S1) QB X) X) : wp (jIf t f h ρ S) QB X := by
  with_unfolding_all
    exact wp_bind w
instance i_wp_jIf  : St (wp (jIf t f h ρ S) QB X) (wp (t ρ S) (fun b S1 => wp (if b = true then f ρ S1 else h ρ S1) QB X) X) := ⟨fun h => wp_jIf h⟩
end
end J

set_option Elab.async false
set_option linter.all false
set_option maxRecDepth 100000
set_option maxHeartbeats 4000000
namespace J
open PySem PySem.Spec PyProof.Rows L2
/-! ### what is done to a chain, as plain data -/
theorem lets_cps : lets.cps.toList = (List.range 26).map fun i => 97 + i := by decide +kernel
theorem NameOk.str {x : Str} (h : NameOk x) : PySem.PyData.strOk x = true := by
  unfold PySem.PyData.strOk
  rw [Array.all_eq_true_iff_forall_mem]
  intro c hc
  have := h.2 c (Array.mem_toList_iff.mpr hc)
  rw [lets_cps] at this
  obtain ⟨j, hj, rfl⟩ := List.mem_map.mp this
  have := List.mem_range.mp hj
  simp; omega
/-- a chain without hands -/
def chn0 (L : Int) : Chn := ⟨L, 0, [], [], [], [], [], [], []⟩
/-- a new pail for the first hand -/
def Chn.draw (c : Chn) : Chn := { c with loads := ((c.tales.length : Int), (0 : Rat)) :: c.loads, tales := c.tales ++ [[]] }
/-- a hand that comes -/
def Chn.enter0 (c : Chn) (x : Str) (p : Int) : Chn := { c with row := x :: c.row, rates := putS c.rates x p, away := putS c.away x false, accts := if (c.accts.lookup x).isSome = true then c.accts else putS c.accts x (0, 0, 0) }
def Chn.enter (c : Chn) (x : Str) (p : Int) : Chn := Chn.draw (Chn.enter0 c x p)
def Chn.cld (c : Chn) : List Str := c.row.filter fun x => (c.away.lookup x).getD false
/-- [x for x in names if d[x]] -/
theorem cld_take {row : List Str} {l : List (Str × Bool)} {k : Nat} {x : Str} {b : Bool} (h : row[k]? = some x) (hb : l.lookup x = some b) : ((row.take (k + 1)).filter fun x => (l.lookup x).getD false) = ((row.take k).filter fun x => (l.lookup x).getD false) ++ if b = true then [x] else [] := by
  rw [List.take_add_one, h, List.filter_append]
  congr 1
  cases b with
  | true => simp [hb]
  | false => simp [hb]
/-- what a chain's questions need -/
structure Told (c : Chn) : Prop where
  g : Good c
  r : ∀ x ∈ c.row, PySem.PyData.strOk x = true
  t : ∀ t ∈ c.tales, t.length < 900000 ∧ ∀ l ∈ t, PySem.PyData.strOk l.1 = true
  tl : c.tales.length < 900000
  gl : c.gone.length < 900000
  al : c.accts.length < 900000
/-- keys once, and not many -/
structure Few (B : Nat) (c : Chn) : Prop where
  w : Told c
  nd : (c.accts.map fun p => p.1).Nodup
  tl : c.tales.length ≤ B
  rl : c.rates.length ≤ B
  wl : c.away.length ≤ B
  al : c.accts.length ≤ B
theorem few_chn0 {L : Int} : Few 0 (chn0 L) := ⟨⟨⟨(fun x h => by cases h), (fun x h => by cases h), (fun x h => by cases h), rfl, (fun p h => by cases h), List.Pairwise.nil, Nat.zero_le _⟩, (fun x h => by cases h), (fun t h => by cases h), (show 0 < 900000 by decide), (show 0 < 900000 by decide), (show 0 < 900000 by decide)⟩, List.Pairwise.nil, Nat.le_refl _, Nat.le_refl _, Nat.le_refl _, Nat.le_refl _⟩
theorem few_enter {B : Nat} {c : Chn} {x : Str} {p : Int} (h : Few B c) (hB : B < 800000) (hx : NameOk x) (hn : x ∉ c.row) (h8 : c.row.length < 8) : Few (B + 1) (Chn.enter c x p) := by
  have w := h.w
  have g := w.g
  have look : ∀ {α : Type} (m : List (Str × α)) (v : α) (y : Str), y ∈ c.row → (putS m x v).lookup y = m.lookup y := fun m v y hy => by
    rw [look_put, if_neg]
    rintro rfl
    exact hn hy
  have hacc : ∀ y, y ∈ c.row → (Chn.enter0 c x p).accts.lookup y = c.accts.lookup y := fun y hy => by
    show (if (c.accts.lookup x).isSome = true then c.accts else putS c.accts x (0, 0, 0)).lookup y = _
    split
    · rfl
    · exact look _ _ _ hy
  have haccx : ((Chn.enter0 c x p).accts.lookup x).isSome = true := by
    show ((if (c.accts.lookup x).isSome = true then c.accts else putS c.accts x (0, 0, 0)).lookup x).isSome = true
    split
    · assumption
    · rw [look_put, if_pos rfl]; rfl
  have hal : (Chn.enter0 c x p).accts.length ≤ B + 1 := by
    show (if (c.accts.lookup x).isSome = true then c.accts else putS c.accts x (0, 0, 0)).length ≤ _
    have h1 := putS_len (l := c.accts) (k := x) (v := (0, 0, 0))
    have h2 := h.al
    split <;> omega
  have hrl := putS_len (l := c.rates) (k := x) (v := p)
  have hwl := putS_len (l := c.away) (k := x) (v := false)
  have h1 := h.tl
  have h2 := h.rl
  have h3 := h.wl
  have h4 := w.gl
  refine ⟨⟨⟨?_, ?_, ?_, ?_, ?_, ?_, ?_⟩, ?_, ?_, ?_, h4, ?_⟩, ?_, ?_, ?_, ?_, ?_⟩
  · intro y hy
    show ((putS c.rates x p).lookup y).isSome = true
    rcases List.mem_cons.mp hy with rfl | hy
    · rw [look_put, if_pos rfl]; rfl
    · rw [look _ _ _ hy]; exact g.r y hy
  · intro y hy
    show ((putS c.away x false).lookup y).isSome = true
    rcases List.mem_cons.mp hy with rfl | hy
    · rw [look_put, if_pos rfl]; rfl
    · rw [look _ _ _ hy]; exact g.a y hy
  · intro y hy
    show ((Chn.enter0 c x p).accts.lookup y).isSome = true
    rcases List.mem_cons.mp hy with rfl | hy
    · exact haccx
    · rw [hacc y hy]; exact g.d y hy
  · show (_ :: c.loads).length = (x :: c.row).length
    simp [g.l]
  · intro q hq
    show 0 ≤ q.1 ∧ q.1 < ((c.tales ++ [[]]).length : Int)
    rw [List.length_append]
    have hq : q ∈ ((c.tales.length : Int), (0 : Rat)) :: c.loads := hq
    rcases List.mem_cons.mp hq with rfl | hq
    · simp; omega
    · have := g.i q hq
      simp; omega
  · exact List.nodup_cons.mpr ⟨hn, g.nd⟩
  · show (x :: c.row).length ≤ 8
    simp; omega
  · intro y hy
    have hy : y ∈ x :: c.row := hy
    rcases List.mem_cons.mp hy with rfl | hy
    · exact NameOk.str hx
    · exact w.r y hy
  · intro t ht
    have ht : t ∈ c.tales ++ [[]] := ht
    rcases List.mem_append.mp ht with ht | ht
    · exact w.t t ht
    · rw [List.mem_singleton] at ht
      subst ht
      simp
  · show (c.tales ++ [[]]).length < _
    simp; omega
  · have : (Chn.enter c x p).accts.length ≤ B + 1 := hal
    omega
  · show ((if (c.accts.lookup x).isSome = true then c.accts else putS c.accts x (0, 0, 0)).map fun p => p.1).Nodup
    split
    · exact h.nd
    · exact putS_nd h.nd
  · show (c.tales ++ [[]]).length ≤ _
    simp; omega
  · show (putS c.rates x p).length ≤ _
    omega
  · show (putS c.away x false).length ≤ _
    omega
  · exact hal
theorem Few.mono {B B' : Nat} {c : Chn} (h : Few B c) (hb : B ≤ B') : Few B' c := ⟨h.w, h.nd, Nat.le_trans h.tl hb, Nat.le_trans h.rl hb, Nat.le_trans h.wl hb, Nat.le_trans h.al hb⟩
theorem enter0_eq {c : Chn} {x : Str} {p : Int} (nd : (c.accts.map fun p => p.1).Nodup) : ({ c with row := x :: c.row, rates := putS c.rates x p, away := putS c.away x false, accts := putS c.accts x ((c.accts.lookup x).getD (0, 0, 0)) } : Chn) = Chn.enter0 c x p := by
  unfold Chn.enter0
  cases e : c.accts.lookup x with
  | none => rfl
  | some a =>
    simp only [Option.getD_some, Option.isSome_some, if_true]
    rw [putS_same nd e]
def Chn.setAway (c : Chn) (x : Str) (b : Bool) : Chn := { c with away := putS c.away x b }
def swp (l : List Str) (i : Nat) : List Str := (l.set i (l.getD (i + 1) Str.empty)).set (i + 1) (l.getD i Str.empty)
def Chn.swap (c : Chn) (x : Str) : Chn := { c with row := swp c.row (c.row.idxOf x) }
theorem idx_at {l : List Str} {x : Str} (h : x ∈ l) : l[l.idxOf x]? = some x := by
  rw [List.getElem?_eq_getElem (List.idxOf_lt_length_iff.mpr h)]
  simp
def Chn.setPace (c : Chn) (x : Str) (p : Int) : Chn := { c with rates := putS c.rates x p }
/-! deeds without walking -/
inductive Dd where
  | enter (x : Str) (p : Int) | call (x : Str) | stay (x : Str) | swap (x : Str) | pace (x : Str) (p : Int)
def ddD : Dd → D
  | .enter x p => .tup [.str "enter", .str x, .int p]
  | .call x => .tup [.str "call", .str x]
  | .stay x => .tup [.str "stay", .str x]
  | .swap x => .tup [.str "swap", .str x]
  | .pace x p => .tup [.str "pace", .str x, .int p]
open Classical in
/-- the refusal due: its class and its word -/
noncomputable def Chn.bad (c : Chn) : Dd → Option (Str × Str)
  | .enter x p => if NameOk x then if x ∈ c.row then some ("Taken", "taken") else if 1 ≤ p ∧ p ≤ 12 then if c.row.length < 8 then none else some ("Full", "full") else some ("BadPace", "bad pace") else some ("BadName", "bad name")
  | .call x => if x ∈ c.row then if c.away.lookup x = some false then none else some ("Called", "called") else some ("NoHand", "no hand")
  | .stay x => if x ∈ c.row then if c.away.lookup x = some true then none else some ("NotCalled", "not called") else some ("NoHand", "no hand")
  | .swap x => if x ∈ c.row then if c.row.idxOf x + 1 < c.row.length then none else some ("NoNext", "no next") else some ("NoHand", "no hand")
  | .pace x p => if x ∈ c.row then if 1 ≤ p ∧ p ≤ 12 then none else some ("BadPace", "bad pace") else some ("NoHand", "no hand")
def Chn.do (c : Chn) : Dd → Chn
  | .enter x p => Chn.enter c x p
  | .call x => Chn.setAway c x true
  | .stay x => Chn.setAway c x false
  | .swap x => Chn.swap c x
  | .pace x p => Chn.setPace c x p
def Chn.ans (c : Chn) : Dd → D
  | .enter _ _ => .int (c.tales.length : Nat)
  | _ => .non
theorem swp_perm {l : List Str} {i : Nat} (h : i + 1 < l.length) : (swp l i).Perm l := by
  unfold swp
  have h1 : i < l.length := by omega
  rw [List.getD_eq_getElem?_getD, List.getD_eq_getElem?_getD, List.getElem?_eq_getElem h, List.getElem?_eq_getElem h1]
  exact List.set_set_perm h1 h
theorem swp_eq {l : List Str} {i : Nat} {x y : Str} (hx : l[i]? = some x) (hy : l[i + 1]? = some y) : swp l i = l.take i ++ [y, x] ++ l.drop (i + 2) := by
  have h1 := (List.getElem?_eq_some_iff.mp hx).1
  have h2 := (List.getElem?_eq_some_iff.mp hy).1
  unfold swp
  rw [List.getD_eq_getElem?_getD, List.getD_eq_getElem?_getD, hy, hx]
  refine List.ext_getElem? fun j => ?_
  have hl : (l.take i).length = i := by rw [List.length_take]; omega
  by_cases c1 : j < i
  · rw [List.append_assoc, List.getElem?_append_left (by omega), List.getElem?_take_of_lt c1, List.getElem?_set_ne (by omega), List.getElem?_set_ne (by omega)]
  · rw [List.append_assoc, List.getElem?_append_right (by omega), hl]
    by_cases c2 : j = i
    · subst c2
      rw [List.getElem?_set_ne (by omega), List.getElem?_set_self (by omega), Nat.sub_self]
      rfl
    · by_cases c3 : j = i + 1
      · subst c3
        rw [List.getElem?_set_self (by rw [List.length_set]; omega), show i + 1 - i = 1 by omega]
        rfl
      · rw [List.getElem?_set_ne (by omega), List.getElem?_set_ne (by omega), List.getElem?_append_right (by simp; omega), List.getElem?_drop]
        congr 1
        simp
        omega
theorem few_do {B : Nat} {c : Chn} {dd : Dd} (h : Few B c) (hB : B < 800000) (hb : Chn.bad c dd = none) : Few (B + 1) (Chn.do c dd) := by
  have w := h.w
  have g := w.g
  cases dd with
  | enter x p =>
    by_cases n1 : NameOk x
    · by_cases n2 : x ∈ c.row
      · simp [Chn.bad, n1, n2] at hb
      · by_cases n3 : 1 ≤ p ∧ p ≤ 12
        · by_cases n4 : c.row.length < 8
          · exact few_enter h hB n1 n2 n4
          · simp only [Chn.bad, n1, n2, n3, n4, if_true, if_false, and_self] at hb
            cases hb
        · simp only [Chn.bad, n1, n2, n3, if_true, if_false] at hb
          cases hb
    · simp [Chn.bad, n1] at hb
  | call x =>
    have hl := putS_len (l := c.away) (k := x) (v := true)
    refine (show Few (B + 1) (Chn.setAway c x true) from ⟨⟨⟨g.r, fun y hy => ?_, g.d, g.l, g.i, g.nd, g.h8⟩, w.r, w.t, w.tl, w.gl, w.al⟩, h.nd, Nat.le_succ_of_le h.tl, Nat.le_succ_of_le h.rl, ?_, Nat.le_succ_of_le h.al⟩)
    · show ((putS c.away x true).lookup y).isSome = true
      rw [look_put]
      split
      · rfl
      · exact g.a y hy
    · have := h.wl
      show (putS c.away x true).length ≤ B + 1
      omega
  | stay x =>
    have hl := putS_len (l := c.away) (k := x) (v := false)
    refine (show Few (B + 1) (Chn.setAway c x false) from ⟨⟨⟨g.r, fun y hy => ?_, g.d, g.l, g.i, g.nd, g.h8⟩, w.r, w.t, w.tl, w.gl, w.al⟩, h.nd, Nat.le_succ_of_le h.tl, Nat.le_succ_of_le h.rl, ?_, Nat.le_succ_of_le h.al⟩)
    · show ((putS c.away x false).lookup y).isSome = true
      rw [look_put]
      split
      · rfl
      · exact g.a y hy
    · have := h.wl
      show (putS c.away x false).length ≤ B + 1
      omega
  | swap x =>
    by_cases hx : x ∈ c.row
    · by_cases hi : c.row.idxOf x + 1 < c.row.length
      · have hp := swp_perm hi
        have hm : ∀ y, y ∈ swp c.row (c.row.idxOf x) → y ∈ c.row := fun y hy => hp.mem_iff.mp hy
        exact (show Few (B + 1) (Chn.swap c x) from ⟨⟨⟨fun y hy => g.r y (hm y hy), fun y hy => g.a y (hm y hy), fun y hy => g.d y (hm y hy), (show c.loads.length = (swp c.row (c.row.idxOf x)).length by rw [hp.length_eq]; exact g.l), g.i, hp.nodup_iff.mpr g.nd, (show (swp c.row (c.row.idxOf x)).length ≤ 8 by rw [hp.length_eq]; exact g.h8)⟩, fun y hy => w.r y (hm y hy), w.t, w.tl, w.gl, w.al⟩, h.nd, Nat.le_succ_of_le h.tl, Nat.le_succ_of_le h.rl, Nat.le_succ_of_le h.wl, Nat.le_succ_of_le h.al⟩)
      · simp only [Chn.bad, hx, hi, if_true, if_false] at hb
        cases hb
    · simp only [Chn.bad, hx, if_false] at hb
      cases hb
  | pace x p =>
    have hl := putS_len (l := c.rates) (k := x) (v := p)
    refine (show Few (B + 1) (Chn.setPace c x p) from ⟨⟨⟨fun y hy => ?_, g.a, g.d, g.l, g.i, g.nd, g.h8⟩, w.r, w.t, w.tl, w.gl, w.al⟩, h.nd, Nat.le_succ_of_le h.tl, ?_, Nat.le_succ_of_le h.wl, Nat.le_succ_of_le h.al⟩)
    · show ((putS c.rates x p).lookup y).isSome = true
      rw [look_put]
      split
      · rfl
      · exact g.r y hy
    · have := h.rl
      show (putS c.rates x p).length ≤ B + 1
      omega
theorem wp_eqC {a b : Str} {v : Bool} {S : Sto} {Q : D → Sto → Prop} {X : Str → Sto → Prop} (hs : PySem.PyData.strOk a = true ∧ PySem.PyData.strOk b = true) (hv : decide (a = b) = v) (q : Q (.bl v) S) : wp (oEq (.str a) (.str b) S) Q X := wp_eqS hs.1 hs.2 (by rw [hv]; exact q)
section
variable {Q : D → Sto → Prop} {X : Str → Sto → Prop} {S : Sto}
theorem firstIx_str {x : Str} : ∀ {zs : List Str} {i : Nat}, x ∈ zs → firstIx (.str x) i (zs.map D.str) = some (i + zs.idxOf x)
  | [], _, h => by cases h
  | z :: zs, i, h => by
    rw [List.map_cons, List.idxOf_cons]
    show (if eqD (.str z) (.str x) = true then some i else firstIx (.str x) (i + 1) (zs.map D.str)) = _
    have e : eqD (.str z) (.str x) = (z == x) := rfl
    rw [e]
    by_cases c : z = x
    · subst c
      simp
    · rw [show (z == x) = false from by simpa using c]
      rw [if_neg (by simp), firstIx_str (by
        rcases List.mem_cons.mp h with r | r
        · exact absurd r.symm c
        · exact r)]
      show some (i + 1 + zs.idxOf x) = some (i + (zs.idxOf x + 1))
      congr 1; omega
theorem wp_indexS {n : Nat} {zs : List Str} {x : Str} (e : lstOf S n = some (zs.map D.str)) (hm : x ∈ zs) (q : Q (.int (zs.idxOf x : Nat)) S) : wp (mIndex (.ref n) [.str x] S) Q X := by
  have e2 : mIndex (.ref n) [.str x] S = .ok (.int (zs.idxOf x : Nat)) S := by
    simp only [mIndex, e]
    rw [if_pos ⟨rfl, flat_strs⟩, firstIx_str hm]
    simp
  exact wp_eq e2 q
end
end J

set_option Elab.async false
set_option linter.all false
set_option maxRecDepth 100000
set_option maxHeartbeats 4000000
namespace J
open PySem PySem.Spec PyProof.Rows L2
/-! ### lambdas in any defs of the law's text -/
abbrev lamQ (x : Str) : Str := (x ++ (".<locals>." : Str)) ++ ("<lambda>" : Str)
/-- a def with its code object and its table -/
structure DefC (K : PySem.W.Frag) (x : Str) (st : Stmt) (f c P : Addr) : Prop where
  ex : ∃ (oc : Value) (od : Option Addr) (kV dc pm : Value) (an : Option Addr) (ct : Value) (sl : Array (Option Value)) (e : Value) (dd : Option Addr) (vs : Array Value) (sl2 : Array (Option Value)),
    PySem.W.nsIn K mainGlobals x = some (some (.ref f)) ∧ K.lookup f = some ⟨oc, od, .func (PySem.W.fnOf x x (defArgs st) (defBody st) (defScope st) .none kV dc pm an (.ref c) ct), sl⟩ ∧ PySem.W.codeIn K (.ref c) x = true ∧ PySem.W.keepIn K (.ref f) = true ∧
      K.lookup c = some ⟨e, dd, .fields vs, sl2⟩ ∧ vs[11]? = some (.ref P) ∧ K.lookup P = none ∧ PySem.W.codeHdIn K c P = true
theorem DefC.mk' {K : PySem.W.Frag} {x : Str} {st : Stmt} {f c P : Addr} {oc : Value} {od : Option Addr} {kV dc pm : Value} {an : Option Addr} {ct : Value} {sl : Array (Option Value)} {e : Value} {dd : Option Addr} {vs : Array Value} {sl2 : Array (Option Value)}
    (a : PySem.W.nsIn K mainGlobals x = some (some (.ref f))) (l : K.lookup f = some ⟨oc, od, .func (PySem.W.fnOf x x (defArgs st) (defBody st) (defScope st) .none kV dc pm an (.ref c) ct), sl⟩) (b : PySem.W.codeIn K (.ref c) x = true) (k : PySem.W.keepIn K (.ref f) = true)
    (m : K.lookup c = some ⟨e, dd, .fields vs, sl2⟩) (v : vs[11]? = some (.ref P)) (n : K.lookup P = none) (h : PySem.W.codeHdIn K c P = true) : DefC K x st f c P := ⟨oc, od, kV, dc, pm, an, ct, sl, e, dd, vs, sl2, a, l, b, k, m, v, n, h⟩
inductive LamsN (K : PySem.W.Frag) : List (Str × Stmt) → List (Addr × Addr × Addr) → Prop
  | nil : LamsN K [] []
  | cons {x : Str} {st : Stmt} {f c P : Addr} {L : List (Str × Stmt)} {ts : List (Addr × Addr × Addr)} : DefC K x st f c P → LamsN K L ts → P ∉ ts.map (fun t => t.2.2) → LamsN K ((x, st) :: L) ((f, c, P) :: ts)
def tabT : List (Str × Stmt) → List (Addr × Addr × Addr) → List (Addr × Str)
  | p :: L, t :: ts => (t.2.2, lamQ p.1) :: tabT L ts
  | _, _ => []
theorem tabT_mem {K : PySem.W.Frag} : ∀ {L : List (Str × Stmt)} {ts : List (Addr × Addr × Addr)}, LamsN K L ts → ∀ r ∈ tabT L ts, r.1 ∈ ts.map fun t => t.2.2
  | _, _, .nil, r, h => by cases h
  | _, _, .cons d n _, r, h => by
    rw [tabT] at h
    rw [List.map_cons]
    rcases List.mem_cons.mp h with rfl | h
    · exact List.mem_cons_self
    · exact List.mem_cons_of_mem _ (tabT_mem n r h)
theorem lams_at {K : PySem.W.Frag} : ∀ {L : List (Str × Stmt)} {ts : List (Addr × Addr × Addr)}, LamsN K L ts → ∀ p ∈ L, ∃ t ∈ ts, DefC K p.1 p.2 t.1 t.2.1 t.2.2 ∧ (t.2.2, lamQ p.1) ∈ tabT L ts ∧ ∀ r ∈ tabT L ts, r.1 = t.2.2 → r.2 = lamQ p.1
  | _, _, .nil, p, h => by cases h
  | _, _, .cons (x := x) (st := st) (f := f) (c := c) (P := P) d n hn, p, h => by
    rcases List.mem_cons.mp h with rfl | h
    · refine ⟨(f, c, P), List.mem_cons_self, d, List.mem_cons_self, fun r hr e => ?_⟩
      rw [tabT] at hr
      rcases List.mem_cons.mp hr with rfl | hr
      · rfl
      · have := tabT_mem n r hr
        rw [e] at this
        exact absurd this hn
    · obtain ⟨t, h1, h2, h3, h4⟩ := lams_at n p h
      refine ⟨t, List.mem_cons_of_mem _ h1, h2, List.mem_cons_of_mem _ h3, fun r hr e => ?_⟩
      rw [tabT] at hr
      rcases List.mem_cons.mp hr with rfl | hr
      · exact absurd (List.mem_map.mpr ⟨t, h1, e.symm⟩) hn
      · exact h4 r hr e
theorem lams_all {K : PySem.W.Frag} : ∀ {L : List (Str × Stmt)} {ts : List (Addr × Addr × Addr)}, LamsN K L ts → ∀ t ∈ ts, ∃ p ∈ L, DefC K p.1 p.2 t.1 t.2.1 t.2.2
  | _, _, .nil, t, h => by cases h
  | _, _, .cons d n _, t, h => by
    rcases List.mem_cons.mp h with rfl | h
    · exact ⟨_, List.mem_cons_self, d⟩
    · obtain ⟨p, h1, h2⟩ := lams_all n t h
      exact ⟨p, List.mem_cons_of_mem _ h1, h2⟩
/-- a def that holds lambdas, where the law runs -/
structure LamD (K : PySem.W.Frag) (mg : Str → Option Value) (base : Heap) (T : List (Addr × Str)) (x : Str) (st : Stmt) : Prop where
  ex : ∃ (f c P : Addr) (oc : Value) (od : Option Addr) (kV dc pm : Value) (an : Option Addr) (ct : Value) (sl : Array (Option Value)),
    K.lookup f = some ⟨oc, od, .func (PySem.W.fnOf x x (defArgs st) (defBody st) (defScope st) .none kV dc pm an (.ref c) ct), sl⟩ ∧ PySem.W.codeIn K (.ref c) x = true ∧ PySem.W.keepIn K (.ref f) = true ∧ mg x = some (.ref f) ∧ LamX.TabB base mg c P ∧ (P, lamQ x) ∈ T ∧ ∀ p ∈ T, p.1 = P → p.2 = lamQ x
section
variable {P : Program} {w : World} {K : PySem.W.Frag} {mg : Str → Option Value} {base : Heap} {g : G}
theorem fnOk_ofC {x : Str} {st : Stmt} {f : Addr} {fd : FuncData} {N ps : List Str} {k : Nat} {body : IS} (F : Fun K x x st f fd) (hm : mg x = some (.ref f)) (D : LamD K mg base g.T x st) (S : FnScope N ps (defScope st))
    (hbody : ∀ (f : Addr) (cdv : Value) (A : Around) (outer : List PySem.Env) (s : Shared) (H : Hp) (E : XK), At (cxOf (L2.CX P w) P w K mg base N x (defScope st) f cdv A outer s H E) E k → LamAt (cxOf (L2.CX P w) P w K mg base N x (defScope st) f cdv A outer s H E) g (lamQ x) → RSs (cxOf (L2.CX P w) P w K mg base N x (defScope st) f cdv A outer s H E) g E (defBody st) body) :
    FnOk P w K mg base (L2.CX P w) (k + 1) f fd ps (spI K g ps.length (runF N.length body)) := by
  obtain ⟨f', c, Pt, oc, od, kV, dc, pm, an, ct, sl, lk, hcd, hkp, hm', TB, hT, hu⟩ := D.ex
  rw [hm] at hm'
  cases hm'
  obtain ⟨oc2, od2, kV2, doc2, pm2, an2, cdv2, ct2, osl2, e, lk2, _⟩ := F.ex
  rw [lk] at lk2
  have e3 : fd = PySem.W.fnOf x x (defArgs st) (defBody st) (defScope st) .none kV dc pm an (.ref c) ct := by
    have h2 := Option.some.inj lk2
    have h3 := congrArg Obj.data h2
    exact (Data.func.inj h3).symm
  rw [e3]
  refine fn_of lk hcd S (fun vs H Q E h => h.1) fun A outer s H vs Q E hr h => ?_
  obtain ⟨hlen, φ, ds, St, q, rp, hp⟩ := h
  refine ⟨_, hbody f (.ref c) A outer s H E ⟨rfl, takes_of rfl rfl rfl rfl, hr, passes_of rfl⟩ ⟨c, Pt, TB, rfl, hT, hu⟩, ?_⟩
  refine ⟨φ, _, St, er_start q, rp, ?_⟩
  refine hp.bind.mono fun o S1 φ1 H1 _ _ ⟨r1, n1, k1⟩ => ?_
  cases o with
  | next ρ => exact fun σ' _ => k1 φ1 H1 (.refl r1) _ dr_non
  | ret d => exact fun v dv => k1 φ1 H1 (.refl r1) v dv
  | brk ρ => exact k1.elim
  | cont ρ => exact k1.elim
theorem fnI_ofC {x : Str} {st : Stmt} {N ps : List Str} {k : Nat} {body : IS} (D : LamD K mg base g.T x st) (S : FnScope N ps (defScope st)) (hb : BindOk x st ps)
    (hbody : ∀ (f : Addr) (cdv : Value) (A : Around) (outer : List PySem.Env) (s : Shared) (H : Hp) (E : XK), At (cxOf (L2.CX P w) P w K mg base N x (defScope st) f cdv A outer s H E) E k → LamAt (cxOf (L2.CX P w) P w K mg base N x (defScope st) f cdv A outer s H E) g (lamQ x) → RSs (cxOf (L2.CX P w) P w K mg base N x (defScope st) f cdv A outer s H E) g E (defBody st) body) :
    FnI P w K mg base g x (k + 1) ps.length (runF N.length body) := by
  obtain ⟨f, c, Pt, oc, od, kV, dc, pm, an, ct, sl, lk, hcd, hkp, hm, TB, hT, hu⟩ := D.ex
  have F := fun_mk lk hcd hkp
  exact ⟨f, _, ps, fnOk_ofC F hm D S hbody, hm, hkp, F.binds hb⟩
end
theorem law_endM {l : PySem.W.OpenLaw} {k : Nat} {q : Program} {loose : List Str} {XP : (Str → Option Value) → Heap → Prop} {YP : World → Heap → Prop} {d : DefRec} {K : Params → PySem.W.Frag} {x : Str} {st : Stmt} {ws : List (Str × Str)} {F : List D → Sto → R D} {L : List (Str × Stmt)}
    (hn : l.most = some 63) (hdf : d.params.defaults = []) (hr : Room k callerA) (hd : d.name = ("law" : Str)) (hrec : (L.all fun p => (recsOf q).any fun e => e.name == p.1) = true)
    (hY : ∀ (w : World) (h : Heap), YP w h → (K w.params).In h)
    (hD : ∀ (w : World) (h : Heap), (K w.params).In h → DefAt (K w.params) "law" st)
    (hL : ∀ (w : World) (h : Heap), (K w.params).In h → ∃ ts, LamsN (K w.params) L ts)
    (hb : ∀ (kV doc pm : Value) (an : Option Addr) (cdv ct : Value) (s : Shared) (u : Value), BindsTo s (PySem.W.fnOf "law" "law" (defArgs st) (defBody st) (defScope st) .none kV doc pm an cdv ct) ⟨[u], []⟩ [(x, u)])
    (hF : ∀ (w : World) (mg : Str → Option Value) (h : Heap), (K w.params).In h → h.Ns mainGlobals mg → ∀ (f : Addr) (fd : FuncData) (T : List (Addr × Str)), Fun (K w.params) "law" "law" st f fd → mg "law" = some (.ref f) → ∀ base : Heap, (∀ p ∈ L, LamD (K w.params) mg base T p.1 p.2) → FnOk l.prog w (K w.params) mg base (L2.CX l.prog w) k f fd [x] (spI (K w.params) (gK (K w.params) ws T) 1 F))
    (hT : ∀ ns : List Int, ns.length ≤ 63 → (∀ z ∈ ns, Builtin.Int.intBits z ≤ 1048576) → ∃ S', F [.rl ns] [] = .ok (.bl true) S') :
    PySem.W.WalkO q loose XP YP l.row.toRowW d [] (fun f vs => PySem.call f vs) := by
  refine _root_.Att.attach_callB hn hdf fun w s₀ s₁ mg mb fa o pm cd doc a vs ns G Y ho hd' hcd hmg hobj hints hlen hbits hg => ?_
  have KX := hY w _ Y
  obtain ⟨ts, hts⟩ := hL w _ KX
  have own : ∀ x, ((recsOf q).any fun e => e.name == x) = true → ∀ fa, mg x = some (.ref fa) → LamX.OwnTab (K w.params) fa s₁.heap := fun x hx fa hm0 c P o1 fd1 e dd vs1 sl k1 k2 k3 k4 k5 => by
    obtain ⟨dL, hm, hn1⟩ := List.any_eq_true.mp hx
    have hn2 : dL.name = x := beq_iff_eq.mp hn1
    obtain ⟨a', o', fd', c', P', h1, h2, h3, h4, h5, h6⟩ := G.T.tab dL hm
    rw [hn2, hm0] at h1
    cases h1
    have g1 := KX _ _ k1
    rw [g1] at h2
    cases h2
    rw [k2] at h3
    cases h3
    rw [k3] at h4
    cases h4
    obtain ⟨⟨oc, vc, e1, _, e3, e4⟩, hP⟩ := h6
    have g2 := KX _ _ k4
    rw [g2] at e1
    cases e1
    cases e3
    rw [k5] at e4
    cases e4
    exact hP
  obtain ⟨f, oc, od, kV, dc, pm', an, cd', ct, sl, a1, lk, cc, kk⟩ := (hD w _ KX).ex
  have e1 := PySem.W.mg_of KX G.T.g a1
  rw [hd] at hmg
  rw [hmg] at e1
  injection e1 with e1
  injection e1 with e1
  subst e1
  have hrec2 := List.all_eq_true.mp hrec
  have cs : ∀ t ∈ ts, s₁.heap.get? t.2.2 = some { cls := .none, data := .fields #[] } ∧ (K w.params).lookup t.2.2 = none ∧ PySem.W.CodeHd s₁.heap t.2.1 t.2.2 := fun t ht => by
    obtain ⟨p, hp, D⟩ := lams_all hts t ht
    obtain ⟨oc, od, kV, dc, pm, an, ct, sl, e, dd, vs, sl2, b1, b2, b3, b4, b5, b6, b7, b8⟩ := D.ex
    exact ⟨own p.1 (hrec2 p hp) t.1 (PySem.W.mg_of KX G.T.g b1) t.2.1 t.2.2 _ _ e dd vs sl2 b2 rfl rfl b5 b6, b7, PySem.W.codeHd_of_K KX b8⟩
  have at_ : LamX.LawAtS l w (K w.params) cxNo k 63 x mg fa s₁.heap := by
    refine ⟨_, ts.map fun t => (t.2.1, t.2.2), spEnd (K w.params) (gK (K w.params) ws (tabT L ts)) F, fun p hp => ?_, fun p hp => ?_, fun p hp => ?_, fun s u => hb kV dc pm' an _ ct s u, fun H a ns hl hbits hO hS => ?_, fun base KB NB TB => fnOk_end (hF w mg _ KX G.T.g _ _ _ (fun_mk lk cc kk) hmg base fun p hp => ?_)⟩
    · obtain ⟨t, ht, rfl⟩ := List.mem_map.mp hp
      exact (cs t ht).1
    · obtain ⟨t, ht, rfl⟩ := List.mem_map.mp hp
      exact (cs t ht).2.1
    · obtain ⟨t, ht, rfl⟩ := List.mem_map.mp hp
      exact (cs t ht).2.2
    · refine ⟨a, ns, rfl, hS, fun p hp => ?_, hT ns hl hbits, fun _ => rfl, fun _ _ _ z => z⟩
      obtain ⟨t, ht, e⟩ := List.mem_map.mp (tabT_mem hts p hp)
      have h5 := hO (t.2.1, t.2.2) (List.mem_map.mpr ⟨t, ht, rfl⟩)
      rw [← e]
      exact .nil h5
    · obtain ⟨t, ht, D, h3, h4⟩ := lams_at hts p hp
      obtain ⟨oc, od, kV, dc, pm, an, ct, sl, e, dd, vs, sl2, b1, b2, b3, b4, b5, b6, b7, b8⟩ := D.ex
      exact ⟨t.1, t.2.1, t.2.2, oc, od, kV, dc, pm, an, ct, sl, b2, b3, b4, PySem.W.mg_of KX G.T.g b1, TB (t.2.1, t.2.2) (List.mem_map.mpr ⟨t, ht, rfl⟩), h3, h4⟩
  obtain ⟨fd, cs2, sp, hT2, nT, C, hb2, hsp, hF2⟩ := at_
  exact LamX.law_callTs KX G.T.g G.T.b G.T.builtins G.T.nolimit hg hT2 nT C G.T.bmain hobj hints (Nat.le_trans hlen (by rw [sizeLine_eq]; decide)) hr hF2 hb2 (fun H hH hS => hsp H a ns hlen hbits hH hS) fun _ _ _ z => z
end J

set_option Elab.async false
set_option linter.all false
set_option maxRecDepth 100000
set_option maxHeartbeats 4000000
namespace J
open PySem PySem.Spec PyProof.Rows L2
/-! ### the end of a law that raises, without lambdas -/
theorem law_endW {l : PySem.W.OpenLaw} {k : Nat} {q : Program} {loose : List Str} {XP : (Str → Option Value) → Heap → Prop} {YP : World → Heap → Prop} {d : DefRec} {K : Params → PySem.W.Frag} {x : Str} {st : Stmt} {ws : List (Str × Str)} {F : List D → Sto → R D}
    (hn : l.most = some 63) (hdf : d.params.defaults = []) (hr : Room k callerA) (hd : d.name = ("law" : Str))
    (hY : ∀ (w : World) (h : Heap), YP w h → (K w.params).In h)
    (hD : ∀ (w : World) (h : Heap), (K w.params).In h → DefAt (K w.params) "law" st)
    (hb : ∀ (kV doc pm : Value) (an : Option Addr) (cdv ct : Value) (s : Shared) (u : Value), BindsTo s (PySem.W.fnOf "law" "law" (defArgs st) (defBody st) (defScope st) .none kV doc pm an cdv ct) ⟨[u], []⟩ [(x, u)])
    (hF : ∀ (w : World) (mg : Str → Option Value) (h : Heap), (K w.params).In h → h.Ns mainGlobals mg → ∀ (f : Addr) (fd : FuncData), Fun (K w.params) "law" "law" st f fd → ∀ base : Heap, FnOk l.prog w (K w.params) mg base (L2.CX l.prog w) k f fd [x] (spI (K w.params) (gK (K w.params) ws []) 1 F))
    (hT : ∀ ns : List Int, ns.length ≤ 63 → (∀ z ∈ ns, Builtin.Int.intBits z ≤ 1048576) → ∃ S', F [.rl ns] [] = .ok (.bl true) S') :
    PySem.W.WalkO q loose XP YP l.row.toRowW d [] (fun f vs => PySem.call f vs) := by
  refine L2.walk_ofB (K := K) (n := 63) (k := k) (x := x) (CX := fun w => L2.CX l.prog w) (sp := fun w => spI (K w.params) (gK (K w.params) ws []) 1 F) hn (by rw [sizeLine_eq]; decide) hdf hr hY ?_ ?_ ?_
  · intro w mg fa h KX G hmg
    obtain ⟨f, oc, od, kV, dc, pm, an, cd, ct, sl, a, lk, c, kk⟩ := (hD w h KX).ex
    have e := PySem.W.mg_of KX G a
    rw [hd] at hmg
    rw [hmg] at e
    injection e with e
    injection e with e
    subst e
    exact ⟨_, fun s u => hb kV dc pm an cd ct s u, fun base _ _ => hF w mg h KX G _ _ (fun_mk lk c kk) base⟩
  · intro w H a ns hl hbits hO hS
    have hp : SqP (K w.params) H a (ns.map V.int) := by
      rcases hS with (hS | ⟨o, hS⟩) | hS
      · rcases hO a with z | ⟨o, xs, z⟩
        · rw [hS] at z; cases z
        · rw [hS] at z; cases z
      · exact .inl ⟨o, hS⟩
      · exact .inr hS
    obtain ⟨S', hS'⟩ := hT ns hl hbits
    refine ⟨rfl, [], [.rl ns], [], .cons (by simp only [DR]; exact ⟨a, rfl, hp⟩) .nil, ⟨rfl, fun i a c h => by simp at h, List.nodup_nil, fun p hp => by cases hp⟩, ?_⟩
    rw [hS']
    exact fun φ' H' _ v dv => bl_inv dv
  · intro w H s e s' hc
    obtain ⟨_, _, _, _, _, _, _, _, _, _, _, _, z⟩ := hc
    exact z
end J

set_option Elab.async false
set_option linter.all false
set_option maxRecDepth 100000
set_option maxHeartbeats 4000000
namespace J
open PySem PySem.Spec PyProof.Rows L2
/-! ### data that is the same -/
theorem mapM_cons_inv {f : D → Option PyData} {x : D} {xs : List D} {ps : List PyData} (h : (x :: xs).mapM f = some ps) : ∃ p qs, ps = p :: qs ∧ f x = some p ∧ xs.mapM f = some qs := by
  rw [List.mapM_cons] at h
  cases h1 : f x with
  | none => rw [h1] at h; cases h
  | some p =>
    rw [h1] at h
    cases h2 : xs.mapM f with
    | none => rw [h2] at h; cases h
    | some qs =>
      rw [h2] at h
      cases h
      exact ⟨p, qs, rfl, rfl, rfl⟩
theorem mapM_cons_mk {f : D → Option PyData} {x : D} {xs : List D} {p : PyData} {qs : List PyData} (h1 : f x = some p) (h2 : xs.mapM f = some qs) : (x :: xs).mapM f = some (p :: qs) := by
  rw [List.mapM_cons, h1, h2]; rfl
theorem mapM_app_mk {f : D → Option PyData} : ∀ {xs ys : List D} {ps qs : List PyData}, xs.mapM f = some ps → ys.mapM f = some qs → (xs ++ ys).mapM f = some (ps ++ qs)
  | [], _, ps, _, h1, h2 => by
    cases h1
    exact h2
  | x :: xs, _, ps, _, h1, h2 => by
    obtain ⟨p, ps', rfl, e1, e2⟩ := mapM_cons_inv h1
    exact mapM_cons_mk e1 (mapM_app_mk e2 h2)
theorem mapM_map_mk {α : Type} {f : D → Option PyData} {g : α → D} {h : α → PyData} : ∀ {xs : List α}, (∀ x ∈ xs, f (g x) = some (h x)) → (xs.map g).mapM f = some (xs.map h)
  | [], _ => rfl
  | x :: xs, e => mapM_cons_mk (e x (by simp)) (mapM_map_mk fun y hy => e y (by simp [hy]))
theorem mapM_imp {f f' : D → Option PyData} (e : ∀ x p, f x = some p → f' x = some p) : ∀ {xs : List D} {ps : List PyData}, xs.mapM f = some ps → xs.mapM f' = some ps
  | [], _, h => by cases h; rfl
  | x :: xs, _, h => by
    obtain ⟨p, qs, rfl, h1, h2⟩ := mapM_cons_inv h
    exact mapM_cons_mk (e x p h1) (mapM_imp e h2)
theorem mapM_len {f : D → Option PyData} : ∀ {xs : List D} {ps : List PyData}, xs.mapM f = some ps → ps.length = xs.length
  | [], _, h => by cases h; rfl
  | x :: xs, _, h => by
    obtain ⟨p, qs, rfl, h1, h2⟩ := mapM_cons_inv h
    simp [mapM_len h2]
theorem mapM_drop {f : D → Option PyData} : ∀ {xs : List D} {ps : List PyData} (k : Nat), xs.mapM f = some ps → (xs.drop k).mapM f = some (ps.drop k)
  | _, _, 0, h => by simpa using h
  | [], _, k + 1, h => by cases h; rfl
  | x :: xs, _, k + 1, h => by
    obtain ⟨p, qs, rfl, h1, h2⟩ := mapM_cons_inv h
    exact mapM_drop k h2
theorem mapM_take {f : D → Option PyData} : ∀ {xs : List D} {ps : List PyData} (k : Nat), xs.mapM f = some ps → (xs.take k).mapM f = some (ps.take k)
  | _, _, 0, h => by simp
  | [], _, k + 1, h => by cases h; rfl
  | x :: xs, _, k + 1, h => by
    obtain ⟨p, qs, rfl, h1, h2⟩ := mapM_cons_inv h
    exact mapM_cons_mk h1 (mapM_take k h2)
theorem mapM_get {f : D → Option PyData} : ∀ {xs : List D} {ps : List PyData} {k : Nat} {x : D}, xs.mapM f = some ps → xs[k]? = some x → ∃ p, ps[k]? = some p ∧ f x = some p
  | [], _, _, _, h, e => by simp at e
  | x :: xs, _, 0, _, h, e => by
    obtain ⟨p, qs, rfl, h1, h2⟩ := mapM_cons_inv h
    simp at e
    subst e
    exact ⟨p, rfl, h1⟩
  | x :: xs, _, k + 1, _, h, e => by
    obtain ⟨p, qs, rfl, h1, h2⟩ := mapM_cons_inv h
    obtain ⟨r, e1, e2⟩ := mapM_get (k := k) h2 (by simpa using e)
    exact ⟨r, by simpa using e1, e2⟩
theorem eqvAll_refl {f : D → Option PyData} (e : ∀ x p, f x = some p → PyData.eqv p p = true) : ∀ {xs : List D} {ps : List PyData}, xs.mapM f = some ps → PyData.eqvAll ps ps = true
  | [], _, h => by cases h; rfl
  | x :: xs, _, h => by
    obtain ⟨p, qs, rfl, h1, h2⟩ := mapM_cons_inv h
    rw [PyData.eqvAll, e x p h1, eqvAll_refl e h2]
    rfl
theorem toP_refl {S : Sto} : ∀ (n : Nat) (d : D) (p : PyData), toP n S d = some p → PyData.eqv p p = true
  | 0, d, p, h => by cases h
  | n + 1, d, p, h => by
    cases d with
    | non => cases h; simp [PyData.eqv]
    | bl b => cases h; simp [PyData.eqv]
    | int i => cases h; simp [PyData.eqv]
    | str x =>
      simp only [toP] at h
      split at h
      · cases h; simp [PyData.eqv]
      · cases h
    | ty x => cases h
    | rl x => cases h
    | tup xs =>
      simp only [toP, Option.map_eq_some_iff] at h
      obtain ⟨ps, h, rfl⟩ := h
      rw [PyData.eqv]
      exact eqvAll_refl (toP_refl n) h
    | ref m =>
      simp only [toP] at h
      split at h
      · simp only [Option.map_eq_some_iff] at h
        obtain ⟨ps, h, rfl⟩ := h
        rw [PyData.eqv]
        exact eqvAll_refl (toP_refl n) h
      · cases h
theorem toP_up {S : Sto} : ∀ (n : Nat) (d : D) (p : PyData), toP n S d = some p → toP (n + 1) S d = some p
  | 0, d, p, h => by cases h
  | n + 1, d, p, h => by
    cases d with
    | tup xs =>
      simp only [toP, Option.map_eq_some_iff] at h ⊢
      obtain ⟨ps, h, rfl⟩ := h
      exact ⟨ps, mapM_imp (fun x p => toP_up n x p) h, rfl⟩
    | ref m =>
      simp only [toP] at h ⊢
      split at h
      · rename_i xs hx
        simp only [Option.map_eq_some_iff] at h
        obtain ⟨ps, h, rfl⟩ := h
        rw [Option.map_eq_some_iff]
        exact ⟨ps, mapM_imp (fun x p => toP_up n x p) h, rfl⟩
      · cases h
    | _ => exact h
theorem toP_le {S : Sto} {n m : Nat} {d : D} {p : PyData} (h : toP n S d = some p) (hm : n ≤ m) : toP m S d = some p := by
  obtain ⟨k, rfl⟩ := Nat.le.dest hm
  clear hm
  induction k with
  | zero => exact h
  | succ k ih => exact toP_up _ _ _ ih
theorem toP_tup {S : Sto} {n : Nat} {xs : List D} {ps : List PyData} (h : xs.mapM (toP n S) = some ps) : toP (n + 1) S (.tup xs) = some (.tuple ps) := by
  simp only [toP, h]; rfl
section
variable {Q : D → Sto → Prop} {X : Str → Sto → Prop} {S : Sto} {d e : D} {p : PyData}
theorem wp_eqP (h1 : toP 8 S d = some p) (h2 : toP 8 S e = some p) (q : Q (.bl true) S) : wp (oEq d e S) Q X := wp_eqD h1 h2 (by rw [toP_refl 8 d p h1]; exact q)
theorem wp_neP (h1 : toP 8 S d = some p) (h2 : toP 8 S e = some p) (q : Q (.bl false) S) : wp (oNe d e S) Q X := wp_neD h1 h2 (by rw [toP_refl 8 d p h1]; exact q)
/-- a list told once, as data -/
theorem wp_eqLP {n m k : Nat} {xs ys : List D} {ps : List PyData} (e1 : lstOf S n = some xs) (e2 : lstOf S m = some ys) (h1 : xs.mapM (toP k S) = some ps) (h2 : ys.mapM (toP k S) = some ps) (hk : k ≤ 7) (q : Q (.bl true) S) : wp (oEq (.ref n) (.ref m) S) Q X :=
  wp_eqP (toP_le (toP_list e1 h1) (by omega)) (toP_le (toP_list e2 h2) (by omega)) q
theorem wp_neLP {n m k : Nat} {xs ys : List D} {ps : List PyData} (e1 : lstOf S n = some xs) (e2 : lstOf S m = some ys) (h1 : xs.mapM (toP k S) = some ps) (h2 : ys.mapM (toP k S) = some ps) (hk : k ≤ 7) (q : Q (.bl false) S) : wp (oNe (.ref n) (.ref m) S) Q X :=
  wp_neP (toP_le (toP_list e1 h1) (by omega)) (toP_le (toP_list e2 h2) (by omega)) q
end
end J

set_option Elab.async false
set_option linter.all false
set_option maxRecDepth 100000
set_option maxHeartbeats 4000000
namespace J
open PySem PySem.Spec PyProof.Rows L2
/-! ### what the top has left, told by names -/
section
variable {K : PySem.W.Frag}
theorem fun_of {x q : Str} {st : Stmt} {f : Addr} (h : ∃ fd, FunD K x q (defArgs st) (defBody st) (defScope st) [] [] f fd) : ∃ (oc : Value) (od : Option Addr) (kV dc pm : Value) (an : Option Addr) (cd ct : Value) (sl : Array (Option Value)),
    K.lookup f = some ⟨oc, od, .func (PySem.W.fnOf x q (defArgs st) (defBody st) (defScope st) .none kV dc pm an cd ct), sl⟩ ∧ PySem.W.codeIn K cd q = true ∧ PySem.W.keepIn K (.ref f) = true := by
  obtain ⟨fd, F⟩ := h
  obtain ⟨oc, od, dV, kV, doc, pm, an, cdv, ct, osl, rfl, lk, hcd, hd, _⟩ := F.ex
  rcases hd with ⟨_, rfl⟩ | ⟨hne, _⟩
  · exact ⟨oc, od, kV, doc, pm, an, cdv, ct, osl, lk, hcd, F.kp⟩
  · exact absurd rfl hne
theorem defAt_of {x : Str} {st : Stmt} (g : (He.Fa.glo x).ok K = true) (h : ∃ fd, FunD K x x (defArgs st) (defBody st) (defScope st) ((defJ x st).dvs K) ((defJ x st).kws K) (He.fAd K (x, none)) fd) : DefAt K x st := by
  obtain ⟨oc, od, kV, dc, pm, an, cd, ct, sl, l, c, k⟩ := fun_of h
  exact ⟨_, oc, od, kV, dc, pm, an, cd, ct, sl, He.eqO_ok g, l, c, k⟩
theorem metAt_of {C m q : Str} {st : Stmt} (g : (He.Fa.glo C).ok K = true) (g2 : (He.Fa.meth C m).ok K = true) (h : ∃ fd, FunD K m q (defArgs st) (defBody st) (defScope st) ((metJ C m q st).dvs K) ((metJ C m q st).kws K) (He.fAd K (C, some m)) fd) : MetAt K C m q st := by
  obtain ⟨oc, od, kV, dc, pm, an, cd, ct, sl, l, c, k⟩ := fun_of h
  have M := He.meth_ok g2
  exact ⟨_, _, _, He.eqO_ok g, M.at_, M.fn, fun_mk l c k⟩
theorem clsAt_of {C : Str} (g : (He.Fa.glo C).ok K = true) (c : (He.Fa.cls C).ok K = true) (m : (He.Fa.mkr C).ok K = true) : ClsAt K C := ⟨_, He.eqO_ok g, He.cls_ok c, (He.mkr_ok m).makes, (He.mkr_ok m).kp⟩
theorem noAt_of {C f : Str} (g : (He.Fa.glo C).ok K = true) (c : (He.Fa.noat C f).ok K = true) : NoAt K C f := ⟨_, He.eqO_ok g, He.noat_ok c⟩
/-! constants -/
theorem gcInt_of {x : Str} {i : Int} (h : (He.Fa.int x i).ok K = true) : GCAt K x (.int i) := by
  have c2 : (match PySem.W.nsIn K mainGlobals x with
    | some (some (.int j _)) => decide (j = i)
    | _ => false) = true := h
  split at c2
  · rename_i j t e
    obtain rfl := of_decide_eq_true c2
    exact GCAt.int e
  · cases c2
theorem gcStr_of {x : Str} {z : Str} (h : (He.Fa.str x z).ok K = true) : GCAt K x (.str z) := by
  have c2 : (match PySem.W.nsIn K mainGlobals x with
    | some (some (.str j _)) => decide (j = z)
    | _ => false) = true := h
  split at c2
  · rename_i j t e
    obtain rfl := of_decide_eq_true c2
    exact GCAt.str e
  · cases c2
theorem gcTwo_of {x : Str} {i j : Int} (g : (He.Fa.glo x).ok K = true) (h : He.tupB K x [.int i, .int j] = true) : GCAt K x (.tup [.int i, .int j]) :=
  ⟨_, .ref (He.ga K x), He.eqO_ok g, rfl, fun φ H => dr_tup (He.tupB_ok h H) (.cons dr_int (.cons dr_int .nil))⟩
/-! own exceptions -/
theorem exoB_ok {C : Addr} (h : exoB K C = true) : ∃ nm q N bs bm sn sub ab col dd k0 k1 k2 k3 k5, K.lookup C = some (excClassObj nm q C N bs bm true sn sub ab col dd k0 k1 k2 k3 k5 "ValueError.__new__") ∧ PySem.HandSPX.refsVE bm = true := by
  unfold exoB at h
  split at h
  · rename_i t dd cd sl e
    obtain ⟨h1, h⟩ := He.ba h
    obtain ⟨h2, h⟩ := He.ba h
    obtain ⟨h3, h⟩ := He.ba h
    obtain ⟨h4, h5⟩ := He.ba h
    have h1 := of_decide_eq_true h1
    obtain ⟨nm, bs, mro, N, q, hdct, sn, sub, ab, col, hdel⟩ := cd
    dsimp only at h2 h3 h4
    cases mro with
    | nil => cases h2
    | cons v bm =>
      cases v with
      | ref C' =>
        obtain ⟨h6, h7⟩ := He.ba h2
        have h6 := of_decide_eq_true h6
        split at h5
        · rename_i k0 k1 k2 k3 n k5 hs
          have h5 := of_decide_eq_true h5
          have hd : hdel = false := by cases hdel with
            | false => rfl
            | true => cases h4
          subst h1 h3 h5 h6 hd
          have es : sl = #[k0, k1, k2, k3, some (.builtin "ValueError.__new__"), k5] := by
            have := congrArg List.toArray hs
            simpa using this
          subst es
          exact ⟨nm, q, N, bs, bm, sn, sub, ab, col, dd, k0, k1, k2, k3, k5, e, h7⟩
        · cases h5
      | _ => cases h2
  · cases h
theorem exAt_of {x q : Str} {st : Stmt} (g : (He.Fa.glo x).ok K = true) (g2 : (He.Fa.meth x "__init__").ok K = true) (b : excB K x = true) (h : ∃ fd, FunD K "__init__" q (defArgs st) (defBody st) (defScope st) ((metJ x "__init__" q st).dvs K) ((metJ x "__init__" q st).kws K) (He.fAd K (x, some "__init__")) fd) : ∃ C f, ExAt K x q st C f := by
  obtain ⟨oc, od, kV, dc, pm, an, cd, ct, sl, l, c, k⟩ := fun_of h
  have M := He.meth_ok g2
  obtain ⟨b1, b⟩ := He.ba b
  obtain ⟨b2, b⟩ := He.ba b
  obtain ⟨b3, b⟩ := He.ba b
  obtain ⟨b4, b⟩ := He.ba b
  obtain ⟨b5, b⟩ := He.ba b
  obtain ⟨b6, b7⟩ := He.ba b
  have X := xfB_ok b3
  exact ⟨_, _, He.eqO_ok g, ⟨exoB_ok b1, of_decide_eq_true b2, X.exC, of_decide_eq_true b7, b6⟩, X, of_decide_eq_true b4, M.at_, of_decide_eq_true b5, _, fun_mk l c k⟩
theorem baseAt_of {x q : Str} {st : Stmt} (g : (He.Fa.glo x).ok K = true) (g2 : (He.Fa.meth x "__init__").ok K = true) (b : excB K x = true) (b' : baseB K x = true) (h : ∃ fd, FunD K "__init__" q (defArgs st) (defBody st) (defScope st) ((metJ x "__init__" q st).dvs K) ((metJ x "__init__" q st).kws K) (He.fAd K (x, some "__init__")) fd) : ∃ C f, BaseAt K x q st C f := by
  obtain ⟨C, f, e⟩ := exAt_of g g2 b h
  have e1 : C = He.ga K x := by
    have := e.nm.symm.trans (He.eqO_ok g)
    injection this with this
    injection this with this
    injection this
  have e2 : f = He.ma K (He.ga K x) "__init__" := by
    have h1 := e.i1
    rw [e1] at h1
    have := h1.symm.trans (He.meth_ok g2).at_
    injection this with this
    injection this with this
    injection this
  obtain ⟨b1, b'⟩ := He.ba b'
  obtain ⟨b2, b'⟩ := He.ba b'
  obtain ⟨b3, b4⟩ := He.ba b'
  refine ⟨C, f, e, ⟨by rw [e1]; exact b1, by rw [e1]; exact of_decide_eq_true b2⟩, ⟨?_, rfl⟩, by rw [e1]; exact b4⟩
  rw [e1, e2]
  split at b3
  · rename_i f' hf
    rw [hf, of_decide_eq_true b3]
  · cases b3
theorem veB_ok (h : veB K = true) : PySem.W.findCls K (.type "ValueError") (.type "type") "__init__" = some (.val (.builtin "ValueError.__init__")) := by
  unfold veB at h
  split at h
  · rename_i n hn
    rw [hn, of_decide_eq_true h]
  · cases h
theorem subAt_of {x b : Str} (g : (He.Fa.glo x).ok K = true) (g2 : (He.Fa.glo b).ok K = true) (h : subB K x b = true) : ∃ C B, PySem.W.nsIn K mainGlobals x = some (some (.ref C)) ∧ PySem.W.nsIn K mainGlobals b = some (some (.ref B)) ∧ PySem.W.subIn K (.ref C) (.ref B) = some true := ⟨_, _, He.eqO_ok g, He.eqO_ok g2, of_decide_eq_true h⟩
/-! defs with lambdas -/
theorem defC_of {x : Str} {st : Stmt} (g : (He.Fa.glo x).ok K = true) (h : ∃ fd, FunD K x x (defArgs st) (defBody st) (defScope st) ((defJ x st).dvs K) ((defJ x st).kws K) (He.fAd K (x, none)) fd) (hd : PySem.W.codeHdIn K (He.cT K (x, none)).1 (He.cT K (x, none)).2 = true) (out : K.lookup (He.cT K (x, none)).2 = none) : DefC K x st (He.ga K x) (He.cT K (x, none)).1 (He.cT K (x, none)).2 := by
  obtain ⟨oc, od, kV, dc, pm, an, cd, ct, sl, l, c, k⟩ := fun_of h
  obtain ⟨cc, rfl⟩ := He.codeIn_ref c
  have e : (He.cT K (x, none)).1 = cc := He.codeOf_eq l rfl
  have hd0 := hd
  rw [e] at hd
  unfold PySem.W.codeHdIn at hd
  split at hd
  · rename_i dd vs sl2 hk
    simp only [Bool.and_eq_true] at hd
    obtain ⟨⟨⟨⟨⟨e1, e2⟩, e3⟩, e4⟩, e5⟩, e6⟩ := hd
    split at e1
    · rename_i P' hP
      have e1 := beq_iff_eq.mp e1
      subst e1
      exact ⟨oc, od, kV, dc, pm, an, ct, sl, _, dd, vs, sl2, He.eqO_ok g, by rw [e]; exact l, by rw [e]; exact c, k, by rw [e]; exact hk, hP, out, hd0⟩
    · cases e1
  · cases hd
theorem lamsN_of {K : PySem.W.Frag} : ∀ {L : List (Str × Stmt)}, (∀ p ∈ L, DefC K p.1 p.2 (He.ga K p.1) (He.cT K (p.1, none)).1 (He.cT K (p.1, none)).2) → (L.map fun p => (He.cT K (p.1, none)).2).Nodup → LamsN K L (L.map fun p => (He.ga K p.1, (He.cT K (p.1, none)).1, (He.cT K (p.1, none)).2))
  | [], _, _ => .nil
  | p :: L, h, nd => by
    rw [List.map_cons] at nd
    obtain ⟨n1, n2⟩ := List.nodup_cons.mp nd
    refine .cons (h p (by simp)) (lamsN_of (fun q hq => h q (by simp [hq])) n2) ?_
    rw [List.map_map]
    exact n1
end
/-! ### the end of a law over such a head -/
section
variable {l : PySem.W.OpenLaw} {k : Nat} {q : Program} {loose : List Str} {XP : (Str → Option Value) → Heap → Prop} {d : DefRec} {x : Str} {st : Stmt} {ws : List (Str × Str)} {F : List D → Sto → R D} {L : List (Str × Stmt)} {fa : List He.Fa} {fn : List He.DefD} {ts : List He.Tab} {tf : List He.Defn} {ex : PySem.W.Frag → Bool}
theorem law_endX
    (hn : l.most = some 63) (hdf : d.params.defaults = []) (hr : Room k callerA) (hd : d.name = ("law" : Str)) (htf : tf = L.map fun p => (p.1, none))
    (hD : ∀ (w : World) (h : Heap) (K : PySem.W.Frag), He.SaysX fa fn ts tf ex w h K → DefAt K "law" st)
    (hL : ∀ (w : World) (h : Heap) (K : PySem.W.Frag), He.SaysX fa fn ts tf ex w h K → LamsN K L (L.map fun p => (He.ga K p.1, (He.cT K (p.1, none)).1, (He.cT K (p.1, none)).2)))
    (hb : ∀ (kV doc pm : Value) (an : Option Addr) (cdv ct : Value) (s : Shared) (u : Value), BindsTo s (PySem.W.fnOf "law" "law" (defArgs st) (defBody st) (defScope st) .none kV doc pm an cdv ct) ⟨[u], []⟩ [(x, u)])
    (hF : ∀ (w : World) (mg : Str → Option Value) (h : Heap) (K : PySem.W.Frag), K.In h → h.Ns mainGlobals mg → He.SaysX fa fn ts tf ex w h K → ∀ (f : Addr) (fd : FuncData) (T : List (Addr × Str)), Fun K "law" "law" st f fd → mg "law" = some (.ref f) → ∀ base : Heap, (∀ p ∈ L, LamD K mg base T p.1 p.2) → FnOk l.prog w K mg base (L2.CX l.prog w) k f fd [x] (spI K (gK K ws T) 1 F))
    (hT : ∀ ns : List Int, ns.length ≤ 63 → (∀ z ∈ ns, Builtin.Int.intBits z ≤ 1048576) → ∃ S', F [.rl ns] [] = .ok (.bl true) S') :
    PySem.W.WalkO q loose XP (hookJ fa fn ts tf ex).says l.row.toRowW d [] (fun f vs => PySem.call f vs) := by
  refine LamX.walk_ofTsE (x := x) (CX := fun _ => cxNo) hn (by rw [sizeLine_eq]; decide) hdf hr (fun w mg fa0 h Y G hmg => ?_) (fun _ _ _ _ _ z => z)
  obtain ⟨K, KX, c⟩ := Y
  obtain ⟨f, oc, od, kV, dc, pm', an, cd', ct, sl, a1, lk, cc, kk⟩ := (hD w h K c).ex
  have e1 := PySem.W.mg_of KX G a1
  rw [hd] at hmg
  rw [hmg] at e1
  injection e1 with e1
  injection e1 with e1
  subst e1
  have hts := hL w h K c
  refine ⟨K, KX, _, (L.map fun p => (He.ga K p.1, (He.cT K (p.1, none)).1, (He.cT K (p.1, none)).2)).map fun t => (t.2.1, t.2.2), spEnd K (gK K ws (tabT L (L.map fun p => (He.ga K p.1, (He.cT K (p.1, none)).1, (He.cT K (p.1, none)).2)))) F, fun p hp => ?_, fun p hp => ?_, fun p hp => ?_, fun s u => hb kV dc pm' an _ ct s u, fun H a ns hl hbits hO hS => ?_, fun base KB NB TB => fnOk_end (hF w mg h K KX G c _ _ _ (fun_mk lk cc kk) hmg base fun p hp => ?_)⟩
  · obtain ⟨t, ht, rfl⟩ := List.mem_map.mp hp
    obtain ⟨p, hp2, rfl⟩ := List.mem_map.mp ht
    exact c.empty (p.1, none) (by rw [htf]; exact List.mem_map.mpr ⟨p, hp2, rfl⟩)
  · obtain ⟨t, ht, rfl⟩ := List.mem_map.mp hp
    obtain ⟨p, hp2, rfl⟩ := List.mem_map.mp ht
    exact c.out (p.1, none) (by rw [htf]; exact List.mem_map.mpr ⟨p, hp2, rfl⟩)
  · obtain ⟨t, ht, rfl⟩ := List.mem_map.mp hp
    obtain ⟨p, hp2, rfl⟩ := List.mem_map.mp ht
    exact PySem.W.codeHd_of_K KX (c.hd (p.1, none) (by rw [htf]; exact List.mem_map.mpr ⟨p, hp2, rfl⟩))
  · refine ⟨a, ns, rfl, hS, fun p hp => ?_, hT ns hl hbits, fun _ => rfl, fun _ _ _ z => z⟩
    obtain ⟨t, ht, e⟩ := List.mem_map.mp (tabT_mem hts p hp)
    have h5 := hO (t.2.1, t.2.2) (List.mem_map.mpr ⟨t, ht, rfl⟩)
    rw [← e]
    exact .nil h5
  · obtain ⟨t, ht, D, h3, h4⟩ := lams_at hts p hp
    obtain ⟨oc, od, kV, dc, pm, an, ct, sl, e, dd, vs, sl2, b1, b2, b3, b4, b5, b6, b7, b8⟩ := D.ex
    exact ⟨t.1, t.2.1, t.2.2, oc, od, kV, dc, pm, an, ct, sl, b2, b3, b4, PySem.W.mg_of KX G b1, TB (t.2.1, t.2.2) (List.mem_map.mpr ⟨t, ht, rfl⟩), h3, h4⟩
end
end J
namespace J
theorem fall_nil {α : Type} {P : α → Prop} : ∀ p ∈ ([] : List α), P p := fun p h => by cases h
theorem fall_cons {α : Type} {P : α → Prop} {a : α} {l : List α} (h : P a) (t : ∀ p ∈ l, P p) : ∀ p ∈ a :: l, P p := fun p hp => by
  rcases List.mem_cons.mp hp with rfl | hp
  · exact h
  · exact t p hp
end J

set_option Elab.async false
set_option linter.all false
set_option maxRecDepth 100000
set_option maxHeartbeats 4000000
namespace J
open PySem PySem.Spec PyProof.Rows L2
/-! ### list(d), the keys of a dict -/
def bKeysL : List D → Sto → R D
  | [.ref n], S => match dctOf S n with
    | some kvs => .ok (.ref S.length) (S ++ [.lst (kvs.map fun p => keyU p.1)])
    | none => .bad
  | _, _ => .bad
theorem keys_drs {K : PySem.W.Frag} {φ : List Addr} {H : Hp} : ∀ {kvs : List (Key × D)} {ws : List (Key × V)}, Paired (KeyR K φ H) kvs ws → DRs K φ H (kvs.map fun p => keyU p.1) (ws.map fun p => kV p.1)
  | _, _, .nil => .nil
  | p :: kvs, q :: ws, .cons r t => by
    rw [List.map_cons, List.map_cons, ← r.1]
    exact .cons dr_key (keys_drs t)
theorem ci_keysL {K : PySem.W.Frag} {g : G} : CallI K g (fun xs H Q => ∃ (a : Addr) (kvs : List (Key × V)), xs = [.ref a] ∧ Rd H a (.dK kvs) ∧ ∀ p, H p = none → Q (.ref p) (upd H p (.lst (kvs.map fun kv => kV kv.1)))) bKeysL := fun E φ S H ds vs Q r hd k => by
  by_cases h : ∃ n, ds = [.ref n]
  · obtain ⟨n, rfl⟩ := h
    obtain ⟨v, rfl, dv⟩ := hd.one
    obtain ⟨a, ha, rfl⟩ := ref_inv dv
    simp only [bKeysL] at k
    split at k
    · rename_i kvs h1
      obtain ⟨ws, e1, e2⟩ := r.dct h1 ha
      refine ⟨a, ws, rfl, .inl e1, fun p hp => ?_⟩
      have hw : Wr (H p) := by rw [hp]; trivial
      have n0 := r.alloc (o := .lst (ws.map fun kv => kV kv.1)) (c := .lst (kvs.map fun p => keyU p.1)) hp ⟨_, upd_same, keys_drs (PySem.Paired.mono (fun _ _ q => ⟨q.1, q.2.mono (List.prefix_append _ _) (.upd hw)⟩) e2)⟩
      exact k _ _ n0 _ (by simp only [DR]; exact ⟨p, by rw [← r.len]; simp, rfl⟩)
    · exact k.elim
  · have e : bKeysL ds S = .bad := by
      unfold bKeysL
      split
      · exact absurd ⟨_, rfl⟩ h
      · rfl
    rw [e] at k
    exact k.elim
theorem mi_clear {K : PySem.W.Frag} {g : G} : MI K g rClear mClear := fun E φ S H d ds x vs Q r hd hv k => by
  by_cases h : ∃ n, d = .ref n ∧ ds = []
  · obtain ⟨n, rfl, rfl⟩ := h
    obtain ⟨a, ha, rfl⟩ := ref_inv hd
    rw [hv.nil_inv]
    simp only [mClear] at k
    split at k
    · rename_i xs h1
      obtain ⟨us, e1, e2⟩ := r.lst h1 ha
      exact ⟨a, us, rfl, rfl, e1, k _ _ (r.put h1 ha .nil) _ dr_non⟩
    · exact k.elim
  · have e : mClear d ds S = .bad := by
      unfold mClear
      split
      · exact absurd ⟨_, rfl, rfl⟩ h
      · rfl
    rw [e] at k
    exact k.elim
theorem wp_clear {S : Sto} {n : Nat} {xs : List D} {Q : D → Sto → Prop} {X : Str → Sto → Prop} (e : lstOf S n = some xs) (q : Q .non (setL S n [])) : wp (mClear (.ref n) [] S) Q X := by
  have e2 : mClear (.ref n) [] S = .ok .non (setL S n []) := by simp only [mClear, e]
  exact wp_eq e2 q
theorem wp_reverse {S : Sto} {n : Nat} {xs : List D} {Q : D → Sto → Prop} {X : Str → Sto → Prop} (e : lstOf S n = some xs) (q : Q .non (setL S n xs.reverse)) : wp (mReverse (.ref n) [] S) Q X := by
  have e2 : mReverse (.ref n) [] S = .ok .non (setL S n xs.reverse) := by simp only [mReverse, e]
  exact wp_eq e2 q
theorem wp_keysL {α : Type} {S : Sto} {n : Nat} {fo : α → D} {l : List (Str × α)} {Q : D → Sto → Prop} {X : Str → Sto → Prop} (e : dctOf S n = some (dK fo l)) (q : Q (.ref S.length) (S ++ [.lst ((l.map fun p => p.1).map D.str)])) : wp (bKeysL [.ref n] S) Q X := by
  have e2 : bKeysL [.ref n] S = .ok (.ref S.length) (S ++ [.lst ((l.map fun p => p.1).map D.str)]) := by
    simp only [bKeysL, e, keys_dK]
  exact wp_eq e2 q
end J

set_option Elab.async false
set_option linter.all false
set_option maxRecDepth 100000
set_option maxHeartbeats 4000000
namespace J
open PySem PySem.Spec PyProof.Rows L2
/-! ### d.pop(k), max(list) -/
def delK (kvs : List (Key × D)) (k : Key) : List (Key × D) := kvs.filter fun kv => decide (kv.1 ≠ k)
def oPopK : D → D → Sto → R D
  | .ref n, .str x, S => match dctOf S n with
    | some kvs => match getK kvs (.inr x) with
      | some d => .ok d (setK S n (delK kvs (.inr x)))
      | none => .bad
    | none => .bad
  | _, _, _ => .bad
def iPopK (fo fe : IE) : IE := fun ρ S => (fo ρ S).bind fun o S1 => match o with
  | .ref n => match dctOf S1 n with
    | some _ => (fe ρ S1).bind fun y S2 => oPopK (.ref n) y S2
    | none => .bad
  | _ => .bad
theorem keyR_del {K : PySem.W.Frag} {φ : List Addr} {H : Hp} {k : Key} : ∀ {kvs : List (Key × D)} {ws : List (Key × V)}, Paired (KeyR K φ H) kvs ws → Paired (KeyR K φ H) (delK kvs k) (L2.dropK ws k)
  | [], [], _ => .nil
  | p :: kvs, q :: ws, h => by
    cases h with
    | cons a h =>
      unfold delK L2.dropK
      rw [List.filter_cons, List.filter_cons, a.1]
      split
      · exact .cons a (keyR_del h)
      · exact keyR_del h
theorem mem_max {ns : List Int} (h : ns ≠ []) : ∃ m ∈ ns, ∀ y ∈ ns, y ≤ m := by
  induction ns with
  | nil => exact absurd rfl h
  | cons a l ih =>
    by_cases hl : l = []
    · subst hl
      exact ⟨a, List.mem_cons_self, fun y hy => by rw [List.mem_singleton] at hy; omega⟩
    · obtain ⟨m, h1, h2⟩ := ih hl
      by_cases c : m ≤ a
      · exact ⟨a, List.mem_cons_self, fun y hy => by
          rcases List.mem_cons.mp hy with q | q
          · omega
          · have := h2 y q; omega⟩
      · exact ⟨m, List.mem_cons_of_mem _ h1, fun y hy => by
          rcases List.mem_cons.mp hy with q | q
          · omega
          · exact h2 y q⟩
def mxI : List Int → Int
  | [] => 0
  | a :: l => l.foldl (fun m y => if y > m then y else m) a
theorem foldl_mx : ∀ (l : List Int) (a : Int), (a ≤ l.foldl (fun m y => if y > m then y else m) a ∧ ∀ y ∈ l, y ≤ l.foldl (fun m y => if y > m then y else m) a) ∧ (l.foldl (fun m y => if y > m then y else m) a = a ∨ l.foldl (fun m y => if y > m then y else m) a ∈ l)
  | [], a => ⟨⟨Int.le_refl _, fun y h => by cases h⟩, .inl rfl⟩
  | b :: l, a => by
    simp only [List.foldl_cons]
    by_cases c : b > a
    · rw [if_pos c]
      obtain ⟨⟨h1, h2⟩, h3⟩ := foldl_mx l b
      refine ⟨⟨by omega, fun y hy => ?_⟩, .inr ?_⟩
      · rcases List.mem_cons.mp hy with q | q
        · omega
        · exact h2 y q
      · rcases h3 with q | q
        · rw [q]; exact List.mem_cons_self
        · exact List.mem_cons_of_mem _ q
    · rw [if_neg c]
      obtain ⟨⟨h1, h2⟩, h3⟩ := foldl_mx l a
      refine ⟨⟨h1, fun y hy => ?_⟩, ?_⟩
      · rcases List.mem_cons.mp hy with q | q
        · omega
        · exact h2 y q
      · rcases h3 with q | q
        · exact .inl q
        · exact .inr (List.mem_cons_of_mem _ q)
theorem mxI_spec {ns : List Int} (h : ns ≠ []) : mxI ns ∈ ns ∧ ∀ y ∈ ns, y ≤ mxI ns := by
  match ns, h with
  | a :: l, _ =>
    obtain ⟨⟨h1, h2⟩, h3⟩ := foldl_mx l a
    refine ⟨?_, fun y hy => ?_⟩
    · show l.foldl _ a ∈ _
      rcases h3 with q | q
      · rw [q]; exact List.mem_cons_self
      · exact List.mem_cons_of_mem _ q
    · rcases List.mem_cons.mp hy with q | q
      · rw [q]; exact h1
      · exact h2 y q
def bMaxL : List D → Sto → R D
  | [.ref n], S => match (lstOf S n).bind fun xs => xs.mapM asInt with
    | some ns => if ns = [] then .bad else .ok (.int (mxI ns)) S
    | none => .bad
  | _, _ => .bad
section
variable {X : Cx} {g : G} {E : XK} {pos : Pos}
theorem re_popK {o e : Expr} {apos cpos : Pos} {fo fe : IE} (ho : RE X g E o fo) (he : RE X g E e fe) (m : M1 X o "pop" apos e cpos := by exact ⟨rfl, rfl, rfl, rfl⟩) : RE X g E (.Call (.Attribute o "pop" apos) [e] [] cpos) (iPopK fo fe) :=
  PE.imp (pe_dpop1 ho he m) fun σ H Q ⟨φ, ρ, S, er, rp, k⟩ => ⟨φ, ρ, S, er, rp, k.bind.mono fun d S1 φ1 H1 _ _ ⟨r1, n1, k1⟩ v dv => by
    cases d with
    | ref n =>
      obtain ⟨a, ha, rfl⟩ := ref_inv dv
      dsimp only at k1
      split at k1
      · rename_i kvs h1
        obtain ⟨ws, q1, q2⟩ := r1.dct h1 ha
        refine ⟨a, rfl, .inl ⟨ws, .inl q1⟩, φ1, ρ, S1, n1.er er, r1, k1.bind.mono fun y S2 φ2 H2 _ _ ⟨r2, n2, k2⟩ w dw => ?_⟩
        have ha2 := ix_mono n2.pre ha
        cases y with
        | str x =>
          obtain rfl := str_inv dw
          simp only [oPopK] at k2
          split at k2
          · rename_i kvs' h3
            obtain ⟨ws', e3, e4⟩ := r2.dct h3 ha2
            split at k2
            · rename_i d' h4
              obtain ⟨v, h5, h6⟩ := keyR_find e4 h4
              have hw : Wr (H2 a) := by rw [e3]; trivial
              have hS := dctOf_some h3
              have n0 : Nx X.K g φ2 H2 (setK S2 n (delK kvs' (.inr x))) φ2 (upd H2 a (.dK (L2.dropK ws' (.inr x)))) := r2.write hw ha2 (List.getElem?_eq_some_iff.mp hS).1 ⟨_, upd_same, PySem.Paired.mono (fun _ _ q => ⟨q.1, q.2.mono (List.prefix_refl _) (.upd hw)⟩) (keyR_del e4)⟩
              exact ⟨ws', .inr x, v, e3, rfl, h5, k2 _ _ n0 _ (h6.mono (List.prefix_refl _) (.upd hw))⟩
            · exact k2.elim
          · exact k2.elim
        | _ => exact k2.elim
      · exact k1.elim
    | _ => exact k1.elim⟩
end
section
variable {K : PySem.W.Frag} {g : G}
theorem ci_maxL : CallI K g (rMax K) bMaxL := fun E φ S H ds vs Q r hd k => by
  match ds, k with
  | [.ref n], k =>
    obtain ⟨v, rfl, dv⟩ := hd.one
    obtain ⟨a, ha, rfl⟩ := ref_inv dv
    simp only [bMaxL] at k
    split at k
    · rename_i ns h1
      obtain ⟨xs, h2, h3⟩ := lst_bind h1
      obtain ⟨vs, e1, e2⟩ := r.lst h2 ha
      have e3 := ints_of h3 e2
      subst e3
      split at k
      · exact k.elim
      · rename_i hne
        refine ⟨a, ns, rfl, .of e1, List.length_pos_iff.mpr hne, fun m hm hM => ?_⟩
        obtain ⟨q1, q2⟩ := mxI_spec hne
        have : m = mxI ns := by
          have := hM _ q1
          have := q2 _ hm
          omega
        rw [this]
        exact k.here r _ dr_int
    · exact k.elim
  | [], k => exact k.elim
  | d :: _ :: _, k => cases d <;> exact k.elim
  | [.non], k | [.bl _], k | [.str _], k | [.ty _], k | [.int _], k | [.tup _], k | [.rl _], k => exact k.elim
end
section
variable {S : Sto} {ρ : Env} {n : Nat} {Q : D → Sto → Prop} {X : Str → Sto → Prop}
theorem wp_maxL {ns : List Int} (e : lstOf S n = some (ns.map D.int)) (hne : ns ≠ []) (h : Q (.int (mxI ns)) S) : wp (bMaxL [.ref n] S) Q X := by
  have e2 : bMaxL [.ref n] S = .ok (.int (mxI ns)) S := by simp only [bMaxL, e, Option.bind_some, mapM_int, if_neg hne]
  exact wp_eq e2 h
theorem wp_iPopK {fo fe : IE} (h : wp (fo ρ S) (fun d S1 => isRef (fun n => (∃ kvs, dctOf S1 n = some kvs) ∧ wp (fe ρ S1) (fun y S2 => wp (oPopK (.ref n) y S2) Q X) X) d) X) : wp (iPopK fo fe ρ S) Q X := by
  with_unfolding_all
    unfold iPopK
    refine wp_bind (wp_mono h (fun d S1 h => ?_) fun _ _ h => h)
    cases d with
    | ref n =>
      obtain ⟨⟨kvs, e⟩, h⟩ := h
      simp only [e]
      exact wp_bind h
    | _ => exact h.elim
instance i_wp_iPopK {fo fe : IE} : St (wp (iPopK fo fe ρ S) Q X) (wp (fo ρ S) (fun d S1 => isRef (fun n => (∃ kvs, dctOf S1 n = some kvs) ∧ wp (fe ρ S1) (fun y S2 => wp (oPopK (.ref n) y S2) Q X) X) d) X) := ⟨fun h => wp_iPopK h⟩
def delS {α : Type} (l : List (Str × α)) (k : Str) : List (Str × α) := l.filter fun p => decide (p.1 ≠ k)
theorem del_dK {α : Type} {f : α → D} {l : List (Str × α)} {k : Str} : delK (dK f l) (.inr k) = dK f (delS l k) := by
  unfold delK delS dK
  rw [List.filter_map]
  congr 1
  refine List.filter_congr fun p _ => ?_
  simp
theorem look_del {α : Type} {l : List (Str × α)} {k k' : Str} : (delS l k).lookup k' = if k' = k then none else l.lookup k' := by
  induction l with
  | nil => simp [delS]
  | cons p l ih =>
    unfold delS at ih ⊢
    rw [List.filter_cons]
    by_cases c : p.1 = k
    · rw [if_neg (by simp [c]), ih, List.lookup_cons]
      by_cases q : k' = k
      · rw [if_pos q, if_pos q]
      · rw [if_neg q, if_neg q, show (k' == p.1) = false by simpa [c] using q]
    · rw [if_pos (by simpa using c), List.lookup_cons, List.lookup_cons]
      by_cases q : k' = p.1
      · rw [show (k' == p.1) = true by simp [q]]
        rw [if_neg (by rw [q]; exact c)]
      · rw [show (k' == p.1) = false by simpa using q]
        exact ih
theorem wp_popK {α : Type} {f : α → D} {l : List (Str × α)} {k : Str} {v : α} (e : dctOf S n = some (dK f l)) (h : l.lookup k = some v) (q : Q (f v) (setK S n (dK f (delS l k)))) : wp (oPopK (.ref n) (.str k) S) Q X := by
  have e2 : oPopK (.ref n) (.str k) S = .ok (f v) (setK S n (dK f (delS l k))) := by
    simp only [oPopK, e, get_dK, h, Option.map_some, del_dK]
  exact wp_eq e2 q
end
end J

set_option Elab.async false
set_option linter.all false
set_option maxRecDepth 100000
set_option maxHeartbeats 4000000
namespace J
open PySem PySem.Spec PyProof.Rows L2
/-! ### a list comprehension whose element may raise -/
/-- what a raise in the block owes -/
abbrev bxe (X : Cx) (ce : PySem.Env) : Value → Shared → Prop := notedBy (model X.prog X.w) X.A ce (CompFails (model X.prog X.w) X.A X.xe ce)
abbrev bkX (X : Cx) (s : Shared) (H : Hp) (scope : Scope) (ce : PySem.Env) (fp : List Addr) : Cx := (X.blk s H scope ce fp).wish (bxe X ce)
theorem frames_less {h B B' : Heap} (hb : ∀ b, B.get? b = none → B'.get? b = none) : ∀ {l : List PySem.Env}, h.FunFrames B l → h.FunFrames B' l
  | [], _ => trivial
  | _ :: _, ⟨k, ⟨L, o, f1, f2, f3⟩, r⟩ => ⟨k, ⟨L, o, f1, hb _ f2, f3⟩, frames_less hb r⟩
theorem hide_none {B : Heap} {l : List Addr} {b : Addr} (h : B.get? b = none) : (PySem.W.hideAll B l).get? b = none := by
  cases q : (PySem.W.hideAll B l).get? b with
  | none => rfl
  | some o =>
    have := PySem.W.of_hideAll _ q
    rw [h] at this
    cases this
theorem held_less {B : Heap} {l : List PySem.Env} {e : Addr} {Z : Obj → Prop} {L C : Addr} {h : Heap} (x : HandSPX.HeldZ B l e Z L h) : HandSPX.HeldZ (PySem.W.hideAll B [C]) l e Z L h := by
  obtain ⟨x1, x2, x3, oe, vs, T, oT, ts, y1, y2, y3, y4, y5, y6⟩ := x
  exact ⟨fun b o hb => x1 b o (PySem.W.of_hideAll _ hb), hide_none x2, frames_less (fun b hb => hide_none hb) x3, oe, vs, T, oT, ts, y1, y2, y3, y4, hide_none y5, y6⟩
theorem held_turned {B : Heap} {l : List PySem.Env} {e : Addr} {Z : Obj → Prop} {L C : Addr} {h h' : Heap} {m : Str → Option Value} {oc : Obj} (x : HandSPX.HeldZ (PySem.W.hideAll B [C]) l e Z L h) (hC : h.get? C = some oc) (hCd : ∀ vs, oc.data ≠ .fields vs) (sb : Heap.SameBut C h h') (hn : h'.Ns C m) : HandSPX.HeldZ (PySem.W.hideAll B [C]) l e Z L h' := by
  obtain ⟨x1, x2, x3, oe, vs, T, oT, ts, y1, y2, y3, y4, y5, y6, y7, y8, y9⟩ := x
  have go : ∀ b o, b ≠ C → h.get? b = some o → h'.get? b = some o := fun b o hb q => (sb.2 b hb).trans q
  have ne : ∀ b o us, h.get? b = some o → o.data = .fields us → b ≠ C := fun b o us q d z => by
    rw [z, hC] at q
    cases q
    exact hCd us d
  refine ⟨fun b o hb => go b o (fun z => ?_) (x1 b o hb), x2, Heap.FunFrames.sameBut sb hn x3, oe, vs, T, oT, ts, go _ _ (ne _ _ _ y1 y3) y1, y2, y3, y4, y5, y6, go _ _ (ne _ _ _ y7 y8) y7, y8, y9⟩
  rw [z, PySem.W.hideAll_none _ (by simp)] at hb
  cases hb
theorem ns_obj {h : Heap} {L : Addr} {m : Str → Option Value} (hn : h.Ns L m) : ∃ o, h.get? L = some o ∧ ∀ vs, o.data ≠ .fields vs := by
  obtain ⟨o, es, ep, h1, h2, _⟩ := hn
  exact ⟨o, h1, fun vs q => by rw [h2] at q; cases q⟩
section
variable {X : Cx} {g : G} {pins : List (Addr × Obj)} {σ : L2.St} {H : Hp} {W : WX} {E : XK} {s3 : Shared} {scope : Scope} {ce : PySem.Env} {fp : List Addr}
/-- what a call within the block lets out is let out of the comprehension -/
theorem block_passes (tk : Takes X W) (hW : ∀ cls d σ H, E cls d H → W cls d σ H) (hs : X.stack = X.env :: X.outer) (hf : X.env.frame = some X.env.locals) (I3 : Inv X pins σ H s3)
    (hcf : ce.frame = X.env.frame) (hcL : ce.locals = s3.heap.objs.size) (f3 : ∀ b ∈ fp, FpOk X pins H b) : Passes (L2.CX X.prog X.w) (bkX X s3 H scope ce fp) E := by
  intro pb σb Hb sb u s' Ib c
  have x := XE.of_call (W := fun cls d _ H' => E cls d H') Ib (fun _ _ _ z => z) c
  obtain ⟨a0, B0, _, _, _, e0, fl0, _⟩ := c
  obtain ⟨a, B, sI, p', σ', H', cls, d, e1, I', nb, up, sky, na, os, ag, hE⟩ := x
  subst e1
  obtain rfl : a0 = a := by cases e0; rfl
  clear e0
  have I6 : Inv (X.blk s3 H scope ce fp) p' σ' H' sI := I'.unwish
  -- it is in flight
  obtain ⟨_, _, _, oe0, vs0, T0, oT0, ts0, z1, _, z3, z4, _, _, z7, z8, z9⟩ := fl0
  have fl : HandSPX.FlyingZ B (X.env :: X.outer) a0 (Zc cls d) s'.heap := by
    have sky : Sky B X.stack a0 (Zc cls d) ce.locals s'.heap := sky
    rw [hs] at sky
    rcases sky with ⟨_, _, _, oe, vs, w1, _, w3, w4⟩ | fl | ⟨_, _, _, oe, vs, T, oT, ts, w1, _, w3, w4, _, _, w7, w8, w9⟩
    · rw [w1] at z1
      cases z1
      rw [w3] at z3
      cases z3
      rw [w4] at z4
      cases z4
    · exact fl
    · rw [w1] at z1
      cases z1
      rw [w3] at z3
      cases z3
      rw [w4] at z4
      cases z4
      rw [w7] at z7
      cases z7
      rw [w8] at z8
      cases z8
      rw [w9] at z9
      simp [rawInt] at z9
  have hfr : X.A.frames = some (X.env :: X.outer) := by rw [I3.ok.frames, hs]
  -- the def's own hold on what stands
  have I7 : Inv X pins σ H' sI := I3.call' (ch := fp) I6.os I6.base I6.hok I6.bare fun b hb => ⟨(f3 b hb).2.2.2.1, (f3 b hb).2.1, (f3 b hb).2.2.2.2.1, (f3 b hb).2.2.2.2.2⟩
  obtain ⟨m, hm, _⟩ := I6.loc
  have hm : sI.heap.Ns ce.locals m := hm
  have hCn : H' s3.heap.objs.size = none := by
    have z : H' ce.locals = none := I6.free
    rwa [hcL] at z
  have fpC := I3.fpOk (H' := H') (Nat.le_refl _) hCn
  show wpAny _ X.A (noteFrame (.ref a0) ce) _ _ s'
  rw [noteFrame_env _ hcf]
  refine HandSPX.looks_onZ Zc.steady hfr hf fl fun h1 held up1 => ?_
  have hm1 : h1.Ns ce.locals m := (hm.upToSlots up).upToSlots up1
  refine ⟨m, hm1, fun h2 m2 hm2 sb2 => ?_⟩
  obtain ⟨oc, hoc, hod⟩ := ns_obj hm1
  have held2 := held_turned (held_less (C := ce.locals) held) hoc hod sb2 hm2
  have held2' := held2
  obtain ⟨_, _, _, oe, vs, T, oT, ts, w1, w2, w3, w4, _⟩ := held2
  unfold PySem.passOn
  refine wpAny_bind (wpAny_field w1 w3 w4 ?_)
  rw [if_neg (by simp)]
  refine wpAny_bind ?_
  rw [hcf, hf]
  refine HandSPX.setFlight_onZ held2' fun h4 held4 up4 => wpAny_throw (tk _ _ ?_)
  have I8 := I7.turned (t' := sI.toks) (h' := PySem.W.hideAll sI.heap [ce.locals]) (it := s3.heap.objs.size) (fun b o hb q => PySem.W.hideAll_get _ q (by rw [hcL]; simpa using hb)) fpC.1 fpC.2.1 fpC.2.2.2.1 fpC.2.2.2.2.1 fpC.2.2.2.2.2
  refine ⟨a0, PySem.W.hideAll B [ce.locals], _, pins, σ, H', cls, d, rfl, I8, fun b o q hb => ?_, ?_, ?_, na, os, ag, hW _ _ _ _ hE⟩
  · have hbC : b ≠ ce.locals := fun z => by
      have q : (PySem.W.hideAll sI.heap [ce.locals]).get? b = some o := q
      rw [z, PySem.W.hideAll_none _ (by simp)] at q
      cases q
    exact PySem.W.hideAll_get _ (nb b o (PySem.W.of_hideAll _ q) hb) (by simpa using hbC)
  · intro b o q hd
    have hbC : b ≠ ce.locals := fun z => by
      have q : (PySem.W.hideAll sI.heap [ce.locals]).get? b = some o := q
      rw [z, PySem.W.hideAll_none _ (by simp)] at q
      cases q
    obtain ⟨sl1, q1⟩ := up b o (PySem.W.of_hideAll _ q) hd
    obtain ⟨sl2, q2⟩ := up1 b _ q1 hd
    obtain ⟨sl3, q3⟩ := up4 b { o with slots := sl2 } (show h2.get? b = _ from (sb2.2 b hbC).trans q2) hd
    exact ⟨sl3, q3⟩
  · rw [hs]
    exact .inr (.inr held4)
end
section
variable {X : Cx} {pins : List (Addr × Obj)} {s : Shared} {σ : L2.St} {H : Hp} {Q : VK} {W : WX} {E : XK} {elt tg iter : Expr} {ifs : List Expr} {scope : Scope} {own : List (Str × Nat)} {pos pos' : Pos} {wi : TI} {gt : TG} {tt : TT} {te : TE}
abbrev OfBlk (X : Cx) (scope : Scope) (P : Cx → Prop) : Prop := ∀ (s : Shared) (H : Hp) (C : Addr) (cl : List (Str × Addr)) (fp : List Addr), P (X.blk s H scope (compEnvC scope cl C X.env) fp)
abbrev OfBkX (X : Cx) (scope : Scope) (E : XK) (P : Cx → Prop) : Prop := ∀ (s : Shared) (H : Hp) (C : Addr) (cl : List (Str × Addr)) (fp : List Addr), Passes (L2.CX X.prog X.w) (bkX X s H scope (compEnvC scope cl C X.env) fp) E → P (bkX X s H scope (compEnvC scope cl C X.env) fp)
theorem lcx_core {use : Option (Value → Sem Unit)} {Qf : Value → Shared → Prop} (tk : Takes X W) (hW : ∀ cls d σ H, E cls d H → W cls d σ H) (hs : X.stack = X.env :: X.outer) (hf : X.env.frame = some X.env.locals)
    (hc : X.calm = true) (hN : X.N.Nodup) (I : Inv X pins σ H s) (hi : PI X tg iter wi) (ok : BlkOk X.N X.env.scope scope own) (hg : OfBlk X scope fun Y => PG Y tg gt) (ht : OfBlk X scope fun Y => PTs Y ifs tt) (he : OfBkX X scope E fun Y => PE Y elt te)
    (hfold : ∀ x, foldedSetIterable iter X.env x = pure x) (h : tLc wi gt tt te (own.map (·.2)) σ H Q)
    (hend : ∀ D s' m H' (ce : PySem.Env), Inv X pins σ H' s' → Q (.ref D) H' → s'.heap.Ns ce.locals m → FpOk X pins H' ce.locals → compEnds (model X.prog X.w) X.A X.xe use Qf (.ref D) ce (.ok .next) s') :
    wpAny (model X.prog X.w) X.A (comprehension (.ListComp elt [⟨tg, iter, ifs, 0⟩] scope pos) scope X.env pos' (newList []) false (eval iter X.env) use) Qf X.xe s := by
  have hvis : ∀ y ∈ scope.names, y.2 = .free → ∃ c, X.env.cells.lookup y.1 = some c := fun y hy e => (ok.free y hy e).elim (fun k => I.ok.has _ (.inl k)) (fun k => I.ok.has _ (.inr k))
  refine comprehension_at (use := use) rfl hfold (closure_ok hvis) ok.kind (fun y hy e => by rw [ok.uniq y hy, e]) (thn (hi.run pins s σ H _ I h) fun xv s1 hx => thn hx fun itv s2 h2 => ?_)
  obtain ⟨it, fp, tn, J, H2, e, I2, T, st2, f2, q⟩ := h2
  subst e
  refine wpAny_newObj_type (newEnv_comp ?_) (by show 0 ≤ sizeLine; decide)
  generalize hD : s2.heap.objs.size = dl
  have hDn : H2 dl = none := I2.hok.fresh (Nat.le_of_eq hD)
  obtain ⟨V, ⟨m0, v0⟩, turn⟩ := q dl hDn
  -- the new list stands
  generalize hs3 : ({ s2 with heap := s2.heap.push { cls := .type "list", data := .seq ([] : List Value).toArray } } : Shared) = t3
  have I3 : Inv X pins σ (upd H2 dl (.lst [])) t3 := hs3 ▸ I2.laid (t' := s2.toks) (fun b o z => Heap.get?_push_of_some _ z) (Nat.le_of_eq hD) ⟨Nat.zero_le _, [], 0, .nil, by rw [← hD]; exact Heap.get?_push_size _ rfl⟩
  have h3 : t3.heap = s2.heap.push { cls := .type "list", data := .seq ([] : List Value).toArray } := by rw [← hs3]
  have f3 : ∀ b ∈ fp, FpOk X pins (upd H2 dl (.lst [])) b ∧ b < t3.heap.objs.size := fun b hb => by
    obtain ⟨o, z, _⟩ := T.obj _ _ st2 b hb
    have hlt := Heap.lt_size z
    have hne : b ≠ dl := by rw [← hD]; exact Nat.ne_of_lt hlt
    exact ⟨⟨by rw [upd_ne hne]; exact (f2 b hb).1, (f2 b hb).2⟩, by rw [h3, Heap.size_push]; exact Nat.lt_succ_of_lt hlt⟩
  have st3 : tn 0 t3.heap := T.keep _ _ _ st2 fun b _ o z => h3 ▸ Heap.get?_push_of_some _ z
  have I4 := block_start I3 ok hN f3
  have pg := hg t3 (upd H2 dl (.lst [])) t3.heap.objs.size (cellsFrom (t3.heap.objs.size + 1) scope.names (cloFrom X.env.cells scope.names [])) fp
  have pt := ht t3 (upd H2 dl (.lst [])) t3.heap.objs.size (cellsFrom (t3.heap.objs.size + 1) scope.names (cloFrom X.env.cells scope.names [])) fp
  have pe := he t3 (upd H2 dl (.lst [])) t3.heap.objs.size (cellsFrom (t3.heap.objs.size + 1) scope.names (cloFrom X.env.cells scope.names [])) fp (block_passes tk hW hs hf I3 rfl rfl fun b hb => (f3 b hb).1)
  show codeAny _ _ (.compStart (.ListComp elt [⟨tg, iter, ifs, 0⟩] scope pos) 0 (.ref it) (.ref dl) (compEnvC scope (cellsFrom (t3.heap.objs.size + 1) scope.names (cloFrom X.env.cells scope.names [])) t3.heap.objs.size X.env))
    (compEnds (model X.prog X.w) X.A X.xe use Qf (.ref dl) (compEnvC scope (cellsFrom (t3.heap.objs.size + 1) scope.names (cloFrom X.env.cells scope.names [])) t3.heap.objs.size X.env)) { t3 with heap := pushCells (t3.heap.push { cls := .type "dict", data := .dict #[] }) scope.names }
  have nfp : ∀ b ∈ fp, (upd H2 dl (.lst [])) b = none := fun b hb => (f3 b hb).1.1
  generalize hce : compEnvC scope (cellsFrom (t3.heap.objs.size + 1) scope.names (cloFrom X.env.cells scope.names [])) t3.heap.objs.size X.env = ce at I4 pg pt pe ⊢
  have cL : ce.locals = t3.heap.objs.size := hce ▸ rfl
  generalize hH3 : upd H2 dl (.lst []) = H3 at I3 I4 pg pt pe v0 nfp f3
  generalize hs4 : ({ t3 with heap := pushCells (t3.heap.push { cls := .type "dict", data := .dict #[] }) scope.names } : Shared) = t4 at I4 ⊢
  have st4 : tn 0 t4.heap := T.keep _ _ _ st3 fun b _ o z => hs4 ▸ pushCells_keeps _ _ _ _ (Heap.get?_push_of_some _ z)
  have still : ∀ {σ' : L2.St} {H' : Hp} {s' : Shared}, Inv (X.blk t3 H3 scope ce fp) [] σ' H' s' → (∀ b ∈ fp, H' b = none) → ∀ b ∈ fp, FpOk (X.blk t3 H3 scope ce fp) [] H' b := fun {σ' H' s'} I' hn b hb =>
    ⟨hn b hb, (I'.ok.exf b hb).1, I'.ok.exfs b hb, .inl hb, fun x c z => (I'.ok.exf b hb).2 x c z, fun p hp => absurd (show p ∈ ([] : List (Addr × Obj)) ++ [] from hp) (by simp)⟩
  have loop : codeAny (model X.prog X.w) X.A (.compLoop (.ListComp elt [⟨tg, iter, ifs, 0⟩] scope pos) 0 (.ref it) (.ref dl) ce) (compEnds (model X.prog X.w) X.A X.xe use Qf (.ref dl) ce) t4 := by
    have hR : ∀ {e s'}, CompFails (model X.prog X.w) X.A X.xe ce e s' → compEnds (model X.prog X.w) X.A X.xe use Qf (.ref dl) ce (.error e) s' := fun z => by cases use <;> exact z
    refine compLoop_any (fun n s' => ∃ i H', Inv (X.blk t3 H3 scope ce fp) [] (wipe σ (own.map (·.2))) H' s' ∧ tn i s'.heap ∧ (∀ b ∈ fp, H' b = none) ∧ V i n H') ?_ m0 ⟨0, H3, I4, st4, nfp, v0⟩
    rintro n t5 ⟨i, H5, I5, st5, n5, w5⟩
    rcases turn i n H5 w5 with ⟨stop, qq⟩ | ⟨go, Nx, hNx, step⟩
    · have td := T.done (X.blk t3 H3 scope ce fp) rfl rfl rfl hc i [] t5 _ H5 (fun _ _ => False) I5 (still I5 n5) st5 stop
      refine thnF td fun r t6 ⟨hr, I6⟩ => ?_
      subst hr
      have I7 : Inv X pins σ H5 t6 := I3.call' (ch := fp) I6.os I6.base I6.hok I6.bare fun b hb => ⟨(f3 b hb).1.2.2.2.1, (f3 b hb).1.2.1, (f3 b hb).1.2.2.2.2.1, (f3 b hb).1.2.2.2.2.2⟩
      have nC : H5 t3.heap.objs.size = none := by
        have z : H5 ce.locals = none := I6.free
        rwa [cL] at z
      obtain ⟨m, hn, _⟩ := I6.loc
      have hn : t6.heap.Ns ce.locals m := hn
      exact hend dl t6 m H5 ce I7 qq hn (by rw [cL]; exact I3.fpOk (Nat.le_refl _) nC)
    · have ti := T.item (X.blk t3 H3 scope ce fp) rfl rfl rfl hc i [] t5 _ H5 (fun _ _ => False) I5 (still I5 n5) st5 go
      refine thnF ti fun r t6 ⟨u, hr, h6⟩ => ?_
      subst hr
      refine thnF h6 fun _ t7 ⟨x, H7, I7, r7, y7, st7, n7⟩ => ?_
      have I7' := I7.pinned (still I7 n7) (T.obj _ _ st7)
      refine thnF (pg.run _ t7 _ H7 x u _ I7' r7 (step x H7 y7)) fun _ t8 ⟨σ8, H8, I8, hw8, q8⟩ => ?_
      refine thnF (pt.run _ t8 σ8 H8 _ I8 q8) fun b t9 ⟨H9, I9, q9⟩ => ?_
      have fin : ∀ {s' : Shared} {H' : Hp}, Inv (X.blk t3 H3 scope ce fp) ([] ++ pinsAt fp t7.heap) σ8 H' s' → Nx H' → ∃ m, m < n ∧ ∃ i H', Inv (X.blk t3 H3 scope ce fp) [] (wipe σ (own.map (·.2))) H' s' ∧ tn i s'.heap ∧ (∀ b ∈ fp, H' b = none) ∧ V i m H' := fun {s' H'} I' nx => by
        obtain ⟨m', hm, w'⟩ := hNx H' nx
        have pin' : ∀ b ∈ fp, ∀ o, t7.heap.get? b = some o → s'.heap.get? b = some o ∧ H' b = none := fun b hb o z => by
          have y := I'.pin (b, o) (List.mem_append_right _ (List.mem_append_right _ (mem_pinsAt hb z)))
          exact ⟨y.1, y.2.1⟩
        refine ⟨m', hm, i + 1, H', (I'.unpinned (pins := [])).weak (by rw [← hw8, wipe_length]) (fun j v z => ?_), T.keep _ _ _ st7 fun b hb o z => (pin' b hb o z).1, fun b hb => ?_, w'⟩
        · rw [← hw8] at z
          exact (wipe_some z).1
        · obtain ⟨o, z, _⟩ := T.obj _ _ st7 b hb
          exact (pin' b hb o z).2
      cases b with
      | false => exact fin I9 q9
      | true =>
        have q9 : te σ8 H9 fun y H4 => ∃ acc, H4 dl = some (.lst acc) ∧ acc.length < sizeLine ∧ Nx (upd H4 dl (.lst (acc ++ [y]))) := q9
        rw [if_pos rfl]
        have pr := pe.run _ t9 σ8 H9 _ (I9.wish _) q9
        refine wpAny_mono pr (fun z t10 hz => ?_) fun u t10 hz => ?_
        · obtain ⟨yv, H10, I10, r10, acc, hD10, hz10, nx⟩ := hz
          exact app_ok (X := X.blk t3 H3 scope ce fp) I10.unwish hD10 hz10 r10 fun t11 I11 => fin I11 nx
        · exact wpAny_mono hz (fun _ _ y => hR y) fun _ _ y => hR y
  exact codeAny_compStart_list loop (T.self X.A 0 _ _ _ st4 loop)
end
end J

set_option Elab.async false
set_option linter.all false
set_option maxRecDepth 100000
set_option maxHeartbeats 4000000
namespace J
open PySem PySem.Spec PyProof.Rows L2
section
variable {X : Cx} {W : WX} {E : XK} {elt tg iter : Expr} {ifs : List Expr} {scope : Scope} {own : List (Str × Nat)} {pos : Pos} {wi : TI} {gt : TG} {tt : TT} {te : TE}
theorem pe_lcX (tk : Takes X W) (hW : ∀ cls d σ H, E cls d H → W cls d σ H) (hs : X.stack = X.env :: X.outer) (hf : X.env.frame = some X.env.locals) (hc : X.calm = true) (hN : X.N.Nodup)
    (hi : PI X tg iter wi) (ok : BlkOk X.N X.env.scope scope own) (hg : OfBlk X scope fun Y => PG Y tg gt) (ht : OfBlk X scope fun Y => PTs Y ifs tt) (he : OfBkX X scope E fun Y => PE Y elt te)
    (hfold : ∀ x, foldedSetIterable iter X.env x = pure x) : PE X (.ListComp elt [⟨tg, iter, ifs, 0⟩] scope pos) (tLc wi gt tt te (own.map (·.2))) := by
  constructor
  intro pins s σ H Q I h
  rw [eval_ListComp]
  refine lcx_core tk hW hs hf hc hN I hi ok hg ht he hfold h fun D s' m H' ce I' q hn f => ⟨m, hn, fun h2 sb => ?_⟩
  exact ⟨.ref D, H', I'.turned (t' := s'.toks) (fun b o hb e => (sb.2 b hb).trans e) f.1 f.2.1 f.2.2.2.1 f.2.2.2.2.1 f.2.2.2.2.2, rfl, q⟩
theorem ps_setLcX {i : Nat} {y : Str} {py spos : Pos} (tk : Takes X W) (hW : ∀ cls d σ H, E cls d H → W cls d σ H) (hs : X.stack = X.env :: X.outer) (hf : X.env.frame = some X.env.locals) (hc : X.calm = true) (hN : X.N.Nodup)
    (hy : X.N[i]? = some y) (hyl : X.env.scope.names.lookup y = some .local) (hsw : swapsWith (.ListComp elt [⟨tg, iter, ifs, 0⟩] scope pos) (some (.Name y py)) spos.line X.env = pure true)
    (hi : PI X tg iter wi) (ok : BlkOk X.N X.env.scope scope own) (hg : OfBlk X scope fun Y => PG Y tg gt) (ht : OfBlk X scope fun Y => PTs Y ifs tt) (he : OfBkX X scope E fun Y => PE Y elt te)
    (hfold : ∀ x, foldedSetIterable iter X.env x = pure x) : PS X (.Assign [.Name y py] (.ListComp elt [⟨tg, iter, ifs, 0⟩] scope pos) spos) (tAsg (tLc wi gt tt te (own.map (·.2))) (gName i)) := by
  constructor
  intro pins s σ H D I h
  rw [exec_Assign_Name_used _ _ _ _ hsw]
  refine wpAny_bind (wpAny_standAt (wpAny_bind ?_))
  have h : tLc wi gt tt te (own.map (·.2)) σ H (fun x H1 => gName i x σ H1 D.nx) := h
  refine wpAny_bind (thn (lcx_core (pos' := firstIterPos [⟨tg, iter, ifs, 0⟩] pos) (use := some (assign (.Name y py) X.env)) (Qf := fun _ s' => SP X pins D .next s') tk hW hs hf hc hN I hi ok hg ht he hfold h fun L s' m H' ce I' q hn f => ?_) fun _ s' hq => wpAny_pure (wpAny_pure hq))
  show wpAny _ _ (assign (.Name y py) X.env (.ref L)) _ _ _
  refine wpAny_assign_Name (store_ok2 (v := V.ref L) I' hN hy (.inl hyl) rfl (fun s2 I2 ⟨a, sb, ha⟩ => ?_) (.inr hyl))
  have hne : ce.locals ≠ a := by
    rcases ha with z | z
    · rw [z]; exact f.2.1
    · exact fun e => f.2.2.2.2.1 y a z e.symm
  exact ⟨m, hn.sameBut sb hne, fun h3 sb3 => ⟨_, H', I2.turned (t' := s2.toks) (fun b o hb e => (sb3.2 b hb).trans e) f.1 f.2.1 f.2.2.2.1 f.2.2.2.2.1 f.2.2.2.2.2, q⟩⟩
end
/-! ### in the store -/
open Classical in
noncomputable def lcLX (gd : Sto → Prop) (tg : IG) (t : IT) (e : IE) (ρ : Env) : List D → List D → Sto → R (List D)
  | [], acc, S => if gd S then .ok acc S else .bad
  | d :: r, acc, S => if gd S ∧ acc.length < LIM then (tg d ρ S).noX.bind fun ρ1 S1 => (t ρ1 S1).noX.bind fun b S2 => if b = true then (e ρ1 S2).bind fun y S3 => lcLX gd tg t e ρ r (acc ++ [y]) S3 else lcLX gd tg t e ρ r acc S2
    else .bad
noncomputable def iLcX (w : IW) (tg : IG) (t : IT) (e : IE) (vs : List Nat) : IE := fun ρ S => (w ρ S).bind fun s S1 => (lcLX s.gd tg t e (wipeD ρ vs) s.items [] S1).bind fun ds S2 => .ok (.ref S2.length) (S2 ++ [.lst ds])
theorem lcLX_gd {gd : Sto → Prop} {tg : IG} {t : IT} {e : IE} {ρ : Env} {items acc : List D} {S : Sto} {K : PySem.W.Frag} {g : G} {E : XK} {φ : List Addr} {H : Hp} {k : List D → Sto → List Addr → Hp → Prop} (h : post K g E φ H (lcLX gd tg t e ρ items acc S) k) : gd S := by
  cases items with
  | nil =>
    unfold lcLX at h
    split at h
    · assumption
    · exact h.elim
  | cons d r =>
    unfold lcLX at h
    split at h
    · rename_i q
      exact q.1
    · exact h.elim
section
variable {X : Cx} {g : G} {E : XK} {pos : Pos} {tg : Expr}
theorem lc_readX {K : PySem.W.Frag} {w : IW} {vt vs : List Nat} {tgf : IG} {t : IT} {e : IE} (hsub : ∀ j ∈ vt, j ∈ vs) {σ : L2.St} {H : Hp} {Q : VK} (h : tI K g E (iLcX w tgf t e vs) σ H Q) : tLc (wI K g E w) (gI K g E0 vt tgf) (tIT K g E0 t) (tI K g E e) vs σ H Q := by
  obtain ⟨φ, ρ, S, er, rp, k⟩ := h
  refine ⟨φ, ρ, S, er, rp, k.bind.mono fun s S1 φ1 H1 _ _ ⟨r1, n1, k1⟩ J wk Dl hD => ?_⟩
  refine lc_it wk (fun i H => ∃ φ2 S2 acc, Beside K g φ1 H1 Dl acc φ2 S2 H ∧ post K g E φ1 H1 ((lcLX s.gd tgf t e (wipeD ρ vs) (s.items.drop i) acc S2).bind fun ds S3 => .ok (.ref S3.length) (S3 ++ [.lst ds])) fun d _ φ' H' => ∀ v, DR K φ' H' d v → Q v H')
    ⟨φ1, S1, [], ⟨r1.side hD, ⟨[], upd_same, .nil⟩, r1.notin hD⟩, by simpa using k1⟩ ?_ ?_ ?_
  · rintro i H hi ⟨φ2, S2, acc, b, k2⟩
    exact ⟨φ2, S2, b.nx.pre, b.nx.tk, b.nx.rep, lcLX_gd k2.bind⟩
  · rintro i x H H' hi ⟨φ2, S2, acc, b, k2⟩ ⟨hH, hy⟩
    have gd := lcLX_gd k2.bind
    obtain ⟨d, hd, dx⟩ := hy φ2 S2 b.nx.pre b.nx.tk b.nx.rep gd
    have n3 : Nx K g φ2 H S2 φ2 H' := by
      rcases hH with rfl | ⟨T, us, hT, rfl⟩
      · exact .refl b.nx.rep
      · exact b.nx.rep.side hT
    have b3 := b.go n3
    have ed : s.items.drop i = d :: s.items.drop (i + 1) := by
      rw [List.drop_eq_getElem_cons hi]
      congr 1
      rw [List.getElem?_eq_getElem hi] at hd
      exact Option.some.inj hd
    rw [ed] at k2
    unfold lcLX at k2
    split at k2
    · rename_i hl
      have er2 : ER K φ2 H' (wipeD ρ vs) (L2.wipe σ vs) := b3.nx.er ((n1.er er).wipe vs)
      have bnd : ∀ {α β γ : Type} (r : R α) (f : α → Sto → R β) (h : β → Sto → R γ), ((r.noX.bind f).bind h) = r.noX.bind fun a S => (f a S).bind h := fun r f h => by
        cases r <;> rfl
      rw [bnd] at k2
      refine ⟨φ2, _, S2, d, er2, b3.nx.rep, dx, post0 (post.weak b3.nx k2) fun ρ4 S4 φ4 H4 e4 n4 σ' er' o' => ⟨wipe_same o' hsub, ?_⟩⟩
      rw [e4] at k2
      have k4 : post K g E φ1 H1 (((t ρ4 S4).noX.bind fun b S2 => if b = true then (e ρ4 S2).bind fun y S3 => lcLX s.gd tgf t e (wipeD ρ vs) (s.items.drop (i + 1)) (acc ++ [y]) S3 else lcLX s.gd tgf t e (wipeD ρ vs) (s.items.drop (i + 1)) acc S2).bind fun ds S3 => .ok (.ref S3.length) (S3 ++ [.lst ds])) (fun d _ φ' H' => ∀ v, DR K φ' H' d v → Q v H') := k2
      rw [bnd] at k4
      have b4 := b3.go n4
      refine ⟨φ4, ρ4, S4, er', n4.rep, post0 (post.weak b4.nx k4) fun tb S5 φ5 H5 e5 n5 => ?_⟩
      rw [e5] at k4
      have b5 := b4.go n5
      cases tb with
      | false =>
        rw [if_neg Bool.false_ne_true]
        exact ⟨φ5, S5, acc, b5, k4⟩
      | true =>
        rw [if_pos rfl]
        have k5 : post K g E φ1 H1 (((e ρ4 S5).bind fun y S3 => lcLX s.gd tgf t e (wipeD ρ vs) (s.items.drop (i + 1)) (acc ++ [y]) S3).bind fun ds S3 => .ok (.ref S3.length) (S3 ++ [.lst ds])) (fun d _ φ' H' => ∀ v, DR K φ' H' d v → Q v H') := k4
        refine ⟨φ5, ρ4, S5, n5.er er', n5.rep, ?_⟩
        cases he : e ρ4 S5 with
        | bad => rw [he] at k5; exact k5.elim
        | exc c S6 =>
          rw [he] at k5
          exact fun φ' H' dx fs m => k5 φ' H' dx fs (b5.nx.trans m)
        | ok y S6 =>
          rw [he] at k5
          intro φ6 H6 n6 v dv
          have b6 := b5.go n6
          obtain ⟨us, h7, h8⟩ := b6.at_
          have n7 := b6.nx.beside (ws := us ++ [v]) hD h7 b6.out
          have hw : Wr (H6 Dl) := by rw [h7]; trivial
          exact ⟨us, h7, by rw [h8.length]; exact lim_lt hl.2, φ6, S6, acc ++ [y], ⟨n7, ⟨us ++ [v], upd_same, (h8.append (.cons dv .nil)).mono (List.prefix_refl _) (.upd hw)⟩, b6.out⟩, k5⟩
    · exact k2.elim
  · rintro H ⟨φ2, S2, acc, b, k2⟩
    have gd := lcLX_gd k2.bind
    rw [List.drop_length] at k2
    unfold lcLX at k2
    rw [if_pos gd] at k2
    obtain ⟨vs', h1, h2⟩ := b.at_
    have n2 := b.nx.adopt hD h1 b.out h2
    exact k2 _ _ n2 _ (dr_ref (by rw [← b.nx.rep.len]; simp))
theorem re_lcX {elt iter : Expr} {ifs : List Expr} {scope : Scope} {own : List (Str × Nat)} {w : IW} {vt : List Nat} {tgf : IG} {t : IT} {e : IE} {k : Nat} (a : At X E k) (hs : X.stack = X.env :: X.outer) (hf : X.env.frame = some X.env.locals) (hN : X.N.Nodup) (hi : RI X g E tg iter w) (ok : BlkOk X.N X.env.scope scope own)
    (hg : OfBlk X scope fun Y => RG Y g E0 tg vt tgf) (ht : OfBlk X scope fun Y => PTs Y ifs (tIT X.K g E0 t)) (he : OfBkX X scope E fun Y => RE Y g E elt e) (hsub : ∀ j ∈ vt, j ∈ own.map (·.2) := by decide) (hfold : ∀ x, foldedSetIterable iter X.env x = pure x := by intro _; rfl) :
    RE X g E (.ListComp elt [⟨tg, iter, ifs, 0⟩] scope pos) (iLcX w tgf t e (own.map (·.2))) :=
  PE.imp (pe_lcX a.tk (fun _ _ _ _ h => h) hs hf a.calm hN hi ok hg ht he hfold) fun σ H Q h => lc_readX hsub h
theorem rs_lcX {i : Nat} {y : Str} {py spos : Pos} {elt iter : Expr} {ifs : List Expr} {scope : Scope} {own : List (Str × Nat)} {w : IW} {vt : List Nat} {tgf : IG} {t : IT} {e : IE} {k : Nat} (a : At X E k) (hs : X.stack = X.env :: X.outer) (hf : X.env.frame = some X.env.locals) (hN : X.N.Nodup) (hy : X.N[i]? = some y) (hyl : X.env.scope.names.lookup y = some .local)
    (hsw : swapsWith (.ListComp elt [⟨tg, iter, ifs, 0⟩] scope pos) (some (.Name y py)) spos.line X.env = pure true) (hi : RI X g E tg iter w) (ok : BlkOk X.N X.env.scope scope own)
    (hg : OfBlk X scope fun Y => RG Y g E0 tg vt tgf) (ht : OfBlk X scope fun Y => PTs Y ifs (tIT X.K g E0 t)) (he : OfBkX X scope E fun Y => RE Y g E elt e) (hsub : ∀ j ∈ vt, j ∈ own.map (·.2) := by decide) (hfold : ∀ x, foldedSetIterable iter X.env x = pure x := by intro _; rfl) :
    RS X g E (.Assign [.Name y py] (.ListComp elt [⟨tg, iter, ifs, 0⟩] scope pos) spos) (sAsg (iLcX w tgf t e (own.map (·.2))) (gN i)) :=
  PS.imp (ps_setLcX a.tk (fun _ _ _ _ h => h) hs hf a.calm hN hy hyl hsw hi ok hg ht he hfold) fun Dn σ H ⟨φ, ρ, S, er, rp, k⟩ => lc_readX hsub ⟨φ, ρ, S, er, rp, k.bind.mono fun d S1 φ1 H1 _ _ ⟨r1, n1, k1⟩ v dv => k1 φ1 H1 (.refl r1) _ ((n1.er er).set dv)⟩
end
section
variable {S : Sto} {ρ : Env} {X : Str → Sto → Prop} {t : IG} {fa : IE}
theorem wp_iLcX {w : IW} {tt : IT} {vs : List Nat} {Q : D → Sto → Prop} (q : wp (w ρ S) (fun s S1 => wp (lcLX s.gd t tt fa (wipeD ρ vs) s.items [] S1) (fun ds S2 => Q (.ref S2.length) (S2 ++ [.lst ds])) X) X) : wp (iLcX w t tt fa vs ρ S) Q X := by
  with_unfolding_all
    exact wp_bind (wp_mono q (fun _ _ h => wp_bind h) fun _ _ h => h)
instance i_wp_iLcX {w : IW} {tt : IT} {vs : List Nat} {Q : D → Sto → Prop} : St (wp (iLcX w t tt fa vs ρ S) Q X) (wp (w ρ S) (fun s S1 => wp (lcLX s.gd t tt fa (wipeD ρ vs) s.items [] S1) (fun ds S2 => Q (.ref S2.length) (S2 ++ [.lst ds])) X) X) := ⟨fun h => wp_iLcX h⟩
theorem wp_lcX {gd : Sto → Prop} {items : List D} {tt : IT} {Q : List D → Sto → Prop} (hl : items.length < LIM) (I : Nat → List D → Sto → Prop) (h0 : I 0 [] S) (hg : ∀ k acc S, k ≤ items.length → I k acc S → gd S)
    (hs : ∀ k d acc S, items[k]? = some d → I k acc S → wp (t d ρ S) (fun ρ1 S1 => wp (tt ρ1 S1) (fun b S2 => if b = true then wp (fa ρ1 S2) (fun y S3 => I (k + 1) (acc ++ [y]) S3) X else I (k + 1) acc S2) fun _ _ => False) fun _ _ => False)
    (he : ∀ acc S, I items.length acc S → Q acc S) : wp (lcLX gd t tt fa ρ items [] S) Q X := by
  with_unfolding_all
    have main : ∀ (r : List D) (k : Nat) acc S, items.drop k = r → k ≤ items.length → acc.length ≤ k → I k acc S → wp (lcLX gd t tt fa ρ r acc S) Q X := by
      intro r
      induction r with
      | nil =>
        intro k acc S hd hk ha hI
        have : k = items.length := by
          have := congrArg List.length hd
          simp at this; omega
        subst this
        unfold lcLX
        exact wp_ift (hg _ _ _ hk hI) (he _ _ hI)
      | cons d r ih =>
        intro k acc S hd hk ha hI
        have h1 : items[k]? = some d := by
          have := congrArg List.head? hd
          simpa [List.head?_drop] using this
        have h2 : k < items.length := (List.getElem?_eq_some_iff.mp h1).1
        have h3 : items.drop (k + 1) = r := by
          have := congrArg List.tail hd
          simpa [List.tail_drop] using this
        unfold lcLX
        refine wp_ift ⟨hg _ _ _ hk hI, Nat.lt_of_le_of_lt (Nat.le_trans ha hk) hl⟩ (wp_bind (wp_mono (wp_noX (hs k d acc S h1 hI)) (fun ρ1 S1 h => wp_bind (wp_mono (wp_noX h) (fun b S2 h => ?_) fun _ _ h => h)) fun _ _ h => h))
        cases b with
        | false => exact ih (k + 1) _ _ h3 h2 (by omega) h
        | true => exact wp_bind (wp_mono h (fun y S3 h => ih (k + 1) _ _ h3 h2 (by simp; omega) h) fun _ _ h => h)
    exact main items 0 [] S rfl (Nat.zero_le _) (Nat.le_refl _) h0
end
end J

set_option Elab.async false
set_option linter.all false
set_option maxRecDepth 100000
set_option maxHeartbeats 4000000
namespace J
open PySem PySem.Spec PyProof.Rows L2
/-! ### a yard, as plain data -/
inductive Deed where
  | lay (w : List (Int × Int))
  | hire (x : Str) (p : Int)
  | dismiss (x : Str)
  | send (x : Str) (k : Int)
  | call (x : Str)
  | stay (x : Str)
  | swap (x : Str)
  | pace (x : Str) (p : Int)
  | go (a b : Int)
  | outs (k n : Int)
def deedD : Deed → D
  | .lay w => .tup [.str "lay", .tup (w.map pD)]
  | .hire x p => .tup [.str "hire", .str x, .int p]
  | .dismiss x => .tup [.str "dismiss", .str x]
  | .send x k => .tup [.str "send", .str x, .int k]
  | .call x => .tup [.str "call", .str x]
  | .stay x => .tup [.str "stay", .str x]
  | .swap x => .tup [.str "swap", .str x]
  | .pace x p => .tup [.str "pace", .str x, .int p]
  | .go a b => .tup [.str "go", .int a, .int b]
  | .outs k n => .tup [.str "outs", .int k, .int n]
/-- a row of the book -/
inductive Bk where
  | out (t : Rat) (k : Nat) (i : Int) (x : Str)
  | left (t : Rat) (k : Nat) (x : Str)
def bkD : Bk → D
  | .out t k i x => .tup [aD t, .int (k : Nat), .str "out", .int i, .str x]
  | .left t k x => .tup [aD t, .int (k : Nat), .str "left", .str x]
def Bk.t : Bk → Rat
  | .out t _ _ _ => t
  | .left t _ _ => t
def Bk.k : Bk → Nat
  | .out _ k _ _ => k
  | .left _ k _ => k
def Bk.x : Bk → Str
  | .out _ _ _ x => x
  | .left _ _ x => x
theorem bkD_t (b : Bk) : ∃ ds, bkD b = .tup (aD b.t :: ds) := by cases b <;> exact ⟨_, rfl⟩
/-- where a row goes, from a place downwards -/
def atB (l : List Bk) (b : Bk) : Nat → Nat
  | 0 => 0
  | k + 1 => match l[k]? with
    | some c => if b.t < c.t then atB l b k else k + 1
    | none => k + 1
def insB (l : List Bk) (b : Bk) : List Bk := l.take (atB l b l.length) ++ b :: l.drop (atB l b l.length)
def byH (l : List Bk) : List Bk := l.foldl insB []
theorem atB_le {l : List Bk} {b : Bk} : ∀ k, atB l b k ≤ k
  | 0 => Nat.le_refl _
  | k + 1 => by
    unfold atB
    split
    · split
      · exact Nat.le_succ_of_le (atB_le k)
      · exact Nat.le_refl _
    · exact Nat.le_refl _
theorem insB_perm {l : List Bk} {b : Bk} : (insB l b).Perm (b :: l) := by
  unfold insB
  refine List.perm_middle.trans ?_
  rw [List.take_append_drop]
theorem byH_perm' : ∀ (r l : List Bk), (r.foldl insB l).Perm (l ++ r)
  | [], l => by simp
  | b :: r, l => by
    rw [List.foldl_cons]
    refine (byH_perm' r _).trans ?_
    refine (insB_perm.append_right r).trans ?_
    rw [List.cons_append]
    exact List.perm_middle.symm
theorem byH_perm {l : List Bk} : (byH l).Perm l := by
  have := byH_perm' l []
  simpa [byH] using this
theorem insB_len {l : List Bk} {b : Bk} : (insB l b).length = l.length + 1 := insB_perm.length_eq
theorem byH_len {l : List Bk} : (byH l).length = l.length := byH_perm.length_eq
theorem byH_mem {l : List Bk} {b : Bk} : b ∈ byH l ↔ b ∈ l := byH_perm.mem_iff
theorem byH_snoc {l : List Bk} {b : Bk} : byH (l ++ [b]) = insB (byH l) b := by
  unfold byH
  rw [List.foldl_append]
  rfl
section
variable {Q : D → Sto → Prop} {X : Str → Sto → Prop} {S : Sto}
theorem wp_lenDc' {n : Nat} {kvs : List (Key × D)} (e : dctOf S n = some kvs) (h : Q (.int kvs.length) S) : wp (bLen [.ref n] S) Q X := by
  have e1 : lstOf S n = none := by
    have h1 := dctOf_some e
    unfold lstOf
    rw [h1]
  have e2 : bLen [.ref n] S = .ok (.int kvs.length) S := by
    unfold bLen
    simp only [seqOf, e1, e]
  exact wp_eq e2 h
end
def optN : Option Nat → D
  | some k => .int (k : Nat)
  | none => .non
end J

set_option Elab.async false
set_option linter.all false
set_option maxRecDepth 100000
set_option maxHeartbeats 4000000
/-! sets of texts, and sorted(set(names)) -/
namespace J
open PySem PySem.Spec PyProof.Rows L2
/-! ### what a set of texts is -/
def keyT (e : Int × Value) : Str := match e.2 with
  | .str x _ => x
  | _ => Str.empty
def GdT (w : World) (e : Int × Value) : Prop := ∃ x tk, e.2 = Value.str x tk ∧ e.1 = hashStr w x
structure SetT (w : World) (hp : Heap) (c : Addr) (M : Str → Bool) (z : Nat) : Prop where
  ex : ∃ ob es ep tb, hp.get? c = some ob ∧ ob.ExactSet ∧ ob.data = .set es ep tb ∧ (∀ e ∈ es.toList, GdT w e) ∧ (es.toList.map keyT).Nodup ∧ (∀ x, M x = true ↔ x ∈ es.toList.map keyT) ∧ es.size < scanBound ∧ tb.fits es.size = true ∧ es.size = z ∧ L2.Ris tb.place.toList ∧ (w.params.followText "set-order" = true ∨ tb.led = true)
section
variable {P : Program} {w : World} {hp hp' : Heap} {c : Addr} {M : Str → Bool} {z : Nat}
theorem SetT.at (R : SetT w hp c M z) (k : ∀ o, hp.get? c = some o → hp'.get? c = some o) : SetT w hp' c M z := by
  obtain ⟨ob, es, ep, tb, q, r⟩ := R.ex
  exact ⟨ob, es, ep, tb, k ob q, r⟩
theorem SetT.congr {M' : Str → Bool} (R : SetT w hp c M z) (e : ∀ x, M' x = M x) : SetT w hp c M' z := by
  have : M' = M := funext e
  rw [this]; exact R
theorem gdT_elems {l : List (Int × Value)} (g : ∀ e ∈ l, GdT w e) : ElemsOf (PySem.strKind P w) l := fun e he => by
  obtain ⟨x, tk, q1, q2⟩ := g e he
  exact ⟨⟨x, by rw [q1]; exact strKind_is _ _ _ _, q2⟩, by rw [q1] <;> rfl⟩
theorem gdT_is {e : Int × Value} (g : GdT w e) (x : Str) : (PySem.strKind P w).is x e.2 = true ↔ keyT e = x := by
  obtain ⟨y, tk, q1, _⟩ := g
  unfold keyT
  rw [q1]
  constructor
  · intro h
    have h : Value.isStrOf x (Value.str y tk) = true := h
    obtain ⟨t, ht⟩ := Value.isStrOf_shape h
    injection ht
  · intro h
    dsimp only at h
    rw [h]
    exact strKind_is _ _ _ _
theorem gdT_mem {l : List (Int × Value)} (g : ∀ e ∈ l, GdT w e) (x : Str) : x ∈ l.map keyT ↔ ∃ e ∈ l, (PySem.strKind P w).is x e.2 = true := by
  constructor
  · intro h
    obtain ⟨e, he, q⟩ := List.mem_map.mp h
    exact ⟨e, he, (gdT_is (g e he) x).2 q⟩
  · rintro ⟨e, he, q⟩
    exact List.mem_map.mpr ⟨e, he, (gdT_is (g e he) x).1 q⟩
end
section
variable {P : Program} {w : World} {A : Around} {E : Value → Shared → Prop} {s : Shared} {c : Addr} {M : Str → Bool} {z : Nat}
theorem putT_at {hp : Heap} {ob : Obj} {es es' : Array (Int × Value)} {ep : Nat} {tb tb' : SetTable} (q : hp.get? c = some ob) (d : ob.data = .set es ep tb) : (hp.update c (Obj.putSet es' tb')).get? c = some { ob with data := .set es' (ep + 1) tb' } := by
  have r := Heap.get?_update_self (Obj.putSet es' tb') q (by rw [putSet_of es' tb' d]; rfl)
  rw [putSet_of es' tb' d] at r
  exact r
theorem setT_tail {gv : Bool → Sem Unit} (hgv : ∀ (b : Bool) (s₁ : Shared) (Q' : Unit → Shared → Prop), Q' () s₁ → wpAny (model P w) A (gv b) Q' E s₁) {ob : Obj} {es : Array (Int × Value)} {ep : Nat} {tb : SetTable} (q : s.heap.get? c = some ob) (hx : ob.ExactSet) (d : ob.data = .set es ep tb)
    {fs : Array (Int × Value)} {tc : SetTable} {M' : Str → Bool} (gf : ∀ e ∈ fs.toList, GdT w e) (nf : (fs.toList.map keyT).Nodup) (mf : ∀ x, M' x = true ↔ x ∈ fs.toList.map keyT) (bf : fs.size < scanBound) (ff : tc.fits fs.size = true) (rf : L2.Ris tc.place.toList) (lf : w.params.followText "set-order" = true ∨ tc.led = true)
    {dum : Bool} {R : Option Bool → Shared → Prop} (hR : ∀ hp', Heap.SameBut c s.heap hp' → SetT w hp' c M' fs.size → R (some true) { s with heap := hp' }) :
    wpAny (model P w) A (do
        storeSet c fs tc
        if (!dum && tc.tooFull) = true then do
            gv (relayAll tc fs (SetTable.grown fs.size)).2.2
            storeSet c (relayAll tc fs (SetTable.grown fs.size)).1 (relayAll tc fs (SetTable.grown fs.size)).2.1
            pure (some true)
          else pure (some true)) R E s := by
  refine wpAny_bind (wpAny_storeSet_of q d ?_ (fits_of_scanBound bf))
  have q1 := putT_at (es' := fs) (tb' := tc) q d
  have b1 := Heap.SameBut.update s.heap c (Obj.putSet fs tc)
  split
  · have p1 := relayAll_perm tc fs (SetTable.grown fs.size)
    have p2 := relayAll_fits tc fs (SetTable.grown fs.size)
    have p3 := relayAll_ris tc fs (SetTable.grown fs.size)
    have p4 := relayAll_led tc fs (SetTable.grown fs.size)
    generalize relayAll tc fs (SetTable.grown fs.size) = W at p1 p2 p3 p4 ⊢
    obtain ⟨gs, td, gave⟩ := W
    dsimp only at p1 p2 p3 p4 ⊢
    have z1 : gs.size = fs.size := by rw [← Array.length_toList, p1.length_eq, Array.length_toList]
    have z2 : gs.size < scanBound := z1 ▸ bf
    refine wpAny_bind (hgv _ _ _ (wpAny_bind (wpAny_storeSet_of q1 rfl ?_ (fits_of_scanBound z2))))
    have q2 := putT_at (es' := gs) (tb' := td) q1 rfl
    exact wpAny_pure (hR _ (b1.trans (Heap.SameBut.update _ c _)) ⟨_, gs, _, td, q2, hx, rfl, fun e he => gf e (p1.mem_iff.mp he), (p1.map keyT).nodup_iff.mpr nf, fun x => (mf x).trans (p1.map keyT).mem_iff.symm, z2, p2, z1, p3, lf.imp id fun u => by rw [p4]; exact u⟩)
  · exact wpAny_pure (hR _ b1 ⟨_, fs, _, tc, q1, hx, rfl, gf, nf, mf, bf, ff, rfl, rf, lf⟩)
theorem setT_hashed {x : Str} {tk : Tok} {Q : Bool → Shared → Prop} (R : SetT w s.heap c M z) (room : z + 1 < scanBound) (hQ : ∀ hp', Heap.SameBut c s.heap hp' → SetT w hp' c (fun y => M y || decide (y = x)) (if M x = true then z else z + 1) → Q (!M x) { s with heap := hp' }) :
    wpAny (model P w) A (setAddHashed c (.str x tk) ((PySem.strKind P w).hash x)) Q E s := by
  obtain ⟨ob, es, ep, tb, q, hx, d, g, nd, hm, hb, hf, hz, hr, hl⟩ := R.ex
  have kx : (PySem.strKind P w).is x (.str x tk) = true := strKind_is _ _ _ _
  have sx : (Value.str x tk).scannable = true := rfl
  have el : ElemsOf (PySem.strKind P w) es.toList := gdT_elems g
  unfold setAddHashed setAddHashedIn
  refine wpAny_holding (wpAny_bind (wpAny_setState_of q d hf ?_))
  dsimp only
  rw [byScan_of sx hb el]
  simp only [↓reduceIte]
  unfold setAddByScan
  refine wpAny_bind (wpAny_bind (wpAny_rule (wpAny_bind (wpAny_setScan_of kx q d hf el ?_))))
  cases fi : List.findIdx? (fun e => (PySem.strKind P w).is x e.2) es.toList with
  | some j =>
    dsimp only
    obtain ⟨hj, pj, _⟩ := List.findIdx?_eq_some_iff_getElem.mp fi
    have mx : M x = true := (hm x).2 ((gdT_mem (P := P) (w := w) g x).2 ⟨es.toList[j], List.getElem_mem hj, pj⟩)
    have r := hQ s.heap (Heap.SameBut.refl c s.heap) ⟨ob, es, ep, tb, q, hx, d, g, nd, fun y => by
      rw [Bool.or_eq_true, decide_eq_true_eq, ← hm y]
      exact ⟨fun u => u.elim id (fun e => e ▸ mx), .inl⟩, hb, hf, by rw [if_pos mx]; exact hz, hr, hl⟩
    rw [mx] at r
    exact wpAny_pure (wpAny_pure r)
  | none =>
    dsimp only
    have nx : x ∉ es.toList.map keyT := fun u => by
      obtain ⟨e, he, v⟩ := (gdT_mem (P := P) (w := w) g x).1 u
      have t := List.findIdx?_eq_none_iff.mp fi e he
      rw [v] at t
      cases t
    have mx : M x = false := by
      cases u : M x with
      | false => rfl
      | true => exact absurd ((hm x).1 u) nx
    have gw : ∀ (b : Bool) {s₁ : Shared} {Q' : Unit → Shared → Prop}, Q' () s₁ → wpAny (model P w) A (match b with | true => rule "set.scan.the-table-gave-way" | false => pure ()) Q' E s₁ := fun b s₁ Q' u => by
      cases b with
      | true => exact wpAny_rule u
      | false => exact wpAny_pure u
    have p1 := layNew_perm tb es ((PySem.strKind P w).hash x) (.str x tk)
    have p2 := layNew_fits tb es ((PySem.strKind P w).hash x) (.str x tk)
    have p3 := layNew_ris tb es ((PySem.strKind P w).hash x) (.str x tk) hr
    have p4 := layNew_led tb es ((PySem.strKind P w).hash x) (.str x tk)
    generalize layNew tb es ((PySem.strKind P w).hash x) (.str x tk) = W at p1 p2 p3 p4 ⊢
    obtain ⟨fs, tc, dum, gave⟩ := W
    dsimp only at p1 p2 p3 p4 ⊢
    rw [Array.toList_push] at p1
    have pc : fs.toList.Perm (((PySem.strKind P w).hash x, Value.str x tk) :: es.toList) := p1.trans (List.perm_append_singleton _ _)
    have pk : (fs.toList.map keyT).Perm (x :: es.toList.map keyT) := pc.map keyT
    have gf : ∀ e ∈ fs.toList, GdT w e := fun e he => by
      rcases List.mem_cons.mp (pc.mem_iff.mp he) with u | u
      · rw [u]; exact ⟨x, tk, rfl, rfl⟩
      · exact g e u
    have nf : (fs.toList.map keyT).Nodup := pk.nodup_iff.mpr (List.nodup_cons.mpr ⟨nx, nd⟩)
    have mf : ∀ y, (M y || decide (y = x)) = true ↔ y ∈ fs.toList.map keyT := fun y => by
      rw [Bool.or_eq_true, decide_eq_true_eq, hm y, pk.mem_iff, List.mem_cons]
      exact or_comm
    have zf : fs.size = z + 1 := by rw [← Array.length_toList, pc.length_eq, List.length_cons, Array.length_toList, hz]
    have bf : fs.size < scanBound := by rw [zf]; exact room
    have lf : w.params.followText "set-order" = true ∨ tc.led = true := hl.imp id fun u => by rw [p4]; exact u
    have fin : ∀ hp', Heap.SameBut c s.heap hp' → SetT w hp' c (fun y => M y || decide (y = x)) fs.size → Q true { s with heap := hp' } := fun hp' sb r => by
      have u := hQ hp' sb
      rw [mx] at u
      rw [zf] at r
      exact u r
    refine wpAny_bind (gw _ ?_)
    split
    · refine wpAny_bind ?_
      rw [hashByValue_scannable 8 sx]
      refine wpAny_pure (setT_tail ?_ q hx d gf nf mf bf ?_ ?_ ?_ ?_)
      · intro b s₁ Q' u
        cases b with
        | true => exact wpAny_rule u
        | false => exact wpAny_pure u
      · first | (split <;> first | exact p2 | exact SetTable.fits_plain_off p2) | exact p2
      · first | (split <;> exact p3) | exact p3
      · first | (split <;> exact lf) | exact lf
      · intro hp' sb r
        dsimp only
        exact wpAny_pure (fin hp' sb r)
    · refine wpAny_bind (wpAny_pure ?_)
      simp only [↓reduceIte]
      refine setT_tail ?_ q hx d gf nf mf bf p2 p3 lf ?_
      · intro b s₁ Q' u
        cases b with
        | true => exact wpAny_rule u
        | false => exact wpAny_pure u
      · intro hp' sb r
        dsimp only
        exact wpAny_pure (fin hp' sb r)
end
/-! ### set(xs) of a list of texts -/
theorem setT_empty {w : World} {hp : Heap} {c : Addr} {xs : List Str} (q : hp.get? c = some { cls := .type "set", dict := none, data := .set #[] 0 (.fresh 0 0 (!w.params.followText "set-order")) }) : SetT w hp c (fun y => decide (y ∈ xs.take 0)) 0 :=
  ⟨_, #[], 0, _, q, ⟨rfl, rfl, rfl⟩, rfl, (fun e h => by simp at h), (by simp), (fun x => by simp), (by decide), (by rfl), rfl, List.Pairwise.nil, by
    show _ ∨ (!w.params.followText "set-order") = true
    cases w.params.followText "set-order" with
    | true => exact .inl rfl
    | false => exact .inr rfl⟩
section
variable {P : Program} {w : World} {A : Around} {E : Value → Shared → Prop} {s : Shared}
theorem setT_update {I : Addr} {fp wr : List Addr} {G : Array GenState → Array GenState → Prop} {m : Nat} {Pv : Nat → Value → Prop} {St : Nat → Shared → Prop} {R : Result → Shared → Prop}
    (W : WalksS P w A.in1 I fp wr G m Pv St) (c : Addr) (nc : c ∉ fp) (xs : List Str) (em : m = xs.length) (hb : xs.length + 1 < scanBound) (pv : ∀ i v, Pv i v → ∃ x t, xs[i]? = some x ∧ v = .str x t) :
    ∀ (k i : Nat) (s : Shared), m - i = k → i ≤ m → St i s → (∃ z, z ≤ i ∧ SetT w s.heap c (fun y => decide (y ∈ xs.take i)) z) →
      (∀ s' z, Moved (c :: wr) G s s' → z ≤ m → SetT w s'.heap c (fun y => decide (y ∈ xs)) z → R (.ok (.ret .none)) s') → codeAny (model P w) A (.builtin "set.update.loop" ⟨[.ref c, .ref I], []⟩) R s := by
  have nw : c ∉ wr := fun h => nc (W.sub _ h)
  have up : ∀ b ∈ wr, b ∈ c :: wr := fun b hb => List.mem_cons_of_mem _ hb
  intro k
  induction k with
  | zero =>
    intro i s ek hi st ⟨z, hz, hS⟩ hR
    have ei : i = m := by omega
    subst ei
    refine codeAny_builtin F.entry_set_update_loop ?_
    rw [Around.under_plainId F.plain_set_update_loop _]
    show wpAny _ A.in1 (pyNext (.ref I) >>= _) _ _ s
    refine wpAny_bind (W.done s _ _ st fun s' hm => ?_)
    show wpAny _ A.in1 (ret Value.none) _ _ s'
    rw [List.take_of_length_le (by omega : xs.length ≤ i)] at hS
    exact wpAny_pure (hR s' z (hm.mono up) hz (hS.at fun o e => hm.heap c o nw e))
  | succ k ih =>
    intro i s ek hi st ⟨z, hz, hS⟩ hR
    have il : i < m := by omega
    refine codeAny_builtin F.entry_set_update_loop ?_
    rw [Around.under_plainId F.plain_set_update_loop _]
    show wpAny _ A.in1 (pyNext (.ref I) >>= _) _ _ s
    refine wpAny_bind (W.item i s _ _ il st fun v s' hP st' hm => ?_)
    obtain ⟨x, t, hx, rfl⟩ := pv i v hP
    have hS1 : SetT w s'.heap c (fun y => decide (y ∈ xs.take i)) z := hS.at fun o e => hm.heap c o nw e
    show wpAny _ A.in1 (holding [Value.str x t] (setAdd c (.str x t)) >>= _) _ _ s'
    refine wpAny_bind (wpAny_holding ?_)
    unfold setAdd
    refine wpAny_holding (wpAny_bind ((PySem.strKind P w).pyHash (k := x) (strKind_is _ _ _ _) (setT_hashed (s := { s' with toks := s'.toks + 1 }) hS1 (by omega) fun hp' sb hS2 => ?_)))
    have hS3 : SetT w hp' c (fun y => decide (y ∈ xs.take (i + 1))) (if decide (x ∈ xs.take i) = true then z else z + 1) := hS2.congr fun y => by
      rw [List.take_add_one, hx]
      simp [List.mem_append]
    have hz3 : (if decide (x ∈ xs.take i) = true then z else z + 1) ≤ i + 1 := by split <;> omega
    refine wpAny_pure ⟨plainId_quiet F.plain_set_update_loop _, ih (i + 1) _ (by omega) il (W.frame _ s' _ _ st' (Nat.le_succ _) fun b hb o e => ?_) ⟨_, hz3, hS3⟩ fun s2 z2 m2 l2 S2 => ?_⟩
    · rw [sb.2 b (fun h : b = c => nc (by rw [← h]; exact hb))]; exact e
    · refine hR s2 z2 (Moved.trans W.gtrans ((hm.mono up).then_heap (Nat.le_succ _) fun b o hb e => ?_) m2) l2 S2
      rw [sb.2 b (fun h : b = c => hb (by rw [h]; exact List.mem_cons_self))]; exact e
set_option maxHeartbeats 16000000 in
theorem call_setT {l : Addr} {its : Array Value} (xs : List Str) {Q : Value → Shared → Prop} (hh : A.handled = none) (hl : s.heap.IsList l its) (hi : PyProof.Rows.StrsAre its.toList xs) (hb : xs.length + 1 < scanBound)
    (h : ∀ (hp' : Heap) (tk z : Nat), SetT w hp' s.heap.objs.size (fun y => decide (y ∈ xs)) z → z ≤ xs.length → (∀ b o, s.heap.get? b = some o → hp'.get? b = some o) → Q (.ref s.heap.objs.size) { s with heap := hp', toks := tk }) : wpAny (model P w) A (call (.type "set") [.ref l]) Q E s := by
  have iz : its.size = xs.length := by rw [← StrsAre.len_eq hi, Array.length_toList]
  obtain ⟨cc, tl, hmro⟩ := F.called_set.mro
  have hmade := F.called_set.made
  have hsub := F.called_set.sub
  refine wpAny_call (codeAny_of_tree ?_)
  show wpAny _ _ (callAny (.type "set") _) _ _ _
  refine wpAny_pure ⟨Code.quiet_builtin _ (by decide +kernel), codeAny_builtin F.entry_type_call ?_⟩
  rw [Around.under_plain (weight_type_call_type "set" [.ref l] []) rfl]
  have g1 := F.called_set.notType
  have g2 := F.called_set.canCreate
  have g3 := F.typeCall_set_1 (.ref l)
  repeat (any_goals (first | assumption | wp_step))
  refine codeAny_mono (code_set_led1 (.ref l) (E := E) (Q₁ := fun v s₁ => v = .ref s.heap.objs.size ∧ s₁ = { s with heap := s.heap.push { cls := .type "set", dict := none, data := .set #[] 0 (.fresh 0 0 (!w.params.followText "set-order")) } }) ⟨rfl, rfl⟩) fun r s₁ hr => ?_
  cases r with
  | error e => exact hr
  | ok fl =>
    cases fl with
    | ret v =>
      obtain ⟨rfl, rfl⟩ := hr
      have hS : (s.heap.push { cls := .type "set", dict := none, data := .set #[] 0 (.fresh 0 0 (!w.params.followText "set-order")) }).get? s.heap.objs.size = some { cls := .type "set", dict := none, data := .set #[] 0 (.fresh 0 0 (!w.params.followText "set-order")) } := Heap.get?_push_size _ rfl
      have hT : Shared.TypeIs { s with heap := s.heap.push { cls := .type "set", dict := none, data := .set #[] 0 (.fresh 0 0 (!w.params.followText "set-order")) } } (.ref s.heap.objs.size) "set" := ⟨_, hS, rfl⟩
      have i1 := F.called_set.init.lookup
      have i2 := F.called_set.init.bind (.ref s.heap.objs.size)
      repeat (any_goals (first | assumption | wp_step))
      refine codeAny_mono (codeAny_call_builtin (R := wants (fun r s₂ => r = .none ∧ ∃ hp' tk z, s₂ = { s with heap := hp', toks := tk } ∧ SetT w hp' s.heap.objs.size (fun y => decide (y ∈ xs)) z ∧ z ≤ xs.length ∧ ∀ b o, s.heap.get? b = some o → hp'.get? b = some o) E) F.called_set.init.plain F.entry_set_init (check_set_init_1 hT ?_)) fun r₂ s₂ hr₂ => ?_
      · obtain ⟨ol, hol, hcl, nl, hdl⟩ := hl
        obtain ⟨ocls, odict, odata, oslots⟩ := ol
        simp only at hcl hdl
        subst hcl hdl
        have hol2 : (s.heap.push { cls := .type "set", dict := none, data := .set #[] 0 (.fresh 0 0 (!w.params.followText "set-order")) }).get? l = some { cls := .type "list", dict := odict, data := .seq its nl, slots := oslots } := Heap.get?_push_of_some _ hol
        have k1 := F.sub_list_set
        have k2 := F.sub_list_frozenset
        have k3 : (Value.type "list" == Value.type "dict") = false := by decide
        have hl1 : (s.heap.push { cls := .type "set", dict := none, data := .set #[] 0 (.fresh 0 0 (!w.params.followText "set-order")) }).IsList l its := ⟨_, hol2, rfl, nl, rfl⟩
        unfold Builtin.«set.__init__» noKeywords Builtin.Frozenset.updateFrom
        generalize hPI : pyIter = PI
        wp_walk
        subst hPI
        refine wpAny_pyIter_list hl1 (wpAny_bind (wpAny_runValue ?_))
        have ll : l < s.heap.objs.size := Heap.lt_size hol
        have h3 : A.in1.in1.in1.handled = none := by simp [hh]
        have z1 : (s.heap.push { cls := .type "set", dict := none, data := .set #[] 0 (.fresh 0 0 (!w.params.followText "set-order")) }).objs.size = s.heap.objs.size + 1 := Heap.size_push ..
        have n1 : l ≠ (s.heap.push { cls := .type "set", dict := none, data := .set #[] 0 (.fresh 0 0 (!w.params.followText "set-order")) }).objs.size := by rw [z1]; exact Nat.ne_of_lt (Nat.lt_succ_of_lt ll)
        have n2 : s.heap.objs.size ∉ [(s.heap.push { cls := .type "set", dict := none, data := .set #[] 0 (.fresh 0 0 (!w.params.followText "set-order")) }).objs.size, l] := by
          rw [z1, List.mem_cons, List.mem_singleton, not_or]
          exact ⟨Nat.ne_of_lt (Nat.lt_succ_self _), Nat.ne_of_gt ll⟩
        have pv : ∀ (i : Nat) (v : Value), its[i]? = some v → ∃ x t, xs[i]? = some x ∧ v = .str x t := fun i v hv => by
          have hi2 : i < xs.length := by rw [← iz]; exact (Array.getElem?_eq_some_iff.mp hv).1
          obtain ⟨t, e⟩ := SS.strs_at hi i v (by rw [Array.getElem?_toList]; exact hv)
          refine ⟨xs[i], t, List.getElem?_eq_getElem hi2, ?_⟩
          rw [e, List.getD_eq_getElem?_getD, List.getElem?_eq_getElem hi2] <;> rfl
        refine setT_update ((Walks.list h3 _ l n1 its).toS) s.heap.objs.size n2 xs iz hb pv (its.size - 0) 0 _ (by omega) (Nat.zero_le _) ⟨⟨_, Heap.get?_push_size _ rfl, rfl, rfl⟩, (hl1.push _)⟩ ⟨0, Nat.le_refl 0, setT_empty (Heap.get?_push_of_some _ hS)⟩ ?hR
        case hR =>
          intro s' z hm hz hS'
          obtain ⟨hp', g2, d', tk', os'⟩ := s'
          have eg : g2 = s.gens := hm.gens
          have ed : d' = s.drawn := hm.drawn
          have eo : os' = s.os := hm.os
          subst eg ed eo
          show wpAny _ _ _ _ _ _
          refine wpAny_pure ?_
          show wpAny _ _ (ret Value.none) _ _ _
          rw [iz] at hz
          refine wpAny_pure ⟨rfl, hp', tk', z, rfl, hS', hz, fun b o e => ?_⟩
          have b0 : b < s.heap.objs.size := Heap.lt_size e
          refine hm.heap b o ?_ (Heap.get?_push_of_some _ (Heap.get?_push_of_some _ e))
          rw [z1, List.mem_cons, List.mem_singleton, not_or]
          exact ⟨Nat.ne_of_lt b0, Nat.ne_of_lt (Nat.lt_succ_of_lt b0)⟩
      · cases r₂ with
        | error e => exact hr₂
        | ok fl₂ =>
          cases fl₂ with
          | ret r =>
            obtain ⟨rfl, hp', tk, z, rfl, hS', hz, hk'⟩ := hr₂
            repeat (any_goals (first | assumption | wp_step))
            exact h _ _ _ hS' hz hk'
          | _ => exact hr₂.elim
    | _ => exact hr.elim
/-! ### sorted -/
def strV : Value → Str
  | .str x _ => x
  | _ => Str.empty
theorem strs_ofV : ∀ (l : List Value), (∀ v ∈ l, ∃ x t, v = Value.str x t) → StrsAre l (l.map strV)
  | [], _ => .nil
  | v :: l, h => by
    obtain ⟨x, t, rfl⟩ := h v List.mem_cons_self
    exact .cons x t (strs_ofV l fun u hu => h u (List.mem_cons_of_mem _ hu))
theorem sorted_setT {c : Addr} {M : Str → Bool} {z : Nat} {Q : Value → Shared → Prop} (R : SetT w s.heap c M z) (hh : A.handled = none) (hz : z ≤ 4000)
    (hQ : ∀ s' p (out : Array Value) (e : Nat) (ys : List Str), (∀ b o, s.heap.get? b = some o → s'.heap.get? b = some o) → s'.gens = s.gens → s'.os = s.os → s.heap.objs.size ≤ p → s'.heap.get? p = some (seqObj "list" out e) → StrsAre out.toList ys → sortedS ys = true → ys.Nodup → (∀ x, x ∈ ys ↔ M x = true) → ys.length = z → Q (.ref p) s') :
    wpAny (model P w) A (call (.builtin "sorted") [.ref c]) Q E s := by
  obtain ⟨ob, es, ep, tb, q, hx, d, g, nd, hm, hb, hf, ez, hr, hl⟩ := R.ex
  refine Calls.call_function_entry kind_sorted plain_sorted entry_sorted (args_sorted1 _) ?_
  unfold Builtin.«sorted»
  refine wpAny_bind (m := checkCount "sorted" 1 1 _) (wpAny_pure (wpAny_bind (collect_set (A := A.in1) hh ⟨ob, q, hx.1, d⟩ hf hb hr hl fun s1 vs k1 hs g1 o1 pm => ?_)))
  have vl : vs.length = z := by rw [pm.length_eq, List.length_map, Array.length_toList]; exact ez
  have vl2 : vs.length ≤ sizeLine := by rw [vl, sizeLine_eq]; omega
  have hI : StrsAre vs (vs.map strV) := strs_ofV vs fun v hv => by
    obtain ⟨e, he, u⟩ := List.mem_map.mp (pm.mem_iff.mp hv)
    obtain ⟨x, t, h1, _⟩ := g e he
    exact ⟨x, t, by rw [← u]; exact h1⟩
  have pk : (vs.map strV).Perm (es.toList.map keyT) := by
    have u := pm.map strV
    rw [List.map_map] at u
    exact u
  refine wpAny_bind (wpAny_newList ?_ vl2)
  have oL : (s1.heap.push (seqObj "list" vs.toArray 0)).get? s1.heap.objs.size = some (seqObj "list" vs.toArray 0) := Heap.get?_push_size _ rfl
  refine wpAny_bind (wpAny_holding (wpAny_call_entry slot_list_sort ⟨_, oL, rfl⟩ entry_list_sort (list_sort_treeKAny strKind_oneLt oL hI.keysOf (fun v₁ v₂ rest e => keyKind_strs (by rw [← e]; exact hI)) vl2 fun st' a1 a2 => ⟨_, rfl, ?_⟩) (args_list_sort _)))
  obtain ⟨ys, b1, b2, b3⟩ := sorted_out_str hI a1 a2
  obtain ⟨e, he⟩ := sortedHeap_at (vs := vs) (out := (arrOf st').map (·.2)) oL
  have pn : ys.Perm (es.toList.map keyT) := b2.trans pk
  refine wpAny_pure ⟨_, rfl, hQ _ s1.heap.objs.size _ e ys (fun b u r => ?_) g1 o1 hs he b1 b3 (pn.nodup_iff.mpr nd) (fun x => by rw [pn.mem_iff, ← hm x]) (by rw [pn.length_eq, List.length_map, Array.length_toList]; exact ez)⟩
  have r1 := k1 b u r
  have r2 := Heap.lt_size r1
  show (sortedHeap (s1.heap.push (seqObj "list" vs.toArray 0)) s1.heap.objs.size vs _).get? b = some u
  rw [sortedHeap_old (Nat.ne_of_lt r2) (by rw [size_push']; exact Nat.lt_succ_of_lt r2)]
  exact Heap.get?_push_of_some _ r1
end
end J

set_option Elab.async false
set_option linter.all false
set_option maxRecDepth 100000
set_option maxHeartbeats 4000000
namespace J
open PySem PySem.Spec PyProof.Rows L2
/-! ### sorted(set(names)) -/
def ddup : List Str → List Str
  | [] => []
  | x :: l => if x ∈ ddup l then ddup l else x :: ddup l
theorem ddup_mem : ∀ {l : List Str} {x : Str}, x ∈ ddup l ↔ x ∈ l
  | [], x => Iff.rfl
  | y :: l, x => by
    have ih := ddup_mem (l := l) (x := x)
    unfold ddup
    split
    · rename_i h
      rw [ih, List.mem_cons]
      exact ⟨.inr, fun z => z.elim (fun e => by subst e; exact ddup_mem.mp h) id⟩
    · rw [List.mem_cons, ih, List.mem_cons]
theorem ddup_nd : ∀ {l : List Str}, (ddup l).Nodup
  | [] => List.Pairwise.nil
  | y :: l => by
    unfold ddup
    split
    · exact ddup_nd
    · rename_i h
      exact List.nodup_cons.mpr ⟨h, ddup_nd⟩
theorem ddup_len : ∀ {l : List Str}, (ddup l).length ≤ l.length
  | [] => Nat.le_refl _
  | y :: l => by
    have := ddup_len (l := l)
    unfold ddup
    split <;> simp <;> omega
def strLe (a b : Str) : Bool := decide (a.cps.toList ≤ b.cps.toList)
def sortU (l : List Str) : List Str := (ddup l).mergeSort strLe
theorem sortU_mem {l : List Str} {x : Str} : x ∈ sortU l ↔ x ∈ l := by
  unfold sortU
  rw [(List.mergeSort_perm _ _).mem_iff, ddup_mem]
theorem sortU_len {l : List Str} : (sortU l).length ≤ l.length := by
  unfold sortU
  rw [(List.mergeSort_perm _ _).length_eq]
  exact ddup_len
theorem sortU_nd {l : List Str} : (sortU l).Nodup := by
  unfold sortU
  rw [(List.mergeSort_perm _ _).nodup_iff]
  exact ddup_nd
theorem str_ext {a b : Str} (h : a.cps.toList = b.cps.toList) : a = b := by
  cases a
  cases b
  congr
  exact Array.toList_inj.mp h
theorem rising_pw : ∀ (l : List Str) (p : Str), risingS p l = true → (p :: l).Pairwise fun a b => a.cps.toList ≤ b.cps.toList
  | [], p, _ => List.pairwise_singleton _ _
  | x :: l, p, h => by
    unfold risingS at h
    rw [Bool.and_eq_true] at h
    obtain ⟨h1, h2⟩ := h
    have ih := rising_pw l x h2
    rw [ltCps_eq, Bool.not_eq_true', decide_eq_false_iff_not] at h1
    have h1 : p.cps.toList ≤ x.cps.toList := h1
    refine List.pairwise_cons.mpr ⟨fun y hy => ?_, ih⟩
    rcases List.mem_cons.mp hy with z | z
    · rw [z]; exact h1
    · exact List.le_trans h1 ((List.pairwise_cons.mp ih).1 y z)
theorem sortedS_pw {l : List Str} (h : sortedS l = true) : l.Pairwise fun a b => a.cps.toList ≤ b.cps.toList := by
  cases l with
  | nil => exact .nil
  | cons x l => exact rising_pw l x h
theorem sortU_uniq {l ys : List Str} (h : sortedS ys = true) (nd : ys.Nodup) (hm : ∀ x, x ∈ ys ↔ x ∈ l) : ys = sortU l := by
  have p : ys.Perm (sortU l) := (List.perm_ext_iff_of_nodup nd sortU_nd).mpr fun x => by rw [hm, sortU_mem]
  have s2 : (sortU l).Pairwise fun a b => a.cps.toList ≤ b.cps.toList := by
    have := List.pairwise_mergeSort (le := strLe) (fun a b c h1 h2 => by
      unfold strLe at *
      exact decide_eq_true (List.le_trans (of_decide_eq_true h1) (of_decide_eq_true h2))) (fun a b => by
      unfold strLe
      rcases List.le_total a.cps.toList b.cps.toList with z | z
      · simp [z]
      · simp [z]) (ddup l)
    exact this.imp fun h => of_decide_eq_true h
  exact p.eq_of_pairwise (fun a b _ _ h1 h2 => str_ext (List.le_antisymm h1 h2)) (sortedS_pw h) s2
def oSortSet : D → Sto → R D
  | .ref n, S => match (lstOf S n).bind (List.mapM asStr) with
    | some xs => if xs.length < 4000 then .ok (.ref S.length) (S ++ [.lst ((sortU xs).map .str)]) else .bad
    | none => .bad
  | _, _ => .bad
def tSs (K : PySem.W.Frag) (ta : TE) : TE := fun σ H Q => ta σ H fun y H1 => ∃ (b : Addr) (xs : List Str), y = V.ref b ∧ SqL K H1 b (xs.map V.str) ∧ xs.length < 4000 ∧ ∀ p, H1 p = none → Q (V.ref p) (upd H1 p (.lst ((sortU xs).map V.str)))
open RZ in
theorem pe_ss {X : Cx} {a : Expr} {ta : TE} {p p2 q pos : Pos} (g1 : Gl X "sorted") (m1 : X.mg "sorted" = none) (g2 : Gl X "set") (m2 : X.mg "set" = none) (pa : PE X a ta) (calm : X.calm = true := by rfl)
    (es : starEach [a] X.env = (false, eval a X.env) :: starEach [] X.env := by rfl) : PE X (.Call (.Name "sorted" p) [.Call (.Name "set" p2) [a] [] q] [] pos) (tSs X.K ta) := ⟨fun pins s σ H Q I w => by
  refine Call_ (ld_blt I g1 m1 bb_sorted (PyProof.Rows.callWith_builtin1 (PyProof.Rows.args_cons (Call_ (ld_blt I g2 m2 boot_set (PyProof.Rows.callWith_type1 (PyProof.Rows.args_cons ?run es) es rfl))) rfl) rfl rfl))
  refine thn (pa.run pins s σ H _ I w) fun v s1 ⟨y, H1, I1, ry, b, ns, ey, hq, hl, k⟩ => PyProof.Rows.args_nil ?_
  subst ey
  cases ry
  obtain ⟨its, rv, pl, _⟩ := I1.list hq
  have lt : ns.length + 1 < scanBound := by unfold scanBound; omega
  refine call_setT ns (I1.ok.hd calm) pl.isList (by simpa using rv.strs) lt fun h' tk z made hz keep => PyProof.Rows.args_nil ?_
  refine sorted_setT (s := { s1 with heap := h', toks := tk }) made (I1.ok.hd calm) (by omega) fun s' p' out e ys k2 g2 o2 hp hg hi hs hnd hm hlen => ?_
  have kk : ∀ b o, s1.heap.get? b = some o → s'.heap.get? b = some o := fun b o h => k2 b o (keep b o h)
  have hp1 : s1.heap.objs.size ≤ p' := by
    obtain ⟨ob, es', ep, tb, hob, _⟩ := made.ex
    exact Nat.le_trans (Nat.le_of_lt (Heap.lt_size hob)) hp
  have e1 : ys = sortU ns := sortU_uniq hs hnd fun x => by rw [hm]; simp
  subst e1
  have hln : ((sortU ns).map V.str).length ≤ sizeLine := by rw [List.length_map, sizeLine_eq]; have := sortU_len (l := ns); omega
  have hn : H1 p' = none := I1.hok.fresh hp1
  have J : Inv X pins σ (upd H1 p' (.lst ((sortU ns).map V.str))) { s1 with heap := s'.heap, gens := s'.gens, drawn := s'.drawn, toks := s'.toks } :=
    I1.call (ch := []) (Un.laid kk hp1 hn) (I1.hok.laid kk hp1 ⟨hln, out.toList, e, vals_of_strs hi, hg⟩) (by rw [g2]; exact I1.bare) (fun _ z => nomatch z)
  have es2 : s' = { s1 with heap := s'.heap, gens := s'.gens, drawn := s'.drawn, toks := s'.toks } := by
    have o3 : s'.os = s1.os := o2
    cases s'
    cases s1
    cases o3
    rfl
  rw [es2]
  exact ⟨V.ref p', _, J, rfl, k p' hn⟩⟩
theorem drs_strs {K : PySem.W.Frag} {φ : List Addr} {H : Hp} : ∀ (ns : List Str), DRs K φ H (ns.map D.str) (ns.map V.str)
  | [] => .nil
  | n :: ns => .cons dr_str (drs_strs ns)
theorem re_sortSet {X : Cx} {g : G} {E : XK} {a : Expr} {fa : IE} {p p2 q pos : Pos} (g1 : Gl X "sorted") (m1 : X.mg "sorted" = none) (g2 : Gl X "set") (m2 : X.mg "set" = none) (ha : RE X g E a fa) (calm : X.calm = true := by rfl)
    (es : starEach [a] X.env = (false, eval a X.env) :: starEach [] X.env := by rfl) : RE X g E (.Call (.Name "sorted" p) [.Call (.Name "set" p2) [a] [] q] [] pos) (iUn oSortSet fa) :=
  PE.imp (pe_ss g1 m1 g2 m2 ha calm es) fun σ H Q ⟨φ, ρ, S, er, rp, k⟩ => ⟨φ, ρ, S, er, rp, k.bind.mono fun d S1 φ1 H1 _ _ ⟨r1, n1, k1⟩ v dv => by
    cases d with
    | ref n =>
      obtain ⟨b, hb, rfl⟩ := ref_inv dv
      simp only [oSortSet] at k1
      split at k1
      · rename_i ns h1
        obtain ⟨xs, h2, h3⟩ := lst_bind h1
        obtain ⟨vs, e1, e2⟩ := r1.lst h2 hb
        have e3 := strs_of h3 e2
        subst e3
        split at k1
        · rename_i hl
          exact ⟨b, ns, rfl, .of e1, hl, fun p hp => k1.newL r1 hp (drs_strs _)⟩
        · exact k1.elim
      · exact k1.elim
    | _ => exact k1.elim⟩
theorem wp_sortSet {n : Nat} {ns : List Str} {S : Sto} {Q : D → Sto → Prop} {X : Str → Sto → Prop} (e : lstOf S n = some (ns.map D.str)) (hl : ns.length < 4000) (h : Q (.ref S.length) (S ++ [.lst ((sortU ns).map .str)])) : wp (oSortSet (.ref n) S) Q X := by
  have e2 : oSortSet (.ref n) S = .ok (.ref S.length) (S ++ [.lst ((sortU ns).map .str)]) := by
    simp only [oSortSet, e, Option.bind_some, mapM_str, hl, if_true]
  exact wp_eq e2 h
end J

set_option Elab.async false
set_option linter.all false
set_option maxRecDepth 100000
set_option maxHeartbeats 4000000
namespace J
open PySem PySem.Spec PyProof.Rows L2
/-! ### methods of texts -/
theorem tyStr {K : PySem.W.Frag} {g : G} {φ : List Addr} {S : Sto} {H : Hp} {d : D} {v : V} (r : Rep K g φ S H) (h : tyName S d = some "str") (q : DR K φ H d v) : tyV K "str" v H := by
  cases d with
  | str x => obtain rfl := str_inv q; rfl
  | ref n =>
    simp only [tyName] at h
    split at h
    · simp at h
    · simp at h
    · cases h
  | _ => simp [tyName] at h
def mSplit : D → List D → Sto → R D
  | .str a, [.str b], S => if b.length ≠ 0 ∧ a.length + 2 ≤ 900000 then .ok (.ref S.length) (S ++ [.lst ((Txt.split a b).map .str)]) else .bad
  | _, _, _ => .bad
def mJoin : D → List D → Sto → R D
  | .str a, [.ref n], S => match (lstOf S n).bind (List.mapM asStr) with
    | some ys => if (ys.map (·.length)).sum + ys.length * a.length ≤ 16777216 then .ok (.str (Txt.join a ys)) S else .bad
    | none => .bad
  | _, _, _ => .bad
def mUpper : D → List D → Sto → R D
  | .str a, [], S => if a.length ≤ 5592405 then .ok (.str (Txt.upper a)) S else .bad
  | _, _, _ => .bad
section
variable {K : PySem.W.Frag} {g : G}
def rSplitJ : V → List V → Hp → VK → Prop := fun x xs H Q => ∃ a b, x = .str a ∧ xs = [.str b] ∧ (b.length == 0) = false ∧ a.length + 2 ≤ sizeLine ∧ rNewStrs (Txt.split a b) H Q
def rJoinJ (K : PySem.W.Frag) : V → List V → Hp → VK → Prop := fun x xs H Q => ∃ a p, ∃ ys : List Str, x = .str a ∧ xs = [.ref p] ∧ (SqL K H p (ys.map V.str) ∨ SqT K H p (ys.map V.str)) ∧ (ys.map (·.length)).sum + ys.length * a.length ≤ 16777216 ∧ Q (.str (Txt.join a ys)) H
def rUpperJ : V → List V → Hp → VK → Prop := fun x xs H Q => ∃ a, x = .str a ∧ xs = [] ∧ a.length ≤ 5592405 ∧ Q (.str (Txt.upper a)) H
theorem mi_split : MI K g rSplitJ mSplit := fun E φ S H d ds x vs Q r hd hv k => by
  by_cases h : ∃ a b, d = .str a ∧ ds = [.str b]
  · obtain ⟨a, b, rfl, rfl⟩ := h
    obtain rfl := str_inv hd
    obtain ⟨v, rfl, dv⟩ := hv.one
    obtain rfl := str_inv dv
    simp only [mSplit] at k
    split at k
    · rename_i hc
      exact ⟨a, b, rfl, rfl, beq_eq_false_iff_ne.mpr hc.1, by rw [sizeLine_eq]; omega, fun p hp => k.newL r hp (drs_strs _)⟩
    · exact k.elim
  · have e : mSplit d ds S = .bad := by
      unfold mSplit
      split
      · exact absurd ⟨_, _, rfl, rfl⟩ h
      · rfl
    rw [e] at k
    exact k.elim
theorem mi_join : MI K g (rJoinJ K) mJoin := fun E φ S H d ds x vs Q r hd hv k => by
  by_cases h : ∃ a n, d = .str a ∧ ds = [.ref n]
  · obtain ⟨a, n, rfl, rfl⟩ := h
    obtain rfl := str_inv hd
    obtain ⟨v, rfl, dv⟩ := hv.one
    obtain ⟨b, hb, rfl⟩ := ref_inv dv
    simp only [mJoin] at k
    split at k
    · rename_i ys h1
      obtain ⟨xs, h2, h3⟩ := lst_bind h1
      obtain ⟨us, e1, e2⟩ := r.lst h2 hb
      have e3 := strs_of h3 e2
      subst e3
      split at k
      · rename_i hl
        exact ⟨a, b, ys, rfl, rfl, .inl (.of e1), hl, k.here r _ dr_str⟩
      · exact k.elim
    · exact k.elim
  · have e : mJoin d ds S = .bad := by
      unfold mJoin
      split
      · exact absurd ⟨_, _, rfl, rfl⟩ h
      · rfl
    rw [e] at k
    exact k.elim
theorem mi_upper : MI K g rUpperJ mUpper := fun E φ S H d ds x vs Q r hd hv k => by
  by_cases h : ∃ a, d = .str a ∧ ds = []
  · obtain ⟨a, rfl, rfl⟩ := h
    obtain rfl := str_inv hd
    have hvs := hv.nil_inv
    subst hvs
    simp only [mUpper] at k
    split at k
    · rename_i hc
      exact ⟨a, rfl, rfl, hc, k.here r _ dr_str⟩
    · exact k.elim
  · have e : mUpper d ds S = .bad := by
      unfold mUpper
      split
      · exact absurd ⟨_, rfl, rfl⟩ h
      · rfl
    rw [e] at k
    exact k.elim
end
section
variable {Q : D → Sto → Prop} {X : Str → Sto → Prop} {S : Sto} {a b : Str} {n : Nat}
theorem wp_split (hb : b.length ≠ 0) (hl : a.length + 2 ≤ 900000) (q : Q (.ref S.length) (S ++ [.lst ((Txt.split a b).map .str)])) : wp (mSplit (.str a) [.str b] S) Q X := by
  have e : mSplit (.str a) [.str b] S = .ok (.ref S.length) (S ++ [.lst ((Txt.split a b).map .str)]) := by
    simp only [mSplit, ne_eq, hb, not_false_eq_true, hl, and_self, if_true]
  exact wp_eq e q
theorem wp_join {ys : List Str} (e : lstOf S n = some (ys.map D.str)) (hl : (ys.map (·.length)).sum + ys.length * a.length ≤ 16777216) (q : Q (.str (Txt.join a ys)) S) : wp (mJoin (.str a) [.ref n] S) Q X := by
  have e2 : mJoin (.str a) [.ref n] S = .ok (.str (Txt.join a ys)) S := by
    simp only [mJoin, e, Option.bind_some, mapM_str, hl, if_true]
  exact wp_eq e2 q
theorem wp_upper (hl : a.length ≤ 5592405) (q : Q (.str (Txt.upper a)) S) : wp (mUpper (.str a) [] S) Q X := by
  have e : mUpper (.str a) [] S = .ok (.str (Txt.upper a)) S := by
    simp only [mUpper, hl, if_true]
  exact wp_eq e q
theorem tyN_str {S : Sto} {x : Str} : tyName S (.str x) = some "str" := rfl
end
end J

set_option Elab.async false
set_option linter.all false
set_option maxRecDepth 100000
set_option maxHeartbeats 4000000
namespace J
open PySem PySem.Spec PyProof.Rows L2
/-! ### a list compared with one that is empty -/
def oEqE : D → D → Sto → R D
  | .ref n, .ref m, S => match lstOf S n, lstOf S m with
    | some xs, some [] => .ok (.bl xs.isEmpty) S
    | _, _ => .bad
  | _, _, _ => .bad
def rEqE (K : PySem.W.Frag) : R2 := fun x y H Q => ∃ a b xs, x = .ref a ∧ y = .ref b ∧ H a = some (.lst xs) ∧ H b = some (.lst []) ∧ Q (.bl xs.isEmpty) H
theorem op_eqE {X : Cx} (hu : X.A.units + 64 < cLine) : OpR X (compareOp .Eq) (rEqE X.K) := by
  intro pins s σ H x y v u Q I rx ry h
  obtain ⟨a, b, xs, rfl, rfl, ha, hb, q⟩ := h
  cases rx
  cases ry
  obtain ⟨its, rv, p1, _⟩ := I.list (.of ha)
  obtain ⟨its2, rv2, p2, _⟩ := I.list (.of hb)
  obtain ⟨⟨cls, dd, data, sl⟩, ho, hc, n, hd⟩ := id p1.isList
  obtain ⟨⟨cls2, dd2, data2, sl2⟩, ho2, hc2, n2, hd2⟩ := id p2.isList
  simp only at hc hd hc2 hd2
  subst hc hd hc2 hd2
  have ta : s.TypeIs (.ref a) "list" := ⟨_, ho, rfl⟩
  have tb : s.TypeIs (.ref b) "list" := ⟨_, ho2, rfl⟩
  have l1 := rv.length
  have l2 := rv2.length
  show wpAny (model X.prog X.w) X.A (richCompare .Eq (.ref a) (.ref b)) _ _ s
  cases xs with
  | nil =>
    have e1 : its = [] := List.length_eq_zero_iff.mp (by rw [← l1]; rfl)
    have e2 : its2 = [] := List.length_eq_zero_iff.mp (by rw [← l2]; rfl)
    subst e1 e2
    exact wpAny_richCompare_same_room (op := .Eq) ta tb F.slot_list_eq (call_meetsIn F.slot_list_eq ta F.entry_list_eq (F.args_list_eq_2 _ _) (SeqAt.handS_list_eqIn a b [].toArray [].toArray n n2 dd dd2 sl sl2 rfl fun _ => true)
      ⟨ho, ho2, (fun j h1 => by simp at h1), show Value.bool true ≠ Value.notImplemented ∧ _ from ⟨(fun x => nomatch x), .bl _, H, I, rfl, q⟩⟩) (by omega)
  | cons z zs =>
    have hsz : (its.toArray.size != its2.toArray.size) = true := by simp at l1 l2 ⊢; omega
    exact wpAny_richCompare_same_room (op := .Eq) ta tb F.slot_list_eq (call_meetsIn F.slot_list_eq ta F.entry_list_eq (F.args_list_eq_2 _ _) ((SeqAt.list_eq_lengthsAt a b its.toArray its2.toArray n n2 dd dd2 sl sl2 hsz) X.prog X.w)
      ⟨ho, ho2, show Value.bool false ≠ Value.notImplemented ∧ _ from ⟨(fun x => nomatch x), .bl _, H, I, rfl, q⟩⟩) (by omega)
theorem oi_eqE {K : PySem.W.Frag} {g : G} : OpI K g (rEqE K) oEqE := fun E φ S H d e x y Q r hx hy k => by
  cases d with
  | ref n =>
    cases e with
    | ref m =>
      obtain ⟨a, ha, rfl⟩ := ref_inv hx
      obtain ⟨b, hb, rfl⟩ := ref_inv hy
      simp only [oEqE] at k
      split at k
      · rename_i xs h1 h2
        obtain ⟨vs, e1, e2⟩ := r.lst h1 ha
        obtain ⟨ws, e3, e4⟩ := r.lst h2 hb
        have : ws = [] := e4.nil_inv
        subst this
        refine ⟨a, b, vs, rfl, rfl, e1, e3, ?_⟩
        have hl := e2.length
        rw [show vs.isEmpty = xs.isEmpty by cases vs <;> cases xs <;> simp_all]
        exact k.here r _ dr_bl
      · exact k.elim
    | _ => exact k.elim
  | _ => exact k.elim
theorem wp_eqE {n m : Nat} {xs : List D} {S : Sto} {Q : D → Sto → Prop} {X : Str → Sto → Prop} (e : lstOf S n = some xs) (e2 : lstOf S m = some []) (h : Q (.bl (decide (xs = []))) S) : wp (oEqE (.ref n) (.ref m) S) Q X := by
  have e3 : oEqE (.ref n) (.ref m) S = .ok (.bl (decide (xs = []))) S := by
    simp only [oEqE, e, e2]
    congr 2
    cases xs <;> simp
  exact wp_eq e3 h
end J

set_option Elab.async false
set_option linter.all false
set_option maxRecDepth 100000
set_option maxHeartbeats 4000000
namespace J
open PySem PySem.Spec PyProof.Rows L2
/-! ### a tuple some times -/
def oMulT : D → D → Sto → R D
  | .tup xs, .int k, S => if xs ≠ [] ∧ 2 ≤ k ∧ k ≤ 1000 ∧ xs.length ≤ 1000 then .ok (.tup (List.replicate k.toNat xs).flatten) S else .bad
  | _, _, _ => .bad
theorem oi_mulT {K : PySem.W.Frag} {g : G} : OpI K g (rRepT K) oMulT := fun E φ S H d e x y Q r hx hy k => by
  cases d with
  | tup xs =>
    cases e with
    | int j =>
      obtain ⟨a, vs, rfl, h1, h2⟩ := tup_inv hx
      obtain rfl := int_inv hy
      simp only [oMulT] at k
      split at k
      · rename_i h
        exact ⟨a, j, vs, rfl, rfl, h1, fun z => h.1 (by rw [z] at h2; exact List.length_eq_zero_iff.mp h2.length.symm), h.2.1, h.2.2.1, by rw [h2.length]; exact h.2.2.2, fun p hp => k.newT r hp (h2.flat _)⟩
      · exact k.elim
    | _ => exact k.elim
  | _ => exact k.elim
theorem wp_mulT {xs : List D} {k : Int} {S : Sto} {Q : D → Sto → Prop} {X : Str → Sto → Prop} (h1 : xs ≠ []) (h2 : 2 ≤ k ∧ k ≤ 1000) (h3 : xs.length ≤ 1000) (q : Q (.tup (List.replicate k.toNat xs).flatten) S) : wp (oMulT (.tup xs) (.int k) S) Q X := by
  have e : oMulT (.tup xs) (.int k) S = .ok (.tup (List.replicate k.toNat xs).flatten) S := by
    simp only [oMulT]
    rw [if_pos ⟨h1, h2.1, h2.2, h3⟩]
  exact wp_eq e q
end J

set_option Elab.async false
set_option linter.all false
set_option maxRecDepth 100000
set_option maxHeartbeats 4000000
namespace J
open PySem PySem.Spec PyProof.Rows L2
/-! ### zip of a list and a tuple -/
def ItzLT (K : PySem.W.Frag) (a b : Addr) : It :=
  ⟨fun i H => ∃ (xs ys : List V) (x y : V), SqL K H a xs ∧ SqT K H b ys ∧ xs[i]? = some x ∧ ys[i]? = some y,
    fun i H v H' => ∃ T x y, v = .ref T ∧ H T = none ∧ H' = upd H T (.tup [x, y]) ∧ (∀ xs, SqL K H a xs → xs[i]? = some x) ∧ ∀ ys, SqT K H b ys → ys[i]? = some y,
    fun i H => ∃ xs ys : List V, SqL K H a xs ∧ SqT K H b ys ∧ i ≤ xs.length ∧ i ≤ ys.length ∧ (xs.length = i ∨ ys.length = i)⟩
theorem turn_zipLT {P : Program} {w : World} {K : PySem.W.Frag} {elts : List Expr} {kk : Nat} {tpos : Pos} {a b z TI TO i1 i2 : Addr} (D : ZipSep2 z TI TO i1 i2 [i1, a] [i2, b]) :
    Turn P w K (.Tuple elts kk tpos) (ItzLT K a b) [z, TI, TO, i1, i2] z (fun i h => IsZip h z TI TO .none ∧ IsTupOf2 h TI (.ref i1) (.ref i2) ∧ (∃ x y, IsTupOf2 h TO x y) ∧ h.IsListIter i1 a i ∧ h.IsTupleIter i2 b i) where
  mem := by simp
  obj := fun i h st c hc => by
    obtain ⟨hz, hTI, ⟨x, y, hTO⟩, ⟨o1, e1, _, d1⟩, ⟨o2, e2, _, d2⟩⟩ := st
    have e' : c = z ∨ c = TI ∨ c = TO ∨ c = i1 ∨ c = i2 := by simpa using hc
    rcases e' with q | q | q | q | q
    · rw [q]; exact ⟨_, hz, fun v q => nomatch q⟩
    · rw [q]; exact ⟨_, hTI, fun v q => nomatch q⟩
    · rw [q]; exact ⟨_, hTO, fun v q => nomatch q⟩
    · rw [q]; exact ⟨o1, e1, fun v q => by rw [d1] at q; cases q⟩
    · rw [q]; exact ⟨o2, e2, fun v q => by rw [d2] at q; cases q⟩
  keep := fun i h h' st k => by
    obtain ⟨hz, hTI, ⟨x, y, hTO⟩, h1, h2⟩ := st
    exact ⟨k z (by simp) _ hz, k TI (by simp) _ hTI, ⟨x, y, k TO (by simp) _ hTO⟩, h1.at fun o q => k i1 (by simp) o q, h2.at fun o q => k i2 (by simp) o q⟩
  item := by
    intro X hP hw hK hc i pins s σ H E I hf st hg
    subst hP hw hK
    obtain ⟨hz, hTI, ⟨x0, y0, hTO⟩, h1, h2⟩ := st
    obtain ⟨xs, ys, x, y, hqx, hqy, hx, hy⟩ := hg
    obtain ⟨its, rv, p, _⟩ := I.list hqx
    obtain ⟨its2, rv2, p2, _⟩ := I.tuple hqy
    obtain ⟨u, hu, ru⟩ := rv.get hx
    obtain ⟨u2, hu2, ru2⟩ := rv2.get hy
    have hzl : z < s.heap.objs.size := Heap.lt_size hz
    have hd : X.A.in1.handled = none := I.ok.hd hc
    have ha : a ≠ i1 := fun e => by
      obtain ⟨o, ho, hcl, _⟩ := p.isList
      obtain ⟨o1, e1, c1, _⟩ := h1
      rw [e, e1] at ho
      cases ho
      rw [c1] at hcl
      exact absurd hcl (by decide)
    have hb : b ≠ i2 := fun e => by
      obtain ⟨o, ho, hcl, _⟩ := p2
      obtain ⟨o2, e2, c2, _⟩ := h2
      rw [e, e2] at ho
      cases ho
      rw [c2] at hcl
      exact absurd hcl (by decide)
    refine wpAny_pyNext_zipD2_item D (Draws.list hd i1 a ha its.toArray) (Draws.tuple hd i2 b hb its2.toArray) hz hTI hTO ⟨h1, p.isList⟩ ⟨h2, p2⟩ (by
      have := (List.getElem?_eq_some_iff.mp hu).1
      simpa using this) (by
      have := (List.getElem?_eq_some_iff.mp hu2).1
      simpa using this) fun x1 x2 h' tk e1 e2 z' TO' h1' h2' hT hsz hk => ?_
    have e1 : u = x1 := by
      have e1 : its[i]? = some x1 := by simpa using e1
      rw [hu] at e1
      exact Option.some.inj e1
    have e2 : u2 = x2 := by
      have e2 : its2[i]? = some x2 := by simpa using e2
      rw [hu2] at e2
      exact Option.some.inj e2
    subst e1 e2
    refine ⟨_, rfl, wpAny_letOwnedTupleGo_zip (s := { s with heap := h', toks := tk }) z' fun h'' z'' sb => ?_⟩
    have hT2 : h''.get? s.heap.objs.size = some { cls := .type "tuple", data := .seq #[u, u2] } := (sb.2 _ (Nat.ne_of_gt hzl)).trans hT
    have new : ObjOk X.prog X.w (upd H s.heap.objs.size (.tup [x, y])) h'' s.heap.objs.size (.tup [x, y]) :=
      ⟨by show 2 ≤ sizeLine; decide, [u, u2], .cons ru (.cons ru2 .nil), ⟨_, hT2, rfl, _, rfl⟩⟩
    have I1 : Inv X pins σ (upd H s.heap.objs.size (.tup [x, y])) { s with heap := h'', toks := tk } :=
      I.turnedNew (t' := tk) (ch := [z, TI, TO, i1, i2]) (fun c o hb q => (sb.2 c (fun q' => hb (by simp [q']))).trans (hk c o (fun q' => hb (by simp [q'])) (fun q' => hb (by simp [q'])) (fun q' => hb (by simp [q'])) (fun q' => hb (by simp [q'])) q)) hf (Nat.le_refl _) new
    refine ⟨.ref s.heap.objs.size, _, I1, rfl, ⟨_, x, y, rfl, I.hok.fresh (Nat.le_refl _), rfl, fun l hl => by rw [I.list_inj hl hqx]; exact hx, fun l hl => by rw [I.tuple_inj hl hqy]; exact hy⟩, ⟨z'', ?_, ⟨u, u2, ?_⟩, ?_, ?_⟩, fun c hcm => ?_⟩
    · exact (sb.2 _ D.TIz).trans (hk _ _ D.TIz D.TITO D.TIi1 D.TIi2 hTI)
    · exact (sb.2 _ D.TOz).trans TO'
    · exact h1'.1.at fun o q => (sb.2 _ D.zi1.symm).trans q
    · exact h2'.1.at fun o q => (sb.2 _ D.zi2.symm).trans q
    · have hlt : c < s.heap.objs.size := by
        have e' : c = z ∨ c = TI ∨ c = TO ∨ c = i1 ∨ c = i2 := by simpa using hcm
        rcases e' with q | q | q | q | q
        · rw [q]; exact hzl
        · rw [q]; exact Heap.lt_size hTI
        · rw [q]; exact Heap.lt_size hTO
        · rw [q]; obtain ⟨_, e1, _⟩ := h1; exact Heap.lt_size e1
        · rw [q]; obtain ⟨_, e2, _⟩ := h2; exact Heap.lt_size e2
      rw [upd_ne (Nat.ne_of_lt hlt)]
      exact (hf c hcm).1
  done := by
    intro X hP hw hK hc i pins s σ H E I hf st hg
    subst hP hw hK
    obtain ⟨hz, hTI, ⟨x0, y0, hTO⟩, h1, h2⟩ := st
    obtain ⟨xs, ys, hqx, hqy, hix, hiy, hend⟩ := hg
    obtain ⟨its, rv, p, _⟩ := I.list hqx
    obtain ⟨its2, rv2, p2, _⟩ := I.tuple hqy
    have l1 := rv.length
    have l2 := rv2.length
    have hd : X.A.in1.handled = none := I.ok.hd hc
    have ha : a ≠ i1 := fun e => by
      obtain ⟨o, ho, hcl, _⟩ := p.isList
      obtain ⟨o1, e1, c1, _⟩ := h1
      rw [e, e1] at ho
      cases ho
      rw [c1] at hcl
      exact absurd hcl (by decide)
    have hb : b ≠ i2 := fun e => by
      obtain ⟨o, ho, hcl, _⟩ := p2
      obtain ⟨o2, e2, c2, _⟩ := h2
      rw [e, e2] at ho
      cases ho
      rw [c2] at hcl
      exact absurd hcl (by decide)
    exact wpAny_pyNext_zipD2_end D (Draws.list hd i1 a ha its.toArray) (Draws.tuple hd i2 b hb its2.toArray) hz hTI hTO ⟨h1, p.isList⟩ ⟨h2, p2⟩ (by simp; omega) (by simp; omega) (by simp; omega) fun h' tk hk => ⟨rfl, I.turnedL (t' := tk) (ch := [z, TI, TO, i1, i2]) (fun c o hb q =>
      hk c o (fun q' => hb (by simp [q'])) (fun q' => hb (by simp [q'])) (fun q' => hb (by simp [q'])) (fun q' => hb (by simp [q'])) q) hf⟩
  self := fun A i s Q E st h => wpAny_pyIter_zip st.1 h
theorem sepLT (I a b : Nat) (h1 : a < I) (h2 : b < I) : ZipSep2 (I + 4) (I + 2) (I + 3) I (I + 1) [I, a] [I + 1, b] := by
  have ne : ∀ x y : Nat, x < y ∨ y < x → ¬ ((x : Nat) = y) := fun x y h e => by omega
  have no : ∀ x y z : Nat, (x < y ∨ y < x) → (x < z ∨ z < x) → x ∉ [y, z] := fun x y z h h' hm => by
    rcases List.mem_cons.mp hm with e | e
    · omega
    · rw [List.mem_singleton] at e
      omega
  exact ⟨ne _ _ (by omega), ne _ _ (by omega), ne _ _ (by omega), ne _ _ (by omega), List.mem_cons_self, no _ _ _ (by omega) (by omega), no _ _ _ (by omega) (by omega), ne _ _ (by omega), List.mem_cons_self, no _ _ _ (by omega) (by omega), no _ _ _ (by omega) (by omega), no _ _ _ (by omega) (by omega), no _ _ _ (by omega) (by omega)⟩
def iZipLT (K : PySem.W.Frag) (ta : TA) : TI := fun σ H R => ta σ H fun vs H1 => ∃ a b xs ys, vs = [.ref a, .ref b] ∧ SqL K H1 a xs ∧ SqT K H1 b ys ∧ R (ItzLT K a b) H1
theorem pi_zipLT {X : Cx} {e e2 : Expr} {ta : TA} {p pos tpos : Pos} {elts : List Expr} {kk : Nat} (hg : Gl X "zip") (hm : X.mg "zip" = none) (ha : PA X [e, e2] ta)
    (hs : starEach [e, e2] X.env = (false, eval e X.env) :: starEach [e2] X.env := by rfl) (hpl : (backTo pos (starEach [e2] X.env)).any (·.1) = false := by rfl) :
    PI X (.Tuple elts kk tpos) (.Call (.Name "zip" p) [e, e2] [] pos) (iZipLT X.K ta) := by
  refine ⟨fun pins s σ H R I h => ?_⟩
  refine Call_ (ld_blt I hg hm PyProof.Rows.boot_zip (PyProof.Rows.callWith_type1 (thn (ha.run pos pins s σ H _ I h) fun us s1 ⟨vs, H1, I1, r1, q1⟩ => ?_) hs hpl))
  obtain ⟨a, b, xs, ys, ex, hqx, hqy, q⟩ := q1
  subst ex
  cases r1 with
  | cons r rr =>
    cases rr with
    | cons r' rr =>
      cases rr
      cases r
      cases r'
      obtain ⟨its, rv, p1, _⟩ := I1.list hqx
      obtain ⟨its2, rv2, p2, _⟩ := I1.tuple hqy
      have la : a < s1.heap.objs.size := p1.lt
      have lb : b < s1.heap.objs.size := by
        obtain ⟨o, ho, _⟩ := id p2
        exact Heap.lt_size ho
      refine zip_begins2 (begins_list a its.toArray) (begins_tuple b its2.toArray) p1.isList p2 fun h' hz hTI hTO g1 g2 hsz hk => wpAny_pyIter_zip hz ?_
      have I2 : Inv X pins σ H1 { s1 with heap := h' } := I1.kept (t' := s1.toks) hk
      have D := sepLT s1.heap.objs.size a b la lb
      refine ⟨s1.heap.objs.size + 4, [s1.heap.objs.size + 4, s1.heap.objs.size + 2, s1.heap.objs.size + 3, s1.heap.objs.size, s1.heap.objs.size + 1], _, _, H1, rfl, I2, turn_zipLT D, ⟨hz, hTI, ⟨_, _, hTO⟩, ⟨_, g1, rfl, rfl⟩, ⟨_, g2, rfl, rfl⟩⟩, fun c hcm => ?_, q⟩
      have e' : c = s1.heap.objs.size + 4 ∨ c = s1.heap.objs.size + 2 ∨ c = s1.heap.objs.size + 3 ∨ c = s1.heap.objs.size ∨ c = s1.heap.objs.size + 1 := by simpa using hcm
      have hle : s1.heap.objs.size ≤ c := by
        rcases e' with z | z | z | z | z <;> rw [z] <;> omega
      exact I1.fpOk hle (I1.hok.fresh hle)
def sqZlt (fa fb : IE) : IW := fun ρ S => (fa ρ S).bind fun d S1 => (fb ρ S1).bind fun e S2 => match d, e with
  | .ref n, .tup ys => match lstOf S2 n with
    | some xs => .ok ⟨zipD xs ys, fun S => lstOf S n = some xs⟩ S2
    | none => .bad
  | _, _ => .bad
section
variable {X : Cx} {g : G} {E : XK} {pos : Pos}
theorem ri_zlt {a b : Expr} {fa fb : IE} {p tpos : Pos} {elts : List Expr} {kk : Nat} (hg : Gl X "zip") (hm : X.mg "zip" = none) (ha : RE X g E a fa) (hb : RE X g E b fb)
    (hs : starEach [a, b] X.env = (false, eval a X.env) :: starEach [b] X.env := by rfl) (hpl : (backTo pos (starEach [b] X.env)).any (·.1) = false := by rfl) (q2 : starEach (b :: []) X.env = (false, eval b X.env) :: starEach [] X.env := by rfl) :
    RI X g E (.Tuple elts kk tpos) (.Call (.Name "zip" p) [a, b] [] pos) (sqZlt fa fb) :=
  PI.imp (pi_zipLT hg hm (pa_cons ha (pa_cons hb pa_nil q2) hs) hs hpl) fun σ H Rr ⟨φ, ρ, S, er, rp, k⟩ => ⟨φ, ρ, S, er, rp, k.bind.mono fun d S1 φ1 H1 _ _ ⟨r1, n1, k1⟩ v dv => ⟨φ1, ρ, S1, n1.er er, r1, k1.bind.mono fun e S2 φ2 H2 _ _ ⟨r2, n2, k2⟩ w dw => by
    cases d with
    | ref n =>
      cases e with
      | tup ys =>
        obtain ⟨a, ha, rfl⟩ := ref_inv (n2.dr dv)
        obtain ⟨b, ws, rfl, hb, q4⟩ := tup_inv dw
        dsimp only at k2
        split at k2
        · rename_i xs h1
          obtain ⟨vs, q1, q2⟩ := r2.lst h1 ha
          obtain ⟨a', ha', ea⟩ := ref_inv dv
          have e : a' = a := by injection ea with ea; exact ea.symm
          refine ⟨_, b, vs, ws, rfl, .of q1, hb, k2 φ2 H2 (.refl r2) _ ?_⟩
          have l4 := q4.length
          rw [zipD_len]
          refine ⟨fun i H hi ⟨φ', S', p, t, r', gd⟩ => ?_, fun H ⟨φ', S', p, t, r', gd⟩ => ?_, fun i H x H' hi ⟨φ', S', p, t, r', gd⟩ y => ?_⟩
          · obtain ⟨us, e3, e4⟩ := wl ha p r' gd
            obtain ⟨u, hu⟩ := vget (vs := us) (i := i) (by rw [e4.length]; omega)
            obtain ⟨u', hu'⟩ := vget (vs := ws) (i := i) (by rw [l4]; omega)
            exact ⟨us, ws, u, u', .of e3, t.t _ _ hb, hu, hu'⟩
          · obtain ⟨us, e3, e4⟩ := wl ha p r' gd
            have := e4.length
            exact ⟨us, ws, .of e3, t.t _ _ hb, by omega, by omega, by omega⟩
          · obtain ⟨T, x', y', rfl, hT, rfl, hx, hy⟩ := y
            refine ⟨.inr ⟨T, _, hT, rfl⟩, fun φ2 S2 p2 t2 r2 gd2 => ?_⟩
            obtain ⟨us, e3, e4⟩ := wl ha p2 r2 gd2
            obtain ⟨d, h5, h6⟩ := e4.getV (hx us (.of e3))
            obtain ⟨d', h7, h8⟩ := (DRs.mono p2 t2 q4).getV (hy ws (t2.t _ _ hb))
            refine ⟨.tup [d, d'], zipD_get _ _ _ _ _ h5 h7, ?_⟩
            have n3 := r2.side (o := .tup [x', y']) hT
            exact dr_tup (.of upd_same) (.cons (n3.dr h6) (.cons (n3.dr h8) .nil))
        · exact k2.elim
      | _ => exact k2.elim
    | _ => exact k2.elim⟩⟩
end
/-! ### zip of three lists -/
def Itz3 (K : PySem.W.Frag) (a b c : Addr) : It :=
  ⟨fun i H => ∃ (xs ys zs : List V) (x y z : V), SqL K H a xs ∧ SqL K H b ys ∧ SqL K H c zs ∧ xs[i]? = some x ∧ ys[i]? = some y ∧ zs[i]? = some z,
    fun i H v H' => ∃ T x y z, v = .ref T ∧ H T = none ∧ H' = upd H T (.tup [x, y, z]) ∧ (∀ xs, SqL K H a xs → xs[i]? = some x) ∧ (∀ ys, SqL K H b ys → ys[i]? = some y) ∧ ∀ zs, SqL K H c zs → zs[i]? = some z,
    fun i H => ∃ xs ys zs : List V, SqL K H a xs ∧ SqL K H b ys ∧ SqL K H c zs ∧ i ≤ xs.length ∧ i ≤ ys.length ∧ i ≤ zs.length ∧ (xs.length = i ∨ ys.length = i ∨ zs.length = i)⟩
theorem lst_ne_it {h : Heap} {a i1 l : Addr} {k : Nat} {items : Array Value} (p : h.IsList a items) (q : h.IsListIter i1 l k) : a ≠ i1 := fun e => by
  obtain ⟨o, ho, hcl, _⟩ := p
  obtain ⟨o1, e1, c1, _⟩ := q
  rw [e, e1] at ho
  cases ho
  rw [c1] at hcl
  exact absurd hcl (by decide)
theorem turn_zip3 {P : Program} {w : World} {K : PySem.W.Frag} {elts : List Expr} {kk : Nat} {tpos : Pos} {a b c z TI TO i1 i2 i3 : Addr} (D : ZipSep3 z TI TO i1 i2 i3 [i1, a] [i2, b] [i3, c]) :
    Turn P w K (.Tuple elts kk tpos) (Itz3 K a b c) [z, TI, TO, i1, i2, i3] z (fun i h => IsZip h z TI TO .none ∧ IsTupOf3 h TI (.ref i1) (.ref i2) (.ref i3) ∧ (∃ x y u, IsTupOf3 h TO x y u) ∧ h.IsListIter i1 a i ∧ h.IsListIter i2 b i ∧ h.IsListIter i3 c i) where
  mem := by simp
  obj := fun i h st q hq => by
    obtain ⟨hz, hTI, ⟨x, y, u, hTO⟩, ⟨o1, e1, _, d1⟩, ⟨o2, e2, _, d2⟩, ⟨o3, e3, _, d3⟩⟩ := st
    have e' : q = z ∨ q = TI ∨ q = TO ∨ q = i1 ∨ q = i2 ∨ q = i3 := by simpa using hq
    rcases e' with e | e | e | e | e | e
    · rw [e]; exact ⟨_, hz, fun v q => nomatch q⟩
    · rw [e]; exact ⟨_, hTI, fun v q => nomatch q⟩
    · rw [e]; exact ⟨_, hTO, fun v q => nomatch q⟩
    · rw [e]; exact ⟨o1, e1, fun v q => by rw [d1] at q; cases q⟩
    · rw [e]; exact ⟨o2, e2, fun v q => by rw [d2] at q; cases q⟩
    · rw [e]; exact ⟨o3, e3, fun v q => by rw [d3] at q; cases q⟩
  keep := fun i h h' st k => by
    obtain ⟨hz, hTI, ⟨x, y, u, hTO⟩, h1, h2, h3⟩ := st
    exact ⟨k z (by simp) _ hz, k TI (by simp) _ hTI, ⟨x, y, u, k TO (by simp) _ hTO⟩, h1.at fun o q => k i1 (by simp) o q, h2.at fun o q => k i2 (by simp) o q, h3.at fun o q => k i3 (by simp) o q⟩
  item := by
    intro X hP hw hK hc i pins s σ H E I hf st hg
    subst hP hw hK
    obtain ⟨hz, hTI, ⟨x0, y0, u0, hTO⟩, h1, h2, h3⟩ := st
    obtain ⟨xs, ys, zs, x, y, zz, hqx, hqy, hqz, hx, hy, hzz⟩ := hg
    obtain ⟨its, rv, p, _⟩ := I.list hqx
    obtain ⟨its2, rv2, p2, _⟩ := I.list hqy
    obtain ⟨its3, rv3, p3, _⟩ := I.list hqz
    obtain ⟨u, hu, ru⟩ := rv.get hx
    obtain ⟨u2, hu2, ru2⟩ := rv2.get hy
    obtain ⟨u3, hu3, ru3⟩ := rv3.get hzz
    have hzl : z < s.heap.objs.size := Heap.lt_size hz
    have hd : X.A.in1.handled = none := I.ok.hd hc
    have lt_of : ∀ {l : List Value} {v : Value}, l[i]? = some v → i < l.toArray.size := fun h => by
      have := (List.getElem?_eq_some_iff.mp h).1
      simpa using this
    refine wpAny_pyNext_zipD3_item D (Draws.list hd i1 a (lst_ne_it p.isList h1) its.toArray) (Draws.list hd i2 b (lst_ne_it p2.isList h2) its2.toArray) (Draws.list hd i3 c (lst_ne_it p3.isList h3) its3.toArray) hz hTI hTO ⟨h1, p.isList⟩ ⟨h2, p2.isList⟩ ⟨h3, p3.isList⟩ (lt_of hu) (lt_of hu2) (lt_of hu3) fun x1 x2 x3 h' tk e1 e2 e3 z' TO' h1' h2' h3' hT hsz hk => ?_
    have e1 : u = x1 := by
      have e1 : its[i]? = some x1 := by simpa using e1
      rw [hu] at e1
      exact Option.some.inj e1
    have e2 : u2 = x2 := by
      have e2 : its2[i]? = some x2 := by simpa using e2
      rw [hu2] at e2
      exact Option.some.inj e2
    have e3 : u3 = x3 := by
      have e3 : its3[i]? = some x3 := by simpa using e3
      rw [hu3] at e3
      exact Option.some.inj e3
    subst e1 e2 e3
    refine ⟨_, rfl, wpAny_letOwnedTupleGo_zip (s := { s with heap := h', toks := tk }) z' fun h'' z'' sb => ?_⟩
    have hT2 : h''.get? s.heap.objs.size = some { cls := .type "tuple", data := .seq #[u, u2, u3] } := (sb.2 _ (Nat.ne_of_gt hzl)).trans hT
    have new : ObjOk X.prog X.w (upd H s.heap.objs.size (.tup [x, y, zz])) h'' s.heap.objs.size (.tup [x, y, zz]) :=
      ⟨by show 3 ≤ sizeLine; decide, [u, u2, u3], .cons ru (.cons ru2 (.cons ru3 .nil)), ⟨_, hT2, rfl, _, rfl⟩⟩
    have I1 : Inv X pins σ (upd H s.heap.objs.size (.tup [x, y, zz])) { s with heap := h'', toks := tk } :=
      I.turnedNew (t' := tk) (ch := [z, TI, TO, i1, i2, i3]) (fun q o hb e => (sb.2 q (fun q' => hb (by simp [q']))).trans (hk q o (fun q' => hb (by simp [q'])) (fun q' => hb (by simp [q'])) (fun q' => hb (by simp [q'])) (fun q' => hb (by simp [q'])) (fun q' => hb (by simp [q'])) e)) hf (Nat.le_refl _) new
    refine ⟨.ref s.heap.objs.size, _, I1, rfl, ⟨_, x, y, zz, rfl, I.hok.fresh (Nat.le_refl _), rfl, fun l hl => by rw [I.list_inj hl hqx]; exact hx, fun l hl => by rw [I.list_inj hl hqy]; exact hy, fun l hl => by rw [I.list_inj hl hqz]; exact hzz⟩, ⟨z'', ?_, ⟨u, u2, u3, ?_⟩, ?_, ?_, ?_⟩, fun q hcm => ?_⟩
    · exact (sb.2 _ D.TIz).trans (hk _ _ D.TIz D.TITO D.TIi1 D.TIi2 D.TIi3 hTI)
    · exact (sb.2 _ D.TOz).trans TO'
    · exact h1'.1.at fun o q => (sb.2 _ D.zi1.symm).trans q
    · exact h2'.1.at fun o q => (sb.2 _ D.zi2.symm).trans q
    · exact h3'.1.at fun o q => (sb.2 _ D.zi3.symm).trans q
    · have hlt : q < s.heap.objs.size := by
        have e' : q = z ∨ q = TI ∨ q = TO ∨ q = i1 ∨ q = i2 ∨ q = i3 := by simpa using hcm
        rcases e' with e | e | e | e | e | e
        · rw [e]; exact hzl
        · rw [e]; exact Heap.lt_size hTI
        · rw [e]; exact Heap.lt_size hTO
        · rw [e]; obtain ⟨_, e1, _⟩ := h1; exact Heap.lt_size e1
        · rw [e]; obtain ⟨_, e2, _⟩ := h2; exact Heap.lt_size e2
        · rw [e]; obtain ⟨_, e3, _⟩ := h3; exact Heap.lt_size e3
      rw [upd_ne (Nat.ne_of_lt hlt)]
      exact (hf q hcm).1
  done := by
    intro X hP hw hK hc i pins s σ H E I hf st hg
    subst hP hw hK
    obtain ⟨hz, hTI, ⟨x0, y0, u0, hTO⟩, h1, h2, h3⟩ := st
    obtain ⟨xs, ys, zs, hqx, hqy, hqz, hix, hiy, hiz, hend⟩ := hg
    obtain ⟨its, rv, p, _⟩ := I.list hqx
    obtain ⟨its2, rv2, p2, _⟩ := I.list hqy
    obtain ⟨its3, rv3, p3, _⟩ := I.list hqz
    have l1 := rv.length
    have l2 := rv2.length
    have l3 := rv3.length
    have hd : X.A.in1.handled = none := I.ok.hd hc
    exact wpAny_pyNext_zipD3_end D (Draws.list hd i1 a (lst_ne_it p.isList h1) its.toArray) (Draws.list hd i2 b (lst_ne_it p2.isList h2) its2.toArray) (Draws.list hd i3 c (lst_ne_it p3.isList h3) its3.toArray) hz hTI hTO ⟨h1, p.isList⟩ ⟨h2, p2.isList⟩ ⟨h3, p3.isList⟩ (by simp; omega) (by simp; omega) (by simp; omega) (by simp; omega) fun h' tk hk => ⟨rfl, I.turnedL (t' := tk) (ch := [z, TI, TO, i1, i2, i3]) (fun q o hb e =>
      hk q o (fun q' => hb (by simp [q'])) (fun q' => hb (by simp [q'])) (fun q' => hb (by simp [q'])) (fun q' => hb (by simp [q'])) (fun q' => hb (by simp [q'])) e) hf⟩
  self := fun A i s Q E st h => wpAny_pyIter_zip st.1 h
theorem sep3 (I a b c : Nat) (h1 : a < I) (h2 : b < I) (h3 : c < I) : ZipSep3 (I + 5) (I + 3) (I + 4) I (I + 1) (I + 2) [I, a] [I + 1, b] [I + 2, c] := by
  have ne : ∀ x y : Nat, x < y ∨ y < x → ¬ ((x : Nat) = y) := fun x y h e => by omega
  have no : ∀ x y z : Nat, (x < y ∨ y < x) → (x < z ∨ z < x) → x ∉ [y, z] := fun x y z h h' hm => by
    rcases List.mem_cons.mp hm with e | e
    · omega
    · rw [List.mem_singleton] at e
      omega
  exact ⟨ne _ _ (by omega), ne _ _ (by omega), ne _ _ (by omega), ne _ _ (by omega), List.mem_cons_self, no _ _ _ (by omega) (by omega), no _ _ _ (by omega) (by omega), ne _ _ (by omega), List.mem_cons_self, no _ _ _ (by omega) (by omega), no _ _ _ (by omega) (by omega), ne _ _ (by omega), List.mem_cons_self, no _ _ _ (by omega) (by omega), no _ _ _ (by omega) (by omega), no _ _ _ (by omega) (by omega), no _ _ _ (by omega) (by omega), no _ _ _ (by omega) (by omega), no _ _ _ (by omega) (by omega), no _ _ _ (by omega) (by omega), no _ _ _ (by omega) (by omega)⟩
def iZip3 (K : PySem.W.Frag) (ta : TA) : TI := fun σ H R => ta σ H fun vs H1 => ∃ a b c xs ys zs, vs = [.ref a, .ref b, .ref c] ∧ SqL K H1 a xs ∧ SqL K H1 b ys ∧ SqL K H1 c zs ∧ R (Itz3 K a b c) H1
theorem pi_zip3 {X : Cx} {e e2 e3 : Expr} {ta : TA} {p pos tpos : Pos} {elts : List Expr} {kk : Nat} (hg : Gl X "zip") (hm : X.mg "zip" = none) (ha : PA X [e, e2, e3] ta)
    (hs : starEach [e, e2, e3] X.env = (false, eval e X.env) :: starEach [e2, e3] X.env := by rfl) (hpl : (backTo pos (starEach [e2, e3] X.env)).any (·.1) = false := by rfl) :
    PI X (.Tuple elts kk tpos) (.Call (.Name "zip" p) [e, e2, e3] [] pos) (iZip3 X.K ta) := by
  refine ⟨fun pins s σ H R I h => ?_⟩
  refine Call_ (ld_blt I hg hm PyProof.Rows.boot_zip (PyProof.Rows.callWith_type1 (thn (ha.run pos pins s σ H _ I h) fun us s1 ⟨vs, H1, I1, r1, q1⟩ => ?_) hs hpl))
  obtain ⟨a, b, c, xs, ys, zs, ex, hqx, hqy, hqz, q⟩ := q1
  subst ex
  cases r1 with
  | cons r rr =>
    cases rr with
    | cons r' rr =>
      cases rr with
      | cons r'' rr =>
        cases rr
        cases r
        cases r'
        cases r''
        obtain ⟨its, rv, p1, _⟩ := I1.list hqx
        obtain ⟨its2, rv2, p2, _⟩ := I1.list hqy
        obtain ⟨its3, rv3, p3, _⟩ := I1.list hqz
        have la : a < s1.heap.objs.size := p1.lt
        have lb : b < s1.heap.objs.size := p2.lt
        have lc : c < s1.heap.objs.size := p3.lt
        refine zip_begins3 (begins_list a its.toArray) (begins_list b its2.toArray) (begins_list c its3.toArray) p1.isList p2.isList p3.isList fun h' hz hTI hTO g1 g2 g3 hsz hk => wpAny_pyIter_zip hz ?_
        have I2 : Inv X pins σ H1 { s1 with heap := h' } := I1.kept (t' := s1.toks) hk
        have D := sep3 s1.heap.objs.size a b c la lb lc
        refine ⟨s1.heap.objs.size + 5, [s1.heap.objs.size + 5, s1.heap.objs.size + 3, s1.heap.objs.size + 4, s1.heap.objs.size, s1.heap.objs.size + 1, s1.heap.objs.size + 2], _, _, H1, rfl, I2, turn_zip3 D, ⟨hz, hTI, ⟨_, _, _, hTO⟩, ⟨_, g1, rfl, rfl⟩, ⟨_, g2, rfl, rfl⟩, ⟨_, g3, rfl, rfl⟩⟩, fun q hcm => ?_, q⟩
        have e' : q = s1.heap.objs.size + 5 ∨ q = s1.heap.objs.size + 3 ∨ q = s1.heap.objs.size + 4 ∨ q = s1.heap.objs.size ∨ q = s1.heap.objs.size + 1 ∨ q = s1.heap.objs.size + 2 := by simpa using hcm
        have hle : s1.heap.objs.size ≤ q := by
          rcases e' with z | z | z | z | z | z <;> rw [z] <;> omega
        exact I1.fpOk hle (I1.hok.fresh hle)
def zipD3 : List D → List D → List D → List D
  | x :: xs, y :: ys, z :: zs => .tup [x, y, z] :: zipD3 xs ys zs
  | _, _, _ => []
theorem zipD3_len : ∀ (xs ys zs : List D), (zipD3 xs ys zs).length = min xs.length (min ys.length zs.length)
  | [], ys, zs => by simp [zipD3]
  | x :: xs, [], zs => by simp [zipD3]
  | x :: xs, y :: ys, [] => by simp [zipD3]
  | x :: xs, y :: ys, z :: zs => by rw [zipD3, List.length_cons, List.length_cons, List.length_cons, List.length_cons, zipD3_len]; omega
theorem zipD3_get : ∀ (xs ys zs : List D) (i : Nat) (x y z : D), xs[i]? = some x → ys[i]? = some y → zs[i]? = some z → (zipD3 xs ys zs)[i]? = some (.tup [x, y, z])
  | [], _, _, _, _, _, _, h, _, _ => by simp at h
  | _ :: _, [], _, _, _, _, _, _, h, _ => by simp at h
  | _ :: _, _ :: _, [], _, _, _, _, _, _, h => by simp at h
  | a :: xs, b :: ys, c :: zs, 0, x, y, z, h, h', h'' => by simp at h h' h''; subst h; subst h'; subst h''; rfl
  | a :: xs, b :: ys, c :: zs, i + 1, x, y, z, h, h', h'' => by rw [zipD3, List.getElem?_cons_succ]; exact zipD3_get xs ys zs i x y z (by simpa using h) (by simpa using h') (by simpa using h'')
def sqZ3 (fa fb fc : IE) : IW := fun ρ S => (fa ρ S).bind fun d S1 => (fb ρ S1).bind fun e S2 => (fc ρ S2).bind fun f S3 => match d, e, f with
  | .ref n, .ref m, .ref k => match lstOf S3 n, lstOf S3 m, lstOf S3 k with
    | some xs, some ys, some zs => .ok ⟨zipD3 xs ys zs, fun S => lstOf S n = some xs ∧ lstOf S m = some ys ∧ lstOf S k = some zs⟩ S3
    | _, _, _ => .bad
  | _, _, _ => .bad
section
variable {X : Cx} {g : G} {E : XK} {pos : Pos}
theorem ri_z3 {a b c : Expr} {fa fb fc : IE} {p tpos : Pos} {elts : List Expr} {kk : Nat} (hg : Gl X "zip") (hm : X.mg "zip" = none) (ha : RE X g E a fa) (hb : RE X g E b fb) (hc : RE X g E c fc)
    (hs : starEach [a, b, c] X.env = (false, eval a X.env) :: starEach [b, c] X.env := by rfl) (hpl : (backTo pos (starEach [b, c] X.env)).any (·.1) = false := by rfl) (q2 : starEach [b, c] X.env = (false, eval b X.env) :: starEach [c] X.env := by rfl) (q3 : starEach [c] X.env = (false, eval c X.env) :: starEach [] X.env := by rfl) :
    RI X g E (.Tuple elts kk tpos) (.Call (.Name "zip" p) [a, b, c] [] pos) (sqZ3 fa fb fc) :=
  PI.imp (pi_zip3 hg hm (pa_cons ha (pa_cons hb (pa_cons hc pa_nil q3) q2) hs) hs hpl) fun σ H Rr ⟨φ, ρ, S, er, rp, k⟩ => ⟨φ, ρ, S, er, rp, k.bind.mono fun d S1 φ1 H1 _ _ ⟨r1, n1, k1⟩ v dv => ⟨φ1, ρ, S1, n1.er er, r1, k1.bind.mono fun e S2 φ2 H2 _ _ ⟨r2, n2, k2⟩ w dw => ⟨φ2, ρ, S2, (n1.trans n2).er er, r2, k2.bind.mono fun f S3 φ3 H3 _ _ ⟨r3, n3, k3⟩ u du => by
    cases d with
    | ref n =>
      cases e with
      | ref m =>
        cases f with
        | ref o =>
          obtain ⟨a, ha, rfl⟩ := ref_inv (n3.dr (n2.dr dv))
          obtain ⟨b, hb, rfl⟩ := ref_inv (n3.dr dw)
          obtain ⟨c, hc, rfl⟩ := ref_inv du
          dsimp only at k3
          split at k3
          · rename_i xs ys zs h1 h2 h3
            obtain ⟨vs, q1, q2⟩ := r3.lst h1 ha
            obtain ⟨ws, q3, q4⟩ := r3.lst h2 hb
            obtain ⟨us, q5, q6⟩ := r3.lst h3 hc
            refine ⟨a, b, c, vs, ws, us, rfl, .of q1, .of q3, .of q5, k3 φ3 H3 (.refl r3) _ ?_⟩
            rw [zipD3_len]
            refine ⟨fun i H hi ⟨φ', S', p, t, r', gd⟩ => ?_, fun H ⟨φ', S', p, t, r', gd⟩ => ?_, fun i H x H' hi ⟨φ', S', p, t, r', gd⟩ y => ?_⟩
            · obtain ⟨us1, e1, f1⟩ := wl ha p r' gd.1
              obtain ⟨us2, e2, f2⟩ := wl hb p r' gd.2.1
              obtain ⟨us3, e3, f3⟩ := wl hc p r' gd.2.2
              obtain ⟨u1, hu1⟩ := vget (vs := us1) (i := i) (by rw [f1.length]; omega)
              obtain ⟨u2, hu2⟩ := vget (vs := us2) (i := i) (by rw [f2.length]; omega)
              obtain ⟨u3, hu3⟩ := vget (vs := us3) (i := i) (by rw [f3.length]; omega)
              exact ⟨us1, us2, us3, u1, u2, u3, .of e1, .of e2, .of e3, hu1, hu2, hu3⟩
            · obtain ⟨us1, e1, f1⟩ := wl ha p r' gd.1
              obtain ⟨us2, e2, f2⟩ := wl hb p r' gd.2.1
              obtain ⟨us3, e3, f3⟩ := wl hc p r' gd.2.2
              have := f1.length
              have := f2.length
              have := f3.length
              exact ⟨us1, us2, us3, .of e1, .of e2, .of e3, by omega, by omega, by omega, by omega⟩
            · obtain ⟨T, x', y', z', rfl, hT, rfl, hx, hy, hz⟩ := y
              refine ⟨.inr ⟨T, _, hT, rfl⟩, fun φ2 S2 p2 t2 r2 gd2 => ?_⟩
              obtain ⟨us1, e1, f1⟩ := wl ha p2 r2 gd2.1
              obtain ⟨us2, e2, f2⟩ := wl hb p2 r2 gd2.2.1
              obtain ⟨us3, e3, f3⟩ := wl hc p2 r2 gd2.2.2
              obtain ⟨d1, g1, m1⟩ := f1.getV (hx us1 (.of e1))
              obtain ⟨d2, g2, m2⟩ := f2.getV (hy us2 (.of e2))
              obtain ⟨d3, g3, m3⟩ := f3.getV (hz us3 (.of e3))
              refine ⟨.tup [d1, d2, d3], zipD3_get _ _ _ _ _ _ _ g1 g2 g3, ?_⟩
              have n4 := r2.side (o := .tup [x', y', z']) hT
              exact dr_tup (.of upd_same) (.cons (n4.dr m1) (.cons (n4.dr m2) (.cons (n4.dr m3) .nil)))
          · exact k3.elim
        | _ => exact k3.elim
      | _ => exact k3.elim
    | _ => exact k3.elim⟩⟩⟩
end
end J

set_option Elab.async false
set_option linter.all false
set_option maxRecDepth 100000
set_option maxHeartbeats 4000000
namespace J
open PySem PySem.Spec PyProof.Rows L2
section
variable {X : Str → Sto → Prop} {S : Sto} {ρ : Env} {fa fb fc : IE} {QS : Src → Sto → Prop}
/-! ### steps of the zips -/
def ref3 (Q : Nat → Nat → Nat → Prop) : D → D → D → Prop
  | .ref n, .ref m, .ref k => Q n m k
  | _, _, _ => False
theorem wp_sqZ3 (q : wp (fa ρ S) (fun d S1 => wp (fb ρ S1) (fun e S2 => wp (fc ρ S2) (fun f S3 => ref3 (fun n m k => ∃ xs ys zs, lstOf S3 n = some xs ∧ lstOf S3 m = some ys ∧ lstOf S3 k = some zs ∧ QS ⟨zipD3 xs ys zs, fun S => lstOf S n = some xs ∧ lstOf S m = some ys ∧ lstOf S k = some zs⟩ S3) d e f) X) X) X) : wp (sqZ3 fa fb fc ρ S) QS X := by
  unfold sqZ3
  exact wp_bind (wp_mono q (fun d S h => wp_bind (wp_mono h (fun e S h => wp_bind (wp_mono h (fun f S h => by
    cases d <;> try exact h.elim
    cases e <;> try exact h.elim
    cases f <;> try exact h.elim
    obtain ⟨xs, ys, zs, h1, h2, h3, h4⟩ := h
    dsimp only
    rw [h1, h2, h3]
    exact wp_ok h4) fun _ _ h => h)) fun _ _ h => h)) fun _ _ h => h)
instance i_wp_sqZ3 : St (wp (sqZ3 fa fb fc ρ S) QS X) (wp (fa ρ S) (fun d S1 => wp (fb ρ S1) (fun e S2 => wp (fc ρ S2) (fun f S3 => ref3 (fun n m k => ∃ xs ys zs, lstOf S3 n = some xs ∧ lstOf S3 m = some ys ∧ lstOf S3 k = some zs ∧ QS ⟨zipD3 xs ys zs, fun S => lstOf S n = some xs ∧ lstOf S m = some ys ∧ lstOf S k = some zs⟩ S3) d e f) X) X) X) := ⟨fun h => wp_sqZ3 h⟩
theorem ref3_mk {n m k : Nat} {P : Nat → Nat → Nat → Prop} (h : P n m k) : ref3 P (.ref n) (.ref m) (.ref k) := h
instance i_ref3 {n m k : Nat} {P : Nat → Nat → Nat → Prop} : St (ref3 P (.ref n) (.ref m) (.ref k)) (P n m k) := ⟨fun h => h⟩
def refT (Q : Nat → List D → Prop) : D → D → Prop
  | .ref n, .tup ys => Q n ys
  | _, _ => False
theorem wp_sqZlt (q : wp (fa ρ S) (fun d S1 => wp (fb ρ S1) (fun e S2 => refT (fun n ys => ∃ xs, lstOf S2 n = some xs ∧ QS ⟨zipD xs ys, fun S => lstOf S n = some xs⟩ S2) d e) X) X) : wp (sqZlt fa fb ρ S) QS X := by
  unfold sqZlt
  exact wp_bind (wp_mono q (fun d S h => wp_bind (wp_mono h (fun e S h => by
    cases d <;> try exact h.elim
    cases e <;> try exact h.elim
    obtain ⟨xs, h1, h3⟩ := h
    dsimp only
    rw [h1]
    exact wp_ok h3) fun _ _ h => h)) fun _ _ h => h)
instance i_wp_sqZlt : St (wp (sqZlt fa fb ρ S) QS X) (wp (fa ρ S) (fun d S1 => wp (fb ρ S1) (fun e S2 => refT (fun n ys => ∃ xs, lstOf S2 n = some xs ∧ QS ⟨zipD xs ys, fun S => lstOf S n = some xs⟩ S2) d e) X) X) := ⟨fun h => wp_sqZlt h⟩
instance i_refT {n : Nat} {ys : List D} {P : Nat → List D → Prop} : St (refT P (.ref n) (.tup ys)) (P n ys) := ⟨fun h => h⟩
theorem zipD3_at : ∀ {xs ys zs : List D} {k : Nat} {d : D}, (zipD3 xs ys zs)[k]? = some d → ∃ x y z, xs[k]? = some x ∧ ys[k]? = some y ∧ zs[k]? = some z ∧ d = .tup [x, y, z]
  | [], _, _, _, _, h => by simp [zipD3] at h
  | _ :: _, [], _, _, _, h => by simp [zipD3] at h
  | _ :: _, _ :: _, [], _, _, h => by simp [zipD3] at h
  | x :: xs, y :: ys, z :: zs, 0, d, h => by simp [zipD3] at h; exact ⟨x, y, z, rfl, rfl, rfl, h.symm⟩
  | x :: xs, y :: ys, z :: zs, k + 1, d, h => by
    simp only [zipD3, List.getElem?_cons_succ] at h
    obtain ⟨a, b, c, h1, h2, h3, e⟩ := zipD3_at (xs := xs) (ys := ys) (zs := zs) (k := k) h
    exact ⟨a, b, c, by simpa using h1, by simpa using h2, by simpa using h3, e⟩
end
end J

set_option Elab.async false
set_option linter.all false
set_option maxRecDepth 100000
set_option maxHeartbeats 4000000
namespace J
open PySem PySem.Spec PyProof.Rows L2
/-! ### isinstance(x, C), x an instance of the own class C -/
def iIsI (C : Str) (fa : IE) : IE := fun ρ S => (fa ρ S).bind fun d S1 => match d with
  | .ref n => match insOf S1 n with
    | some (C', _) => if C' = C then .ok (.bl true) S1 else .bad
    | none => .bad
  | _ => .bad
structure InsM (K : PySem.W.Frag) (mg : Str → Option Value) (g : G) (C : Str) : Prop where
  i : C8.InsC K (g.cls C)
  mg : mg C = some (.ref (g.cls C))
structure InsAt (K : PySem.W.Frag) (C : Str) : Prop where
  ex : ∃ c : Addr, PySem.W.nsIn K mainGlobals C = some (some (.ref c)) ∧ C8.InsC K c
def isiB (K : PySem.W.Frag) (C : Str) : Bool := He.eqO (PySem.W.findIn K (.ref (He.ga K C)) "__class__") (some (some (.builtin "object.__class__"))) && (He.eqO (PySem.W.specialIn K (.builtin "object.__class__") "__get__") (some (some (.builtin "getset_descriptor.__get__"))) && (decide (PySem.W.takesIn K (.builtin "object.__class__") = some true) && (decide (PySem.W.mroIn K (He.ga K C) (.type "object") = some true) && decide (PySem.W.kitOne K (.ref (He.ga K C)) (.ref (He.ga K C)) = some true))))
theorem insAt_of {K : PySem.W.Frag} {C : Str} (g : (He.Fa.glo C).ok K = true) (c : (He.Fa.cls C).ok K = true) (b : isiB K C = true) : InsAt K C := by
  obtain ⟨b1, b⟩ := He.ba b
  obtain ⟨b2, b⟩ := He.ba b
  obtain ⟨b3, b⟩ := He.ba b
  obtain ⟨b4, b5⟩ := He.ba b
  exact ⟨_, He.eqO_ok g, He.cls_ok c, He.eqO_ok b1, He.eqO_ok b2, of_decide_eq_true b3, of_decide_eq_true b4, of_decide_eq_true b5⟩
section
variable {mg : Str → Option Value} {K : PySem.W.Frag} {ws : List (Str × Str)} {T : List (Addr × Str)} {h : Heap}
theorem InsAt.m {C : Str} (c : InsAt K C) (X : K.In h) (G : h.Ns mainGlobals mg) : InsM K mg (gK K ws T) C := by
  obtain ⟨a, h1, h2⟩ := c.ex
  have e : (gK K ws T).cls C = a := gK_cls h1
  exact ⟨by rw [e]; exact h2, by rw [e]; exact PySem.W.mg_of X G h1⟩
end
section
variable {X : Cx} {g : G} {E : XK} {pos p p' : Pos}
theorem re_isI {e : Expr} {C : Str} {fo : IE} (c : InsM X.K X.mg g C) (hg : Gl X "isinstance") (hm : X.mg "isinstance" = none) (hgC : Gl X C) (h : RE X g E e fo) (hdC : (C == ("__debug__" : Str)) = false := by decide)
    (hs : starEach [.Name C p'] X.env = (false, eval (.Name C p') X.env) :: starEach [] X.env := by rfl) (he : starEach [e, .Name C p'] X.env = (false, eval e X.env) :: starEach [.Name C p'] X.env := by rfl) (hpl : (backTo pos (starEach [.Name C p'] X.env)).any (·.1) = false := by rfl) :
    RE X g E (.Call (.Name "isinstance" p) [e, .Name C p'] [] pos) (iIsI C fo) :=
  PE.imp (pe_callB (C8.call_isC c.i) hg hm bb_isi (pa_cons h (pa_cons (C8.pe_gc (v := .ref (g.cls C)) hgC ⟨_, c.mg, rfl⟩ hdC) pa_nil hs) he) (by decide) (by decide) he hpl) fun σ H Q ⟨φ, ρ, S, er, rp, k⟩ => ⟨φ, ρ, S, er, rp, k.bind.mono fun d S1 φ1 H1 _ _ ⟨r1, n1, k1⟩ v dv => by
    cases d with
    | ref n =>
      obtain ⟨a, ha, rfl⟩ := ref_inv dv
      dsimp only at k1
      split at k1
      · rename_i c' fs' h1
        split at k1
        · rename_i hc
          subst hc
          obtain ⟨dx, ws, e1, e2⟩ := r1.cellAt (insOf_some h1) ha
          exact ⟨a, dx, ws, rfl, e1, k1 φ1 H1 (.refl r1) _ dr_bl⟩
        · exact k1.elim
      · exact k1.elim
    | _ => exact k1.elim⟩
end
section
variable {X : Str → Sto → Prop} {S : Sto} {ρ : Env} {fa : IE} {Q : D → Sto → Prop}
theorem wp_iIsI {C : Str} (q : wp (fa ρ S) (fun d S1 => ∃ n fs, d = .ref n ∧ insOf S1 n = some (C, fs) ∧ Q (.bl true) S1) X) : wp (iIsI C fa ρ S) Q X := by
  unfold iIsI
  exact wp_bind (wp_mono q (fun d S1 ⟨n, fs, e1, e2, h⟩ => by
    subst e1
    dsimp only
    rw [e2]
    dsimp only
    rw [if_pos rfl]
    exact wp_ok h) fun _ _ h => h)
end
end J

set_option Elab.async false
set_option linter.all false
set_option maxRecDepth 100000
set_option maxHeartbeats 4000000
namespace J
open PySem PySem.Spec PyProof.Rows L2
/-! ### a table of the module: keys and tuples of texts -/
theorem tupS_ok {K : PySem.W.Frag} {u : Value} {vs : List Str} (h : tupS K u vs = true) : ∃ a, u = .ref a ∧ ∀ H, SqT K H a (vs.map V.str) := by
  unfold tupS at h
  cases u with
  | ref a =>
    dsimp only at h
    cases q : K.lookup a with
    | none =>
      rw [q] at h
      cases h
    | some o =>
      obtain ⟨oc, od, dt, osl⟩ := o
      rw [q] at h
      cases oc with
      | type c =>
        cases dt with
        | seq its n =>
          obtain ⟨h1, h2⟩ := He.ba (show (decide (c = "tuple") && (decide (its.size ≤ sizeLine) && He.relAll (vs.map V.str) its.toList)) = true from h)
          obtain ⟨h3, h4⟩ := He.ba h2
          exact ⟨a, rfl, fun H => .inr ⟨_, its, n, q, congrArg Value.type (of_decide_eq_true h1), rfl, of_decide_eq_true h3, He.relAll_ok h4⟩⟩
        | _ => cases h
      | _ => cases dt <;> cases h
  | _ => cases h
structure TabM (K : PySem.W.Frag) (mg : Str → Option Value) (w : World) (x : Str) (tb : Tbl) : Prop where
  ex : ∃ d es n, mg x = some (.ref d) ∧ KDict K w d es n ∧ (∀ z vs, tb.lookup z = some vs → ∃ a, PySem.W.nsIn K d z = some (some (.ref a)) ∧ ∀ H, SqT K H a (vs.map V.str)) ∧ ∀ z, tb.lookup z = none → PySem.W.nsIn K d z = some none
theorem noKey_of {P : Params} {z : Str} : ∀ {l : List DictEntry} {ks : List Str}, l.map He.keyOf = He.keysIn P ks → z ∉ ks → (l.find? fun e => e.key.isStr z) = none ∧ l.any (fun e => e.refKey) = false
  | [], _, _, _ => ⟨rfl, rfl⟩
  | e :: r, [], h, _ => by cases h
  | e :: r, k :: ks, h, hz => by
    have h1 : He.keyOf e :: r.map He.keyOf = some (k, PyData.keyHash P k) :: He.keysIn P ks := h
    injection h1 with h2 h3
    have hz1 : k ≠ z := fun e => hz (by rw [e]; exact List.mem_cons_self)
    obtain ⟨q1, q2⟩ := noKey_of h3 (fun m => hz (List.mem_cons_of_mem _ m))
    unfold He.keyOf at h2
    split at h2
    · rename_i x t q
      have h4 := Option.some.inj h2
      obtain ⟨h5, h6⟩ := Prod.mk.inj h4
      have e1 : e.key.isStr z = false := by
        rw [q]
        show (x == z) = false
        rw [h5]
        exact beq_eq_false_iff_ne.mpr hz1
      have e2 : e.refKey = false := by
        unfold DictEntry.refKey
        rw [q]
      refine ⟨?_, ?_⟩
      · rw [List.find?_cons, e1]
        exact q1
      · rw [List.any_cons, e2, q2]
        rfl
    · cases h2
theorem dicW_keys {K : PySem.W.Frag} {a : Addr} {l : List (Option (Str × Int))} (h : He.dicW K a = some l) : ∃ es n, K.lookup a = some ⟨.type "dict", none, .dict es n, #[]⟩ ∧ es.toList.map He.keyOf = l := by
  unfold He.dicW at h
  cases q : K.lookup a with
  | none =>
    rw [q] at h
    cases h
  | some o =>
    obtain ⟨oc, od, dt, osl⟩ := o
    rw [q] at h
    cases oc with
    | type c =>
      cases od with
      | none =>
        cases dt with
        | dict es n =>
          have h1 : (match decide (c = "dict") && (osl.isEmpty && !(a == sysModules)) with
            | true => some (es.toList.map He.keyOf)
            | false => none) = some l := h
          cases z : decide (c = "dict") && (osl.isEmpty && !(a == sysModules)) with
          | false =>
            rw [z] at h1
            cases h1
          | true =>
            rw [z] at h1
            obtain ⟨z1, z2⟩ := He.ba z
            obtain ⟨z3, z4⟩ := He.ba z2
            have e1 : c = "dict" := of_decide_eq_true z1
            have e2 : osl = #[] := Array.isEmpty_iff.mp z3
            subst e1 e2
            exact ⟨es, n, rfl, Option.some.inj h1⟩
        | _ => cases h
      | some b => cases dt <;> cases h
    | _ => cases od <;> cases dt <;> cases h
theorem lookup_mem {β : Type} {z : Str} {v : β} : ∀ {l : List (Str × β)}, l.lookup z = some v → (z, v) ∈ l
  | [], h => by cases h
  | (k, u) :: l, h => by
    rw [List.lookup_cons] at h
    split at h
    · rename_i e
      have e := beq_iff_eq.mp e
      subst e
      cases h
      exact List.mem_cons_self
    · exact List.mem_cons_of_mem _ (lookup_mem h)
theorem lookup_notMem {β : Type} {z : Str} : ∀ {l : List (Str × β)}, l.lookup z = none → z ∉ l.map (·.1)
  | [], _ => by simp
  | (k, u) :: l, h => by
    rw [List.lookup_cons] at h
    split at h
    · cases h
    · rename_i e
      rw [List.map_cons, List.mem_cons]
      rintro (rfl | m)
      · simp at e
      · exact lookup_notMem h m
theorem tabM_of {K : PySem.W.Frag} {mg : Str → Option Value} {w : World} {x : Str} {tb : Tbl} {ks : List Str} {h : Heap} {fa : List He.Fa} {fn : List He.DefD} {ts : List He.Tab} (X : K.In h) (G : h.Ns mainGlobals mg) (g : (He.Fa.glo x).ok K = true) (b : tblB K x tb = true) (c : He.SaysT fa fn ts w K) (i : Nat)
    (e : ts[i]? = some (fun K => He.ga K x, ks)) (hk : tb.map (·.1) = ks) : TabM K mg w x tb := by
  obtain ⟨es, n, D⟩ := c.tab i e
  have e1 : ts.map (fun t => He.dicW K (t.1 K)) = ts.map fun t => some (He.keysIn w.params t.2) := congrArg (fun z : He.AlT => z.2) c
  have e2 : (ts.map fun t => He.dicW K (t.1 K))[i]? = (ts.map fun t => some (He.keysIn w.params t.2))[i]? := by rw [e1]
  rw [List.getElem?_map, List.getElem?_map, e] at e2
  have e3 := Option.some.inj e2
  obtain ⟨es', n', l', hm⟩ := dicW_keys e3
  refine ⟨_, es, n, PySem.W.mg_of X G (He.eqO_ok g), D, fun z vs hz => ?_, fun z hz => ?_⟩
  · have h1 := List.all_eq_true.mp b (z, vs) (lookup_mem hz)
    dsimp only at h1
    split at h1
    · rename_i u hu
      obtain ⟨a, rfl, hs⟩ := tupS_ok h1
      exact ⟨a, hu, hs⟩
    · cases h1
  · have hz2 := lookup_notMem hz
    rw [hk] at hz2
    obtain ⟨q1, q2⟩ := noKey_of hm hz2
    show PySem.W.nsIn K (He.ga K x) z = some none
    unfold PySem.W.nsIn
    rw [show K.lookup (He.ga K x) = _ from l']
    dsimp only
    rw [q1]
    dsimp only
    rw [q2]
    rfl
def iInT (tb : Tbl) (fa : IE) : IE := fun ρ S => (fa ρ S).bind fun d S1 => match d with
  | .str z => .ok (.bl (!(tb.lookup z).isSome)) S1
  | _ => .bad
def iItT (tb : Tbl) (fa : IE) : IE := fun ρ S => (fa ρ S).bind fun d S1 => match d with
  | .str z => match tb.lookup z with
    | some vs => .ok (.tup (vs.map .str)) S1
    | none => .bad
  | _ => .bad
section
variable {X : Cx} {g : G} {E : XK} {pos p : Pos} {x : Str} {tb : Tbl}
theorem TabM.key {K : PySem.W.Frag} {mg : Str → Option Value} {w : World} {d : Addr} (h1 : ∀ z vs, tb.lookup z = some vs → ∃ a, PySem.W.nsIn K d z = some (some (.ref a)) ∧ ∀ H, SqT K H a (vs.map V.str)) (h2 : ∀ z, tb.lookup z = none → PySem.W.nsIn K d z = some none) (z : Str) : ∃ r, PySem.W.nsIn K d z = some r ∧ r.isSome = (tb.lookup z).isSome := by
  cases e : tb.lookup z with
  | none => exact ⟨none, h2 z e, rfl⟩
  | some vs =>
    obtain ⟨a, h3, _⟩ := h1 z vs e
    exact ⟨_, h3, rfl⟩
theorem re_notInT {e : Expr} {fa : IE} (c : TabM X.K X.mg X.w x tb) (hg : Gl X x) (h : RE X g E e fa) (hm : behindInMarks .NotIn (.Name x p) = false := by rfl) (hd : (x == ("__debug__" : Str)) = false := by decide) :
    RE X g E (.Compare e [.NotIn] [.Name x p] pos) (iInT tb fa) := by
  obtain ⟨d, es, n, m, D, h1, h2⟩ := c.ex
  refine PE.imp (pe_cmpR (op_notIn_kd D) h (pe_glob (v := .ref d) hg m rfl hd) hm) fun σ H Q ⟨φ, ρ, S, er, rp, k⟩ => ⟨φ, ρ, S, er, rp, k.bind.mono fun d1 S1 φ1 H1 _ _ ⟨r1, n1, k1⟩ v dv => ?_⟩
  cases d1 with
  | str z =>
    obtain rfl := str_inv dv
    obtain ⟨r, e1, e2⟩ := TabM.key (K := X.K) (mg := X.mg) (w := X.w) h1 h2 z
    refine ⟨z, r, rfl, rfl, e1, ?_⟩
    rw [e2]
    exact k1 φ1 H1 (.refl r1) _ dr_bl
  | _ => exact k1.elim
theorem rt_notInT {e : Expr} {fa : IE} (c : TabM X.K X.mg X.w x tb) (hg : Gl X x) (h : RE X g E e fa) (hm : behindInMarks .NotIn (.Name x p) = false := by rfl) (hd : (x == ("__debug__" : Str)) = false := by decide) :
    RT X g E (.Compare e [.NotIn] [.Name x p] pos) (iB (iInT tb fa)) := by
  obtain ⟨d, es, n, m, D, h1, h2⟩ := c.ex
  refine PT.imp (pt_cmpR (op_notIn_kd D) h (pe_glob (v := .ref d) hg m rfl hd) hm) fun σ H Q ⟨φ, ρ, S, er, rp, k⟩ => ⟨φ, ρ, S, er, rp, k.bind.bind.mono fun d1 S1 φ1 H1 _ _ ⟨r1, n1, k1⟩ v dv => ?_⟩
  cases d1 with
  | str z =>
    obtain rfl := str_inv dv
    obtain ⟨r, e1, e2⟩ := TabM.key (K := X.K) (mg := X.mg) (w := X.w) h1 h2 z
    refine ⟨z, r, rfl, rfl, e1, ?_⟩
    rw [e2]
    obtain ⟨r2, n2, k3⟩ := k1 φ1 H1 (.refl r1)
    exact ⟨_, rfl, k3 φ1 H1 (.refl r2)⟩
  | _ => exact k1.elim
theorem re_itT {e : Expr} {fa : IE} (c : TabM X.K X.mg X.w x tb) (hg : Gl X x) (h : RE X g E e fa) (hs : PlainIx e := by exact fun _ _ => rfl) (hd : (x == ("__debug__" : Str)) = false := by decide) :
    RE X g E (.Subscript (.Name x p) e pos) (iItT tb fa) := by
  obtain ⟨d, es, n, m, D, h1, h2⟩ := c.ex
  refine PE.imp (pe_ix ix_kdict (pe_glob (v := .ref d) hg m rfl hd) h hs) fun σ H Q ⟨φ, ρ, S, er, rp, k⟩ => ⟨φ, ρ, S, er, rp, k.bind.mono fun d1 S1 φ1 H1 _ _ ⟨r1, n1, k1⟩ v dv => ?_⟩
  cases d1 with
  | str z =>
    obtain rfl := str_inv dv
    dsimp only at k1
    split at k1
    · rename_i vs hz
      obtain ⟨a, h3, h4⟩ := h1 z vs hz
      refine ⟨d, z, .ref a, rfl, rfl, ⟨es, n, _, D.at_, D.lit, h3, rfl⟩, k1 φ1 H1 (.refl r1) _ ?_⟩
      refine dr_tup (h4 H1) ?_
      clear h4 hz k1 
      induction vs with
      | nil => exact .nil
      | cons y ys ih => exact .cons dr_str ih
    · exact k1.elim
  | _ => exact k1.elim
end
section
variable {X : Str → Sto → Prop} {S : Sto} {ρ : Env} {fa : IE} {Q : D → Sto → Prop} {tb : Tbl}
def isS (Q : Str → Sto → Prop) (d : D) (S : Sto) : Prop := match d with
  | .str z => Q z S
  | _ => False
instance i_isS {Q : Str → Sto → Prop} {z : Str} : St (isS Q (.str z) S) (Q z S) := ⟨fun h => h⟩
theorem wp_iInT (q : wp (fa ρ S) (isS fun z S1 => Q (.bl (!(tb.lookup z).isSome)) S1) X) : wp (iInT tb fa ρ S) Q X := by
  unfold iInT
  exact wp_bind (wp_mono q (fun d S1 h => by
    cases d <;> first | exact h.elim | exact wp_ok h) fun _ _ h => h)
instance i_wp_iInT : St (wp (iInT tb fa ρ S) Q X) (wp (fa ρ S) (isS fun z S1 => Q (.bl (!(tb.lookup z).isSome)) S1) X) := ⟨fun h => wp_iInT h⟩
theorem wp_iItT (q : wp (fa ρ S) (isS fun z S1 => ∃ vs, tb.lookup z = some vs ∧ Q (.tup (vs.map .str)) S1) X) : wp (iItT tb fa ρ S) Q X := by
  unfold iItT
  exact wp_bind (wp_mono q (fun d S1 h => by
    cases d <;> try exact h.elim
    obtain ⟨vs, e, h⟩ := h
    dsimp only
    rw [e]
    exact wp_ok h) fun _ _ h => h)
instance i_wp_iItT : St (wp (iItT tb fa ρ S) Q X) (wp (fa ρ S) (isS fun z S1 => ∃ vs, tb.lookup z = some vs ∧ Q (.tup (vs.map .str)) S1) X) := ⟨fun h => wp_iItT h⟩
end
end J

set_option Elab.async false
set_option linter.all false
set_option maxRecDepth 100000
set_option maxHeartbeats 4000000
namespace J
open PySem PySem.Spec PyProof.Rows L2
/-! ### int(text) -/
def bIntS : List D → Sto → R D
  | [.str a], S => match PySem.intText? a with
    | some n => if a.length ≤ 640 then .ok (.int n) S else .bad
    | none => .bad
  | _, _ => .bad
theorem ci_intS {K : PySem.W.Frag} {g : G} : CallI K g (fun xs H Q => ∃ a n, xs = [.str a] ∧ PySem.intText? a = some n ∧ a.length ≤ 640 ∧ Q (.int n) H) bIntS := fun E φ S H ds vs Q r hd k => by
  by_cases h : ∃ a, ds = [.str a]
  · obtain ⟨a, rfl⟩ := h
    obtain ⟨v, rfl, dv⟩ := hd.one
    obtain rfl := str_inv dv
    simp only [bIntS] at k
    split at k
    · rename_i n hn
      split at k
      · rename_i hl
        exact ⟨a, n, rfl, hn, hl, k.here r _ dr_int⟩
      · exact k.elim
    · exact k.elim
  · have e : bIntS ds S = .bad := by
      unfold bIntS
      split
      · exact absurd ⟨_, rfl⟩ h
      · rfl
    rw [e] at k
    exact k.elim
section
variable {Q : D → Sto → Prop} {X : Str → Sto → Prop} {S : Sto}
theorem wp_intS {a : Str} {n : Int} (h : PySem.intText? a = some n) (hl : a.length ≤ 640) (q : Q (.int n) S) : wp (bIntS [.str a] S) Q X := by
  have e : bIntS [.str a] S = .ok (.int n) S := by simp only [bIntS, h, if_pos hl]
  exact wp_eq e q
end
/-! ### range(a, b, 2) -/
def twoD (lo : Int) (n : Nat) : List D := (List.range n).map fun k => .int (lo + 2 * (k : Nat))
def sqR2s (fa fb : IE) : IW := fun ρ S => (fa ρ S).bind fun d S1 => (fb ρ S1).bind fun e S2 => match d, e with
  | .int i, .int j => if small i ∧ small j then .ok ⟨twoD i ((j - i + 1) / 2).toNat, fun _ => True⟩ S2 else .bad
  | _, _ => .bad
theorem twoD_len {lo : Int} {n : Nat} : (twoD lo n).length = n := by simp [twoD]
theorem twoD_get {lo : Int} {n i : Nat} (h : i < n) : (twoD lo n)[i]? = some (.int (lo + 2 * (i : Nat))) := by
  unfold twoD
  rw [List.getElem?_map, List.getElem?_range h]
  rfl
section
variable {X : Cx} {g : G} {E : XK} {tg : Expr} {pos : Pos}
theorem two_walk {K : PySem.W.Frag} {lo : Int} {n : Nat} {φ : List Addr} {H : Hp} : Walk (Itc lo 2 n) (twoD lo n).length (WG K g (fun _ => True) φ H) (WY K g ⟨twoD lo n, fun _ => True⟩ φ H) := by
  rw [twoD_len]
  refine ⟨fun i H hi _ => hi, fun H _ => Nat.le_refl _, fun i H x H' hi _ y => ⟨.inl y.1, fun φ2 S2 _ _ _ _ => ⟨_, twoD_get hi, ?_⟩⟩⟩
  rw [y.2, show lo + (i : Nat) * (2 : Int) = lo + 2 * (i : Nat) by omega]
  exact dr_int
theorem rgC_two {i j : Int} (h1 : small i) (h2 : small j) : RgC i j 2 ((j - i + 1) / 2).toNat := by
  have a1 : -1000000 < i := h1.1
  have a2 : i < 1000000 := h1.2
  have b1 : -1000000 < j := h2.1
  have b2 : j < 1000000 := h2.2
  have e : Builtin.Range.rangeSize i j 2 = (((j - i + 1) / 2).toNat : Int) := by
    unfold Builtin.Range.rangeSize
    simp only [show (2 : Int) > 0 by decide, if_true]
    split <;> omega
  refine ⟨by decide, by decide, ?_, e⟩
  unfold Builtin.Range.small
  rw [e]
  simp only [Builtin.Range.rangeFitsLong, Bool.and_eq_true, Bool.or_eq_true, decide_eq_true_eq, beq_iff_eq, show (2 : Int) > 0 by decide, if_true]
  have e1 : (((j - i + 1) / 2).toNat : Int) < 3000000 := by omega
  refine ⟨⟨⟨⟨⟨by omega, by omega⟩, by omega, by omega⟩, by omega, by omega⟩, by omega, by omega⟩, .inr ⟨by omega, by omega⟩⟩
theorem ri_r2s {a b : Expr} {fa fb : IE} {p cp : Pos} {ci : Nat} (hg : Gl X "range") (hm : X.mg "range" = none) (ha : RE X g E a fa) (hb : RE X g E b fb)
    (hs : starEach [a, b, .Constant (.int 2) ci cp] X.env = (false, eval a X.env) :: starEach [b, .Constant (.int 2) ci cp] X.env := by rfl) (hpl : (backTo pos (starEach [b, .Constant (.int 2) ci cp] X.env)).any (·.1) = false := by rfl)
    (q2 : starEach (b :: [.Constant (.int 2) ci cp]) X.env = (false, eval b X.env) :: starEach [.Constant (.int 2) ci cp] X.env := by rfl) (q3 : starEach ((.Constant (.int 2) ci cp) :: []) X.env = (false, eval (.Constant (.int 2) ci cp) X.env) :: starEach [] X.env := by rfl) : RI X g E tg (.Call (.Name "range" p) [a, b, .Constant (.int 2) ci cp] [] pos) (sqR2s fa fb) :=
  PI.imp (pi_range3 hg hm (pa_cons ha (pa_cons hb (pa_cons pe_int pa_nil q3) q2) hs) hs hpl) fun σ H Rr ⟨φ, ρ, S, er, rp, k⟩ => ⟨φ, ρ, S, er, rp, k.bind.mono fun d S1 φ1 H1 _ _ ⟨r1, n1, k1⟩ v dv => ⟨φ1, ρ, S1, n1.er er, r1, k1.bind.mono fun e S2 φ2 H2 _ _ ⟨r2, n2, k2⟩ w dw => by
    cases d with
    | int i =>
      cases e with
      | int j =>
        obtain rfl := int_inv dv
        obtain rfl := int_inv dw
        dsimp only at k2
        split at k2
        · rename_i hj
          exact ⟨i, j, 2, _, rfl, rgC_two hj.1 hj.2, k2 φ2 H2 (.refl r2) _ two_walk⟩
        · exact k2.elim
      | _ => exact k2.elim
    | _ => exact k2.elim⟩⟩
end
section
variable {X : Str → Sto → Prop} {S : Sto} {ρ : Env} {fa fb : IE} {QS : Src → Sto → Prop}
theorem wp_sqR2s (q : wp (fa ρ S) (fun d S1 => wp (fb ρ S1) (fun e S2 => isI (fun i _ => isI (fun j _ => small i ∧ small j ∧ QS ⟨twoD i ((j - i + 1) / 2).toNat, fun _ => True⟩ S2) e S2) d S2) X) X) : wp (sqR2s fa fb ρ S) QS X := by
  unfold sqR2s
  exact wp_bind (wp_mono q (fun d S h => wp_bind (wp_mono h (fun e S h => by
      cases d <;> try exact h.elim
      cases e <;> try exact h.elim
      exact wp_ift ⟨h.1, h.2.1⟩ (wp_ok h.2.2)) fun _ _ h => h)) fun _ _ h => h)
instance i_wp_sqR2s  : St (wp (sqR2s fa fb ρ S) QS X) (wp (fa ρ S) (fun d S1 => wp (fb ρ S1) (fun e S2 => isI (fun i _ => isI (fun j _ => small i ∧ small j ∧ QS ⟨twoD i ((j - i + 1) / 2).toNat, fun _ => True⟩ S2) e S2) d S2) X) X) := ⟨fun h => wp_sqR2s h⟩
end
end J

set_option Elab.async false
set_option linter.all false
set_option maxRecDepth 100000
set_option maxHeartbeats 4000000
namespace J
open PySem PySem.Spec PyProof.Rows L2 TL
/-! ### the parts of a text -/
theorem spl_facts {s : Nat} : ∀ (l acc : List Nat), spl [s] 0 acc l ≠ [] ∧ (spl [s] 0 acc l).length ≤ l.length + 1 ∧ ∀ p ∈ spl [s] 0 acc l, p.length ≤ acc.length + l.length ∧ ∀ c ∈ p, c ∈ acc ∨ c ∈ l
  | [], acc => by
    rw [spl_nil]
    refine ⟨by simp, by simp, fun p hp => ?_⟩
    rw [List.mem_singleton] at hp
    subst hp
    exact ⟨by simp, fun c hc => .inl hc⟩
  | a :: l, acc => by
    cases h : pre [s] (a :: l) with
    | true =>
      rw [spl_hit h]
      obtain ⟨h1, h2, h3⟩ := spl_facts (s := s) l []
      refine ⟨by simp, by simp only [List.length_cons, List.length_nil, Nat.zero_add, Nat.sub_self] at *; omega, fun p hp => ?_⟩
      rcases List.mem_cons.mp hp with rfl | hp
      · exact ⟨by simp, fun c hc => .inl hc⟩
      · obtain ⟨h4, h5⟩ := h3 p hp
        refine ⟨by simp at h4 ⊢; omega, fun c hc => ?_⟩
        rcases h5 c hc with z | z
        · cases z
        · exact .inr (List.mem_cons_of_mem _ z)
    | false =>
      rw [spl_miss h]
      obtain ⟨h1, h2, h3⟩ := spl_facts (s := s) l (acc ++ [a])
      refine ⟨h1, by simp only [List.length_cons]; omega, fun p hp => ?_⟩
      obtain ⟨h4, h5⟩ := h3 p hp
      refine ⟨by simp at h4 ⊢; omega, fun c hc => ?_⟩
      rcases h5 c hc with z | z
      · rcases List.mem_append.mp z with z | z
        · exact .inl z
        · rw [List.mem_singleton] at z
          subst z
          exact .inr List.mem_cons_self
      · exact .inr (List.mem_cons_of_mem _ z)
theorem strOk_iff {x : Str} : PySem.PyData.strOk x = true ↔ ∀ c ∈ x.cps.toList, c < 0x110000 := by
  unfold PySem.PyData.strOk
  rw [← Array.all_toList, List.all_eq_true]
  simp
theorem split_facts {x : Str} {s : Nat} {b : Str} (hb : b.cps.toList = [s]) (hs : s < 256) : Txt.split x b ≠ [] ∧ (Txt.split x b).length ≤ x.length + 1 ∧ ∀ p ∈ Txt.split x b, p.length ≤ x.length ∧ (PySem.PyData.strOk x = true → PySem.PyData.strOk p = true) := by
  have e := split_spl x b (by rw [show tl b = [s] from hb]; simp) (kind_ok (by
    rw [← Array.all_toList, hb]
    simp [hs]))
  rw [show tl b = [s] from hb] at e
  obtain ⟨h1, h2, h3⟩ := spl_facts (s := s) (tl x) []
  rw [← e] at h1 h2 h3
  refine ⟨fun z => h1 (by rw [z]; rfl), by rw [List.length_map] at h2; rw [len_tl]; exact h2, fun p hp => ?_⟩
  obtain ⟨h4, h5⟩ := h3 (tl p) (List.mem_map.mpr ⟨p, hp, rfl⟩)
  refine ⟨by rw [len_tl, len_tl x]; simpa using h4, fun ho => strOk_iff.mpr fun c hc => ?_⟩
  rcases h5 c hc with z | z
  · cases z
  · exact strOk_iff.mp ho c z
theorem split_join1 {b : Str} {s : Nat} (hb : b.cps.toList = [s]) (hs : s < 256) {parts : List Str} (hne : parts ≠ []) (hp : ∀ p ∈ parts, s ∉ p.cps.toList) : Txt.split (Txt.join b parts) b = parts :=
  split_join (S := []) hb (by
    rw [← Array.all_toList, hb]
    simp [hs]) hne hp
instance i_tyStr {S : Sto} {x : Str} {P : Prop} : St (tyName S (.str x) = some "str" ∧ P) P := ⟨fun h => ⟨rfl, h⟩⟩
end J

set_option Elab.async false
set_option linter.all false
set_option maxRecDepth 100000
set_option maxHeartbeats 4000000
namespace K
open PySem PySem.Spec PyProof.Rows L2 J
section
variable {P : Program} {w : World} {K : PySem.W.Frag} {mg : Str → Option Value} {base : Heap} {g : G}
def ws_ : List (Str × Str) := [("BadText", "bad text")]
theorem sci_PailError : FnScope ["self"] ["self"] (defScope sti_PailError) := ⟨rfl, rfl, rfl, by decide +kernel, rfl, by decide +kernel, by decide +kernel⟩
theorem bdi_PailError : selfOnly "PailError.__init__" sti_PailError := fun _ _ _ _ _ _ us hl => match us, hl with | [_], _ => rfl
theorem sci_BadText : FnScope ["self"] ["self"] (defScope sti_BadText) := ⟨rfl, rfl, rfl, by decide +kernel, rfl, by decide +kernel, by decide +kernel⟩
theorem bdi_BadText : selfOnly "BadText.__init__" sti_BadText := fun _ _ _ _ _ _ us hl => match us, hl with | [_], _ => rfl
theorem oki_PailError {f : Addr} {fd : FuncData} (F : Fun K "__init__" "PailError.__init__" sti_PailError f fd) (mV : mg "ValueError" = none) (vV : PySem.W.findCls K (.type "ValueError") (.type "type") "__init__" = some (.val (.builtin "ValueError.__init__"))) : FnOk P w K mg base (L2.CX P w) 1 f fd ["self"] (spI0 K) :=
  ini0 F sci_PailError (fun cdv A outer s H E => pss_cons (ps_expr (pe_veinit rfl mV vV (pa_cons (pv 0) (pa_cons pe_str pa_nil)))) (pss_one (ps_ost (pv 0) pe_str))) (fun _ => rfl)
theorem oki_BadText {f : Addr} {fd : FuncData} (B : BaseM P w K mg base "PailError") (F : Fun K "__init__" "BadText.__init__" sti_BadText f fd) : FnOk P w K mg base (L2.CX P w) 2 f fd ["self"] (spI1 K "bad text") :=
  ini1M B F sci_BadText (fun cdv A outer s H E C f0 fd0 m rd cv kp bs F0 hr => pss_cons (ps_expr (pe_off rfl m rd cv F0 kp hr bs passL (pa_cons (pv 0) pa_nil))) (pss_one (ps_ost (pv 0) pe_str))) (fun _ => rfl)
theorem sc__law_word : FnScope ["_law_asked", "e"] ["_law_asked"] (defScope st__law_word) := ⟨rfl, rfl, rfl, by decide +kernel, rfl, by decide +kernel, by decide +kernel⟩
theorem bi__law_word : BindOk "_law_word" st__law_word ["_law_asked"] := fun _ _ _ _ _ _ us hl => match us, hl with | [_], _ => rfl
theorem wo__law_word (B : BaseM P w K mg base "PailError") (D : DefM K mg "_law_word" st__law_word) (hC : ∀ Bd, PySem.W.nsIn K mainGlobals "PailError" = some (some (.ref Bd)) → PySem.W.isClsIn K Bd = true → OexC K Bd → AllC K Bd g ws_) : WordOk K mg g "_law_word" "_law_asked" ws_ st__law_word :=
  WordOk.mk' B D bi__law_word sc__law_word (Or.inl rfl) hC fun Bd X f cdv q m => word_gives rfl m (by decide) (by decide) rfl rfl (by decide) (by decide) (fun _ => rfl)
theorem sc_deed_text : FnScope ["deed", "words", "count", "toil", "part"] ["deed"] (defScope st_deed_text) := ⟨rfl, rfl, rfl, by decide +kernel, rfl, by decide +kernel, by decide +kernel⟩
noncomputable def b_deed_text : IS :=
    sSeq (sIf (iB (iBin oNe (iBin oIx (iV 0) (iC (.int 0))) (iC (.str (Str.ofString "lay"))))) (sRet (iMeth "str" mJoin (iC (.str (Str.ofString " "))) (aCons (iLc (sqSeq (iV 0)) (gN 4) (tYesJ) (iCallF bStr (aCons (iV 4) (aNil))) [4]) (aNil)))) (sSkip))
    (sSeq (sAsg (iLst (aCons (iC (.str (Str.ofString "lay"))) (aNil))) (gN 1))
    (sSeq (sFor (sqSeq (iBin oIx (iV 0) (iC (.int 1)))) (gTu [gN 2, gN 3]) (sDrop (iMeth "list" mExtend (iV 1) (aCons (iLst (aCons (iCallF bStr (aCons (iV 2) (aNil))) (aCons (iCallF bStr (aCons (iV 3) (aNil))) (aNil)))) (aNil)))))
    (sRet (iMeth "str" mJoin (iC (.str (Str.ofString " "))) (aCons (iV 1) (aNil))))))
noncomputable def f_deed_text : List D → Sto → R D := runF 5 b_deed_text
theorem bi_deed_text : BindOk "deed_text" st_deed_text ["deed"] := fun _ _ _ _ _ _ us hl => match us, hl with | [_], _ => rfl
theorem ok_deed_text (F : DefM K mg "deed_text" st_deed_text) (z_str : mg "str" = none) : FnI P w K mg base g "deed_text" 1 1 f_deed_text :=
  fnI_of F sc_deed_text bi_deed_text fun f_ cdv A outer s H E at_ =>
      (rss_cons (rs_if (rt_cmp (op_neD at_.room.units) oi_ne (re_ixP (hu_of at_.room) (re_var 0) re_int) re_str (nomark _)) (rss_one (rs_ret (re_m (T' := Str.empty) PySem.F.plainAttrs_str PySem.F.slot_str_join PySem.F.type_str_join mt_join mi_join tyStr re_str (ra_cons (re_lc (own := [("part", 4)]) rfl sc_deed_text.nd (ri_seq (re_var 0)) (blkOk_by (own := [("part", 4)]) (by show blkC ["deed", "words", "count", "toil", "part"] (defScope st_deed_text) _ _ = true; decide +kernel)) (fun _ _ _ _ _ => (rg_n 4 sc_deed_text.nd)) (fun _ _ _ _ _ => rts_nil) (fun _ _ _ _ _ => (re_bT call_strJ ci_str rfl z_str bb_str (ra_cons (re_var 4) ra_nil)))) ra_nil)))) rss_nil)
      (rss_cons (rs_asg (re_lst (ra_cons re_str ra_nil)) (rg_n 1 sc_deed_text.nd))
      (rss_cons (rs_for at_.own rfl (ri_seq (re_ixP (hu_of at_.room) (re_var 0) re_int)) (rg_tu rfl (rgs_cons (rg_n 2 sc_deed_text.nd) (rgs_cons (rg_n 3 sc_deed_text.nd) rgs_nil))) (rss_one (rs_expr (re_m (T' := Str.empty) PySem.F.plainAttrs_list PySem.F.slot_list_extend PySem.F.type_list_extend mt_extend mi_extend tyList (re_var 1) (ra_cons (re_lst (ra_cons (re_bT call_strJ ci_str rfl z_str bb_str (ra_cons (re_var 2) ra_nil)) (ra_cons (re_bT call_strJ ci_str rfl z_str bb_str (ra_cons (re_var 3) ra_nil)) ra_nil))) ra_nil)))))
      (rss_one (rs_ret (re_m (T' := Str.empty) PySem.F.plainAttrs_str PySem.F.slot_str_join PySem.F.type_str_join mt_join mi_join tyStr re_str (ra_cons (re_var 1) ra_nil)))))))
theorem sc_number_in : FnScope ["word", "figures", "sign"] ["word"] (defScope st_number_in) := ⟨rfl, rfl, rfl, by decide +kernel, rfl, by decide +kernel, by decide +kernel⟩
noncomputable def b_number_in : IS :=
    sSeq (sAsg (iV 0) (gN 1))
    (sSeq (sIf (iB (iBin oEq (iSl (iV 0) (pNo) (pSo (iC (.int 1)))) (iC (.str (Str.ofString "-"))))) (sAsg (iSl (iV 0) (pSo (iC (.int 1))) (pNo)) (gN 1)) (sSkip))
    (sSeq (sIf (jOr (jNot (jChain oLe oLe (iC (.int 1)) (iCallF bLen (aCons (iV 1) (aNil))) (iC (.int 9)))) (jNot (iTru (iCallF bAll (aCons (iLc (sqSeq (iV 1)) (gN 2) (tYesJ) (iBin oIn (iV 2) (iC (.str (Str.ofString "0123456789")))) [2]) (aNil)))))) (sRaise "BadText") (sSkip))
    (sSeq (sIf (jAnd (iB (iBin oEq (iBin oIx (iV 1) (iC (.int 0))) (iC (.str (Str.ofString "0"))))) (iB (iBin oNe (iV 0) (iC (.str (Str.ofString "0")))))) (sRaise "BadText") (sSkip))
    (sRet (iCallF bIntS (aCons (iV 0) (aNil)))))))
noncomputable def f_number_in : List D → Sto → R D := runF 3 b_number_in
theorem bi_number_in : BindOk "number_in" st_number_in ["word"] := fun _ _ _ _ _ _ us hl => match us, hl with | [_], _ => rfl
theorem ok_number_in (F : DefM K mg "number_in" st_number_in) (z_all : mg "all" = none) (z_int : mg "int" = none) (z_len : mg "len" = none) (x_BadText : ExOk P w K mg base g "BadText" "bad text" 2) : FnI P w K mg base g "number_in" 4 1 f_number_in :=
  fnI_of F sc_number_in bi_number_in fun f_ cdv A outer s H E at_ =>
      (rss_cons (rs_asg (re_var 0) (rg_n 1 sc_number_in.nd))
      (rss_cons (rs_if (rt_cmp (op_eqD at_.room.units) oi_eq (re_sl (re_var 0) ro_no (ro_so re_int)) re_str (nomark _)) (rss_one (rs_asg (re_sl (re_var 0) (ro_so re_int) ro_no) (rg_n 1 sc_number_in.nd))) rss_nil)
      (rss_cons (rs_if (rt_w (rw_or (rt_not (rt_chain op_le oi_le op_le oi_le re_int (re_b call_lenJ ci_len rfl z_len bb_len (ra_cons (re_var 1) ra_nil)) re_int)) (rw_or1 (rt_not (rt_tru (re_b (cr_all rfl) ci_all rfl z_all bb_all (ra_cons (re_lc (own := [("sign", 2)]) rfl sc_number_in.nd (ri_seq (re_var 1)) (blkOk_by (own := [("sign", 2)]) (by show blkC ["word", "figures", "sign"] (defScope st_number_in) _ _ = true; decide +kernel)) (fun _ _ _ _ _ => (rg_n 2 sc_number_in.nd)) (fun _ _ _ _ _ => rts_nil) (fun _ _ _ _ _ => (re_cmp op_inJ oi_in (re_var 2) re_str (by rfl)))) ra_nil))))))) (rss_one (rs_raise x_BadText at_ (by decide) rfl)) rss_nil)
      (rss_cons (rs_if (rt_w (rw_and (rt_cmp (op_eqD at_.room.units) oi_eq (re_ixP (hu_of at_.room) (re_var 1) re_int) re_str (nomark _)) (rw_and1 (rt_cmp (op_neD at_.room.units) oi_ne (re_var 0) re_str (nomark _))))) (rss_one (rs_raise x_BadText at_ (by decide) rfl)) rss_nil)
      (rss_one (rs_ret (re_bT call_int_str ci_intS rfl z_int bb_int (ra_cons (re_var 0) ra_nil))))))))
theorem sc_name_in : FnScope ["word", "sign"] ["word"] (defScope st_name_in) := ⟨rfl, rfl, rfl, by decide +kernel, rfl, by decide +kernel, by decide +kernel⟩
noncomputable def b_name_in : IS :=
    sSeq (sIf (jOr (jNot (jChain oLe oLe (iC (.int 1)) (iCallF bLen (aCons (iV 0) (aNil))) (iC (.int 8)))) (jNot (iTru (iCallF bAll (aCons (iLc (sqSeq (iV 0)) (gN 1) (tYesJ) (iBin oIn (iV 1) (iC (.str (Str.ofString "abcdefghijklmnopqrstuvwxyz")))) [1]) (aNil)))))) (sRaise "BadText") (sSkip))
    (sRet (iV 0))
noncomputable def f_name_in : List D → Sto → R D := runF 2 b_name_in
theorem bi_name_in : BindOk "name_in" st_name_in ["word"] := fun _ _ _ _ _ _ us hl => match us, hl with | [_], _ => rfl
theorem ok_name_in (F : DefM K mg "name_in" st_name_in) (z_all : mg "all" = none) (z_len : mg "len" = none) (c_LETTERS : GC K mg "LETTERS" (.str (Str.ofString "abcdefghijklmnopqrstuvwxyz"))) (x_BadText : ExOk P w K mg base g "BadText" "bad text" 2) : FnI P w K mg base g "name_in" 4 1 f_name_in :=
  fnI_of F sc_name_in bi_name_in fun f_ cdv A outer s H E at_ =>
      (rss_cons (rs_if (rt_w (rw_or (rt_not (rt_chain op_le oi_le op_le oi_le re_int (re_b call_lenJ ci_len rfl z_len bb_len (ra_cons (re_var 0) ra_nil)) re_int)) (rw_or1 (rt_not (rt_tru (re_b (cr_all rfl) ci_all rfl z_all bb_all (ra_cons (re_lc (own := [("sign", 1)]) rfl sc_name_in.nd (ri_seq (re_var 0)) (blkOk_by (own := [("sign", 1)]) (by show blkC ["word", "sign"] (defScope st_name_in) _ _ = true; decide +kernel)) (fun _ _ _ _ _ => (rg_n 1 sc_name_in.nd)) (fun _ _ _ _ _ => rts_nil) (fun _ _ _ _ _ => (re_cmp op_inJ oi_in (re_var 1) (re_gc rfl c_LETTERS) (by rfl)))) ra_nil))))))) (rss_one (rs_raise x_BadText at_ (by decide) rfl)) rss_nil)
      (rss_one (rs_ret (re_var 0))))
theorem sc_way_in : FnScope ["words", "numbers", "word", "at"] ["words"] (defScope st_way_in) := ⟨rfl, rfl, rfl, by decide +kernel, rfl, by decide +kernel, by decide +kernel⟩
noncomputable def b_way_in : IS :=
    sSeq (sIf (jOr (iB (iBin oEq (iCallF bLen (aCons (iV 0) (aNil))) (iC (.int 0)))) (iB (iBin oNe (iBin oMul (iBin oDiv (iCallF bLen (aCons (iV 0) (aNil))) (iC (.int 2))) (iC (.int 2))) (iCallF bLen (aCons (iV 0) (aNil)))))) (sRaise "BadText") (sSkip))
    (sSeq (sAsg (iLcX (sqSeq (iV 0)) (gN 2) (tYesJ) (iCallF f_number_in (aCons (iV 2) (aNil))) [2]) (gN 1))
    (sRet (iCallF bTuple (aCons (iLc (sqR2s (iC (.int 0)) (iCallF bLen (aCons (iV 1) (aNil)))) (gN 3) (tYesJ) (iTup (aCons (iBin oIx (iV 1) (iV 3)) (aCons (iBin oIx (iV 1) (iBin oAdd (iV 3) (iC (.int 1)))) (aNil)))) [3]) (aNil)))))
noncomputable def f_way_in : List D → Sto → R D := runF 4 b_way_in
theorem bi_way_in : BindOk "way_in" st_way_in ["words"] := fun _ _ _ _ _ _ us hl => match us, hl with | [_], _ => rfl
theorem ok_way_in (F : DefM K mg "way_in" st_way_in) (h_number_in : FnI P w K mg base g "number_in" 4 1 f_number_in) (z_len : mg "len" = none) (z_range : mg "range" = none) (z_tuple : mg "tuple" = none) (x_BadText : ExOk P w K mg base g "BadText" "bad text" 2) : FnI P w K mg base g "way_in" 5 1 f_way_in :=
  fnI_of F sc_way_in bi_way_in fun f_ cdv A outer s H E at_ =>
      (rss_cons (rs_if (rt_w (rw_or (rt_cmp (op_eqD at_.room.units) oi_eq (re_b call_lenJ ci_len rfl z_len bb_len (ra_cons (re_var 0) ra_nil)) re_int (nomark _)) (rw_or1 (rt_cmp (op_neD at_.room.units) oi_ne (re_op op_mulJ oi_mul (re_op op_fdivJ oi_div (re_b call_lenJ ci_len rfl z_len bb_len (ra_cons (re_var 0) ra_nil)) re_int) re_int) (re_b call_lenJ ci_len rfl z_len bb_len (ra_cons (re_var 0) ra_nil)) (nomark _))))) (rss_one (rs_raise x_BadText at_ (by decide) rfl)) rss_nil)
      (rss_cons (rs_asg (re_lcX (own := [("word", 2)]) at_ rfl rfl sc_way_in.nd (ri_seq (re_var 0)) (blkOk_by (own := [("word", 2)]) (by show blkC ["words", "numbers", "word", "at"] (defScope st_way_in) _ _ = true; decide +kernel)) (fun _ _ _ _ _ => (rg_n 2 sc_way_in.nd)) (fun _ _ _ _ _ => rts_nil) (fun _ _ _ _ _ pb_ => (re_callP h_number_in (at_.room.mono (by decide)) pb_ rfl (ra_cons (re_var 2) ra_nil) (hl := (aCons_len aNil_len))))) (rg_n 1 sc_way_in.nd))
      (rss_one (rs_ret (re_bT call_tuple_of ci_tuple rfl z_tuple bb_tuple (ra_cons (re_lc (own := [("at", 3)]) rfl sc_way_in.nd (ri_r2s rfl z_range re_int (re_b call_lenJ ci_len rfl z_len bb_len (ra_cons (re_var 1) ra_nil))) (blkOk_by (own := [("at", 3)]) (by show blkC ["words", "numbers", "word", "at"] (defScope st_way_in) _ _ = true; decide +kernel)) (fun _ _ _ _ _ => (rg_n 3 sc_way_in.nd)) (fun _ _ _ _ _ => rts_nil) (fun _ _ _ _ _ => (re_tup (ra_cons (re_ixP (hu_of at_.room) (re_var 1) (re_var 3)) (ra_cons (re_ixP (hu_of at_.room) (re_var 1) (re_op op_addJ oi_add (re_var 3) re_int)) ra_nil))))) ra_nil))))))
theorem sc_read_deed : FnScope ["text", "words", "form", "found", "word", "kind"] ["text"] (defScope st_read_deed) := ⟨rfl, rfl, rfl, by decide +kernel, rfl, by decide +kernel, by decide +kernel⟩
noncomputable def b_read_deed : IS :=
    sSeq (sAsg (iMeth "str" mSplit (iV 0) (aCons (iC (.str (Str.ofString " "))) (aNil))) (gN 1))
    (sSeq (sIf (iB (iBin oEq (iBin oIx (iV 1) (iC (.int 0))) (iC (.str (Str.ofString "lay"))))) (sRet (iTup (aCons (iC (.str (Str.ofString "lay"))) (aCons (iCallF f_way_in (aCons (iSl (iV 1) (pSo (iC (.int 1))) (pNo)) (aNil))) (aNil))))) (sSkip))
    (sSeq (sIf (iB (iInT tb_FORMS (iBin oIx (iV 1) (iC (.int 0))))) (sRaise "BadText") (sSkip))
    (sSeq (sAsg (iItT tb_FORMS (iBin oIx (iV 1) (iC (.int 0)))) (gN 2))
    (sSeq (sIf (iB (iBin oNe (iCallF bLen (aCons (iV 1) (aNil))) (iBin oAdd (iCallF bLen (aCons (iV 2) (aNil))) (iC (.int 1))))) (sRaise "BadText") (sSkip))
    (sSeq (sAsg (iLst (aCons (iBin oIx (iV 1) (iC (.int 0))) (aNil))) (gN 3))
    (sSeq (sFor (sqZlt (iSl (iV 1) (pSo (iC (.int 1))) (pNo)) (iV 2)) (gTu [gN 4, gN 5]) (sDrop (iMeth "list" mAppend (iV 3) (aCons (iIf (iB (iBin oEq (iV 5) (iC (.str (Str.ofString "number"))))) (iCallF f_number_in (aCons (iV 4) (aNil))) (iCallF f_name_in (aCons (iV 4) (aNil)))) (aNil)))))
    (sRet (iCallF bTuple (aCons (iV 3) (aNil))))))))))
noncomputable def f_read_deed : List D → Sto → R D := runF 6 b_read_deed
theorem bi_read_deed : BindOk "read_deed" st_read_deed ["text"] := fun _ _ _ _ _ _ us hl => match us, hl with | [_], _ => rfl
theorem ok_read_deed (F : DefM K mg "read_deed" st_read_deed) (h_name_in : FnI P w K mg base g "name_in" 4 1 f_name_in) (h_number_in : FnI P w K mg base g "number_in" 4 1 f_number_in) (h_way_in : FnI P w K mg base g "way_in" 5 1 f_way_in) (z_len : mg "len" = none) (z_tuple : mg "tuple" = none) (z_zip : mg "zip" = none) (t_FORMS : TabM K mg w "FORMS" tb_FORMS) (x_BadText : ExOk P w K mg base g "BadText" "bad text" 2) : FnI P w K mg base g "read_deed" 6 1 f_read_deed :=
  fnI_of F sc_read_deed bi_read_deed fun f_ cdv A outer s H E at_ =>
      (rss_cons (rs_asg (re_m (T' := Str.empty) PySem.F.plainAttrs_str PySem.F.slot_str_split PySem.F.type_str_split mt_split mi_split tyStr (re_var 0) (ra_cons re_str ra_nil)) (rg_n 1 sc_read_deed.nd))
      (rss_cons (rs_if (rt_cmp (op_eqD at_.room.units) oi_eq (re_ixP (hu_of at_.room) (re_var 1) re_int) re_str (nomark _)) (rss_one (rs_ret (re_tup (ra_cons re_str (ra_cons (re_callP h_way_in (at_.room.mono (by decide)) at_.pass rfl (ra_cons (re_sl (re_var 1) (ro_so re_int) ro_no) ra_nil) (hl := (aCons_len aNil_len))) ra_nil))))) rss_nil)
      (rss_cons (rs_if (rt_notInT t_FORMS rfl (re_ixP (hu_of at_.room) (re_var 1) re_int)) (rss_one (rs_raise x_BadText at_ (by decide) rfl)) rss_nil)
      (rss_cons (rs_asg (re_itT t_FORMS rfl (re_ixP (hu_of at_.room) (re_var 1) re_int)) (rg_n 2 sc_read_deed.nd))
      (rss_cons (rs_if (rt_cmp (op_neD at_.room.units) oi_ne (re_b call_lenJ ci_len rfl z_len bb_len (ra_cons (re_var 1) ra_nil)) (re_op op_addJ oi_add (re_b call_lenJ ci_len rfl z_len bb_len (ra_cons (re_var 2) ra_nil)) re_int) (nomark _)) (rss_one (rs_raise x_BadText at_ (by decide) rfl)) rss_nil)
      (rss_cons (rs_asg (re_lst (ra_cons (re_ixP (hu_of at_.room) (re_var 1) re_int) ra_nil)) (rg_n 3 sc_read_deed.nd))
      (rss_cons (rs_for at_.own rfl (ri_zlt rfl z_zip (re_sl (re_var 1) (ro_so re_int) ro_no) (re_var 2)) (rg_tu rfl (rgs_cons (rg_n 4 sc_read_deed.nd) (rgs_cons (rg_n 5 sc_read_deed.nd) rgs_nil))) (rss_one (rs_expr (re_m (T' := Str.empty) PySem.F.plainAttrs_list PySem.F.slot_list_append PySem.F.type_list_append mt_append mi_append tyList (re_var 3) (ra_cons (re_if (rt_cmp (op_eqD at_.room.units) oi_eq (re_var 5) re_str (nomark _)) (re_callP h_number_in (at_.room.mono (by decide)) at_.pass rfl (ra_cons (re_var 4) ra_nil) (hl := (aCons_len aNil_len))) (re_callP h_name_in (at_.room.mono (by decide)) at_.pass rfl (ra_cons (re_var 4) ra_nil) (hl := (aCons_len aNil_len)))) ra_nil)))))
      (rss_one (rs_ret (re_bT call_tuple_of ci_tuple rfl z_tuple bb_tuple (ra_cons (re_var 3) ra_nil)))))))))))
theorem sc__law_cell : FnScope ["_law_script", "_law_k"] ["_law_script", "_law_k"] (defScope st__law_cell) := ⟨rfl, rfl, rfl, by decide +kernel, rfl, by decide +kernel, by decide +kernel⟩
noncomputable def b__law_cell : IS :=
    sSeq (sIf (iB (iBin oLt (iV 1) (iCallF bLen (aCons (iV 0) (aNil))))) (sRet (iBin oIx (iV 0) (iV 1))) (sSkip))
    (sRet (iBin oAdd (iBin oAdd (iBin oMul (iBin oMod (iCallF bSum (aCons (iV 0) (aNil))) (iC (.int 1000003))) (iC (.int 131))) (iBin oMul (iCallF bLen (aCons (iV 0) (aNil))) (iC (.int 7919)))) (iBin oMul (iV 1) (iC (.int 104729)))))
noncomputable def f__law_cell : List D → Sto → R D := runF 2 b__law_cell
theorem bi__law_cell : BindOk "_law_cell" st__law_cell ["_law_script", "_law_k"] := fun _ _ _ _ _ _ us hl => match us, hl with | [_, _], _ => rfl
theorem ok__law_cell (F : DefM K mg "_law_cell" st__law_cell) (z_len : mg "len" = none) (z_sum : mg "sum" = none) : FnI P w K mg base g "_law_cell" 1 2 f__law_cell :=
  fnI_of F sc__law_cell bi__law_cell fun f_ cdv A outer s H E at_ =>
      (rss_cons (rs_if (rt_cmp op_lt oi_lt (re_var 1) (re_b call_lenJ ci_len rfl z_len bb_len (ra_cons (re_var 0) ra_nil)) (nomark _)) (rss_one (rs_ret (re_ixP (hu_of at_.room) (re_var 0) (re_var 1)))) rss_nil)
      (rss_one (rs_ret (re_op op_addJ oi_add (re_op op_addJ oi_add (re_op op_mulJ oi_mul (re_op op_mod oi_mod (re_b (cr_sum rfl) ci_sum rfl z_sum bb_sum (ra_cons (re_var 0) ra_nil)) re_int) re_int) (re_op op_mulJ oi_mul (re_b call_lenJ ci_len rfl z_len bb_len (ra_cons (re_var 0) ra_nil)) re_int)) (re_op op_mulJ oi_mul (re_var 1) re_int)))))
theorem sc__law_draws : FnScope ["_law_cell_here", "_law_parts", "_law_found", "_law_part", "_law_one", "_law_two", "_law_six"] ["_law_cell_here", "_law_parts"] (defScope st__law_draws) := ⟨rfl, rfl, rfl, by decide +kernel, rfl, by decide +kernel, by decide +kernel⟩
noncomputable def b__law_draws : IS :=
    sSeq (sIf (iB (iBin oLt (iV 0) (iBin oPow (iC (.int 10)) (iC (.int 18))))) (sSeq (sAsg (iBin oMod (iBin oAdd (iBin oMul (iV 0) (iC (.int 48271))) (iC (.int 11))) (iC (.int 2147483647))) (gN 4))
    (sSeq (sAsg (iBin oMod (iBin oAdd (iBin oAdd (iBin oMul (iV 4) (iV 4)) (iBin oMul (iC (.int 40692)) (iV 4))) (iV 0)) (iC (.int 2147483399))) (gN 5))
    (sSeq (sAsg (iBin oMod (iBin oAdd (iBin oMul (iV 5) (iC (.int 69621))) (iV 4)) (iC (.int 1000000007))) (gN 6))
    (sAsg (iBin oAdd (iV 5) (iBin oMul (iC (.int 2147483399)) (iBin oAdd (iV 6) (iBin oMul (iC (.int 1000000007)) (iV 4))))) (gN 0))))) (sAsg (iBin oSub (iV 0) (iBin oPow (iC (.int 10)) (iC (.int 18)))) (gN 0)))
    (sSeq (sAsg (iLst (aNil)) (gN 2))
    (sSeq (sFor (sqSeq (iV 1)) (gN 3) (sSeq (sDrop (iMeth "list" mAppend (iV 2) (aCons (iBin oMod (iV 0) (iV 3)) (aNil))))
    (sAsg (iBin oDiv (iV 0) (iV 3)) (gN 0))))
    (sRet (iV 2))))
noncomputable def f__law_draws : List D → Sto → R D := runF 7 b__law_draws
theorem bi__law_draws : BindOk "_law_draws" st__law_draws ["_law_cell_here", "_law_parts"] := fun _ _ _ _ _ _ us hl => match us, hl with | [_, _], _ => rfl
theorem ok__law_draws (F : DefM K mg "_law_draws" st__law_draws) : FnI P w K mg base g "_law_draws" 1 2 f__law_draws :=
  fnI_of F sc__law_draws bi__law_draws fun f_ cdv A outer s H E at_ =>
      (rss_cons (rs_if (rt_cmp op_lt oi_lt (re_var 0) (re_op op_pow oi_pow re_int re_int) (nomark _)) (rss_cons (rs_asg (re_op op_mod oi_mod (re_op op_addJ oi_add (re_op op_mulJ oi_mul (re_var 0) re_int) re_int) re_int) (rg_n 4 sc__law_draws.nd))
      (rss_cons (rs_asg (re_op op_mod oi_mod (re_op op_addJ oi_add (re_op op_addJ oi_add (re_op op_mulJ oi_mul (re_var 4) (re_var 4)) (re_op op_mulJ oi_mul re_int (re_var 4))) (re_var 0)) re_int) (rg_n 5 sc__law_draws.nd))
      (rss_cons (rs_asg (re_op op_mod oi_mod (re_op op_addJ oi_add (re_op op_mulJ oi_mul (re_var 5) re_int) (re_var 4)) re_int) (rg_n 6 sc__law_draws.nd))
      (rss_one (rs_asg (re_op op_addJ oi_add (re_var 5) (re_op op_mulJ oi_mul re_int (re_op op_addJ oi_add (re_var 6) (re_op op_mulJ oi_mul re_int (re_var 4))))) (rg_n 0 sc__law_draws.nd)))))) (rss_one (rs_asg (re_op op_sub oi_sub (re_var 0) (re_op op_pow oi_pow re_int re_int)) (rg_n 0 sc__law_draws.nd))))
      (rss_cons (rs_asg (re_lst ra_nil) (rg_n 2 sc__law_draws.nd))
      (rss_cons (rs_for at_.own rfl (ri_seq (re_var 1)) (rg_n 3 sc__law_draws.nd) (rss_cons (rs_expr (re_m (T' := Str.empty) PySem.F.plainAttrs_list PySem.F.slot_list_append PySem.F.type_list_append mt_append mi_append tyList (re_var 2) (ra_cons (re_op op_mod oi_mod (re_var 0) (re_var 3)) ra_nil)))
      (rss_one (rs_asg (re_op op_fdivJ oi_div (re_var 0) (re_var 3)) (rg_n 0 sc__law_draws.nd)))))
      (rss_one (rs_ret (re_var 2))))))
theorem sc__law_split : FnScope ["_law_cell_here", "_law_many_here", "_law_found", "_law_big", "_law_k"] ["_law_cell_here", "_law_many_here"] (defScope st__law_split) := ⟨rfl, rfl, rfl, by decide +kernel, rfl, by decide +kernel, by decide +kernel⟩
noncomputable def b__law_split : IS :=
    sSeq (sAsg (iLst (aNil)) (gN 2))
    (sSeq (sAsg (iBin oGe (iV 0) (iBin oPow (iC (.int 10)) (iC (.int 18)))) (gN 3))
    (sSeq (sFor (sqR1 (iV 1)) (gN 4) (sIf (iTru (iV 3)) (sSeq (sDrop (iMeth "list" mAppend (iV 2) (aCons (iBin oAdd (iBin oPow (iC (.int 10)) (iC (.int 18))) (iBin oMod (iV 0) (iBin oPow (iC (.int 10)) (iC (.int 30))))) (aNil))))
    (sAsg (iBin oDiv (iV 0) (iBin oPow (iC (.int 10)) (iC (.int 30)))) (gN 0))) (sDrop (iMeth "list" mAppend (iV 2) (aCons (iBin oAdd (iBin oMul (iV 0) (iBin oAdd (iBin oMul (iC (.int 2)) (iV 4)) (iC (.int 3)))) (iBin oMul (iC (.int 7919)) (iV 4))) (aNil))))))
    (sRet (iV 2))))
noncomputable def f__law_split : List D → Sto → R D := runF 5 b__law_split
theorem bi__law_split : BindOk "_law_split" st__law_split ["_law_cell_here", "_law_many_here"] := fun _ _ _ _ _ _ us hl => match us, hl with | [_, _], _ => rfl
theorem ok__law_split (F : DefM K mg "_law_split" st__law_split) (z_range : mg "range" = none) : FnI P w K mg base g "_law_split" 1 2 f__law_split :=
  fnI_of F sc__law_split bi__law_split fun f_ cdv A outer s H E at_ =>
      (rss_cons (rs_asg (re_lst ra_nil) (rg_n 2 sc__law_split.nd))
      (rss_cons (rs_asg (re_cmp op_ge oi_ge (re_var 0) (re_op op_pow oi_pow re_int re_int) (nomark _)) (rg_n 3 sc__law_split.nd))
      (rss_cons (rs_for at_.own rfl (ri_r1 rfl z_range (re_var 1)) (rg_n 4 sc__law_split.nd) (rss_one (rs_if (rt_tru (re_var 3)) (rss_cons (rs_expr (re_m (T' := Str.empty) PySem.F.plainAttrs_list PySem.F.slot_list_append PySem.F.type_list_append mt_append mi_append tyList (re_var 2) (ra_cons (re_op op_addJ oi_add (re_op op_pow oi_pow re_int re_int) (re_op op_mod oi_mod (re_var 0) (re_op op_pow oi_pow re_int re_int))) ra_nil)))
      (rss_one (rs_asg (re_op op_fdivJ oi_div (re_var 0) (re_op op_pow oi_pow re_int re_int)) (rg_n 0 sc__law_split.nd)))) (rss_one (rs_expr (re_m (T' := Str.empty) PySem.F.plainAttrs_list PySem.F.slot_list_append PySem.F.type_list_append mt_append mi_append tyList (re_var 2) (ra_cons (re_op op_addJ oi_add (re_op op_mulJ oi_mul (re_var 0) (re_op op_addJ oi_add (re_op op_mulJ oi_mul re_int (re_var 4)) re_int)) (re_op op_mulJ oi_mul re_int (re_var 4))) ra_nil)))))))
      (rss_one (rs_ret (re_var 2))))))
theorem sc__law_many : FnScope ["_law_script", "_law_few"] ["_law_script", "_law_few"] (defScope st__law_many) := ⟨rfl, rfl, rfl, by decide +kernel, rfl, by decide +kernel, by decide +kernel⟩
noncomputable def b__law_many : IS :=
    sRet (iCallF bMax (aCons (iV 1) (aCons (iCallF bMin (aCons (iCallF bLen (aCons (iV 0) (aNil))) (aCons (iC (.int 63)) (aNil)))) (aNil))))
noncomputable def f__law_many : List D → Sto → R D := runF 2 b__law_many
theorem bi__law_many : BindOk "_law_many" st__law_many ["_law_script", "_law_few"] := fun _ _ _ _ _ _ us hl => match us, hl with | [_, _], _ => rfl
theorem ok__law_many (F : DefM K mg "_law_many" st__law_many) (z_len : mg "len" = none) (z_max : mg "max" = none) (z_min : mg "min" = none) : FnI P w K mg base g "_law_many" 1 2 f__law_many :=
  fnI_of F sc__law_many bi__law_many fun f_ cdv A outer s H E at_ =>
      (rss_one (rs_ret (re_b (call_max2 rfl) ci_max2 rfl z_max bb_max (ra_cons (re_var 1) (ra_cons (re_b (call_min2 rfl) ci_min2 rfl z_min bb_min (ra_cons (re_b call_lenJ ci_len rfl z_len bb_len (ra_cons (re_var 0) ra_nil)) (ra_cons re_int ra_nil))) ra_nil)))))
theorem sc__law_same : FnScope ["_law_found", "_law_due", "_law_k"] ["_law_found", "_law_due"] (defScope st__law_same) := ⟨rfl, rfl, rfl, by decide +kernel, rfl, by decide +kernel, by decide +kernel⟩
noncomputable def b__law_same (F_rec : List D → Sto → R D) : IS :=
    sSeq (sIf (iB (iBin oIs (iV 1) (iC .non))) (sRet (iBin oIs (iV 0) (iC .non))) (sSkip))
    (sSeq (sIf (jOr (iTru (iCallF bIsi (aCons (iV 1) (aCons (iC (.ty "bool")) (aNil))))) (iTru (iCallF bIsi (aCons (iV 0) (aCons (iC (.ty "bool")) (aNil)))))) (sRet (iAnd (iCallF bIsi (aCons (iV 1) (aCons (iC (.ty "bool")) (aNil)))) (iAnd (iCallF bIsi (aCons (iV 0) (aCons (iC (.ty "bool")) (aNil)))) (iBin oEq (iV 0) (iV 1))))) (sSkip))
    (sSeq (sIf (iTru (iCallF bIsi (aCons (iV 1) (aCons (iC (.ty "int")) (aNil))))) (sRet (iAnd (iCallF bIsi (aCons (iV 0) (aCons (iC (.ty "int")) (aNil)))) (iBin oEq (iV 0) (iV 1)))) (sSkip))
    (sSeq (sIf (iTru (iCallF bIsi (aCons (iV 1) (aCons (iC (.ty "str")) (aNil))))) (sRet (iAnd (iCallF bIsi (aCons (iV 0) (aCons (iC (.ty "str")) (aNil)))) (iBin oEq (iV 0) (iV 1)))) (sSkip))
    (sSeq (sIf (jOr (iB (iBin oNe (iCallF bIsi (aCons (iV 1) (aCons (iC (.ty "tuple")) (aNil)))) (iCallF bIsi (aCons (iV 0) (aCons (iC (.ty "tuple")) (aNil)))))) (iB (iBin oNe (iCallF bIsi (aCons (iV 1) (aCons (iC (.ty "list")) (aNil)))) (iCallF bIsi (aCons (iV 0) (aCons (iC (.ty "list")) (aNil))))))) (sRet (iC (.bl false))) (sSkip))
    (sRet (iAnd (iBin oEq (iCallF bLen (aCons (iV 0) (aNil))) (iCallF bLen (aCons (iV 1) (aNil)))) (iCallF bAll (aCons (iLc (sqR1 (iCallF bLen (aCons (iV 1) (aNil)))) (gN 2) (tYesJ) (iCallF F_rec (aCons (iBin oIx (iV 0) (iV 2)) (aCons (iBin oIx (iV 1) (iV 2)) (aNil)))) [2]) (aNil)))))))))
noncomputable def f__law_same : Nat → List D → Sto → R D
  | 0 => runF 3 sNever
  | n + 1 => runF 3 (b__law_same (f__law_same n))
theorem bi__law_same : BindOk "_law_same" st__law_same ["_law_found", "_law_due"] := fun _ _ _ _ _ _ us hl => match us, hl with | [_, _], _ => rfl
theorem ok__law_same (F : DefM K mg "_law_same" st__law_same) (z_all : mg "all" = none) (z_bool : mg "bool" = none) (z_int : mg "int" = none) (z_isinstance : mg "isinstance" = none) (z_len : mg "len" = none) (z_list : mg "list" = none) (z_range : mg "range" = none) (z_str : mg "str" = none) (z_tuple : mg "tuple" = none) : ∀ n, FnI P w K mg base g "_law_same" (n + 1) 2 (f__law_same n)
  | 0 => fnI_of F sc__law_same bi__law_same fun f_ cdv A outer s H E at_ => rss_never
  | n + 1 => by
    have h__law_same := ok__law_same F z_all z_bool z_int z_isinstance z_len z_list z_range z_str z_tuple n
    exact fnI_of F sc__law_same bi__law_same fun f_ cdv A outer s H E at_ =>
      (rss_cons (rs_if (rt_cmp op_isN oi_is (re_var 1) re_non (nomark _)) (rss_one (rs_ret (re_cmp op_isN oi_is (re_var 0) re_non (nomark _)))) rss_nil)
      (rss_cons (rs_if (rt_w (rw_or (rt_tru (re_b call_isi ci_isi rfl z_isinstance bb_isi (ra_cons (re_var 1) (ra_cons (re_tyN rfl z_bool bb_bool) ra_nil)))) (rw_or1 (rt_tru (re_b call_isi ci_isi rfl z_isinstance bb_isi (ra_cons (re_var 0) (ra_cons (re_tyN rfl z_bool bb_bool) ra_nil))))))) (rss_one (rs_ret (re_and (re_b call_isi ci_isi rfl z_isinstance bb_isi (ra_cons (re_var 1) (ra_cons (re_tyN rfl z_bool bb_bool) ra_nil))) (re_and (re_b call_isi ci_isi rfl z_isinstance bb_isi (ra_cons (re_var 0) (ra_cons (re_tyN rfl z_bool bb_bool) ra_nil))) (re_one (re_cmp (op_eqD at_.room.units) oi_eq (re_var 0) (re_var 1) (nomark _))))))) rss_nil)
      (rss_cons (rs_if (rt_tru (re_b call_isi ci_isi rfl z_isinstance bb_isi (ra_cons (re_var 1) (ra_cons (re_tyN rfl z_int bb_int) ra_nil)))) (rss_one (rs_ret (re_and (re_b call_isi ci_isi rfl z_isinstance bb_isi (ra_cons (re_var 0) (ra_cons (re_tyN rfl z_int bb_int) ra_nil))) (re_one (re_cmp (op_eqD at_.room.units) oi_eq (re_var 0) (re_var 1) (nomark _)))))) rss_nil)
      (rss_cons (rs_if (rt_tru (re_b call_isi ci_isi rfl z_isinstance bb_isi (ra_cons (re_var 1) (ra_cons (re_tyN rfl z_str bb_str) ra_nil)))) (rss_one (rs_ret (re_and (re_b call_isi ci_isi rfl z_isinstance bb_isi (ra_cons (re_var 0) (ra_cons (re_tyN rfl z_str bb_str) ra_nil))) (re_one (re_cmp (op_eqD at_.room.units) oi_eq (re_var 0) (re_var 1) (nomark _)))))) rss_nil)
      (rss_cons (rs_if (rt_w (rw_or (rt_cmp (op_neD at_.room.units) oi_ne (re_b call_isi ci_isi rfl z_isinstance bb_isi (ra_cons (re_var 1) (ra_cons (re_tyN rfl z_tuple bb_tuple) ra_nil))) (re_b call_isi ci_isi rfl z_isinstance bb_isi (ra_cons (re_var 0) (ra_cons (re_tyN rfl z_tuple bb_tuple) ra_nil))) (nomark _)) (rw_or1 (rt_cmp (op_neD at_.room.units) oi_ne (re_b call_isi ci_isi rfl z_isinstance bb_isi (ra_cons (re_var 1) (ra_cons (re_tyN rfl z_list bb_list) ra_nil))) (re_b call_isi ci_isi rfl z_isinstance bb_isi (ra_cons (re_var 0) (ra_cons (re_tyN rfl z_list bb_list) ra_nil))) (nomark _))))) (rss_one (rs_ret re_bl)) rss_nil)
      (rss_one (rs_ret (re_and (re_cmp (op_eqD at_.room.units) oi_eq (re_b call_lenJ ci_len rfl z_len bb_len (ra_cons (re_var 0) ra_nil)) (re_b call_lenJ ci_len rfl z_len bb_len (ra_cons (re_var 1) ra_nil)) (nomark _)) (re_one (re_b (cr_all rfl) ci_all rfl z_all bb_all (ra_cons (re_lc (own := [("_law_k", 2)]) rfl sc__law_same.nd (ri_r1 rfl z_range (re_b call_lenJ ci_len rfl z_len bb_len (ra_cons (re_var 1) ra_nil))) (blkOk_by (own := [("_law_k", 2)]) (by show blkC ["_law_found", "_law_due", "_law_k"] (defScope st__law_same) _ _ = true; decide +kernel)) (fun _ _ _ _ _ => (rg_n 2 sc__law_same.nd)) (fun _ _ _ _ _ => rts_nil) (fun _ _ _ _ _ => (re_callP h__law_same (at_.room.mono (by omega)) passE0 rfl (ra_cons (re_ixP (hu_of at_.room) (re_var 0) (re_var 2)) (ra_cons (re_ixP (hu_of at_.room) (re_var 1) (re_var 2)) ra_nil)) (hl := (aCons_len (aCons_len aNil_len)))))) ra_nil)))))))))))
theorem sc__law_deed_text : FnScope ["_law_deed", "_law_part", "_law_count", "_law_toil"] ["_law_deed"] (defScope st__law_deed_text) := ⟨rfl, rfl, rfl, by decide +kernel, rfl, by decide +kernel, by decide +kernel⟩
noncomputable def b__law_deed_text : IS :=
    sSeq (sIf (iB (iBin oNe (iBin oIx (iV 0) (iC (.int 0))) (iC (.str (Str.ofString "lay"))))) (sRet (iMeth "str" mJoin (iC (.str (Str.ofString " "))) (aCons (iLc (sqSeq (iV 0)) (gN 1) (tYesJ) (iCallF bStr (aCons (iV 1) (aNil))) [1]) (aNil)))) (sSkip))
    (sRet (iBin oAdd (iC (.str (Str.ofString "lay "))) (iMeth "str" mJoin (iC (.str (Str.ofString " "))) (aCons (iLc (sqSeq (iBin oIx (iV 0) (iC (.int 1)))) (gTu [gN 2, gN 3]) (tYesJ) (iBin oAdd (iBin oAdd (iCallF bStr (aCons (iV 2) (aNil))) (iC (.str (Str.ofString " ")))) (iCallF bStr (aCons (iV 3) (aNil)))) [2, 3]) (aNil)))))
noncomputable def f__law_deed_text : List D → Sto → R D := runF 4 b__law_deed_text
theorem bi__law_deed_text : BindOk "_law_deed_text" st__law_deed_text ["_law_deed"] := fun _ _ _ _ _ _ us hl => match us, hl with | [_], _ => rfl
theorem ok__law_deed_text (F : DefM K mg "_law_deed_text" st__law_deed_text) (z_str : mg "str" = none) : FnI P w K mg base g "_law_deed_text" 1 1 f__law_deed_text :=
  fnI_of F sc__law_deed_text bi__law_deed_text fun f_ cdv A outer s H E at_ =>
      (rss_cons (rs_if (rt_cmp (op_neD at_.room.units) oi_ne (re_ixP (hu_of at_.room) (re_var 0) re_int) re_str (nomark _)) (rss_one (rs_ret (re_m (T' := Str.empty) PySem.F.plainAttrs_str PySem.F.slot_str_join PySem.F.type_str_join mt_join mi_join tyStr re_str (ra_cons (re_lc (own := [("_law_part", 1)]) rfl sc__law_deed_text.nd (ri_seq (re_var 0)) (blkOk_by (own := [("_law_part", 1)]) (by show blkC ["_law_deed", "_law_part", "_law_count", "_law_toil"] (defScope st__law_deed_text) _ _ = true; decide +kernel)) (fun _ _ _ _ _ => (rg_n 1 sc__law_deed_text.nd)) (fun _ _ _ _ _ => rts_nil) (fun _ _ _ _ _ => (re_bT call_strJ ci_str rfl z_str bb_str (ra_cons (re_var 1) ra_nil)))) ra_nil)))) rss_nil)
      (rss_one (rs_ret (re_op op_addJ oi_add re_str (re_m (T' := Str.empty) PySem.F.plainAttrs_str PySem.F.slot_str_join PySem.F.type_str_join mt_join mi_join tyStr re_str (ra_cons (re_lc (own := [("_law_count", 2), ("_law_toil", 3)]) rfl sc__law_deed_text.nd (ri_seq (re_ixP (hu_of at_.room) (re_var 0) re_int)) (blkOk_by (own := [("_law_count", 2), ("_law_toil", 3)]) (by show blkC ["_law_deed", "_law_part", "_law_count", "_law_toil"] (defScope st__law_deed_text) _ _ = true; decide +kernel)) (fun _ _ _ _ _ => (rg_tu rfl (rgs_cons (rg_n 2 sc__law_deed_text.nd) (rgs_cons (rg_n 3 sc__law_deed_text.nd) rgs_nil)))) (fun _ _ _ _ _ => rts_nil) (fun _ _ _ _ _ => (re_op op_addJ oi_add (re_op op_addJ oi_add (re_bT call_strJ ci_str rfl z_str bb_str (ra_cons (re_var 2) ra_nil)) re_str) (re_bT call_strJ ci_str rfl z_str bb_str (ra_cons (re_var 3) ra_nil))))) ra_nil))))))
theorem sc__law_any_number : FnScope ["_law_drawn", "_law_kind", "_law_small", "_law_great"] ["_law_drawn"] (defScope st__law_any_number) := ⟨rfl, rfl, rfl, by decide +kernel, rfl, by decide +kernel, by decide +kernel⟩
noncomputable def b__law_any_number : IS :=
    sSeq (sAsg (iV 0) (gTu [gN 1, gN 2, gN 3]))
    (sRet (iBin oIx (iLst (aCons (iBin oMod (iV 2) (iC (.int 14))) (aCons (iV 2) (aCons (iV 3) (aCons (iUn oNeg (iV 2)) (aCons (iUn oNeg (iV 3)) (aCons (iC (.int 999999999)) (aCons (iUn oNeg (iC (.int 999999999))) (aCons (iC (.int 0)) (aNil)))))))))) (iV 1)))
noncomputable def f__law_any_number : List D → Sto → R D := runF 4 b__law_any_number
theorem bi__law_any_number : BindOk "_law_any_number" st__law_any_number ["_law_drawn"] := fun _ _ _ _ _ _ us hl => match us, hl with | [_], _ => rfl
theorem ok__law_any_number (F : DefM K mg "_law_any_number" st__law_any_number) : FnI P w K mg base g "_law_any_number" 1 1 f__law_any_number :=
  fnI_of F sc__law_any_number bi__law_any_number fun f_ cdv A outer s H E at_ =>
      (rss_cons (rs_asg (re_var 0) (rg_tu rfl (rgs_cons (rg_n 1 sc__law_any_number.nd) (rgs_cons (rg_n 2 sc__law_any_number.nd) (rgs_cons (rg_n 3 sc__law_any_number.nd) rgs_nil)))))
      (rss_one (rs_ret (re_ixP (hu_of at_.room) (re_lst (ra_cons (re_op op_mod oi_mod (re_var 2) re_int) (ra_cons (re_var 2) (ra_cons (re_var 3) (ra_cons (re_neg (re_var 2)) (ra_cons (re_neg (re_var 3)) (ra_cons re_int (ra_cons (re_neg re_int) (ra_cons re_int ra_nil))))))))) (re_var 1)))))
theorem sc__law_any_name : FnScope ["_law_cell_here", "_law_drawn", "_law_one"] ["_law_cell_here"] (defScope st__law_any_name) := ⟨rfl, rfl, rfl, by decide +kernel, rfl, by decide +kernel, by decide +kernel⟩
noncomputable def b__law_any_name : IS :=
    sSeq (sAsg (iCallF f__law_draws (aCons (iV 0) (aCons (iBin oAdd (iLst (aCons (iC (.int 8)) (aNil))) (iBin oMul (iLst (aCons (iC (.int 26)) (aNil))) (iC (.int 8)))) (aNil)))) (gN 1))
    (sRet (iMeth "str" mJoin (iC (.str (Str.ofString ""))) (aCons (iLc (sqSeq (iSl (iV 1) (pSo (iC (.int 1))) (pSo (iBin oAdd (iC (.int 2)) (iBin oIx (iV 1) (iC (.int 0))))))) (gN 2) (tYesJ) (iBin oIx (iC (.str (Str.ofString "abcdefghijklmnopqrstuvwxyz"))) (iV 2)) [2]) (aNil))))
noncomputable def f__law_any_name : List D → Sto → R D := runF 3 b__law_any_name
theorem bi__law_any_name : BindOk "_law_any_name" st__law_any_name ["_law_cell_here"] := fun _ _ _ _ _ _ us hl => match us, hl with | [_], _ => rfl
theorem ok__law_any_name (F : DefM K mg "_law_any_name" st__law_any_name) (h__law_draws : FnI P w K mg base g "_law_draws" 1 2 f__law_draws) : FnI P w K mg base g "_law_any_name" 2 1 f__law_any_name :=
  fnI_of F sc__law_any_name bi__law_any_name fun f_ cdv A outer s H E at_ =>
      (rss_cons (rs_asg (re_callP h__law_draws (at_.room.mono (by decide)) at_.pass rfl (ra_cons (re_var 0) (ra_cons (re_op op_addJ oi_add (re_lst (ra_cons re_int ra_nil)) (re_op op_mulJ oi_mul (re_lst (ra_cons re_int ra_nil)) re_int)) ra_nil)) (hl := (aCons_len (aCons_len aNil_len)))) (rg_n 1 sc__law_any_name.nd))
      (rss_one (rs_ret (re_m (T' := Str.empty) PySem.F.plainAttrs_str PySem.F.slot_str_join PySem.F.type_str_join mt_join mi_join tyStr re_str (ra_cons (re_lc (own := [("_law_one", 2)]) rfl sc__law_any_name.nd (ri_seq (re_sl (re_var 1) (ro_so re_int) (ro_so (re_op op_addJ oi_add re_int (re_ixP (hu_of at_.room) (re_var 1) re_int))))) (blkOk_by (own := [("_law_one", 2)]) (by show blkC ["_law_cell_here", "_law_drawn", "_law_one"] (defScope st__law_any_name) _ _ = true; decide +kernel)) (fun _ _ _ _ _ => (rg_n 2 sc__law_any_name.nd)) (fun _ _ _ _ _ => rts_nil) (fun _ _ _ _ _ => (re_ixP (hu_of at_.room) re_str (re_var 2)))) ra_nil)))))
theorem sc__law_any_deed : FnScope ["_law_cell_here", "_law_words", "_law_word_here", "_law_drawn", "_law_first", "_law_second", "_law_name", "_law_one", "_law_two", "_law_three", "_law_four", "_law_many_here", "_law_mixed_kind", "_law_k"] ["_law_cell_here"] (defScope st__law_any_deed) := ⟨rfl, rfl, rfl, by decide +kernel, rfl, by decide +kernel, by decide +kernel⟩
noncomputable def b__law_any_deed : IS :=
    sSeq (sAsg (iCallF f__law_split (aCons (iV 0) (aCons (iC (.int 4)) (aNil)))) (gTu [gN 7, gN 8, gN 9, gN 10]))
    (sSeq (sAsg (iLst (aCons (iC (.str (Str.ofString "hire"))) (aCons (iC (.str (Str.ofString "dismiss"))) (aCons (iC (.str (Str.ofString "send"))) (aCons (iC (.str (Str.ofString "call"))) (aCons (iC (.str (Str.ofString "stay"))) (aCons (iC (.str (Str.ofString "swap"))) (aCons (iC (.str (Str.ofString "pace"))) (aCons (iC (.str (Str.ofString "go"))) (aCons (iC (.str (Str.ofString "outs"))) (aCons (iC (.str (Str.ofString "lay"))) (aCons (iC (.str (Str.ofString "lay"))) (aNil))))))))))))) (gN 1))
    (sSeq (sAsg (iBin oIx (iV 1) (iBin oIx (iCallF f__law_draws (aCons (iV 7) (aCons (iLst (aCons (iC (.int 11)) (aNil))) (aNil)))) (iC (.int 0)))) (gN 2))
    (sSeq (sAsg (iCallF f__law_draws (aCons (iV 8) (aCons (iLst (aCons (iC (.int 8)) (aCons (iC (.int 1000)) (aCons (iBin oPow (iC (.int 10)) (iC (.int 9))) (aCons (iC (.int 8)) (aCons (iC (.int 1000)) (aCons (iBin oPow (iC (.int 10)) (iC (.int 9))) (aNil)))))))) (aNil)))) (gN 3))
    (sSeq (sAsg (iCallF f__law_any_number (aCons (iSl (iV 3) (pNo) (pSo (iC (.int 3)))) (aNil))) (gN 4))
    (sSeq (sAsg (iCallF f__law_any_number (aCons (iSl (iV 3) (pSo (iC (.int 3))) (pNo)) (aNil))) (gN 5))
    (sSeq (sAsg (iCallF f__law_any_name (aCons (iV 9) (aNil))) (gN 6))
    (sSeq (sIf (iB (iBin oEq (iV 2) (iC (.str (Str.ofString "lay"))))) (sSeq (sAsg (iCallF f__law_draws (aCons (iV 10) (aCons (iLst (aCons (iC (.int 8)) (aCons (iC (.int 8)) (aNil)))) (aNil)))) (gTu [gN 11, gN 12]))
    (sRet (iTup (aCons (iC (.str (Str.ofString "lay"))) (aCons (iCallF bTuple (aCons (iLc (sqR1 (iBin oAdd (iV 11) (iC (.int 1)))) (gN 13) (tYesJ) (iIf (iB (iBin oEq (iV 13) (iV 12))) (iTup (aCons (iV 4) (aCons (iV 5) (aNil)))) (iTup (aCons (iV 5) (aCons (iBin oAdd (iC (.int 1)) (iV 13)) (aNil))))) [13]) (aNil))) (aNil)))))) (sSkip))
    (sSeq (sIf (iB (iBin oIn (iV 2) (iLst (aCons (iC (.str (Str.ofString "go"))) (aCons (iC (.str (Str.ofString "outs"))) (aNil)))))) (sRet (iTup (aCons (iV 2) (aCons (iV 4) (aCons (iV 5) (aNil)))))) (sSkip))
    (sRet (iIf (iB (iBin oIn (iV 2) (iLst (aCons (iC (.str (Str.ofString "hire"))) (aCons (iC (.str (Str.ofString "send"))) (aCons (iC (.str (Str.ofString "pace"))) (aNil))))))) (iTup (aCons (iV 2) (aCons (iV 6) (aCons (iV 4) (aNil))))) (iTup (aCons (iV 2) (aCons (iV 6) (aNil))))))))))))))
noncomputable def f__law_any_deed : List D → Sto → R D := runF 14 b__law_any_deed
theorem bi__law_any_deed : BindOk "_law_any_deed" st__law_any_deed ["_law_cell_here"] := fun _ _ _ _ _ _ us hl => match us, hl with | [_], _ => rfl
theorem ok__law_any_deed (F : DefM K mg "_law_any_deed" st__law_any_deed) (h__law_any_name : FnI P w K mg base g "_law_any_name" 2 1 f__law_any_name) (h__law_any_number : FnI P w K mg base g "_law_any_number" 1 1 f__law_any_number) (h__law_draws : FnI P w K mg base g "_law_draws" 1 2 f__law_draws) (h__law_split : FnI P w K mg base g "_law_split" 1 2 f__law_split) (z_range : mg "range" = none) (z_tuple : mg "tuple" = none) : FnI P w K mg base g "_law_any_deed" 3 1 f__law_any_deed :=
  fnI_of F sc__law_any_deed bi__law_any_deed fun f_ cdv A outer s H E at_ =>
      (rss_cons (rs_asg (re_callP h__law_split (at_.room.mono (by decide)) at_.pass rfl (ra_cons (re_var 0) (ra_cons re_int ra_nil)) (hl := (aCons_len (aCons_len aNil_len)))) (rg_tu rfl (rgs_cons (rg_n 7 sc__law_any_deed.nd) (rgs_cons (rg_n 8 sc__law_any_deed.nd) (rgs_cons (rg_n 9 sc__law_any_deed.nd) (rgs_cons (rg_n 10 sc__law_any_deed.nd) rgs_nil))))))
      (rss_cons (rs_asg (re_lst (ra_cons re_str (ra_cons re_str (ra_cons re_str (ra_cons re_str (ra_cons re_str (ra_cons re_str (ra_cons re_str (ra_cons re_str (ra_cons re_str (ra_cons re_str (ra_cons re_str ra_nil)))))))))))) (rg_n 1 sc__law_any_deed.nd))
      (rss_cons (rs_asg (re_ixP (hu_of at_.room) (re_var 1) (re_ixP (hu_of at_.room) (re_callP h__law_draws (at_.room.mono (by decide)) at_.pass rfl (ra_cons (re_var 7) (ra_cons (re_lst (ra_cons re_int ra_nil)) ra_nil)) (hl := (aCons_len (aCons_len aNil_len)))) re_int)) (rg_n 2 sc__law_any_deed.nd))
      (rss_cons (rs_asg (re_callP h__law_draws (at_.room.mono (by decide)) at_.pass rfl (ra_cons (re_var 8) (ra_cons (re_lst (ra_cons re_int (ra_cons re_int (ra_cons (re_op op_pow oi_pow re_int re_int) (ra_cons re_int (ra_cons re_int (ra_cons (re_op op_pow oi_pow re_int re_int) ra_nil))))))) ra_nil)) (hl := (aCons_len (aCons_len aNil_len)))) (rg_n 3 sc__law_any_deed.nd))
      (rss_cons (rs_asg (re_callP h__law_any_number (at_.room.mono (by decide)) at_.pass rfl (ra_cons (re_sl (re_var 3) ro_no (ro_so re_int)) ra_nil) (hl := (aCons_len aNil_len))) (rg_n 4 sc__law_any_deed.nd))
      (rss_cons (rs_asg (re_callP h__law_any_number (at_.room.mono (by decide)) at_.pass rfl (ra_cons (re_sl (re_var 3) (ro_so re_int) ro_no) ra_nil) (hl := (aCons_len aNil_len))) (rg_n 5 sc__law_any_deed.nd))
      (rss_cons (rs_asg (re_callP h__law_any_name (at_.room.mono (by decide)) at_.pass rfl (ra_cons (re_var 9) ra_nil) (hl := (aCons_len aNil_len))) (rg_n 6 sc__law_any_deed.nd))
      (rss_cons (rs_if (rt_cmp (op_eqD at_.room.units) oi_eq (re_var 2) re_str (nomark _)) (rss_cons (rs_asg (re_callP h__law_draws (at_.room.mono (by decide)) at_.pass rfl (ra_cons (re_var 10) (ra_cons (re_lst (ra_cons re_int (ra_cons re_int ra_nil))) ra_nil)) (hl := (aCons_len (aCons_len aNil_len)))) (rg_tu rfl (rgs_cons (rg_n 11 sc__law_any_deed.nd) (rgs_cons (rg_n 12 sc__law_any_deed.nd) rgs_nil))))
      (rss_one (rs_ret (re_tup (ra_cons re_str (ra_cons (re_bT call_tuple_of ci_tuple rfl z_tuple bb_tuple (ra_cons (re_lc (own := [("_law_k", 13)]) rfl sc__law_any_deed.nd (ri_r1 rfl z_range (re_op op_addJ oi_add (re_var 11) re_int)) (blkOk_by (own := [("_law_k", 13)]) (by show blkC ["_law_cell_here", "_law_words", "_law_word_here", "_law_drawn", "_law_first", "_law_second", "_law_name", "_law_one", "_law_two", "_law_three", "_law_four", "_law_many_here", "_law_mixed_kind", "_law_k"] (defScope st__law_any_deed) _ _ = true; decide +kernel)) (fun _ _ _ _ _ => (rg_n 13 sc__law_any_deed.nd)) (fun _ _ _ _ _ => rts_nil) (fun _ _ _ _ _ => (re_if (rt_cmp (op_eqD at_.room.units) oi_eq (re_var 13) (re_var 12) (nomark _)) (re_tup (ra_cons (re_var 4) (ra_cons (re_var 5) ra_nil))) (re_tup (ra_cons (re_var 5) (ra_cons (re_op op_addJ oi_add re_int (re_var 13)) ra_nil)))))) ra_nil)) ra_nil)))))) rss_nil)
      (rss_cons (rs_if (rt_cmp op_inJ oi_in (re_var 2) (re_lst (ra_cons re_str (ra_cons re_str ra_nil))) (by rfl)) (rss_one (rs_ret (re_tup (ra_cons (re_var 2) (ra_cons (re_var 4) (ra_cons (re_var 5) ra_nil)))))) rss_nil)
      (rss_one (rs_ret (re_if (rt_cmp op_inJ oi_in (re_var 2) (re_lst (ra_cons re_str (ra_cons re_str (ra_cons re_str ra_nil)))) (by rfl)) (re_tup (ra_cons (re_var 2) (ra_cons (re_var 6) (ra_cons (re_var 4) ra_nil)))) (re_tup (ra_cons (re_var 2) (ra_cons (re_var 6) ra_nil)))))))))))))))
theorem sc_law : FnScope ["_law_script", "_law_found", "_law_k", "_law_deed"] ["_law_script"] (defScope st_law) := ⟨rfl, rfl, rfl, by decide +kernel, rfl, by decide +kernel, by decide +kernel⟩
noncomputable def b_law : IS :=
    sSeq (sAsg (iLst (aNil)) (gN 1))
    (sSeq (sFor (sqR1 (iCallF f__law_many (aCons (iV 0) (aCons (iC (.int 4)) (aNil))))) (gN 2) (sSeq (sAsg (iCallF f__law_any_deed (aCons (iCallF f__law_cell (aCons (iV 0) (aCons (iV 2) (aNil)))) (aNil))) (gN 3))
    (sSeq (sIf (jNot (iTru (iCallF (f__law_same 6) (aCons (iCallF f_deed_text (aCons (iV 3) (aNil))) (aCons (iCallF f__law_deed_text (aCons (iV 3) (aNil))) (aNil)))))) (sRet (iC (.bl false))) (sSkip))
    (sSeq (sIf (jNot (iTru (iCallF (f__law_same 6) (aCons (iWord ws_ (iCallF f_read_deed (aCons (iCallF f__law_deed_text (aCons (iV 3) (aNil))) (aNil)))) (aCons (iTup (aCons (iC (.str (Str.ofString "told"))) (aCons (iV 3) (aNil)))) (aNil)))))) (sRet (iC (.bl false))) (sSkip))
    (sDrop (iMeth "list" mAppend (iV 1) (aCons (iV 3) (aNil))))))))
    (sSeq (sFor (sqSeq (iV 1)) (gN 3) (sIf (jNot (iTru (iCallF (f__law_same 6) (aCons (iWord ws_ (iCallF f_read_deed (aCons (iCallF f__law_deed_text (aCons (iV 3) (aNil))) (aNil)))) (aCons (iTup (aCons (iC (.str (Str.ofString "told"))) (aCons (iV 3) (aNil)))) (aNil)))))) (sRet (iC (.bl false))) (sSkip)))
    (sRet (iC (.bl true)))))
noncomputable def f_law : List D → Sto → R D := runF 4 b_law
theorem ok_law {f : Addr} {fd : FuncData} (F : Fun K "law" "law" st_law f fd) (hm : mg "law" = some (.ref f)) (D_ : LamD K mg base g.T "law" st_law) (h__law_word : WordOk K mg g "_law_word" "_law_asked" ws_ st__law_word) (h__law_any_deed : FnI P w K mg base g "_law_any_deed" 3 1 f__law_any_deed) (h__law_cell : FnI P w K mg base g "_law_cell" 1 2 f__law_cell) (h__law_deed_text : FnI P w K mg base g "_law_deed_text" 1 1 f__law_deed_text) (h__law_many : FnI P w K mg base g "_law_many" 1 2 f__law_many) (h__law_same : FnI P w K mg base g "_law_same" 7 2 (f__law_same 6)) (h_deed_text : FnI P w K mg base g "deed_text" 1 1 f_deed_text) (h_read_deed : FnI P w K mg base g "read_deed" 6 1 f_read_deed) (z_range : mg "range" = none) : FnOk P w K mg base (L2.CX P w) 9 f fd ["_law_script"] (spI K g 1 f_law) :=
  fnOk_ofC F hm D_ sc_law fun f_ cdv A outer s H E at_ lam_ =>
      (rss_cons (rs_asg (re_lst ra_nil) (rg_n 1 sc_law.nd))
      (rss_cons (rs_for at_.own rfl (ri_r1 rfl z_range (re_callP h__law_many (at_.room.mono (by decide)) at_.pass rfl (ra_cons (re_var 0) (ra_cons re_int ra_nil)) (hl := (aCons_len (aCons_len aNil_len))))) (rg_n 2 sc_law.nd) (rss_cons (rs_asg (re_callP h__law_any_deed (at_.room.mono (by decide)) at_.pass rfl (ra_cons (re_callP h__law_cell (at_.room.mono (by decide)) at_.pass rfl (ra_cons (re_var 0) (ra_cons (re_var 2) ra_nil)) (hl := (aCons_len (aCons_len aNil_len)))) ra_nil) (hl := (aCons_len aNil_len))) (rg_n 3 sc_law.nd))
      (rss_cons (rs_if (rt_not (rt_tru (re_callP h__law_same (at_.room.mono (by decide)) at_.pass rfl (ra_cons (re_callP h_deed_text (at_.room.mono (by decide)) at_.pass rfl (ra_cons (re_var 3) ra_nil) (hl := (aCons_len aNil_len))) (ra_cons (re_callP h__law_deed_text (at_.room.mono (by decide)) at_.pass rfl (ra_cons (re_var 3) ra_nil) (hl := (aCons_len aNil_len))) ra_nil)) (hl := (aCons_len (aCons_len aNil_len)))))) (rss_one (rs_ret re_bl)) rss_nil)
      (rss_cons (rs_if (rt_not (rt_tru (re_callP h__law_same (at_.room.mono (by decide)) at_.pass rfl (ra_cons (re_word (k := 6) h__law_word lam_ (at_.room.mono (by decide)) rfl (LamX.lamS_by (by show LamX.lamSB (defScope st_law) _ = true; decide +kernel)) rfl (fun _ _ _ _ _ => rfl) (fun A outer s H E f_ c_ at_ => (re_callP h_read_deed (at_.room.mono (by decide)) at_.pass rfl (ra_cons (re_callP h__law_deed_text (at_.room.mono (by decide)) at_.pass rfl (ra_cons (re_var 3) ra_nil) (hl := (aCons_len aNil_len))) ra_nil) (hl := (aCons_len aNil_len))))) (ra_cons (re_tup (ra_cons re_str (ra_cons (re_var 3) ra_nil))) ra_nil)) (hl := (aCons_len (aCons_len aNil_len)))))) (rss_one (rs_ret re_bl)) rss_nil)
      (rss_one (rs_expr (re_m (T' := Str.empty) PySem.F.plainAttrs_list PySem.F.slot_list_append PySem.F.type_list_append mt_append mi_append tyList (re_var 1) (ra_cons (re_var 3) ra_nil))))))))
      (rss_cons (rs_for at_.own rfl (ri_seq (re_var 1)) (rg_n 3 sc_law.nd) (rss_one (rs_if (rt_not (rt_tru (re_callP h__law_same (at_.room.mono (by decide)) at_.pass rfl (ra_cons (re_word (k := 6) h__law_word lam_ (at_.room.mono (by decide)) rfl (LamX.lamS_by (by show LamX.lamSB (defScope st_law) _ = true; decide +kernel)) rfl (fun _ _ _ _ _ => rfl) (fun A outer s H E f_ c_ at_ => (re_callP h_read_deed (at_.room.mono (by decide)) at_.pass rfl (ra_cons (re_callP h__law_deed_text (at_.room.mono (by decide)) at_.pass rfl (ra_cons (re_var 3) ra_nil) (hl := (aCons_len aNil_len))) ra_nil) (hl := (aCons_len aNil_len))))) (ra_cons (re_tup (ra_cons re_str (ra_cons (re_var 3) ra_nil))) ra_nil)) (hl := (aCons_len (aCons_len aNil_len)))))) (rss_one (rs_ret re_bl)) rss_nil)))
      (rss_one (rs_ret re_bl)))))
end
theorem exAll {K : PySem.W.Frag} (h : ex_ K = true) (i : Nat) {b : Bool} (e : (exl_ K)[i]? = some b) : b = true := List.all_eq_true.mp h b (List.mem_of_getElem? e)
theorem walk_end {q : Program} {loose : List Str} {XP : (Str → Option Value) → Heap → Prop} {d : DefRec} (hdf : d.params.defaults = []) (hd : d.name = ("law" : Str)) (hT : ∀ ns : List Int, ns.length ≤ 63 → (∀ z ∈ ns, Builtin.Int.intBits z ≤ 1048576) → ∃ S', f_law [.rl ns] [] = .ok (.bl true) S') :
    PySem.W.WalkO q loose XP (hookJ fa_ fn_ ts_ tf_ ex_).says (PySem.Challenge.rw_pailchain_k53_deeds_as_texts).row.toRowW d [] (fun f vs => PySem.call f vs) := by
  refine law_endX (l := PySem.Challenge.rw_pailchain_k53_deeds_as_texts) (k := 9) (x := "_law_script") (st := st_law) (ws := ws_) (F := f_law) (L := lams_) (ts := ts_) (tf := tf_) (ex := ex_) (fa := fa_) (fn := fn_) rfl hdf ⟨rfl, by decide, by decide⟩ hd rfl (fun w h K c_ => (defAt_of (x := "law") (st := st_law) (c_.t.d.fact 15) (c_.t.d.def_ 15))) (fun w h K c_ => lamsN_of (fall_cons (defC_of (x := "law") (st := st_law) (c_.t.d.fact 15) (c_.t.d.def_ 15) (c_.hd ("law", none) List.mem_cons_self) (c_.out ("law", none) List.mem_cons_self)) fall_nil) (of_decide_eq_true (exAll c_.more 6 rfl))) (fun kV doc pm an cdv ct s u => .of_eq rfl) ?_ hT
  intro w mg h K KX G c_ f fd T F hm base LD
  have z_ValueError : mg "ValueError" = none := He.free_ok KX G (c_.t.d.fact 20)
  have z_all : mg "all" = none := He.free_ok KX G (c_.t.d.fact 21)
  have z_bool : mg "bool" = none := He.free_ok KX G (c_.t.d.fact 22)
  have z_int : mg "int" = none := He.free_ok KX G (c_.t.d.fact 23)
  have z_isinstance : mg "isinstance" = none := He.free_ok KX G (c_.t.d.fact 24)
  have z_len : mg "len" = none := He.free_ok KX G (c_.t.d.fact 25)
  have z_list : mg "list" = none := He.free_ok KX G (c_.t.d.fact 26)
  have z_max : mg "max" = none := He.free_ok KX G (c_.t.d.fact 27)
  have z_min : mg "min" = none := He.free_ok KX G (c_.t.d.fact 28)
  have z_range : mg "range" = none := He.free_ok KX G (c_.t.d.fact 29)
  have z_str : mg "str" = none := He.free_ok KX G (c_.t.d.fact 30)
  have z_sum : mg "sum" = none := He.free_ok KX G (c_.t.d.fact 31)
  have z_tuple : mg "tuple" = none := He.free_ok KX G (c_.t.d.fact 32)
  have z_zip : mg "zip" = none := He.free_ok KX G (c_.t.d.fact 33)
  have c_LETTERS : GC K mg "LETTERS" (.str (Str.ofString "abcdefghijklmnopqrstuvwxyz")) := J.GCAt.m (gcStr_of (c_.t.d.fact 34)) KX G
  have t_FORMS : TabM K mg w "FORMS" tb_FORMS := tabM_of KX G (c_.t.d.fact 35) (exAll c_.more 5 rfl) c_.t 0 rfl rfl
  have B_ : BaseM (PySem.Challenge.rw_pailchain_k53_deeds_as_texts).prog w K mg base "PailError" := by
    obtain ⟨C, f1, e⟩ := baseAt_of (x := "PailError") (q := "PailError.__init__") (st := sti_PailError) (c_.t.d.fact 16) (c_.t.d.fact 17) (exAll c_.more 0 rfl) (exAll c_.more 2 rfl) (c_.t.d.def_ 16)
    exact e.m KX G bdi_PailError (fun f fd F => oki_PailError F z_ValueError (veB_ok (exAll c_.more 3 rfl)))
  have x_BadText : ExOk (PySem.Challenge.rw_pailchain_k53_deeds_as_texts).prog w K mg base (gK K ws_ T) "BadText" "bad text" 2 := by
    obtain ⟨C, f1, e⟩ := (exAt_of (x := "BadText") (q := "BadText.__init__") (st := sti_BadText) (c_.t.d.fact 18) (c_.t.d.fact 19) (exAll c_.more 1 rfl) (c_.t.d.def_ 17))
    exact e.ok KX G (by show (ws_.lookup ("BadText" : Str)).getD Str.empty = _; decide +kernel) bdi_BadText (fun f fd F => oki_BadText B_ F)
  have h__law_word : WordOk K mg (gK K ws_ T) "_law_word" "_law_asked" ws_ st__law_word := by
    refine wo__law_word B_ (J.DefAt.m (defAt_of (x := "_law_word") (st := st__law_word) (c_.t.d.fact 10) (c_.t.d.def_ 10)) KX G) fun Bd n i o => ?_
    refine allC_cons (x := "BadText") (wd := "bad text") (by
      obtain ⟨C, f1, e⟩ := (exAt_of (x := "BadText") (q := "BadText.__init__") (st := sti_BadText) (c_.t.d.fact 18) (c_.t.d.fact 19) (exAll c_.more 1 rfl) (c_.t.d.def_ 17))
      exact e.caught (by show (ws_.lookup ("BadText" : Str)).getD Str.empty = _; decide +kernel) n i o (subAt_of (c_.t.d.fact 18) (c_.t.d.fact 16) (exAll c_.more 4 rfl))) ?_
    exact allC_nil
  have h_deed_text : FnI (PySem.Challenge.rw_pailchain_k53_deeds_as_texts).prog w K mg base (gK K ws_ T) "deed_text" 1 1 f_deed_text := ok_deed_text (J.DefAt.m (defAt_of (x := "deed_text") (st := st_deed_text) (c_.t.d.fact 0) (c_.t.d.def_ 0)) KX G) z_str
  have h_number_in : FnI (PySem.Challenge.rw_pailchain_k53_deeds_as_texts).prog w K mg base (gK K ws_ T) "number_in" 4 1 f_number_in := ok_number_in (J.DefAt.m (defAt_of (x := "number_in") (st := st_number_in) (c_.t.d.fact 1) (c_.t.d.def_ 1)) KX G) z_all z_int z_len x_BadText
  have h_name_in : FnI (PySem.Challenge.rw_pailchain_k53_deeds_as_texts).prog w K mg base (gK K ws_ T) "name_in" 4 1 f_name_in := ok_name_in (J.DefAt.m (defAt_of (x := "name_in") (st := st_name_in) (c_.t.d.fact 2) (c_.t.d.def_ 2)) KX G) z_all z_len c_LETTERS x_BadText
  have h_way_in : FnI (PySem.Challenge.rw_pailchain_k53_deeds_as_texts).prog w K mg base (gK K ws_ T) "way_in" 5 1 f_way_in := ok_way_in (J.DefAt.m (defAt_of (x := "way_in") (st := st_way_in) (c_.t.d.fact 3) (c_.t.d.def_ 3)) KX G) h_number_in z_len z_range z_tuple x_BadText
  have h_read_deed : FnI (PySem.Challenge.rw_pailchain_k53_deeds_as_texts).prog w K mg base (gK K ws_ T) "read_deed" 6 1 f_read_deed := ok_read_deed (J.DefAt.m (defAt_of (x := "read_deed") (st := st_read_deed) (c_.t.d.fact 4) (c_.t.d.def_ 4)) KX G) h_name_in h_number_in h_way_in z_len z_tuple z_zip t_FORMS x_BadText
  have h__law_cell : FnI (PySem.Challenge.rw_pailchain_k53_deeds_as_texts).prog w K mg base (gK K ws_ T) "_law_cell" 1 2 f__law_cell := ok__law_cell (J.DefAt.m (defAt_of (x := "_law_cell") (st := st__law_cell) (c_.t.d.fact 5) (c_.t.d.def_ 5)) KX G) z_len z_sum
  have h__law_draws : FnI (PySem.Challenge.rw_pailchain_k53_deeds_as_texts).prog w K mg base (gK K ws_ T) "_law_draws" 1 2 f__law_draws := ok__law_draws (J.DefAt.m (defAt_of (x := "_law_draws") (st := st__law_draws) (c_.t.d.fact 6) (c_.t.d.def_ 6)) KX G)
  have h__law_split : FnI (PySem.Challenge.rw_pailchain_k53_deeds_as_texts).prog w K mg base (gK K ws_ T) "_law_split" 1 2 f__law_split := ok__law_split (J.DefAt.m (defAt_of (x := "_law_split") (st := st__law_split) (c_.t.d.fact 7) (c_.t.d.def_ 7)) KX G) z_range
  have h__law_many : FnI (PySem.Challenge.rw_pailchain_k53_deeds_as_texts).prog w K mg base (gK K ws_ T) "_law_many" 1 2 f__law_many := ok__law_many (J.DefAt.m (defAt_of (x := "_law_many") (st := st__law_many) (c_.t.d.fact 8) (c_.t.d.def_ 8)) KX G) z_len z_max z_min
  have h__law_same : FnI (PySem.Challenge.rw_pailchain_k53_deeds_as_texts).prog w K mg base (gK K ws_ T) "_law_same" 7 2 (f__law_same 6) := ok__law_same (J.DefAt.m (defAt_of (x := "_law_same") (st := st__law_same) (c_.t.d.fact 9) (c_.t.d.def_ 9)) KX G) z_all z_bool z_int z_isinstance z_len z_list z_range z_str z_tuple 6
  have h__law_deed_text : FnI (PySem.Challenge.rw_pailchain_k53_deeds_as_texts).prog w K mg base (gK K ws_ T) "_law_deed_text" 1 1 f__law_deed_text := ok__law_deed_text (J.DefAt.m (defAt_of (x := "_law_deed_text") (st := st__law_deed_text) (c_.t.d.fact 11) (c_.t.d.def_ 11)) KX G) z_str
  have h__law_any_number : FnI (PySem.Challenge.rw_pailchain_k53_deeds_as_texts).prog w K mg base (gK K ws_ T) "_law_any_number" 1 1 f__law_any_number := ok__law_any_number (J.DefAt.m (defAt_of (x := "_law_any_number") (st := st__law_any_number) (c_.t.d.fact 12) (c_.t.d.def_ 12)) KX G)
  have h__law_any_name : FnI (PySem.Challenge.rw_pailchain_k53_deeds_as_texts).prog w K mg base (gK K ws_ T) "_law_any_name" 2 1 f__law_any_name := ok__law_any_name (J.DefAt.m (defAt_of (x := "_law_any_name") (st := st__law_any_name) (c_.t.d.fact 13) (c_.t.d.def_ 13)) KX G) h__law_draws
  have h__law_any_deed : FnI (PySem.Challenge.rw_pailchain_k53_deeds_as_texts).prog w K mg base (gK K ws_ T) "_law_any_deed" 3 1 f__law_any_deed := ok__law_any_deed (J.DefAt.m (defAt_of (x := "_law_any_deed") (st := st__law_any_deed) (c_.t.d.fact 14) (c_.t.d.def_ 14)) KX G) h__law_any_name h__law_any_number h__law_draws h__law_split z_range z_tuple
  exact ok_law F hm (LD ("law", st_law) List.mem_cons_self) h__law_word h__law_any_deed h__law_cell h__law_deed_text h__law_many h__law_same h_deed_text h_read_deed z_range
end K

namespace K
open PySem PySem.Spec PyProof.Rows L2 J
local macro_rules | `(tactic| array_mem_dec) => `(tactic| with_reducible first | assumption | (refine q_lstOld ?_; exact lstOf_new) | (refine q_lstOld ?_; exact lstOf_old (by array_mem_dec)) | (refine q_insOld ?_; exact insOf_new) | (refine q_insOld ?_; exact insOf_old (by array_mem_dec)) | (refine q_dctOld ?_; exact dctOf_new) | (refine q_dctOld ?_; exact dctOf_old (by array_mem_dec)) | (refine q_insI ?_; exact insOf_here (by array_mem_dec)) | (refine q_dctK ?_; exact dctOf_here (by array_mem_dec)) | (refine q_lstI ?_; exact lstOf_setI (by array_mem_dec) (by array_mem_dec)) | (refine q_lstK ?_; exact lstOf_setK (by array_mem_dec) (by array_mem_dec)) | (refine q_insK ?_; exact insOf_setK (by array_mem_dec) (by array_mem_dec)) | (refine q_dctI ?_; exact dctOf_setI (by array_mem_dec) (by array_mem_dec)) | (refine q_insL ?_; exact insOf_setL (by array_mem_dec) (by array_mem_dec)) | (refine q_dctL ?_; exact dctOf_setL (by array_mem_dec) (by array_mem_dec)) | (refine q_insI ?_; exact insOf_setI_ne (by first | assumption | omega) (by array_mem_dec)) | fail)
local macro_rules | `(tactic| array_get_dec) => `(tactic| with_reducible first
  | refine St.st ?_
  | refine St2.st ?_ ?_
  | (refine g_wp_iV ?_; refine wp_iV (by with_unfolding_all rfl) ?_)
  | (refine g_wp_pow ?_; refine wp_pow (by decide) ?_)
  | (refine g_wp_sAug ?_; refine wp_sAug (by with_unfolding_all rfl) ?_)
  | (refine g_wp_gTuT ?_; refine wp_gTuT (by with_unfolding_all rfl) ?_)
  | (refine g_wp_gTuL ?_; refine wp_gTuL (by array_mem_dec) (by with_unfolding_all rfl) ?_)
  | (refine g_wp_slL ?_; refine wp_slL (by array_mem_dec) ?_)
  | (refine g_wp_ixT ?_; refine wp_ixT (by first | exact atI_0 | exact atI_1 | exact atI_2 | exact atI_3 | exact atI_4 | exact atI_5 | exact atI_6 | exact atI_7) ?_)
  | (refine g_wp_isiL ?_; refine wp_isiL (by array_mem_dec) (by with_unfolding_all rfl) ?_)
  | (refine g_wp_isi ?_; refine wp_isi (by with_unfolding_all rfl) ?_)
  | (refine g_len_and ?_; refine len_and (by with_unfolding_all rfl) ?_)
  | refine wp_forN trivial ?_
  | refine wp_forC trivial ?_
  | (refine g_wp_ixL ?_; refine wp_ixL (by array_mem_dec) (by first | exact atI_0 | exact atI_1 | exact atI_2 | exact atI_3 | exact atI_4 | exact atI_5 | exact atI_6 | exact atI_7) ?_)
  | (refine g_seqS_ref ?_; refine seqS_ref (by array_mem_dec) ?_)
  | (refine g_wp_lenL ?_; refine wp_lenL (by array_mem_dec) ?_)
  | (refine g_isTru_ref ?_; refine isTru_ref (by array_mem_dec) ?_)
  | (refine g_meth_and ?_; refine meth_and (by array_mem_dec) ?_)
  | (refine g_wp_append ?_; refine wp_append (by array_mem_dec) ?_ ?_)
  | (refine g_wp_mulL ?_; refine wp_mulL (by array_mem_dec) (by with_unfolding_all decide) ?_)
  | (refine g_wp_addL ?_; refine wp_addL (by array_mem_dec) (by array_mem_dec) (by with_unfolding_all decide) ?_)
  | (refine g_wp_fld ?_; refine wp_fld (by array_mem_dec) (by infer_instance) (by with_unfolding_all rfl) ?_)
  | (refine g_wp_putFn ?_; refine wp_putFn (by array_mem_dec) (by infer_instance) (by decide +kernel) (by with_unfolding_all rfl) ?_)
  | (refine g_wp_putF ?_; refine wp_putF (by array_mem_dec) (by infer_instance) (by decide +kernel) (by with_unfolding_all exact Nat.le_of_ble_eq_true rfl) ?_)
  | (refine g_wp_self ?_; refine wp_self (by array_mem_dec) (by decide +kernel) ?_)
  | (refine g_wp_ixK ?_; refine wp_ixK (by array_mem_dec) (by infer_instance) (by with_unfolding_all rfl) ?_)
  | (refine g_wp_putK ?_; refine wp_putK (by array_mem_dec) (by infer_instance) (by decide +kernel) (by with_unfolding_all exact Nat.le_of_ble_eq_true rfl) ?_)
  | fail)
/-! what a word writes -/
theorem str_ext {x y : Str} (h : x.cps.toList = y.cps.toList) : x = y := Str.ext' (Array.toList_inj.mp h)
theorem cut1 {x : Str} : (cutS x (some 1) none).cps.toList = x.cps.toList.drop 1 := by
  show ((List.take _ (List.drop _ x.cps.toList)).toArray).toList = _
  have hl : x.length = x.cps.toList.length := str_len
  have e1 : HT.sIx x.length 0 (some 1) = min 1 x.length := HT.sIx_nat _ _ 1
  rw [e1, HT.sIx_none, hl]
  show List.take _ (List.drop _ x.cps.toList) = _
  rcases e : x.cps.toList with _ | ⟨c, r⟩
  · simp
  · rw [List.length_cons, show min 1 (r.length + 1) = 1 by omega]
    exact List.take_of_length_le (by simp)
theorem cut01 {x : Str} : (cutS x none (some 1)).cps.toList = x.cps.toList.take 1 := by
  show ((List.take _ (List.drop _ x.cps.toList)).toArray).toList = _
  have hl : x.length = x.cps.toList.length := str_len
  have e1 : HT.sIx x.length x.length (some 1) = min 1 x.length := HT.sIx_nat _ _ 1
  rw [e1, HT.sIx_none, hl]
  show List.take _ (List.drop 0 x.cps.toList) = _
  rcases e : x.cps.toList with _ | ⟨c, r⟩
  · simp
  · rw [List.length_cons, show min 1 (r.length + 1) - 0 = 1 by omega, List.drop_zero]
theorem minus_iff {x : Str} : cutS x none (some 1) = "-" ↔ ∃ r, x.cps.toList = 45 :: r := by
  have e : ("-" : Str).cps.toList = [45] := by decide +kernel
  constructor
  · intro h
    have h2 := congrArg (fun z : Str => z.cps.toList) h
    simp only [cut01, e] at h2
    rcases hx : x.cps.toList with _ | ⟨c, r⟩
    · rw [hx] at h2; simp at h2
    · rw [hx] at h2
      simp at h2
      exact ⟨r, by rw [h2]⟩
  · rintro ⟨r, hr⟩
    refine str_ext ?_
    rw [cut01, e, hr]
    rfl
theorem strOk_cut {x : Str} (h : PySem.PyData.strOk x = true) (lo hi : Option Int) : PySem.PyData.strOk (cutS x lo hi) = true := by
  unfold PySem.PyData.strOk at *
  show Array.all (List.toArray (List.take _ (List.drop _ x.cps.toList))) _ = true
  rw [← Array.all_toList] at h ⊢
  rw [List.all_eq_true] at h ⊢
  intro c hc
  exact h c (List.mem_of_mem_drop (List.mem_of_mem_take hc))
/-- the figures of a word -/
def figs (x : Str) : Str := if cutS x none (some 1) = "-" then cutS x (some 1) none else x
def digs : Str := "0123456789"
theorem digs_cps : digs.cps.toList = [48, 49, 50, 51, 52, 53, 54, 55, 56, 57] := by decide +kernel
theorem digs_iff {c : Nat} : c ∈ digs.cps.toList ↔ 48 ≤ c ∧ c ≤ 57 := by
  rw [digs_cps]
  simp only [List.mem_cons, List.not_mem_nil, or_false]
  omega
def NumW (x : Str) : Prop := (1 ≤ (figs x).length ∧ (figs x).length ≤ 9) ∧ (∀ c ∈ (figs x).cps.toList, c ∈ digs.cps.toList) ∧ ¬ ((figs x).cps.toList[0]? = some 48 ∧ x ≠ "0")
def numOf (x : Str) : Int := if cutS x none (some 1) = "-" then -((NumText.digitsVal (figs x).cps.toList : Nat) : Int) else ((NumText.digitsVal (figs x).cps.toList : Nat) : Int)
open Classical in
noncomputable def numIn (x : Str) : Option Int := if NumW x then some (numOf x) else none
theorem NumW.len {x : Str} (h : NumW x) : x.length ≤ 10 := by
  have h1 := h.1.2
  unfold figs at h1
  split at h1
  · rename_i hc
    have e : (cutS x (some 1) none).length = (x.cps.toList.drop 1).length := by rw [str_len, cut1]
    rw [e, List.length_drop, ← str_len] at h1
    omega
  · omega
theorem NumW.int {x : Str} (h : NumW x) : PySem.intText? x = some (numOf x) := by
  have hl := h.len
  obtain ⟨⟨h1, h2⟩, h3, h4⟩ := h
  have hd : NumText.AllDigits (figs x).cps.toList := fun c hc => digs_iff.mp (h3 c hc)
  have hn : (figs x).cps.toList ≠ [] := fun e => by rw [str_len, e] at h1; simp at h1
  unfold numOf
  by_cases hc : cutS x none (some 1) = "-"
  · obtain ⟨r, hr⟩ := minus_iff.mp hc
    have e : (figs x).cps.toList = r := by
      unfold figs
      rw [if_pos hc, cut1, hr]
      rfl
    rw [if_pos hc]
    rw [e] at hd hn ⊢
    exact PySem.intText_neg hr hd hn (by omega)
  · have e : figs x = x := by
      unfold figs
      rw [if_neg hc]
    rw [if_neg hc]
    rw [e] at hd hn ⊢
    exact PySem.intText_digits hd hn (by omega)
section
variable {Q : D → Sto → Prop} {X : Str → Sto → Prop} {S : Sto}
theorem wp_ixSi {z : Str} {i : Int} {c : Nat} (hl : z.length < LIM) (h : atI z.cps.toList i = some c) (q : Q (.str ⟨#[c]⟩) S) : wp (oIx (.str z) (.int i) S) Q X := by
  have e2 : oIx (.str z) (.int i) S = .ok (.str ⟨#[c]⟩) S := by simp only [oIx, h, if_pos hl]
  exact wp_eq e2 q
theorem t_number_in {x : Str} (ho : PySem.PyData.strOk x = true) (hl : x.length < 800000) (q : ∀ n, numIn x = some n → ∀ T, Q (.int n) (S ++ T)) (ex : numIn x = none → ∀ T, X "BadText" (S ++ T)) : wp (f_number_in [.str x] S) Q X := by
  have q1 : NumW x → ∀ T, Q (.int (numOf x)) (S ++ T) := fun h => q _ (by unfold numIn; rw [if_pos h])
  have ex1 : ¬ NumW x → ∀ T, X "BadText" (S ++ T) := fun h => ex (by unfold numIn; rw [if_neg h])
  have ex0 : ¬ NumW x → X "BadText" S := fun h => by
    have := ex1 h []
    rwa [List.append_nil] at this
  clear q ex
  refine wp_run ?_
  unfold b_number_in
  refine wp_sSeq ?_
  repeat' first | (refine wp_sSeq ?_; refine wp_cut (fun o S' => S = S' ∧ o = Fl.next [some (.str x), some (.str (figs x)), none]) ?_ ?_) | array_get_dec
  · refine wp_slSS (by omega) ?_
    repeat' array_get_dec
    refine wp_eqS (strOk_cut ho _ _) (by decide +kernel) ?_
    array_get_dec
    refine wp_ifd (fun hc => ?_) fun hc => ?_
    · repeat' array_get_dec
      refine wp_slSS (by omega) ?_
      repeat' array_get_dec
      refine ⟨rfl, ?_⟩
      unfold figs
      rw [if_pos hc]
      rfl
    · repeat' array_get_dec
      refine ⟨rfl, ?_⟩
      unfold figs
      rw [if_neg hc]
      rfl
  rintro _ _ ⟨rfl, rfl⟩
  have hfo : PySem.PyData.strOk (figs x) = true := by
    unfold figs
    split
    · exact strOk_cut ho _ _
    · exact ho
  have hfl : (figs x).length ≤ x.length := by
    unfold figs
    split
    · exact len_cut
    · exact Nat.le_refl _
  repeat' array_get_dec
  refine wp_lenS (lim_of (by omega)) ?_
  repeat' array_get_dec
  refine wp_ifd (fun h1 => ?_) fun h1 => ?_
  · repeat' array_get_dec
    refine wp_ifnd (fun h2 => ?_) fun h2 => ?_
    · repeat' array_get_dec
      refine wp_lc (by rw [List.length_map, ← str_len]; exact lim_of (by omega)) (fun k acc S' => S = S' ∧ acc = (((figs x).cps.toList.take k).map fun c => decide (c ∈ digs.cps.toList)).map D.bl) ⟨rfl, rfl⟩ (fun _ _ _ _ _ => trivial) ?_ ?_
      · rintro k d acc S' hk ⟨rfl, rfl⟩
        rw [List.getElem?_map, Option.map_eq_some_iff] at hk
        obtain ⟨c, hk, rfl⟩ := hk
        repeat' array_get_dec
        refine ⟨rfl, ?_⟩
        rw [List.take_add_one, hk]
        simp [digs]
      · rintro acc S' ⟨rfl, rfl⟩
        rw [List.length_map, List.take_length]
        repeat' array_get_dec
        refine wp_all lstOf_new ?_
        have ha : (((figs x).cps.toList.map fun c => decide (c ∈ digs.cps.toList)).all id = true) ↔ ∀ c ∈ (figs x).cps.toList, c ∈ digs.cps.toList := by
          rw [List.all_map, List.all_eq_true]
          simp only [Function.comp, id, decide_eq_true_eq]
        generalize ((figs x).cps.toList.map fun c => decide (c ∈ digs.cps.toList)).all id = b at ha ⊢
        cases b with
        | true =>
          have hall := ha.mp rfl
          rcases hf : (figs x).cps.toList with _ | ⟨c0, r0⟩
          · rw [str_len, hf] at h1
            simp at h1
          have hc0 : PySem.PyData.strOk ⟨#[c0]⟩ = true := by
            unfold PySem.PyData.strOk at hfo ⊢
            rw [← Array.all_toList] at hfo ⊢
            rw [List.all_eq_true] at hfo ⊢
            intro c hc
            refine hfo c ?_
            rw [hf]
            simp at hc
            simp [hc]
          have e48 : ((⟨#[c0]⟩ : Str) = "0") ↔ c0 = 48 := by
            have e : ("0" : Str).cps.toList = [48] := by decide +kernel
            constructor
            · intro h
              have := congrArg (fun z : Str => z.cps.toList) h
              rw [e] at this
              simpa using this
            · rintro rfl
              exact str_ext (by rw [e])
          repeat' array_get_dec
          refine wp_ixSi (c := c0) (lim_of (by omega)) (by rw [hf]; exact atI_0) ?_
          repeat' array_get_dec
          refine wp_eqS hc0 (by decide +kernel) ?_
          array_get_dec
          refine wp_ifd (fun h3 => ?_) fun h3 => ?_
          · repeat' array_get_dec
            refine wp_neS ho (by decide +kernel) ?_
            array_get_dec
            refine wp_ifnd (fun h4 => ?_) fun h4 => ?_
            · repeat' array_get_dec
              have hN : NumW x := ⟨⟨by omega, by omega⟩, hall, fun h => h.2 h4⟩
              refine wp_intS hN.int (by have := hN.len; omega) ?_
              repeat' array_get_dec
              exact q1 hN _
            · repeat' array_get_dec
              exact ex1 (fun h => h.2.2 ⟨by rw [hf, e48.mp h3]; rfl, h4⟩) _
          · repeat' array_get_dec
            have hN : NumW x := ⟨⟨by omega, by omega⟩, hall, fun h => h3 (e48.mpr (by
              have := h.1
              rw [hf] at this
              simpa using this))⟩
            refine wp_intS hN.int (by have := hN.len; omega) ?_
            repeat' array_get_dec
            exact q1 hN _
        | false =>
          repeat' array_get_dec
          exact ex1 (fun h => by simpa using ha.mpr h.2.1) _
    · repeat' array_get_dec
      exact ex0 (fun h => by have := h.1; omega)
  · repeat' array_get_dec
    exact ex0 (fun h => by have := h.1; omega)
end
section
variable {Q : D → Sto → Prop} {X : Str → Sto → Prop} {S : Sto}
theorem t_name_in {x : Str} (hl : x.length < 900000) (q : NameOk x → ∀ T, Q (.str x) (S ++ T)) (ex : ¬ NameOk x → ∀ T, X "BadText" (S ++ T)) : wp (f_name_in [.str x] S) Q X := by
  have ex0 : ¬ (1 ≤ x.length ∧ x.length ≤ 8) → X "BadText" S := fun h => by
    have := ex (fun c => h c.1) []
    rwa [List.append_nil] at this
  refine wp_run ?_
  unfold b_name_in
  repeat' array_get_dec
  refine wp_lenS (lim_of (by omega)) ?_
  repeat' array_get_dec
  refine wp_ifd (fun h1 => ?_) fun h1 => ?_
  · repeat' array_get_dec
    refine wp_ifnd (fun h2 => ?_) fun h2 => ?_
    · repeat' array_get_dec
      refine wp_lc (by rw [List.length_map, ← str_len]; exact lim_of (by omega)) (fun k acc S' => S = S' ∧ acc = ((x.cps.toList.take k).map fun c => decide (c ∈ lets.cps.toList)).map D.bl) ⟨rfl, rfl⟩ (fun _ _ _ _ _ => trivial) ?_ ?_
      · rintro k d acc S' hk ⟨rfl, rfl⟩
        rw [List.getElem?_map, Option.map_eq_some_iff] at hk
        obtain ⟨c, hk, rfl⟩ := hk
        repeat' array_get_dec
        refine ⟨rfl, ?_⟩
        rw [List.take_add_one, hk]
        simp [lets]
      · rintro acc S' ⟨rfl, rfl⟩
        rw [List.length_map, List.take_length]
        repeat' array_get_dec
        refine wp_all lstOf_new ?_
        have ha : ((x.cps.toList.map fun c => decide (c ∈ lets.cps.toList)).all id = true) ↔ ∀ c ∈ x.cps.toList, c ∈ lets.cps.toList := by
          rw [List.all_map, List.all_eq_true]
          simp only [Function.comp, id, decide_eq_true_eq]
        generalize (x.cps.toList.map fun c => decide (c ∈ lets.cps.toList)).all id = b at ha ⊢
        cases b with
        | true =>
          repeat' array_get_dec
          exact q ⟨⟨by omega, by omega⟩, ha.mp rfl⟩ _
        | false =>
          repeat' array_get_dec
          exact ex (fun h => by simpa using ha.mpr h.2) _
    · repeat' array_get_dec
      exact ex0 (by omega)
  · repeat' array_get_dec
    exact ex0 (by omega)
end
/-! what words write, as a way -/
theorem mapM_take {α β : Type} {f : α → Option β} {ws : List α} {k : Nat} {w : α} {ns : List β} {n : β} (h : (ws.take k).mapM f = some ns) (hk : ws[k]? = some w) (hn : f w = some n) : (ws.take (k + 1)).mapM f = some (ns ++ [n]) := by
  rw [List.take_add_one, hk, Option.toList_some, List.mapM_append, h]
  simp [hn]
theorem mapM_none {α β : Type} {f : α → Option β} : ∀ {ws : List α} {w : α}, w ∈ ws → f w = none → ws.mapM f = none
  | a :: ws, w, h, e => by
    rw [List.mapM_cons]
    rcases List.mem_cons.mp h with rfl | h
    · rw [e]; rfl
    · rw [mapM_none h e]
      cases f a <;> rfl
theorem mapM_len {α β : Type} {f : α → Option β} : ∀ {ws : List α} {ns : List β}, ws.mapM f = some ns → ns.length = ws.length
  | [], ns, h => by
    rw [List.mapM_nil] at h
    cases h
    rfl
  | a :: ws, ns, h => by
    rw [List.mapM_cons] at h
    cases e : f a with
    | none => rw [e] at h; cases h
    | some b =>
      rw [e] at h
      cases e2 : ws.mapM f with
      | none => rw [e2] at h; cases h
      | some bs =>
        rw [e2] at h
        cases h
        rw [List.length_cons, List.length_cons, mapM_len e2]
def pairUp : List Int → List (Int × Int)
  | a :: b :: r => (a, b) :: pairUp r
  | _ => []
theorem pairUp_get : ∀ {ns : List Int} {k : Nat} {a b : Int}, ns[2 * k]? = some a → ns[2 * k + 1]? = some b → (pairUp ns)[k]? = some (a, b)
  | [], k, a, b, h, _ => by simp at h
  | [_], k, a, b, _, h => by simp at h
  | x :: y :: r, 0, a, b, h1, h2 => by
    simp at h1 h2
    simp [pairUp, h1, h2]
  | x :: y :: r, k + 1, a, b, h1, h2 => by
    rw [pairUp, List.getElem?_cons_succ]
    refine pairUp_get ?_ ?_
    · rw [show 2 * (k + 1) = 2 * k + 1 + 1 by omega, List.getElem?_cons_succ, List.getElem?_cons_succ] at h1
      exact h1
    · rw [show 2 * (k + 1) + 1 = 2 * k + 1 + 1 + 1 by omega, List.getElem?_cons_succ, List.getElem?_cons_succ] at h2
      exact h2
theorem pairUp_len : ∀ {ns : List Int}, (pairUp ns).length = ns.length / 2
  | [] => rfl
  | [_] => by simp [pairUp]
  | x :: y :: r => by
    rw [pairUp, List.length_cons, pairUp_len, List.length_cons, List.length_cons]
    omega
noncomputable def wayIn (ws : List Str) : Option (List (Int × Int)) := if ws.length = 0 ∨ ws.length / 2 * 2 ≠ ws.length then none else (ws.mapM numIn).map pairUp
section
variable {Q : D → Sto → Prop} {X : Str → Sto → Prop} {S : Sto}
theorem t_way_in {n : Nat} {ws : List Str} (e : lstOf S n = some (ws.map D.str)) (ho : ∀ x ∈ ws, PySem.PyData.strOk x = true ∧ x.length < 800000) (hl : ws.length < 900000)
    (q : ∀ w, wayIn ws = some w → ∀ T, Q (.tup (w.map pD)) (S ++ T)) (ex : wayIn ws = none → ∀ T, X "BadText" (S ++ T)) : wp (f_way_in [.ref n] S) Q X := by
  have ex0 : wayIn ws = none → X "BadText" S := fun h => by
    have := ex h []
    rwa [List.append_nil] at this
  refine wp_run ?_
  unfold b_way_in
  repeat' array_get_dec
  have el : (ws.map D.str).length = ws.length := List.length_map ..
  rw [el]
  refine wp_ifd (fun h1 => ?_) fun h1 => ?_
  · repeat' array_get_dec
    exact ex0 (by unfold wayIn; rw [if_pos (.inl (by omega))])
  have sz : Sz 21 (ws.length : Nat) := .of (b := 2097152) (by omega) (by omega) (by decide)
  repeat' array_get_dec
  · rw [el]; exact Sz.divOk' (by decide) sz
  · rw [el]; exact Sz.mulOk (n := 21) (m := 2) (.of (b := 2097152) (by omega) (by omega) (by decide)) (.lit (by decide))
  rw [el]
  refine wp_ifnd (fun h2 => ?_) fun h2 => ?_
  rotate_left
  · repeat' array_get_dec
    exact ex0 (by unfold wayIn; rw [if_pos (.inr (by omega))])
  have e0 : wayIn ws = (ws.mapM numIn).map pairUp := by unfold wayIn; rw [if_neg (by omega)]
  rw [e0] at q ex
  repeat' array_get_dec
  refine wp_lcX (by rw [el]; exact lim_of (by omega)) (fun k acc S' => (∃ T, S' = S ++ T) ∧ ∃ ns, (ws.take k).mapM numIn = some ns ∧ acc = ns.map D.int) ⟨⟨[], by simp⟩, [], by simp, rfl⟩ ?_ ?_ ?_
  · rintro k acc _ _ ⟨⟨T, rfl⟩, _⟩
    exact lstOf_old e
  · rintro k d acc _ hk ⟨⟨T, rfl⟩, ns, hn, rfl⟩
    rw [List.getElem?_map, Option.map_eq_some_iff] at hk
    obtain ⟨w, hk, rfl⟩ := hk
    have hm := List.mem_of_getElem? hk
    repeat' array_get_dec
    rw [if_pos rfl]
    repeat' array_get_dec
    refine t_number_in (ho w hm).1 (ho w hm).2 (fun i hi T2 => ?_) fun hi T2 => ?_
    · exact ⟨⟨T ++ T2, by simp⟩, ns ++ [i], mapM_take hn hk hi, by simp⟩
    · rw [List.append_assoc]
      exact ex (by rw [mapM_none hm hi]; rfl) _
  rintro acc _ ⟨⟨T, rfl⟩, ns, hn, rfl⟩
  rw [el, List.take_length] at hn
  have hns := mapM_len hn
  have hq := q _ (by rw [hn]; rfl)
  repeat' array_get_dec
  have eln : (ns.map D.int).length = ws.length := by rw [List.length_map, hns]
  rw [eln]
  obtain ⟨m, hm⟩ : ∃ m, ws.length = 2 * m := ⟨ws.length / 2, by omega⟩
  have sm : small (ws.length : Nat) := ⟨by omega, by
    have : ((900000 : Nat) : Int) < LIM := by decide
    omega⟩
  refine ⟨by decide, sm, ?_⟩
  rw [show (((ws.length : Nat) : Int) - 0 + 1) / 2 = (m : Int) by omega, Int.toNat_natCast]
  have en : lstOf (S ++ T ++ [Cell.lst (ns.map D.int)]) (S ++ T).length = some (ns.map D.int) := lstOf_new
  have ep : (pairUp ns).length = m := by rw [pairUp_len]; omega
  refine wp_lc (by rw [twoD_len]; exact lim_of (by omega)) (fun k acc S' => S ++ T ++ [Cell.lst (ns.map D.int)] = S' ∧ acc = ((pairUp ns).take k).map pD) ⟨rfl, rfl⟩ (fun _ _ _ _ _ => trivial) ?_ ?_
  · rintro k d acc _ hk ⟨rfl, rfl⟩
    have hkm : k < m := by
      have := (List.getElem?_eq_some_iff.mp hk).1
      rwa [twoD_len] at this
    have hk2 := twoD_get (lo := 0) hkm
    rw [show (twoD 0 m)[k]? = some d from hk] at hk2
    cases hk2
    obtain ⟨a, ha⟩ := at_lt (xs := ns) (k := 2 * k) (by omega)
    obtain ⟨b, hb⟩ := at_lt (xs := ns) (k := 2 * k + 1) (by omega)
    repeat' array_get_dec
    refine wp_ixL en (d := .int a) (by rw [show (0 : Int) + 2 * (k : Nat) = ((2 * k : Nat) : Int) by omega]; exact atI_jn (by rw [List.getElem?_map, ha]; rfl)) ?_
    repeat' array_get_dec
    refine wp_ixL en (d := .int b) (by rw [show (0 : Int) + 2 * (k : Nat) + 1 = ((2 * k + 1 : Nat) : Int) by omega]; exact atI_jn (by rw [List.getElem?_map, hb]; rfl)) ?_
    repeat' array_get_dec
    refine ⟨rfl, ?_⟩
    rw [List.take_add_one, pairUp_get ha hb]
    simp [pD]
  · rintro acc _ ⟨rfl, rfl⟩
    rw [show (twoD 0 m).length = m from twoD_len, ← ep, List.take_length]
    repeat' array_get_dec
    refine wp_tupL lstOf_new ?_
    repeat' array_get_dec
    rw [List.append_assoc, List.append_assoc]
    exact hq _
end
/-! what a text writes, as a deed -/
open Classical in
noncomputable def partIn (k x : Str) : Option D := if k = "number" then (numIn x).map D.int else if NameOk x then some (.str x) else none
open Classical in
noncomputable def readF (x : Str) : Option D := match Txt.split x " " with
  | [] => none
  | w :: r => if w = "lay" then (wayIn r).map fun v => .tup [.str "lay", .tup (v.map pD)] else match tb_FORMS.lookup w with
    | none => none
    | some form => if r.length = form.length then ((r.zip form).mapM fun p => partIn p.2 p.1).map fun ps => .tup (.str w :: ps) else none
theorem zipD_strs : ∀ {r form : List Str}, zipD (r.map D.str) (form.map D.str) = (r.zip form).map fun p => D.tup [.str p.1, .str p.2]
  | [], _ => by simp [zipD]
  | _ :: _, [] => by simp [zipD]
  | a :: r, b :: form => by rw [List.map_cons, List.map_cons, zipD, zipD_strs]; rfl
section
variable {Q : D → Sto → Prop} {X : Str → Sto → Prop} {S : Sto}
theorem t_read_deed {x : Str} (ho : PySem.PyData.strOk x = true) (hl : x.length < 700000) (q : ∀ d, readF x = some d → ∀ T, Q d (S ++ T)) (ex : readF x = none → ∀ T, X "BadText" (S ++ T)) : wp (f_read_deed [.str x] S) Q X := by
  obtain ⟨hne, hnl, hp⟩ := split_facts (x := x) (b := " ") (s := 32) (by decide +kernel) (by decide)
  unfold readF at q ex
  rcases hws : Txt.split x " " with _ | ⟨w, r⟩
  · exact absurd hws hne
  rw [hws] at hp hnl q ex
  dsimp only at q ex
  have hpo : ∀ p ∈ w :: r, PySem.PyData.strOk p = true ∧ p.length < 800000 := fun p h => ⟨(hp p h).2 ho, by have := (hp p h).1; omega⟩
  have hwo := (hpo w List.mem_cons_self).1
  rw [List.length_cons] at hnl
  have ecut : J.cutD (D.str w :: r.map D.str) (some 1) none = r.map D.str := by
    unfold J.cutD
    have e1 : HT.sIx (D.str w :: r.map D.str).length 0 (some 1) = 1 := by
      rw [show (1 : Int) = ((1 : Nat) : Int) from rfl, HT.sIx_nat, List.length_cons]
      omega
    rw [e1, HT.sIx_none]
    simp
    exact List.take_of_length_le (by simp)
  refine wp_run ?_
  unfold b_read_deed
  repeat' array_get_dec
  refine wp_split (by decide +kernel) (by omega) ?_
  rw [hws, show (w :: r).map D.str = D.str w :: r.map D.str from rfl]
  repeat' array_get_dec
  refine wp_eqS hwo (by decide +kernel) ?_
  array_get_dec
  refine wp_ifd (fun h1 => ?_) fun h1 => ?_
  · rw [if_pos h1] at q ex
    repeat' array_get_dec
    rw [ecut]
    refine t_way_in (ws := r) lstOf_new (fun y hy => hpo y (List.mem_cons_of_mem _ hy)) (by omega) (fun v hv T => ?_) fun hv T => ?_
    · repeat' array_get_dec
      rw [List.append_assoc, List.append_assoc]
      exact q _ (by rw [hv]; rfl) _
    · rw [List.append_assoc, List.append_assoc]
      exact ex (by rw [hv]; rfl) _
  rw [if_neg h1] at q ex
  repeat' array_get_dec
  rcases hf : tb_FORMS.lookup w with _ | form
  · rw [hf] at q ex
    rw [show (!(none : Option (List Str)).isSome) = true from rfl]
    repeat' array_get_dec
    exact ex rfl _
  rw [hf] at q ex
  dsimp only at q ex
  rw [show (!(some form).isSome) = false from rfl]
  repeat' array_get_dec
  refine ⟨form, hf, ?_⟩
  repeat' array_get_dec
  rw [List.length_cons, List.length_map, List.length_map]
  refine wp_ifnd (fun h2 => ?_) fun h2 => ?_
  rotate_left
  · repeat' array_get_dec
    exact ex (by rw [if_neg (by omega)]) _
  have h3 : r.length = form.length := by omega
  rw [if_pos h3] at q ex
  repeat' array_get_dec
  rw [ecut]
  have hform : ∀ k ∈ form, PySem.PyData.strOk k = true := by
    have key : ∀ p ∈ tb_FORMS, ∀ k ∈ p.2, PySem.PyData.strOk k = true := by decide +kernel
    exact key (w, form) (lookup_mem hf)
  have kA : Kp [] S (S ++ [Cell.lst (D.str w :: r.map D.str)] ++ [Cell.lst [D.str w]] ++ [Cell.lst (r.map D.str)]) := (Kp.add.app).app
  have eF : lstOf (S ++ [Cell.lst (D.str w :: r.map D.str)] ++ [Cell.lst [D.str w]] ++ [Cell.lst (r.map D.str)]) (S ++ [Cell.lst (D.str w :: r.map D.str)]).length = some [D.str w] := lstOf_old lstOf_new
  have eR : lstOf (S ++ [Cell.lst (D.str w :: r.map D.str)] ++ [Cell.lst [D.str w]] ++ [Cell.lst (r.map D.str)]) (S ++ [Cell.lst (D.str w :: r.map D.str)] ++ [Cell.lst [D.str w]]).length = some (r.map D.str) := lstOf_new
  have hSF : S.length ≤ (S ++ [Cell.lst (D.str w :: r.map D.str)]).length := by rw [List.length_append]; omega
  have hRF : (S ++ [Cell.lst (D.str w :: r.map D.str)] ++ [Cell.lst [D.str w]]).length ≠ (S ++ [Cell.lst (D.str w :: r.map D.str)]).length := by rw [List.length_append (bs := [Cell.lst [D.str w]])]; simp
  generalize S ++ [Cell.lst (D.str w :: r.map D.str)] ++ [Cell.lst [D.str w]] ++ [Cell.lst (r.map D.str)] = S1 at *
  generalize (S ++ [Cell.lst (D.str w :: r.map D.str)] ++ [Cell.lst [D.str w]]).length = g at *
  generalize (S ++ [Cell.lst (D.str w :: r.map D.str)]).length = f at *
  refine ⟨_, eR, ?_⟩
  rw [zipD_strs]
  refine wp_for (fun k ρ S' => Kp [f] S1 S' ∧ (∃ e4 e5, ρ = [some (D.str x), some (D.ref S.length), some (D.tup (form.map D.str)), some (D.ref f), e4, e5]) ∧ ∃ ps, ((r.zip form).take k).mapM (fun p => partIn p.2 p.1) = some ps ∧ lstOf S' f = some (D.str w :: ps)) ⟨.refl, ⟨none, none, rfl⟩, [], rfl, eF⟩ (fun k ρ S' _ h => h.1.lst (by simpa using hRF) eR) ?_ ?_
  · rintro k d _ S2 hk ⟨k2, ⟨e4, e5, rfl⟩, ps, hps, eps⟩
    rw [List.getElem?_map, Option.map_eq_some_iff] at hk
    obtain ⟨⟨y, kd⟩, hk, rfl⟩ := hk
    have hm := List.mem_of_getElem? hk
    have hpl := mapM_len hps
    have hy := hpo y (List.mem_cons_of_mem _ (List.of_mem_zip hm).1)
    have hkd := hform kd (List.of_mem_zip hm).2
    have hb : ps.length + 1 < LIM := lim_of (by
      rw [hpl, List.length_take, List.length_zip]
      omega)
    have hfin : ∀ (T : Sto) (e : D) (ρ : J.Env), partIn kd y = some e → (∃ e4 e5, ρ = [some (D.str x), some (D.ref S.length), some (D.tup (form.map D.str)), some (D.ref f), e4, e5]) → Kp [f] S1 (J.setL (S2 ++ T) f (D.str w :: ps ++ [e])) ∧ (∃ e4 e5, ρ = [some (D.str x), some (D.ref S.length), some (D.tup (form.map D.str)), some (D.ref f), e4, e5]) ∧ ∃ qs, ((r.zip form).take (k + 1)).mapM (fun p => partIn p.2 p.1) = some qs ∧ lstOf (J.setL (S2 ++ T) f (D.str w :: ps ++ [e])) f = some (D.str w :: qs) := fun T e ρ he hρ => by
      have : lstOf (S2 ++ T) f = some (D.str w :: ps) := lstOf_old eps
      exact ⟨k2.app.setL (by simp), hρ, ps ++ [e], mapM_take hps hk he, lstOf_set (lstOf_lt this)⟩
    have hnone : partIn kd y = none → ∀ T, X "BadText" (S2 ++ T) := fun h T => by
      obtain ⟨T2, e2⟩ := ((((kA.mono (by simp)).trans k2).drop (by simpa using hSF)).app (T := T)).pre
      rw [e2]
      exact ex (by rw [mapM_none hm h]; rfl) _
    repeat' array_get_dec
    refine wp_eqS hkd (by decide +kernel) ?_
    array_get_dec
    refine wp_ifd (fun h4 => ?_) fun h4 => ?_
    · have e3 : partIn kd y = (numIn y).map D.int := by unfold partIn; rw [if_pos h4]
      rw [e3] at hfin hnone
      repeat' array_get_dec
      refine t_number_in hy.1 hy.2 (fun i hi T => ?_) fun hi T => hnone (by rw [hi]; rfl) T
      repeat' array_get_dec
      · rw [List.length_cons]; exact hb
      exact hfin T _ _ (by rw [hi]; rfl) ⟨_, _, rfl⟩
    · have e3 : NameOk y → partIn kd y = some (.str y) := fun h => by unfold partIn; rw [if_neg h4, if_pos h]
      have e4 : ¬ NameOk y → partIn kd y = none := fun h => by unfold partIn; rw [if_neg h4, if_neg h]
      repeat' array_get_dec
      refine t_name_in (x := y) (Nat.lt_trans hy.2 (by decide)) (fun hi T => ?_) fun hi T => hnone (e4 hi) T
      repeat' array_get_dec
      · rw [List.length_cons]; exact hb
      exact hfin T _ _ (e3 hi) ⟨_, _, rfl⟩
  · rintro _ S2 ⟨k2, ⟨e4, e5, rfl⟩, ps, hps, eps⟩
    rw [List.length_map, List.take_length] at hps
    repeat' array_get_dec
    refine wp_tupL eps ?_
    repeat' array_get_dec
    obtain ⟨T2, e2⟩ := (((kA.mono (by simp)).trans k2).drop (by simpa using hSF)).pre
    rw [e2]
    exact q _ (by rw [hps]; rfl) _
end
section
variable {Q : D → Sto → Prop} {X : Str → Sto → Prop} {S : Sto}
theorem t_cell {ns : List Int} {k : Nat} (hk : k < 64) (hl : ns.length ≤ 63) (hz : ∀ z ∈ ns, Builtin.Int.intBits z ≤ 1048576) (q : ∀ c, Sz 1048576 c → Q (.int c) S) :
    wp (f__law_cell [.rl ns, .int k] S) Q X := by
  refine wp_run ?_
  unfold b__law_cell
  repeat' array_get_dec
  refine wp_ifd (fun h => ?_) fun h => ?_
  · repeat' array_get_dec
    have h : k < ns.length := by omega
    refine wp_ixR (j := ns[k]) ?_ ?_
    · unfold atI ixN
      simp [h]
    · repeat' array_get_dec
      exact q _ (Sz.bits (hz _ (List.getElem_mem h)))
  · repeat' array_get_dec
    · omega
    · exact Sz.mulOk (n := 20) (m := 8) (Sz.mod (by decide) (.lit (by decide))) (.lit (by decide))
    · exact Sz.mulOk (n := 6) (m := 13) (.of (b := 64) (by omega) (by omega) (by decide)) (.lit (by decide))
    · exact Sz.mulOk (n := 6) (m := 17) (.of (b := 64) (by omega) (by omega) (by decide)) (.lit (by decide))
    · refine q _ ?_
      have h1 : Sz 28 (ns.sum % 1000003 * 131) := (Sz.mod (m := 20) (by decide) (.lit (by decide))).mul (.lit (n := 8) (by decide))
      have h2 : Sz 19 ((ns.length : Int) * 7919) := (Sz.of (n := 6) (b := 64) (by omega) (by omega) (by decide)).mul (.lit (n := 13) (by decide))
      have h3 : Sz 23 ((k : Int) * 104729) := (Sz.of (n := 6) (b := 64) (by omega) (by omega) (by decide)).mul (.lit (n := 17) (by decide))
      exact ((h1.add 29 h2).add 30 h3).mono (by decide)
end
section
variable {Q : D → Sto → Prop} {X : Str → Sto → Prop} {S : Sto}
theorem t_draws {c : Int} {n : Nat} {ps : List Int} (hc : Sz 1200000 c) (e : lstOf S n = some (ps.map D.int)) (hp : ∀ p ∈ ps, 0 < p ∧ Sz 300 p) (hl : ps.length < 64) (q : ∀ vs, Drawn ps vs → Q (.ref S.length) (S ++ [.lst (vs.map D.int)])) :
    wp (f__law_draws [.int c, .ref n] S) Q X := by
  refine wp_run ?_
  unfold b__law_draws
  refine wp_sSeq (wp_cut (fun o S' => S = S' ∧ ∃ c' x4 x5 x6, o = .next [some (.int c'), some (.ref n), none, none, x4, x5, x6] ∧ Sz 1200001 c') ?_ ?_)
  · repeat' array_get_dec
    refine wp_ifd (fun h => ?_) fun h => ?_
    · have a1 : Sz 31 ((c * 48271 + 11) % 2147483647) := .mod (by decide) (.lit (by decide))
      have a2 : ∀ z : Int, Sz 31 (z % 2147483399) := fun z => .mod (by decide) (.lit (by decide))
      have a3 : ∀ z : Int, Sz 30 (z % 1000000007) := fun z => .mod (by decide) (.lit (by decide))
      repeat' array_get_dec
      · exact hc.mulOk (m := 16) (.lit (by decide))
      · decide
      · exact a1.mulOk a1
      · exact Sz.mulOk (n := 16) (.lit (by decide)) a1
      · decide
      · exact Sz.mulOk (m := 17) (a2 _) (.lit (by decide))
      · decide
      · exact Sz.mulOk (n := 30) (.lit (by decide)) a1
      · exact Sz.mulOk (n := 31) (.lit (by decide)) ((a3 _).add 62 (.mul (.lit (n := 30) (by decide)) a1))
      · exact ⟨rfl, _, _, _, _, rfl, ((a2 _).add 1200001 (.mul (.lit (n := 31) (by decide)) ((a3 _).add 62 (.mul (.lit (n := 30) (by decide)) a1))))⟩
    · repeat' array_get_dec
      exact ⟨rfl, _, _, _, _, rfl, hc.sub 1200001 (.lit (n := 60) (by decide))⟩
  · rintro o S' ⟨rfl, c', x4, x5, x6, rfl, hc'⟩
    repeat' array_get_dec
    refine wp_for (fun k ρ S' => ∃ c' x3 vs, ρ = [some (.int c'), some (.ref n), some (.ref S.length), x3, x4, x5, x6] ∧ S' = S ++ [.lst (vs.map D.int)] ∧ Drawn (ps.take k) vs ∧ Sz 1200001 c') ⟨c', _, [], rfl, rfl, .nil, hc'⟩ ?_ ?_ ?_
    · rintro k ρ S' _ ⟨c', x3, vs, rfl, rfl, _⟩
      exact lstOf_old e
    · rintro k d ρ S' hk ⟨c', x3, vs, rfl, rfl, hd, hc'⟩
      simp only [List.getElem?_map, Option.map_eq_some_iff] at hk
      obtain ⟨p, hk, rfl⟩ := hk
      obtain ⟨p0, p1⟩ := hp p (List.mem_of_getElem? hk)
      have hvl := hd.length
      simp at hvl
      repeat' array_get_dec
      · exact p0
      · exact lim_of (by simp; omega)
      · exact Sz.divOk p0 p1
      · refine ⟨c' / p, some (.int p), vs ++ [c' % p], rfl, by simp, ?_, hc'.div p0⟩
        rw [List.take_add_one, hk]
        exact hd.snoc (Int.emod_nonneg _ (by omega)) (Int.emod_lt_of_pos _ p0)
    · rintro ρ S' ⟨c', x3, vs, rfl, rfl, hd, hc'⟩
      repeat' array_get_dec
      simp only [List.length_map, List.take_length] at hd
      exact q vs hd
theorem t_drawsG {S0 : Sto} {c : Int} {n : Nat} {ps : List Int} (h0 : ∃ T, S = S0 ++ T) (hc : Sz 1200000 c) (e : lstOf S n = some (ps.map D.int)) (hp : ∀ p ∈ ps, 0 < p ∧ Sz 300 p) (hl : ps.length < 64) (q : ∀ vs T k, Drawn ps vs → lstOf (S0 ++ T) k = some (vs.map D.int) → S0.length ≤ k → Q (.ref k) (S0 ++ T)) :
    wp (f__law_draws [.int c, .ref n] S) Q X := by
  obtain ⟨T, rfl⟩ := h0
  refine t_draws hc e hp hl fun vs hv => ?_
  have h1 := lstOf_new (S := S0 ++ T) (c := vs.map D.int)
  have h2 : S0.length ≤ (S0 ++ T).length := by simp
  generalize (S0 ++ T).length = k at h1 h2 ⊢
  rw [List.append_assoc] at h1 ⊢
  exact q _ _ _ hv h1 h2
end
/-- what a cell's drawing begins with -/
def dc (c : Int) : Int := if c < 10 ^ 18 then
  (((c * 48271 + 11) % 2147483647 * ((c * 48271 + 11) % 2147483647) + 40692 * ((c * 48271 + 11) % 2147483647) + c) % 2147483399) + 2147483399 * (((((c * 48271 + 11) % 2147483647 * ((c * 48271 + 11) % 2147483647) + 40692 * ((c * 48271 + 11) % 2147483647) + c) % 2147483399) * 69621 + (c * 48271 + 11) % 2147483647) % 1000000007 + 1000000007 * ((c * 48271 + 11) % 2147483647))
  else c - 10 ^ 18
def dig : Int → List Int → List Int
  | _, [] => []
  | c, p :: ps => c % p :: dig (c / p) ps
theorem dig_drawn : ∀ {ps : List Int} {c : Int} {ws vs : List Int}, (∀ p ∈ ps, 0 < p) → Drawn ws vs → Drawn (ws ++ ps) (vs ++ dig c ps)
  | [], c, ws, vs, _, h => by rw [List.append_nil, dig, List.append_nil]; exact h
  | p :: ps, c, ws, vs, hp, h => by
    have p0 := hp p (by simp)
    have := dig_drawn (ps := ps) (c := c / p) (fun q hq => hp q (by simp [hq])) (h.snoc (p := p) (Int.emod_nonneg c (show p ≠ 0 by omega)) (Int.emod_lt_of_pos c p0))
    rw [List.append_assoc, List.append_assoc] at this
    exact this
section
variable {Q : D → Sto → Prop} {X : Str → Sto → Prop} {S : Sto}
/-- the same as t_draws, and what is drawn is told -/
theorem t_drawsV {c : Int} {n : Nat} {ps : List Int} (hc : Sz 1200000 c) (e : lstOf S n = some (ps.map D.int)) (hp : ∀ p ∈ ps, 0 < p ∧ Sz 300 p) (hl : ps.length < 64) (q : Drawn ps (dig (dc c) ps) → Q (.ref S.length) (S ++ [.lst ((dig (dc c) ps).map D.int)])) :
    wp (f__law_draws [.int c, .ref n] S) Q X := by
  have hdr : Drawn ps (dig (dc c) ps) := dig_drawn (ws := []) (vs := []) (fun p h => (hp p h).1) .nil
  refine wp_run ?_
  unfold b__law_draws
  refine wp_sSeq (wp_cut (fun o S' => S = S' ∧ ∃ x4 x5 x6, o = .next [some (.int (dc c)), some (.ref n), none, none, x4, x5, x6] ∧ Sz 1200001 (dc c)) ?_ ?_)
  · repeat' array_get_dec
    refine wp_ifd (fun h => ?_) fun h => ?_
    · have a1 : Sz 31 ((c * 48271 + 11) % 2147483647) := .mod (by decide) (.lit (by decide))
      have a2 : ∀ z : Int, Sz 31 (z % 2147483399) := fun z => .mod (by decide) (.lit (by decide))
      have a3 : ∀ z : Int, Sz 30 (z % 1000000007) := fun z => .mod (by decide) (.lit (by decide))
      rw [show dc c = _ from if_pos h]
      repeat' array_get_dec
      · exact hc.mulOk (m := 16) (.lit (by decide))
      · decide
      · exact a1.mulOk a1
      · exact Sz.mulOk (n := 16) (.lit (by decide)) a1
      · decide
      · exact Sz.mulOk (m := 17) (a2 _) (.lit (by decide))
      · decide
      · exact Sz.mulOk (n := 30) (.lit (by decide)) a1
      · exact Sz.mulOk (n := 31) (.lit (by decide)) ((a3 _).add 62 (.mul (.lit (n := 30) (by decide)) a1))
      · exact ⟨rfl, _, _, _, rfl, ((a2 _).add 1200001 (.mul (.lit (n := 31) (by decide)) ((a3 _).add 62 (.mul (.lit (n := 30) (by decide)) a1))))⟩
    · rw [show dc c = _ from if_neg h]
      repeat' array_get_dec
      exact ⟨rfl, _, _, _, rfl, hc.sub 1200001 (.lit (n := 60) (by decide))⟩
  · rintro o S' ⟨rfl, x4, x5, x6, rfl, hc'⟩
    generalize dc c = c0 at *
    repeat' array_get_dec
    refine wp_for (fun k ρ S' => ∃ c' x3 vs, ρ = [some (.int c'), some (.ref n), some (.ref S.length), x3, x4, x5, x6] ∧ S' = S ++ [.lst (vs.map D.int)] ∧ vs.length = k ∧ vs ++ dig c' (ps.drop k) = dig c0 ps ∧ Sz 1200001 c') ⟨c0, _, [], rfl, rfl, rfl, rfl, hc'⟩ ?_ ?_ ?_
    · rintro k ρ S' _ ⟨c', x3, vs, rfl, rfl, _⟩
      exact lstOf_old e
    · rintro k d ρ S' hk ⟨c', x3, vs, rfl, rfl, hvl, hd, hc'⟩
      simp only [List.getElem?_map, Option.map_eq_some_iff] at hk
      obtain ⟨p, hk, rfl⟩ := hk
      obtain ⟨p0, p1⟩ := hp p (List.mem_of_getElem? hk)
      have hkl := (List.getElem?_eq_some_iff.mp hk).1
      repeat' array_get_dec
      · exact p0
      · exact lim_of (by simp; omega)
      · exact Sz.divOk p0 p1
      · refine ⟨c' / p, some (.int p), vs ++ [c' % p], rfl, by simp, by simp [hvl], ?_, hc'.div p0⟩
        rw [← hd, List.drop_eq_getElem_cons hkl, (List.getElem?_eq_some_iff.mp hk).2, dig, List.append_assoc]
        rfl
    · rintro ρ S' ⟨c', x3, vs, rfl, rfl, hvl, hd, hc'⟩
      repeat' array_get_dec
      rw [List.length_map, List.drop_length, dig, List.append_nil] at hd
      rw [hd]
      exact q hdr
end
section
variable {Q : D → Sto → Prop} {X : Str → Sto → Prop} {S : Sto}
theorem t_splitS {c m : Int} (hc : Sz 1048576 c) (hm : 0 ≤ m ∧ m < 30) (q : ∀ vs : List Int, vs.length = m.toNat → (∀ v ∈ vs, Sz 1100000 v) → Q (.ref S.length) (S ++ [.lst (vs.map D.int)])) : wp (f__law_split [.int c, .int m] S) Q X := by
  unfold f__law_split
  refine wp_run ?_
  unfold b__law_split
  repeat' array_get_dec
  refine ⟨small_of (by omega) (by omega), ?_⟩
  refine wp_for (fun k ρ S' => ∃ c' x4 vs, ρ = [some (.int c'), some (.int m), some (.ref S.length), some (.bl (decide (1000000000000000000 ≤ c))), x4] ∧ S' = S ++ [.lst (vs.map D.int)] ∧ vs.length = k ∧ (∀ v ∈ vs, Sz 1100000 v) ∧ Sz 1048576 c') ⟨c, _, [], rfl, rfl, rfl, by simp, hc⟩ ?_ ?_ ?_
  · intros; trivial
  · rintro k d ρ S' hk ⟨c', x4, vs, rfl, rfl, hk', hv, hc'⟩
    obtain ⟨rfl, hkm⟩ := rngD_at hk
    have ap : ∀ v : Int, Sz 1100000 v → ∀ u ∈ vs ++ [v], Sz 1100000 u := fun v hv' u hu => by
      rcases List.mem_append.mp hu with h | h
      · exact hv u h
      · rw [List.mem_singleton] at h; subst h; exact hv'
    have hkz : Sz 10 ((0 : Int) + k) := .of (b := 1000) (by omega) (by omega) (by decide)
    repeat' array_get_dec
    refine wp_ifd (fun h => ?_) fun h => ?_
    · repeat' array_get_dec
      · decide
      · exact lim_of (by simp; omega)
      · exact Sz.divOk (by decide) (.lit (n := 100) (by decide))
      · exact ⟨_, _, vs ++ [1000000000000000000 + c' % 1000000000000000000000000000000], rfl, by simp, by simp [hk'], ap _ (.add 1100000 (.lit (n := 60) (by decide)) (.mod (by decide) (.lit (n := 100) (by decide)))), .div (by decide) hc'⟩
    · have k2 : Sz 20 (2 * ((0 : Int) + k) + 3) := (Sz.mul (.lit (n := 2) (by decide)) hkz).add 20 (.lit (n := 2) (by decide))
      repeat' array_get_dec
      · exact Sz.mulOk (.lit (n := 2) (by decide)) hkz
      · exact hc'.mulOk k2
      · exact Sz.mulOk (.lit (n := 13) (by decide)) hkz
      · exact lim_of (by simp; omega)
      · exact ⟨_, _, vs ++ [c' * (2 * ((0 : Int) + k) + 3) + 7919 * ((0 : Int) + k)], rfl, by simp, by simp [hk'], ap _ ((hc'.mul k2).add 1100000 (.mul (.lit (n := 13) (by decide)) hkz)), hc'⟩
  · rintro ρ S' ⟨c', x4, vs, rfl, rfl, hk', hv, hc'⟩
    repeat' array_get_dec
    rw [rngD_len] at hk'
    exact q vs hk' hv
theorem t_split {c m : Int} (hc : Sz 1048576 c) (hm : 0 ≤ m ∧ m < 30) (q : ∀ vs : List Int, vs.length = m.toNat → (∀ v ∈ vs, Sz 1200000 v) → Q (.ref S.length) (S ++ [.lst (vs.map D.int)])) : wp (f__law_split [.int c, .int m] S) Q X :=
  t_splitS hc hm fun vs h1 h2 => q vs h1 fun v hv => (h2 v hv).mono (by decide)
end
section
variable {Q : D → Sto → Prop} {X : Str → Sto → Prop} {S : Sto}
theorem t_many {ns : List Int} {few : Int} (hl : ns.length ≤ 63) (hf : 0 ≤ few ∧ few ≤ 63) (q : ∀ m : Int, 0 ≤ m → m ≤ 63 → Q (.int m) S) : wp (f__law_many [.rl ns, .int few] S) Q X := by
  refine wp_run ?_
  unfold b__law_many
  repeat' array_get_dec
  refine q _ ?_ ?_
  · split <;> split <;> omega
  · split <;> split <;> omega
end
section
variable {Q : D → Sto → Prop} {X : Str → Sto → Prop} {S : Sto}
theorem same_tail {n : Nat} {d e : D} {xs ys : List D} (hl : xs.length = ys.length) (hm : xs.length < LIM) (h : ∀ (k : Nat) (x y : D), xs[k]? = some x → ys[k]? = some y → Sm S n x y)
    (ih : ∀ (d e : D) (S : Sto) (Q : D → Sto → Prop) (X : Str → Sto → Prop), Sm S n d e → (∀ T, Q (.bl true) (S ++ T)) → wp (f__law_same n [d, e] S) Q X) (q : ∀ T, Q (.bl true) (S ++ T))
    (h1 : ∀ T Q X, Q (.int xs.length) (S ++ T) → wp (bLen [d] (S ++ T)) Q X) (h2 : ∀ T Q X, Q (.int ys.length) (S ++ T) → wp (bLen [e] (S ++ T)) Q X)
    (i1 : ∀ T Q X (k : Nat) (x : D), xs[k]? = some x → Q x (S ++ T) → wp (oIx d (.int (k : Nat)) (S ++ T)) Q X) (i2 : ∀ T Q X (k : Nat) (y : D), ys[k]? = some y → Q y (S ++ T) → wp (oIx e (.int (k : Nat)) (S ++ T)) Q X) :
    wp (sRet (iAnd (iBin oEq (iCallF bLen (aCons (iV 0) (aNil))) (iCallF bLen (aCons (iV 1) (aNil)))) (iCallF bAll (aCons (iLc (sqR1 (iCallF bLen (aCons (iV 1) (aNil)))) (gN 2) (tYesJ) (iCallF (f__law_same n) (aCons (iBin oIx (iV 0) (iV 2)) (aCons (iBin oIx (iV 1) (iV 2)) (aNil)))) [2]) (aNil)))) [some d, some e, none] S) (runK Q) X := by
  have e0 : S ++ [] = S := List.append_nil S
  have hm' : xs.length < 1000000 := hm
  have q := q
  have h1' := h1 []
  have h2' := h2 []
  rw [e0] at h1' h2'
  repeat' array_get_dec
  refine h1' _ _ ?_
  repeat' array_get_dec
  refine h2' _ _ ?_
  repeat' array_get_dec
  refine wp_ifd (fun _ => ?_) fun h => absurd (by rw [hl]) h
  repeat' array_get_dec
  refine h2' _ _ ?_
  repeat' array_get_dec
  refine ⟨small_of (by omega) (by omega), ?_⟩
  refine wp_lc (by rw [rngD_len]; show _ < 1000000; omega) (fun k acc S' => acc = List.replicate k (.bl true) ∧ ∃ T, S' = S ++ T) ⟨rfl, [], e0.symm⟩ (fun _ _ _ _ _ => trivial) ?_ ?_
  · rintro k dd acc S' hk ⟨rfl, T, rfl⟩
    obtain ⟨rfl, hk⟩ := rngD_at hk
    rw [Int.zero_add]
    obtain ⟨x, hx⟩ := atI_old (xs := xs) (k := k) (by omega)
    obtain ⟨y, hy⟩ := atI_old (xs := ys) (k := k) (by omega)
    repeat' array_get_dec
    refine i1 _ _ _ _ _ hx ?_
    repeat' array_get_dec
    refine i2 _ _ _ _ _ hy ?_
    repeat' array_get_dec
    refine ih _ _ _ _ _ (h k x y hx hy).old fun T' => ?_
    rw [if_pos rfl]
    exact ⟨by rw [List.replicate_succ'], T ++ T', List.append_assoc ..⟩
  · rintro acc S' ⟨rfl, T, rfl⟩
    repeat' array_get_dec
    rw [rep_bl]
    refine wp_all (lstOf_new (c := _)) ?_
    repeat' array_get_dec
    have : (List.replicate (rngD 0 (Int.toNat ys.length)).length true).all id = true := by simp
    rw [this]
    rw [List.append_assoc]
    exact q _
theorem t_same : ∀ (n : Nat) (d e : D) (S : Sto) (Q : D → Sto → Prop) (X : Str → Sto → Prop), Sm S n d e → (∀ T, Q (.bl true) (S ++ T)) → wp (f__law_same n [d, e] S) Q X := by
  intro n
  induction n with
  | zero => intro d e S Q X h; cases h
  | succ n ih =>
    intro d e S Q X h q
    have q0 := q []
    rw [List.append_nil] at q0
    refine wp_run ?_
    unfold b__law_same
    cases h with
    | non =>
      repeat' array_get_dec
      exact q0
    | bl =>
      repeat' array_get_dec
      simp only [decide_true]
      exact q0
    | int =>
      repeat' array_get_dec
      simp only [decide_true]
      exact q0
    | str h =>
      repeat' array_get_dec
      have e1 : toP 8 S (.str ‹Str›) = some (.str ‹Str›) := by simp only [toP, h, if_true]
      refine wp_eqD e1 e1 ?_
      rw [eqv_str]
      repeat' array_get_dec
      exact q0
    | tup hl hm h =>
      repeat' array_get_dec
      refine wp_ifnd (fun _ => ?_) fun h => absurd rfl h
      repeat' array_get_dec
      refine wp_ifnd (fun _ => ?_) fun h => absurd rfl h
      iterate 2 array_get_dec
      refine same_tail hl hm h ih q (fun T Q X w => wp_lenT w) (fun T Q X w => wp_lenT w) (fun T Q X k x hx w => wp_ixT (atI_jn hx) w) (fun T Q X k x hx w => wp_ixT (atI_jn hx) w)
    | lst ha hb hl hm h =>
      repeat' array_get_dec
      refine wp_ifnd (fun _ => ?_) fun h => absurd rfl h
      repeat' array_get_dec
      refine wp_ifnd (fun _ => ?_) fun h => absurd rfl h
      iterate 2 array_get_dec
      refine same_tail hl hm h ih q (fun T Q X w => wp_lenL (lstOf_old ha) w) (fun T Q X w => wp_lenL (lstOf_old hb) w) (fun T Q X k x hx w => wp_ixL (lstOf_old ha) (atI_jn hx) w) (fun T Q X k x hx w => wp_ixL (lstOf_old hb) (atI_jn hx) w)
end

/-! ### deeds and yards as texts -/
abbrev num (i : Int) : Str := Str.ofString (toString i)
def partsT : Deed → List Str
  | .lay w => "lay" :: (w.map fun p => [num p.1, num p.2]).flatten
  | .hire x p => ["hire", x, num p]
  | .dismiss x => ["dismiss", x]
  | .send x k => ["send", x, num k]
  | .call x => ["call", x]
  | .stay x => ["stay", x]
  | .swap x => ["swap", x]
  | .pace x p => ["pace", x, num p]
  | .go a b => ["go", num a, num b]
  | .outs k n => ["outs", num k, num n]
noncomputable def deedT (d : Deed) : Str := Txt.join " " (partsT d)
noncomputable def yardT (ds : List Deed) : Str := Txt.join "\n" ("yard" :: ds.map deedT)
/-- a deed whose text is told -/
def TxOk : Deed → Prop
  | .lay w => 1 ≤ w.length ∧ w.length ≤ 10 ∧ ∀ p ∈ w, Sz 1000 p.1 ∧ Sz 1000 p.2
  | .hire x p | .send x p | .pace x p => (x.length ≤ 100 ∧ PySem.PyData.strOk x = true) ∧ Sz 1000 p
  | .dismiss x | .call x | .stay x | .swap x => x.length ≤ 100 ∧ PySem.PyData.strOk x = true
  | .go a b | .outs a b => Sz 1000 a ∧ Sz 1000 b
theorem str_app (a b c : Str) : a ++ b ++ c = a ++ (b ++ c) := by
  show (⟨a.cps ++ b.cps ++ c.cps⟩ : Str) = ⟨a.cps ++ (b.cps ++ c.cps)⟩
  rw [Array.append_assoc]
theorem join_cons (s x y : Str) (r : List Str) : Str.join s (x :: y :: r) = x ++ s ++ Str.join s (y :: r) := rfl
theorem strOk_join {s : Str} (hs : PySem.PyData.strOk s = true) : ∀ {l : List Str}, (∀ x ∈ l, PySem.PyData.strOk x = true) → PySem.PyData.strOk (Str.join s l) = true
  | [], _ => by
    show PySem.PyData.strOk Str.empty = true
    decide +kernel
  | [x], h => h x (by simp)
  | x :: y :: r, h => by
    rw [join_cons]
    exact strOk_app (strOk_app (h x (by simp)) hs) (strOk_join hs fun z hz => h z (by simp [hz]))
theorem lay_join {w : List (Int × Int)} : w ≠ [] → Str.join " " ("lay" :: (w.map fun p => [num p.1, num p.2]).flatten) = "lay " ++ Str.join " " (w.map fun p => num p.1 ++ " " ++ num p.2) := by
  have key : ∀ (w : List (Int × Int)) (p : Int × Int), Str.join " " ((((p :: w)).map fun p => [num p.1, num p.2]).flatten) = Str.join " " ((p :: w).map fun p => num p.1 ++ " " ++ num p.2) := fun w => by
    induction w with
    | nil => intro p; rfl
    | cons r w ih =>
      intro p
      have h1 : ((p :: r :: w).map fun p => [num p.1, num p.2]).flatten = num p.1 :: num p.2 :: num r.1 :: num r.2 :: (w.map fun p => [num p.1, num p.2]).flatten := rfl
      have h2 : ((r :: w).map fun p => [num p.1, num p.2]).flatten = num r.1 :: num r.2 :: (w.map fun p => [num p.1, num p.2]).flatten := rfl
      rw [h1, join_cons, join_cons, ← h2, ih r]
      show _ = num p.1 ++ " " ++ num p.2 ++ " " ++ Str.join " " ((r :: w).map fun p => num p.1 ++ " " ++ num p.2)
      repeat rw [str_app]
  intro hw
  match w, hw with
  | p :: w, _ =>
    have h2 : ((p :: w).map fun p => [num p.1, num p.2]).flatten = num p.1 :: num p.2 :: (w.map fun p => [num p.1, num p.2]).flatten := rfl
    rw [h2, join_cons, ← h2, key w p]
    have : ("lay" : Str) ++ " " = "lay " := by decide +kernel
    rw [this]
theorem partsT_ok {d : Deed} (h : TxOk d) : ∀ x ∈ partsT d, PySem.PyData.strOk x = true := by
  have ni : ∀ i : Int, PySem.PyData.strOk (num i) = true := fun i => strOk_int i
  cases d with
  | lay w =>
    intro x hx
    rcases List.mem_cons.mp hx with rfl | hx
    · decide +kernel
    · obtain ⟨l, hl, hx⟩ := List.mem_flatten.mp hx
      obtain ⟨p, _, rfl⟩ := List.mem_map.mp hl
      simp only [List.mem_cons, List.not_mem_nil, or_false] at hx
      rcases hx with rfl | rfl <;> exact ni _
  | hire y p => intro x hx; simp only [partsT, List.mem_cons, List.not_mem_nil, or_false] at hx; rcases hx with rfl | rfl | rfl; (decide +kernel); (exact h.1.2); exact ni _
  | send y p => intro x hx; simp only [partsT, List.mem_cons, List.not_mem_nil, or_false] at hx; rcases hx with rfl | rfl | rfl; (decide +kernel); (exact h.1.2); exact ni _
  | pace y p => intro x hx; simp only [partsT, List.mem_cons, List.not_mem_nil, or_false] at hx; rcases hx with rfl | rfl | rfl; (decide +kernel); (exact h.1.2); exact ni _
  | dismiss y => intro x hx; simp only [partsT, List.mem_cons, List.not_mem_nil, or_false] at hx; rcases hx with rfl | rfl; (decide +kernel); exact h.2
  | call y => intro x hx; simp only [partsT, List.mem_cons, List.not_mem_nil, or_false] at hx; rcases hx with rfl | rfl; (decide +kernel); exact h.2
  | stay y => intro x hx; simp only [partsT, List.mem_cons, List.not_mem_nil, or_false] at hx; rcases hx with rfl | rfl; (decide +kernel); exact h.2
  | swap y => intro x hx; simp only [partsT, List.mem_cons, List.not_mem_nil, or_false] at hx; rcases hx with rfl | rfl; (decide +kernel); exact h.2
  | go a b => intro x hx; simp only [partsT, List.mem_cons, List.not_mem_nil, or_false] at hx; rcases hx with rfl | rfl | rfl; (decide +kernel); (exact ni _); exact ni _
  | outs a b => intro x hx; simp only [partsT, List.mem_cons, List.not_mem_nil, or_false] at hx; rcases hx with rfl | rfl | rfl; (decide +kernel); (exact ni _); exact ni _
theorem deedT_ok {d : Deed} (h : TxOk d) : PySem.PyData.strOk (deedT d) = true := by
  unfold deedT
  rw [show Txt.join " " (partsT d) = Str.join " " (partsT d) from StrLaws.glued_eq_join _ _]
  exact strOk_join (by decide +kernel) (partsT_ok h)
theorem yardT_ok {ds : List Deed} (h : ∀ d ∈ ds, TxOk d) : PySem.PyData.strOk (yardT ds) = true := by
  unfold yardT
  rw [show Txt.join "\n" ("yard" :: ds.map deedT) = Str.join "\n" ("yard" :: ds.map deedT) from StrLaws.glued_eq_join _ _]
  refine strOk_join (by decide +kernel) fun x hx => ?_
  rcases List.mem_cons.mp hx with rfl | hx
  · decide +kernel
  · obtain ⟨d, hd, rfl⟩ := List.mem_map.mp hx
    exact deedT_ok (h d hd)
theorem len_parts {d : Deed} (h : TxOk d) : ((partsT d).map (·.length)).sum + (partsT d).length ≤ 50000 := by
  have ni : ∀ i : Int, Sz 1000 i → (num i).length ≤ 2000 := fun i hi => len_int (hi.log2 (by decide))
  cases d with
  | lay w =>
    obtain ⟨h1, h2, h3⟩ := h
    have key : ∀ l : List (Int × Int), (∀ p ∈ l, Sz 1000 p.1 ∧ Sz 1000 p.2) → ((l.map fun p => [num p.1, num p.2]).flatten.map (·.length)).sum ≤ 4000 * l.length ∧ (l.map fun p => [num p.1, num p.2]).flatten.length = 2 * l.length := fun l hl => by
      induction l with
      | nil => exact ⟨Nat.le_refl _, rfl⟩
      | cons p l ih =>
        obtain ⟨i1, i2⟩ := ih fun q hq => hl q (by simp [hq])
        obtain ⟨s1, s2⟩ := hl p (by simp)
        have n1 := ni _ s1
        have n2 := ni _ s2
        have e1 : ((p :: l).map fun p => [num p.1, num p.2]).flatten = num p.1 :: num p.2 :: (l.map fun p => [num p.1, num p.2]).flatten := rfl
        rw [e1]
        simp only [List.map_cons, List.sum_cons, List.length_cons] at i1 i2 ⊢
        omega
    obtain ⟨k1, k2⟩ := key w h3
    show ((("lay" : Str) :: _).map (·.length)).sum + (("lay" : Str) :: _).length ≤ 50000
    have : ("lay" : Str).length = 3 := by decide +kernel
    simp only [List.map_cons, List.sum_cons, List.length_cons]
    omega
  | hire y p => have a := ni _ h.2; have b := h.1.1; have c : ("hire" : Str).length ≤ 10 := (by decide +kernel); simp only [partsT, List.map_cons, List.map_nil, List.sum_cons, List.sum_nil, List.length_cons, List.length_nil]; omega
  | send y p => have a := ni _ h.2; have b := h.1.1; have c : ("send" : Str).length ≤ 10 := (by decide +kernel); simp only [partsT, List.map_cons, List.map_nil, List.sum_cons, List.sum_nil, List.length_cons, List.length_nil]; omega
  | pace y p => have a := ni _ h.2; have b := h.1.1; have c : ("pace" : Str).length ≤ 10 := (by decide +kernel); simp only [partsT, List.map_cons, List.map_nil, List.sum_cons, List.sum_nil, List.length_cons, List.length_nil]; omega
  | dismiss y => have b := h.1; have c : ("dismiss" : Str).length ≤ 10 := (by decide +kernel); simp only [partsT, List.map_cons, List.map_nil, List.sum_cons, List.sum_nil, List.length_cons, List.length_nil]; omega
  | call y => have b := h.1; have c : ("call" : Str).length ≤ 10 := (by decide +kernel); simp only [partsT, List.map_cons, List.map_nil, List.sum_cons, List.sum_nil, List.length_cons, List.length_nil]; omega
  | stay y => have b := h.1; have c : ("stay" : Str).length ≤ 10 := (by decide +kernel); simp only [partsT, List.map_cons, List.map_nil, List.sum_cons, List.sum_nil, List.length_cons, List.length_nil]; omega
  | swap y => have b := h.1; have c : ("swap" : Str).length ≤ 10 := (by decide +kernel); simp only [partsT, List.map_cons, List.map_nil, List.sum_cons, List.sum_nil, List.length_cons, List.length_nil]; omega
  | go a b => have a := ni _ h.1; have b := ni _ h.2; have c : ("go" : Str).length ≤ 10 := (by decide +kernel); simp only [partsT, List.map_cons, List.map_nil, List.sum_cons, List.sum_nil, List.length_cons, List.length_nil]; omega
  | outs a b => have a := ni _ h.1; have b := ni _ h.2; have c : ("outs" : Str).length ≤ 10 := (by decide +kernel); simp only [partsT, List.map_cons, List.map_nil, List.sum_cons, List.sum_nil, List.length_cons, List.length_nil]; omega
theorem len_deedT {d : Deed} (h : TxOk d) : (deedT d).length ≤ 50000 := by
  unfold deedT
  rw [show Txt.join " " (partsT d) = Str.join " " (partsT d) from StrLaws.glued_eq_join _ _]
  have h1 := StrLaws.join_length_le " " (partsT d)
  have h2 := len_parts h
  have : (" " : Str).length = 1 := by decide +kernel
  rw [this, Nat.mul_one] at h1
  omega

section
variable {Q : D → Sto → Prop} {X : Str → Sto → Prop} {S : Sto}
theorem wp_strS {x : Str} (q : Q (.str x) S) : wp (bStr [.str x] S) Q X := by
  have e : bStr [.str x] S = .ok (.str x) S := rfl
  exact wp_eq e q
/-- the parts of a deed that is no laying -/
def argsD : Deed → List D
  | .lay w => [.str "lay", .tup (w.map pD)]
  | .hire x p => [.str "hire", .str x, .int p]
  | .dismiss x => [.str "dismiss", .str x]
  | .send x k => [.str "send", .str x, .int k]
  | .call x => [.str "call", .str x]
  | .stay x => [.str "stay", .str x]
  | .swap x => [.str "swap", .str x]
  | .pace x p => [.str "pace", .str x, .int p]
  | .go a b => [.str "go", .int a, .int b]
  | .outs k n => [.str "outs", .int k, .int n]
theorem deedD_args (d : Deed) : deedD d = .tup (argsD d) := by cases d <;> rfl
def IsTx (d : D) (x : Str) : Prop := d = .str x ∨ ∃ i, d = .int i ∧ Sz 1000 i ∧ x = num i
theorem args_tx {d : Deed} (h : TxOk d) (hn : ∀ w, d ≠ .lay w) : (argsD d).length = (partsT d).length ∧ (argsD d).length ≤ 3 ∧ ∀ (k : Nat) a x, (argsD d)[k]? = some a → (partsT d)[k]? = some x → IsTx a x := by
  have three : ∀ {a b c : D} {x y z : Str}, IsTx a x → IsTx b y → IsTx c z → ∀ (k : Nat) d w, ([a, b, c] : List D)[k]? = some d → [x, y, z][k]? = some w → IsTx d w := fun h1 h2 h3 k d w e1 e2 => by
    match k, e1, e2 with
    | 0, e1, e2 => cases e1; cases e2; exact h1
    | 1, e1, e2 => cases e1; cases e2; exact h2
    | 2, e1, e2 => cases e1; cases e2; exact h3
    | k + 3, e1, e2 => simp at e1
  have two : ∀ {a b : D} {x y : Str}, IsTx a x → IsTx b y → ∀ (k : Nat) d w, ([a, b] : List D)[k]? = some d → [x, y][k]? = some w → IsTx d w := fun h1 h2 k d w e1 e2 => by
    match k, e1, e2 with
    | 0, e1, e2 => cases e1; cases e2; exact h1
    | 1, e1, e2 => cases e1; cases e2; exact h2
    | k + 2, e1, e2 => simp at e1
  have ss : ∀ {x : Str}, IsTx (.str x) x := .inl rfl
  have ii : ∀ {i : Int}, Sz 1000 i → IsTx (.int i) (num i) := fun h => .inr ⟨_, rfl, h, rfl⟩
  cases d with
  | lay w => exact absurd rfl (hn w)
  | hire x p => exact ⟨rfl, Nat.le_refl _, three ss ss (ii h.2)⟩
  | send x p => exact ⟨rfl, Nat.le_refl _, three ss ss (ii h.2)⟩
  | pace x p => exact ⟨rfl, Nat.le_refl _, three ss ss (ii h.2)⟩
  | dismiss x => exact ⟨rfl, by show 2 ≤ 3; decide, two ss ss⟩
  | call x => exact ⟨rfl, by show 2 ≤ 3; decide, two ss ss⟩
  | stay x => exact ⟨rfl, by show 2 ≤ 3; decide, two ss ss⟩
  | swap x => exact ⟨rfl, by show 2 ≤ 3; decide, two ss ss⟩
  | go a b => exact ⟨rfl, Nat.le_refl _, three ss (ii h.1) (ii h.2)⟩
  | outs a b => exact ⟨rfl, Nat.le_refl _, three ss (ii h.1) (ii h.2)⟩
theorem wp_strT {d : D} {x : Str} (h : IsTx d x) (q : Q (.str x) S) : wp (bStr [d] S) Q X := by
  rcases h with rfl | ⟨i, rfl, h1, rfl⟩
  · exact wp_strS q
  · exact wp_strI (h1.log2 (by decide)) q
theorem args0 {d : Deed} : ∃ w r, argsD d = .str w :: r ∧ PySem.PyData.strOk w = true ∧ (w = ("lay" : Str) ↔ ∃ v, d = .lay v) := by
  cases d with
  | lay w => exact ⟨_, _, rfl, by decide +kernel, fun _ => ⟨w, rfl⟩, fun _ => rfl⟩
  | _ => exact ⟨_, _, rfl, by decide +kernel, fun h => absurd h (by decide +kernel), fun ⟨v, h⟩ => by cases h⟩
theorem t_deed_text {d : Deed} (h : TxOk d) (q : ∀ S', Kp [] S S' → Q (.str (deedT d)) S') : wp (f_deed_text [deedD d] S) Q X := by
  have hlp := len_parts h
  have sp1 : (" " : Str).length = 1 := by decide +kernel
  rw [deedD_args]
  obtain ⟨w0, r0, e0, ok0, hw0⟩ := args0 (d := d)
  refine wp_run ?_
  unfold b_deed_text
  repeat' array_get_dec
  refine wp_ixT (by rw [e0]; exact atI_0) ?_
  repeat' array_get_dec
  refine wp_neS ok0 (by decide +kernel) ?_
  by_cases hlay : ∃ v, d = .lay v
  · rw [show (!decide (w0 = ("lay" : Str))) = false by simp [hw0.mpr hlay]]
    obtain ⟨w, rfl⟩ := hlay
    obtain ⟨w1, w10, wp⟩ := h
    repeat' array_get_dec
    refine wp_ixT (by exact atI_1) ?_
    repeat' array_get_dec
    refine wp_for (fun k ρ S' => (∃ x2 x3 x4, ρ = [some (.tup (argsD (.lay w))), some (.ref S.length), x2, x3, x4]) ∧ Kp [] S S' ∧ lstOf S' S.length = some (((("lay" : Str) :: ((w.take k).map fun p => [num p.1, num p.2]).flatten)).map D.str)) ⟨⟨_, _, _, rfl⟩, .add, lstOf_new⟩ (fun _ _ _ _ _ => trivial) ?_ ?_
    · rintro k dd ρ S' hk ⟨⟨x2, x3, x4, rfl⟩, kk, el⟩
      have hk : (w.map pD)[k]? = some dd := hk
      rw [List.getElem?_map, Option.map_eq_some_iff] at hk
      obtain ⟨p, hp, rfl⟩ := hk
      obtain ⟨p1, p2⟩ := wp p (List.mem_of_getElem? hp)
      unfold pD
      repeat' array_get_dec
      refine wp_strI (p1.log2 (by decide)) ?_
      repeat' array_get_dec
      refine wp_strI (p2.log2 (by decide)) ?_
      repeat' array_get_dec
      have hkw := (List.getElem?_eq_some_iff.mp hp).1
      have hfl : ∀ l : List (Int × Int), (l.map fun p => [num p.1, num p.2]).flatten.length = 2 * l.length := fun l => by
        induction l with
        | nil => rfl
        | cons a l ih =>
          show (num a.1 :: num a.2 :: (l.map fun p => [num p.1, num p.2]).flatten).length = 2 * (a :: l).length
          simp only [List.length_cons, ih]
          omega
      refine wp_extend (lstOf_old el) lstOf_new (lim_of ?_) ?_
      · rw [List.length_map, List.length_cons, hfl, List.length_take]
        simp
        omega
      refine ⟨⟨_, _, _, rfl⟩, (kk.trans .add).setNew (Nat.le_refl _), ?_⟩
      rw [lstOf_set (by have := lstOf_lt el; simp; omega)]
      rw [List.take_add_one, hp]
      show some (_ ++ [D.str (num p.1), D.str (num p.2)]) = some (((("lay" : Str) :: ((w.take k ++ [p]).map fun p => [num p.1, num p.2]).flatten)).map D.str)
      rw [List.map_append, List.flatten_append]
      simp only [List.map_cons, List.map_nil, List.flatten_cons, List.flatten_nil, List.map_append, List.append_nil, List.cons_append]
    · rintro ρ S' ⟨⟨x2, x3, x4, rfl⟩, kk, el⟩
      rw [List.length_map, List.take_length] at el
      repeat' array_get_dec
      refine wp_join el (by rw [sp1]; have : (partsT (.lay w)) = (("lay" : Str) :: (w.map fun p => [num p.1, num p.2]).flatten) := rfl; rw [this] at hlp; omega) ?_
      repeat' array_get_dec
      exact q _ kk
  · rw [show (!decide (w0 = ("lay" : Str))) = true by simpa using fun z => hlay (hw0.mp z)]
    obtain ⟨l1, l2, l3⟩ := args_tx h fun w e => hlay ⟨w, e⟩
    repeat' array_get_dec
    refine wp_lc (lim_of (by show (argsD d).length < _; omega)) (fun k acc S' => S' = S ∧ acc = ((partsT d).take k).map D.str) ⟨rfl, rfl⟩ (fun _ _ _ _ _ => trivial) ?_ ?_
    · rintro k a acc S' hk ⟨rfl, rfl⟩
      obtain ⟨x, hx⟩ := at_lt (xs := partsT d) (k := k) (by rw [← l1]; exact (List.getElem?_eq_some_iff.mp hk).1)
      repeat' array_get_dec
      refine wp_strT (l3 k a x hk hx) ?_
      rw [if_pos rfl]
      refine ⟨rfl, ?_⟩
      rw [List.take_add_one, hx]
      simp
    rintro acc S' ⟨rfl, rfl⟩
    rw [show ((argsD d).length) = (partsT d).length from l1, List.take_length]
    repeat' array_get_dec
    refine wp_join lstOf_new (by rw [sp1]; omega) ?_
    repeat' array_get_dec
    exact q _ .add
end

/-! ### the law's own texts -/
section
variable {Q : D → Sto → Prop} {X : Str → Sto → Prop} {S : Sto}
theorem t_law_deed_text {d : Deed} (h : TxOk d) (q : ∀ S', Kp [] S S' → Q (.str (deedT d)) S') : wp (f__law_deed_text [deedD d] S) Q X := by
  have hlp := len_parts h
  have sp1 : (" " : Str).length = 1 := by decide +kernel
  rw [deedD_args]
  obtain ⟨w0, r0, e0, ok0, hw0⟩ := args0 (d := d)
  refine wp_run ?_
  unfold b__law_deed_text
  repeat' array_get_dec
  refine wp_ixT (by rw [e0]; exact atI_0) ?_
  repeat' array_get_dec
  refine wp_neS ok0 (by decide +kernel) ?_
  by_cases hlay : ∃ v, d = .lay v
  · rw [show (!decide (w0 = ("lay" : Str))) = false by simp [hw0.mpr hlay]]
    obtain ⟨w, rfl⟩ := hlay
    obtain ⟨w1, w10, wp⟩ := h
    repeat' array_get_dec
    refine wp_ixT (by exact atI_1) ?_
    repeat' array_get_dec
    have la : ∀ a b : Str, (a ++ b).length = a.length + b.length := fun a b => Array.size_append
    refine wp_lc (lim_of (by show (w.map pD).length < _; rw [List.length_map]; omega)) (fun k acc S' => S' = S ∧ acc = ((w.take k).map fun p => num p.1 ++ " " ++ num p.2).map D.str) ⟨rfl, rfl⟩ (fun _ _ _ _ _ => trivial) ?_ ?_
    · rintro k dd acc S' hk ⟨rfl, rfl⟩
      have hk : (w.map pD)[k]? = some dd := hk
      rw [List.getElem?_map, Option.map_eq_some_iff] at hk
      obtain ⟨p, hp, rfl⟩ := hk
      obtain ⟨p1, p2⟩ := wp p (List.mem_of_getElem? hp)
      have n1 := len_int (p1.log2 (by decide))
      have n2 := len_int (p2.log2 (by decide))
      unfold pD
      repeat' array_get_dec
      refine wp_strI (p1.log2 (by decide)) ?_
      repeat' array_get_dec
      refine wp_addSS (by rw [sp1]; omega) ?_
      repeat' array_get_dec
      refine wp_strI (p2.log2 (by decide)) ?_
      repeat' array_get_dec
      refine wp_addSS (by rw [la, sp1]; omega) ?_
      repeat' array_get_dec
      rw [if_pos rfl]
      refine ⟨rfl, ?_⟩
      rw [List.take_add_one, hp]
      simp
      rfl
    rintro acc S' ⟨rfl, rfl⟩
    rw [show (w.map pD).length = w.length from List.length_map .., List.take_length]
    have hls : ∀ l : List (Int × Int), (∀ p ∈ l, Sz 1000 p.1 ∧ Sz 1000 p.2) → ((l.map fun p => num p.1 ++ " " ++ num p.2).map (·.length)).sum ≤ 4001 * l.length := fun l hl => by
      induction l with
      | nil => exact Nat.le_refl _
      | cons p l ih =>
        have := ih fun q hq => hl q (by simp [hq])
        obtain ⟨p1, p2⟩ := hl p (by simp)
        have n1 : (num p.1).length ≤ 2000 := len_int (p1.log2 (by decide))
        have n2 : (num p.2).length ≤ 2000 := len_int (p2.log2 (by decide))
        simp only [List.map_cons, List.sum_cons, List.length_cons, la, sp1] at *
        omega
    have hl1 := hls w wp
    have hjl : (Txt.join " " (w.map fun p => num p.1 ++ " " ++ num p.2)).length ≤ 100000 := by
      rw [show Txt.join " " (w.map fun p => num p.1 ++ " " ++ num p.2) = Str.join " " (w.map fun p => num p.1 ++ " " ++ num p.2) from StrLaws.glued_eq_join _ _]
      have := StrLaws.join_length_le " " (w.map fun p => num p.1 ++ " " ++ num p.2)
      rw [List.length_map, sp1] at this
      omega
    repeat' array_get_dec
    refine wp_join lstOf_new (by rw [List.length_map, sp1]; omega) ?_
    repeat' array_get_dec
    have l4 : ("lay " : Str).length = 4 := by decide +kernel
    refine wp_addSS (by omega) ?_
    repeat' array_get_dec
    have e9 : ("lay " : Str) ++ Txt.join " " (w.map fun p => num p.1 ++ " " ++ num p.2) = deedT (.lay w) := by
      unfold deedT
      rw [show Txt.join " " (w.map fun p => num p.1 ++ " " ++ num p.2) = Str.join " " (w.map fun p => num p.1 ++ " " ++ num p.2) from StrLaws.glued_eq_join _ _, show Txt.join " " (partsT (.lay w)) = Str.join " " (partsT (.lay w)) from StrLaws.glued_eq_join _ _]
      exact (lay_join fun e => by rw [e] at w1; simp at w1).symm
    rw [e9]
    exact q _ .add
  · rw [show (!decide (w0 = ("lay" : Str))) = true by simpa using fun z => hlay (hw0.mp z)]
    obtain ⟨l1, l2, l3⟩ := args_tx h fun w e => hlay ⟨w, e⟩
    repeat' array_get_dec
    refine wp_lc (lim_of (by show (argsD d).length < _; omega)) (fun k acc S' => S' = S ∧ acc = ((partsT d).take k).map D.str) ⟨rfl, rfl⟩ (fun _ _ _ _ _ => trivial) ?_ ?_
    · rintro k a acc S' hk ⟨rfl, rfl⟩
      obtain ⟨x, hx⟩ := at_lt (xs := partsT d) (k := k) (by rw [← l1]; exact (List.getElem?_eq_some_iff.mp hk).1)
      repeat' array_get_dec
      refine wp_strT (l3 k a x hk hx) ?_
      rw [if_pos rfl]
      refine ⟨rfl, ?_⟩
      rw [List.take_add_one, hx]
      simp
    rintro acc S' ⟨rfl, rfl⟩
    rw [show ((argsD d).length) = (partsT d).length from l1, List.take_length]
    repeat' array_get_dec
    refine wp_join lstOf_new (by rw [sp1]; omega) ?_
    repeat' array_get_dec
    exact q _ .add
end

/-! ### a deed's text is read back -/
def Nine (i : Int) : Prop := -999999999 ≤ i ∧ i ≤ 999999999
def RdOk : Deed → Prop
  | .lay w => 1 ≤ w.length ∧ ∀ p ∈ w, Nine p.1 ∧ Nine p.2
  | .hire x p | .send x p | .pace x p => NameOk x ∧ Nine p
  | .dismiss x | .call x | .stay x | .swap x => NameOk x
  | .go a b | .outs a b => Nine a ∧ Nine b
theorem num_nat (n : Nat) : (num (n : Int)).cps.toList = TL.numL n := TL.tl_num n
theorem num_neg (n : Nat) : (num (-((n + 1 : Nat) : Int))).cps.toList = 45 :: TL.numL (n + 1) := by
  have e : toString (-((n + 1 : Nat) : Int)) = "-" ++ toString (n + 1) := rfl
  show TL.tl (Str.ofString (toString (-((n + 1 : Nat) : Int)))) = _
  rw [e, TL.tl_ofString, String.toList_append, List.map_append]
  have e2 : TL.tl (Str.ofString (toString ((n + 1 : Nat) : Int))) = TL.numL (n + 1) := TL.tl_num (n + 1)
  rw [TL.tl_ofString] at e2
  have e3 : toString ((n + 1 : Nat) : Int) = toString (n + 1) := rfl
  rw [e3] at e2
  rw [e2]
  rfl
theorem numL_head : ∀ {n : Nat}, n ≠ 0 → ∃ c r, TL.numL n = c :: r ∧ 49 ≤ c ∧ c ≤ 57 := fun {n} => by
  induction n using Nat.strongRecOn with
  | _ n ih =>
    intro hn
    by_cases h : n < 10
    · exact ⟨48 + n, [], TL.numL_lt h, by omega, by omega⟩
    · obtain ⟨c, r, e, h1, h2⟩ := ih (n / 10) (by omega) (by omega)
      exact ⟨c, r ++ [48 + n % 10], by rw [TL.numL_step (by omega), e]; rfl, h1, h2⟩
theorem numIn_pos {n : Nat} (h : n ≤ 999999999) {x : Str} (hx : x.cps.toList = TL.numL n) : numIn x = some (n : Int) := by
  have hd := TL.numL_digits n
  have hne := TL.numL_ne n
  have hm : ¬ cutS x none (some 1) = "-" := fun c => by
    obtain ⟨r, hr⟩ := minus_iff.mp c
    rw [hx] at hr
    have := hd 45 (by rw [hr]; simp)
    omega
  have ef : figs x = x := by unfold figs; rw [if_neg hm]
  have hl : x.length = (TL.numL n).length := by rw [str_len, hx]
  have hN : NumW x := by
    unfold NumW
    rw [ef]
    refine ⟨⟨?_, ?_⟩, fun c hc => ?_, fun h2 => h2.2 ?_⟩
    · rw [hl]
      exact Nat.pos_of_ne_zero fun z => hne (List.eq_nil_of_length_eq_zero z)
    · rw [hl]
      exact TL.numL_len (by decide) (by omega)
    · rw [hx] at hc
      exact digs_iff.mpr (hd c hc)
    · have h0 := h2.1
      rw [hx] at h0
      by_cases hz : n = 0
      · subst hz
        refine str_ext ?_
        rw [hx]
        decide +kernel
      · obtain ⟨c, r, e, h3, _⟩ := numL_head hz
        rw [e] at h0
        simp at h0
        omega
  unfold numIn
  rw [if_pos hN]
  unfold numOf
  rw [if_neg hm, ef, hx, TL.numL_val]
theorem numIn_neg {n : Nat} (h : n + 1 ≤ 999999999) {x : Str} (hx : x.cps.toList = 45 :: TL.numL (n + 1)) : numIn x = some (-((n + 1 : Nat) : Int)) := by
  have hd := TL.numL_digits (n + 1)
  have hm : cutS x none (some 1) = "-" := minus_iff.mpr ⟨_, hx⟩
  have ef : (figs x).cps.toList = TL.numL (n + 1) := by
    unfold figs
    rw [if_pos hm, cut1, hx]
    rfl
  have hl : (figs x).length = (TL.numL (n + 1)).length := by rw [str_len, ef]
  have hN : NumW x := by
    refine ⟨⟨?_, ?_⟩, fun c hc => ?_, fun h2 => ?_⟩
    · rw [hl]
      exact Nat.pos_of_ne_zero fun z => TL.numL_ne _ (List.eq_nil_of_length_eq_zero z)
    · rw [hl]
      exact TL.numL_len (by decide) (by omega)
    · rw [ef] at hc
      exact digs_iff.mpr (hd c hc)
    · have h0 := h2.1
      obtain ⟨c, r, e, h3, _⟩ := numL_head (n := n + 1) (by omega)
      rw [ef, e] at h0
      simp at h0
      omega
  unfold numIn
  rw [if_pos hN]
  unfold numOf
  rw [if_pos hm, ef, TL.numL_val]
theorem numIn_num {i : Int} (h : Nine i) : numIn (num i) = some i := by
  obtain ⟨h1, h2⟩ := h
  rcases (show i < 0 ∨ 0 ≤ i by omega) with hi | hi
  · obtain ⟨n, hn⟩ : ∃ n : Nat, i = -((n + 1 : Nat) : Int) := ⟨(-i - 1).toNat, by omega⟩
    subst hn
    exact numIn_neg (by omega) (num_neg n)
  · obtain ⟨n, rfl⟩ := Int.eq_ofNat_of_zero_le hi
    exact numIn_pos (by omega) (num_nat n)
theorem num_free {i : Int} {s : Nat} (h : s ≠ 45 ∧ (s < 48 ∨ 57 < s)) : s ∉ (num i).cps.toList := by
  rcases (show i < 0 ∨ 0 ≤ i by omega) with hi | hi
  · obtain ⟨n, hn⟩ : ∃ n : Nat, i = -((n + 1 : Nat) : Int) := ⟨(-i - 1).toNat, by omega⟩
    subst hn
    rw [num_neg, List.mem_cons]
    rintro (z | z)
    · exact h.1 z
    · exact TL.numL_free h.2 z
  · obtain ⟨n, rfl⟩ := Int.eq_ofNat_of_zero_le hi
    rw [num_nat]
    exact TL.numL_free h.2
theorem name_free {x : Str} (h : NameOk x) {s : Nat} (hs : s < 97) : s ∉ x.cps.toList := fun hm => by
  have h1 := h.2 s hm
  rw [lets_cps] at h1
  obtain ⟨j, _, e⟩ := List.mem_map.mp h1
  omega
theorem parts_free {d : Deed} (h : RdOk d) : ∀ p ∈ partsT d, 32 ∉ p.cps.toList := by
  have nf : ∀ i : Int, 32 ∉ (num i).cps.toList := fun i => num_free (by decide)
  have two : ∀ {a b : Str}, 32 ∉ a.cps.toList → 32 ∉ b.cps.toList → ∀ p ∈ [a, b], 32 ∉ p.cps.toList := fun h1 h2 p hp => by
    simp only [List.mem_cons, List.not_mem_nil, or_false] at hp
    rcases hp with rfl | rfl
    · exact h1
    · exact h2
  have three : ∀ {a b c : Str}, 32 ∉ a.cps.toList → 32 ∉ b.cps.toList → 32 ∉ c.cps.toList → ∀ p ∈ [a, b, c], 32 ∉ p.cps.toList := fun h1 h2 h3 p hp => by
    simp only [List.mem_cons, List.not_mem_nil, or_false] at hp
    rcases hp with rfl | rfl | rfl
    · exact h1
    · exact h2
    · exact h3
  cases d with
  | lay w =>
    intro p hp
    rcases List.mem_cons.mp hp with rfl | hp
    · decide +kernel
    · obtain ⟨l, hl, hp⟩ := List.mem_flatten.mp hp
      obtain ⟨q, _, rfl⟩ := List.mem_map.mp hl
      exact two (nf _) (nf _) p hp
  | hire x p => exact three (by decide +kernel) (name_free h.1 (by decide)) (nf _)
  | send x p => exact three (by decide +kernel) (name_free h.1 (by decide)) (nf _)
  | pace x p => exact three (by decide +kernel) (name_free h.1 (by decide)) (nf _)
  | dismiss x => exact two (by decide +kernel) (name_free h (by decide))
  | call x => exact two (by decide +kernel) (name_free h (by decide))
  | stay x => exact two (by decide +kernel) (name_free h (by decide))
  | swap x => exact two (by decide +kernel) (name_free h (by decide))
  | go a b => exact three (by decide +kernel) (nf _) (nf _)
  | outs a b => exact three (by decide +kernel) (nf _) (nf _)
theorem way_back : ∀ {w : List (Int × Int)}, (∀ p ∈ w, Nine p.1 ∧ Nine p.2) → ((w.map fun p => [num p.1, num p.2]).flatten.mapM numIn).map pairUp = some w
  | [], _ => rfl
  | p :: w, h => by
    have ih := way_back (w := w) fun q hq => h q (List.mem_cons_of_mem _ hq)
    obtain ⟨h1, h2⟩ := h p List.mem_cons_self
    have e1 : ((p :: w).map fun p => [num p.1, num p.2]).flatten = num p.1 :: num p.2 :: (w.map fun p => [num p.1, num p.2]).flatten := rfl
    rw [e1, List.mapM_cons, List.mapM_cons, numIn_num h1, numIn_num h2]
    cases e : (w.map fun p => [num p.1, num p.2]).flatten.mapM numIn with
    | none => rw [e] at ih; cases ih
    | some ns =>
      rw [e] at ih
      have ih : some (pairUp ns) = some w := ih
      show some (pairUp (p.1 :: p.2 :: ns)) = _
      rw [pairUp]
      injection ih with ih
      rw [ih]
theorem way_len (w : List (Int × Int)) : ((w.map fun p => [num p.1, num p.2]).flatten).length = 2 * w.length := by
  induction w with
  | nil => rfl
  | cons p w ih =>
    have e1 : ((p :: w).map fun p => [num p.1, num p.2]).flatten = num p.1 :: num p.2 :: (w.map fun p => [num p.1, num p.2]).flatten := rfl
    rw [e1, List.length_cons, List.length_cons, ih, List.length_cons]
    omega
theorem partIn_num {i : Int} (h : Nine i) : partIn "number" (num i) = some (.int i) := by
  unfold partIn
  rw [if_pos rfl, numIn_num h]
  rfl
theorem partIn_name {x : Str} (h : NameOk x) : partIn "name" x = some (.str x) := by
  unfold partIn
  rw [if_neg (by decide +kernel), if_pos h]
theorem readF_deedT {d : Deed} (h : RdOk d) : readF (deedT d) = some (deedD d) := by
  have hs : Txt.split (deedT d) " " = partsT d := split_join1 (s := 32) (by decide +kernel) (by decide) (by cases d <;> simp [partsT]) (parts_free h)
  unfold readF
  rw [hs]
  have three : ∀ {w k1 k2 x y : Str} {a b : D}, (w : Str) ≠ "lay" → tb_FORMS.lookup w = some [k1, k2] → partIn k1 x = some a → partIn k2 y = some b → (if w = "lay" then (wayIn [x, y]).map fun v => D.tup [.str "lay", .tup (v.map pD)] else match tb_FORMS.lookup w with
    | none => none
    | some form => if [x, y].length = form.length then (([x, y].zip form).mapM fun p => partIn p.2 p.1).map fun ps => .tup (.str w :: ps) else none) = some (.tup [.str w, a, b]) := fun h1 h2 h3 h4 => by
    rw [if_neg h1, h2]
    show (if 2 = 2 then _ else _) = _
    rw [if_pos rfl]
    simp [h3, h4]
  have two : ∀ {w k1 x : Str} {a : D}, (w : Str) ≠ "lay" → tb_FORMS.lookup w = some [k1] → partIn k1 x = some a → (if w = "lay" then (wayIn [x]).map fun v => D.tup [.str "lay", .tup (v.map pD)] else match tb_FORMS.lookup w with
    | none => none
    | some form => if [x].length = form.length then (([x].zip form).mapM fun p => partIn p.2 p.1).map fun ps => .tup (.str w :: ps) else none) = some (.tup [.str w, a]) := fun h1 h2 h3 => by
    rw [if_neg h1, h2]
    show (if 1 = 1 then _ else _) = _
    rw [if_pos rfl]
    simp [h3]
  cases d with
  | lay w =>
    show (if ("lay" : Str) = "lay" then _ else _) = _
    rw [if_pos rfl]
    have hl := way_len w
    have h1 := h.1
    have e : wayIn ((w.map fun p => [num p.1, num p.2]).flatten) = some w := by
      unfold wayIn
      rw [if_neg (by rw [hl]; omega)]
      exact way_back h.2
    rw [e]
    rfl
  | hire x p => exact three (by decide +kernel) (by decide +kernel) (partIn_name h.1) (partIn_num h.2)
  | send x p => exact three (by decide +kernel) (by decide +kernel) (partIn_name h.1) (partIn_num h.2)
  | pace x p => exact three (by decide +kernel) (by decide +kernel) (partIn_name h.1) (partIn_num h.2)
  | dismiss x => exact two (by decide +kernel) (by decide +kernel) (partIn_name h)
  | call x => exact two (by decide +kernel) (by decide +kernel) (partIn_name h)
  | stay x => exact two (by decide +kernel) (by decide +kernel) (partIn_name h)
  | swap x => exact two (by decide +kernel) (by decide +kernel) (partIn_name h)
  | go a b => exact three (by decide +kernel) (by decide +kernel) (partIn_num h.1) (partIn_num h.2)
  | outs a b => exact three (by decide +kernel) (by decide +kernel) (partIn_num h.1) (partIn_num h.2)

/-! ### any deed, as the laws draw it -/
section
variable {Q : D → Sto → Prop} {X : Str → Sto → Prop} {S : Sto}
theorem t_law_any_number {n : Nat} {k s g : Int} (e : lstOf S n = some [.int k, .int s, .int g]) (hk : 0 ≤ k ∧ k < 8) (hs : 0 ≤ s ∧ s < 1000) (hg : 0 ≤ g ∧ g < 1000000000) (q : ∀ i, Nine i → ∀ T, Q (.int i) (S ++ T)) : wp (f__law_any_number [.ref n] S) Q X := by
  refine wp_run ?_
  unfold b__law_any_number
  repeat' array_get_dec
  · decide
  have : ∃ v, atI [D.int (s % 14), D.int s, D.int g, D.int (-s), D.int (-g), D.int 999999999, D.int (-999999999), D.int 0] k = some (.int v) ∧ Nine v := by
    have hk' : k = 0 ∨ k = 1 ∨ k = 2 ∨ k = 3 ∨ k = 4 ∨ k = 5 ∨ k = 6 ∨ k = 7 := by omega
    unfold Nine
    rcases hk' with rfl | rfl | rfl | rfl | rfl | rfl | rfl | rfl
    all_goals exact ⟨_, rfl, by omega, by omega⟩
  obtain ⟨v, e2, hv⟩ := this
  refine wp_ixL lstOf_new e2 ?_
  repeat' array_get_dec
  exact q v hv _
theorem anyL_len : lets.length = 26 := by decide +kernel
theorem anyL_at {i : Nat} (h : i < 26) : atI lets.cps.toList (i : Int) = some (97 + i) := by
  rw [lets_cps]
  refine atI_jn ?_
  rw [List.getElem?_map, List.getElem?_range h]
  rfl
theorem joinL_one : ∀ cs : List Nat, TL.joinL [] (cs.map fun c => [c]) = cs
  | [] => rfl
  | [c] => rfl
  | c :: d :: r => by
    show [c] ++ ([] ++ TL.joinL [] ((d :: r).map fun c => [c])) = _
    rw [joinL_one (d :: r)]
    rfl
theorem join_chars (cs : List Nat) : (Txt.join "" (cs.map fun c => (⟨#[c]⟩ : Str))).cps.toList = cs := by
  have h1 : TL.tl (Txt.join "" (cs.map fun c => (⟨#[c]⟩ : Str))) = TL.joinL (TL.tl "") ((cs.map fun c => (⟨#[c]⟩ : Str)).map TL.tl) := by
    rw [TL.join_eq, TL.tl_join]
  have h2 : TL.tl "" = [] := by decide +kernel
  rw [h2, List.map_map] at h1
  exact h1.trans (joinL_one cs)
theorem t_law_any_name {c : Int} (hc : Sz 1200000 c) (q : ∀ x, NameOk x → ∀ T, Q (.str x) (S ++ T)) : wp (f__law_any_name [.int c] S) Q X := by
  refine wp_run ?_
  unfold b__law_any_name
  repeat' array_get_dec
  refine t_draws (ps := [8, 26, 26, 26, 26, 26, 26, 26, 26]) hc lstOf_new (parts_ok (by decide)) (by decide) fun ws hw => ?_
  have hl := hw.length
  obtain ⟨a, ea, ha⟩ := hw.get 0 8 rfl
  have hin : ∀ i, 1 ≤ i → i < 9 → ∃ v : Nat, ws[i]? = some (v : Int) ∧ v < 26 := fun i h1 h2 => by
    obtain ⟨v, e, h3, h4⟩ := hw.get i 26 (by
      match i, h1, h2 with
      | 1, _, _ => rfl
      | 2, _, _ => rfl
      | 3, _, _ => rfl
      | 4, _, _ => rfl
      | 5, _, _ => rfl
      | 6, _, _ => rfl
      | 7, _, _ => rfl
      | 8, _, _ => rfl)
    obtain ⟨v, rfl⟩ := Int.eq_ofNat_of_zero_le h3
    exact ⟨v, e, by omega⟩
  obtain ⟨a, rfl⟩ := Int.eq_ofNat_of_zero_le ha.1
  generalize hS1 : S ++ [Cell.lst [D.int 8]] ++ [Cell.lst [D.int 26]] ++ [Cell.lst (List.replicate (Int.toNat 8) [D.int 26]).flatten] ++ [Cell.lst ([D.int 8] ++ (List.replicate (Int.toNat 8) [D.int 26]).flatten)] = S1
  have hT : ∃ T, S1 = S ++ T := ⟨_, by rw [← hS1]; simp only [List.append_assoc]; rfl⟩
  clear hS1
  obtain ⟨T, rfl⟩ := hT
  have ew : lstOf (S ++ T ++ [Cell.lst (ws.map D.int)]) (S ++ T).length = some (ws.map D.int) := lstOf_new
  repeat' array_get_dec
  refine wp_ixL (d := .int a) ew (by
    have := atI_jn (xs := ws.map D.int) (k := 0) (x := .int a) (by rw [List.getElem?_map, ea]; rfl)
    exact this) ?_
  repeat' array_get_dec
  have ecut : J.cutD (ws.map D.int) (some 1) (some (2 + (a : Int))) = ((ws.drop 1).take (a + 1)).map D.int := by
    unfold J.cutD
    rw [show (1 : Int) = ((1 : Nat) : Int) from rfl, show (2 : Int) + (a : Int) = ((2 + a : Nat) : Int) by omega, HT.sIx_nat, HT.sIx_nat, List.length_map, hl]
    simp only [List.length_cons, List.length_nil]
    rw [show min 1 (0 + 1 + 1 + 1 + 1 + 1 + 1 + 1 + 1 + 1) = 1 by decide, show min (2 + a) (0 + 1 + 1 + 1 + 1 + 1 + 1 + 1 + 1 + 1) - 1 = a + 1 by omega, List.map_take, List.map_drop]
  rw [ecut]
  have hit : ∀ k, k < a + 1 → ∃ v : Nat, ((ws.drop 1).take (a + 1))[k]? = some (v : Int) ∧ v < 26 := fun k hk => by
    obtain ⟨v, h1, h2⟩ := hin (1 + k) (by omega) (by omega)
    exact ⟨v, by rw [List.getElem?_take_of_lt hk, List.getElem?_drop]; exact h1, h2⟩
  have hil : ((ws.drop 1).take (a + 1)).length = a + 1 := by
    rw [List.length_take, List.length_drop, hl]
    simp only [List.length_cons, List.length_nil]
    omega
  generalize (ws.drop 1).take (a + 1) = us at *
  have eu : lstOf (S ++ T ++ [Cell.lst (ws.map D.int)] ++ [Cell.lst (us.map D.int)]) (S ++ T ++ [Cell.lst (ws.map D.int)]).length = some (us.map D.int) := lstOf_new
  refine wp_lc (by rw [List.length_map, hil]; exact lim_of (by omega)) (fun k acc S' => S ++ T ++ [Cell.lst (ws.map D.int)] ++ [Cell.lst (us.map D.int)] = S' ∧ acc = ((us.take k).map fun v => (⟨#[97 + v.toNat]⟩ : Str)).map D.str) ⟨rfl, rfl⟩ (fun k acc S' _ h => h.1 ▸ eu) ?_ ?_
  · rintro k d acc _ hk ⟨rfl, rfl⟩
    have hkl : k < a + 1 := by
      have := (List.getElem?_eq_some_iff.mp hk).1
      have h2 : (us.map D.int).length = a + 1 := by rw [List.length_map, hil]
      exact h2 ▸ this
    obtain ⟨v, hv, hv26⟩ := hit k hkl
    have hk : (us.map D.int)[k]? = some d := hk
    rw [List.getElem?_map, hv] at hk
    cases hk
    repeat' array_get_dec
    refine wp_ixSi (by rw [show (Str.ofString "abcdefghijklmnopqrstuvwxyz").length = 26 from anyL_len]; decide) (anyL_at hv26) ?_
    rw [if_pos rfl]
    refine ⟨rfl, ?_⟩
    rw [List.take_add_one, hv]
    simp
  · rintro acc _ ⟨rfl, rfl⟩
    rw [show (us.map D.int).length = us.length from List.length_map .., List.take_length]
    repeat' array_get_dec
    have hone : ∀ l : List Int, ((l.map fun v => (⟨#[97 + v.toNat]⟩ : Str)).map (·.length)).sum = l.length := fun l => by
      induction l with
      | nil => rfl
      | cons v l ih =>
        rw [List.map_cons, List.map_cons, List.sum_cons, ih, List.length_cons]
        show 1 + _ = _
        omega
    refine wp_join lstOf_new (by
      rw [hone, List.length_map, hil, show (Str.ofString "").length = 0 by decide +kernel]
      omega) ?_
    repeat' array_get_dec
    have ej : (us.map fun v => (⟨#[97 + v.toNat]⟩ : Str)) = (us.map fun v => 97 + v.toNat).map fun c => (⟨#[c]⟩ : Str) := by
      rw [List.map_map]
      rfl
    rw [ej]
    have hc := join_chars (us.map fun v => 97 + v.toNat)
    rw [List.append_assoc, List.append_assoc, List.append_assoc]
    refine q _ ⟨?_, fun c hm => ?_⟩ _
    · rw [str_len, show (Txt.join (Str.ofString "") ((us.map fun v => 97 + v.toNat).map fun c => (⟨#[c]⟩ : Str))).cps.toList = _ from hc, List.length_map, hil]
      omega
    · rw [show (Txt.join (Str.ofString "") ((us.map fun v => 97 + v.toNat).map fun c => (⟨#[c]⟩ : Str))).cps.toList = _ from hc] at hm
      obtain ⟨v, hv, rfl⟩ := List.mem_map.mp hm
      obtain ⟨k, hk⟩ := List.getElem?_of_mem hv
      obtain ⟨v', h1, h2⟩ := hit k (by have := (List.getElem?_eq_some_iff.mp hk).1; omega)
      rw [hk] at h1
      cases h1
      rw [lets_cps]
      exact List.mem_map.mpr ⟨v', List.mem_range.mpr h2, rfl⟩
end
section
variable {Q : D → Sto → Prop} {X : Str → Sto → Prop} {S : Sto}
theorem t_law_any_deed {c : Int} (hc : Sz 1048576 c) (q : ∀ d, RdOk d → (∀ w, d = .lay w → w.length ≤ 8) → ∀ T, Q (deedD d) (S ++ T)) : wp (f__law_any_deed [.int c] S) Q X := by
  refine wp_run ?_
  unfold b__law_any_deed
  repeat' array_get_dec
  refine t_split hc (by decide) fun vs hv hz => ?_
  match vs, hv with
  | [a, b, e, f], _ => ?_
  simp only [List.map_cons, List.map_nil]
  repeat' array_get_dec
  refine t_draws (ps := [11]) (hz a (by simp)) lstOf_new (parts_ok (by decide)) (by decide) fun ws hw => ?_
  obtain ⟨u, rfl, hu⟩ := hw.one
  simp only [List.map_cons, List.map_nil]
  repeat' array_get_dec
  have hword : ∃ w : Str, atI [D.str "hire", .str "dismiss", .str "send", .str "call", .str "stay", .str "swap", .str "pace", .str "go", .str "outs", .str "lay", .str "lay"] u = some (.str w) ∧ (w = "hire" ∨ w = "dismiss" ∨ w = "send" ∨ w = "call" ∨ w = "stay" ∨ w = "swap" ∨ w = "pace" ∨ w = "go" ∨ w = "outs" ∨ w = "lay") := by
    have hk' : u = 0 ∨ u = 1 ∨ u = 2 ∨ u = 3 ∨ u = 4 ∨ u = 5 ∨ u = 6 ∨ u = 7 ∨ u = 8 ∨ u = 9 ∨ u = 10 := by omega
    rcases hk' with rfl | rfl | rfl | rfl | rfl | rfl | rfl | rfl | rfl | rfl | rfl
    all_goals exact ⟨_, rfl, by simp⟩
  obtain ⟨w, ew, hw⟩ := hword
  refine wp_ixL (lstOf_old (lstOf_old lstOf_new)) ew ?_
  repeat' array_get_dec
  refine t_draws (ps := [8, 1000, 1000000000, 8, 1000, 1000000000]) (hz b (by simp)) lstOf_new (parts_ok (by decide)) (by decide) fun ws hws => ?_
  obtain ⟨a1, b1, c1, a2, b2, c2, rfl, ha1, hb1, hc1, ha2, hb2, hc2⟩ := hws.six
  simp only [List.map_cons, List.map_nil]
  repeat' array_get_dec
  refine t_law_any_number lstOf_new ha1 hb1 hc1 fun i1 hi1 T1 => ?_
  repeat' array_get_dec
  refine t_law_any_number lstOf_new ha2 hb2 hc2 fun i2 hi2 T2 => ?_
  repeat' array_get_dec
  refine t_law_any_name (hz e (by simp)) fun x hx T3 => ?_
  have kS : ∃ T, S ++ [Cell.lst [D.int a, .int b, .int e, .int f]] ++ [Cell.lst [D.str "hire", .str "dismiss", .str "send", .str "call", .str "stay", .str "swap", .str "pace", .str "go", .str "outs", .str "lay", .str "lay"]] ++ [Cell.lst [D.int 11]] ++ [Cell.lst [D.int u]] ++ [Cell.lst [D.int 8, .int 1000, .int 1000000000, .int 8, .int 1000, .int 1000000000]] ++ [Cell.lst [D.int a1, .int b1, .int c1, .int a2, .int b2, .int c2]] ++ [Cell.lst (J.cutD [D.int a1, .int b1, .int c1, .int a2, .int b2, .int c2] none (some 3))] ++ T1 ++ [Cell.lst (J.cutD [D.int a1, .int b1, .int c1, .int a2, .int b2, .int c2] (some 3) none)] ++ T2 ++ T3 = S ++ T := ⟨_, by simp only [List.append_assoc]; rfl⟩
  obtain ⟨T, eT⟩ := kS
  rw [eT]
  have how : PySem.PyData.strOk w = true := by
    rcases hw with rfl | rfl | rfl | rfl | rfl | rfl | rfl | rfl | rfl | rfl <;> decide +kernel
  simp only [List.map_cons, List.map_nil, List.set_cons_zero, List.set_cons_succ, List.cons_append, List.nil_append, List.length_cons, List.length_nil, List.replicate]
  repeat' array_get_dec
  refine wp_eqS how (by decide +kernel) ?_
  array_get_dec
  refine wp_ifd (fun h1 => ?_) fun h1 => ?_
  · repeat' array_get_dec
    refine t_draws (ps := [8, 8]) (hz f (by simp)) lstOf_new (parts_ok (by decide)) (by decide) fun ws hw2 => ?_
    obtain ⟨m, k, rfl, hm, hk⟩ := hw2.two
    simp only [List.map_cons, List.map_nil]
    repeat' array_get_dec
    obtain ⟨m, rfl⟩ := Int.eq_ofNat_of_zero_le hm.1
    rw [show ((m : Int) + 1).toNat = m + 1 by omega]
    refine ⟨⟨by omega, by
      have : ((900000 : Nat) : Int) < LIM := by decide
      omega⟩, ?_⟩
    refine wp_lc (by rw [rngD_len]; exact lim_of (by omega)) (fun j acc S' => S ++ T ++ [Cell.lst [D.int 8, D.int 8]] ++ [Cell.lst [D.int (m : Nat), D.int k]] = S' ∧ acc = ((List.range j).map fun z : Nat => if (z : Int) = k then (i1, i2) else (i2, 1 + (z : Int))).map pD) ⟨rfl, rfl⟩ (fun _ _ _ _ _ => trivial) ?_ ?_
    · rintro j d acc _ hj ⟨rfl, rfl⟩
      have hjm : j < m + 1 := by
        have := (List.getElem?_eq_some_iff.mp hj).1
        rwa [rngD_len] at this
      have hj2 := rngD_get (lo := 0) hjm
      rw [show (rngD 0 (m + 1))[j]? = some d from hj] at hj2
      cases hj2
      rw [show (0 : Int) + (j : Nat) = (j : Int) by omega]
      repeat' array_get_dec
      refine wp_ifd (fun h2 => ?_) fun h2 => ?_
      · repeat' array_get_dec
        refine ⟨rfl, ?_⟩
        rw [List.range_succ, List.map_append, List.map_append]
        simp [h2, pD]
      · repeat' array_get_dec
        refine ⟨rfl, ?_⟩
        rw [List.range_succ, List.map_append, List.map_append]
        simp [h2, pD]
    · rintro acc _ ⟨rfl, rfl⟩
      rw [show (rngD 0 (m + 1)).length = m + 1 from rngD_len]
      repeat' array_get_dec
      refine wp_tupL lstOf_new ?_
      repeat' array_get_dec
      simp only [List.append_assoc]
      refine q (.lay ((List.range (m + 1)).map fun z : Nat => if (z : Int) = k then (i1, i2) else (i2, 1 + (z : Int)))) ⟨by simp, fun p hp => ?_⟩ (fun w hw => ?_) _
      · obtain ⟨z, hz, rfl⟩ := List.mem_map.mp hp
        have hz := List.mem_range.mp hz
        split
        · exact ⟨hi1, hi2⟩
        · exact ⟨hi2, by show -999999999 ≤ (1 : Int) + z; omega, by show (1 : Int) + z ≤ 999999999; omega⟩
      · injection hw with hw
        subst hw
        simp
        omega
  repeat' array_get_dec
  refine wp_inSs (o := ["go", "outs"]) lstOf_new ?_
  rcases hw with rfl | rfl | rfl | rfl | rfl | rfl | rfl | rfl | rfl | rfl
  all_goals first
    | exact absurd rfl h1
    | (rw [show decide (_ ∈ (["go", "outs"] : List Str)) = true by decide +kernel]
       repeat' array_get_dec
       simp only [List.append_assoc]
       first | exact q (.go i1 i2) ⟨hi1, hi2⟩ (fun w h => by cases h) _ | exact q (.outs i1 i2) ⟨hi1, hi2⟩ (fun w h => by cases h) _)
    | (rw [show decide (_ ∈ (["go", "outs"] : List Str)) = false by decide +kernel]
       repeat' array_get_dec
       refine wp_inSs (o := ["hire", "send", "pace"]) lstOf_new ?_
       first
         | (rw [show decide (_ ∈ (["hire", "send", "pace"] : List Str)) = true by decide +kernel]
            repeat' array_get_dec
            simp only [List.append_assoc]
            first | exact q (.hire x i1) ⟨hx, hi1⟩ (fun w h => by cases h) _ | exact q (.send x i1) ⟨hx, hi1⟩ (fun w h => by cases h) _ | exact q (.pace x i1) ⟨hx, hi1⟩ (fun w h => by cases h) _)
         | (rw [show decide (_ ∈ (["hire", "send", "pace"] : List Str)) = false by decide +kernel]
            repeat' array_get_dec
            simp only [List.append_assoc]
            first | exact q (.dismiss x) hx (fun w h => by cases h) _ | exact q (.call x) hx (fun w h => by cases h) _ | exact q (.stay x) hx (fun w h => by cases h) _ | exact q (.swap x) hx (fun w h => by cases h) _))
end

/-! ### tuples alike -/
theorem tup_sm {S : Sto} {n : Nat} {xs : List D} (hl : xs.length < 1000000) (h : ∀ x ∈ xs, Sm S n x x) : Sm S (n + 1) (.tup xs) (.tup xs) := .tup rfl (lim_of hl) fun k x y hx hy => by
  rw [hx] at hy
  cases hy
  exact h x (List.mem_of_getElem? hx)

/-! deeds that are read back, alike -/
theorem rd_sm {S : Sto} {n : Nat} {d : Deed} (h : RdOk d) (hw : ∀ w, d = .lay w → w.length < 1000000) : Sm S (n + 4) (deedD d) (deedD d) := by
  have nm : ∀ {x : Str} {m : Nat}, NameOk x → Sm S (m + 1) (.str x) (.str x) := fun h => .str h.str
  cases d with
  | lay w =>
    refine tup_sm (by simp) fun x hx => ?_
    simp only [List.mem_cons, List.not_mem_nil, or_false] at hx
    rcases hx with rfl | rfl
    · exact .str (by decide +kernel)
    · refine tup_sm (by rw [List.length_map]; exact hw w rfl) fun x hx => ?_
      obtain ⟨p, _, rfl⟩ := List.mem_map.mp hx
      refine tup_sm (by simp) fun x hx => ?_
      simp only [List.mem_cons, List.not_mem_nil, or_false] at hx
      rcases hx with rfl | rfl <;> exact .int
  | hire y p | send y p | pace y p =>
    refine tup_sm (by simp) fun x hx => ?_
    simp only [List.mem_cons, List.not_mem_nil, or_false] at hx
    rcases hx with rfl | rfl | rfl
    · exact .str (by decide +kernel)
    · exact nm h.1
    · exact .int
  | dismiss y | call y | stay y | swap y =>
    refine tup_sm (by simp) fun x hx => ?_
    simp only [List.mem_cons, List.not_mem_nil, or_false] at hx
    rcases hx with rfl | rfl
    · exact .str (by decide +kernel)
    · exact nm h
  | go a b | outs a b =>
    refine tup_sm (by simp) fun x hx => ?_
    simp only [List.mem_cons, List.not_mem_nil, or_false] at hx
    rcases hx with rfl | rfl | rfl
    · exact .str (by decide +kernel)
    · exact .int
    · exact .int
theorem told_rd_sm {S : Sto} {d : Deed} (h : RdOk d) (hw : ∀ w, d = .lay w → w.length < 1000000) : Sm S 6 (.tup [.str "told", deedD d]) (.tup [.str "told", deedD d]) := by
  refine tup_sm (by simp) fun x hx => ?_
  simp only [List.mem_cons, List.not_mem_nil, or_false] at hx
  rcases hx with rfl | rfl
  · exact .str (by decide +kernel)
  · exact rd_sm h hw
theorem Nine.sz {i : Int} (h : Nine i) : Sz 1000 i := by
  obtain ⟨h1, h2⟩ := h
  refine (⟨?_⟩ : Sz 31 i).mono (by decide)
  have : (2 : Nat) ^ 31 = 2147483648 := by decide
  omega
theorem RdOk.tx {d : Deed} (h : RdOk d) (hw : ∀ w, d = .lay w → w.length ≤ 10) : TxOk d := by
  have nm : ∀ {x : Str}, NameOk x → x.length ≤ 100 ∧ PySem.PyData.strOk x = true := fun h => ⟨by have := h.1; omega, h.str⟩
  cases d with
  | lay w => exact ⟨h.1, hw w rfl, fun p hp => ⟨(h.2 p hp).1.sz, (h.2 p hp).2.sz⟩⟩
  | hire x p | send x p | pace x p => exact ⟨nm h.1, h.2.sz⟩
  | dismiss x | call x | stay x | swap x => exact nm h
  | go a b | outs a b => exact ⟨h.1.sz, h.2.sz⟩

def Dk (d : Deed) : Prop := RdOk d ∧ ∀ w, d = .lay w → w.length ≤ 8
theorem Dk.tx {d : Deed} (h : Dk d) : TxOk d := h.1.tx fun w e => Nat.le_trans (h.2 w e) (by decide)
theorem Dk.sm {d : Deed} (h : Dk d) {S : Sto} : Sm S 6 (.tup [.str "told", deedD d]) (.tup [.str "told", deedD d]) := told_rd_sm h.1 fun w e => Nat.lt_of_le_of_lt (h.2 w e) (by decide)
theorem Dk.rd {d : Deed} (h : Dk d) {Q : D → Sto → Prop} {X : Str → Sto → Prop} {S : Sto} (q : ∀ T, Q (deedD d) (S ++ T)) : wp (f_read_deed [.str (deedT d)] S) Q X :=
  t_read_deed (deedT_ok h.tx) (Nat.lt_of_le_of_lt (len_deedT h.tx) (by decide)) (fun e he T => by
    rw [readF_deedT h.1] at he
    cases he
    exact q T) fun he => by
    rw [readF_deedT h.1] at he
    cases he
theorem hT (ns : List Int) (hl : ns.length ≤ 63) (hz : ∀ z ∈ ns, Builtin.Int.intBits z ≤ 1048576) : ∃ S', f_law [.rl ns] [] = .ok (.bl true) S' := by
  refine wp_law (wp_run ?_)
  unfold b_law
  repeat' array_get_dec
  refine t_many hl (by decide) fun m hm hm' => ?_
  repeat' array_get_dec
  refine ⟨small_of (by omega) (by omega), ?_⟩
  refine wp_for (fun k ρ S => ∃ x2 x3 ds, ρ = [some (.rl ns), some (.ref 0), x2, x3] ∧ lstOf S 0 = some (ds.map deedD) ∧ ds.length ≤ k ∧ ∀ d ∈ ds, Dk d) ⟨_, _, [], rfl, rfl, Nat.le_refl _, fun _ h => by cases h⟩ (fun _ _ _ _ _ => trivial) ?_ ?_
  · rintro k d ρ S hk ⟨x2, x3, ds, rfl, e, hdl, hds⟩
    obtain ⟨rfl, hk2⟩ := rngD_at hk
    rw [Int.zero_add]
    repeat' array_get_dec
    refine t_cell (by omega) hl hz fun c hc => ?_
    repeat' array_get_dec
    refine t_law_any_deed hc fun d hd hd8 T => ?_
    have hk : Dk d := ⟨hd, hd8⟩
    have e := lstOf_old (T := T) e
    generalize S ++ T = S1 at *
    repeat' array_get_dec
    refine t_deed_text hk.tx fun S2 k2 => ?_
    have e := k2.lst (by simp) e
    repeat' array_get_dec
    refine t_law_deed_text hk.tx fun S3 k3 => ?_
    have e := k3.lst (by simp) e
    repeat' array_get_dec
    refine t_same _ _ _ _ _ _ (.str (deedT_ok hk.tx)) fun T3 => ?_
    have e := lstOf_old (T := T3) e
    generalize S3 ++ T3 = S4 at *
    repeat' array_get_dec
    refine t_law_deed_text hk.tx fun S5 k5 => ?_
    have e := k5.lst (by simp) e
    repeat' array_get_dec
    refine hk.rd fun T5 => ?_
    have e := lstOf_old (T := T5) e
    generalize S5 ++ T5 = S6 at *
    repeat' array_get_dec
    refine t_same _ _ _ _ _ _ hk.sm fun T6 => ?_
    have e := lstOf_old (T := T6) e
    generalize S6 ++ T6 = S7 at *
    repeat' array_get_dec
    · exact lim_of (by rw [List.length_map]; omega)
    refine ⟨_, _, ds ++ [d], rfl, by rw [lstOf_set (lstOf_lt e)]; simp, by simp; omega, fun z hz => ?_⟩
    rcases List.mem_append.mp hz with h | h
    · exact hds z h
    · rw [List.mem_singleton.mp h]
      exact hk
  · rintro ρ S ⟨x2, x3, ds, rfl, e, hdl, hds⟩
    repeat' array_get_dec
    refine wp_for (fun k ρ S => ∃ x2 x3, ρ = [some (.rl ns), some (.ref 0), x2, x3] ∧ lstOf S 0 = some (ds.map deedD)) ⟨_, _, rfl, e⟩ (fun _ _ _ _ ⟨_, _, _, h⟩ => h) ?_ ?_
    · rintro k d ρ S hk ⟨x2, x3, rfl, e⟩
      rw [List.getElem?_map, Option.map_eq_some_iff] at hk
      obtain ⟨d, hd, rfl⟩ := hk
      have hk : Dk d := hds d (List.mem_of_getElem? hd)
      repeat' array_get_dec
      refine t_law_deed_text hk.tx fun S5 k5 => ?_
      have e := k5.lst (by simp) e
      repeat' array_get_dec
      refine hk.rd fun T5 => ?_
      have e := lstOf_old (T := T5) e
      generalize S5 ++ T5 = S6 at *
      repeat' array_get_dec
      refine t_same _ _ _ _ _ _ hk.sm fun T6 => ?_
      have e := lstOf_old (T := T6) e
      generalize S6 ++ T6 = S7 at *
      repeat' array_get_dec
      exact ⟨_, _, rfl, e⟩
    · rintro ρ S ⟨x2, x3, rfl, e⟩
      repeat' array_get_dec
      rfl

end K
section
open PySem PySem.W PySem.Calls PyProof.Rows
set_option maxRecDepth 100000 in
set_option maxHeartbeats 0 in
theorem PySem.Challenge.cw_pailchain_k53_deeds_as_texts_holds : PySem.Challenge.rw_pailchain_k53_deeds_as_texts.Holds := by
  w_on; o_law
  refine HandSHeadRun.head_any (r := PySem.W.OpenLaw.row PySem.Challenge.rw_pailchain_k53_deeds_as_texts) (q := PySem.W.view (PySem.W.OpenLaw.row PySem.Challenge.rw_pailchain_k53_deeds_as_texts).prog [22]) (H := J.hookJ K.fa_ K.fn_ K.ts_ K.tf_ K.ex_) (ob := J.obJ K.fa_ K.fn_ K.ts_ K.tf_ K.ex_) (M := 40000) (loose := K.names_) (d := HandSHeadRun.topDef (PySem.W.OpenLaw.row PySem.Challenge.rw_pailchain_k53_deeds_as_texts).prog 22) (kwd := []) J.obJ_eq
    (by kernel_rfl) (fun s => by kernel_rfl) K.run_ (by kernel_rfl) (by kernel_rfl) (by kernel_rfl) (by rfl) (by first | assumption | decide +kernel) (by decide +kernel) ⟨rfl, rfl, rfl, rfl, rfl, by decide +kernel⟩ ?hw ?hc
  case hw => w_witness2
  case hc => exact K.walk_end (by kernel_rfl) (by kernel_rfl) K.hT
end
