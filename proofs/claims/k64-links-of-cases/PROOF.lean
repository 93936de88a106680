import PyProof.Rows.All
import Wide.All
import OpenK.AllK
import Wide.FinOn
import HandS.ForMost
import HandS.Exc
import HandS.TryMany
import HandS.TryOnly
import HandS.CallSlots
import HandS.TupAny
import HandS.TupMul
import HandS.Defaults
import HandS.IsInst
import HandS.Conv
import HandS.Zip
import HandS.Rev
import HandS.RevRange
import HandS.Style
import HandS.ExcInit
import HandS.Lambda
import HandS.SortInts
import HandS.TupLen
import HandS.RaiseMore
import PyProof.ReprRoads
import KE.KExcIs
import HandS.ExcIs
import PyProof.IsiH_set
import PyProof.IsiNone
import KE.KIsAll
import HandS.Walk
import HandS.ExcOwn
import KE.KTryMore
import HandS.ExcField
import PyProof.StrOps2
import HandS.EndTab
import HandS.SetFor
import HandS.DictComp
import HandS.MakeKwOnly
import HandS.SortRule
import HandS.Deep
import HandS.Dict
import HandS.TupLe
import HandS.SetKeys
import HandS.Nested
import HandS.Finally
import KE.KSortTup
import HandS.NamedTupSort
import KE.KDictPairs
import KE.KDictItemsList
import HandS.DictTup
import HandS.TupSets
import HandS.SortKw
import HandS.Text
import HandS.StrMore
import PyProof.ListStr
import PyProof.Rows.Range3
import HandS.Codes
import HandS.FStr
import PyProof.InstEq
import HandS.ExcValue
import HandS.ExcBuiltin
import HandS.ReplaceDef
import HandS.ReplaceLit
import HandS.ReplaceList
import PySem.Challenge.RW_leastfail_k64_links_of_cases
set_option Elab.async false
set_option linter.all false
set_option maxRecDepth 100000
set_option maxHeartbeats 2000000
/-! LF1: values as trees over the hand layer -/
namespace LF
open PySem PySem.Spec PyProof.Rows L2
/-- a value as a tree: tuples are their items, all that may change is met by its address -/
inductive Wv where
  | non | bl (b : Bool) | int (i : Int) | str (x : Str) | ty (n : String) | ref (a : Addr) | tup (ws : List Wv)
  /-- a lambda at f, made when HL stood -/
  | fn (f : Addr) (HL : Hp)
  /-- the script: a list that is never written -/
  | kls (ws : List Wv)
  /-- a tuple of the written part -/
  | ktp (ws : List Wv)
/-- what is never changed once it stands -/
def Still : HO → Prop
  | .tup _ => True
  | .ext _ => True
  | .xd _ => True
  | .frz _ (.own _) => False
  | .frz _ (.dT _) => False
  | .frz _ _ => True
  | _ => False
/-- tuples, made errors, codes stay -/
def TX (K : PySem.W.Frag) (H H' : Hp) : Prop := ∀ a o, Still o → H a = some o → H' a = some o
/-- a list that is known for good -/
def SqF (K : PySem.W.Frag) (H : Hp) (a : Addr) (xs : List V) : Prop := (∃ o, H a = some (.frz o (.lst xs))) ∨ ∃ (o : Obj) (its : Array Value) (n : Nat), K.lookup a = some o ∧ o.cls = .type "list" ∧ o.dict = none ∧ o.data = .seq its n ∧ its.size ≤ sizeLine ∧ Vals xs its.toList
/-- a tuple that is known for good -/
def KTp (K : PySem.W.Frag) (a : Addr) (xs : List V) : Prop := ∃ (o : Obj) (its : Array Value) (n : Nat), K.lookup a = some o ∧ o.cls = .type "tuple" ∧ o.data = .seq its n ∧ its.size ≤ sizeLine ∧ Vals xs its.toList
theorem KTp.sq {K : PySem.W.Frag} {H : Hp} {a : Addr} {xs : List V} (h : KTp K a xs) : SqT K H a xs := .inr h
theorem SqF.sq {K : PySem.W.Frag} {H : Hp} {a : Addr} {xs : List V} (h : SqF K H a xs) : SqL K H a xs := h.elim (fun z => .inl (.inr z)) .inr
mutual
inductive RW (K : PySem.W.Frag) (H : Hp) : Wv → V → Prop
  | non : RW K H .non .non
  | bl (b : Bool) : RW K H (.bl b) (.bl b)
  | int (i : Int) : RW K H (.int i) (.int i)
  | str (x : Str) : RW K H (.str x) (.str x)
  | ty (n : String) : RW K H (.ty n) (.ty n)
  | ref (a : Addr) : RW K H (.ref a) (.ref a)
  | tup {a : Addr} {xs : List V} {ws : List Wv} : H a = some (.tup xs) → RWs K H ws xs → RW K H (.tup ws) (.ref a)
  | fn {f : Addr} {HL : Hp} : TX K HL H → RW K H (.fn f HL) (.ref f)
  | kls {a : Addr} {xs : List V} {ws : List Wv} : SqF K H a xs → RWs K H ws xs → RW K H (.kls ws) (.ref a)
  | ktp {a : Addr} {xs : List V} {ws : List Wv} : KTp K a xs → RWs K H ws xs → RW K H (.ktp ws) (.ref a)
inductive RWs (K : PySem.W.Frag) (H : Hp) : List Wv → List V → Prop
  | nil : RWs K H [] []
  | cons {w : Wv} {v : V} {ws : List Wv} {vs : List V} : RW K H w v → RWs K H ws vs → RWs K H (w :: ws) (v :: vs)
end
section
variable {K : PySem.W.Frag} {H H' H1 H2 : Hp}
theorem TX.refl : TX K H H := fun _ _ _ h => h
theorem TX.trans (a : TX K H H1) (b : TX K H1 H2) : TX K H H2 := fun x xs z h => b x xs z (a x xs z h)
theorem TX.new {p : Addr} {u : HO} (h : H p = none) : TX K H (upd H p u) := fun a v _ e => by
  rw [upd_ne (ne_of_none e h)]; exact e
/-- what is no tuple may change -/
def NoTup (u : HO) : Prop := ¬ Still u
theorem TX.put {p : Addr} {u u' : HO} (h : H p = some u) (n : NoTup u) : TX K H (upd H p u') := fun a v st e => by
  have ne : a ≠ p := fun z => by
    subst z
    rw [h] at e
    cases e
    exact n st
  rw [upd_ne ne]; exact e
theorem noTup_lst {xs : List V} : NoTup (.lst xs) := fun z => z
theorem noTup_dK {xs : List (Key × V)} : NoTup (.dK xs) := fun z => z
theorem noTup_dT {xs : List (List Key × V)} : NoTup (.dT xs) := fun z => z
theorem SqF.mono (t : TX K H H') {a : Addr} {xs : List V} (h : SqF K H a xs) : SqF K H' a xs := h.elim (fun ⟨o, e⟩ => .inl ⟨o, t _ _ trivial e⟩) .inr
theorem noTup_ins {C dx : Addr} {fs : List (Str × V)} : NoTup (.ins C dx fs) := fun z => z
mutual
theorem RW.mono (t : TX K H H') : ∀ {w : Wv} {v : V}, RW K H w v → RW K H' w v
  | _, _, .non => .non
  | _, _, .bl b => .bl b
  | _, _, .int i => .int i
  | _, _, .str x => .str x
  | _, _, .ty n => .ty n
  | _, _, .ref a => .ref a
  | _, _, .tup h hs => .tup (t _ _ trivial h) (RWs.mono t hs)
  | _, _, .fn h => .fn (TX.trans h t)
  | _, _, .kls h hs => .kls (h.mono t) (RWs.mono t hs)
  | _, _, .ktp h hs => .ktp h (RWs.mono t hs)
theorem RWs.mono (t : TX K H H') : ∀ {ws : List Wv} {vs : List V}, RWs K H ws vs → RWs K H' ws vs
  | _, _, .nil => .nil
  | _, _, .cons h hs => .cons (RW.mono t h) (RWs.mono t hs)
end
theorem RWs.len : ∀ {ws : List Wv} {vs : List V}, RWs K H ws vs → vs.length = ws.length
  | _, _, .nil => rfl
  | _, _, .cons _ hs => congrArg (· + 1) (RWs.len hs)
theorem RWs.get : ∀ {ws : List Wv} {vs : List V} {i : Nat} {w : Wv}, RWs K H ws vs → ws[i]? = some w → ∃ v, vs[i]? = some v ∧ RW K H w v
  | _, _, _, _, .nil, e => by simp at e
  | _, _, 0, _, .cons h _, e => by simp at e; subst e; exact ⟨_, rfl, h⟩
  | _, _, i + 1, w, .cons _ hs, e => by
    obtain ⟨v, a, b⟩ := RWs.get (i := i) (w := w) hs (by simpa using e)
    exact ⟨v, by simpa using a, b⟩
theorem RWs.getV : ∀ {ws : List Wv} {vs : List V} {i : Nat} {v : V}, RWs K H ws vs → vs[i]? = some v → ∃ w, ws[i]? = some w ∧ RW K H w v
  | _, _, _, _, .nil, e => by simp at e
  | _, _, 0, _, .cons h _, e => by simp at e; subst e; exact ⟨_, rfl, h⟩
  | _, _, i + 1, v, .cons _ hs, e => by
    obtain ⟨w, a, b⟩ := RWs.getV (i := i) (v := v) hs (by simpa using e)
    exact ⟨w, by simpa using a, b⟩
theorem RWs.app : ∀ {ws us : List Wv} {vs xs : List V}, RWs K H ws vs → RWs K H us xs → RWs K H (ws ++ us) (vs ++ xs)
  | _, _, _, _, .nil, h => h
  | _, _, _, _, .cons a b, h => .cons a (RWs.app b h)
theorem RWs.take : ∀ {ws : List Wv} {vs : List V} (n : Nat), RWs K H ws vs → RWs K H (ws.take n) (vs.take n)
  | _, _, 0, _ => .nil
  | _, _, _ + 1, .nil => .nil
  | _, _, n + 1, .cons a b => .cons a (RWs.take n b)
theorem RWs.drop : ∀ {ws : List Wv} {vs : List V} (n : Nat), RWs K H ws vs → RWs K H (ws.drop n) (vs.drop n)
  | _, _, 0, h => h
  | _, _, _ + 1, .nil => .nil
  | _, _, n + 1, .cons _ b => RWs.drop n b
theorem RWs.set {w : Wv} {v : V} (h : RW K H w v) : ∀ {ws : List Wv} {vs : List V} (n : Nat), RWs K H ws vs → RWs K H (ws.set n w) (vs.set n v)
  | _, _, _, .nil => .nil
  | _, _, 0, .cons _ b => .cons h b
  | _, _, n + 1, .cons a b => .cons a (RWs.set h n b)
theorem RWs.rep {ws : List Wv} {vs : List V} (h : RWs K H ws vs) : ∀ n : Nat, RWs K H (List.replicate n ws).flatten (List.replicate n vs).flatten
  | 0 => .nil
  | n + 1 => by
    rw [List.replicate_succ, List.replicate_succ, List.flatten_cons, List.flatten_cons]
    exact RWs.app h (RWs.rep h n)
theorem RWs.dropLast {ws : List Wv} {vs : List V} (h : RWs K H ws vs) : RWs K H ws.dropLast vs.dropLast := by
  rw [List.dropLast_eq_take, List.dropLast_eq_take, h.len]
  exact h.take _
theorem RWs.isEmpty {ws : List Wv} {vs : List V} (h : RWs K H ws vs) : vs.isEmpty = ws.isEmpty := by cases h <;> rfl
theorem RWs.ints {ws : List Int} : ∀ {vs : List V}, RWs K H (ws.map Wv.int) vs → vs = ws.map V.int := by
  induction ws with
  | nil => intro vs h; cases h; rfl
  | cons i ws ih =>
    intro vs h
    cases h with
    | cons a b => cases a; rw [ih b]; rfl
theorem RWs.ofInts : ∀ (ws : List Int), RWs K H (ws.map Wv.int) (ws.map V.int)
  | [] => .nil
  | i :: ws => .cons (.int i) (RWs.ofInts ws)
theorem RWs.bls {ws : List Bool} : ∀ {vs : List V}, RWs K H (ws.map Wv.bl) vs → vs = ws.map V.bl := by
  induction ws with
  | nil => intro vs h; cases h; rfl
  | cons i ws ih =>
    intro vs h
    cases h with
    | cons a b => cases a; rw [ih b]; rfl
theorem RWs.strs {ws : List Str} : ∀ {vs : List V}, RWs K H (ws.map Wv.str) vs → vs = ws.map V.str := by
  induction ws with
  | nil => intro vs h; cases h; rfl
  | cons i ws ih =>
    intro vs h
    cases h with
    | cons a b => cases a; rw [ih b]; rfl
theorem RWs.ofStrs : ∀ (ws : List Str), RWs K H (ws.map Wv.str) (ws.map V.str)
  | [] => .nil
  | i :: ws => .cons (.str i) (RWs.ofStrs ws)
end
/-- a function made within a def: its words, the names that it captures -/
structure NW where
  name : Str
  qual : Str
  params : Arguments
  body : FuncBody
  scope : Scope
  fr : List Str
/-- what stands at an address -/
inductive O where
  | lst (ws : List Wv) | flst (ws : List Wv) | dct (kvs : List (Key × Wv)) | dtp (kvs : List (List Key × Wv)) | ins (C dx : Addr) (fs : List (Str × Wv)) | raw (u : HO)
  /-- the caught error at a; a table of code objects, each of the name that its place has -/
  | exc (a : Addr) (cls : Value) (fs : List (Str × Wv)) | tbn (nm : Nat → Nat → Str)
  /-- a function made within a def: at f, its words, the cells that it captured; a cell that is written no more -/
  | clo (f : Addr) (n : NW) (cs : List Addr) | cel (w : Wv)
/-- of one name -/
abbrev O.tab (q : Str) : O := .tbn fun _ _ => q
/-- how a function's captured names lie to cells -/
def CloC (fr : List Str) (cl : List (Str × Addr)) (cs : List Addr) : Prop := cs.Nodup ∧ cs.length = fr.length ∧ (∀ (i : Nat) (y : Str), fr[i]? = some y → ∃ a, cs[i]? = some a ∧ cl.lookup y = some a) ∧ ∀ (y : Str) (a : Addr), cl.lookup y = some a → ∃ i : Nat, fr[i]? = some y ∧ cs[i]? = some a
def CloO (f : Addr) (n : NW) (cl : List (Str × Addr)) (c : Addr) : HO := .ext fun h => ∃ (od : Option Addr) (sl : Array (Option Value)) (doc pm ctv : Value), h.get? f = some (⟨.type "function", od, .func { name := n.name, qualname := n.qual, params := n.params, body := n.body, scope := n.scope, globals := mainGlobals, closure := cl, defaults := .none, kwdefaults := .none, doc, pyModule := pm, annotations := none, code := .ref c, closureTuple := ctv, builtins := builtinsNs }, sl⟩ : Obj)
/-- fields, entries: names alike, values told -/
abbrev RKs {κ : Type} (K : PySem.W.Frag) (H : Hp) : List (κ × Wv) → List (κ × V) → Prop := Paired fun p q => p.1 = q.1 ∧ RW K H p.2 q.2
/-- an exception's own fields -/
def RX (K : PySem.W.Frag) (H : Hp) : Option Addr → List (Str × Wv) → Prop
  | none, fs => fs = []
  | some d, fs => ∃ vs, H d = some (.xd vs) ∧ RKs K H fs vs
/-- the error at a, of the class cls, its dict d -/
def XcO (a : Addr) (cls : Value) (d : Option Addr) : HO := .ext fun h => ∃ oe vs, h.get? a = some oe ∧ Zc cls d oe ∧ oe.data = .fields vs
def RO (K : PySem.W.Frag) (H : Hp) : O → HO → Prop
  | .lst ws, u => ∃ xs, u = .lst xs ∧ RWs K H ws xs
  | .flst ws, u => ∃ o xs, u = .frz o (.lst xs) ∧ RWs K H ws xs
  | .dct kvs, u => ∃ vs, u = .dK vs ∧ RKs K H kvs vs
  | .dtp kvs, u => ∃ vs, u = .dT vs ∧ RKs K H kvs vs
  | .ins C dx fs, u => ∃ vs, u = .ins C dx vs ∧ RKs K H fs vs
  | .raw x, u => u = x
  | .exc a cls fs, u => ∃ d, u = XcO a cls d ∧ RX K H d fs
  | .tbn nm, u => ∃ ps : Array Value, u = .tbl ps ∧ TriplesOk ps.toList ∧ ∀ (pos : Pos) (cv : Value), codeAmong pos ps.toList = some cv → ∃ c, cv = .ref c ∧ H c = some (LamX.CodeO c (nm pos.line pos.col))
  | .clo f n cs, u => ∃ cl c, u = CloO f n cl c ∧ H c = some (LamX.CodeO c n.qual) ∧ CloC n.fr cl cs
  | .cel w, u => ∃ (o : Obj) (x : Addr) (v : V) (uu : Value), u = .frz o (.own x) ∧ o.data = .cell (some uu) ∧ RelV v uu ∧ RW K H w v
abbrev HW := Addr → Option O
def updO (G : HW) (a : Addr) (o : O) : HW := fun b => if b = a then some o else G b
theorem updO_same {G : HW} {a : Addr} {o : O} : updO G a o a = some o := by unfold updO; rw [if_pos rfl]
theorem updO_ne {G : HW} {a b : Addr} {o : O} (h : b ≠ a) : updO G a o b = G b := by unfold updO; rw [if_neg h]
def RH (K : PySem.W.Frag) (G : HW) (H : Hp) : Prop := ∀ a o, G a = some o → ∃ u, H a = some u ∧ RO K H o u
section
variable {K : PySem.W.Frag} {G G' : HW} {H H' H1 H2 : Hp}
theorem RKs.mono {κ : Type} (t : TX K H H') {xs : List (κ × Wv)} {ys : List (κ × V)} (h : RKs K H xs ys) : RKs K H' xs ys := L2.Paired.mapP h fun _ _ z => ⟨z.1, z.2.mono t⟩
theorem RX.mono (t : TX K H H') {d : Option Addr} {fs : List (Str × Wv)} (h : RX K H d fs) : RX K H' d fs := by
  cases d with
  | none => exact h
  | some d =>
    obtain ⟨vs, e, q⟩ := h
    exact ⟨vs, t _ _ trivial e, q.mono t⟩
theorem RO.mono (t : TX K H H') {o : O} {u : HO} (h : RO K H o u) : RO K H' o u := by
  cases o with
  | lst ws => obtain ⟨xs, e, r⟩ := h; exact ⟨xs, e, r.mono t⟩
  | flst ws => obtain ⟨ob, xs, e, r⟩ := h; exact ⟨ob, xs, e, r.mono t⟩
  | dct kvs => obtain ⟨xs, e, r⟩ := h; exact ⟨xs, e, r.mono t⟩
  | dtp kvs => obtain ⟨xs, e, r⟩ := h; exact ⟨xs, e, r.mono t⟩
  | ins C dx fs => obtain ⟨xs, e, r⟩ := h; exact ⟨xs, e, r.mono t⟩
  | raw x => exact h
  | exc a cls fs => obtain ⟨d, e, r⟩ := h; exact ⟨d, e, r.mono t⟩
  | tbn nm =>
    obtain ⟨ps, e, r1, r2⟩ := h
    refine ⟨ps, e, r1, fun pos cv z => ?_⟩
    obtain ⟨c, e1, e2⟩ := r2 pos cv z
    exact ⟨c, e1, t _ _ trivial e2⟩
  | clo f n cs =>
    obtain ⟨cl, c, e, e2, e3⟩ := h
    exact ⟨cl, c, e, t _ _ trivial e2, e3⟩
  | cel w =>
    obtain ⟨o, x, v, uu, e, e2, e3, r⟩ := h
    exact ⟨o, x, v, uu, e, e2, e3, r.mono t⟩
theorem RH.fresh (r : RH K G H) {p : Addr} (h : H p = none) : G p = none := by
  cases e : G p with
  | none => rfl
  | some o => obtain ⟨u, hu, _⟩ := r p o e; rw [h] at hu; cases hu
/-- laid anew -/
theorem RH.new (r : RH K G H) {p : Addr} {o : O} {u : HO} (h : H p = none) (ro : RO K (upd H p u) o u) : RH K (updO G p o) (upd H p u) := fun a x e => by
  by_cases ha : a = p
  · subst ha
    rw [updO_same] at e; cases e
    exact ⟨u, upd_same, ro⟩
  · rw [updO_ne ha] at e
    obtain ⟨v, hv, rv⟩ := r a x e
    exact ⟨v, by rw [upd_ne ha]; exact hv, rv.mono (TX.new h)⟩
/-- laid, not told -/
theorem RH.kept (r : RH K G H) {p : Addr} {u : HO} (h : H p = none) : RH K G (upd H p u) := fun a x e => by
  obtain ⟨v, hv, rv⟩ := r a x e
  exact ⟨v, by rw [upd_ne (ne_of_none hv h)]; exact hv, rv.mono (TX.new h)⟩
/-- written -/
theorem RH.put (r : RH K G H) {p : Addr} {o : O} {u u0 : HO} (h : H p = some u0) (n : NoTup u0) (ro : RO K (upd H p u) o u) : RH K (updO G p o) (upd H p u) := fun a x e => by
  by_cases ha : a = p
  · subst ha
    rw [updO_same] at e; cases e
    exact ⟨u, upd_same, ro⟩
  · rw [updO_ne ha] at e
    obtain ⟨v, hv, rv⟩ := r a x e
    exact ⟨v, by rw [upd_ne ha]; exact hv, rv.mono (TX.put h n)⟩
theorem RH.lst (r : RH K G H) {a : Addr} {ws : List Wv} (h : G a = some (.lst ws)) : ∃ xs, H a = some (.lst xs) ∧ RWs K H ws xs := by
  obtain ⟨u, hu, xs, rfl, q⟩ := r a _ h
  exact ⟨xs, hu, q⟩
theorem RH.flst (r : RH K G H) {a : Addr} {ws : List Wv} (h : G a = some (.flst ws)) : ∃ o xs, H a = some (.frz o (.lst xs)) ∧ RWs K H ws xs := by
  obtain ⟨u, hu, o, xs, rfl, q⟩ := r a _ h
  exact ⟨o, xs, hu, q⟩
theorem RH.dct (r : RH K G H) {a : Addr} {ws : List (Key × Wv)} (h : G a = some (.dct ws)) : ∃ xs, H a = some (.dK xs) ∧ RKs K H ws xs := by
  obtain ⟨u, hu, xs, rfl, q⟩ := r a _ h
  exact ⟨xs, hu, q⟩
theorem RH.dtp (r : RH K G H) {a : Addr} {ws : List (List Key × Wv)} (h : G a = some (.dtp ws)) : ∃ xs, H a = some (.dT xs) ∧ RKs K H ws xs := by
  obtain ⟨u, hu, xs, rfl, q⟩ := r a _ h
  exact ⟨xs, hu, q⟩
theorem RH.ins (r : RH K G H) {a C dx : Addr} {fs : List (Str × Wv)} (h : G a = some (.ins C dx fs)) : ∃ xs, H a = some (.ins C dx xs) ∧ RKs K H fs xs := by
  obtain ⟨u, hu, xs, rfl, q⟩ := r a _ h
  exact ⟨xs, hu, q⟩
theorem RH.exc (r : RH K G H) {a e : Addr} {cls : Value} {fs : List (Str × Wv)} (h : G a = some (.exc e cls fs)) : ∃ d, H a = some (XcO e cls d) ∧ RX K H d fs := by
  obtain ⟨u, hu, d, rfl, q⟩ := r a _ h
  exact ⟨d, hu, q⟩
theorem RH.raw (r : RH K G H) {a : Addr} {u : HO} (h : G a = some (.raw u)) : H a = some u := by
  obtain ⟨x, hu, q⟩ := r a _ h
  obtain rfl : x = u := q
  exact hu
theorem RH.newL (r : RH K G H) {p : Addr} {ws : List Wv} {xs : List V} (h : H p = none) (q : RWs K H ws xs) : RH K (updO G p (.lst ws)) (upd H p (.lst xs)) := r.new h ⟨xs, rfl, q.mono (TX.new h)⟩
theorem RH.putL (r : RH K G H) {p : Addr} {ws : List Wv} {xs x0 : List V} (h : H p = some (.lst x0)) (q : RWs K H ws xs) : RH K (updO G p (.lst ws)) (upd H p (.lst xs)) := r.put h noTup_lst ⟨xs, rfl, q.mono (TX.put h noTup_lst)⟩
theorem RH.newD (r : RH K G H) {p : Addr} {ws : List (Key × Wv)} {xs : List (Key × V)} (h : H p = none) (q : RKs K H ws xs) : RH K (updO G p (.dct ws)) (upd H p (.dK xs)) := r.new h ⟨xs, rfl, q.mono (TX.new h)⟩
theorem RH.putD (r : RH K G H) {p : Addr} {ws : List (Key × Wv)} {xs x0 : List (Key × V)} (h : H p = some (.dK x0)) (q : RKs K H ws xs) : RH K (updO G p (.dct ws)) (upd H p (.dK xs)) := r.put h noTup_dK ⟨xs, rfl, q.mono (TX.put h noTup_dK)⟩
theorem RH.newT (r : RH K G H) {p : Addr} {ws : List (List Key × Wv)} {xs : List (List Key × V)} (h : H p = none) (q : RKs K H ws xs) : RH K (updO G p (.dtp ws)) (upd H p (.dT xs)) := r.new h ⟨xs, rfl, q.mono (TX.new h)⟩
theorem RH.putT (r : RH K G H) {p : Addr} {ws : List (List Key × Wv)} {xs x0 : List (List Key × V)} (h : H p = some (.dT x0)) (q : RKs K H ws xs) : RH K (updO G p (.dtp ws)) (upd H p (.dT xs)) := r.put h noTup_dT ⟨xs, rfl, q.mono (TX.put h noTup_dT)⟩
theorem RH.putI (r : RH K G H) {p C dx : Addr} {ws : List (Str × Wv)} {xs x0 : List (Str × V)} (h : H p = some (.ins C dx x0)) (q : RKs K H ws xs) : RH K (updO G p (.ins C dx ws)) (upd H p (.ins C dx xs)) := r.put h noTup_ins ⟨xs, rfl, q.mono (TX.put h noTup_ins)⟩
/-- a list that is read -/
def RdL (G : HW) (a : Addr) (ws : List Wv) : Prop := G a = some (.lst ws) ∨ G a = some (.flst ws)
theorem RH.rdl (r : RH K G H) {a : Addr} {ws : List Wv} (h : RdL G a ws) : ∃ xs, SqL K H a xs ∧ RWs K H ws xs := by
  rcases h with h | h
  · obtain ⟨xs, e, q⟩ := r.lst h
    exact ⟨xs, SqL.of e, q⟩
  · obtain ⟨o, xs, e, q⟩ := r.flst h
    exact ⟨xs, .inl (.inr ⟨o, e⟩), q⟩
end
/-! ### slots, wishes -/
abbrev SW := List (Option Wv)
abbrev WK := Wv → HW → Prop
abbrev XW := Value → List (Str × Wv) → SW → HW → Prop
abbrev ET := XW → SW → HW → WK → Prop
abbrev QT := XW → SW → HW → (Bool → HW → Prop) → Prop
abbrev AT := XW → SW → HW → (List Wv → HW → Prop) → Prop
def R1 (K : PySem.W.Frag) (H : Hp) : Option Wv → Option V → Prop
  | none, _ => True
  | some w, some v => RW K H w v
  | some _, none => False
abbrev RS (K : PySem.W.Frag) (H : Hp) : SW → L2.St → Prop := Paired (R1 K H)
section
variable {K : PySem.W.Frag} {G G' : HW} {H H' H1 H2 : Hp}
theorem R1.mono (t : TX K H H') {a : Option Wv} {b : Option V} (h : R1 K H a b) : R1 K H' a b := by
  cases a with
  | none => trivial
  | some w =>
    cases b with
    | none => exact h
    | some v => exact RW.mono t h
theorem RS.mono (t : TX K H H') {a : SW} {b : L2.St} (h : RS K H a b) : RS K H' a b := L2.Paired.mapP h fun _ _ z => R1.mono t z
theorem RS.get : ∀ {a : SW} {b : L2.St} {i : Nat} {w : Wv}, RS K H a b → a[i]? = some (some w) → ∃ v, b[i]? = some (some v) ∧ RW K H w v
  | _, _, _, _, .nil, e => by simp at e
  | _, _, 0, w, .cons (b := b) h _, e => by
    simp at e
    subst e
    cases b with
    | none => exact h.elim
    | some v => exact ⟨v, rfl, h⟩
  | _, _, i + 1, w, .cons _ hs, e => by
    obtain ⟨v, x, y⟩ := RS.get (i := i) (w := w) hs (by simpa using e)
    exact ⟨v, by simpa using x, y⟩
theorem RS.set {w : Wv} {v : V} (h : RW K H w v) : ∀ {a : SW} {b : L2.St} (n : Nat), RS K H a b → RS K H (a.set n (some w)) (b.set n (some v))
  | _, _, _, .nil => .nil
  | _, _, 0, .cons _ b => .cons h b
  | _, _, n + 1, .cons a b => .cons a (RS.set h n b)
def Post (K : PySem.W.Frag) (H : Hp) (Q : VK) (q : WK) : Prop := ∀ w G v H', TX K H H' → RW K H' w v → RH K G H' → q w G → Q v H'
def PostB (K : PySem.W.Frag) (H : Hp) (Q : Bool → Hp → Prop) (q : Bool → HW → Prop) : Prop := ∀ b G H', TX K H H' → RH K G H' → q b G → Q b H'
def PostL (K : PySem.W.Frag) (H : Hp) (Q : List V → Hp → Prop) (q : List Wv → HW → Prop) : Prop := ∀ ws G vs H', TX K H H' → RWs K H' ws vs → RH K G H' → q ws G → Q vs H'
def PostS (K : PySem.W.Frag) (H : Hp) (Q : L2.St → Hp → Prop) (q : SW → HW → Prop) : Prop := ∀ σw G σ H', TX K H H' → RS K H' σw σ → RH K G H' → q σw G → Q σ H'
def PostX (K : PySem.W.Frag) (H : Hp) (Wx : WX) (x : XW) : Prop := ∀ cls d fs σw G σ H', TX K H H' → RX K H' d fs → RS K H' σw σ → RH K G H' → x cls fs σw G → Wx cls d σ H'
theorem Post.mono {Q : VK} {q : WK} (p : Post K H Q q) (t : TX K H H') : Post K H' Q q := fun w G v H2 t2 => p w G v H2 (t.trans t2)
theorem PostB.mono {Q : Bool → Hp → Prop} {q : Bool → HW → Prop} (p : PostB K H Q q) (t : TX K H H') : PostB K H' Q q := fun b G H2 t2 => p b G H2 (t.trans t2)
theorem PostL.mono {Q : List V → Hp → Prop} {q : List Wv → HW → Prop} (p : PostL K H Q q) (t : TX K H H') : PostL K H' Q q := fun w G v H2 t2 => p w G v H2 (t.trans t2)
theorem PostS.mono {Q : L2.St → Hp → Prop} {q : SW → HW → Prop} (p : PostS K H Q q) (t : TX K H H') : PostS K H' Q q := fun w G v H2 t2 => p w G v H2 (t.trans t2)
theorem PostX.mono {Wx : WX} {x : XW} (p : PostX K H Wx x) (t : TX K H H') : PostX K H' Wx x := fun c d fs w G v H2 t2 => p c d fs w G v H2 (t.trans t2)
end
/-! ### readings of trees as readings of the layer -/
def emb (K : PySem.W.Frag) (Wx : WX) (t : ET) : TE := fun σ H Q => ∃ σw G x q, RS K H σw σ ∧ RH K G H ∧ PostX K H Wx x ∧ Post K H Q q ∧ t x σw G q
def embB (K : PySem.W.Frag) (Wx : WX) (t : QT) : TT := fun σ H Q => ∃ σw G x q, RS K H σw σ ∧ RH K G H ∧ PostX K H Wx x ∧ PostB K H Q q ∧ t x σw G q
def embA (K : PySem.W.Frag) (Wx : WX) (t : AT) : TA := fun σ H Q => ∃ σw G x q, RS K H σw σ ∧ RH K G H ∧ PostX K H Wx x ∧ PostL K H Q q ∧ t x σw G q
structure EndsW where
  nx : SW → HW → Prop
  rt : WK
  bk : SW → HW → Prop := fun _ _ => False
  ct : SW → HW → Prop := fun _ _ => False
  ex : XW
abbrev ST := EndsW → SW → HW → Prop
structure Sim (K : PySem.W.Frag) (Wx : WX) (H : Hp) (D : Ends) (d : EndsW) : Prop where
  nx : PostS K H D.nx d.nx
  rt : Post K H D.rt d.rt
  bk : PostS K H D.bk d.bk
  ct : PostS K H D.ct d.ct
  ex : PostX K H Wx d.ex
theorem Sim.mono {K : PySem.W.Frag} {Wx : WX} {H H' : Hp} {D : Ends} {d : EndsW} (s : Sim K Wx H D d) (t : TX K H H') : Sim K Wx H' D d := ⟨s.nx.mono t, s.rt.mono t, s.bk.mono t, s.ct.mono t, s.ex.mono t⟩
def embS (K : PySem.W.Frag) (Wx : WX) (t : ST) : TS := fun D σ H => ∃ σw G d, RS K H σw σ ∧ RH K G H ∧ Sim K Wx H D d ∧ t d σw G
/-- targets -/
abbrev GT := XW → Wv → SW → HW → (SW → HW → Prop) → Prop
def embG (K : PySem.W.Frag) (Wx : WX) (g : GT) : TG := fun v σ H Q => ∃ w σw G x q, RW K H w v ∧ RS K H σw σ ∧ RH K G H ∧ PostX K H Wx x ∧ PostS K H Q q ∧ g x w σw G q
abbrev EW (X : Cx) (Wx : WX) (e : Expr) (t : ET) : Prop := PE X e (emb X.K Wx t)
abbrev QW (X : Cx) (Wx : WX) (e : Expr) (t : QT) : Prop := PT X e (embB X.K Wx t)
abbrev QWw (X : Cx) (Wx : WX) (e : Expr) (t : QT) : Prop := PW X e (embB X.K Wx t)
abbrev AW (X : Cx) (Wx : WX) (es : List Expr) (t : AT) : Prop := PA X es (embA X.K Wx t)
abbrev TW (X : Cx) (Wx : WX) (st : Stmt) (t : ST) : Prop := PS X st (embS X.K Wx t)
abbrev TWs (X : Cx) (Wx : WX) (st : List Stmt) (t : ST) : Prop := PSs X st (embS X.K Wx t)
abbrev GW (X : Cx) (Wx : WX) (e : Expr) (g : GT) : Prop := PG X e (embG X.K Wx g)
theorem pe_imp {X : Cx} {e : Expr} {t t' : TE} (h : PE X e t) (i : ∀ σ H Q, t' σ H Q → t σ H Q) : PE X e t' := ⟨fun pins s σ H Q I q => h.run pins s σ H Q I (i _ _ _ q)⟩
theorem pt_imp {X : Cx} {e : Expr} {t t' : TT} (h : PT X e t) (i : ∀ σ H Q, t' σ H Q → t σ H Q) : PT X e t' := ⟨fun pins s σ H Q I q => h.run pins s σ H Q I (i _ _ _ q)⟩
theorem pw_imp {X : Cx} {e : Expr} {t t' : TT} (h : PW X e t) (i : ∀ σ H Q, t' σ H Q → t σ H Q) : PW X e t' := ⟨fun wh pins s σ H Q I q => h.run wh pins s σ H Q I (i _ _ _ q)⟩
theorem pa_imp {X : Cx} {e : List Expr} {t t' : TA} (h : PA X e t) (i : ∀ σ H Q, t' σ H Q → t σ H Q) : PA X e t' := ⟨fun pos pins s σ H Q I q => h.run pos pins s σ H Q I (i _ _ _ q)⟩
theorem ps_imp {X : Cx} {st : Stmt} {t t' : TS} (h : PS X st t) (i : ∀ D σ H, t' D σ H → t D σ H) : PS X st t' := ⟨fun pins s σ H D I q => h.run pins s σ H D I (i _ _ _ q)⟩
theorem pss_imp {X : Cx} {st : List Stmt} {t t' : TS} (h : PSs X st t) (i : ∀ D σ H, t' D σ H → t D σ H) : PSs X st t' := ⟨fun pins s σ H D I q => h.run pins s σ H D I (i _ _ _ q)⟩
theorem pg_imp {X : Cx} {e : Expr} {t t' : TG} (h : PG X e t) (i : ∀ v σ H Q, t' v σ H Q → t v σ H Q) : PG X e t' := ⟨fun pins s σ H v u Q I r q => h.run pins s σ H v u Q I r (i _ _ _ _ q)⟩
/-! ### names, constants -/
section
variable {X : Cx} {Wx : WX} {pos : Pos} {a b c e : Expr} {es : List Expr} {ta tb tc : ET}
def eV (i : Nat) : ET := fun _ σ G q => match σ[i]? with
  | some (some w) => q w G
  | _ => False
def eC (w : Wv) : ET := fun _ _ G q => q w G
theorem z_var {i : Nat} {x : Str} (hN : X.N[i]? = some x) (hv : Vis X.env.scope x) (hd : (x == ("__debug__" : Str)) = false := by decide) (hcd : (x == ("__classdict__" : Str)) = false := by decide) : EW X Wx (.Name x pos) (eV i) :=
  pe_imp (pe_var hN hv hd hcd) fun σ H Q ⟨σw, G, xw, q, rs, rh, px, po, h⟩ => by
    unfold eV at h
    split at h
    · rename_i w e
      obtain ⟨v, e1, r⟩ := rs.get e
      exact ⟨v, e1, po w G v H TX.refl r rh h⟩
    · exact h.elim
theorem z_cv {w : Wv} {v : V} (h : PE X e (tC v)) (r : ∀ H, RW X.K H w v) : EW X Wx e (eC w) :=
  pe_imp h fun σ H Q ⟨σw, G, xw, q, rs, rh, px, po, h⟩ => po w G v H TX.refl (r H) rh h
theorem z_int {i j} : EW X Wx (.Constant (.int i) j pos) (eC (.int i)) := z_cv pe_int fun _ => .int i
theorem z_bl {i j} : EW X Wx (.Constant (.bool i) j pos) (eC (.bl i)) := z_cv pe_bl fun _ => .bl i
theorem z_non {j} : EW X Wx (.Constant .none j pos) (eC .non) := z_cv pe_non fun _ => .non
theorem z_str {x j} : EW X Wx (.Constant (.str x) j pos) (eC (.str x)) := z_cv pe_str fun _ => .str x
/-- a class, a def, a constant of the module as a value -/
theorem z_glob {x : Str} {w : Wv} {v : V} {u : Value} (hg : Gl X x) (hm : X.mg x = some u) (r : RelV v u) (rw' : ∀ H, RW X.K H w v) (hd : (x == ("__debug__" : Str)) = false := by decide) : EW X Wx (.Name x pos) (eC w) := z_cv (pe_glob hg hm r hd) rw'
theorem z_globI {x : Str} {i : Int} {t : Tok} (hg : Gl X x) (hm : X.mg x = some (.int i t)) (hd : (x == ("__debug__" : Str)) = false := by decide) : EW X Wx (.Name x pos) (eC (.int i)) := z_glob (v := .int i) hg hm ⟨t, rfl⟩ (fun _ => .int i) hd
theorem z_globR {x : Str} {p : Addr} (hg : Gl X x) (hm : X.mg x = some (.ref p)) (hd : (x == ("__debug__" : Str)) = false := by decide) : EW X Wx (.Name x pos) (eC (.ref p)) := z_glob (v := .ref p) hg hm rfl (fun _ => .ref p) hd
theorem z_bty {x : Str} {n : String} (hg : Gl X x) (hm : X.mg x = none) (hv : bootBuiltins x = some (.type n)) (hn : x ≠ "__name__" := by decide) (hd : (x == ("__debug__" : Str)) = false := by decide) : EW X Wx (.Name x pos) (eC (.ty n)) :=
  z_cv (v := .ty n) (pe_bltn hg hm hv rfl hn hd) fun _ => .ty n
/-! ### operations -/
abbrev RWop := Wv → Wv → HW → WK → Prop
def embR (K : PySem.W.Frag) (r : RWop) : R2 := fun x y H Q => ∃ w1 w2 G q, RW K H w1 x ∧ RW K H w2 y ∧ RH K G H ∧ Post K H Q q ∧ r w1 w2 G q
def eOp (r : RWop) (ta tb : ET) : ET := fun x σ G q => ta x σ G fun w1 G1 => tb x σ G1 fun w2 G2 => r w1 w2 G2 q
theorem emb_op {K : PySem.W.Frag} {r : RWop} : ∀ σ H Q, emb K Wx (eOp r ta tb) σ H Q → tOp (embR K r) (emb K Wx ta) (emb K Wx tb) σ H Q := by
  rintro σ H Q ⟨σw, G, x, q, rs, rh, px, po, h⟩
  refine ⟨σw, G, x, _, rs, rh, px, fun w1 G1 v1 H1 t1 r1 rh1 h1 => ?_, h⟩
  refine ⟨σw, G1, x, _, rs.mono t1, rh1, px.mono t1, fun w2 G2 v2 H2 t2 r2 rh2 h2 => ?_, h1⟩
  exact ⟨w1, w2, G2, q, r1.mono t2, r2, rh2, po.mono (t1.trans t2), h2⟩
abbrev OW (X : Cx) (f : Value → Value → Sem Value) (r : RWop) : Prop := OpR X f (embR X.K r)
theorem z_bin {op : Operator} {r : RWop} (ho : OW X (binaryOp op) r) (ha : EW X Wx a ta) (hb : EW X Wx b tb) : EW X Wx (.BinOp a op b pos) (eOp r ta tb) := pe_imp (pe_op ho ha hb) emb_op
theorem z_cmp {op : CmpOp} {r : RWop} (ho : OW X (compareOp op) r) (ha : EW X Wx a ta) (hb : EW X Wx b tb) (hm : behindInMarks op b = false) : EW X Wx (.Compare a [op] [b] pos) (eOp r ta tb) := pe_imp (pe_cmpR ho ha hb hm) emb_op
/-- a comparison as a test -/
def qOp (r : RWop) (ta tb : ET) : QT := fun x σ G q => ta x σ G fun w1 G1 => tb x σ G1 fun w2 G2 => r w1 w2 G2 fun w G3 => match w with
  | .bl k => q k G3
  | _ => False
theorem z_qcmp {op : CmpOp} {r : RWop} (ho : OW X (compareOp op) r) (ha : EW X Wx a ta) (hb : EW X Wx b tb) (hm : behindInMarks op b = false) : QW X Wx (.Compare a [op] [b] pos) (qOp r ta tb) :=
  pt_imp (pt_cmpR ho ha hb hm) fun σ H Q ⟨σw, G, x, q, rs, rh, px, po, h⟩ => emb_op σ H _ ⟨σw, G, x, _, rs, rh, px, (fun w G3 v H3 t3 r3 rh3 h3 => by
    cases w <;> try exact h3.elim
    cases r3
    exact ⟨_, rfl, po _ _ _ t3 rh3 h3⟩), h⟩
/-- a < b < c -/
def eChain (r r' : RWop) (ta tb tc : ET) : ET := fun x σ G q => ta x σ G fun w1 G1 => tb x σ G1 fun w2 G2 => r w1 w2 G2 fun w G3 => match w with
  | .bl true => tc x σ G3 fun w3 G4 => r' w2 w3 G4 q
  | .bl false => q (.bl false) G3
  | _ => False
theorem emb_chain {K : PySem.W.Frag} {r r' : RWop} : ∀ σ H Q, emb K Wx (eChain r r' ta tb tc) σ H Q → tChain (embR K r) (embR K r') (emb K Wx ta) (emb K Wx tb) (emb K Wx tc) σ H Q := by
  rintro σ H Q ⟨σw, G, x, q, rs, rh, px, po, h⟩
  refine ⟨σw, G, x, _, rs, rh, px, fun w1 G1 v1 H1 t1 r1 rh1 h1 => ?_, h⟩
  refine ⟨σw, G1, x, _, rs.mono t1, rh1, px.mono t1, fun w2 G2 v2 H2 t2 r2 rh2 h2 => ?_, h1⟩
  refine ⟨w1, w2, G2, _, r1.mono t2, r2, rh2, fun w G3 v H3 t3 r3 rh3 h3 => ?_, h2⟩
  have t := (t1.trans t2).trans t3
  cases w <;> try exact h3.elim
  rename_i k
  cases r3
  refine ⟨k, rfl, ?_⟩
  cases k with
  | false =>
    rw [if_neg Bool.false_ne_true]
    exact po _ _ _ _ t (.bl false) rh3 h3
  | true =>
    rw [if_pos rfl]
    exact ⟨σw, G3, x, _, rs.mono t, rh3, px.mono t, fun w3 G4 v3 H4 t4 r4 rh4 h4 => ⟨w2, w3, G4, q, (r2.mono t3).mono t4, r4, rh4, po.mono (t.trans t4), h4⟩, h3⟩
end
end LF
/-! LF2: operations on trees -/
namespace LF
open PySem PySem.Spec PyProof.Rows L2
/-! ### tables -/
section
variable {κ : Type} [DecidableEq κ]
def lkW (kvs : List (κ × Wv)) (k : κ) : Option Wv := (kvs.find? fun p => decide (p.1 = k)).map (·.2)
def pkW (kvs : List (κ × Wv)) (k : κ) (w : Wv) : List (κ × Wv) :=
  if (kvs.any fun p => decide (p.1 = k)) = true then kvs.map (fun p => if p.1 = k then (p.1, w) else p) else kvs ++ [(k, w)]
variable {K : PySem.W.Frag} {H : Hp}
theorem RKs.len {κ : Type} {kvs : List (κ × Wv)} {vs : List (κ × V)} (r : RKs K H kvs vs) : vs.length = kvs.length := (Paired.length r).symm
theorem RKs.look {kvs : List (κ × Wv)} {vs : List (κ × V)} (r : RKs K H kvs vs) (k : κ) : (lkW kvs k = none ∧ valV vs k = none) ∨ ∃ w v, lkW kvs k = some w ∧ valV vs k = some v ∧ RW K H w v := by
  induction r with
  | nil => exact .inl ⟨rfl, rfl⟩
  | @cons p q ps qs h t ih =>
    obtain ⟨e, rw'⟩ := h
    by_cases hk : p.1 = k
    · refine .inr ⟨p.2, q.2, ?_, valV_pos (e ▸ hk), rw'⟩
      simp [lkW, List.find?_cons, hk]
    · have e1 : lkW (p :: ps) k = lkW ps k := by simp [lkW, List.find?_cons, hk]
      rw [e1, valV_neg (by rw [← e]; exact hk)]
      exact ih
theorem RKs.any {kvs : List (κ × Wv)} {vs : List (κ × V)} (r : RKs K H kvs vs) (k : κ) : (vs.any fun p => decide (p.1 = k)) = kvs.any fun p => decide (p.1 = k) := by
  induction r with
  | nil => rfl
  | @cons p q ps qs h t ih =>
    rw [List.any_cons, List.any_cons, ih, h.1]
theorem RKs.snoc {κ : Type} {kvs : List (κ × Wv)} {vs : List (κ × V)} (r : RKs K H kvs vs) (k : κ) {w : Wv} {v : V} (h : RW K H w v) : RKs K H (kvs ++ [(k, w)]) (vs ++ [(k, v)]) := Paired.snoc r ⟨rfl, h⟩
theorem RKs.repl (k : κ) {w : Wv} {v : V} (h : RW K H w v) {kvs : List (κ × Wv)} {vs : List (κ × V)} (r : RKs K H kvs vs) :
    RKs K H (kvs.map fun p => if p.1 = k then (p.1, w) else p) (vs.map fun p => if p.1 = k then (p.1, v) else p) := by
  induction r with
  | nil => exact .nil
  | @cons p q ps qs h1 t ih =>
    obtain ⟨p1, p2⟩ := p
    obtain ⟨q1, q2⟩ := q
    obtain ⟨e, rr⟩ := h1
    dsimp only at e
    subst e
    rw [List.map_cons, List.map_cons]
    refine .cons ?_ ih
    by_cases hk : p1 = k
    · rw [if_pos hk, if_pos hk]; exact ⟨rfl, h⟩
    · rw [if_neg hk, if_neg hk]; exact ⟨rfl, rr⟩
theorem RKs.put {kvs : List (κ × Wv)} {vs : List (κ × V)} (r : RKs K H kvs vs) (k : κ) {w : Wv} {v : V} (h : RW K H w v) : RKs K H (pkW kvs k w) (putK vs k v) := by
  unfold pkW putK
  rw [r.any k]
  split
  · exact r.repl k h
  · exact r.snoc k h
theorem pkW_len (kvs : List (κ × Wv)) (k : κ) (w : Wv) : (pkW kvs k w).length ≤ kvs.length + 1 := by
  unfold pkW
  split
  · rw [List.length_map]; omega
  · rw [List.length_append]; simp
end
/-! ### arithmetic and such -/
section
variable {X : Cx}
def wAdd : RWop := fun a b G q => match a, b with
  | .int i, .int j => q (.int (i + j)) G
  | .str x, .str y => x.length + y.length ≤ sizeLine ∧ q (.str (x ++ y)) G
  | .tup xs, .tup ys => xs.length + ys.length ≤ sizeLine ∧ q (.tup (xs ++ ys)) G
  | .ref p, .ref r => ∃ xs ys, G p = some (.lst xs) ∧ G r = some (.lst ys) ∧ xs.length + ys.length ≤ sizeLine ∧ ∀ l, G l = none → q (.ref l) (updO G l (.lst (xs ++ ys)))
  | .int i, .bl k => q (.int (i + b2i k)) G
  | _, _ => False
theorem w_add : OW X (binaryOp .Add) wAdd := by
  rintro pins s σ H x y v u Q I rx ry ⟨w1, w2, G, q, r1, r2, rh, po, h⟩
  unfold wAdd at h
  split at h
  · cases r1; cases r2
    exact op_add pins s σ H _ _ v u Q I rx ry ⟨_, _, rfl, rfl, po _ _ _ _ TX.refl (.int _) rh h⟩
  · cases r1; cases r2
    exact op_add_str pins s σ H _ _ v u Q I rx ry ⟨_, _, rfl, rfl, h.1, po _ _ _ _ TX.refl (.str _) rh h.2⟩
  · cases r1 with
    | tup h1 s1 =>
      cases r2 with
      | tup h2 s2 =>
        refine op_catA pins s σ H _ _ v u Q I rx ry ⟨_, _, _, _, rfl, rfl, SqT.of h1, SqT.of h2, by rw [s1.len, s2.len]; exact h.1, fun e => ?_, fun _ e => ?_, fun _ _ p hp => ?_⟩
        · subst e; cases s1
          exact po _ _ _ _ TX.refl (.tup h2 s2) rh h.2
        · subst e; cases s2
          refine po _ _ _ _ TX.refl (.tup h1 s1) rh ?_
          have := h.2
          rw [List.append_nil] at this
          exact this
        · exact po _ _ _ _ (TX.new hp) (.tup upd_same ((s1.mono (TX.new hp)).app (s2.mono (TX.new hp)))) (rh.kept hp) h.2
  · obtain ⟨xs, ys, e1, e2, hz, hq⟩ := h
    cases r1; cases r2
    obtain ⟨vs, f1, s1⟩ := rh.lst e1
    obtain ⟨us, f2, s2⟩ := rh.lst e2
    refine op_cat pins s σ H _ _ v u Q I rx ry ⟨_, _, _, _, rfl, rfl, f1, f2, by rw [s1.len, s2.len]; exact hz, fun p hp => ?_⟩
    exact po _ _ _ _ (TX.new hp) (.ref p) (rh.newL hp (s1.app s2)) (hq p (rh.fresh hp))
  · cases r1; cases r2
    exact op_add_ib pins s σ H _ _ v u Q I rx ry ⟨_, _, rfl, rfl, po _ _ _ _ TX.refl (.int _) rh h⟩
  · exact h.elim
/-- two ints, under C -/
def wI (C : Int → Int → Prop) (g : Int → Int → Wv) : RWop := fun a b G q => match a, b with
  | .int i, .int j => C i j ∧ q (g i j) G
  | _, _ => False
theorem w_int {f : Value → Value → Sem Value} {C : Int → Int → Prop} {g : Int → Int → V} {g' : Int → Int → Wv} (h : OpR X f (rI C g)) (hg : ∀ K H i j, RW K H (g' i j) (g i j)) : OW X f (wI C g') := by
  rintro pins s σ H x y v u Q I rx ry ⟨w1, w2, G, q, r1, r2, rh, po, hq⟩
  unfold wI at hq
  split at hq
  · cases r1; cases r2
    exact h pins s σ H _ _ v u Q I rx ry ⟨_, _, rfl, rfl, hq.1, po _ _ _ _ TX.refl (hg _ _ _ _) rh hq.2⟩
  · exact hq.elim
def wI0 (g : Int → Int → Wv) : RWop := fun a b G q => match a, b with
  | .int i, .int j => q (g i j) G
  | _, _ => False
theorem w_int0 {f : Value → Value → Sem Value} {g : Int → Int → V} {g' : Int → Int → Wv} (h : OpR X f (rI0 g)) (hg : ∀ K H i j, RW K H (g' i j) (g i j)) : OW X f (wI0 g') := by
  rintro pins s σ H x y v u Q I rx ry ⟨w1, w2, G, q, r1, r2, rh, po, hq⟩
  unfold wI0 at hq
  split at hq
  · cases r1; cases r2
    exact h pins s σ H _ _ v u Q I rx ry ⟨_, _, rfl, rfl, po _ _ _ _ TX.refl (hg _ _ _ _) rh hq⟩
  · exact hq.elim
theorem w_sub : OW X (binaryOp .Sub) (wI0 fun i j => .int (i - j)) := w_int0 op_sub fun _ _ _ _ => .int _
theorem w_mod : OW X (binaryOp .Mod) (wI (fun _ j => 0 < j) fun i j => .int (i % j)) := w_int op_mod fun _ _ _ _ => .int _
theorem w_fdiv : OW X (binaryOp .FloorDiv) (wI CDiv fun i j => .int (i / j)) := w_int op_fdiv fun _ _ _ _ => .int _
theorem w_pow : OW X (binaryOp .Pow) (wI CPow fun i j => .int (i ^ j.toNat)) := w_int op_pow fun _ _ _ _ => .int _
theorem w_lt : OW X (compareOp .Lt) (wI0 fun i j => .bl (decide (i < j))) := w_int0 op_lt fun _ _ _ _ => .bl _
theorem w_le : OW X (compareOp .LtE) (wI0 fun i j => .bl (decide (i ≤ j))) := w_int0 op_le fun _ _ _ _ => .bl _
theorem w_gt : OW X (compareOp .Gt) (wI0 fun i j => .bl (decide (j < i))) := w_int0 op_gt fun _ _ _ _ => .bl _
theorem w_ge : OW X (compareOp .GtE) (wI0 fun i j => .bl (decide (j ≤ i))) := w_int0 op_ge fun _ _ _ _ => .bl _
/-- * -/
def wMul : RWop := fun a b G q => match a, b with
  | .int i, .int j => CMul i j ∧ q (.int (i * j)) G
  | .ref p, .int k => ∃ xs, G p = some (.lst xs) ∧ -(2 ^ 63) ≤ k ∧ k < 2 ^ 63 ∧ xs.length * k.toNat ≤ sizeLine ∧ ∀ l, G l = none → q (.ref l) (updO G l (.lst (List.replicate k.toNat xs).flatten))
  | .tup xs, .int k => xs ≠ [] ∧ 2 ≤ k ∧ k ≤ 1000 ∧ xs.length ≤ 1000 ∧ q (.tup (List.replicate k.toNat xs).flatten) G
  | _, _ => False
theorem w_mul : OW X (binaryOp .Mult) wMul := by
  rintro pins s σ H x y v u Q I rx ry ⟨w1, w2, G, q, r1, r2, rh, po, h⟩
  unfold wMul at h
  split at h
  · cases r1; cases r2
    exact op_mul pins s σ H _ _ v u Q I rx ry ⟨_, _, rfl, rfl, h.1, po _ _ _ _ TX.refl (.int _) rh h.2⟩
  · obtain ⟨xs, e, h1, h2, h3, hq⟩ := h
    cases r1; cases r2
    obtain ⟨vs, f, s1⟩ := rh.lst e
    exact op_rep pins s σ H _ _ v u Q I rx ry ⟨_, _, _, rfl, rfl, f, h1, h2, by rw [s1.len]; exact h3, fun p hp => po _ _ _ _ (TX.new hp) (.ref p) (rh.newL hp (s1.rep _)) (hq p (rh.fresh hp))⟩
  · obtain ⟨h1, h2, h3, h4, hq⟩ := h
    cases r2
    cases r1 with
    | tup ht s1 =>
      refine op_repT pins s σ H _ _ v u Q I rx ry ⟨_, _, _, rfl, rfl, SqT.of ht, ?_, h2, h3, by rw [s1.len]; exact h4, fun p hp => po _ _ _ _ (TX.new hp) (.tup upd_same ((s1.mono (TX.new hp)).rep _)) (rh.kept hp) hq⟩
      intro z; subst z; cases s1; exact h1 rfl
  · exact h.elim
/-! ### data -/
mutual
inductive Dt (G : HW) : Wv → PyData → Prop
  | non : Dt G .non .none
  | bl (b : Bool) : Dt G (.bl b) (.bool b)
  | int (i : Int) : Dt G (.int i) (.int i)
  | str (x : Str) : Dt G (.str x) (.str x)
  | lst {a : Addr} {ws : List Wv} {ds : List PyData} : RdL G a ws → Dts G ws ds → Dt G (.ref a) (.list ds)
  | tup {ws : List Wv} {ds : List PyData} : Dts G ws ds → Dt G (.tup ws) (.tuple ds)
inductive Dts (G : HW) : List Wv → List PyData → Prop
  | nil : Dts G [] []
  | cons {w : Wv} {d : PyData} {ws : List Wv} {ds : List PyData} : Dt G w d → Dts G ws ds → Dts G (w :: ws) (d :: ds)
end
section
variable {K : PySem.W.Frag} {G : HW} {H : Hp}
mutual
theorem Dt.dp (rh : RH K G H) : ∀ {d : PyData} {w : Wv} {v : V}, Dt G w d → RW K H w v → Dp K H v d
  | .none, _, _, h, r => by cases h; cases r; exact .non
  | .bool b, _, _, h, r => by cases h; cases r; exact .bl b
  | .int i, _, _, h, r => by cases h; cases r; exact .int i
  | .str x, _, _, h, r => by cases h; cases r; exact .str x
  | .list ds, _, _, h, r => by
    cases h with
    | lst hl hs =>
      cases r
      obtain ⟨xs, e, rs⟩ := rh.rdl hl
      exact .lst e (Dts.dp rh hs rs)
  | .tuple ds, _, _, h, r => by
    cases h with
    | tup hs =>
      cases r with
      | tup e rs => exact .tup (SqT.of e) (Dts.dp rh hs rs)
  | .dict _, _, _, h, _ => by cases h
theorem Dts.dp (rh : RH K G H) : ∀ {ds : List PyData} {ws : List Wv} {vs : List V}, Dts G ws ds → RWs K H ws vs → DpAll K H vs ds
  | [], _, _, h, r => by cases h; cases r; exact .nil
  | d :: ds, _, _, h, r => by
    cases h with
    | cons a b =>
      cases r with
      | cons c e => exact .cons (Dt.dp rh a c) (Dts.dp rh b e)
end
end
/-- == , != -/
def wEqD : RWop := fun a b G q => ∃ d e, Dt G a d ∧ Dt G b e ∧ SeqAt.shaped d = true ∧ SeqAt.shaped e = true ∧ q (.bl (PyData.eqv d e)) G
def wNeD : RWop := fun a b G q => ∃ d e, Dt G a d ∧ Dt G b e ∧ SeqAt.shaped d = true ∧ SeqAt.shaped e = true ∧ q (.bl (!PyData.eqv d e)) G
theorem w_eqD (hu : X.A.units + 64 < cLine) : OW X (compareOp .Eq) wEqD := by
  rintro pins s σ H x y v u Q I rx ry ⟨w1, w2, G, q, r1, r2, rh, po, d, e, h1, h2, s1, s2, hq⟩
  exact op_eqD hu pins s σ H _ _ v u Q I rx ry ⟨d, e, h1.dp rh r1, h2.dp rh r2, s1, s2, po _ _ _ _ TX.refl (.bl _) rh hq⟩
theorem w_neD (hu : X.A.units + 64 < cLine) : OW X (compareOp .NotEq) wNeD := by
  rintro pins s σ H x y v u Q I rx ry ⟨w1, w2, G, q, r1, r2, rh, po, d, e, h1, h2, s1, s2, hq⟩
  exact op_neD hu pins s σ H _ _ v u Q I rx ry ⟨d, e, h1.dp rh r1, h2.dp rh r2, s1, s2, po _ _ _ _ TX.refl (.bl _) rh hq⟩
/-- flat ones at once -/
def wEq : RWop := fun a b G q => match a, b with
  | .int i, .int j => q (.bl (decide (i = j))) G
  | .str i, .str j => q (.bl (decide (i = j))) G
  | a, b => wEqD a b G q
def wNe : RWop := fun a b G q => match a, b with
  | .int i, .int j => q (.bl (!decide (i = j))) G
  | .str i, .str j => q (.bl (!decide (i = j))) G
  | a, b => wNeD a b G q
theorem dec_vi {i j : Int} : decide (V.int i = V.int j) = decide (i = j) := by simp
theorem dec_vs {i j : Str} : decide (V.str i = V.str j) = decide (i = j) := by simp
theorem w_eq (hu : X.A.units + 64 < cLine) : OW X (compareOp .Eq) wEq := by
  rintro pins s σ H x y v u Q I rx ry ⟨w1, w2, G, q, r1, r2, rh, po, h⟩
  unfold wEq at h
  split at h
  · cases r1; cases r2
    exact op_eq pins s σ H _ _ v u Q I rx ry ⟨rfl, by rw [dec_vi]; exact po _ _ _ _ TX.refl (.bl _) rh h⟩
  · cases r1; cases r2
    exact op_eq pins s σ H _ _ v u Q I rx ry ⟨rfl, by rw [dec_vs]; exact po _ _ _ _ TX.refl (.bl _) rh h⟩
  · exact w_eqD hu pins s σ H x y v u Q I rx ry ⟨_, _, G, q, r1, r2, rh, po, h⟩
theorem w_ne (hu : X.A.units + 64 < cLine) : OW X (compareOp .NotEq) wNe := by
  rintro pins s σ H x y v u Q I rx ry ⟨w1, w2, G, q, r1, r2, rh, po, h⟩
  unfold wNe at h
  split at h
  · cases r1; cases r2
    exact op_ne pins s σ H _ _ v u Q I rx ry ⟨rfl, by rw [dec_vi]; exact po _ _ _ _ TX.refl (.bl _) rh h⟩
  · cases r1; cases r2
    exact op_ne pins s σ H _ _ v u Q I rx ry ⟨rfl, by rw [dec_vs]; exact po _ _ _ _ TX.refl (.bl _) rh h⟩
  · exact w_neD hu pins s σ H x y v u Q I rx ry ⟨_, _, G, q, r1, r2, rh, po, h⟩
/-- is None; is of truths -/
def isNon : Wv → Bool
  | .non => true
  | _ => false
theorem isNon_dec {K : PySem.W.Frag} {H : Hp} {w : Wv} {v : V} (r : RW K H w v) : decide (v = .non) = isNon w := by cases r <;> rfl
def wIs : RWop := fun a b G q => match a, b with
  | a, .non => q (.bl (isNon a)) G
  | .bl i, .bl j => q (.bl (decide (i = j))) G
  | _, _ => False
def wIsNot : RWop := fun a b G q => match a, b with
  | a, .non => q (.bl (!isNon a)) G
  | .bl i, .bl j => q (.bl (!decide (i = j))) G
  | _, _ => False
theorem w_is : OW X (compareOp .Is) wIs := by
  rintro pins s σ H x y v u Q I rx ry ⟨w1, w2, G, q, r1, r2, rh, po, h⟩
  unfold wIs at h
  split at h
  · cases r2
    exact op_isN pins s σ H _ _ v u Q I rx ry ⟨rfl, by rw [isNon_dec r1]; exact po _ _ _ _ TX.refl (.bl _) rh h⟩
  · cases r1; cases r2
    exact op_isBl pins s σ H _ _ v u Q I rx ry ⟨_, _, rfl, rfl, po _ _ _ _ TX.refl (.bl _) rh h⟩
  · exact h.elim
theorem w_isnot : OW X (compareOp .IsNot) wIsNot := by
  rintro pins s σ H x y v u Q I rx ry ⟨w1, w2, G, q, r1, r2, rh, po, h⟩
  unfold wIsNot at h
  split at h
  · cases r2
    exact op_notN pins s σ H _ _ v u Q I rx ry ⟨rfl, by rw [isNon_dec r1]; exact po _ _ _ _ TX.refl (.bl _) rh h⟩
  · cases r1; cases r2
    exact op_notBl pins s σ H _ _ v u Q I rx ry ⟨_, _, rfl, rfl, po _ _ _ _ TX.refl (.bl _) rh h⟩
  · exact h.elim
/-! ### in -/
def flatW : Wv → Bool
  | .non | .bl _ | .int _ | .str _ => true
  | _ => false
def toV : Wv → V
  | .bl b => .bl b
  | .int i => .int i
  | .str x => .str x
  | .ref a => .ref a
  | .ty n => .ty n
  | _ => .non
theorem flat_toV {K : PySem.W.Frag} {H : Hp} {w : Wv} {v : V} (r : RW K H w v) (f : flatW w = true) : v = toV w ∧ flatV v = true := by cases r <;> first | exact ⟨rfl, rfl⟩ | cases f
theorem flats_toV {K : PySem.W.Frag} {H : Hp} : ∀ {ws : List Wv} {vs : List V}, RWs K H ws vs → ws.all flatW = true → vs = ws.map toV ∧ vs.all flatV = true
  | _, _, .nil, _ => ⟨rfl, rfl⟩
  | _, _, .cons r rs, f => by
    rw [List.all_cons, Bool.and_eq_true] at f
    obtain ⟨e1, f1⟩ := flat_toV r f.1
    obtain ⟨e2, f2⟩ := flats_toV rs f.2
    subst e1 e2
    exact ⟨rfl, by rw [List.all_cons, f1, f2]; rfl⟩
def eqF : Wv → Wv → Bool := fun a b => eqV (toV a) (toV b)
def inF (a : Wv) (ws : List Wv) : Bool := ws.any fun b => eqF b a
theorem inF_eq (a : Wv) (ws : List Wv) : inV (toV a) (ws.map toV) = inF a ws := by
  unfold inV inF eqF
  rw [List.any_map]
  rfl
/-- a key of a table: an int, a text; a tuple of these -/
def kW : Key → Wv
  | .inl i => .int i
  | .inr x => .str x
def keyOf : Wv → Option Key
  | .int i => some (.inl i)
  | .str x => some (.inr x)
  | _ => none
def keysOf : List Wv → Option (List Key)
  | [] => some []
  | w :: ws => match keyOf w, keysOf ws with
    | some k, some ks => some (k :: ks)
    | _, _ => none
theorem keyOf_rel {K : PySem.W.Frag} {H : Hp} {w : Wv} {v : V} {k : Key} (r : RW K H w v) (e : keyOf w = some k) : v = kV k := by
  cases r <;> first | (cases e; rfl) | cases e
theorem keysOf_rel {K : PySem.W.Frag} {H : Hp} : ∀ {ws : List Wv} {vs : List V} {ks : List Key}, RWs K H ws vs → keysOf ws = some ks → vs = ks.map kV
  | _, _, _, .nil, e => by cases e; rfl
  | _, _, _, .cons (ws := ws) r rs, e => by
    unfold keysOf at e
    split at e
    · rename_i k ks h1 h2
      cases e
      rw [keyOf_rel r h1, keysOf_rel rs h2]
      rfl
    · cases e
/-- what the dict at p holds at a -/
def DgW (G : HW) (p : Addr) (a : Wv) (o : Option Wv) : Prop := match a with
  | .tup ws => ∃ kvs ks, G p = some (.dtp kvs) ∧ keysOf ws = some ks ∧ o = lkW kvs ks
  | a => ∃ kvs k, G p = some (.dct kvs) ∧ keyOf a = some k ∧ o = lkW kvs k
end
end LF
/-! LF3: subscripts, in, slices, tests, displays, built-in calls -/
namespace LF
open PySem PySem.Spec PyProof.Rows L2
section
variable {X : Cx} {Wx : WX} {K : PySem.W.Frag}
/-! ### tables -/
theorem DgW.get {G : HW} {H : Hp} {p : Addr} {a : Wv} {o : Option Wv} {y : V} (g : DgW G p a o) (rh : RH K G H) (r : RW K H a y) : ∃ o', DGet H p y o' ∧ ((o = none ∧ o' = none) ∨ ∃ w v, o = some w ∧ o' = some v ∧ RW K H w v) := by
  cases a with
  | tup ws =>
    obtain ⟨kvs, ks, e, hk, rfl⟩ := (show ∃ kvs ks, G p = some (.dtp kvs) ∧ keysOf ws = some ks ∧ o = lkW kvs ks from g)
    cases r with
    | tup hb hs =>
    obtain ⟨vs, f, rk⟩ := rh.dtp e
    have ex := keysOf_rel hs hk
    subst ex
    refine ⟨_, DGet.t f hb, ?_⟩
    rcases rk.look ks with ⟨h1, h2⟩ | ⟨w, v, h1, h2, h3⟩
    · exact .inl ⟨h1, h2⟩
    · exact .inr ⟨w, v, h1, h2, h3⟩
  | _ =>
    obtain ⟨kvs, k, e, hk, rfl⟩ := g
    obtain ⟨vs, f, rk⟩ := rh.dct e
    have ey := keyOf_rel r hk
    subst ey
    refine ⟨_, DGet.k f, ?_⟩
    rcases rk.look k with ⟨h1, h2⟩ | ⟨w, v, h1, h2, h3⟩
    · exact .inl ⟨h1, h2⟩
    · exact .inr ⟨w, v, h1, h2, h3⟩
/-- the tables behind p[a] = w -/
def DpW (G : HW) (p : Addr) (a w : Wv) (G' : HW) : Prop := match a with
  | .tup ws => ∃ kvs ks, G p = some (.dtp kvs) ∧ keysOf ws = some ks ∧ kvs.length < sizeLine ∧ G' = updO G p (.dtp (pkW kvs ks w))
  | a => ∃ kvs k, G p = some (.dct kvs) ∧ keyOf a = some k ∧ kvs.length < sizeLine ∧ G' = updO G p (.dct (pkW kvs k w))
theorem DpW.put {G G' : HW} {H : Hp} {p : Addr} {a w : Wv} {y v : V} (g : DpW G p a w G') (rh : RH K G H) (r : RW K H a y) (rv : RW K H w v) : ∃ H', DPut H p y v H' ∧ TX K H H' ∧ RH K G' H' := by
  cases a with
  | tup ws =>
    obtain ⟨kvs, ks, e, hk, hz, rfl⟩ := (show ∃ kvs ks, G p = some (.dtp kvs) ∧ keysOf ws = some ks ∧ kvs.length < sizeLine ∧ G' = updO G p (.dtp (pkW kvs ks w)) from g)
    cases r with
    | tup hb hs =>
    obtain ⟨vs, f, rk⟩ := rh.dtp e
    have ex := keysOf_rel hs hk
    subst ex
    exact ⟨_, DPut.t f hb (by rw [rk.len]; exact hz), TX.put f noTup_dT, rh.putT f (rk.put ks rv)⟩
  | _ =>
    obtain ⟨kvs, k, e, hk, hz, rfl⟩ := g
    obtain ⟨vs, f, rk⟩ := rh.dct e
    have ey := keyOf_rel r hk
    subst ey
    exact ⟨_, DPut.k f (by rw [rk.len]; exact hz), TX.put f noTup_dK, rh.putD f (rk.put k rv)⟩
/-! ### in -/
def wIn (neg : Bool) : RWop := fun a b G q => match b with
  | .tup ws => flatW a = true ∧ ws.all flatW = true ∧ q (.bl (if neg then !inF a ws else inF a ws)) G
  | .str z => match a with
    | .str x => q (.bl (if neg then !(!(Builtin.Str.occurrences z x 0 z.length 1).isEmpty) else !(Builtin.Str.occurrences z x 0 z.length 1).isEmpty)) G
    | _ => False
  | .ref p => (∃ ws, RdL G p ws ∧ flatW a = true ∧ ws.all flatW = true ∧ q (.bl (if neg then !inF a ws else inF a ws)) G) ∨ ∃ o, DgW G p a o ∧ q (.bl (if neg then !o.isSome else o.isSome)) G
  | _ => False
theorem opt_some {o : Option Wv} {o' : Option V} {H : Hp} (h : (o = none ∧ o' = none) ∨ ∃ w v, o = some w ∧ o' = some v ∧ RW K H w v) : o'.isSome = o.isSome := by
  rcases h with ⟨rfl, rfl⟩ | ⟨w, v, rfl, rfl, _⟩ <;> rfl
theorem w_in (hu : X.A.units + 64 < cLine) : OW X (compareOp .In) (wIn false) := by
  rintro pins s σ H x y v u Q I rx ry ⟨w1, w2, G, q, r1, r2, rh, po, h⟩
  unfold wIn at h
  split at h
  · obtain ⟨f1, f2, hq⟩ := h
    cases r2 with
    | tup hb hs =>
      obtain ⟨rfl, g1⟩ := flat_toV r1 f1
      obtain ⟨rfl, g2⟩ := flats_toV hs f2
      refine op_in_seq pins s σ H _ _ v u Q I rx ry ⟨_, _, rfl, .inr (SqT.of hb), g1, g2, ?_⟩
      rw [inF_eq]
      exact po _ _ _ _ TX.refl (.bl _) rh hq
  · split at h
    · cases r1; cases r2
      exact op_in_str pins s σ H _ _ v u Q I rx ry ⟨_, _, rfl, rfl, po _ _ _ _ TX.refl (.bl _) rh h⟩
    · exact h.elim
  · cases r2
    rcases h with ⟨ws, hl, f1, f2, hq⟩ | ⟨o, g, hq⟩
    · obtain ⟨xs, hs, rs⟩ := rh.rdl hl
      obtain ⟨rfl, g1⟩ := flat_toV r1 f1
      obtain ⟨rfl, g2⟩ := flats_toV rs f2
      refine op_in_seq pins s σ H _ _ v u Q I rx ry ⟨_, _, rfl, .inl hs, g1, g2, ?_⟩
      rw [inF_eq]
      exact po _ _ _ _ TX.refl (.bl _) rh hq
    · obtain ⟨o', g', ho⟩ := g.get rh r1
      cases ry
      refine d_in (by omega) I g' rx fun s3 I3 => ⟨.bl o'.isSome, H, I3, rfl, ?_⟩
      rw [opt_some ho]
      exact po _ _ _ _ TX.refl (.bl _) rh hq
  · exact h.elim
/-! ### a[b] -/
theorem atI_rel {H : Hp} {ws : List Wv} {vs : List V} {i : Int} {w : Wv} (r : RWs K H ws vs) (h : atI ws i = some w) : ∃ v, atI vs i = some v ∧ RW K H w v := by
  unfold atI at h ⊢
  rw [r.len]
  obtain ⟨j, h1, h2⟩ := Option.bind_eq_some_iff.mp h
  obtain ⟨v, e, rv⟩ := r.get h2
  exact ⟨v, Option.bind_eq_some_iff.mpr ⟨j, h1, e⟩, rv⟩
def wIx : RWop := fun a b G q => match a with
  | .tup ws => ∃ i w, b = .int i ∧ atI ws i = some w ∧ q w G
  | .str z => ∃ i c, b = .int i ∧ z.length ≤ sizeLine ∧ atI z.cps.toList i = some c ∧ q (.str ⟨#[c]⟩) G
  | .ref p => (∃ ws i w, b = .int i ∧ RdL G p ws ∧ atI ws i = some w ∧ q w G) ∨ ∃ w, DgW G p b (some w) ∧ q w G
  | _ => False
theorem w_ix (hu : X.A.units + 64 < cLine) : IxR X (embR X.K wIx) := by
  rintro value slice pins s σ H x y v u Q I rx ry ⟨w1, w2, G, q, r1, r2, rh, po, h⟩ hs
  unfold wIx at h
  split at h
  · obtain ⟨i, w, rfl, ha, hq⟩ := h
    cases r2
    cases r1 with
    | tup hb rs =>
      obtain ⟨z, hz, rz⟩ := atI_rel rs ha
      exact ix_tup value slice pins s σ H _ _ v u Q I rx ry ⟨_, _, _, _, rfl, rfl, SqT.of hb, hz, po _ _ _ _ TX.refl rz rh hq⟩ hs
  · obtain ⟨i, c, rfl, hz, ha, hq⟩ := h
    cases r1; cases r2
    exact ix_str value slice pins s σ H _ _ v u Q I rx ry ⟨_, _, _, rfl, rfl, hz, ha, po _ _ _ _ TX.refl (.str _) rh hq⟩ hs
  · cases r1
    rcases h with ⟨ws, i, w, rfl, hl, ha, hq⟩ | ⟨w, g, hq⟩
    · cases r2
      obtain ⟨xs, hx, rs⟩ := rh.rdl hl
      obtain ⟨z, hz, rz⟩ := atI_rel rs ha
      exact ix_list value slice pins s σ H _ _ v u Q I rx ry ⟨_, _, _, _, rfl, rfl, hx, hz, po _ _ _ _ TX.refl rz rh hq⟩ hs
    · obtain ⟨o', g', ho⟩ := g.get rh r2
      rcases ho with ⟨e, _⟩ | ⟨w', z, e1, rfl, rz⟩
      · cases e
      · cases e1
        cases rx
        exact tail_any (dict_typeIs I g') PySem.F.slot_dict_getitem.lookup (d_getItem (by omega) I g' ry fun w2 s3 I3 r3 => ⟨z, H, I3, r3, po _ _ _ _ TX.refl rz rh hq⟩) hs
  · exact h.elim
variable {a b c e : Expr} {es : List Expr} {ta tb tc : ET} {pos p2 : Pos}
theorem z_ix (hu : X.A.units + 64 < cLine) (ha : EW X Wx a ta) (hb : EW X Wx b tb) (hs : PlainIx b) : EW X Wx (.Subscript a b pos) (eOp wIx ta tb) := pe_imp (pe_ix (w_ix hu) ha hb hs) emb_op
/-! ### slices -/
abbrev OT := XW → SW → HW → (Option Int → HW → Prop) → Prop
def PostO (K : PySem.W.Frag) (H : Hp) (Q : Option Int → Hp → Prop) (q : Option Int → HW → Prop) : Prop := ∀ b G H', TX K H H' → RH K G H' → q b G → Q b H'
def embO (K : PySem.W.Frag) (Wx : WX) (t : OT) : TO := fun σ H Q => ∃ σw G x q, RS K H σw σ ∧ RH K G H ∧ PostX K H Wx x ∧ PostO K H Q q ∧ t x σw G q
abbrev PW' (X : Cx) (Wx : WX) (e : Option Expr) (t : OT) : Prop := PO X e (embO X.K Wx t)
def oNone : OT := fun _ _ G q => q none G
def oSome (t : ET) : OT := fun x σ G q => t x σ G fun w G1 => match w with
  | .int i => q (some i) G1
  | _ => False
theorem po_imp {e : Option Expr} {t t' : TO} (h : PO X e t) (i : ∀ σ H Q, t' σ H Q → t σ H Q) : PO X e t' := ⟨fun pins s σ H Q I q => h.run pins s σ H Q I (i _ _ _ q)⟩
theorem z_onone : PW' X Wx none oNone := po_imp po_none fun σ H Q ⟨σw, G, x, q, rs, rh, px, po, h⟩ => po none G H TX.refl rh h
theorem z_osome (h : EW X Wx e ta) : PW' X Wx (some e) (oSome ta) := po_imp (po_some h) fun σ H Q ⟨σw, G, x, q, rs, rh, px, po, h⟩ =>
  ⟨σw, G, x, _, rs, rh, px, fun w G1 v H1 t1 r1 rh1 h1 => by
    cases w <;> try exact h1.elim
    cases r1
    exact ⟨_, rfl, po _ _ _ t1 rh1 h1⟩, h⟩
def cutL {α : Type} (xs : List α) (lo hi : Option Int) : List α := (xs.drop (HT.sIx xs.length 0 lo)).take (HT.sIx xs.length xs.length hi - HT.sIx xs.length 0 lo)
theorem cutL_rel {H : Hp} {ws : List Wv} {vs : List V} (r : RWs K H ws vs) (lo hi : Option Int) : RWs K H (cutL ws lo hi) (cutV vs lo hi) := by
  unfold cutL cutV
  rw [r.len]
  exact (r.drop _).take _
theorem cutL_whole {α : Type} (xs : List α) {lo hi : Option Int} (h : HT.sIx xs.length 0 lo = 0 ∧ HT.sIx xs.length xs.length hi = xs.length) : cutL xs lo hi = xs := by
  unfold cutL
  rw [h.1, h.2]
  simp
def wSl : Wv → Option Int → Option Int → HW → WK → Prop := fun a lo hi G q => match a with
  | .tup ws => q (.tup (cutL ws lo hi)) G
  | .str z => z.length ≤ sizeLine ∧ q (.str (cutS z lo hi)) G
  | .ref p => ∃ ws, RdL G p ws ∧ ∀ l, G l = none → q (.ref l) (updO G l (.lst (cutL ws lo hi)))
  | _ => False
def embSl (K : PySem.W.Frag) (r : Wv → Option Int → Option Int → HW → WK → Prop) : V → Option Int → Option Int → Hp → VK → Prop := fun x lo hi H Q => ∃ w G q, RW K H w x ∧ RH K G H ∧ Post K H Q q ∧ r w lo hi G q
theorem w_sl : SlR X (embSl X.K wSl) := by
  rintro pins s σ H x v vl vu lo hi sl Q I rx hs pl pu ⟨w1, G, q, r1, rh, po, h⟩
  unfold wSl at h
  split at h
  · cases r1 with
    | tup hb rs =>
      refine sl_tupA pins s σ H _ v vl vu lo hi sl Q I rx hs pl pu ⟨_, _, rfl, SqT.of hb, fun e => ?_, fun _ p hp => ?_⟩
      · rw [rs.len] at e
        rw [cutL_whole _ e] at h
        exact po _ _ _ _ TX.refl (.tup hb rs) rh h
      · exact po _ _ _ _ (TX.new hp) (.tup upd_same (cutL_rel (rs.mono (TX.new hp)) lo hi)) (rh.kept hp) h
  · cases r1
    exact sl_str pins s σ H _ v vl vu lo hi sl Q I rx hs pl pu ⟨_, rfl, h.1, po _ _ _ _ TX.refl (.str _) rh h.2⟩
  · obtain ⟨ws, hl, hq⟩ := h
    cases r1
    obtain ⟨xs, hx, rs⟩ := rh.rdl hl
    exact sl_list pins s σ H _ v vl vu lo hi sl Q I rx hs pl pu ⟨_, _, rfl, hx, fun p hp => po _ _ _ _ (TX.new hp) (.ref p) (rh.newL hp (cutL_rel rs lo hi)) (hq p (rh.fresh hp))⟩
  · exact h.elim
def eSl (ta : ET) (tl th : OT) : ET := fun x σ G q => ta x σ G fun w G1 => tl x σ G1 fun lo G2 => th x σ G2 fun hi G3 => wSl w lo hi G3 q
theorem z_sl {lo hi : Option Expr} {tl th : OT} (ha : EW X Wx a ta) (hl : PW' X Wx lo tl) (hh : PW' X Wx hi th) : EW X Wx (.Subscript a (.Slice lo hi none p2) pos) (eSl ta tl th) :=
  pe_imp (pe_slice w_sl ha hl hh) fun σ H Q ⟨σw, G, x, q, rs, rh, px, po, h⟩ =>
    ⟨σw, G, x, _, rs, rh, px, fun w1 G1 v1 H1 t1 r1 rh1 h1 => ⟨σw, G1, x, _, rs.mono t1, rh1, px.mono t1, fun lo G2 H2 t2 rh2 h2 =>
      ⟨σw, G2, x, _, rs.mono (t1.trans t2), rh2, px.mono (t1.trans t2), fun hi G3 H3 t3 rh3 h3 => ⟨w1, G3, q, r1.mono (t2.trans t3), rh3, po.mono ((t1.trans t2).trans t3), h3⟩, h2⟩, h1⟩, h⟩
/-! ### tests -/
def wTru : Wv → HW → (Bool → HW → Prop) → Prop := fun w G q => match w with
  | .non => q false G
  | .bl b => q b G
  | .int i => q (i != 0) G
  | .str s => s.length ≤ sizeLine ∧ q ((s.length : Int) != 0) G
  | .tup ws => q (!ws.isEmpty) G
  | .ref p => (∃ ws, RdL G p ws ∧ q (!ws.isEmpty) G) ∨ ∃ kvs, G p = some (.dct kvs) ∧ q (!kvs.isEmpty) G
  | _ => False
def qTru (t : ET) : QT := fun x σ G q => t x σ G fun w G1 => wTru w G1 q
theorem z_q (ha : EW X Wx a ta) (he : ∀ whole, isTrue a X.env whole = (do let v ← whole; standAt a.pos; holding [v] (truthy v)) := by intro _; rfl) : QW X Wx a (qTru ta) :=
  pt_imp (pt_truth ha he) fun σ H Q ⟨σw, G, x, q, rs, rh, px, po, h⟩ => ⟨σw, G, x, _, rs, rh, px, fun w G1 v H1 t1 r1 rh1 h1 => by
    cases r1 with
    | non => exact ⟨_, rfl, po _ _ _ t1 rh1 h1⟩
    | bl b => exact ⟨_, rfl, po _ _ _ t1 rh1 h1⟩
    | int i => exact ⟨_, rfl, po _ _ _ t1 rh1 h1⟩
    | str y => exact ⟨_, ⟨h1.1, rfl⟩, po _ _ _ t1 rh1 h1.2⟩
    | ty n => exact h1.elim
    | fn e => exact h1.elim
    | kls _ _ => exact h1.elim
    | ktp _ _ => exact h1.elim
    | tup hb rs' => exact ⟨_, .inr (.inl ⟨_, SqT.of hb, rfl⟩), po _ _ _ t1 rh1 (by rw [rs'.isEmpty]; exact h1)⟩
    | ref p =>
      rcases h1 with ⟨ws, hl, hq⟩ | ⟨kvs, e, hq⟩
      · obtain ⟨xs, hx, rs'⟩ := rh1.rdl hl
        exact ⟨_, .inl ⟨xs, hx, rfl⟩, po _ _ _ t1 rh1 (by rw [rs'.isEmpty]; exact hq)⟩
      · obtain ⟨vs, f, rk⟩ := rh1.dct e
        refine ⟨_, .inr (.inr ⟨vs, f, rfl⟩), po _ _ _ t1 rh1 ?_⟩
        have e2 : vs.isEmpty = kvs.isEmpty := by cases rk <;> rfl
        rw [e2]
        exact hq, h⟩
variable {A B : QT} {rest : List Expr}
def qAnd (t u : QT) : QT := fun x σ G q => t x σ G fun k G1 => match k with
  | true => u x σ G1 q
  | false => q false G1
def qOr (t u : QT) : QT := fun x σ G q => t x σ G fun k G1 => match k with
  | true => q true G1
  | false => u x σ G1 q
def qNot (t : QT) : QT := fun x σ G q => t x σ G fun k G1 => q (!k) G1
theorem z_and1 (h : QW X Wx a A) : QWw X Wx (.BoolOp .And [a] pos) A := pw_and1 h
theorem z_or1 (h : QW X Wx a A) : QWw X Wx (.BoolOp .Or [a] pos) A := pw_or1 h
theorem z_and (h : QW X Wx a A) (g : QWw X Wx (.BoolOp .And (b :: rest) pos) B) : QWw X Wx (.BoolOp .And (a :: b :: rest) pos) (qAnd A B) :=
  pw_imp (pw_and h g) fun σ H Q ⟨σw, G, x, q, rs, rh, px, po, h⟩ => ⟨σw, G, x, _, rs, rh, px, fun k G1 H1 t1 rh1 h1 => by
    cases k with
    | true => rw [if_pos rfl]; exact ⟨σw, G1, x, q, rs.mono t1, rh1, px.mono t1, po.mono t1, h1⟩
    | false => rw [if_neg Bool.false_ne_true]; exact po _ _ _ t1 rh1 h1, h⟩
theorem z_or (h : QW X Wx a A) (g : QWw X Wx (.BoolOp .Or (b :: rest) pos) B) : QWw X Wx (.BoolOp .Or (a :: b :: rest) pos) (qOr A B) :=
  pw_imp (pw_or h g) fun σ H Q ⟨σw, G, x, q, rs, rh, px, po, h⟩ => ⟨σw, G, x, _, rs, rh, px, fun k G1 H1 t1 rh1 h1 => by
    cases k with
    | false => rw [if_neg Bool.false_ne_true]; exact ⟨σw, G1, x, q, rs.mono t1, rh1, px.mono t1, po.mono t1, h1⟩
    | true => rw [if_pos rfl]; exact po _ _ _ t1 rh1 h1, h⟩
theorem z_bool (h : QWw X Wx a A) : QW X Wx a A := PW.pt h
theorem z_qnot (h : QW X Wx a A) : QW X Wx (.UnaryOp .Not a pos) (qNot A) :=
  pt_imp (pt_not h) fun σ H Q ⟨σw, G, x, q, rs, rh, px, po, h⟩ => ⟨σw, G, x, _, rs, rh, px, fun k G1 H1 t1 rh1 h1 => po _ _ _ t1 rh1 h1, h⟩
/-- as values: bools -/
def eAnd (t u : ET) : ET := fun x σ G q => t x σ G fun w G1 => match w with
  | .bl true => u x σ G1 q
  | .bl false => q (.bl false) G1
  | _ => False
def eOr (t u : ET) : ET := fun x σ G q => t x σ G fun w G1 => match w with
  | .bl true => q (.bl true) G1
  | .bl false => u x σ G1 q
  | _ => False
def eNot (t : ET) : ET := fun x σ G q => t x σ G fun w G1 => match w with
  | .bl k => q (.bl (!k)) G1
  | _ => False
theorem z_vone {op} (h : EW X Wx a ta) : EW X Wx (.BoolOp op [a] pos) ta := pe_one h
theorem z_vand (h : EW X Wx a ta) (g : EW X Wx (.BoolOp .And (b :: rest) pos) tb) : EW X Wx (.BoolOp .And (a :: b :: rest) pos) (eAnd ta tb) :=
  pe_imp (pe_and h g) fun σ H Q ⟨σw, G, x, q, rs, rh, px, po, h⟩ => ⟨σw, G, x, _, rs, rh, px, fun w G1 v H1 t1 r1 rh1 h1 => by
    cases w <;> try exact h1.elim
    rename_i k
    cases r1
    cases k with
    | true => exact ⟨true, rfl, by rw [if_pos rfl]; exact ⟨σw, G1, x, q, rs.mono t1, rh1, px.mono t1, po.mono t1, h1⟩⟩
    | false => exact ⟨false, rfl, by rw [if_neg Bool.false_ne_true]; exact po _ _ _ _ t1 (.bl false) rh1 h1⟩, h⟩
theorem z_vnot (h : EW X Wx a ta) : EW X Wx (.UnaryOp .Not a pos) (eNot ta) :=
  pe_imp (pe_not h) fun σ H Q ⟨σw, G, x, q, rs, rh, px, po, h⟩ => ⟨σw, G, x, _, rs, rh, px, fun w G1 v H1 t1 r1 rh1 h1 => by
    cases w <;> try exact h1.elim
    cases r1
    exact ⟨_, rfl, po _ _ _ _ t1 (.bl _) rh1 h1⟩, h⟩
def eIf (t : QT) (ta tb : ET) : ET := fun x σ G q => t x σ G fun k G1 => match k with
  | true => ta x σ G1 q
  | false => tb x σ G1 q
theorem z_ifx (h : QW X Wx c A) (ha : EW X Wx a ta) (hb : EW X Wx b tb) : EW X Wx (.IfExp c a b pos) (eIf A ta tb) :=
  pe_imp (pe_ifExp h ha hb) fun σ H Q ⟨σw, G, x, q, rs, rh, px, po, h⟩ => ⟨σw, G, x, _, rs, rh, px, fun k G1 H1 t1 rh1 h1 => by
    cases k with
    | true => rw [if_pos rfl]; exact ⟨σw, G1, x, q, rs.mono t1, rh1, px.mono t1, po.mono t1, h1⟩
    | false => rw [if_neg Bool.false_ne_true]; exact ⟨σw, G1, x, q, rs.mono t1, rh1, px.mono t1, po.mono t1, h1⟩, h⟩
/-- -a -/
def eNeg (t : ET) : ET := fun x σ G q => t x σ G fun w G1 => match w with
  | .int i => q (.int (-i)) G1
  | _ => False
theorem z_neg (h : EW X Wx a ta) : EW X Wx (.UnaryOp .USub a pos) (eNeg ta) :=
  pe_imp (pe_un un_neg h) fun σ H Q ⟨σw, G, x, q, rs, rh, px, po, h⟩ => ⟨σw, G, x, _, rs, rh, px, fun w G1 v H1 t1 r1 rh1 h1 => by
    cases w <;> try exact h1.elim
    cases r1
    exact ⟨_, rfl, po _ _ _ _ t1 (.int _) rh1 h1⟩, h⟩
/-! ### argument lists, displays -/
variable {tl : AT}
def aNil : AT := fun _ _ G q => q [] G
def aCons (t : ET) (u : AT) : AT := fun x σ G q => t x σ G fun w G1 => u x σ G1 fun ws G2 => q (w :: ws) G2
theorem z_anil : AW X Wx [] aNil := pa_imp pa_nil fun σ H Q ⟨σw, G, x, q, rs, rh, px, po, h⟩ => po _ _ _ _ TX.refl .nil rh h
theorem z_acons (h : EW X Wx e ta) (g : AW X Wx es tl) (hs : starEach (e :: es) X.env = (false, eval e X.env) :: starEach es X.env := by rfl) : AW X Wx (e :: es) (aCons ta tl) :=
  pa_imp (pa_cons h g hs) fun σ H Q ⟨σw, G, x, q, rs, rh, px, po, h⟩ => ⟨σw, G, x, _, rs, rh, px, fun w1 G1 v1 H1 t1 r1 rh1 h1 => ⟨σw, G1, x, _, rs.mono t1, rh1, px.mono t1, fun ws G2 vs H2 t2 r2 rh2 h2 =>
    po _ _ _ _ (t1.trans t2) (.cons (r1.mono t2) r2) rh2 h2, h1⟩, h⟩
def eTup (t : AT) : ET := fun x σ G q => t x σ G fun ws G1 => ws.length ≤ sizeLine ∧ q (.tup ws) G1
def eLst (t : AT) : ET := fun x σ G q => t x σ G fun ws G1 => ws.length ≤ sizeLine ∧ ∀ l, G1 l = none → q (.ref l) (updO G1 l (.lst ws))
theorem z_tup {x1} (h : AW X Wx es tl) : EW X Wx (.Tuple es x1 pos) (eTup tl) :=
  pe_imp (pe_tup h) fun σ H Q ⟨σw, G, x, q, rs, rh, px, po, h⟩ => ⟨σw, G, x, _, rs, rh, px, fun ws G1 vs H1 t1 r1 rh1 h1 => ⟨by rw [r1.len]; exact h1.1, fun p hp =>
    po _ _ _ _ (t1.trans (TX.new hp)) (.tup upd_same (r1.mono (TX.new hp))) (rh1.kept hp) h1.2⟩, h⟩
theorem z_lst (h : AW X Wx es tl) : EW X Wx (.List es pos) (eLst tl) :=
  pe_imp (pe_lst h) fun σ H Q ⟨σw, G, x, q, rs, rh, px, po, h⟩ => ⟨σw, G, x, _, rs, rh, px, fun ws G1 vs H1 t1 r1 rh1 h1 => ⟨by rw [r1.len]; exact h1.1, fun p hp =>
    po _ _ _ _ (t1.trans (TX.new hp)) (.ref p) (rh1.newL hp r1) (h1.2 p (rh1.fresh hp))⟩, h⟩
/-- {} whose keys will be flat | tuples -/
def eDnew : ET := fun _ _ G q => ∀ l, G l = none → q (.ref l) (updO G l (.dct []))
def eTnew : ET := fun _ _ G q => ∀ l, G l = none → q (.ref l) (updO G l (.dtp []))
theorem z_dnew : EW X Wx (.Dict [] [] pos) eDnew := pe_imp pe_dnewK fun σ H Q ⟨σw, G, x, q, rs, rh, px, po, h⟩ p hp => po _ _ _ _ (TX.new hp) (.ref p) (rh.newD hp .nil) (h p (rh.fresh hp))
theorem z_tnew : EW X Wx (.Dict [] [] pos) eTnew := pe_imp pe_dnewT fun σ H Q ⟨σw, G, x, q, rs, rh, px, po, h⟩ p hp => po _ _ _ _ (TX.new hp) (.ref p) (rh.newT hp .nil) (h p (rh.fresh hp))
end
end LF
/-! LF4: calls of built-ins, methods of built-in types -/
namespace LF
open PySem PySem.Spec PyProof.Rows L2
theorem fn_slot : Slot "function" "__getattribute__" "object.__getattribute__" :=
  .of (owner := "object") (n := "__getattribute__") (by rw [typeLookup_type, builtinLookup_eq_fast]; kernel_rfl) (by decide +kernel) (by decide +kernel) (by decide +kernel) (.inl (by decide +kernel)) (by rw [isSubtype_type]; kernel_rfl)
theorem fn_class : typeLookup (.type "function") "__class__" = pure (some (.builtin "object.__class__")) := by rw [typeLookup_type, builtinLookup_eq_fast]; kernel_rfl
theorem fn_owner : isSubtype (.type "function") (.type (".".intercalate ("object.__class__".cutAt '.').dropLast)) = pure true := by
  rw [F.owner_object_class, isSubtype_type]; kernel_rfl
section
variable {prog : Program} {w : World} {A : Around} {E : Value → Shared → Prop} {h : Heap} {g : Array GenState} {d : Drawn} {t : Nat} {os : OsState} {a : Addr} {o : Obj}
theorem fn_get {R : Result → Shared → Prop} (hx : h.get? a = some o) (hc : o.cls = .type "function") (hq : R (.ok (.ret (.type "function"))) ⟨h, g, d, t, os⟩) : codeAny (model prog w) A (.call (.builtin "getset_descriptor.__get__") ⟨[.builtin "object.__class__", .ref a, .type "function"], []⟩) R ⟨h, g, d, t, os⟩ := by
  have hT : (⟨h, g, d, t, os⟩ : Shared).TypeIs (.ref a) "function" := ⟨_, hx, hc⟩
  have hT5 : (⟨h, g, d, t, os⟩ : Shared).TypeIs (.builtin "object.__class__") "getset_descriptor" := F.typeOf_object_class
  have f8 := fn_owner
  refine codeAny_call_builtin F.slot_gs_get.plain F.entry_gs_get (F.slot_gs_get.check _ _ _ _ _ _ _ _ hT5 (F.args_gs_get _ _ _) ?_)
  repeat (any_goals (first | assumption | wp_step))
  refine ⟨Code.quiet_builtin _ (by decide +kernel), codeAny_builtin F.entry_object_class ?_⟩
  repeat (any_goals (first | assumption | wp_step))
theorem fn_entry {tk : Tok} {Q : Fin → Shared → Prop} (hx : h.get? a = some o) (hc : o.cls = .type "function") (hq : Q (.done (.ret (.type "function"))) ⟨h, g, d, t, os⟩) : wpAny (model prog w) A (Builtin.«object.__getattribute__» ⟨[.ref a, .str "__class__" tk], []⟩) Q E ⟨h, g, d, t, os⟩ := by
  have hT : (⟨h, g, d, t, os⟩ : Shared).TypeIs (.ref a) "function" := ⟨_, hx, hc⟩
  have hT5 : (⟨h, g, d, t, os⟩ : Shared).TypeIs (.builtin "object.__class__") "getset_descriptor" := F.typeOf_object_class
  have f4 := fn_class
  have f5 := F.typeOf_object_class
  have f6 := F.slot_gs_get.lookup
  have f7 := F.slot_gs_set.lookup
  repeat (any_goals (first | assumption | wp_step))
  refine fn_get hx hc ?_
  repeat (any_goals (first | assumption | wp_step))
theorem fn_call {tk : Tok} {R : Result → Shared → Prop} (hx : h.get? a = some o) (hc : o.cls = .type "function") (hq : R (.ok (.ret (.type "function"))) ⟨h, g, d, t, os⟩) : codeAny (model prog w) A (.call (.builtin "object.__getattribute__") ⟨[.ref a, .str "__class__" tk], []⟩) R ⟨h, g, d, t, os⟩ :=
  codeAny_call_builtin fn_slot.plain F.entry_object_getattribute (fn_slot.check _ _ _ _ _ _ _ _ (show (⟨h, g, d, t, os⟩ : Shared).TypeIs (.ref a) "function" from ⟨_, hx, hc⟩) (F.args_object_getattribute_2 _ _) (fn_entry hx hc hq))
theorem fn_by {tk : Tok} {Q : Value → Shared → Prop} (hx : h.get? a = some o) (hc : o.cls = .type "function") (hq : Q (.type "function") ⟨h, g, d, t, os⟩) : wpAny (model prog w) A (getAttrBy (.ref a) (.str "__class__" tk) false) Q E ⟨h, g, d, t, os⟩ := by
  have hT : (⟨h, g, d, t, os⟩ : Shared).TypeIs (.ref a) "function" := ⟨_, hx, hc⟩
  have f2 := fn_slot.lookup
  have f3 := fn_slot.bind (.ref a)
  repeat (any_goals (first | assumption | wp_step))
  refine fn_call hx hc ?_
  repeat (any_goals (first | assumption | wp_step))
theorem fn_cls {Q : Option Value → Shared → Prop} {s : Shared} (p : PySem.W.KitAt a "function" s.heap) (hq : Q (some (.type "function")) { s with toks := s.toks + 1 }) : wpAny (model prog w) A (getAttr? (.ref a) "__class__") Q E s := by
  obtain ⟨o, hx, hc⟩ := p
  obtain ⟨h, g, d, t, os⟩ := s
  unfold getAttr? getAttrBy?
  repeat (any_goals (first | assumption | with_reducible apply fn_by hx hc | wp_step))
theorem kitx_fn {K : PySem.W.Frag} : PySem.W.KitX K (.ref a) (.type "function") (PySem.W.KitAt a "function") := PySem.W.kitx_of PySem.W.kitAt_ty fun p k => fn_cls p k
end
section
variable {X : Cx} {Wx : WX} {K : PySem.W.Frag} {pos p p2 : Pos} {e o : Expr} {es : List Expr} {ta to : ET} {tl : AT} {x : Str}
abbrev RCop := List Wv → HW → WK → Prop
def embC (K : PySem.W.Frag) (r : RCop) : List V → Hp → VK → Prop := fun xs H Q => ∃ ws G q, RWs K H ws xs ∧ RH K G H ∧ Post K H Q q ∧ r ws G q
abbrev CW (X : Cx) (f : Value) (r : RCop) : Prop := CallR X f (embC X.K r)
def eCB (r : RCop) (t : AT) : ET := fun x σ G q => t x σ G fun ws G1 => r ws G1 q
theorem emb_cb {r : RCop} : ∀ σ H Q, emb K Wx (eCB r tl) σ H Q → tCB (embC K r) (embA K Wx tl) σ H Q := fun σ H Q ⟨σw, G, x, q, rs, rh, px, po, h⟩ =>
  ⟨σw, G, x, _, rs, rh, px, fun ws G1 vs H1 t1 r1 rh1 h1 => ⟨ws, G1, q, r1, rh1, po.mono t1, h1⟩, h⟩
theorem z_callB {id : String} {r : RCop} (hc : CW X (.builtin id) r) (hg : Gl X x) (hm : X.mg x = none) (hv : bootBuiltins x = some (.builtin id)) (ha : AW X Wx (e :: es) tl) (hn : x ≠ "__name__" := by decide) (hdb : (x == ("__debug__" : Str)) = false := by decide)
    (he : starEach (e :: es) X.env = (false, eval e X.env) :: starEach es X.env := by rfl) (hpl : (backTo pos (starEach es X.env)).any (·.1) = false := by rfl) : EW X Wx (.Call (.Name x p) (e :: es) [] pos) (eCB r tl) :=
  pe_imp (pe_callB hc hg hm hv ha hn hdb he hpl) emb_cb
theorem z_callT {id : String} {r : RCop} (hc : CW X (.type id) r) (hg : Gl X x) (hm : X.mg x = none) (hv : bootBuiltins x = some (.type id)) (ha : AW X Wx (e :: es) tl) (hn : x ≠ "__name__" := by decide) (hdb : (x == ("__debug__" : Str)) = false := by decide)
    (he : starEach (e :: es) X.env = (false, eval e X.env) :: starEach es X.env := by rfl) (hpl : (backTo pos (starEach es X.env)).any (·.1) = false := by rfl) : EW X Wx (.Call (.Name x p) (e :: es) [] pos) (eCB r tl) :=
  pe_imp (pe_callTy hc hg hm hv ha hn hdb he hpl) emb_cb
theorem rws1 {H : Hp} {w : Wv} {vs : List V} (r : RWs K H [w] vs) : ∃ v, vs = [v] ∧ RW K H w v := by
  cases r with
  | cons a b => cases b; exact ⟨_, rfl, a⟩
theorem rws2 {H : Hp} {w w' : Wv} {vs : List V} (r : RWs K H [w, w'] vs) : ∃ v v', vs = [v, v'] ∧ RW K H w v ∧ RW K H w' v' := by
  cases r with
  | cons a b =>
    cases b with
    | cons c d => cases d; exact ⟨_, _, rfl, a, c⟩
/-- len -/
def wLen : RCop := fun ws G q => match ws with
  | [.tup us] => q (.int us.length) G
  | [.kls us] => q (.int us.length) G
  | [.ktp us] => q (.int us.length) G
  | [.str z] => z.length ≤ sizeLine ∧ q (.int z.length) G
  | [.ref p] => (∃ us, RdL G p us ∧ q (.int us.length) G) ∨ (∃ kvs, G p = some (.dct kvs) ∧ q (.int kvs.length) G) ∨ ∃ kvs, G p = some (.dtp kvs) ∧ q (.int kvs.length) G
  | _ => False
theorem w_len : CW X (.builtin "len") wLen := by
  rintro pins s σ H xs us Q I r ⟨ws, G, q, rw', rh, po, h⟩
  unfold wLen at h
  split at h
  · obtain ⟨v, rfl, rv⟩ := rws1 rw'
    cases rv with
    | tup hb rs => exact call_len_seq pins s σ H _ us Q I r ⟨_, _, rfl, .inr (SqT.of hb), by rw [rs.len]; exact po _ _ _ _ TX.refl (.int _) rh h⟩
  · obtain ⟨v, rfl, rv⟩ := rws1 rw'
    cases rv with
    | kls hb rs => exact call_len_seq pins s σ H _ us Q I r ⟨_, _, rfl, .inl hb.sq, by rw [rs.len]; exact po _ _ _ _ TX.refl (.int _) rh h⟩
  · obtain ⟨v, rfl, rv⟩ := rws1 rw'
    cases rv with
    | ktp hb rs => exact call_len_seq pins s σ H _ us Q I r ⟨_, _, rfl, .inr hb.sq, by rw [rs.len]; exact po _ _ _ _ TX.refl (.int _) rh h⟩
  · obtain ⟨v, rfl, rv⟩ := rws1 rw'
    cases rv
    exact call_len_str pins s σ H _ us Q I r ⟨_, rfl, h.1, po _ _ _ _ TX.refl (.int _) rh h.2⟩
  · obtain ⟨v, rfl, rv⟩ := rws1 rw'
    cases rv
    rcases h with ⟨us', hl, hq⟩ | ⟨kvs, hk, hq⟩ | ⟨kvs, hk, hq⟩
    · obtain ⟨xs, hx, rs⟩ := rh.rdl hl
      exact call_len_seq pins s σ H _ us Q I r ⟨_, _, rfl, .inl hx, by rw [rs.len]; exact po _ _ _ _ TX.refl (.int _) rh hq⟩
    · obtain ⟨vs, f, rk⟩ := rh.dct hk
      exact call_lenD pins s σ H _ us Q I r ⟨_, _, rfl, f, by rw [rk.len]; exact po _ _ _ _ TX.refl (.int _) rh hq⟩
    · obtain ⟨vs, f, rk⟩ := rh.dtp hk
      exact call_len_dT pins s σ H _ us Q I r ⟨_, _, rfl, f, by rw [rk.len]; exact po _ _ _ _ TX.refl (.int _) rh hq⟩
  · exact h.elim
/-! ### isinstance -/
/-- what the written part says of a class whose instances are asked -/
structure InsC (K : PySem.W.Frag) (C : Addr) : Prop where
  cl : Cls K C
  ha : PySem.W.findIn K (.ref C) "__class__" = some (some (.builtin "object.__class__"))
  hn : PySem.W.specialIn K (.builtin "object.__class__") "__get__" = some (some (.builtin "getset_descriptor.__get__"))
  htk : PySem.W.takesIn K (.builtin "object.__class__") = some true
  hm : PySem.W.mroIn K C (.type "object") = some true
/-- an object's type -/
def TyO (K : PySem.W.Frag) (p : Addr) : Option O → Value → Prop
  | some (.lst _), t => t = .type "list"
  | some (.flst _), t => t = .type "list"
  | some (.dct _), t => t = .type "dict"
  | some (.dtp _), t => t = .type "dict"
  | some (.ins C _ _), t => t = .ref C ∧ InsC K C
  | some (.exc a c _), t => a = p ∧ ∃ C, c = .ref C ∧ t = .ref C ∧ ExcC K C
  | some (.clo f _ _), t => f = p ∧ t = .type "function"
  | _, _ => False
/-- a value's type -/
def TyW (K : PySem.W.Frag) (G : HW) : Wv → Value → Prop
  | .non, t => t = .type "NoneType"
  | .bl _, t => t = .type "bool"
  | .int _, t => t = .type "int"
  | .str _, t => t = .type "str"
  | .tup _, t => t = .type "tuple"
  | .ktp _, t => t = .type "tuple"
  | .ref p, t => TyO K p (G p) t
  | _, _ => False
theorem kit_at {X : Cx} {pins : List (Addr × Obj)} {σ : L2.St} {H : Hp} {s : Shared} {G : HW} {w : Wv} {v : V} {u t : Value} (I : Inv X pins σ H s) (y : TyW X.K G w t) (rh : RH X.K G H) (r : RW X.K H w v) (rv : L2.RelV v u) :
    ∃ P : Heap → Prop, PySem.W.KitX X.K u t P ∧ P s.heap ∧ u ≠ .builtin "__main__.__loader__#opaque" := by
  have bs : TyX X.K H v t → ∃ P : Heap → Prop, PySem.W.KitX X.K u t P ∧ P s.heap ∧ u ≠ .builtin "__main__.__loader__#opaque" := fun ty => kit_of I rv ty
  cases r with
  | non => cases (show t = _ from y); exact bs (.base .non)
  | bl b => cases (show t = _ from y); exact bs (.base (.bl b))
  | int i => cases (show t = _ from y); exact bs (.base (.int i))
  | str z => cases (show t = _ from y); exact bs (.base (.str z))
  | ty n => exact (show False from y).elim
  | fn _ => exact (show False from y).elim
  | kls _ _ => exact (show False from y).elim
  | ktp hb _ => cases (show t = _ from y); obtain ⟨o, its, n, h1, h2, _⟩ := hb; exact bs (.kTuple h1 h2)
  | tup hb rs => cases (show t = _ from y); exact bs (.base (.tup hb))
  | ref p =>
    replace y : TyO X.K p (G p) t := y
    unfold TyO at y
    split at y
    · rename_i e
      subst y
      obtain ⟨xs, f, _⟩ := rh.lst e
      exact bs (.base (.lst f))
    · rename_i e
      subst y
      obtain ⟨ob, xs, f, _⟩ := rh.flst e
      exact bs (.base (.frz f))
    · rename_i e
      subst y
      obtain ⟨xs, f, _⟩ := rh.dct e
      exact bs (.base (.dK f))
    · rename_i e
      subst y
      obtain ⟨xs, f, _⟩ := rh.dtp e
      exact bs (.base (.dT f))
    · rename_i e
      obtain ⟨rfl, c⟩ := y
      obtain ⟨xs, f, _⟩ := rh.ins e
      exact bs (.base (.ins f c.cl c.ha c.hn c.htk c.hm))
    · rename_i e
      obtain ⟨ea, C, rfl, rfl, c⟩ := y
      obtain ⟨d, f, rx⟩ := rh.exc e
      rw [ea] at f
      obtain ⟨⟨oe, vs, h1, ⟨h2, h3⟩, h4⟩, _, _⟩ := I.hok _ _ f
      obtain ⟨cd, hc, _⟩ := PySem.W.any_some c.hd
      cases (show u = Value.ref p from rv)
      have no : PySem.W.notCls oe = true := by
        unfold PySem.W.notCls
        rw [h4]
      have J : ∃ od, PySem.W.InstAt s.heap p oe C od := by
        cases d with
        | none => exact ⟨none, h1, h2, no, by rw [h3]; trivial⟩
        | some d =>
          obtain ⟨xs, e1, _⟩ := rx
          obtain ⟨mA, hns, _⟩ := (show ObjOk X.prog X.w H s.heap d (.xd xs) from I.hok d _ e1)
          obtain ⟨od, ho, _⟩ := lookIn_ns hns
          exact ⟨some od, h1, h2, no, by rw [h3]; exact ho⟩
      obtain ⟨od, J⟩ := J
      exact ⟨_, PySem.W.kitx_exc (by rw [hc]; rfl) c.hg c.hk c.hs c.ha c.hn c.ht c.hm, J, fun z => nomatch z⟩
    · rename_i e
      obtain ⟨ef, rfl⟩ := y
      obtain ⟨u0, f, cl, c, eu, _, _⟩ := rh _ _ e
      subst eu
      rw [ef] at f
      obtain ⟨⟨od, sl, doc, pm, ctv, ho⟩, _, _⟩ := I.hok _ _ f
      cases (show u = Value.ref p from rv)
      exact ⟨_, kitx_fn, ⟨_, ho, rfl⟩, fun z => nomatch z⟩
    · exact y.elim
/-- a class as a value -/
def ClW : Wv → Value → Prop
  | .ty n, u => u = .type n
  | .ref C, u => u = .ref C
  | _, _ => False
def ClWs : List Wv → List Value → Prop
  | [], us => us = []
  | w :: ws, us => ∃ u r, us = u :: r ∧ ClW w u ∧ ClWs ws r
theorem ClW.is {H : Hp} {w : Wv} {v : V} {u : Value} (y : ClW w u) (r : RW K H w v) : ClsV v u := by
  cases r with
  | ty n => cases (show u = _ from y); exact .ty n
  | ref p => cases (show u = _ from y); exact .own p
  | _ => exact (show False from y).elim
theorem ClWs.is {H : Hp} : ∀ {ws : List Wv} {vs : List V} {us : List Value}, ClWs ws us → RWs K H ws vs → Paired ClsV vs us
  | _, _, _, h, .nil => by cases (show _ = [] from h); exact .nil
  | _, _, _, h, .cons a b => by
    obtain ⟨u, r, rfl, c, d⟩ := h
    exact .cons (c.is a) (ClWs.is d b)
def wIsi (K : PySem.W.Frag) : RCop := fun ws G q => match ws with
  | [w, .tup cs] => ∃ t us b, TyW K G w t ∧ ClWs cs us ∧ PySem.W.kitAny K t us = some b ∧ q (.bl b) G
  | [w, c] => ∃ t u b, TyW K G w t ∧ ClW c u ∧ PySem.W.kitOne K t u = some b ∧ q (.bl b) G
  | _ => False
theorem w_isi : CW X (.builtin "isinstance") (wIsi X.K) := by
  rintro pins s σ H xs us Q I r ⟨ws, G, q, rw', rh, po, h⟩
  unfold wIsi at h
  split at h
  · obtain ⟨t, us', b, ty, cl, e, hq⟩ := h
    obtain ⟨v, v', rfl, rv, rv'⟩ := rws2 rw'
    obtain ⟨u1, u2, rfl, r1, r2⟩ := vals2 r
    obtain ⟨P, Z, p, hx⟩ := kit_at I ty rh rv r1
    cases rv' with
    | @tup tp cs _ hb rs =>
      cases (show u2 = Value.ref tp from r2)
      obtain ⟨_, its, rv2, o, h1, h2, n, h3⟩ := (show ObjOk X.prog X.w H s.heap tp (.tup cs) from I.hok tp _ hb)
      have e3 := ClsV.all (cl.is rs) rv2
      subst e3
      obtain ⟨oc, od, dt, sl⟩ := o
      simp only at h2 h3
      subst h2 h3
      exact PySem.W.kia_tup Z I.kIn p h1 e hx fun tk => ⟨.bl b, H, I.tok tk, rfl, po _ _ _ _ TX.refl (.bl _) rh hq⟩
  · obtain ⟨t, u, b, ty, cl, e, hq⟩ := h
    obtain ⟨v, v', rfl, rv, rv'⟩ := rws2 rw'
    obtain ⟨u1, u2, rfl, r1, r2⟩ := vals2 r
    obtain ⟨P, Z, p, hx⟩ := kit_at I ty rh rv r1
    have e2 := (cl.is rv').eq r2
    subst e2
    exact PySem.W.kia_one Z I.kIn p e hx fun tk => ⟨.bl b, H, I.tok tk, rfl, po _ _ _ _ TX.refl (.bl _) rh hq⟩
  · exact h.elim
/-! ### all, any, max, min, tuple, list, sorted -/
def wAll : RCop := fun ws G q => match ws with
  | [.ref p] => ∃ bs : List Bool, RdL G p (bs.map .bl) ∧ q (.bl (bs.all id)) G
  | _ => False
theorem w_all (hc : X.calm = true) : CW X (.builtin "all") wAll := by
  rintro pins s σ H xs us Q I r ⟨ws, G, q, rw', rh, po, h⟩
  unfold wAll at h
  split at h
  · obtain ⟨bs, hl, hq⟩ := h
    obtain ⟨v, rfl, rv⟩ := rws1 rw'
    cases rv
    obtain ⟨vs, hx, rs⟩ := rh.rdl hl
    have e := rs.bls
    subst e
    exact cr_all hc pins s σ H _ us Q I r ⟨_, bs, rfl, hx, po _ _ _ _ TX.refl (.bl _) rh hq⟩
  · exact h.elim
def wMax : RCop := fun ws G q => match ws with
  | [.int i, .int j] => q (.int (if j > i then j else i)) G
  | [.ref p] => ∃ ns : List Int, RdL G p (ns.map .int) ∧ 0 < ns.length ∧ ∀ m, m ∈ ns → (∀ y, y ∈ ns → y ≤ m) → q (.int m) G
  | _ => False
def wMin : RCop := fun ws G q => match ws with
  | [.int i, .int j] => q (.int (if j < i then j else i)) G
  | [.ref p] => ∃ ns : List Int, RdL G p (ns.map .int) ∧ 0 < ns.length ∧ ∀ m, m ∈ ns → (∀ y, y ∈ ns → m ≤ y) → q (.int m) G
  | _ => False
theorem w_min (hc : X.calm = true) : CW X (.builtin "min") wMin := by
  rintro pins s σ H xs us Q I r ⟨ws, G, q, rw', rh, po, h⟩
  unfold wMin at h
  split at h
  · obtain ⟨v, v', rfl, rv, rv'⟩ := rws2 rw'
    cases rv; cases rv'
    exact call_min2 hc pins s σ H _ us Q I r ⟨_, _, rfl, po _ _ _ _ TX.refl (.int _) rh h⟩
  · obtain ⟨ns, hl, hn, hq⟩ := h
    obtain ⟨v, rfl, rv⟩ := rws1 rw'
    cases rv
    obtain ⟨vs, hx, rs⟩ := rh.rdl hl
    have e := rs.ints
    subst e
    exact cr_min hc pins s σ H _ us Q I r ⟨_, ns, rfl, hx, hn, fun m h1 h2 => po _ _ _ _ TX.refl (.int _) rh (hq m h1 h2)⟩
  · exact h.elim
def wTuple : RCop := fun ws G q => match ws with
  | [.tup us] => q (.tup us) G
  | [.ref p] => ∃ us, RdL G p us ∧ q (.tup us) G
  | _ => False
theorem w_tuple : CW X (.type "tuple") wTuple := by
  rintro pins s σ H xs us Q I r ⟨ws, G, q, rw', rh, po, h⟩
  unfold wTuple at h
  split at h
  · obtain ⟨v, rfl, rv⟩ := rws1 rw'
    cases rv with
    | tup hb rs => exact call_tuple_of pins s σ H _ us Q I r ⟨_, _, rfl, .inr ⟨SqT.of hb, po _ _ _ _ TX.refl (.tup hb rs) rh h⟩⟩
  · obtain ⟨us', hl, hq⟩ := h
    obtain ⟨v, rfl, rv⟩ := rws1 rw'
    cases rv
    obtain ⟨vs, hx, rs⟩ := rh.rdl hl
    exact call_tuple_of pins s σ H _ us Q I r ⟨_, _, rfl, .inl ⟨hx, fun l hl => po _ _ _ _ (TX.new hl) (.tup upd_same (rs.mono (TX.new hl))) (rh.kept hl) hq⟩⟩
  · exact h.elim
def wList : RCop := fun ws G q => match ws with
  | [.tup us] => ∀ l, G l = none → q (.ref l) (updO G l (.lst us))
  | [.ref p] => ∃ us, RdL G p us ∧ ∀ l, G l = none → q (.ref l) (updO G l (.lst us))
  | _ => False
theorem w_list : CW X (.type "list") wList := by
  rintro pins s σ H xs us Q I r ⟨ws, G, q, rw', rh, po, h⟩
  unfold wList at h
  split at h
  · obtain ⟨v, rfl, rv⟩ := rws1 rw'
    cases rv with
    | tup hb rs => exact call_list_of pins s σ H _ us Q I r ⟨_, _, rfl, .inr (SqT.of hb), fun l hl => po _ _ _ _ (TX.new hl) (.ref l) (rh.newL hl rs) (h l (rh.fresh hl))⟩
  · obtain ⟨us', hl, hq⟩ := h
    obtain ⟨v, rfl, rv⟩ := rws1 rw'
    cases rv
    obtain ⟨vs, hx, rs⟩ := rh.rdl hl
    exact call_list_of pins s σ H _ us Q I r ⟨_, _, rfl, .inl hx, fun l hl => po _ _ _ _ (TX.new hl) (.ref l) (rh.newL hl rs) (hq l (rh.fresh hl))⟩
  · exact h.elim
/-- int(x), bool(x), str(x) -/
def wIntOf : RCop := fun ws G q => match ws with
  | [.int i] => q (.int i) G
  | [.bl k] => q (.int (if k then 1 else 0)) G
  | _ => False
/-! ### repr -/
/-! ### methods of built-in types -/
abbrev RMop := Wv → List Wv → HW → WK → Prop
def embM (K : PySem.W.Frag) (r : RMop) : V → List V → Hp → VK → Prop := fun x xs H Q => ∃ w ws G q, RW K H w x ∧ RWs K H ws xs ∧ RH K G H ∧ Post K H Q q ∧ r w ws G q
/-- a value of that built-in type -/
def TyM (T : String) (w : Wv) (G : HW) : Prop := match w with
  | .str _ => T = "str"
  | .ref p => (T = "list" ∧ ∃ ws, RdL G p ws) ∨ (T = "dict" ∧ ((∃ kvs, G p = some (.dct kvs)) ∨ ∃ kvs, G p = some (.dtp kvs)))
  | _ => False
theorem TyM.is {T : String} {w : Wv} {G : HW} {H : Hp} {v : V} (y : TyM T w G) (rh : RH K G H) (r : RW K H w v) : tyV K T v H := by
  cases r with
  | str z => exact y
  | ref p =>
    rcases y with ⟨rfl, ws, hl⟩ | ⟨rfl, ⟨kvs, e⟩ | ⟨kvs, e⟩⟩
    · obtain ⟨xs, hx, _⟩ := rh.rdl hl
      exact .inl ⟨rfl, xs, hx⟩
    · obtain ⟨vs, f, _⟩ := rh.dct e
      exact .inr (.inr (.inl ⟨rfl, .inl ⟨vs, f⟩⟩))
    · obtain ⟨vs, f, _⟩ := rh.dtp e
      exact .inr (.inr (.inl ⟨rfl, .inr ⟨vs, f⟩⟩))
  | _ => exact (show False from y).elim
def eBM0 (T : String) (r : RMop) (to : ET) : ET := fun x σ G q => to x σ G fun w G1 => TyM T w G1 ∧ r w [] G1 q
def eBM (T : String) (r : RMop) (to : ET) (t : AT) : ET := fun x σ G q => to x σ G fun w G1 => TyM T w G1 ∧ t x σ G1 fun ws G2 => r w ws G2 q
variable {T id : String} {name : Str} {apos cpos : Pos} {r : RMop}
theorem z_bm (pa : PlainAttrs T) (slot : Slot T name id) (hty : typeOf (.builtin id) = pure (.type "method_descriptor")) (hm : MtR X id (embM X.K r)) (ho : EW X Wx o to) (ha : AW X Wx (e :: es) tl)
    (hbase : attributeBase o name X.env (eval o X.env) = eval o X.env := by rfl)
    (hfew : ((backTo cpos (starEach (e :: es) X.env)).all (fun x => !x.1) && (backToKw cpos (keywordEach [] X.env)).all (fun x => x.1.isSome)
      && decide ((e :: es).length + ([] : List Keyword).length + (if ([] : List Keyword).isEmpty then 0 else 1) < 30)) = true := by rfl)
    (hline : (apos.endLine == cpos.line) = true := by rfl) (hs : starEach (e :: es) X.env = (false, eval e X.env) :: starEach es X.env := by rfl) (hplain : (backTo cpos (starEach es X.env)).any (·.1) = false := by rfl) :
    EW X Wx (.Call (.Attribute o name apos) (e :: es) [] cpos) (eBM T r to tl) :=
  pe_imp (pe_bm pa slot hty hm ho ha hbase hfew hline hs hplain) fun σ H Q ⟨σw, G, x, q, rs, rh, px, po, h⟩ => ⟨σw, G, x, _, rs, rh, px, fun w G1 v H1 t1 r1 rh1 h1 => ⟨h1.1.is rh1 r1, σw, G1, x, _, rs.mono t1, rh1, px.mono t1,
    fun ws G2 vs H2 t2 r2 rh2 h2 => ⟨w, ws, G2, q, r1.mono t2, r2, rh2, po.mono (t1.trans t2), h2⟩, h1.2⟩, h⟩
/-- xs.append(y) -/
def wAppend : RMop := fun w us G q => match w, us with
  | .ref l, [y] => ∃ ws, G l = some (.lst ws) ∧ ws.length < sizeLine ∧ q .non (updO G l (.lst (ws ++ [y])))
  | _, _ => False
theorem w_append : MtR X "list.append" (embM X.K wAppend) := by
  rintro pins s σ H x xs v us Q I rx rxs ⟨w, ws, G, q, r1, r2, rh, po, h⟩
  unfold wAppend at h
  split at h
  · obtain ⟨ws', e, hz, hq⟩ := h
    cases r1
    obtain ⟨y, rfl, ry⟩ := rws1 r2
    obtain ⟨vs, f, rs⟩ := rh.lst e
    exact mt_append pins s σ H _ _ v us Q I rx rxs ⟨_, _, _, rfl, rfl, f, by rw [rs.len]; exact hz, po _ _ _ _ (TX.put f noTup_lst) .non (rh.putL f (rs.app (.cons ry .nil))) hq⟩
  · exact h.elim
end
end LF
/-! LF5: targets, statements, loops, comprehensions -/
namespace LF
open PySem PySem.Spec PyProof.Rows L2
section
variable {X : Cx} {Wx : WX} {K : PySem.W.Frag} {pos p p2 : Pos} {a b c e o : Expr} {es : List Expr} {ta tb to te : ET} {tl : AT} {st : Stmt} {sts : List Stmt} {t u : ST}
/-! ### blocks -/
def sNext : ST := fun D σ G => D.nx σ G
def sSeq (t u : ST) : ST := fun D σ G => t { D with nx := u D } σ G
theorem zs_nil : TWs X Wx [] sNext := pss_imp pss_nil fun D σ H ⟨σw, G, d, rs, rh, sm, h⟩ => sm.nx _ _ _ _ TX.refl rs rh h
theorem zs_cons (h1 : TW X Wx st t) (h2 : TWs X Wx sts u) : TWs X Wx (st :: sts) (sSeq t u) :=
  pss_imp (pss_cons h1 h2) fun D σ H ⟨σw, G, d, rs, rh, sm, h⟩ => ⟨σw, G, { d with nx := u d }, rs, rh,
    { nx := fun σw' G' σ' H' tx rs' rh' h' => ⟨σw', G', d, rs', rh', sm.mono tx, h'⟩, rt := sm.rt, bk := sm.bk, ct := sm.ct, ex := sm.ex }, h⟩
theorem zs_one (h1 : TW X Wx st t) : TWs X Wx [st] t := pss_one h1
def sBrk : ST := fun D σ G => D.bk σ G
def sCont : ST := fun D σ G => D.ct σ G
def sExpr (te : ET) : ST := fun D σ G => te D.ex σ G fun _ G1 => D.nx σ G1
theorem z_expr (he : EW X Wx e te) (hs : swapsWith e none pos.line X.env = pure false := by rfl) : TW X Wx (.Expr e pos) (sExpr te) :=
  ps_imp (ps_expr he hs) fun D σ H ⟨σw, G, d, rs, rh, sm, h⟩ => ⟨σw, G, d.ex, _, rs, rh, sm.ex, fun w G1 v H1 t1 r1 rh1 h1 => sm.nx _ _ _ _ t1 (rs.mono t1) rh1 h1, h⟩
def sRet (te : ET) : ST := fun D σ G => te D.ex σ G D.rt
def sRetN : ST := fun D _ G => D.rt .non G
theorem z_ret (he : EW X Wx e te) : TW X Wx (.Return (some e) pos) (sRet te) :=
  ps_imp (ps_ret he) fun D σ H ⟨σw, G, d, rs, rh, sm, h⟩ => ⟨σw, G, d.ex, _, rs, rh, sm.ex, sm.rt, h⟩
def sIf (q : QT) (t u : ST) : ST := fun D σ G => q D.ex σ G fun k G1 => match k with
  | true => t D σ G1
  | false => u D σ G1
theorem z_if {q : QT} {xs ys : List Stmt} (hc : QW X Wx c q) (ha : TWs X Wx xs t) (hb : TWs X Wx ys u) : TW X Wx (.If c xs ys pos) (sIf q t u) :=
  ps_imp (ps_if hc ha hb) fun D σ H ⟨σw, G, d, rs, rh, sm, h⟩ => ⟨σw, G, d.ex, _, rs, rh, sm.ex, fun k G1 H1 t1 rh1 h1 => by
    cases k with
    | true => rw [if_pos rfl]; exact ⟨σw, G1, d, rs.mono t1, rh1, sm.mono t1, h1⟩
    | false => rw [if_neg Bool.false_ne_true]; exact ⟨σw, G1, d, rs.mono t1, rh1, sm.mono t1, h1⟩, h⟩
/-! ### targets -/
def gNm (i : Nat) : GT := fun _ w σ G q => q (σ.set i (some w)) G
theorem zg_name {i : Nat} {x : Str} (hN : X.N.Nodup) (hi : X.N[i]? = some x) (hx : Loc X.env.scope x) (hf : X.fn x = true ∨ X.env.scope.names.lookup x = some .local := by first | exact .inl rfl | exact .inr rfl | assumption) : GW X Wx (.Name x pos) (gNm i) :=
  pg_imp (pg_name hN hi hx hf) fun v σ H Q ⟨w, σw, G, x, q, r, rs, rh, px, po, h⟩ => po _ _ _ _ TX.refl (rs.set r i) rh h
abbrev GTs := XW → List Wv → SW → HW → (SW → HW → Prop) → Prop
def embGs (K : PySem.W.Frag) (Wx : WX) (g : GTs) : TGs := fun vs σ H Q => ∃ ws σw G x q, RWs K H ws vs ∧ RS K H σw σ ∧ RH K G H ∧ PostX K H Wx x ∧ PostS K H Q q ∧ g x ws σw G q
abbrev GWs (X : Cx) (Wx : WX) (es : List Expr) (g : GTs) : Prop := PGs X es (embGs X.K Wx g)
def gNo : GTs := fun _ ws σ G q => ws = [] ∧ q σ G
def gMo (g : GT) (r : GTs) : GTs := fun x ws σ G q => match ws with
  | w :: us => g x w σ G fun σ' G' => r x us σ' G' q
  | [] => False
theorem zg_nil : GWs X Wx [] gNo := ⟨fun pins s σ H vs us Q I r h => pgs_nil.run pins s σ H vs us Q I r (by
  obtain ⟨ws, σw, G, x, q, rw', rs, rh, px, po, rfl, h⟩ := h
  cases rw'
  exact ⟨rfl, po _ _ _ _ TX.refl rs rh h⟩)⟩
theorem zg_cons {g : GT} {r : GTs} (h1 : GW X Wx e g) (h2 : GWs X Wx es r) (hs : (assignEach (e :: es) X.env).map (·.2) = assign e X.env :: (assignEach es X.env).map (·.2) := by rfl) : GWs X Wx (e :: es) (gMo g r) :=
  ⟨fun pins s σ H vs us Q I rv h => (pgs_cons h1 h2 hs).run pins s σ H vs us Q I rv (by
    obtain ⟨ws, σw, G, x, q, rw', rs, rh, px, po, h⟩ := h
    unfold gMo at h
    split at h
    · cases rw' with
      | cons ra rr =>
        exact ⟨_, _, rfl, _, σw, G, x, _, ra, rs, rh, px, fun σw' G' σ' H' tx rs' rh' h' => ⟨_, σw', G', x, q, rr.mono tx, rs', rh', px.mono tx, po.mono tx, h'⟩, h⟩
    · exact h.elim)⟩
def gTu (n : Nat) (g : GTs) : GT := fun x w σ G q => match w with
  | .tup ws => ws.length = n ∧ g x ws σ G q
  | _ => False
theorem zg_tup {k : Nat} {g : GTs} {n : Nat} (hc : X.calm = true) (h : GWs X Wx es g) (hn : (assignEach es X.env).length = n := by rfl) (hst : (assignEach es X.env).findIdx? (·.1) = none := by rfl) : GW X Wx (.Tuple es k pos) (gTu n g) :=
  pg_imp (pg_tup hc h hn hst) fun v σ H Q ⟨w, σw, G, x, q, r, rs, rh, px, po, h⟩ => by
    unfold gTu at h
    split at h
    · cases r with
      | tup hb rr => exact ⟨_, _, rfl, SqT.of hb, by rw [rr.len]; exact h.1, _, σw, G, x, q, rr, rs, rh, px, po, h.2⟩
    · exact h.elim
/-- o[i] = v -/
def wSet : Wv → Wv → Wv → HW → (HW → Prop) → Prop := fun o i v G q => match o with
  | .ref p => (∃ ws k j, i = .int k ∧ G p = some (.lst ws) ∧ ixN ws.length k = some j ∧ q (updO G p (.lst (ws.set j v)))) ∨ ∃ G', DpW G p i v G' ∧ q G'
  | _ => False
def embSet (K : PySem.W.Frag) : V → V → V → Hp → (Hp → Prop) → Prop := fun o i v H Q => ∃ w1 w2 w3 G q, RW K H w1 o ∧ RW K H w2 i ∧ RW K H w3 v ∧ RH K G H ∧ (∀ G' H', TX K H H' → RH K G' H' → q G' → Q H') ∧ wSet w1 w2 w3 G q
theorem w_set (hu : X.A.units + 64 < cLine) : PSet X (embSet X.K) := by
  rintro pins s σ H ov iv vv ov' iv' u Q I ro ri rv ⟨w1, w2, w3, G, q, r1, r2, r3, rh, po, h⟩
  unfold wSet at h
  split at h
  · cases r1
    cases ro
    rcases h with ⟨ws, k, j, rfl, e, hj, hq⟩ | ⟨G', g, hq⟩
    · cases r2
      obtain ⟨vs, f, rs⟩ := rh.lst e
      exact set_list pins s σ H (.ref _) _ _ _ _ u Q I rfl ri rv ⟨_, vs, k, j, rfl, rfl, f, by rw [rs.len]; exact hj, po _ _ (TX.put f noTup_lst) (rh.putL f (rs.set r3 j)) hq⟩
    · obtain ⟨H', g', tx, rh'⟩ := g.put rh r2 r3
      exact d_setItem (by omega) I g' ri rv fun s' I' => ⟨H', I', po _ _ tx rh' hq⟩
  · exact h.elim
def gSb (to ti : ET) : GT := fun x w σ G q => to x σ G fun o G1 => ti x σ G1 fun i G2 => wSet o i w G2 fun G3 => q σ G3
theorem zg_sub {i : Expr} {ti : ET} (hu : X.A.units + 64 < cLine) (ho : EW X Wx o to) (hi : EW X Wx i ti)
    (ha : ∀ v, assign (.Subscript o i pos) X.env v = (do
      let ov ← holding [v] (eval o X.env)
      let iv ← holding [v, ov] (eval i X.env)
      standAt pos
      holding [v, ov, iv] (setItem ov iv v)
      release [v, ov, iv] []) := by intro _; rfl) : GW X Wx (.Subscript o i pos) (gSb to ti) :=
  pg_imp (pg_sub ho hi (w_set hu) ha) fun v σ H Q ⟨w, σw, G, x, q, r, rs, rh, px, po, h⟩ => ⟨σw, G, x, _, rs, rh, px, fun w1 G1 v1 H1 t1 r1 rh1 h1 => ⟨σw, G1, x, _, rs.mono t1, rh1, px.mono t1, fun w2 G2 v2 H2 t2 r2 rh2 h2 =>
    ⟨w1, w2, w, G2, _, r1.mono t2, r2, r.mono (t1.trans t2), rh2, fun G3 H3 t3 rh3 h3 => po _ _ _ _ ((t1.trans t2).trans t3) (rs.mono ((t1.trans t2).trans t3)) rh3 h3, h2⟩, h1⟩, h⟩
/-! ### assignments -/
def sSet (i : Nat) (te : ET) : ST := fun D σ G => te D.ex σ G fun w G1 => D.nx (σ.set i (some w)) G1
theorem z_set {i : Nat} {x : Str} {pos' : Pos} (hN : X.N.Nodup) (hi : X.N[i]? = some x) (hx : Loc X.env.scope x) (he : EW X Wx e te) (hs : swapsWith e (some (.Name x pos')) pos.line X.env = pure false := by rfl)
    (hf : X.fn x = true ∨ X.env.scope.names.lookup x = some .local := by first | exact .inl rfl | exact .inr rfl | assumption) : TW X Wx (.Assign [.Name x pos'] e pos) (sSet i te) :=
  ps_imp (ps_set hN hi hx he hs hf) fun D σ H ⟨σw, G, d, rs, rh, sm, h⟩ => ⟨σw, G, d.ex, _, rs, rh, sm.ex, fun w G1 v H1 t1 r1 rh1 h1 => sm.nx _ _ _ _ t1 ((rs.mono t1).set r1 i) rh1 h1, h⟩
def sAsg (te : ET) (g : GT) : ST := fun D σ G => te D.ex σ G fun w G1 => g D.ex w σ G1 D.nx
theorem z_asg {tg : Expr} {g : GT} (he : EW X Wx e te) (hg : GW X Wx tg g) (hs : swapsWithSole [tg] e pos.line X.env = pure false := by rfl) (hw : swappedStores [tg] e X.env = pure none := by rfl)
    (h1 : (assignEach [tg] X.env).map (·.2) = [assign tg X.env] := by rfl) : TW X Wx (.Assign [tg] e pos) (sAsg te g) :=
  ps_imp (ps_asg he hg hs hw h1) fun D σ H ⟨σw, G, d, rs, rh, sm, h⟩ => ⟨σw, G, d.ex, _, rs, rh, sm.ex, fun w G1 v H1 t1 r1 rh1 h1 => ⟨w, σw, G1, d.ex, _, r1, rs.mono t1, rh1, sm.ex.mono t1, sm.nx.mono t1, h1⟩, h⟩
def sPar (i j : Nat) (tl : AT) : ST := fun D σ G => tl D.ex σ G fun ws G1 => match ws with
  | [v, w] => D.nx ((σ.set i (some v)).set j (some w)) G1
  | _ => False
theorem z_par {i j : Nat} {x y : Str} {px py pt : Pos} {kt k2 pt2} (hc : X.calm = true) (hN : X.N.Nodup) (hi : X.N[i]? = some x) (hj : X.N[j]? = some y) (hij : i ≠ j)
    (hx : X.env.scope.names.lookup x = some .local) (hy : X.env.scope.names.lookup y = some .local) (ha : AW X Wx [a, b] tl)
    (hw : swappedStores [.Tuple [.Name x px, .Name y py] kt pt] (.Tuple [a, b] k2 pt2) X.env = pure (some [x, y]))
    (hs : swapsWithSole [.Tuple [.Name x px, .Name y py] kt pt] (.Tuple [a, b] k2 pt2) pos.line X.env = pure false := by rfl) :
    TW X Wx (.Assign [.Tuple [.Name x px, .Name y py] kt pt] (.Tuple [a, b] k2 pt2) pos) (sPar i j tl) :=
  ps_imp (ps_par hc hN hi hj hij hx hy ha hw hs) fun D σ H ⟨σw, G, d, rs, rh, sm, h⟩ => ⟨σw, G, d.ex, _, rs, rh, sm.ex, fun ws G1 vs H1 t1 r1 rh1 h1 => by
    split at h1
    · obtain ⟨v, v', rfl, ra, rb⟩ := rws2 r1
      exact ⟨_, _, rfl, sm.nx _ _ _ _ t1 (((rs.mono t1).set ra i).set rb j) rh1 h1⟩
    · exact h1.elim, h⟩
def sPar3 (i j l : Nat) (tl : AT) : ST := fun D σ G => tl D.ex σ G fun ws G1 => match ws with
  | [u, v, w] => D.nx (((σ.set i (some u)).set j (some v)).set l (some w)) G1
  | _ => False
/-- x op= e -/
def sAug (i : Nat) (te : ET) (r : RWop) : ST := fun D σ G => match σ[i]? with
  | some (some w) => te D.ex σ G fun w2 G1 => r w w2 G1 fun z G2 => D.nx (σ.set i (some z)) G2
  | _ => False
/-! ### what is walked -/
/-- the walk J gives the items its, one behind the other, as long as ok holds -/
structure WalkW (K : PySem.W.Frag) (H0 : Hp) (its : List Wv) (ok : HW → Prop) (J : It) : Prop where
  stops : ∀ G H, TX K H0 H → RH K G H → ok G → J.stop its.length H
  goes : ∀ i G H, i < its.length → TX K H0 H → RH K G H → ok G → J.go i H
  yields : ∀ i G H x H', i < its.length → TX K H0 H → RH K G H → ok G → J.yld i H x H' → ∃ w, its[i]? = some w ∧ TX K H H' ∧ RW K H' w x ∧ RH K G H'
abbrev IT := XW → SW → HW → (List Wv → (HW → Prop) → HW → Prop) → Prop
def embI (K : PySem.W.Frag) (Wx : WX) (wi : IT) : TI := fun σ H R => ∃ σw G x q, RS K H σw σ ∧ RH K G H ∧ PostX K H Wx x ∧ (∀ its ok G1 J H1, TX K H H1 → RH K G1 H1 → WalkW K H1 its ok J → q its ok G1 → R J H1) ∧ wi x σw G q
abbrev IW (X : Cx) (Wx : WX) (tg iter : Expr) (wi : IT) : Prop := PI X tg iter (embI X.K Wx wi)
theorem pi_imp {tg iter : Expr} {w w' : TI} (h : PI X tg iter w) (i : ∀ σ H R, w' σ H R → w σ H R) : PI X tg iter w' := ⟨fun pins s σ H R I q => h.run pins s σ H R I (i _ _ _ q)⟩
def sFor (wi : IT) (g : GT) (tb : ST) : ST := fun D σ G => wi D.ex σ G fun its ok G1 => ∃ P : Nat → SW → HW → Prop, P 0 σ G1 ∧ (∀ i σ G, i ≤ its.length → P i σ G → ok G) ∧
  (∀ i w σ G, its[i]? = some w → P i σ G → g D.ex w σ G fun σ2 G2 => tb { D with nx := P (i + 1), ct := P (i + 1), bk := D.nx } σ2 G2) ∧ ∀ σ G, P its.length σ G → D.nx σ G
theorem z_for {tg iter : Expr} {wi : IT} {g : GT} (hp : PassesOwn (model X.prog X.w) X.A X.env X.xe) (hc : X.calm = true) (hi : IW X Wx tg iter wi) (hg : GW X Wx tg g) (hb : TWs X Wx sts t)
    (hs : ∀ x, foldedSetIterable iter X.env x = pure x := by intro _; rfl) : TW X Wx (.For tg iter sts [] pos) (sFor wi g t) :=
  ps_imp (ps_for hp hc hi hg hb hs) fun D σ H ⟨σw, G, d, rs, rh, sm, h⟩ => ⟨σw, G, d.ex, _, rs, rh, sm.ex, fun its ok G1 J H1 t1 rh1 wk h1 => by
    obtain ⟨P, h0, hok, hst, hdn⟩ := h1
    refine ⟨fun i m σ2 H2 => ∃ σw2 G2, m = its.length - i ∧ i ≤ its.length ∧ RS X.K H2 σw2 σ2 ∧ RH X.K G2 H2 ∧ TX X.K H1 H2 ∧ P i σw2 G2, ⟨its.length, σw, G1, by simp, Nat.zero_le _, rs.mono t1, rh1, TX.refl, h0⟩, ?_⟩
    rintro i m σ2 H2 ⟨σw2, G2, rfl, hi, rs2, rh2, t12, p2⟩
    have t2 := t1.trans t12
    have k2 := hok i σw2 G2 hi p2
    by_cases hlt : i < its.length
    · refine .inr ⟨wk.goes i G2 H2 hlt t12 rh2 k2, fun σ3 H3 => ∃ σw3 G3, RS X.K H3 σw3 σ3 ∧ RH X.K G3 H3 ∧ TX X.K H1 H3 ∧ P (i + 1) σw3 G3, fun σ' H' ⟨σw3, G3, r3, h3, t3, q3⟩ => ⟨its.length - (i + 1), by omega, σw3, G3, rfl, hlt, r3, h3, t3, q3⟩, fun x H' y => ?_⟩
      obtain ⟨w, ew, t3, rw3, rh3⟩ := wk.yields i G2 H2 x H' hlt t12 rh2 k2 y
      have t23 := t2.trans t3
      refine ⟨w, σw2, G2, d.ex, _, rw3, rs2.mono t3, rh3, sm.ex.mono t23, fun σw4 G4 σ4 H4 t4 rs4 rh4 h4 => ?_, hst i w σw2 G2 ew p2⟩
      have t24 := t23.trans t4
      have t14 := (t12.trans t3).trans t4
      exact ⟨σw4, G4, { d with nx := P (i + 1), ct := P (i + 1), bk := d.nx }, rs4, rh4, { nx := fun σw5 G5 σ5 H5 t5 rs5 rh5 h5 => ⟨σw5, G5, rs5, rh5, t14.trans t5, h5⟩, rt := sm.rt.mono t24, bk := sm.nx.mono t24, ct := fun σw5 G5 σ5 H5 t5 rs5 rh5 h5 => ⟨σw5, G5, rs5, rh5, t14.trans t5, h5⟩, ex := sm.ex.mono t24 }, h4⟩
    · have e : i = its.length := by omega
      subst e
      exact .inl ⟨wk.stops G2 H2 t12 rh2 k2, sm.nx _ _ _ _ t2 rs2 rh2 (hdn σw2 G2 p2)⟩, h⟩
end
end LF
/-! LF6: what is walked, comprehensions -/
namespace LF
open PySem PySem.Spec PyProof.Rows L2 RZ RT
section
variable {X : Cx} {Wx : WX} {K : PySem.W.Frag} {pos p p2 : Pos} {a b c e o tg : Expr} {es : List Expr} {ta tb to te : ET} {tl : AT}
def okT : HW → Prop := fun _ => True
/-! ### the walks -/
theorem walkW_tup {H0 : Hp} {r : Addr} {ws : List Wv} {xs : List V} (h : H0 r = some (.tup xs)) (rs : RWs K H0 ws xs) : WalkW K H0 ws okT (Itt K r) where
  stops := fun G H t _ _ => ⟨xs, SqT.of (t _ _ trivial h), by rw [rs.len]; exact Nat.le_refl _⟩
  goes := fun i G H hi t _ _ => ⟨xs, xs[i]'(by rw [rs.len]; exact hi), SqT.of (t _ _ trivial h), List.getElem?_eq_getElem _⟩
  yields := fun i G H x H' hi t rh _ y => by
    obtain ⟨rfl, y⟩ := y
    obtain ⟨w, ew, rw'⟩ := rs.getV (y xs (SqT.of (t _ _ trivial h)))
    exact ⟨w, ew, TX.refl, rw'.mono t, rh⟩
theorem RWs.inj {H : Hp} : ∀ {ws : List Wv} {vs us : List V}, RWs K H ws vs → RWs K H ws us → vs.length = us.length := fun a b => by rw [a.len, b.len]
theorem walkW_list {H0 : Hp} {r : Addr} {ws : List Wv} : WalkW K H0 ws (fun G => RdL G r ws) (Itl K r) where
  stops := fun G H t rh k => by
    obtain ⟨xs, hx, rs⟩ := rh.rdl k
    exact ⟨xs, hx, by rw [rs.len]; exact Nat.le_refl _⟩
  goes := fun i G H hi t rh k => by
    obtain ⟨xs, hx, rs⟩ := rh.rdl k
    exact ⟨xs, xs[i]'(by rw [rs.len]; exact hi), hx, List.getElem?_eq_getElem _⟩
  yields := fun i G H x H' hi t rh k y => by
    obtain ⟨xs, hx, rs⟩ := rh.rdl k
    obtain ⟨rfl, y⟩ := y
    obtain ⟨w, ew, rw'⟩ := rs.getV (y xs hx)
    exact ⟨w, ew, TX.refl, rw', rh⟩
theorem walkW_ktp {H0 : Hp} {r : Addr} {ws : List Wv} {xs : List V} (hx : KTp K r xs) (rs : RWs K H0 ws xs) : WalkW K H0 ws okT (Itt K r) where
  stops := fun G H t rh k => ⟨xs, hx.sq, by rw [rs.len]; exact Nat.le_refl _⟩
  goes := fun i G H hi t rh k => ⟨xs, xs[i]'(by rw [rs.len]; exact hi), hx.sq, List.getElem?_eq_getElem _⟩
  yields := fun i G H x H' hi t rh k y => by
    obtain ⟨rfl, y⟩ := y
    obtain ⟨w, ew, r2⟩ := rs.getV (y xs hx.sq)
    exact ⟨w, ew, TX.refl, r2.mono t, rh⟩
theorem walkW_kls {H0 : Hp} {r : Addr} {ws : List Wv} {xs : List V} (hx : SqF K H0 r xs) (rs : RWs K H0 ws xs) : WalkW K H0 ws okT (Itl K r) where
  stops := fun G H t rh k => ⟨xs, (hx.mono t).sq, by rw [rs.len]; exact Nat.le_refl _⟩
  goes := fun i G H hi t rh k => ⟨xs, xs[i]'(by rw [rs.len]; exact hi), (hx.mono t).sq, List.getElem?_eq_getElem _⟩
  yields := fun i G H x H' hi t rh k y => by
    obtain ⟨rfl, y⟩ := y
    obtain ⟨w, ew, r2⟩ := rs.getV (y xs (hx.mono t).sq)
    exact ⟨w, ew, TX.refl, r2.mono t, rh⟩
def sgW (z : Str) : List Wv := z.cps.toList.map fun c => .str ⟨#[c]⟩
theorem walkW_str {H0 : Hp} {z : Str} : WalkW K H0 (sgW z) okT (Its z) where
  stops := fun G H t rh k => by
    show z.cps.size ≤ _
    unfold sgW; simp
  goes := fun i G H hi t rh k => by
    show i < z.cps.size
    unfold sgW at hi; simpa using hi
  yields := fun i G H x H' hi t rh k y => by
    obtain ⟨rfl, c, hc, rfl⟩ := y
    refine ⟨.str ⟨#[c]⟩, ?_, TX.refl, .str _, rh⟩
    unfold sgW
    rw [List.getElem?_map, Array.getElem?_toList, hc]
    rfl
def rgW (lo c : Int) (n : Nat) : List Wv := (List.range n).map fun i => .int (lo + (i : Nat) * c)
theorem rgW_len (lo c : Int) (n : Nat) : (rgW lo c n).length = n := by unfold rgW; simp
theorem rgW_at (lo c : Int) {n i : Nat} (h : i < n) : (rgW lo c n)[i]? = some (.int (lo + (i : Nat) * c)) := by
  unfold rgW
  rw [List.getElem?_map, List.getElem?_range h]
  rfl
theorem walkW_range {H0 : Hp} {lo : Int} {n : Nat} : WalkW K H0 (rgW lo 1 n) okT (Itr lo n) where
  stops := fun G H t rh k => by
    rw [rgW_len]
    exact Nat.le_refl _
  goes := fun i G H hi t rh k => by
    rw [rgW_len] at hi
    exact hi
  yields := fun i G H x H' hi t rh k y => by
    rw [rgW_len] at hi
    obtain ⟨rfl, rfl⟩ := y
    exact ⟨_, rgW_at lo 1 hi, TX.refl, by rw [Int.mul_one]; exact .int _, rh⟩
def enW (ws : List Wv) : List Wv := ws.mapIdx fun i w => .tup [.int (i : Nat), w]
theorem walkW_enum {H0 : Hp} {r : Addr} {ws : List Wv} : WalkW K H0 (enW ws) (fun G => RdL G r ws) (Ite K r) where
  stops := fun G H t rh k => by
    obtain ⟨xs, hx, rs⟩ := rh.rdl k
    exact ⟨xs, hx, by unfold enW; rw [rs.len]; simp⟩
  goes := fun i G H hi t rh k => by
    obtain ⟨xs, hx, rs⟩ := rh.rdl k
    have hi : i < ws.length := by unfold enW at hi; simpa using hi
    exact ⟨xs, xs[i]'(by rw [rs.len]; exact hi), hx, List.getElem?_eq_getElem _⟩
  yields := fun i G H x H' hi t rh k y => by
    obtain ⟨xs, hx, rs⟩ := rh.rdl k
    obtain ⟨T, z, rfl, hT, rfl, y⟩ := y
    obtain ⟨w, ew, rw'⟩ := rs.getV (y xs hx)
    refine ⟨.tup [.int (i : Nat), w], ?_, TX.new hT, .tup upd_same (.cons (.int _) (.cons (rw'.mono (TX.new hT)) .nil)), rh.kept hT⟩
    unfold enW
    rw [List.getElem?_mapIdx, ew]
    rfl
theorem walkW_enumK {H0 : Hp} {r : Addr} {ws : List Wv} {xs : List V} (hx : SqF K H0 r xs) (rs : RWs K H0 ws xs) : WalkW K H0 (enW ws) okT (Ite K r) where
  stops := fun G H t rh k => ⟨xs, (hx.mono t).sq, by unfold enW; rw [rs.len]; simp⟩
  goes := fun i G H hi t rh k => by
    have hi : i < ws.length := by unfold enW at hi; simpa using hi
    exact ⟨xs, xs[i]'(by rw [rs.len]; exact hi), (hx.mono t).sq, List.getElem?_eq_getElem _⟩
  yields := fun i G H x H' hi t rh k y => by
    obtain ⟨T, z, rfl, hT, rfl, y⟩ := y
    obtain ⟨w, ew, r2⟩ := rs.getV (y xs (hx.mono t).sq)
    refine ⟨.tup [.int (i : Nat), w], ?_, TX.new hT, .tup upd_same (.cons (.int _) (.cons ((r2.mono t).mono (TX.new hT)) .nil)), rh.kept hT⟩
    unfold enW
    rw [List.getElem?_mapIdx, ew]
    rfl
def zpW (ws us : List Wv) : List Wv := List.zipWith (fun a b => .tup [a, b]) ws us
theorem zpW_len (ws us : List Wv) : (zpW ws us).length = min ws.length us.length := by unfold zpW; simp
theorem walkW_zip {H0 : Hp} {r1 r2 : Addr} {ws us : List Wv} : WalkW K H0 (zpW ws us) (fun G => RdL G r1 ws ∧ RdL G r2 us) (Itz K r1 r2) where
  stops := fun G H t rh k => by
    obtain ⟨xs, hx, rs⟩ := rh.rdl k.1
    obtain ⟨ys, hy, rt⟩ := rh.rdl k.2
    exact ⟨xs, ys, hx, hy, by rw [zpW_len, rs.len, rt.len]; omega⟩
  goes := fun i G H hi t rh k => by
    obtain ⟨xs, hx, rs⟩ := rh.rdl k.1
    obtain ⟨ys, hy, rt⟩ := rh.rdl k.2
    rw [zpW_len] at hi
    exact ⟨xs, ys, xs[i]'(by rw [rs.len]; omega), ys[i]'(by rw [rt.len]; omega), hx, hy, List.getElem?_eq_getElem _, List.getElem?_eq_getElem _⟩
  yields := fun i G H x H' hi t rh k y => by
    obtain ⟨xs, hx, rs⟩ := rh.rdl k.1
    obtain ⟨ys, hy, rt⟩ := rh.rdl k.2
    obtain ⟨T, z, z2, rfl, hT, rfl, y1, y2⟩ := y
    obtain ⟨w, ew, rw'⟩ := rs.getV (y1 xs hx)
    obtain ⟨w2, ew2, rw2⟩ := rt.getV (y2 ys hy)
    refine ⟨.tup [w, w2], ?_, TX.new hT, .tup upd_same (.cons (rw'.mono (TX.new hT)) (.cons (rw2.mono (TX.new hT)) .nil)), rh.kept hT⟩
    unfold zpW
    rw [List.getElem?_zipWith, ew, ew2]
theorem walkW_zipT {H0 : Hp} {r1 r2 : Addr} {ws us : List Wv} {xs ys : List V} (h1 : H0 r1 = some (.tup xs)) (h2 : H0 r2 = some (.tup ys)) (rs : RWs K H0 ws xs) (rt : RWs K H0 us ys) : WalkW K H0 (zpW ws us) okT (ItzT K r1 r2) where
  stops := fun G H t rh k => ⟨xs, ys, SqT.of (t _ _ trivial h1), SqT.of (t _ _ trivial h2), by rw [zpW_len, rs.len, rt.len]; omega⟩
  goes := fun i G H hi t rh k => by
    rw [zpW_len] at hi
    exact ⟨xs, ys, xs[i]'(by rw [rs.len]; omega), ys[i]'(by rw [rt.len]; omega), SqT.of (t _ _ trivial h1), SqT.of (t _ _ trivial h2), List.getElem?_eq_getElem _, List.getElem?_eq_getElem _⟩
  yields := fun i G H x H' hi t rh k y => by
    obtain ⟨T, z, z2, rfl, hT, rfl, y1, y2⟩ := y
    obtain ⟨w, ew, rw'⟩ := rs.getV (y1 xs (SqT.of (t _ _ trivial h1)))
    obtain ⟨w2, ew2, rw2⟩ := rt.getV (y2 ys (SqT.of (t _ _ trivial h2)))
    refine ⟨.tup [w, w2], ?_, TX.new hT, .tup upd_same (.cons ((rw'.mono t).mono (TX.new hT)) (.cons ((rw2.mono t).mono (TX.new hT)) .nil)), rh.kept hT⟩
    unfold zpW
    rw [List.getElem?_zipWith, ew, ew2]
/-! ### iterables -/
abbrev IK := List Wv → (HW → Prop) → HW → Prop
/-- a value that is walked -/
def wIt (w : Wv) (G : HW) (q : IK) : Prop := match w with
  | .tup ws => q ws okT G
  | .ref r => ∃ ws, RdL G r ws ∧ q ws (fun G => RdL G r ws) G
  | .str z => q (sgW z) okT G
  | .kls ws => q ws okT G
  | .ktp ws => q ws okT G
  | _ => False
def iSeq (te : ET) : IT := fun x σ G q => te x σ G fun w G1 => wIt w G1 q
theorem zi_seq (he : EW X Wx e te) : IW X Wx tg e (iSeq te) := by
  refine ⟨fun pins s σ H R I h => ?_⟩
  obtain ⟨σw, G, x, q, rs, rh, px, hq, h⟩ := h
  refine thn (he.run pins s σ H (fun v H1 => ∃ w G1, TX X.K H H1 ∧ RW X.K H1 w v ∧ RH X.K G1 H1 ∧ wIt w G1 q) I ⟨σw, G, x, _, rs, rh, px, fun w G1 v H1 t1 r1 rh1 h1 => ⟨w, G1, t1, r1, rh1, h1⟩, h⟩) ?_
  rintro v s1 ⟨y, H1, I1, ry, w, G1, t1, r1, rh1, h1⟩
  unfold wIt at h1
  split at h1
  · cases r1 with
    | @tup r xs ws hb rr =>
      cases ry
      obtain ⟨its, rv, pt, hz⟩ := I1.tuple (SqT.of hb)
      exact wpAny_pyIter_tuple (show s1.heap.IsTuple r its.toArray from pt) (pi_one (tk := s1.toks) I1 _ (turn_tuple r _) ⟨_, Heap.get?_push_size _ rfl, rfl, rfl⟩ (hq _ _ G1 _ H1 t1 rh1 (walkW_tup hb rr) h1))
  · rename_i r
    obtain ⟨ws, hl, hk⟩ := h1
    cases r1
    cases ry
    obtain ⟨xs, hx, rr⟩ := rh1.rdl hl
    obtain ⟨its, rv, pl, hz⟩ := I1.list hx
    exact wpAny_pyIter_list pl.isList (pi_one (tk := s1.toks) I1 _ (turn_list r _) ⟨_, Heap.get?_push_size _ rfl, rfl, rfl⟩ (hq _ _ G1 _ H1 t1 rh1 walkW_list hk))
  · rename_i z
    cases r1
    obtain ⟨t, rfl⟩ := ry
    have fin := hq _ _ G1 _ H1 t1 rh1 (walkW_str (z := z)) h1
    cases ha : z.cps.all (· < 128)
    · exact wpAny_pyIter_wide ha (pi_one (tk := s1.toks) I1 _ (turn_str _ z t "str_iterator" (.inr rfl)) ⟨_, Heap.get?_push_size _ rfl, rfl, rfl⟩ fin)
    · exact wpAny_pyIter_ascii ha (pi_one (tk := s1.toks) I1 _ (turn_str _ z t "str_ascii_iterator" (.inl rfl)) ⟨_, Heap.get?_push_size _ rfl, rfl, rfl⟩ fin)
  · cases r1 with
    | @kls r xs ws hb rr =>
      cases ry
      obtain ⟨its, rv, pl, hz⟩ := I1.list hb.sq
      exact wpAny_pyIter_list pl.isList (pi_one (tk := s1.toks) I1 _ (turn_list r _) ⟨_, Heap.get?_push_size _ rfl, rfl, rfl⟩ (hq _ _ G1 _ H1 t1 rh1 (walkW_kls hb rr) h1))
  · cases r1 with
    | @ktp r xs ws hb rr =>
      cases ry
      obtain ⟨its, rv, pt, hz⟩ := I1.tuple (hb.sq (H := H1))
      exact wpAny_pyIter_tuple (show s1.heap.IsTuple r its.toArray from pt) (pi_one (tk := s1.toks) I1 _ (turn_tuple r _) ⟨_, Heap.get?_push_size _ rfl, rfl, rfl⟩ (hq _ _ G1 _ H1 t1 rh1 (walkW_ktp hb rr) h1))
  · exact h1.elim
def iRg1 (tl : AT) : IT := fun x σ G q => tl x σ G fun ws G1 => match ws with
  | [.int j] => -(2 ^ 62) ≤ j ∧ j < 2 ^ 62 ∧ q (rgW 0 1 j.toNat) okT G1
  | _ => False
theorem zi_range1 (hg : Gl X "range") (hm : X.mg "range" = none) (ha : AW X Wx [a] tl) (hs : starEach [a] X.env = [(false, eval a X.env)] := by rfl) : IW X Wx tg (.Call (.Name "range" p) [a] [] pos) (iRg1 tl) :=
  pi_imp (pi_range1 hg hm ha hs) fun σ H R ⟨σw, G, x, q, rs, rh, px, hq, h⟩ => ⟨σw, G, x, _, rs, rh, px, fun ws G1 vs H1 t1 r1 rh1 h1 => by
    split at h1
    · obtain ⟨v, rfl, rv⟩ := rws1 r1
      cases rv
      exact ⟨_, rfl, h1.1, h1.2.1, hq _ _ G1 _ H1 t1 rh1 walkW_range h1.2.2⟩
    · exact h1.elim, h⟩
def iRg2 (tl : AT) : IT := fun x σ G q => tl x σ G fun ws G1 => match ws with
  | [.int i, .int j] => (-(2 ^ 62) ≤ i ∧ i < 2 ^ 62 ∧ -(2 ^ 62) ≤ j ∧ j < 2 ^ 62) ∧ q (rgW i 1 (j - i).toNat) okT G1
  | _ => False
theorem zi_range2 (hg : Gl X "range") (hm : X.mg "range" = none) (ha : AW X Wx [a, b] tl) (hs : starEach [a, b] X.env = [(false, eval a X.env), (false, eval b X.env)] := by rfl) (hs2 : starEach [b] X.env = [(false, eval b X.env)] := by rfl) :
    IW X Wx tg (.Call (.Name "range" p) [a, b] [] pos) (iRg2 tl) :=
  pi_imp (pi_range2 hg hm ha hs hs2) fun σ H R ⟨σw, G, x, q, rs, rh, px, hq, h⟩ => ⟨σw, G, x, _, rs, rh, px, fun ws G1 vs H1 t1 r1 rh1 h1 => by
    split at h1
    · obtain ⟨v, v', rfl, rv, rv'⟩ := rws2 r1
      cases rv; cases rv'
      exact ⟨_, _, rfl, h1.1, hq _ _ G1 _ H1 t1 rh1 walkW_range h1.2⟩
    · exact h1.elim, h⟩
def iEnu (tl : AT) : IT := fun x σ G q => tl x σ G fun ws G1 => match ws with
  | [.ref r] => ∃ us, RdL G1 r us ∧ q (enW us) (fun G => RdL G r us) G1
  | [.kls us] => q (enW us) okT G1
  | _ => False
theorem zi_enum {tpos : Pos} {elts : List Expr} {kk : Nat} (hg : Gl X "enumerate") (hm : X.mg "enumerate" = none) (ha : AW X Wx [e] tl) (hs : starEach [e] X.env = [(false, eval e X.env)] := by rfl) :
    IW X Wx (.Tuple elts kk tpos) (.Call (.Name "enumerate" p) [e] [] pos) (iEnu tl) :=
  pi_imp (pi_enum hg hm ha hs) fun σ H R ⟨σw, G, x, q, rs, rh, px, hq, h⟩ => ⟨σw, G, x, _, rs, rh, px, fun ws G1 vs H1 t1 r1 rh1 h1 => by
    split at h1
    · obtain ⟨us, hl, hk⟩ := h1
      obtain ⟨v, rfl, rv⟩ := rws1 r1
      cases rv
      obtain ⟨xs, hx, _⟩ := rh1.rdl hl
      exact ⟨_, xs, rfl, hx, hq _ _ G1 _ H1 t1 rh1 walkW_enum hk⟩
    · obtain ⟨v, rfl, rv⟩ := rws1 r1
      cases rv with
      | kls hb rs => exact ⟨_, _, rfl, hb.sq, hq _ _ G1 _ H1 t1 rh1 (walkW_enumK hb rs) h1⟩
    · exact h1.elim, h⟩
def iZp (tl : AT) : IT := fun x σ G q => tl x σ G fun ws G1 => match ws with
  | [.ref r, .ref r'] => ∃ us vs, RdL G1 r us ∧ RdL G1 r' vs ∧ q (zpW us vs) (fun G => RdL G r us ∧ RdL G r' vs) G1
  | [.tup us, .tup vs] => q (zpW us vs) okT G1
  | _ => False
theorem zi_zip {e2 : Expr} {tpos : Pos} {elts : List Expr} {kk : Nat} (hg : Gl X "zip") (hm : X.mg "zip" = none) (ha : AW X Wx [e, e2] tl)
    (hs : starEach [e, e2] X.env = (false, eval e X.env) :: starEach [e2] X.env := by rfl) (hpl : (backTo pos (starEach [e2] X.env)).any (·.1) = false := by rfl) :
    IW X Wx (.Tuple elts kk tpos) (.Call (.Name "zip" p) [e, e2] [] pos) (iZp tl) :=
  pi_imp (pi_zipA hg hm ha hs hpl) fun σ H R ⟨σw, G, x, q, rs, rh, px, hq, h⟩ => ⟨σw, G, x, _, rs, rh, px, fun ws G1 vs H1 t1 r1 rh1 h1 => by
    split at h1
    · obtain ⟨us, vs, hl, hl2, hk⟩ := h1
      obtain ⟨v, v', rfl, rv, rv'⟩ := rws2 r1
      cases rv; cases rv'
      obtain ⟨xs, hx, _⟩ := rh1.rdl hl
      obtain ⟨ys, hy, _⟩ := rh1.rdl hl2
      exact ⟨_, _, xs, ys, rfl, .inl ⟨hx, hy, hq _ _ G1 _ H1 t1 rh1 walkW_zip hk⟩⟩
    · obtain ⟨v, v', rfl, rv, rv'⟩ := rws2 r1
      cases rv with
      | tup hb rb =>
        cases rv' with
        | tup hc rc => exact ⟨_, _, _, _, rfl, .inr ⟨SqT.of hb, SqT.of hc, hq _ _ G1 _ H1 t1 rh1 (walkW_zipT hb hc rb rc) h1⟩⟩
    · exact h1.elim, h⟩
def iRv (te : ET) : IT := fun x σ G q => te x σ G fun w G1 => match w with
  | .tup ws => q ws.reverse okT G1
  | .ref r => ∃ ws, RdL G1 r ws ∧ q ws.reverse (fun G => RdL G r ws) G1
  | _ => False
/-- range(..) as an argument -/
abbrev RGt := XW → SW → HW → (Int → Int → HW → Prop) → Prop
def rg1 (te : ET) : RGt := fun x σ G q => te x σ G fun w G1 => match w with
  | .int n => q 0 n G1
  | _ => False
def iRvR (t : RGt) : IT := fun x σ G q => t x σ G fun i j G1 => -(2 ^ 62) ≤ i ∧ i < 2 ^ 62 ∧ -(2 ^ 62) ≤ j ∧ j < 2 ^ 62 ∧ q (rgW (i + (((j - i).toNat : Nat) : Int) - 1) (-1) (j - i).toNat) okT G1
def eTupRg (t : RGt) : ET := fun x σ G q => t x σ G fun i j G1 => RgOk i j ∧ q (.tup (rgW i 1 (j - i).toNat)) G1
def eLstRg (t : RGt) : ET := fun x σ G q => t x σ G fun i j G1 => RgOk i j ∧ ∀ l, G1 l = none → q (.ref l) (updO G1 l (.lst (rgW i 1 (j - i).toNat)))
/-! ### comprehensions -/
/-- no exception leaves -/
def x0 : XW := fun _ _ _ _ => False
def W0 : WX := fun _ _ _ _ => False
def wipeW (σ : SW) : List Nat → SW
  | [] => σ
  | v :: vs => (wipeW σ vs).set v none
theorem RS.none {H : Hp} : ∀ {σw : SW} {σ : L2.St} (n : Nat), RS K H σw σ → RS K H (σw.set n Option.none) (σ.set n Option.none)
  | _, _, _, .nil => .nil
  | _, _, 0, .cons _ b => .cons trivial b
  | _, _, n + 1, .cons a b => .cons a (RS.none n b)
theorem RS.wipe {H : Hp} {σw : SW} {σ : L2.St} (r : RS K H σw σ) : ∀ vs : List Nat, RS K H (wipeW σw vs) (L2.wipe σ vs)
  | [] => r
  | v :: vs => RS.none v (RS.wipe r vs)
theorem wipe_at {σ : L2.St} : ∀ (vs : List Nat) (j : Nat), (L2.wipe σ vs)[j]? = if j ∈ vs ∧ j < σ.length then some none else σ[j]?
  | [], j => by simp [L2.wipe]
  | v :: vs, j => by
    unfold L2.wipe
    rw [List.getElem?_set, wipe_at vs j, L2.wipe_length]
    by_cases h : v = j
    · subst h
      by_cases h2 : v < σ.length
      · simp [h2]
      · simp [h2, List.getElem?_eq_none (by omega : σ.length ≤ v)]
    · by_cases h3 : j ∈ vs
      · simp [h, h3]
      · have h4 : ¬ j = v := fun z => h z.symm
        simp [h, h3, h4]
theorem wipe_set {σ : L2.St} {vs : List Nat} {i : Nat} {o : Option V} (h : i ∈ vs) : L2.wipe (σ.set i o) vs = L2.wipe σ vs := by
  apply List.ext_getElem?
  intro j
  rw [wipe_at, wipe_at, List.length_set]
  by_cases hj : i = j
  · subst hj
    by_cases h2 : i < σ.length
    · simp [h, h2]
    · simp [h2]
  · rw [List.getElem?_set_ne hj]
theorem wipe_wipe {σ : L2.St} {vs : List Nat} : L2.wipe (L2.wipe σ vs) vs = L2.wipe σ vs := by
  apply List.ext_getElem?
  intro j
  rw [wipe_at, wipe_at, L2.wipe_length]
  split <;> rfl
abbrev QsW (X : Cx) (Wx : WX) (es : List Expr) (t : QT) : Prop := PTs X es (embB X.K Wx t)
def qYes : QT := fun _ _ G q => q true G
theorem zq_nil : QsW X Wx [] qYes := ⟨fun pins s σ H Q I h => pts_nil.run pins s σ H Q I (by
  obtain ⟨σw, G, x, q, rs, rh, px, po, h⟩ := h
  exact po _ _ _ TX.refl rh h)⟩
theorem zq_one {t : QT} (h : QW X Wx c t) : QsW X Wx [c] t := pts_one h
/-- how an item goes into the block's own slots -/
def inTo (is : List Nat) (w : Wv) (σ : SW) : Option SW := match is, w with
  | [i], w => some (σ.set i (some w))
  | [i, j], .tup [a, b] => some ((σ.set i (some a)).set j (some b))
  | [i, j, k], .tup [a, b, c] => some (((σ.set i (some a)).set j (some b)).set k (some c))
  | _, _ => none
def gIn (K : PySem.W.Frag) (is : List Nat) : TG := match is with
  | [i] => gName i
  | [i, j] => gTup K 2 (gCons (gName i) (gCons (gName j) gNil))
  | [i, j, k] => gTup K 3 (gCons (gName i) (gCons (gName j) (gCons (gName k) gNil)))
  | _ => fun _ _ _ _ => False
theorem gIn_ok {is vs : List Nat} {w : Wv} {v : V} {σw σw' : SW} {σ : L2.St} {H : Hp} {Q : L2.St → Hp → Prop} (hv : ∀ i ∈ is, i ∈ vs) (r : RW K H w v) (rs : RS K H σw σ) (h : inTo is w σw = some σw')
    (hq : ∀ σ', RS K H σw' σ' → L2.wipe σ' vs = L2.wipe σ vs → Q σ' H) : gIn K is v σ H Q := by
  unfold inTo at h
  split at h
  · rename_i i
    cases h
    exact hq _ (rs.set r i) (wipe_set (hv i (by simp)))
  · rename_i i j a b
    cases h
    cases r with
    | tup hb rr =>
      obtain ⟨va, vb, rfl, ra, rb⟩ := rws2 rr
      refine ⟨_, _, rfl, SqT.of hb, rfl, _, _, rfl, _, _, rfl, rfl, hq _ ((rs.set ra i).set rb j) ?_⟩
      rw [wipe_set (hv j (by simp)), wipe_set (hv i (by simp))]
  · rename_i i j k a b c
    cases h
    cases r with
    | tup hb rr =>
      cases rr with
      | cons ra rr =>
        obtain ⟨vb, vc, rfl, rb, rc⟩ := rws2 rr
        refine ⟨_, _, rfl, SqT.of hb, rfl, _, _, rfl, _, _, rfl, _, _, rfl, rfl, hq _ (((rs.set ra i).set rb j).set rc k) ?_⟩
        rw [wipe_set (hv k (by simp)), wipe_set (hv j (by simp)), wipe_set (hv i (by simp))]
  · cases h
/-- [elt for .. in iter if ..]: the items go into the slots is, among vs -/
def eLc (wi : IT) (is vs : List Nat) (tt : QT) (te : ET) : ET := fun x σ G q => wi x σ G fun its ok G1 => ∀ D, G1 D = none → ∃ P : Nat → HW → Prop, P 0 (updO G1 D (.lst [])) ∧ (∀ i G, i ≤ its.length → P i G → ok G) ∧
  (∀ i w G, its[i]? = some w → P i G → ∃ σ2, inTo is w (wipeW σ vs) = some σ2 ∧ tt x0 σ2 G fun k G3 => match k with
    | true => te x0 σ2 G3 fun y G4 => ∃ acc, G4 D = some (.lst acc) ∧ acc.length < sizeLine ∧ P (i + 1) (updO G4 D (.lst (acc ++ [y])))
    | false => P (i + 1) G3) ∧ ∀ G, P its.length G → q (.ref D) G
theorem emb_lc {wi : IT} {is vs : List Nat} {tt : QT} (hv : ∀ i ∈ is, i ∈ vs) : ∀ σ H Q, emb K Wx (eLc wi is vs tt te) σ H Q → tLc (embI K Wx wi) (gIn K is) (embB K W0 tt) (emb K W0 te) vs σ H Q := by
  rintro σ H Q ⟨σw, G, x, q, rs, rh, px, po, h⟩
  refine ⟨σw, G, x, _, rs, rh, px, fun its ok G1 J H1 t1 rh1 wk h1 => ?_, h⟩
  intro D hD
  obtain ⟨P, h0, hok, hst, hdn⟩ := h1 D (rh1.fresh hD)
  have tD : TX K H1 (upd H1 D (.lst [])) := TX.new hD
  have pw : ∀ H : Hp, PostX K H W0 x0 := fun H cls d fs σw G σ H' _ _ _ _ z => z
  refine ⟨fun i m H2 => ∃ G2, m = its.length - i ∧ i ≤ its.length ∧ RH K G2 H2 ∧ TX K H1 H2 ∧ P i G2, ⟨its.length, _, by simp, Nat.zero_le _, rh1.newL hD .nil, tD, h0⟩, ?_⟩
  rintro i m H2 ⟨G2, rfl, hi, rh2, t2, p2⟩
  have k2 := hok i G2 hi p2
  by_cases hlt : i < its.length
  · refine .inr ⟨wk.goes i G2 H2 hlt t2 rh2 k2, fun H3 => ∃ G3, RH K G3 H3 ∧ TX K H1 H3 ∧ P (i + 1) G3, fun H' ⟨G3, h3, t3, q3⟩ => ⟨its.length - (i + 1), by omega, G3, rfl, hlt, h3, t3, q3⟩, fun v H' y => ?_⟩
    obtain ⟨w, ew, t3, rw3, rh3⟩ := wk.yields i G2 H2 v H' hlt t2 rh2 k2 y
    obtain ⟨σ2, es, hq⟩ := hst i w G2 ew p2
    have t23 := t2.trans t3
    have rsw : RS K H' (wipeW σw vs) (L2.wipe σ vs) := (rs.mono (t1.trans t23)).wipe vs
    refine gIn_ok hv rw3 rsw es fun σ' rs' ez => ⟨by rw [ez, wipe_wipe], σ2, G2, x0, _, rs', rh3, pw _, fun k G4 H4 t4 rh4 h4 => ?_, hq⟩
    cases k with
    | true =>
      refine (if_pos rfl).mpr ⟨σ2, G4, x0, _, rs'.mono t4, rh4, pw _, fun w5 G5 v5 H5 t5 r5 rh5 h5 => ?_, h4⟩
      obtain ⟨acc, ea, hz, p5⟩ := h5
      obtain ⟨xs, f, rx⟩ := rh5.lst ea
      exact ⟨xs, f, by rw [rx.len]; exact hz, _, rh5.putL f (rx.app (.cons r5 .nil)), ((t23.trans t4).trans t5).trans (TX.put f noTup_lst), p5⟩
    | false => exact (if_neg Bool.false_ne_true).mpr ⟨G4, rh4, t23.trans t4, h4⟩
  · have e : i = its.length := by omega
    subst e
    exact .inl ⟨wk.stops G2 H2 t2 rh2 k2, po _ _ _ _ (t1.trans t2) (.ref D) rh2 (hdn G2 p2)⟩
theorem z_lc {elt iter : Expr} {ifs : List Expr} {scope : Scope} {own : List (Str × Nat)} {wi : IT} {is : List Nat} {tt : QT} (hc : X.calm = true) (hN : X.N.Nodup) (hi : IW X Wx tg iter wi) (ok : BlkOk X.N X.env.scope scope own)
    (hg : ∀ (s : Shared) (H : Hp) (C : Addr) (cl : List (Str × Addr)) (fp : List Addr), PG (X.blk s H scope (compEnvC scope cl C X.env) fp) tg (gIn X.K is)) (ht : ∀ (s : Shared) (H : Hp) (C : Addr) (cl : List (Str × Addr)) (fp : List Addr), QsW (X.blk s H scope (compEnvC scope cl C X.env) fp) W0 ifs tt)
    (he : ∀ (s : Shared) (H : Hp) (C : Addr) (cl : List (Str × Addr)) (fp : List Addr), EW (X.blk s H scope (compEnvC scope cl C X.env) fp) W0 elt te) (hv : ∀ i ∈ is, i ∈ own.map (·.2)) (hs : ∀ x, foldedSetIterable iter X.env x = pure x := by intro _; rfl) :
    EW X Wx (.ListComp elt [⟨tg, iter, ifs, 0⟩] scope pos) (eLc wi is (own.map (·.2)) tt te) := pe_imp (pe_lc hc hN hi ok hg ht he hs) (emb_lc hv)
theorem z_setLc {i : Nat} {y : Str} {py spos : Pos} {elt iter : Expr} {ifs : List Expr} {scope : Scope} {own : List (Str × Nat)} {wi : IT} {is : List Nat} {tt : QT} (hc : X.calm = true) (hN : X.N.Nodup) (hy : X.N[i]? = some y) (hyl : X.env.scope.names.lookup y = some .local)
    (hsw : swapsWith (.ListComp elt [⟨tg, iter, ifs, 0⟩] scope pos) (some (.Name y py)) spos.line X.env = pure true) (hi : IW X Wx tg iter wi) (ok : BlkOk X.N X.env.scope scope own)
    (hg : ∀ (s : Shared) (H : Hp) (C : Addr) (cl : List (Str × Addr)) (fp : List Addr), PG (X.blk s H scope (compEnvC scope cl C X.env) fp) tg (gIn X.K is)) (ht : ∀ (s : Shared) (H : Hp) (C : Addr) (cl : List (Str × Addr)) (fp : List Addr), QsW (X.blk s H scope (compEnvC scope cl C X.env) fp) W0 ifs tt)
    (he : ∀ (s : Shared) (H : Hp) (C : Addr) (cl : List (Str × Addr)) (fp : List Addr), EW (X.blk s H scope (compEnvC scope cl C X.env) fp) W0 elt te) (hv : ∀ i ∈ is, i ∈ own.map (·.2)) (hs : ∀ x, foldedSetIterable iter X.env x = pure x := by intro _; rfl) :
    TW X Wx (.Assign [.Name y py] (.ListComp elt [⟨tg, iter, ifs, 0⟩] scope pos) spos) (sSet i (eLc wi is (own.map (·.2)) tt te)) :=
  ps_imp (ps_setLc hc hN hy hyl hsw hi ok hg ht he hs) fun D σ H ⟨σw, G, d, rs, rh, sm, h⟩ => emb_lc hv σ H (fun x H1 => gName i x σ H1 D.nx) ⟨σw, G, d.ex, _, rs, rh, sm.ex, fun w G1 v H1 t1 r1 rh1 h1 => sm.nx _ _ _ _ t1 ((rs.mono t1).set r1 i) rh1 h1, h⟩
end
end LF
/-! LF7: defs, their promises, calls; raising -/
namespace LF
open PySem PySem.Spec PyProof.Rows L2
/-! ### room, and nothing being shown -/
structure Rm (k : Nat) (A : Around) : Prop where
  room : Room k A
  gd : A.guards = some []
theorem Rm.mono {j k : Nat} {A : Around} (r : Rm k A) (h : j ≤ k) : Rm j A := ⟨r.room.mono h, r.gd⟩
theorem Rm.un {k : Nat} {A : Around} (r : Rm k A) : A.units + 64 < cLine := r.room.units
theorem Rm.deeper {k : Nat} {A : Around} (r : Rm (k + 1) A) (env : Env) : Rm k (A.deeper env) := ⟨r.room.deeper env, r.gd⟩
theorem Rm.make {k : Nat} {A : Around} (r : Rm (k + 1) A) (C : Addr) (us : List Value) (kw : List (Str × Value)) : Rm k (A.under (.builtin "type.__call__" ⟨.ref C :: us, kw⟩)) :=
  ⟨r.room.make C us kw, by have := r.gd; first | exact this | simpa [Around.under, Code.isGuard, pushGuards, Code.guards, guardIds] using this⟩
/-! ### promises over trees -/
/-- what is wanted of an exception that leaves a def -/
abbrev XE := Value → List (Str × Wv) → HW → Prop
abbrev SpW := List Wv → HW → WK → XE → Prop
def PostE (K : PySem.W.Frag) (H : Hp) (E : XK) (x : XE) : Prop := ∀ cls d fs G H', TX K H H' → RX K H' d fs → RH K G H' → x cls fs G → E cls d H'
def embSp (K : PySem.W.Frag) (sp : SpW) : Sp := fun vs H Q E => ∃ ws G q x, RWs K H ws vs ∧ RH K G H ∧ Post K H Q q ∧ PostE K H E x ∧ sp ws G q x
structure FnW (P : Program) (w : World) (K : PySem.W.Frag) (mg : Str → Option Value) (base : Heap) (k : Nat) (f : Addr) (fd : FuncData) (ps : List Str) (sp : SpW) : Prop where
  len : ∀ ws G q x, sp ws G q x → ws.length = ps.length
  run : ∀ (A : Around) (outer : List Env) (s : Shared) (H : Hp) (args : Args) (us : List Value) (vs : List V) (Q : VK) (E : XK), Rm k A → Env0 P w K mg base A outer s H → BindsTo s fd args (ps.zip us) → Vals vs us → embSp K sp vs H Q E →
    codeAny (model P w) A (.call (.ref f) args) (CR (L2.CX P w) outer P w H s Q E) s
section
variable {P : Program} {w : World} {K : PySem.W.Frag} {mg : Str → Option Value} {base : Heap} {k : Nat} {f : Addr} {fd : FuncData} {ps : List Str} {sp : SpW}
theorem FnW.mono {j : Nat} (F : FnW P w K mg base j f fd ps sp) (h : j ≤ k) : FnW P w K mg base k f fd ps sp := ⟨F.len, fun A outer s H args us vs Q E hr => F.run A outer s H args us vs Q E (hr.mono h)⟩
def startW (N : List Str) (ws : List Wv) : SW := ws.map some ++ List.replicate (N.length - ws.length) none
theorem rs_start {H : Hp} {N : List Str} {ws : List Wv} {vs : List V} (r : RWs K H ws vs) : RS K H (startW N ws) (L2.start N vs) := by
  unfold startW L2.start
  rw [r.len]
  have e : ∀ {ws : List Wv} {vs : List V}, RWs K H ws vs → ∀ n, RS K H (ws.map some ++ List.replicate n none) (vs.map some ++ List.replicate n none) := by
    intro ws
    induction ws with
    | nil =>
      intro vs r n
      cases r
      have z : ∀ n, RS K H (List.replicate n none) (List.replicate n none) := fun n => by
        induction n with
        | zero => exact .nil
        | succ n ih => rw [List.replicate_succ, List.replicate_succ]; exact .cons trivial ih
      exact z n
    | cons a ws ih =>
      intro vs r n
      cases r with
      | cons ra rr => exact .cons ra (ih rr n)
  exact e r _
/-- the wishes of a def's body, from those of its caller -/
def endsW (q : WK) (x : XE) : EndsW := { nx := fun _ G => q .non G, rt := q, ex := fun cls fs _ G => x cls fs G }
/-- exceptions of a def's body -/
def WxE (E : XK) : WX := fun cls d _ H => E cls d H
variable {x qual : Str} {params : Arguments} {body : List Stmt} {scope : Scope} {dvs : List V} {kws : List (Str × V)}
/-- THE RULE: a def by its body -/
theorem fnW_of {N : List Str} {t : ST} (F : FunD K x qual params body scope dvs kws f fd) (S : FnScope N ps scope) (len : ∀ ws G q x, sp ws G q x → ws.length = ps.length)
    (hbody : ∀ (cdv : Value) (A : Around) (outer : List Env) (s : Shared) (H : Hp) (E : XK), Rm k (A.deeper (envOfC qual scope s.heap.objs.size f cdv)) → TWs (cxOf (L2.CX P w) P w K mg base N qual scope f cdv A outer s H E) (WxE E) body t)
    (hsp : ∀ ws G q x, sp ws G q x → t (endsW q x) (startW N ws) G) : FnW P w K mg base (k + 1) f fd ps sp := by
  obtain ⟨oc, od, dV, kV, doc, pm, an, cdv, ct, osl, rfl, lk, hcd, _, _⟩ := F.ex
  refine ⟨len, fun A outer s H args us vs Q E hr e0 hb r h => ?_⟩
  obtain ⟨ws, G, q, xe, rw', rh, po, pe, h⟩ := h
  have hl : vs.length = ps.length := by rw [rw'.len]; exact len _ _ _ _ h
  refine LamX.run_ofS lk hcd S hr.room e0 hb r hl fun hr2 => ⟨_, hbody cdv A outer s H E ⟨hr2, hr.gd⟩, ?_⟩
  refine ⟨startW N ws, G, endsW q xe, rs_start rw', rh, { nx := ?_, rt := po, bk := fun _ _ _ _ _ _ _ z => z.elim, ct := fun _ _ _ _ _ _ _ z => z.elim, ex := ?_ }, hsp ws G q xe h⟩
  · exact fun σw G' σ H' tx _ rh' hq => po .non G' .non H' tx .non rh' hq
  · exact fun cls d fs σw G' σ H' tx rx _ rh' hq => pe cls d fs G' H' tx rx rh' hq
end
/-! ### binding -/
inductive Sel where
  | p (i : Nat) | k (i : Nat) | d (i : Nat)
def pick {α : Type} (sel : List Sel) (us ks ds : List α) : List α := sel.filterMap fun s => match s with
  | .p i => us[i]?
  | .k i => ks[i]?
  | .d i => ds[i]?
section
variable {K : PySem.W.Frag} {H : Hp}
theorem pick_vals {us ks ds : List V} {us' ks' ds' : List Value} (a : Vals us us') (b : Vals ks ks') (c : Vals ds ds') : ∀ sel : List Sel, Vals (pick sel us ks ds) (pick sel us' ks' ds')
  | [] => .nil
  | s :: sel => by
    have one : ∀ {l : List V} {l' : List Value} (r : Vals l l') (i : Nat), (l[i]? = none ∧ l'[i]? = none) ∨ ∃ v u, l[i]? = some v ∧ l'[i]? = some u ∧ RelV v u := fun {l l'} r i => by
      cases e : l[i]? with
      | none => exact .inl ⟨rfl, r.none_of e⟩
      | some v => obtain ⟨u, h1, h2⟩ := r.get e; exact .inr ⟨v, u, rfl, h1, h2⟩
    have ih := pick_vals a b c sel
    unfold pick at ih ⊢
    cases s with
    | p i => rcases one a i with ⟨h1, h2⟩ | ⟨v, u, h1, h2, h3⟩ <;> simp only [List.filterMap_cons, h1, h2] <;> first | exact ih | exact .cons h3 ih
    | k i => rcases one b i with ⟨h1, h2⟩ | ⟨v, u, h1, h2, h3⟩ <;> simp only [List.filterMap_cons, h1, h2] <;> first | exact ih | exact .cons h3 ih
    | d i => rcases one c i with ⟨h1, h2⟩ | ⟨v, u, h1, h2, h3⟩ <;> simp only [List.filterMap_cons, h1, h2] <;> first | exact ih | exact .cons h3 ih
theorem pick_rws {us ks ds : List Wv} {us' ks' ds' : List V} (a : RWs K H us us') (b : RWs K H ks ks') (c : RWs K H ds ds') : ∀ sel : List Sel, RWs K H (pick sel us ks ds) (pick sel us' ks' ds')
  | [] => .nil
  | s :: sel => by
    have one : ∀ {l : List Wv} {l' : List V} (r : RWs K H l l') (i : Nat), (l[i]? = none ∧ l'[i]? = none) ∨ ∃ v u, l[i]? = some v ∧ l'[i]? = some u ∧ RW K H v u := fun {l l'} r i => by
      cases e : l[i]? with
      | none => exact .inl ⟨rfl, by rw [List.getElem?_eq_none_iff] at e ⊢; rw [r.len]; exact e⟩
      | some v => obtain ⟨u, h1, h2⟩ := r.get e; exact .inr ⟨v, u, rfl, h1, h2⟩
    have ih := pick_rws a b c sel
    unfold pick at ih ⊢
    cases s with
    | p i => rcases one a i with ⟨h1, h2⟩ | ⟨v, u, h1, h2, h3⟩ <;> simp only [List.filterMap_cons, h1, h2] <;> first | exact ih | exact .cons h3 ih
    | k i => rcases one b i with ⟨h1, h2⟩ | ⟨v, u, h1, h2, h3⟩ <;> simp only [List.filterMap_cons, h1, h2] <;> first | exact ih | exact .cons h3 ih
    | d i => rcases one c i with ⟨h1, h2⟩ | ⟨v, u, h1, h2, h3⟩ <;> simp only [List.filterMap_cons, h1, h2] <;> first | exact ih | exact .cons h3 ih
end
/-- how a call binds: n values by place, the keywords ks, the defaults ds -/
structure BindW (K : PySem.W.Frag) (fd : FuncData) (ps : List Str) (n : Nat) (ks : List Str) (sel : List Sel) (dws : List Wv) : Prop where
  dv : ∃ (dvs : List V) (ds : List Value), Vals dvs ds ∧ (∀ H, RWs K H dws dvs) ∧
    ∀ (s : Shared) (us uk : List Value), K.In s.heap → us.length = n → uk.length = ks.length → BindsTo s fd ⟨us, ks.zip uk⟩ (ps.zip (pick sel us uk ds))
section
variable {K : PySem.W.Frag} {x qual : Str} {params : Arguments} {body : List Stmt} {scope : Scope} {dvs : List V} {kws : List (Str × V)} {f : Addr} {fd : FuncData} {ps ks : List Str} {n : Nat} {sel : List Sel} {dws : List Wv}
/-- no defaults -/
theorem bind0 (F : FunD K x qual params body scope [] kws f fd)
    (h : ∀ (kV doc pm : Value) (an : Option Addr) (cdv ct : Value) (us uk : List Value), us.length = n → uk.length = ks.length → bindArgs (PySem.W.fnOf x qual params body scope .none kV doc pm an cdv ct) ⟨us, ks.zip uk⟩ = pure (ps.zip (pick sel us uk []))) : BindW K fd ps n ks sel [] := by
  obtain ⟨oc, od, dV, kV, doc, pm, an, cdv, ct, osl, rfl, lk, hcd, hD, hK⟩ := F.ex
  rcases hD with ⟨_, rfl⟩ | ⟨e, _⟩
  · exact ⟨[], [], .nil, fun _ => .nil, fun s us uk _ h1 h2 => .of_eq (h kV doc pm an cdv ct us uk h1 h2)⟩
  · exact absurd rfl e
/-- with defaults by place -/
theorem bindD (F : FunD K x qual params body scope dvs kws f fd) (hd : dvs ≠ []) (hr : ∀ H, RWs K H dws dvs)
    (h : ∀ (T : Addr) (kV doc pm : Value) (an : Option Addr) (cdv ct : Value) (us uk its : List Value), us.length = n → uk.length = ks.length → its.length = dvs.length →
      ∃ k, bindArgs (PySem.W.fnOf x qual params body scope (.ref T) kV doc pm an cdv ct) ⟨us, ks.zip uk⟩ = seqItems? (.ref T) >>= k ∧ k (some its.toArray) = pure (ps.zip (pick sel us uk its))) : BindW K fd ps n ks sel dws := by
  obtain ⟨oc, od, dV, kV, doc, pm, an, cdv, ct, osl, rfl, lk, hcd, hD, hK⟩ := F.ex
  rcases hD with ⟨e, _⟩ | ⟨_, T, o, its, m, rfl, lT, oT, rT⟩
  · exact absurd e hd
  · refine ⟨dvs, its, rT, hr, fun s us uk X h1 h2 => BindsTo.of_looks fun M => ?_⟩
    obtain ⟨k, e1, e2⟩ := h T kV doc pm an cdv ct us uk its h1 h2 rT.length.symm
    rw [e1]
    exact looks_items X lT oT (.of_pure e2)
end
/-! ### calls -/
section
variable {X : Cx} {Wx : WX} {k n : Nat} {f : Addr} {fd : FuncData} {ps ks : List Str} {sp : SpW} {x : Str} {p pos kpos : Pos} {e : Expr} {es : List Expr} {kws : List Keyword} {tl tk : AT} {sel : List Sel} {dws : List Wv} {te : ET}
abbrev FnX (X : Cx) (k : Nat) (f : Addr) (fd : FuncData) (ps : List Str) (sp : SpW) : Prop := FnW X.prog X.w X.K X.mg X.base k f fd ps sp
theorem run_w {pins : List (Addr × Obj)} {σ : L2.St} {H : Hp} {s : Shared} {Q : VK} {σw : SW} {G : HW} {x : XW} {q : WK} {us uk : List Value} {vu vk : List V} {wu wk : List Wv} (F : FnX X k f fd ps sp) (hr : Rm k X.A) (hb : BindW X.K fd ps n ks sel dws) (tk : Takes X Wx)
    (I : Inv X pins σ H s) (r : Vals vu us) (rk : Vals vk uk) (wr : RWs X.K H wu vu) (wk' : RWs X.K H wk vk) (hn : wu.length = n) (hk : wk.length = ks.length) (rs : RS X.K H σw σ) (rh : RH X.K G H) (px : PostX X.K H Wx x) (po : Post X.K H Q q)
    (h : sp (pick sel wu wk dws) G q fun cls fs G2 => x cls fs σw G2) : wpAny (model X.prog X.w) X.A (call (.ref f) us (ks.zip uk)) (EP X pins σ Q) X.xe s := by
  obtain ⟨dvs, ds, hv, hw, to⟩ := hb.dv
  have r2 := pick_vals r rk hv sel
  have w2 := pick_rws wr wk' (hw H) sel
  refine wpAny_call (codeAny_mono (F.run X.A X.stack s H ⟨us, ks.zip uk⟩ _ _ Q (fun cls d H' => Wx cls d σ H' ∧ True) hr I.env0 (to s us uk I.kIn (by rw [← r.length, wr.len]; exact hn) (by rw [← rk.length, wk'.len]; exact hk)) r2
    ⟨_, G, q, _, w2, rh, po, fun cls d fs G' H' tx rx rh' hx => ⟨px cls d fs σw G' σ H' tx rx (rs.mono tx) rh' hx, trivial⟩, h⟩) fun rr s' hq => ?_)
  cases rr with
  | error er => exact tk er s' (XE.of_call I (fun cls d H' z => z.1) hq)
  | ok fl =>
    cases fl with
    | ret u => exact I.after hq
    | next => exact False.elim hq
    | brk => exact False.elim hq
    | cont => exact False.elim hq
/-- f(..): sp of the arguments picked -/
def eCall (n m : Nat) (sel : List Sel) (dws : List Wv) (sp : SpW) (tl tk : AT) : ET := fun x σ G q => tl x σ G fun ws G1 => tk x σ G1 fun zs G2 => ws.length = n ∧ zs.length = m ∧ sp (pick sel ws zs dws) G2 q fun cls fs G3 => x cls fs σ G3
theorem z_call (F : FnX X k f fd ps sp) (hr : Rm k X.A) (hg : Gl X x) (hm : X.mg x = some (.ref f)) (hk : PySem.W.keepIn X.K (.ref f) = true) (hb : BindW X.K fd ps n [] sel dws) (tk : Takes X Wx) (ha : AW X Wx (e :: es) tl)
    (hdb : (x == ("__debug__" : Str)) = false := by decide) (he : starEach (e :: es) X.env = (false, eval e X.env) :: starEach es X.env := by rfl) (hpl : (backTo pos (starEach es X.env)).any (·.1) = false := by rfl) :
    EW X Wx (.Call (.Name x p) (e :: es) [] pos) (eCall n 0 sel dws sp tl aNil) := ⟨fun pins s σ H Q I h => by
  obtain ⟨σw, G, xw, q, rs, rh, px, po, h⟩ := h
  refine wpAny_Call_Name_kw (ld_glob I hg hm ?_ hdb)
  refine PySem.W.callWith_K (h₀ := X.base) I.ok.mod.kin hk (thn (ha.run pos pins s σ H (fun vs H1 => ∃ ws G1, TX X.K H H1 ∧ RWs X.K H1 ws vs ∧ RH X.K G1 H1 ∧ ws.length = n ∧ sp (pick sel ws [] dws) G1 q fun cls fs G3 => xw cls fs σw G3) I
    ⟨σw, G, xw, _, rs, rh, px, fun ws G1 vs H1 t1 r1 rh1 h1 => ⟨ws, G1, t1, r1, rh1, h1.1, h1.2.2⟩, h⟩) fun us s1 ⟨vs, H1, I1, r, ws, G1, t1, r1, rh1, hn, h1⟩ => ⟨I1.kIn, ?_⟩) he hpl
  exact run_w (uk := []) (wk := []) F hr hb tk I1 r .nil r1 .nil hn rfl (rs.mono t1) rh1 (px.mono t1) (po.mono t1) h1⟩
/-- keywords' values -/
abbrev KWs (X : Cx) (Wx : WX) (kws : List Keyword) (t : AT) : Prop := PK X kws (embA X.K Wx t)
theorem pk_imp {t t' : TA} (h : PK X kws t) (i : ∀ σ H Q, t' σ H Q → t σ H Q) : PK X kws t' := ⟨fun pos pins s σ H Q I q => h.run pos pins s σ H Q I (i _ _ _ q)⟩
theorem z_knil : KWs X Wx [] aNil := pk_imp pk_nil fun σ H Q ⟨σw, G, x, q, rs, rh, px, po, h⟩ => po _ _ _ _ TX.refl .nil rh h
theorem z_kcons {nm : Option Str} (h : EW X Wx e te) (g : KWs X Wx kws tl) : KWs X Wx (⟨nm, e, kpos⟩ :: kws) (aCons te tl) :=
  pk_imp (pk_cons h g) fun σ H Q ⟨σw, G, x, q, rs, rh, px, po, h⟩ => ⟨σw, G, x, _, rs, rh, px, fun w1 G1 v1 H1 t1 r1 rh1 h1 => ⟨σw, G1, x, _, rs.mono t1, rh1, px.mono t1, fun ws G2 vs H2 t2 r2 rh2 h2 =>
    po _ _ _ _ (t1.trans t2) (.cons (r1.mono t2) r2) rh2 h2, h1⟩, h⟩
theorem z_callK (F : FnX X k f fd ps sp) (hr : Rm k X.A) (hg : Gl X x) (hm : X.mg x = some (.ref f)) (hk : PySem.W.keepIn X.K (.ref f) = true) (hb : BindW X.K fd ps 0 ks sel dws) (tx : Takes X Wx) (hkw : KWs X Wx kws tk)
    (hall : (backToKw pos (keywordEach kws X.env)).all (·.1.isSome) = true := by rfl) (hks : (backToKw pos (keywordEach kws X.env)).filterMap (·.1) = ks := by rfl) (hdb : (x == ("__debug__" : Str)) = false := by decide)
    (hpl : ((backTo pos (starEach [] X.env)).any (·.1) || (backToKw pos (keywordEach kws X.env)).any (·.1.isNone)) = false := by rfl) :
    EW X Wx (.Call (.Name x p) [] kws pos) (eCall 0 ks.length sel dws sp aNil tk) := ⟨fun pins s σ H Q I h => by
  obtain ⟨σw, G, xw, q, rs, rh, px, po, h⟩ := h
  refine wpAny_Call_Name_kw (ld_glob I hg hm ?_ hdb)
  refine PySem.W.callWith_KW0 (h₀ := X.base) I.ok.mod.kin hk hall ?_ hpl
  refine thn (hkw.run pos pins s σ H (fun zs H2 => ∃ wz G2, TX X.K H H2 ∧ RWs X.K H2 wz zs ∧ RH X.K G2 H2 ∧ wz.length = ks.length ∧ sp (pick sel [] wz dws) G2 q fun cls fs G3 => xw cls fs σw G3) I
    ⟨σw, G, xw, _, rs, rh, px, fun wz G2 zs H2 t2 r2 rh2 h2 => ⟨wz, G2, t2, r2, rh2, h2.2.1, h2.2.2⟩, h⟩) fun uz s2 ⟨zs, H2, I2, rz, wz, G2, t2, r2, rh2, hl, h2⟩ => ⟨I2.kIn, ?_⟩
  rw [hks]
  exact run_w (us := []) (wu := []) F hr hb tx I2 .nil rz .nil r2 rfl hl (rs.mono t2) rh2 (px.mono t2) (po.mono t2) h2⟩
/-! ### raise C(..), C an own class -/
/-- an exception's making: its class, its fields -/
abbrev MT := XW → SW → HW → (Value → List (Str × Wv) → HW → Prop) → Prop
def embMk (K : PySem.W.Frag) (Wx : WX) (t : MT) : L2.St → Hp → XK → Prop := fun σ H Q => ∃ σw G x q, RS K H σw σ ∧ RH K G H ∧ PostX K H Wx x ∧ (∀ cls d fs G' H', TX K H H' → RX K H' d fs → RH K G' H' → q cls fs G' → Q cls d H') ∧ t x σw G q
abbrev MkW (X : Cx) (Wx : WX) (e : Expr) (t : MT) : Prop := PMk X e (embMk X.K Wx t)
def sRaise (t : MT) : ST := fun D σ G => t D.ex σ G fun cls fs G1 => D.ex cls fs σ G1
theorem z_raise {t : MT} (hc : X.calm = true) (tk : Takes X Wx) (he : MkW X Wx e t) : TW X Wx (.Raise (some e) none pos) (sRaise t) :=
  ps_imp (ps_raise hc tk he) fun D σ H ⟨σw, G, d, rs, rh, sm, h⟩ => ⟨σw, G, d.ex, _, rs, rh, sm.ex, fun cls dd fs G' H' tx rx rh' hx => sm.ex cls dd fs σw G' σ H' tx rx (rs.mono tx) rh' hx, h⟩
end
end LF
/-! LF8: own errors made, caught, kept; lambdas -/
namespace LF
open PySem PySem.Spec PyProof.Rows L2
/-! ### a tuple of classes as a clause -/
section
variable {M : Model} {K : PySem.W.Frag}
theorem exc_loop1 {h : Heap} {cls : Value} (XI : K.In h) : ∀ {cs : List Value} {b : Bool}, PySem.W.exmAny K cls cs = some b → ∀ c ∈ cs, PySem.W.Looks M h (isExcClass c) true
  | [], _, _, c, hc => nomatch hc
  | c0 :: r, b, h0, c, hc => by
    obtain ⟨b1, d1, x1, y1, _⟩ := PySem.W.exmAny_cons h0
    rcases List.mem_cons.mp hc with e | e
    · rw [e]; exact (PySem.W.exm_cls XI x1).1
    · exact exc_loop1 XI y1 c e
/-- except (C1, C2, ..): the tuple's classes are asked one after the other -/
theorem exm_tupN {cls : Value} {tp e : Addr} {b : Bool} {h : Heap} {cs : List Value} (XI : K.In h) (LT : PySem.W.Looks M h (typeOf (.ref e)) cls) (hp : h.get? tp = some { cls := .type "tuple", data := .seq cs.toArray }) (hx : PySem.W.exmAny K cls cs = some b) :
    PySem.W.Looks M h (excMatches (.ref e) (.ref tp)) b := by
  intro A Q E s k₀ q
  obtain ⟨hh, g, d, tk, os⟩ := s
  have kk : ∀ b o, h.get? b = some o → hh.get? b = some o := k₀
  have T0 : PySem.W.Looks M h (isInstance (.ref tp) (.type "tuple")) true := ((PySem.W.Looks.ld hp).andThen .now).andThen (PySem.W.Looks.of_pure isSubtype_tuple_tuple)
  have hp' := kk _ _ hp
  unfold excMatches
  refine wpAny_bind ((T0.keeps kk).at ?_)
  dsimp only
  rw [if_pos rfl]
  first
    | refine wpAny_bind (wpAny_seqItems hp' rfl ?_)
    | refine wpAny_bind (wpAny_bind (wpAny_seqItems hp' rfl (wpAny_pure ?_)))
  dsimp only [Option.getD_some, Option.getD]
  have L1 := fun c hc => (exc_loop1 (M := M) XI hx c hc).keeps kk
  have one : ∀ (l : List Value) {Q : PUnit → Shared → Prop} {f : Value → PUnit → Sem (ForInStep PUnit)}, (∀ c ∈ l, ∀ {Q' : ForInStep PUnit → Shared → Prop}, Q' (.yield ⟨⟩) ⟨hh, g, d, tk, os⟩ → wpAny M A (f c ⟨⟩) Q' E ⟨hh, g, d, tk, os⟩) → Q ⟨⟩ ⟨hh, g, d, tk, os⟩ →
      wpAny M A (forIn l (⟨⟩ : PUnit) f) Q E ⟨hh, g, d, tk, os⟩ := by
    intro l
    induction l with
    | nil => intro Q f _ hq; rw [List.forIn_nil]; exact wpAny_pure hq
    | cons c l ih =>
      intro Q f hf hq
      rw [List.forIn_cons]
      exact wpAny_bind (hf c List.mem_cons_self (ih (fun c' hc' => hf c' (List.mem_cons_of_mem _ hc')) hq))
  refine wpAny_bind (wpAny_pure (wpAny_bind (one cs (fun c hc Q' hq => wpAny_bind ((L1 c hc).at ?_)) (wpAny_bind ((LT.keeps kk).at ?_))))) 
  · exact wpAny_pure hq
  have two : ∀ (l : List Value) (b : Bool) {Q : Option Bool × Unit → Shared → Prop} {f : Value → Option Bool × Unit → Sem (ForInStep (Option Bool × Unit))}, PySem.W.exmAny K cls l = some b →
      (∀ c v, PySem.W.exmOne K cls c = some v → ∀ z {Q' : ForInStep (Option Bool × Unit) → Shared → Prop}, Q' (if v = true then .done (some true, ()) else .yield (none, ())) ⟨hh, g, d, tk, os⟩ → wpAny M A (f c z) Q' E ⟨hh, g, d, tk, os⟩) →
      Q (if b = true then some true else none, ()) ⟨hh, g, d, tk, os⟩ → wpAny M A (forIn l ((none, ()) : Option Bool × Unit) f) Q E ⟨hh, g, d, tk, os⟩ := by
    intro l
    induction l with
    | nil =>
      intro b Q f h0 _ hq
      cases (show some false = some b from h0)
      rw [List.forIn_nil]
      exact wpAny_pure hq
    | cons c l ih =>
      intro b Q f h0 hf hq
      obtain ⟨b1, d1, x1, y1, z1⟩ := PySem.W.exmAny_cons h0
      subst z1
      rw [List.forIn_cons]
      refine wpAny_bind (hf c b1 x1 _ ?_)
      cases b1 with
      | true => exact wpAny_pure hq
      | false => exact ih d1 y1 hf hq
  refine wpAny_bind (two cs b hx (fun c v hv z Q' hq => wpAny_bind ((((PySem.W.exm_cls (M := M) XI hv).2).keeps kk).at ?_)) ?_)
  · cases v <;> exact wpAny_pure hq
  · cases b <;> exact wpAny_pure q
end
/-! ### the caught error is kept -/
section
variable {X : Cx} {pins : List (Addr × Obj)} {σ : L2.St} {H : Hp} {s : Shared}
theorem xc_ok {P : Program} {w : World} {H : Hp} {h : Heap} {a : Addr} {cls : Value} {d : Option Addr} {oe : Obj} {vs : Array Value} (e : h.get? a = some oe) (z : Zc cls d oe) (hd : oe.data = .fields vs) : ObjOk P w H h a (XcO a cls d) :=
  ⟨⟨oe, vs, e, z, hd⟩, ⟨oe, e⟩, fun h1 h2 ⟨o1, v1, e1, z1, d1⟩ st => ⟨o1, v1, st _ e1, z1, d1⟩⟩
/-- from now on it is known what stands at a -/
theorem inv_adopt {a : Addr} {o : HO} (I : Inv X pins σ H s) (na : H a = none) (new : ∀ ob, X.s_0.heap.get? a ≠ some ob) (nL : a ≠ X.env.locals) (nC : ∀ x, X.env.cells.lookup x ≠ some a) (nP : ∀ p ∈ X.pn ++ pins, p.1 ≠ a)
    (ho : ∀ H' : Hp, ObjOk X.prog X.w H' s.heap a o) : Inv X pins σ (upd H a o) s := by
  have nH : ∀ b u, H b = some u → b ≠ a := fun b u e => ne_of_none e na
  refine ⟨I.ok, I.os, I.bare, ⟨I.base.keep, I.base.slot, fun b ob e n hx => ?_, I.base.there, fun b xs e => ?_, fun b ob xs e => ?_, fun b ps e => ?_⟩, I.loc, I.cell, ?_, fun x c e => ?_, fun p hp => ?_, fun b u e => ?_, I.len⟩
  · have hb : b ≠ a := fun z => new ob (by rw [← z]; exact e)
    rw [upd_ne hb]; exact I.base.free b ob e n hx
  · have z := I.base.tups b xs e
    rw [upd_ne (nH _ _ z)]; exact z
  · have z := I.base.frzs b ob xs e
    rw [upd_ne (nH _ _ z)]; exact z
  · obtain ⟨more, z⟩ := I.base.tbls b ps e
    exact ⟨more, by rw [upd_ne (nH _ _ z)]; exact z⟩
  · rw [upd_ne (Ne.symm nL)]; exact I.free
  · have hb : c ≠ a := fun z => nC x (by rw [← z]; exact e)
    rw [upd_ne hb]; exact I.freeC x c e
  · obtain ⟨e1, e2, e3, e4, e5⟩ := I.pin p hp
    exact ⟨e1, by rw [upd_ne (nP p hp)]; exact e2, e3, e4, e5⟩
  · by_cases hb : b = a
    · rw [hb, upd_same] at e
      cases e
      rw [hb]
      exact ho _
    · rw [upd_ne hb] at e
      exact (I.hok b u e).stay (fun _ _ _ q => q) (fun c q => by rw [upd_ne (nH _ _ q)]; exact q) fun c xs q => by rw [upd_ne (nH _ _ q)]; exact q
end
theorem fly_kept {B h h' : Heap} {l : List Env} {e : Addr} {Z : Obj → Prop} (x : HandSPX.FlyingZ B l e Z h) (k : ∀ b o, h.get? b = some o → h'.get? b = some o) : HandSPX.FlyingZ B l e Z h' := by
  obtain ⟨x1, x2, x3, oe, vs, T, oT, ts, y1, y2, y3, y4, y5, y6, y7, y8, y9⟩ := x
  exact ⟨fun b o q => k b o (x1 b o q), x2, Heap.FunFrames.of_keeps (fun b o q _ => ⟨o, k b o q, rfl⟩) x3, oe, vs, T, oT, ts, k _ _ y1, y2, y3, y4, y5, y6, k _ _ y7, y8, y9⟩
/-- names of classes -/
inductive NamesT (X : Cx) : List Expr → List Value → Prop
  | nil : NamesT X [] []
  | cons {x : Str} {p : Pos} {c : Value} {es : List Expr} {cs : List Value} (h : Names X x c) (r : NamesT X es cs) : NamesT X (.Name x p :: es) (c :: cs)
theorem names_run {X Y : Cx} {pins : List (Addr × Obj)} {σ : L2.St} {H : Hp} {s : Shared} {E : Value → Shared → Prop} (hp : Y.prog = X.prog) (hw : Y.w = X.w) (hm : Y.mg = X.mg) (he : Y.env = X.env) (I : Inv Y pins σ H s) {pos : Pos} : ∀ {es : List Expr} {cs : List Value}, NamesT X es cs →
    ∀ {Q : List Value → Shared → Prop}, Q cs s → wpAny (model X.prog X.w) Y.A (spliced (backTo pos (starEach es X.env))) Q E s
  | _, _, .nil, Q, q => Calls.spliced_nil q
  | _, _, .cons (x := x) (p := p) (c := c) (es := es) h r, Q, q => by
    refine args_cons ?_
    have goal : wpAny (model Y.prog Y.w) Y.A (eval (.Name x p) Y.env) (fun v s₁ => wpAny (model X.prog X.w) Y.A (spliced (backTo pos (starEach es X.env))) (fun vs s₂ => Q (v :: vs) s₂) E s₁) E s := by
      obtain ⟨hg, hdbg, h1 | ⟨h1, hv, hnn⟩⟩ := h
      · exact ld_glob I (by unfold Gl at hg ⊢; rw [he]; exact hg) (by rw [hm]; exact h1) (names_run hp hw hm he I r q) hdbg
      · exact ld_blt I (by unfold Gl at hg ⊢; rw [he]; exact hg) (by rw [hm]; exact h1) hv (names_run hp hw hm he I r q) hnn hdbg
    rw [hp, hw, he] at goal
    exact goal
end LF
/-! LF9: try: body / except (C1, C2, ..) as n: suite, the error kept -/
namespace LF
open PySem PySem.Spec PyProof.Rows L2
/-- slot i is n's -/
def dAs (i : Nat) (a : Addr) (cls : Value) (d : Option Addr) (D : Ends) : Ends := { nx := fun σ' H' => H' a = none → D.nx (σ'.set i none) (upd H' a (XcO a cls d)), rt := D.rt, bk := fun σ' H' => D.bk (σ'.set i none) H', ct := fun σ' H' => D.ct (σ'.set i none) H' }
def wTup (K : PySem.W.Frag) (cs : List Value) (i : Nat) (ts : Addr → Value → Option Addr → TS) (Wout : WX) (D : Ends) : WX := fun cls d σ H =>
  ∃ b, PySem.W.exmAny K cls cs = some b ∧ (b = true → ∀ a, H a = none → ts a cls d (dAs i a cls d D) (σ.set i (some (.ref a))) H) ∧ (b = false → Wout cls d σ H)
section
variable {X : Cx} {n : Str} {cs : List Value} {es : List Expr} {i : Nat} {body suite : List Stmt} {b₀ : Stmt} {x1 : Nat} {np pos pos' : Pos} {tb : WX → TS} {ts : Addr → Value → Option Addr → TS} {Wout : WX}
theorem ps_try_tup (hs : X.stack = X.env :: X.outer) (hf : X.env.frame = some X.env.locals) (hex : X.ex = []) (hN : X.N.Nodup) (hi : X.N[i]? = some n) (hln : X.env.kindOf n = some .local) (hc : NamesT X es cs) (hsz : cs.length ≤ sizeLine) (tk : Takes X Wout)
    (hb : ∀ (W : WX) (pn : List (Addr × Obj)) (xe : Value → Shared → Prop), Takes (X.tr pn xe) W → PassesOwn (model X.prog X.w) X.A X.env xe → PSs (X.tr pn xe) body (tb W))
    (hsu : ∀ (a : Addr) (oe : Obj) (cls : Value) (d : Option Addr) (pn : List (Addr × Obj)), PSs (X.suite a ((a, oe) :: pn)) (b₀ :: suite) (ts a cls d)) :
    PS X (.Try body [.ExceptHandler (some (.Tuple es x1 np)) (some n) (b₀ :: suite) pos'] [] [] pos) (fun D σ H => tb (wTup X.K cs i ts Wout D) D σ H) := by
  refine ⟨fun pins s σ H D I hq0 => ?_⟩
  have OK := I.ok
  have FR : X.A.frames = some (X.env :: X.outer) := by rw [OK.frames, hs]
  have locn : Loc X.env.scope n := .inl hln
  have lenT : ∀ {l : List Expr} {c : List Value}, NamesT X l c → True := fun _ => trivial
  refine wpAny_Try_except ?_
  refine wpAny_mono ((hb (wTup X.K cs i ts Wout D) (X.pn ++ pins) (fun e u1 => wpAny (model X.prog X.w) X.A (noteFrame e X.env) (fun _ u2 => wpAny (model X.prog X.w) X.A (setFlight e none) (fun _ u3 =>
    wpAny (model X.prog X.w) X.A (handleBy e X.env [.ExceptHandler (some (.Tuple es x1 np)) (some n) (b₀ :: suite) pos']) (SP X pins D) X.xe u3) X.xe u2) X.xe u1) (fun u s' xx => ?_) PassesOwn.looking).run [] s σ H D (I.toTry _) hq0) (fun f s1 hsp => ?_) (fun e s1 he => he)
  · obtain ⟨a, B, sI, pinsT, σ', H', cls, d, rfl, JT, nb, up, sky, na, os, ag, b, hb1, hyes, hno⟩ := xx
    have J0 : Inv X pins σ' H' sI := JT.ofTry OK
    have skyE : Sky B (X.env :: X.outer) a (Zc cls d) X.env.locals s'.heap := by rw [← hs]; exact sky
    show wpAny (model X.prog X.w) X.A (noteFrame (.ref a) X.env) _ _ _
    refine Sky.land Zc.steady FR hf skyE fun h3 fl3 up3 => ?_
    have J3 : Inv X pins σ' H' { s' with heap := h3 } := J0.landed nb fl3.1 (up.trans up3) os ag
    obtain ⟨oe3, vs3, he3, hz3, hd3⟩ := fl3.there
    have nofr : ∀ {h : Heap} {o : Obj} {vs : Array Value}, h.FunFrames B (X.env :: X.outer) → h.get? a = some o → o.data = .fields vs → a ∉ frs (X.env :: X.outer) := fun {h o vs} ff e dd hm => by
      obtain ⟨_, o', e', hnf⟩ := ff.mem hm
      rw [e] at e'; cases e'; exact hnf _ dd
    have nfa := nofr fl3.2.2.1 he3 hd3
    have nL : a ≠ X.env.locals := fun z => nfa (List.mem_filterMap.mpr ⟨X.env, List.mem_cons_self, by rw [hf, z]⟩)
    have nF : a ∉ X.fs := fun hm => by
      obtain ⟨e, he, q⟩ := List.mem_filterMap.mp hm
      exact nfa (List.mem_filterMap.mpr ⟨e, List.mem_cons_of_mem _ he, q⟩)
    have notB : B.get? a = none := fl3.2.1
    have notI : ∀ ob, sI.heap.get? a ≠ some ob := fun ob z => by
      have z2 := nb a ob z (by rw [hs]; exact nfa)
      rw [notB] at z2; cases z2
    have new0 : ∀ ob, X.s_0.heap.get? a ≠ some ob := fun ob z => by
      obtain ⟨o', e1⟩ := J0.base.there a ob z (by rw [hex]; exact fun m => nomatch m)
      exact notI o' e1
    have nPin : ∀ p ∈ X.pn ++ pins, p.1 ≠ a := fun p hp z => by
      obtain ⟨e1, _⟩ := J0.pin p hp
      rw [z] at e1
      exact notI _ e1
    have nCell : ∀ x, X.env.cells.lookup x ≠ some a := fun x z => by
      obtain ⟨v, o, e1, _⟩ := J0.cell x a z
      exact notI o e1
    have S3 := J3.suite he3 hd3 na nL nF
    refine wpAny_handleBy_cons (codeAny_handlers_test ?_) (by intro q; cases q)
    refine wpAny_Tuple_spliced (names_run (X := X) (Y := X.suite a ((a, oe3) :: (X.pn ++ pins))) rfl rfl rfl rfl S3 hc ⟨hsz, ?_⟩)
    have keep5 : ∀ b o, h3.get? b = some o → (h3.push { cls := .type "tuple", data := .seq cs.toArray }).get? b = some o := fun b o e => Heap.get?_push_of_some _ e
    have fl5 := fly_kept fl3 keep5
    have J5 : Inv X pins σ' H' { s' with heap := h3.push { cls := .type "tuple", data := .seq cs.toArray } } := J3.kept (t' := s'.toks) keep5
    have he5 := keep5 _ _ he3
    have LT : PySem.W.Looks (model X.prog X.w) (h3.push { cls := .type "tuple", data := .seq cs.toArray }) (typeOf (.ref a)) cls := fun A Q E s k q => wpAny_typeOf_ref (k _ _ he5) (by rw [hz3.1]; exact q)
    refine (exm_tupN (M := model X.prog X.w) J5.kIn LT (Heap.get?_push_size _ rfl) hb1).here ?_
    cases b with
    | true =>
      refine codeAny_handlers_suite_as ?_
      refine HandSPX.lands_againZ fl5 fun h4 fl4 up4 => ?_
      have J4 : Inv X pins σ' H' { s' with heap := h4 } := J0.landed nb fl4.1 ((up.trans up3).trans ((Heap.UpToSlots.of_keeps keep5).trans up4)) os ag
      obtain ⟨oe4, vs4, he4, hz4, hd4⟩ := fl4.there
      have S4 := J4.suite he4 hd4 na nL nF
      refine store_ok (X := X.suite a ((a, oe4) :: (X.pn ++ pins))) (v := .ref a) S4 hN hi locn rfl (fun s5 S5 => ?_) (.inr hln)
      refine wpAny_mono ((hsu a oe4 cls d (X.pn ++ pins)).run [] s5 _ H' _ S5 (hyes rfl a na)) (fun f s6 hsp => ?_) (fun _ _ z => False.elim z)
      have fin : ∀ {σ6 : L2.St} {H6 : Hp} {Q : Shared → Prop}, Inv (X.suite a ((a, oe4) :: (X.pn ++ pins))) [] σ6 H6 s6 → (∀ s7, Inv X pins (σ6.set i none) H6 s7 → Q s7) →
          wpAny (model X.prog X.w) X.A (do bindName X.env n .none; unbindBehindTheSuite X.env n pos') (fun _ s7 => Q s7) X.xe s6 := fun {σ6 H6 Q} S6 hq => gone_ok (S6.unsuite OK) hN hi hln hq
      cases f with
      | next =>
        obtain ⟨σ6, H6, S6, q6⟩ := hsp
        obtain ⟨e1, e2, _⟩ := S6.pin (a, oe4) (List.mem_append_left _ List.mem_cons_self)
        have J6 : Inv X pins σ6 (upd H6 a (XcO a cls d)) s6 := inv_adopt (S6.unsuite OK) e2 new0 nL nCell nPin fun _ => xc_ok e1 hz4 hd4
        exact gone_ok J6 hN hi hln fun s7 J7 => ⟨_, _, J7, q6 e2⟩
      | brk =>
        obtain ⟨σ6, H6, S6, q6⟩ := hsp
        exact fin S6 fun s7 J7 => ⟨_, _, J7, q6⟩
      | cont =>
        obtain ⟨σ6, H6, S6, q6⟩ := hsp
        exact fin S6 fun s7 J7 => ⟨_, _, J7, q6⟩
      | ret u =>
        obtain ⟨v6, σ6, H6, S6, r6, q6⟩ := hsp
        exact fin S6 fun s7 J7 => ⟨_, _, _, J7, r6, q6⟩
    | false =>
      show wpAny _ X.A (handleBy (.ref a) X.env []) _ _ _
      refine wpAny_handleBy_nil ?_
      obtain ⟨k1, k2, k3, oe, vs, T, oT, ts', he, hz, hd, h1, hr⟩ := id fl5
      unfold PySem.passOn
      refine wpAny_bind (wpAny_field he hd h1 ?_)
      rw [if_neg (show ¬ ((Value.ref T == Value.none) = true) from by simp)]
      have fin : wpAny (model X.prog X.w) X.A (setFlight (.ref a) X.env.frame) (fun _ s4 => wpAny (model X.prog X.w) X.A (throw (.ref a) : Sem Flow) (SP X pins D) X.xe s4) X.xe { s' with heap := h3.push { cls := .type "tuple", data := .seq cs.toArray } } := by
        rw [hf]
        refine HandSPX.setFlight_upZ fl5 fun h4 hh4 up4 => wpAny_throw (tk _ _ ?_)
        exact ⟨a, B, sI, pins, σ', H', cls, d, rfl, J0, nb, (up.trans up3).trans ((Heap.UpToSlots.of_keeps keep5).trans up4), .inr (.inr (by rw [hs]; exact hh4)), na, os, ag, hno rfl⟩
      first
        | exact wpAny_bind (wpAny_pure (wpAny_bind fin))
        | exact wpAny_bind fin
  · cases f with
    | next =>
      obtain ⟨σ', H', J', q⟩ := hsp
      exact wpAny_execs_nil ⟨σ', H', J'.ofTry OK, q⟩
    | brk =>
      obtain ⟨σ', H', J', q⟩ := hsp
      exact ⟨σ', H', J'.ofTry OK, q⟩
    | cont =>
      obtain ⟨σ', H', J', q⟩ := hsp
      exact ⟨σ', H', J'.ofTry OK, q⟩
    | ret u =>
      obtain ⟨v, σ', H', J', r, q⟩ := hsp
      exact ⟨v, σ', H', J'.ofTry OK, r, q⟩
end
/-! ### the same over trees -/
theorem RS.unset {K : PySem.W.Frag} {H : Hp} : ∀ {a : SW} {b : L2.St} (n : Nat), RS K H a b → RS K H (a.set n Option.none) (b.set n Option.none)
  | _, _, _, .nil => .nil
  | _, _, 0, .cons _ b => .cons trivial b
  | _, _, n + 1, .cons a b => .cons a (RS.unset n b)
/-- try: tb / except one of cs as slot i: ts; the error stands kept -/
def sTry (K : PySem.W.Frag) (cs : List Value) (i : Nat) (tb ts : ST) : ST := fun D σ G => tb { D with ex := fun cls fs σ1 G1 => ∃ b, PySem.W.exmAny K cls cs = some b ∧
  (b = true → ∀ a, G1 a = none → ts { nx := fun σ2 G2 => D.nx (σ2.set i none) (updO G2 a (.exc a cls fs)), rt := D.rt, bk := fun σ2 G2 => D.bk (σ2.set i none) G2, ct := fun σ2 G2 => D.ct (σ2.set i none) G2, ex := fun _ _ _ _ => False } (σ1.set i (some (.ref a))) G1) ∧
  (b = false → D.ex cls fs σ1 G1) } σ G
section
variable {X : Cx} {Wx : WX} {n : Str} {cs : List Value} {es : List Expr} {i : Nat} {body suite : List Stmt} {b₀ : Stmt} {x1 : Nat} {np pos pos' : Pos} {tb ts : ST}
theorem z_try (hs : X.stack = X.env :: X.outer) (hf : X.env.frame = some X.env.locals) (hex : X.ex = []) (hN : X.N.Nodup) (hi : X.N[i]? = some n) (hln : X.env.kindOf n = some .local) (hc : NamesT X es cs) (hsz : cs.length ≤ sizeLine) (tk : Takes X Wx)
    (hb : ∀ (W : WX) (pn : List (Addr × Obj)) (xe : Value → Shared → Prop), Takes (X.tr pn xe) W → PassesOwn (model X.prog X.w) X.A X.env xe → TWs (X.tr pn xe) W body tb)
    (hsu : ∀ (a : Addr) (pn : List (Addr × Obj)), TWs (X.suite a pn) W0 (b₀ :: suite) ts) : TW X Wx (.Try body [.ExceptHandler (some (.Tuple es x1 np)) (some n) (b₀ :: suite) pos'] [] [] pos) (sTry X.K cs i tb ts) :=
  ps_imp (ps_try_tup (tb := fun W => embS X.K W tb) (ts := fun _ _ _ => embS X.K W0 ts) hs hf hex hN hi hln hc hsz tk (fun W pn xe => hb W pn xe) fun a oe cls d pn => hsu a _) fun D σ H ⟨σw, G, d, rs, rh, sm, h⟩ => by
    unfold sTry at h
    refine ⟨σw, G, _, rs, rh, ?_, h⟩
    refine { nx := sm.nx, rt := sm.rt, bk := sm.bk, ct := sm.ct, ex := ?_ }
    intro cls dd fs σw1 G1 σ1 H1 tx rx rs1 rh1 ⟨b, e, hy, hn⟩
    refine ⟨b, e, fun hb a na => ⟨_, G1, _, rs1.set (w := .ref a) (.ref a) i, rh1, ?_, hy hb a (rh1.fresh na)⟩, fun hb => sm.ex cls dd fs σw1 G1 σ1 H1 tx rx rs1 rh1 (hn hb)⟩
    have st := sm.mono tx
    refine { nx := fun σw2 G2 σ2 H2 t2 rs2 rh2 q2 n2 => ?_, rt := st.rt, bk := fun σw2 G2 σ2 H2 t2 rs2 rh2 q2 => st.bk _ _ _ _ t2 (rs2.unset i) rh2 q2, ct := fun σw2 G2 σ2 H2 t2 rs2 rh2 q2 => st.ct _ _ _ _ t2 (rs2.unset i) rh2 q2, ex := fun _ _ _ _ _ _ _ _ _ _ _ z => z.elim }
    have tn : TX X.K H2 (upd H2 a (XcO a cls dd)) := TX.new n2
    exact st.nx _ _ _ _ (t2.trans tn) ((rs2.unset i).mono tn) (rh2.new (o := .exc a cls fs) n2 ⟨dd, rfl, (rx.mono t2).mono tn⟩) q2
end
end LF
/-! LF10: a kept error's field; own errors with one field made -/
namespace LF
open PySem PySem.Spec PyProof.Rows L2
theorem RKs.lkp {K : PySem.W.Frag} {H : Hp} {f : Str} : ∀ {xs : List (Str × Wv)} {ys : List (Str × V)} {w : Wv}, RKs K H xs ys → xs.lookup f = some w → ∃ v, ys.lookup f = some v ∧ RW K H w v
  | _, _, _, .nil, e => nomatch e
  | (g, w0) :: xs, (g', v0) :: ys, w, .cons h t, e => by
    obtain ⟨h1, h2⟩ := h
    cases (show g = g' from h1)
    by_cases q : f = g
    · subst q
      simp [List.lookup] at e
      subst e
      exact ⟨v0, by simp [List.lookup], h2⟩
    · have z : (f == g) = false := by simpa using q
      simp [List.lookup, z] at e ⊢
      exact RKs.lkp t e
section
variable {X : Cx} {Wx : WX} {e o : Expr} {te : ET} {f : Str} {pos : Pos}
/-- e.f, e a kept error -/
def eXf (K : PySem.W.Frag) (f : Str) (te : ET) : ET := fun x σ G q => te x σ G fun w G1 => match w with
  | .ref a => ∃ (C : Addr) (fs : List (Str × Wv)) (y : Wv), G1 a = some (.exc a (.ref C) fs) ∧ XfC K C ∧ PySem.W.findIn K (.ref C) f = some none ∧ fs.lookup f = some y ∧ q y G1
  | _ => False
end
/-! ### an error's making -/
/-- def __init__(self, y): self.f = y -/
def SpI (K : PySem.W.Frag) (f : Str) : Sp := fun vs H Q _ => ∃ (a C : Addr) (y : V), vs = [.ref a, y] ∧ OexC K C ∧ PySem.W.findIn K (.ref C) f = some none ∧ H a = some (exo a C none) ∧
  ∀ dx, H dx = none → dx ≠ a → Q .non (upd (upd H dx (exd dx [(f, y)])) a (exo a C (some dx)))
theorem init1 {P : Program} {w : World} {K : PySem.W.Frag} {mg : Str → Option Value} {base : Heap} {x qual f sf y : Str} {params : Arguments} {scope : Scope} {fI : Addr} {fd : FuncData} {p1 p2 p3 p4 : Pos} {kws : List (Str × V)} {dvs : List V} {k : Nat}
    (F : FunD K x qual params [.Assign [.Attribute (.Name sf p1) f p2] (.Name y p3) p4] scope dvs kws fI fd) (S : FnScope [sf, y] [sf, y] scope) (v1 : Vis scope sf) (v2 : Vis scope y)
    (d1 : (sf == ("__debug__" : Str)) = false) (d2 : (sf == ("__classdict__" : Str)) = false) (d3 : (y == ("__debug__" : Str)) = false) (d4 : (y == ("__classdict__" : Str)) = false)
    (hsw : ∀ env : Env, swapsWith (.Name y p3) (some (.Attribute (.Name sf p1) f p2)) p4.line env = pure false) : FnOk P w K mg base (L2.CX P w) (k + 1) fI fd [sf, y] (SpI K f) :=
  F.ok S (fun vs H Q E ⟨a, C, v, e, _⟩ => by rw [e]; rfl) fun cdv A outer s H vs Q E hr ⟨a, C, v, e, T, hno, ea, q⟩ =>
    ⟨_, pss_one (ps_ost (pe_var (i := 0) (x := sf) rfl v1 d1 d2) (pe_var (i := 1) (x := y) rfl v2 d3 d4) (hsw _)), by
      subst e
      exact ⟨v, rfl, .ref a, rfl, a, C, rfl, T, hno, .inl ⟨ea, q⟩⟩⟩
section
variable {X : Cx} {Wx : WX} {x f : Str} {C fI : Addr} {k : Nat} {fd : FuncData} {ps : List Str} {e : Expr} {te : ET} {p pos : Pos}
def mk1 (C : Addr) (f : Str) (te : ET) : MT := fun x σ G q => te x σ G fun w G1 => q (.ref C) [(f, w)] G1
theorem z_mk1 (T : OexC X.K C) (iC : PySem.W.findIn X.K (.ref C) "__init__" = some (some (.ref fI))) (tI : PySem.W.typeIn X.K (.ref fI) = some (.type "function")) (hno : PySem.W.findIn X.K (.ref C) f = some none)
    (F1 : FnOk X.prog X.w X.K X.mg X.base (L2.CX X.prog X.w) k fI fd ps (SpI X.K f)) (hr : Room (k + 1) X.A) (hb : Binds X.K fd ps []) (tk : Takes X Wx) (hg : Gl X x) (hm : X.mg x = some (.ref C)) (he : EW X Wx e te)
    (hdb : (x == ("__debug__" : Str)) = false := by decide) (hs : starEach [e] X.env = (false, eval e X.env) :: starEach [] X.env := by rfl) (hpl : (backTo pos (starEach [] X.env)).any (·.1) = false := by rfl) :
    MkW X Wx (.Call (.Name x p) [e] [] pos) (mk1 C f te) := by
  intro pins s σ H Q I ⟨σw, G, xw, q, rs, rh, px, po, h⟩
  refine pmk_oex T iC tI F1 hr hb .nil (passes_call (E := fun _ _ _ => False) tk fun _ _ _ _ z => z.elim) hg hm (pa_cons he pa_nil hs) hdb hs hpl pins s σ H Q I ?_
  refine ⟨σw, G, xw, _, rs, rh, px, fun w G1 v H1 t1 r1 rh1 h1 => ?_, h⟩
  refine ⟨by simp, fun a na => ⟨a, C, v, by simp, T, hno, upd_same, fun dx n1 n2 => ⟨rfl, dx, [(f, v)], upd_same, ?_, ?_, ?_⟩⟩⟩
  · rw [upd_ne n2, upd_same]
  · rw [upd_ne n2] at n1; exact n1
  · have n3 : H1 dx = none := by rw [upd_ne n2] at n1; exact n1
    have eH : upd (del (upd (upd (upd H1 a (exo a C none)) dx (exd dx [(f, v)])) a (exo a C (some dx))) a) dx (.xd [(f, v)]) = upd H1 dx (.xd [(f, v)]) := by
      funext b
      by_cases hb : b = dx
      · subst hb; rw [upd_same, upd_same]
      · rw [upd_ne hb, upd_ne hb]
        by_cases ha : b = a
        · subst ha; rw [del_same, na]
        · rw [del_ne ha, upd_ne ha, upd_ne hb, upd_ne ha]
    rw [eH]
    have tn : TX X.K H1 (upd H1 dx (.xd [(f, v)])) := TX.new n3
    exact po (.ref C) (some dx) [(f, w)] G1 _ (t1.trans tn) ⟨[(f, v)], upd_same, .cons ⟨rfl, r1.mono tn⟩ .nil⟩ (rh1.kept n3) h1
end
end LF
/-! LF11: lambdas without parameters, handed to a def -/
namespace LF
open PySem PySem.Spec PyProof.Rows L2 LamX
section
variable {X : Cx} {pins : List (Addr × Obj)} {σ : L2.St} {H : Hp} {s : Shared}
/-- a lambda is made: all that is tracked stays but the table at P, which goes on telling codes of the name q -/
theorem lam_made {c P : Addr} {params : Arguments} {body : Expr} {scope : Scope} {pos : Pos} {E : Value → Shared → Prop} {Q : Value → Shared → Prop} {q : Str} {ps : Array Value} (eq : X.env.qual ++ "<lambda>" = q) (I : Inv X pins σ H s) (TB : TabB X.base X.mg c P) (hcode : X.env.code = .ref c)
    (hP : H P = some (.tbl ps)) (ht : TriplesOk ps.toList) (ha : ∀ (pos : Pos) (cv : Value), codeAmong pos ps.toList = some cv → ∃ c, cv = .ref c ∧ H c = some (CodeO c q)) (hdef : defaultsOf params X.env = ([], [])) (hfree : ∀ y ∈ scope.names, y.2 = .free → ∃ c, X.env.cells.lookup y.1 = some c)
    (h : ∀ (f c' : Addr) (pm ctv : Value) (H1 : Hp) (s' : Shared), Inv X pins σ H1 s' → (∀ b o, b ≠ P → H b = some o → H1 b = some o) → (∃ u, H1 P = some u ∧ RO X.K H1 (.tab q) u) →
      s'.heap.get? f = some (PySem.W.kla_obj "<lambda>" q params body scope (cloFrom X.env.cells scope.names []) pm c' ctv) → H1 f = none → f ∉ frs X.stack → H1 c' = some (CodeO c' q) → Q (.ref f) s') : wpAny (model X.prog X.w) X.A (eval (.Lambda params body scope pos) X.env) Q E s := by
  subst eq
  refine PySem.W.kla_eval hdef ?_
  have bP := TB.bm.keeps I.bk
  have gP : s.heap.get? P = some { cls := .none, data := .fields ps } := I.hok P _ hP
  have nofr : ∀ f, s.heap.objs.size ≤ f → f ∉ frs X.stack := fun f hf z => (List.mem_cons.mp (I.stkSub _ z)).elim (fun e => by
    have h1 := I.lt
    rw [← e] at h1
    exact Nat.lt_irrefl _ (Nat.lt_of_lt_of_le h1 hf)) fun e => I.nofs hf e
  cases hc : codeAmong pos ps.toList with
  | some cv =>
    obtain ⟨c', e, hco⟩ := ha pos cv hc
    subst e
    refine PySem.W.kla_makeFunctionHit (mg := X.mg) (c := c) (P := P) (ps := ps) (closure_ok hfree) I.ok.glob (I.mod.glob.keeps I.bk) hcode (TB.code.keeps I.bk) gP ht hc bP fun ctv h' tk hx hsz => ?_
    have I1 := I.kept (t' := tk) (h' := h'.push (PySem.W.kla_obj "<lambda>" (X.env.qual ++ "<lambda>") params body scope (cloFrom X.env.cells scope.names []) ((X.mg "__name__").getD .none) c' ctv)) fun b o e => Heap.get?_push_of_some _ (hx b o e)
    exact h h'.objs.size c' _ ctv H _ I1 (fun _ _ _ z => z) ⟨_, hP, ps, rfl, ht, ha⟩ (Heap.get?_push_size _ rfl) (I.hok.fresh hsz) (nofr _ hsz) hco
  | none =>
    refine PySem.W.kla_makeFunction (mg := X.mg) (c := c) (P := P) (ps := ps) (closure_ok hfree) I.ok.glob (I.mod.glob.keeps I.bk) hcode (TB.code.keeps I.bk) gP ht hc TB.gP bP fun c' ctv h' tk hx hge hlt hrec htb => ?_
    obtain ⟨c2, oc, vs, t, e2, hoc, hd, hv⟩ := hrec
    cases e2
    have hsz := Nat.le_trans hge (Nat.le_of_lt hlt)
    have nC : H c' = none := I.hok.fresh hge
    have nPc := ne_of_none hP nC
    have I1 := inv_table (t' := tk) (more := #[rawInt pos.line, rawInt pos.col, .ref c']) (h' := h'.push (PySem.W.kla_obj "<lambda>" (X.env.qual ++ "<lambda>") params body scope (cloFrom X.env.cells scope.names []) ((X.mg "__name__").getD .none) c' ctv)) I hP
      (fun b o hb e => Heap.get?_push_of_some _ (hx b o hb e)) (Heap.get?_push_of_some _ htb) hge ⟨oc, vs, t, Heap.get?_push_of_some _ hoc, hd, hv⟩
    have kept : ∀ b o, b ≠ P → H b = some o → upd (upd H P (.tbl (ps ++ #[rawInt pos.line, rawInt pos.col, .ref c']))) c' (CodeO c' (X.env.qual ++ "<lambda>")) b = some o := fun b o hb e => by rw [upd_ne (ne_of_none e nC), upd_ne hb]; exact e
    refine h h'.objs.size c' _ ctv _ _ I1 kept ⟨_, by rw [upd_ne nPc, upd_same], ps ++ #[rawInt pos.line, rawInt pos.col, .ref c'], rfl, ?_, fun p' cv hcv => ?_⟩ (Heap.get?_push_size _ rfl) ?_ (nofr _ hsz) upd_same
    · rw [show (ps ++ #[rawInt pos.line, rawInt pos.col, .ref c']).toList = ps.toList ++ [rawInt pos.line, rawInt pos.col, .ref c'] from by simp]; exact PySem.TriplesOk_snoc _ _ _ _ ht
    · rw [show (ps ++ #[rawInt pos.line, rawInt pos.col, .ref c']).toList = ps.toList ++ [rawInt pos.line, rawInt pos.col, .ref c'] from by simp] at hcv
      rcases among_app _ ht hcv with z | z
      · obtain ⟨c0, e1, e2⟩ := ha p' cv z
        exact ⟨c0, e1, kept _ _ (fun z => by rw [z, hP] at e2; exact codeO_ne _ (Option.some.inj e2).symm) e2⟩
      · exact ⟨c', z, upd_same⟩
    · rw [upd_ne (Nat.ne_of_gt hlt), upd_ne (Nat.ne_of_gt (Nat.lt_of_lt_of_le (Heap.lt_size gP) hsz))]
      exact I.hok.fresh hsz
end
/-! ### what a lambda does, told to the def that gets it -/
abbrev TlT := XE → HW → WK → Prop
abbrev SpT := TlT → HW → WK → XE → Prop
/-- a(), slot i holding the lambda f -/
def eDeed (i : Nat) (f : Addr) (HL : Hp) (tl : TlT) : ET := fun x σ G q => σ[i]? = some (some (.fn f HL)) ∧ tl (fun cls fs G1 => x cls fs σ G1) G q
/-- the reading of a lambda's body, at its maker's slots -/
def tlOf (tb : ET) (σ : SW) : TlT := fun xe G q => tb (fun cls fs _ G1 => xe cls fs G1) σ G q
section
variable {X : Cx} {pins : List (Addr × Obj)} {σ : L2.St} {H : Hp} {s : Shared}
theorem act_w {CXg : CXT} {Eg : XK} {Ng : List Str} {qg : Str} {sg : Scope} {g f c' : Addr} {cdg pm ctv : Value} {params : Arguments} {body : Expr} {scope : Scope} {k i : Nat} {a : Str} {pn : List (Addr × Obj)} {xe : Value → Shared → Prop} {W : WX} {tb : ET} {p1 p2 : Pos} {σw : SW} {q : Str} (eq : X.env.qual ++ "<lambda>" = q)
    (I : Inv X pins σ H s) (rs : RS X.K H σw σ) (L : LamS X.env.scope scope) (hf : s.heap.get? f = some (PySem.W.kla_obj "<lambda>" q params body scope (cloFrom X.env.cells scope.names []) pm c' ctv)) (hfn : H f = none) (hfr : f ∉ frs X.stack) (hco : H c' = some (CodeO c' q))
    (hbind : bindArgs (PySem.W.kla_fn "<lambda>" q params body scope (cloFrom X.env.cells scope.names []) pm (.ref c') ctv) ⟨[], []⟩ = pure [])
    (tk : Takes ((cxOf CXg X.prog X.w X.K X.mg X.base Ng qg sg g cdg X.A X.stack s H Eg).tr pn xe) W) (hr : Rm (k + 1) (X.A.deeper (envOfC qg sg s.heap.objs.size g cdg)))
    (hbody : ∀ (A : Around) (outer : List Env) (s : Shared) (H : Hp) (E : XK), Rm k (A.deeper (lamEnv X scope s.heap.objs.size f c')) → EW (lamCx X A outer s H E scope f c') (WxE E) body tb)
    (hN : Ng[i]? = some a) (hv : Vis sg a) (hd : (a == ("__debug__" : Str)) = false) (hcd : (a == ("__classdict__" : Str)) = false) :
    EW ((cxOf CXg X.prog X.w X.K X.mg X.base Ng qg sg g cdg X.A X.stack s H Eg).tr pn xe) W (.Call (.Name a p1) [] [] p2) (eDeed i f H (tlOf tb σw)) := by
  subst eq
  refine ⟨fun pinsZ sZ σZ HZ Q IZ h => ?_⟩
  obtain ⟨σZw, G, xw, qw, rsZ, rhZ, px, po, hslot, ht⟩ := h
  obtain ⟨v0, hs0, rv0⟩ := rsZ.get hslot
  have tx : TX X.K H HZ := by cases rv0 with | fn z => exact z
  have ev0 : v0 = .ref f := by cases rv0; rfl
  subst ev0
  refine wpAny_Call_Name_kw (thn ((pe_var (pos := p1) (i := i) hN hv hd hcd).run pinsZ sZ σZ HZ (fun v H1 => v = .ref f ∧ H1 = HZ) IZ ⟨.ref f, hs0, rfl, rfl⟩) fun u s1 ⟨v, H1, I1, r1, q1⟩ => ?_)
  obtain ⟨ev, eH⟩ := q1
  subst ev
  rw [eH] at I1
  cases (show u = Value.ref f from r1)
  have of1 := I1.base.keep f _ hf hfn hfr (fun z => nomatch (show f ∈ ([] : List Addr) from z))
  refine PySem.W.callWith_F0 ⟨_, _, _, _, of1⟩ ?_
  have un : Un (frs X.stack) [] H HZ s.heap s1.heap := I1.base
  obtain ⟨⟨oc, vs, t, hoc, hdc, hvc⟩, _, _⟩ := (show ObjOk X.prog X.w HZ s1.heap c' (CodeO c' (X.env.qual ++ "<lambda>")) from I1.hok c' _ (tx c' (CodeO c' (X.env.qual ++ "<lambda>")) (show True from trivial) hco))
  have px2 : PostE X.K HZ (fun cls d H' => W cls d σZ H') (fun cls fs G1 => xw cls fs σZw G1) := fun cls d fs G1 H1 t1 r1 rh1 h1 => px cls d fs σZw G1 σZ H1 t1 r1 (rsZ.mono t1) rh1 h1
  have rc : codeAny (model X.prog X.w) (X.A.deeper (envOfC qg sg s.heap.objs.size g cdg)) (.call (.ref f) ⟨[], []⟩) (CR (L2.CX X.prog X.w) (envOfC qg sg s.heap.objs.size g cdg :: X.stack) X.prog X.w HZ s1 Q (fun cls d H' => W cls d σZ H')) s1 := by
    refine PySem.W.kla_callFunE hr.room.depth of1 rfl L.co L.gen rfl ⟨c', oc, vs, t, rfl, hoc, hdc, hvc⟩ ?_
    rw [hbind]
    refine wpAny_pure (wpAny_newFunctionEnv (fun y hy => (L.own y hy).2) (fun y hy => absurd hy (by simp)) (fun h₁ hns hsb => ⟨I1.nolimit.fresh _ hsb, ?_⟩) L.kind)
    show codeAny _ _ (.expr body (lamEnv X scope s1.heap.objs.size f c')) _ _
    have kp : ∀ b o, s1.heap.get? b = some o → h₁.get? b = some o := fun b o e => hsb.extBut b o (Nat.ne_of_lt (Heap.lt_size e)) (Heap.get?_push_of_some _ e)
    have J := lam_start2 (tk := s1.toks + ([] : List (Str × Value)).length) (E := fun cls d H' => W cls d σZ H') (A := X.A.deeper (envOfC qg sg s.heap.objs.size g cdg)) (outer := envOfC qg sg s.heap.objs.size g cdg :: X.stack) (f := f) (c' := c') I L I1.env0 hr.room.hd un hns kp
    refine PySem.W.kla_codeExpr (wpAny_mono ((hbody _ _ s1 HZ (fun cls d H' => W cls d σZ H') (hr.deeper _)).run [] _ _ HZ Q J ⟨σw, G, _, qw, rs.mono tx, rhZ, fun cls d fs σ1 G1 σ2 H1 t1 r1 rs1 rh1 h1 => px2 cls d fs G1 H1 t1 r1 rh1 h1, po, ht⟩) (fun v s' hq => ?_) fun e s' hq => hq)
    obtain ⟨w', H', J', rv, q⟩ := hq
    exact ⟨w', H', J'.os, J'.bare, J'.base, J'.hok, rv, q⟩
  refine wpAny_call (codeAny_mono rc fun r s' hq => ?_)
  cases r with
  | error e => exact tk e s' (XE.of_call I1 (fun cls d H' z => z) hq)
  | ok fl =>
    cases fl with
    | ret u => exact I1.after hq
    | next => exact hq.elim
    | brk => exact hq.elim
    | cont => exact hq.elim
end
/-- what is known of the deed in the def that got it: for every def's context Z and every wish -/
def ActW (Z : Cx) (p : Addr) (HL : Hp) (a : Str) (tl : TlT) : Prop := ∀ (W : WX) (pn : List (Addr × Obj)) (xe : Value → Shared → Prop) (p1 p2 : Pos), Takes (Z.tr pn xe) W → EW (Z.tr pn xe) W (.Call (.Name a p1) [] [] p2) (eDeed 0 p HL tl)
/-- the promise of a def g(a) that calls a() -/
structure TellW (P : Program) (w : World) (K : PySem.W.Frag) (mg : Str → Option Value) (base : Heap) (k : Nat) (g : Addr) (Ng : List Str) (qg : Str) (sg : Scope) (a : Str) (sp : SpT) : Prop where
  run : ∀ (A : Around) (outer : List Env) (s : Shared) (H : Hp) (f : Addr) (tl : TlT) (G : HW) (q : WK) (x : XE) (Q : VK) (E : XK), Rm (k + 1) A → Env0 P w K mg base A outer s H → RH K G H → Post K H Q q → PostE K H E x → sp tl G q x →
    (∀ cdv : Value, Rm k (A.deeper (envOfC qg sg s.heap.objs.size g cdv)) → ActW (cxOf (L2.CX P w) P w K mg base Ng qg sg g cdv A outer s H E) f H a tl) →
    codeAny (model P w) A (.call (.ref g) ⟨[.ref f], []⟩) (CR (L2.CX P w) outer P w H s Q E) s
section
variable {P : Program} {w : World} {K : PySem.W.Frag} {mg : Str → Option Value} {base : Heap} {k : Nat} {g : Addr} {fd : FuncData} {Ng : List Str} {x qual a : Str} {params : Arguments} {body : List Stmt} {scope : Scope} {sp : SpT} {sel : List Sel}
theorem tellW_of {t : TlT → Addr → Hp → ST} (F : FunD K x qual params body scope [] [] g fd) (hb : BindW K fd [a] 1 [] [.p 0] []) (S : FnScope Ng [a] scope)
    (hbody : ∀ (cdv : Value) (A : Around) (outer : List Env) (s : Shared) (H : Hp) (E : XK) (f : Addr) (tl : TlT), Rm k (A.deeper (envOfC qual scope s.heap.objs.size g cdv)) → ActW (cxOf (L2.CX P w) P w K mg base Ng qual scope g cdv A outer s H E) f H a tl →
      TWs (cxOf (L2.CX P w) P w K mg base Ng qual scope g cdv A outer s H E) (WxE E) body (t tl f H))
    (hsp : ∀ tl f HL G q x, sp tl G q x → t tl f HL (endsW q x) (startW Ng [.fn f HL]) G) : TellW P w K mg base k g Ng qual scope a sp := by
  obtain ⟨oc, od, dV, kV, doc, pm, an, cdv, ct, osl, rfl, lk, hcd, _, _⟩ := F.ex
  refine ⟨fun A outer s H f tl G q xe Q E hr e0 rh po pe h act => ?_⟩
  obtain ⟨dvs, ds, hv, hw, to⟩ := hb.dv
  have b := to s [.ref f] [] (e0.mod.kin.keeps fun b o e => (e0.bs b o e).1) rfl rfl
  refine run_ofS lk hcd S hr.room e0 b (us := [.ref f]) (vs := [.ref f]) (.cons rfl .nil) rfl fun hr2 => ⟨_, hbody cdv A outer s H E f tl ⟨hr2, hr.gd⟩ (act cdv ⟨hr2, hr.gd⟩), ?_⟩
  refine ⟨startW Ng [.fn f H], G, endsW q xe, rs_start (.cons (.fn TX.refl) .nil), rh, { nx := ?_, rt := po, bk := fun _ _ _ _ _ _ _ z => z.elim, ct := fun _ _ _ _ _ _ _ z => z.elim, ex := ?_ }, hsp tl f H G q xe h⟩
  · exact fun σw G' σ H' tx _ rh' hq => po .non G' .non H' tx .non rh' hq
  · exact fun cls d fs σw G' σ H' tx rx _ rh' hq => pe cls d fs G' H' tx rx rh' hq
end
section
variable {X : Cx} {Wx : WX} {k : Nat} {g c P0 : Addr} {Ng : List Str} {x qg a q0 : Str} {sg : Scope} {sp : SpT} {params : Arguments} {body : Expr} {scope : Scope} {p lpos pos : Pos} {tb : ET}
/-- x(lambda: body) -/
def eTell (P0 : Addr) (q0 : Str) (sp : SpT) (tb : ET) : ET := fun x σ G q => G P0 = some (.tab q0) ∧ sp (tlOf tb σ) G q fun cls fs G1 => x cls fs σ G1
theorem z_tell (F : TellW X.prog X.w X.K X.mg X.base (k + 1) g Ng qg sg a sp) (hg : Gl X x) (hm : X.mg x = some (.ref g)) (hk : PySem.W.keepIn X.K (.ref g) = true) (tk : Takes X Wx) (hN : Ng[0]? = some a) (hva : Vis sg a)
    (TB : TabB X.base X.mg c P0) (hcode : X.env.code = .ref c) (eq : X.env.qual ++ "<lambda>" = q0) (hr : Rm (k + 2) X.A) (L : LamS X.env.scope scope) (hdef : defaultsOf params X.env = ([], []))
    (hbind : ∀ (q : Str) (cl : List (Str × Addr)) (pm cv ctv : Value), bindArgs (PySem.W.kla_fn "<lambda>" q params body scope cl pm cv ctv) ⟨[], []⟩ = pure [])
    (hbody : ∀ (A : Around) (outer : List Env) (s : Shared) (H : Hp) (E : XK) (f c' : Addr), Rm k (A.deeper (lamEnv X scope s.heap.objs.size f c')) → EW (lamCx X A outer s H E scope f c') (WxE E) body tb)
    (hdb : (x == ("__debug__" : Str)) = false := by decide) (hd : (a == ("__debug__" : Str)) = false := by decide) (hcd : (a == ("__classdict__" : Str)) = false := by decide) :
    EW X Wx (.Call (.Name x p) [.Lambda params body scope lpos] [] pos) (eTell P0 q0 sp tb) := by
  refine ⟨fun pins s σ H Q I h => ?_⟩
  obtain ⟨σw, G, xw, q, rs, rh, px, po, hP, h⟩ := h
  refine wpAny_Call_Name_kw (ld_glob I hg hm ?_ hdb)
  refine PySem.W.callWith_K (h₀ := X.base) I.ok.mod.kin hk ?_ (by rfl) (by rfl)
  show wpAny _ _ (spliced ((false, eval (.Lambda params body scope lpos) X.env) :: backTo pos (starEach [] X.env))) _ _ s
  obtain ⟨u, hu, ps, rfl, ht, ha⟩ := rh P0 _ hP
  refine Calls.spliced_cons (lam_made eq I TB hcode hu ht ha hdef (L.has I.ok) fun f c' pm ctv H1 s1 I1 k1 t1 hf hfn hfr hco => Calls.spliced_nil ⟨I1.kIn, ?_⟩)
  have tx : TX X.K H H1 := fun b o st e => k1 b o (fun z => by
    rw [z, hu] at e
    cases e
    exact st) e
  have rh1 : RH X.K G H1 := fun b o e => by
    by_cases hb : b = P0
    · rw [hb, hP] at e
      cases e
      rw [hb]
      exact t1
    · obtain ⟨u, e1, r1⟩ := rh b o e
      exact ⟨u, k1 b u hb e1, r1.mono tx⟩
  have rc : codeAny (model X.prog X.w) X.A (.call (.ref g) ⟨[.ref f], []⟩) (CR (L2.CX X.prog X.w) X.stack X.prog X.w H1 s1 Q (fun cls d H' => Wx cls d σ H')) s1 := by
    refine F.run X.A X.stack s1 H1 f (tlOf tb σw) G q (fun cls fs G1 => xw cls fs σw G1) Q _ hr I1.env0 rh1 (po.mono tx) (fun cls d fs G2 H2 t2 r2 rh2 h2 => px cls d fs σw G2 σ H2 (tx.trans t2) r2 (rs.mono (tx.trans t2)) rh2 h2) h fun cdv hr2 W pn xe p1 p2 tkZ => ?_
    exact act_w eq I1 (rs.mono tx) L hf hfn hfr hco (hbind _ _ _ _ _) tkZ hr2 (fun A outer s H E hr3 => hbody A outer s H E f c' hr3) hN hva hd hcd
  refine wpAny_call (codeAny_mono rc fun r s2 hq => ?_)
  cases r with
  | error e => exact tk e s2 (XE.of_call I1 (fun cls d H' z => z) hq)
  | ok fl =>
    cases fl with
    | ret u => exact I1.after hq
    | next => exact hq.elim
    | brk => exact hq.elim
    | cont => exact hq.elim
end
end LF
/-! LF12: chains, displays of named fields, long repetitions -/
namespace LF
open PySem PySem.Spec PyProof.Rows L2
section
variable {X : Cx} {Wx : WX} {pos : Pos} {a b c : Expr} {ta tb tc : ET} {op op' : CmpOp} {r r' : RWop}
theorem z_chain (ho : OW X (compareOp op) r) (ho' : OW X (compareOp op') r') (ha : EW X Wx a ta) (hb : EW X Wx b tb) (hc : EW X Wx c tc) (hm : lastMarks [op, op'] [b, c] = false := by with_unfolding_all rfl) : EW X Wx (.Compare a [op, op'] [b, c] pos) (eChain r r' ta tb tc) := pe_imp (pe_chain ho ho' ha hb hc hm) emb_chain
def qChain (r r' : RWop) (ta tb tc : ET) : QT := fun x σ G q => eChain r r' ta tb tc x σ G fun w G1 => match w with
  | .bl k => q k G1
  | _ => False
/-! ### {"k": v, ..} -/
def mergeW (kvs : List (Key × Wv)) (more : List (Key × Wv)) : List (Key × Wv) := more.foldl (fun acc kv => pkW acc kv.1 kv.2) kvs
theorem RKs.merge {K : PySem.W.Frag} {H : Hp} {more : List (Key × Wv)} {ms : List (Key × V)} (r : RKs K H more ms) : ∀ {kvs : List (Key × Wv)} {vs : List (Key × V)}, RKs K H kvs vs → RKs K H (mergeW kvs more) (mergeK vs ms) := by
  induction r with
  | nil => exact fun q => q
  | @cons p p' ps ps' h t ih =>
    intro kvs vs q
    have e := q.put p.1 h.2
    rw [h.1] at e
    have z := ih e
    show RKs K H (mergeW (pkW kvs p.1 p.2) ps) _
    rw [h.1]
    exact z
/-- the pairs, keys texts -/
def ePairs : List (Str × ET) → XW → SW → HW → (List (Key × Wv) → HW → Prop) → Prop
  | [], _, _, G, q => q [] G
  | p :: r, x, σ, G, q => p.2 x σ G fun w G1 => ePairs r x σ G1 fun ws G2 => q ((.inr p.1, w) :: ws) G2
def eDisp (ks : List (Str × ET)) : ET := fun x σ G q => ∀ p, G p = none → ePairs ks x σ (updO G p (.dct [])) fun ws G2 => G2 p = some (.dct []) ∧ q (.ref p) (updO G2 p (.dct (mergeW [] ws)))
abbrev embPr (K : PySem.W.Frag) (Wx : WX) (ks : List (Str × ET)) : List (TE × TE) := ks.map fun p => (emb K Wx (eC (.str p.1)), emb K Wx p.2)
/-- pairs -/
def PpW (X : Cx) (Wx : WX) (pos : Pos) (keys : List (Option Expr)) (values : List Expr) (ks : List (Str × ET)) : Prop := PPs X pos keys values (embPr X.K Wx ks)
theorem zp_nil : PpW X Wx pos [] [] [] := pps_nil
theorem zp_cons {k : Str} {j : Nat} {p1 : Pos} {v : Expr} {tv : ET} {ks : List (Option Expr)} {vs : List Expr} {r : List (Str × ET)} (hv : EW X Wx v tv) (hr : PpW X Wx pos ks vs r) : PpW X Wx pos (some (.Constant (.str k) j p1) :: ks) (v :: vs) ((k, tv) :: r) := pps_cons (tk := emb X.K Wx (eC (.str k))) z_str hv hr
theorem emb_pairs {K : PySem.W.Frag} : ∀ {ks : List (Str × ET)} {σ : L2.St} {H : Hp} {Q : List (V × V) → Hp → Prop} {σw : SW} {G : HW} {x : XW} {q : List (Key × Wv) → HW → Prop}, RS K H σw σ → RH K G H → PostX K H Wx x → (∀ ws G' kvs H', TX K H H' → RKs K H' ws kvs → RH K G' H' → ws.length = ks.length → q ws G' → Q (kvs.map fun kv => (kV kv.1, kv.2)) H') →
    ePairs ks x σw G q → tPairs (embPr K Wx ks) σ H Q
  | [], σ, H, Q, σw, G, x, q, rs, rh, px, hq, h => hq [] G [] H TX.refl .nil rh rfl h
  | p :: r, σ, H, Q, σw, G, x, q, rs, rh, px, hq, h => by
    refine ⟨σw, G, x, _, rs, rh, px, fun w0 G0 v0 H0 t0 r0 rh0 h0 => ?_, show eC (.str p.1) x σw G (fun w G' => w = .str p.1 ∧ G' = G) from ⟨rfl, rfl⟩⟩
    obtain ⟨rfl, rfl⟩ := h0
    cases r0
    refine ⟨σw, G0, x, _, rs.mono t0, rh0, px.mono t0, fun w1 G1 v1 H1 t1 r1 rh1 h1 => ?_, h⟩
    refine emb_pairs (rs.mono (t0.trans t1)) rh1 (px.mono (t0.trans t1)) (fun ws G' kvs H' t2 rk rh2 hl h2 => ?_) h1
    exact hq ((.inr p.1, w1) :: ws) G' ((.inr p.1, v1) :: kvs) H' ((t0.trans t1).trans t2) (.cons ⟨rfl, r1.mono t2⟩ rk) rh2 (congrArg (· + 1) hl) h2
theorem z_disp {keys : List (Option Expr)} {values : List Expr} {ks : List (Str × ET)} (h : PpW X Wx pos keys values ks) (hall : keys.all (·.isSome) = true := by rfl) (hl : keys.length = values.length := by rfl) (h0 : keys ≠ [] := by exact fun z => nomatch z) (h15 : keys.length ≤ 15 := by exact Nat.le_of_ble_eq_true rfl) (hk : ks.length ≤ 15 := by exact Nat.le_of_ble_eq_true rfl) :
    EW X Wx (.Dict keys values pos) (eDisp ks) := pe_imp (pe_disp h hall hl h0 h15) fun σ H Q ⟨σw, G, x, q, rs, rh, px, po, h⟩ p hp => by
  have tn : TX X.K H (upd H p (.dK [])) := TX.new hp
  refine emb_pairs (rs.mono tn) (rh.newD hp .nil) (px.mono tn) (fun ws G' kvs H' t1 rk rh1 hl2 h1 => ?_) (h p (rh.fresh hp))
  obtain ⟨e, hq⟩ := h1
  obtain ⟨vs, f, r0⟩ := rh1.dct e
  cases r0
  exact ⟨f, kvs, rfl, by rw [rk.len, hl2]; exact hk, po _ _ _ _ ((tn.trans t1).trans (TX.put f noTup_dK)) (.ref p) (rh1.putD f (rk.merge .nil)) hq⟩
end
/-! ### long repetitions -/
end LF
/-! LF13: the end of a law -/
namespace LF
open PySem PySem.Spec PyProof.Rows L2
theorem tkN {X : Cx} : Takes X W0 := fun _ _ ⟨_, _, _, _, _, _, _, _, _, _, _, _, _, _, _, _, z⟩ => z.elim
abbrev oLe : RWop := wI0 fun i j => .bl (decide (i ≤ j))
abbrev oGt : RWop := wI0 fun i j => .bl (decide (j < i))
abbrev oSub : RWop := wI0 fun i j => .int (i - j)
abbrev oMod : RWop := wI (fun _ j => 0 < j) fun i j => .int (i % j)
abbrev oDiv : RWop := wI CDiv fun i j => .int (i / j)
abbrev oPow : RWop := wI CPow fun i j => .int (i ^ j.toNat)
section
variable {P : Program} {w : World} {K : PySem.W.Frag} {mg : Str → Option Value} {base : Heap} {k : Nat} {f : Addr} {fd : FuncData} {ps : List Str} {sp : SpW}
variable {x qual : Str} {params : Arguments} {body : List Stmt} {scope : Scope} {dvs : List V} {kws : List (Str × V)}
/-- a def by its body, its code object known: it makes lambdas -/
theorem fnW_ofL {N : List Str} {t : ST} {c : Addr} (F : FunD K x qual params body scope dvs kws f fd) (hcode : fd.code = .ref c) (S : FnScope N ps scope) (len : ∀ ws G q x, sp ws G q x → ws.length = ps.length)
    (hbody : ∀ (A : Around) (outer : List Env) (s : Shared) (H : Hp) (E : XK), Rm k (A.deeper (envOfC qual scope s.heap.objs.size f (.ref c))) → TWs (cxOf (L2.CX P w) P w K mg base N qual scope f (.ref c) A outer s H E) (WxE E) body t)
    (hsp : ∀ ws G q x, sp ws G q x → t (endsW q x) (startW N ws) G) : FnW P w K mg base (k + 1) f fd ps sp := by
  obtain ⟨oc, od, dV, kV, doc, pm, an, cdv, ct, osl, rfl, lk, hcd, _, _⟩ := F.ex
  cases (show cdv = .ref c from hcode)
  refine ⟨len, fun A outer s H args us vs Q E hr e0 hb r h => ?_⟩
  obtain ⟨ws, G, q, xe, rw', rh, po, pe, h⟩ := h
  have hl : vs.length = ps.length := by rw [rw'.len]; exact len _ _ _ _ h
  exact LamX.run_ofS lk hcd S hr.room e0 hb r hl fun hr2 => ⟨_, hbody A outer s H E ⟨hr2, hr.gd⟩, startW N ws, G, endsW q xe, rs_start rw', rh,
    { nx := fun σw G' σ H' tx _ rh' hq => po .non G' .non H' tx .non rh' hq, rt := po, bk := fun _ _ _ _ _ _ _ z => z.elim, ct := fun _ _ _ _ _ _ _ z => z.elim, ex := fun cls d fs σw G' σ H' tx rx _ rh' hq => pe cls d fs G' H' tx rx rh' hq }, hsp ws G q xe h⟩
end
/-! ### the law called -/
/-- the tables of code objects: code object, table, the name of what is made -/
abbrev Tb := Addr × Addr × (Nat → Nat → Str)
/-- what is tracked at first: the script, unless the written part knows it; the tables -/
def H0 (K : PySem.W.Frag) (tb : List Tb) (a : Addr) (o : Obj) (ns : List Int) : Hp := fun b => if b = a ∧ K.lookup a = none then some (.frz o (.lst (ns.map V.int))) else if (tb.any fun p => p.2.1 == b) = true then some (.tbl #[]) else none
def G0 (tb : List Tb) : HW := fun b => match tb.find? fun p => p.2.1 == b with
  | some p => some (.tbn p.2.2)
  | none => none
section
variable {K : PySem.W.Frag} {tb : List Tb} {a : Addr} {o : Obj} {ns : List Int}
theorem h0_cases {b : Addr} {u : HO} (h : H0 K tb a o ns b = some u) : (b = a ∧ K.lookup a = none ∧ u = .frz o (.lst (ns.map V.int))) ∨ ((∃ p ∈ tb, p.2.1 = b) ∧ u = .tbl #[]) := by
  unfold H0 at h
  split at h
  · rename_i z; exact .inl ⟨z.1, z.2, (Option.some.inj h).symm⟩
  · split at h
    · rename_i z
      obtain ⟨p, hp, e⟩ := List.any_eq_true.mp z
      exact .inr ⟨⟨p, hp, beq_iff_eq.mp e⟩, (Option.some.inj h).symm⟩
    · cases h
theorem h0_tab {p : Tb} (hp : p ∈ tb) (ne : p.2.1 ≠ a) : H0 K tb a o ns p.2.1 = some (.tbl #[]) := by
  unfold H0
  rw [if_neg (fun z => ne z.1), if_pos (List.any_eq_true (p := fun q : Tb => q.2.1 == p.2.1).mpr ⟨p, hp, beq_self_eq_true _⟩)]
theorem g0_at {b : Addr} {u : O} (h : G0 tb b = some u) : ∃ p ∈ tb, p.2.1 = b ∧ u = .tbn p.2.2 := by
  unfold G0 at h
  split at h
  · rename_i p e
    exact ⟨p, List.mem_of_find?_eq_some e, by simpa using List.find?_some e, (Option.some.inj h).symm⟩
  · cases h
end
theorem law_run {P : Program} {w : World} {K : PySem.W.Frag} {mg mb : Str → Option Value} {k : Nat} {fa a : Addr} {tb : List Tb} {fd : FuncData} {x : Str} {sp : SpW} {s₁ : Shared} {vs : List Value} {ns : List Int}
    (KX : K.In s₁.heap) (hns : s₁.heap.Ns mainGlobals mg) (hb : s₁.heap.Ns builtinsNs mb) (hbb : ∀ x : Str, x ≠ "__name__" → mb x = bootBuiltins x) (hlim : s₁.heap.NoLimit) (hg : s₁.gens = #[])
    (hT : ∀ p ∈ tb, s₁.heap.get? p.2.1 = some { cls := .none, data := .fields #[] }) (nT : ∀ p ∈ tb, K.lookup p.2.1 = none) (hC : ∀ p ∈ tb, PySem.W.CodeHd s₁.heap p.1 p.2.1)
    (hbm : ∃ (bm : Addr) (ob : Obj), mg "__builtins__" = some (.ref bm) ∧ bm ≠ builtinsNs ∧ s₁.heap.get? bm = some ob ∧ ob.cls = .type "module" ∧ ob.dict = some builtinsNs ∧ ob.data = .plain)
    (ha : s₁.heap.get? a = some { cls := .type "list", data := .seq vs.toArray }) (hi : IntsAre vs ns) (hl : ns.length ≤ sizeLine) (hr : Rm k callerA)
    (F : ∀ base : Heap, K.In base → base.Ns mainGlobals mg → (∀ p ∈ tb, LamX.TabB base mg p.1 p.2.1) → FnW P w K mg base k fa fd [x] sp) (hbind : ∀ (s : Shared) (u : Value), BindsTo s fd ⟨[u], []⟩ [(x, u)])
    (hsp : sp [.kls (ns.map Wv.int)] (G0 tb) (fun v _ => v = .bl true) fun _ _ _ => False) :
    codeAny (model P w) callerA (.call (.ref fa) ⟨[.ref a], []⟩) (fun r s' => r = .ok (.ret (.bool true)) ∧ OldK s₁.heap s'.heap ∧ s'.os = s₁.os ∧ AllBare s'.gens) s₁ := by
  have lenV := hi.length
  have neT : ∀ p ∈ tb, p.2.1 ≠ a := fun p hp z => by
    have q := hT p hp
    rw [z, ha] at q
    have z' : Data.seq vs.toArray _ = Data.fields #[] := congrArg Obj.data (Option.some.inj q)
    cases z'
  generalize hH : H0 K tb a { cls := .type "list", data := .seq vs.toArray } ns = H
  have hc : ∀ {b : Addr} {u : HO}, H b = some u → _ := fun {b u} h => h0_cases (by rw [hH]; exact h)
  have hTab : ∀ p ∈ tb, H p.2.1 = some (.tbl #[]) := fun p hp => by rw [← hH]; exact h0_tab hp (neT p hp)
  -- what is not tracked
  have un : ∀ {b : Addr} {ob : Obj}, s₁.heap.get? b = some ob → ob.data ≠ .seq vs.toArray → ob.data ≠ .fields #[] → H b = none := fun {b ob} e h1 h2 => by
    cases q : H b with
    | none => rfl
    | some u =>
      rcases hc q with ⟨rfl, _, _⟩ | ⟨⟨p, hp, rfl⟩, _⟩
      · rw [ha] at e; cases e; exact absurd rfl h1
      · rw [hT p hp] at e; cases e; exact absurd rfl h2
  have unD : ∀ {b : Addr} {ob : Obj} {es : Array DictEntry} {ep : Nat}, s₁.heap.get? b = some ob → ob.data = .dict es ep → H b = none := fun {b ob es ep} e d => un e (fun z => by rw [d] at z; cases z) fun z => by rw [d] at z; cases z
  have nsB : ∀ {b : Addr} {m : Str → Option Value}, s₁.heap.Ns b m → (hidT s₁.heap H).Ns b m := fun {b m} ⟨o, es, ep, e, d, r⟩ => ⟨o, es, ep, hidT_get e (unD e d), d, r⟩
  have kB : K.In (hidT s₁.heap H) := fun b ob e => hidT_get (KX b ob e) (by
    cases q : H b with
    | none => rfl
    | some u =>
      rcases hc q with ⟨rfl, n, _⟩ | ⟨⟨p, hp, rfl⟩, _⟩
      · rw [n] at e; cases e
      · rw [nT p hp] at e; cases e)
  have MB : L2.Mod K mg (hidT s₁.heap H) := ⟨kB, nsB hns, ⟨mb, nsB hb, hbb⟩, let ⟨mc, h1, h2⟩ := hlim; ⟨mc, nsB h1, h2⟩⟩
  have TB : ∀ p ∈ tb, LamX.TabB (hidT s₁.heap H) mg p.1 p.2.1 := fun p hp => by
    have tp := hT p hp
    refine ⟨?_, ?_, fun z => ?_⟩
    · obtain ⟨ob, us, file, tf, flags, tg, inF, text, tt, e1, r1, r2, r3, rr⟩ := hC p hp
      exact ⟨ob, us, file, tf, flags, tg, inF, text, tt, hidT_get e1 (un e1 (fun z => by rw [r2] at z; cases z) fun z => by rw [r2] at z; cases z; simp at r3), r1, r2, r3, rr⟩
    · obtain ⟨bm, ob, b1, b2, b3, b4, b5, b6⟩ := hbm
      refine ⟨bm, ob, b1, b2, fun q => ?_, fun q => ?_, hidT_get b3 (un b3 (fun z => by rw [b6] at z; cases z) fun z => by rw [b6] at z; cases z), b4, b5, b6⟩
      · obtain ⟨o', es, ep, e, hd, _⟩ := hns
        rw [q, e] at b3; cases b3; rw [hd] at b6; cases b6
      · rw [q, tp] at b3; cases b3; cases b6
    · obtain ⟨o', es, ep, e, hd, _⟩ := hns
      rw [z, tp] at e; cases e; cases hd
  have okH : HOk P w H s₁.heap := fun b u q => by
    rcases hc q with ⟨rfl, n, rfl⟩ | ⟨⟨p, hp, rfl⟩, rfl⟩
    · exact ⟨ha, by rw [List.length_map]; exact hl, vs, _, vals_ints hi, ha⟩
    · exact hT p hp
  have sF : SqF K H a (ns.map V.int) := by
    cases hk : K.lookup a with
    | none => exact .inl ⟨{ cls := .type "list", data := .seq vs.toArray }, by rw [← hH]; unfold H0; rw [if_pos ⟨rfl, hk⟩]⟩
    | some ob =>
      have e := KX a ob hk
      rw [ha] at e; cases e
      exact .inr ⟨_, vs.toArray, _, hk, rfl, rfl, rfl, by rw [List.size_toArray, lenV]; exact hl, by simpa using vals_ints hi⟩
  have rh : RH K (G0 tb) H := fun b u e => by
    obtain ⟨p, hp, rfl, rfl⟩ := g0_at e
    refine ⟨_, hTab p hp, #[], rfl, trivial, fun pos cv z => ?_⟩
    have z' : codeAmong pos [] = some cv := z
    simp [codeAmong] at z'
  have E0 : Env0 P w K mg (hidT s₁.heap H) callerA [] s₁ H := ⟨rfl, MB, fun b o e => of_hidT e, Nat.le_of_eq (hidT_size _ _), trivial, fun b hb => absurd (show b ∈ ([] : List Addr) from hb) (by simp), okH, .of_eq hg⟩
  refine codeAny_mono ((F _ kB (nsB hns) TB).run callerA [] s₁ H ⟨[.ref a], []⟩ [.ref a] [.ref a] (fun v _ => v = .bl true) (fun _ _ _ => False) hr E0 (hbind s₁ (.ref a)) (.cons rfl .nil)
    ⟨[.kls (ns.map Wv.int)], G0 tb, _, _, .cons (.kls sF (RWs.ofInts ns)) .nil, rh, fun v G u H' _ r1 _ e => by subst e; cases r1; rfl, fun _ _ _ _ _ _ _ _ z => z.elim, hsp⟩) fun r s' h => ?_
  cases r with
  | error e =>
    obtain ⟨_, _, _, _, _, _, _, _, _, _, _, _, z⟩ := h
    exact z.elim
  | ok fl =>
  cases fl with
  | next => exact h.elim
  | brk => exact h.elim
  | cont => exact h.elim
  | ret u =>
    obtain ⟨v, H', os, bare, un2, ok2, r', q⟩ := h
    cases (show v = .bl true from q)
    cases (show u = Value.bool true from r')
    have key : ∀ b ob, (∀ p ∈ tb, p.2.1 ≠ b) → s₁.heap.get? b = some ob → s'.heap.get? b = some ob := fun b ob nb e => by
      cases q : H b with
      | none => exact un2.keep b ob e q (fun z => absurd (show b ∈ ([] : List Addr) from z) (by simp)) (by simp)
      | some u =>
        rcases hc q with ⟨rfl, n, rfl⟩ | ⟨⟨p, hp, rfl⟩, _⟩
        · obtain ⟨e2, _⟩ := ok2 _ _ (un2.frzs _ _ _ q)
          rw [ha] at e; cases e; exact e2
        · exact absurd rfl (nb p hp)
    have more : ∀ p ∈ tb, ∃ ps : Array Value, s'.heap.get? p.2.1 = some { cls := .none, data := .fields ps } := fun p hp => by
      obtain ⟨ps, z⟩ := un2.tbls p.2.1 #[] (hTab p hp)
      exact ⟨_, ok2 p.2.1 _ z⟩
    have old : ∀ b ob, s₁.heap.get? b = some ob → (s'.heap.get? b = some ob) ∨ ∃ p ∈ tb, p.2.1 = b := fun b ob e => by
      by_cases hb : ∃ p ∈ tb, p.2.1 = b
      · exact .inr hb
      · exact .inl (key b ob (fun p hp z => hb ⟨p, hp, z⟩) e)
    refine ⟨rfl, ⟨fun b ob e => ?_, fun b ob e => ?_⟩, os, bare⟩
    · rcases old b ob e with z | ⟨p, hp, rfl⟩
      · exact .inl z
      · obtain ⟨ps, hm⟩ := more p hp
        rw [hT p hp] at e
        cases e
        exact .inr (.inl ⟨((hC p hp).tab (hT p hp)).isCodeTable, rfl, #[], ps, rfl, by rw [Array.empty_append]; exact hm⟩)
    · rcases old b ob e with z | ⟨p, hp, rfl⟩
      · exact ⟨_, z⟩
      · obtain ⟨ps, hm⟩ := more p hp
        exact ⟨_, hm⟩
/-- what is known of the law -/
structure LawW (l : PySem.W.OpenLaw) (q : Program) (w : World) (K : PySem.W.Frag) (k n : Nat) (x : Str) (mg : Str → Option Value) (fa : Addr) where
  fd : FuncData
  tb : List Tb
  sp : SpW
  tab : ∀ p ∈ tb, ∃ y : Str, ((recsOf q).find? fun e => e.name == y).isSome = true ∧ PySem.W.tabIn K y = some (p.1, p.2.1)
  none : ∀ p ∈ tb, K.lookup p.2.1 = Option.none
  bind : ∀ (s : Shared) (u : Value), BindsTo s fd ⟨[u], []⟩ [(x, u)]
  ok : ∀ ns : List Int, ns.length ≤ n → (∀ z ∈ ns, Builtin.Int.intBits z ≤ 1048576) → sp [.kls (ns.map Wv.int)] (G0 tb) (fun v _ => v = .bl true) fun _ _ _ => False
  run : ∀ base : Heap, K.In base → base.Ns mainGlobals mg → (∀ p ∈ tb, LamX.TabB base mg p.1 p.2.1) → FnW l.prog w K mg base k fa fd [x] sp
theorem walk_w {l : PySem.W.OpenLaw} {n k : Nat} {q : Program} {loose : List Str} {XP : (Str → Option Value) → Heap → Prop} {YP : World → Heap → Prop} {d : DefRec} {K : Params → PySem.W.Frag} {x : Str}
    (hn : l.most = some n) (hn2 : n ≤ sizeLine) (hdf : d.params.defaults = []) (hr : Room k callerA) (hY : ∀ (w : World) (h : Heap), YP w h → (K w.params).In h)
    (F : ∀ (w : World) (mg : Str → Option Value) (fa : Addr) (h : Heap), (K w.params).In h → h.Ns mainGlobals mg → mg d.name = some (.ref fa) → Nonempty (LawW l q w (K w.params) k n x mg fa)) :
    PySem.W.WalkO q loose XP YP l.row.toRowW d [] (fun f vs => PySem.call f vs) := by
  refine Att.attach_callB hn hdf fun w s₀ s₁ mg mb fa o pm cd doc a vs ns G Y ho hd hcd hmg hobj hints hlen hbits hg => ?_
  have KX := hY w _ Y
  obtain ⟨L⟩ := F w mg fa _ KX G.T.g hmg
  have tabs : ∀ p ∈ L.tb, PySem.W.CodeHd s₁.heap p.1 p.2.1 ∧ s₁.heap.get? p.2.1 = some { cls := .none, data := .fields #[] } := fun p hp => by
    obtain ⟨y, h1, h2⟩ := L.tab p hp
    obtain ⟨d', h3⟩ := Option.isSome_iff_exists.mp h1
    exact PySem.W.tab_of G.T KX h3 h2
  exact law_run KX G.T.g G.T.b G.T.builtins G.T.nolimit hg (fun p hp => (tabs p hp).2) L.none (fun p hp => (tabs p hp).1) G.T.bmain hobj hints (Nat.le_trans hlen hn2) ⟨hr, rfl⟩ L.run L.bind (L.ok ns hlen hbits)
/-- a def's code object and its table, by what is written -/
theorem tabIn_mk {K : PySem.W.Frag} {x : Str} {f c P : Addr} {oc o2 : Value} {od d2 : Option Addr} {fd : FuncData} {sl s2 : Array (Option Value)} {vs : Array Value} (a : PySem.W.nsIn K mainGlobals x = some (some (.ref f))) (l : K.lookup f = some ⟨oc, od, .func fd, sl⟩) (e : fd.code = .ref c)
    (lc : K.lookup c = some ⟨o2, d2, .fields vs, s2⟩) (v : vs[11]? = some (.ref P)) : PySem.W.tabIn K x = some (c, P) := by
  unfold PySem.W.tabIn
  rw [a]
  dsimp only
  rw [l]
  dsimp only
  rw [e]
  dsimp only
  rw [lc]
  dsimp only
  rw [v]
end LF
/-! LF14: readings run step by step; what is behind is named, so that nothing is run ahead of its turn -/
namespace LF
open PySem PySem.Spec PyProof.Rows L2
section
variable {ta tb tc t u : ET} {tl tk : AT} {A B : QT} {x : XW} {σ : SW} {G : HW} {q : WK} {r r' : RWop} {D : EndsW}
def kV (o : Option (Option Wv)) (q : WK) (G : HW) : Prop := match o with
  | some (some w) => q w G
  | _ => False
theorem m_V {i : Nat} : eV i x σ G q = kV (σ[i]?) q G := rfl
theorem m_kV {w : Wv} : kV (some (some w)) q G = q w G := rfl
theorem m_C {w : Wv} : eC w x σ G q = q w G := rfl
def kOp2 (r : RWop) (w : Wv) (q : WK) : WK := fun w2 G2 => r w w2 G2 q
def kOp (r : RWop) (tb : ET) (x : XW) (σ : SW) (q : WK) : WK := fun w G1 => tb x σ G1 (kOp2 r w q)
theorem m_Op : eOp r ta tb x σ G q = ta x σ G (kOp r tb x σ q) := rfl
theorem m_kOp {w : Wv} : kOp r tb x σ q w G = tb x σ G (kOp2 r w q) := rfl
theorem m_kOp2 {w w2 : Wv} : kOp2 r w q w2 G = r w w2 G q := rfl
def kBl (q : Bool → HW → Prop) : WK := fun w G => match w with
  | .bl k => q k G
  | _ => False
variable {b : Bool → HW → Prop}
theorem m_kBl {k : Bool} : kBl b (.bl k) G = b k G := rfl
theorem m_qOp : qOp r ta tb x σ G b = ta x σ G (kOp r tb x σ (kBl b)) := rfl
def kCh3 (r' : RWop) (w2 : Wv) (q : WK) : WK := fun w3 G => r' w2 w3 G q
def kCh2 (r' : RWop) (tc : ET) (w2 : Wv) (x : XW) (σ : SW) (q : WK) : WK := fun w G => match w with
  | .bl true => tc x σ G (kCh3 r' w2 q)
  | .bl false => q (.bl false) G
  | _ => False
theorem m_kCh2 {w2 : Wv} : kCh2 r' tc w2 x σ q (.bl true) G = tc x σ G (kCh3 r' w2 q) := rfl
theorem m_kCh2f {w2 : Wv} : kCh2 r' tc w2 x σ q (.bl false) G = q (.bl false) G := rfl
theorem m_kCh3 {w2 w3 : Wv} : kCh3 r' w2 q w3 G = r' w2 w3 G q := rfl
def kCh1 (r r' : RWop) (tc : ET) (w1 : Wv) (x : XW) (σ : SW) (q : WK) : WK := fun w2 G => r w1 w2 G (kCh2 r' tc w2 x σ q)
theorem m_kCh1 {w1 w2 : Wv} : kCh1 r r' tc w1 x σ q w2 G = r w1 w2 G (kCh2 r' tc w2 x σ q) := rfl
def kCh (r r' : RWop) (tb tc : ET) (x : XW) (σ : SW) (q : WK) : WK := fun w1 G => tb x σ G (kCh1 r r' tc w1 x σ q)
theorem m_kCh {w1 : Wv} : kCh r r' tb tc x σ q w1 G = tb x σ G (kCh1 r r' tc w1 x σ q) := rfl
theorem m_Ch : eChain r r' ta tb tc x σ G q = ta x σ G (kCh r r' tb tc x σ q) := rfl
theorem m_qCh : qChain r r' ta tb tc x σ G b = ta x σ G (kCh r r' tb tc x σ (kBl b)) := rfl
/-! #### slices, tests -/
def kO (q : Option Int → HW → Prop) : WK := fun w G => match w with
  | .int i => q (some i) G
  | _ => False
variable {o : Option Int → HW → Prop}
theorem m_oNone : oNone x σ G o = o none G := rfl
theorem m_oSome : oSome ta x σ G o = ta x σ G (kO o) := rfl
theorem m_kO {i : Int} : kO o (.int i) G = o (some i) G := rfl
def kSl2 (w : Wv) (lo : Option Int) (q : WK) : Option Int → HW → Prop := fun hi G => wSl w lo hi G q
def kSl1 (w : Wv) (th : OT) (x : XW) (σ : SW) (q : WK) : Option Int → HW → Prop := fun lo G => th x σ G (kSl2 w lo q)
def kSl (tl th : OT) (x : XW) (σ : SW) (q : WK) : WK := fun w G => tl x σ G (kSl1 w th x σ q)
variable {ol oh : OT} {lo hi : Option Int}
theorem m_Sl : eSl ta ol oh x σ G q = ta x σ G (kSl ol oh x σ q) := rfl
theorem m_kSl {w : Wv} : kSl ol oh x σ q w G = ol x σ G (kSl1 w oh x σ q) := rfl
theorem m_kSl1 {w : Wv} : kSl1 w oh x σ q lo G = oh x σ G (kSl2 w lo q) := rfl
theorem m_kSl2 {w : Wv} : kSl2 w lo q hi G = wSl w lo hi G q := rfl
theorem m_slT {ws : List Wv} : wSl (.tup ws) lo hi G q = q (.tup (cutL ws lo hi)) G := rfl
def kTru (b : Bool → HW → Prop) : WK := fun w G => wTru w G b
theorem m_qT : qTru ta x σ G b = ta x σ G (kTru b) := rfl
theorem m_kTru {w : Wv} : kTru b w G = wTru w G b := rfl
theorem m_tB {k : Bool} : wTru (.bl k) G b = b k G := rfl
theorem m_tN : wTru .non G b = b false G := rfl
theorem m_tI {i : Int} : wTru (.int i) G b = b (i != 0) G := rfl
theorem m_tT {ws : List Wv} : wTru (.tup ws) G b = b (!ws.isEmpty) G := rfl
def kqA (B : QT) (x : XW) (σ : SW) (b : Bool → HW → Prop) : Bool → HW → Prop := fun k G => match k with
  | true => B x σ G b
  | false => b false G
def kqO (B : QT) (x : XW) (σ : SW) (b : Bool → HW → Prop) : Bool → HW → Prop := fun k G => match k with
  | true => b true G
  | false => B x σ G b
def kqN (b : Bool → HW → Prop) : Bool → HW → Prop := fun k G => b (!k) G
theorem m_qA : qAnd A B x σ G b = A x σ G (kqA B x σ b) := rfl
theorem m_qO : qOr A B x σ G b = A x σ G (kqO B x σ b) := rfl
theorem m_qN : qNot A x σ G b = A x σ G (kqN b) := rfl
theorem m_kqAt : kqA B x σ b true G = B x σ G b := rfl
theorem m_kqAf : kqA B x σ b false G = b false G := rfl
theorem m_kqOt : kqO B x σ b true G = b true G := rfl
theorem m_kqOf : kqO B x σ b false G = B x σ G b := rfl
theorem m_kqN {k : Bool} : kqN b k G = b (!k) G := rfl
theorem m_qYes : qYes x σ G b = b true G := rfl
def kA (u : ET) (x : XW) (σ : SW) (q : WK) : WK := fun w G => match w with
  | .bl true => u x σ G q
  | .bl false => q (.bl false) G
  | _ => False
def kOr (u : ET) (x : XW) (σ : SW) (q : WK) : WK := fun w G => match w with
  | .bl true => q (.bl true) G
  | .bl false => u x σ G q
  | _ => False
def kN (q : WK) : WK := fun w G => match w with
  | .bl k => q (.bl (!k)) G
  | _ => False
def kNeg (q : WK) : WK := fun w G => match w with
  | .int i => q (.int (-i)) G
  | _ => False
theorem m_A : eAnd t u x σ G q = t x σ G (kA u x σ q) := rfl
theorem m_Or : eOr t u x σ G q = t x σ G (kOr u x σ q) := rfl
theorem m_N : eNot t x σ G q = t x σ G (kN q) := rfl
theorem m_Neg : eNeg t x σ G q = t x σ G (kNeg q) := rfl
theorem m_kAt : kA u x σ q (.bl true) G = u x σ G q := rfl
theorem m_kAf : kA u x σ q (.bl false) G = q (.bl false) G := rfl
theorem m_kOrt : kOr u x σ q (.bl true) G = q (.bl true) G := rfl
theorem m_kOrf : kOr u x σ q (.bl false) G = u x σ G q := rfl
theorem m_kN {k : Bool} : kN q (.bl k) G = q (.bl (!k)) G := rfl
theorem m_kNeg {i : Int} : kNeg q (.int i) G = q (.int (-i)) G := rfl
def kIf (ta tb : ET) (x : XW) (σ : SW) (q : WK) : Bool → HW → Prop := fun k G => match k with
  | true => ta x σ G q
  | false => tb x σ G q
theorem m_If : eIf A ta tb x σ G q = A x σ G (kIf ta tb x σ q) := rfl
theorem m_kIft : kIf ta tb x σ q true G = ta x σ G q := rfl
theorem m_kIff : kIf ta tb x σ q false G = tb x σ G q := rfl
/-! #### lists of arguments, displays, calls -/
variable {l : List Wv → HW → Prop} {w : Wv} {ws zs : List Wv}
def kAc2 (w : Wv) (l : List Wv → HW → Prop) : List Wv → HW → Prop := fun ws G => l (w :: ws) G
def kAc (tk : AT) (x : XW) (σ : SW) (l : List Wv → HW → Prop) : WK := fun w G => tk x σ G (kAc2 w l)
theorem m_an : aNil x σ G l = l [] G := rfl
theorem m_ac : aCons t tk x σ G l = t x σ G (kAc tk x σ l) := rfl
theorem m_kac : kAc tk x σ l w G = tk x σ G (kAc2 w l) := rfl
theorem m_kac2 : kAc2 w l ws G = l (w :: ws) G := rfl
def kTup (q : WK) : List Wv → HW → Prop := fun ws G => ws.length ≤ sizeLine ∧ q (.tup ws) G
def kLst (q : WK) : List Wv → HW → Prop := fun ws G => ws.length ≤ sizeLine ∧ ∀ l, G l = none → q (.ref l) (updO G l (.lst ws))
theorem m_Tup : eTup tl x σ G q = tl x σ G (kTup q) := rfl
theorem m_Lst : eLst tl x σ G q = tl x σ G (kLst q) := rfl
theorem m_kTup (h : ws.length ≤ 64) : kTup q ws G = q (.tup ws) G := propext ⟨fun z => z.2, fun z => ⟨by rw [sizeLine_eq]; omega, z⟩⟩
theorem r_lst' (z : ∀ l, G l = none → q (.ref l) (updO G l (.lst ws))) (h : ws.length ≤ 64 := by exact Nat.le_of_ble_eq_true rfl) : kLst q ws G := ⟨by rw [sizeLine_eq]; omega, z⟩
theorem r_dnew (z : ∀ l, G l = none → q (.ref l) (updO G l (.dct []))) : eDnew x σ G q := z
theorem r_tnew (z : ∀ l, G l = none → q (.ref l) (updO G l (.dtp []))) : eTnew x σ G q := z
def kCB (r : RCop) (q : WK) : List Wv → HW → Prop := fun ws G => r ws G q
variable {rc : RCop}
theorem m_CB : eCB rc tl x σ G q = tl x σ G (kCB rc q) := rfl
theorem m_kCB : kCB rc q ws G = rc ws G q := rfl
def pk1 {α : Type} : Option α → List α → List α
  | some v, l => v :: l
  | none, l => l
theorem m_pk1 {α : Type} {v : α} {l : List α} : pk1 (some v) l = v :: l := rfl
theorem m_pp {α : Type} {i : Nat} {sel : List Sel} {us ks ds : List α} : pick (.p i :: sel) us ks ds = pk1 us[i]? (pick sel us ks ds) := by
  unfold pick
  rw [List.filterMap_cons]
  cases h : us[i]? <;> simp [pk1, h]
theorem m_pkk {α : Type} {i : Nat} {sel : List Sel} {us ks ds : List α} : pick (.k i :: sel) us ks ds = pk1 ks[i]? (pick sel us ks ds) := by
  unfold pick
  rw [List.filterMap_cons]
  cases h : ks[i]? <;> simp [pk1, h]
theorem m_pd {α : Type} {i : Nat} {sel : List Sel} {us ks ds : List α} : pick (.d i :: sel) us ks ds = pk1 ds[i]? (pick sel us ks ds) := by
  unfold pick
  rw [List.filterMap_cons]
  cases h : ds[i]? <;> simp [pk1, h]
theorem m_pn {α : Type} {us ks ds : List α} : pick [] us ks ds = [] := rfl
def kX (x : XW) (σ : SW) : XE := fun cls fs G => x cls fs σ G
theorem m_kX {cls : Value} {fs : List (Str × Wv)} : kX x σ cls fs G = x cls fs σ G := rfl
def kC2 (n m : Nat) (sel : List Sel) (dws : List Wv) (sp : SpW) (ws : List Wv) (x : XW) (σ : SW) (q : WK) : List Wv → HW → Prop := fun zs G => ws.length = n ∧ zs.length = m ∧ sp (pick sel ws zs dws) G q (kX x σ)
def kC1 (n m : Nat) (sel : List Sel) (dws : List Wv) (sp : SpW) (tk : AT) (x : XW) (σ : SW) (q : WK) : List Wv → HW → Prop := fun ws G => tk x σ G (kC2 n m sel dws sp ws x σ q)
variable {n m : Nat} {sel : List Sel} {dws : List Wv} {sp : SpW}
theorem m_Call : eCall n m sel dws sp tl tk x σ G q = tl x σ G (kC1 n m sel dws sp tk x σ q) := rfl
theorem m_kC1 : kC1 n m sel dws sp tk x σ q ws G = tk x σ G (kC2 n m sel dws sp ws x σ q) := rfl
theorem m_kC2 (h1 : ws.length = n) (h2 : zs.length = m) : kC2 n m sel dws sp ws x σ q zs G = sp (pick sel ws zs dws) G q (kX x σ) := propext ⟨fun z => z.2.2, fun z => ⟨h1, h2, z⟩⟩
/-! #### methods -/
variable {to : ET} {rm : RMop} {T : String}
def kM1 (rm : RMop) (w : Wv) (q : WK) : List Wv → HW → Prop := fun ws G => rm w ws G q
def kM (T : String) (rm : RMop) (tl : AT) (x : XW) (σ : SW) (q : WK) : WK := fun w G => TyM T w G ∧ tl x σ G (kM1 rm w q)
def kM0 (T : String) (rm : RMop) (q : WK) : WK := fun w G => TyM T w G ∧ rm w [] G q
theorem m_BM : eBM T rm to tl x σ G q = to x σ G (kM T rm tl x σ q) := rfl
theorem m_BM0 : eBM0 T rm to x σ G q = to x σ G (kM0 T rm q) := rfl
theorem m_kM1 : kM1 rm w q ws G = rm w ws G q := rfl
theorem r_M (h : TyM T w G) (z : tl x σ G (kM1 rm w q)) : kM T rm tl x σ q w G := ⟨h, z⟩
/-! #### statements -/
def kSeq (u : ST) (D : EndsW) : EndsW := { D with nx := u D }
variable {S U : ST}
theorem m_Seq : sSeq S U D σ G = S (kSeq U D) σ G := rfl
theorem m_Seq_nx : (kSeq U D).nx σ G = U D σ G := rfl
theorem m_Seq_rt : (kSeq U D).rt = D.rt := rfl
theorem m_Seq_bk : (kSeq U D).bk = D.bk := rfl
theorem m_Seq_ct : (kSeq U D).ct = D.ct := rfl
theorem m_Seq_ex : (kSeq U D).ex = D.ex := rfl
theorem m_Next : sNext D σ G = D.nx σ G := rfl
theorem m_Brk : sBrk D σ G = D.bk σ G := rfl
theorem m_Cont : sCont D σ G = D.ct σ G := rfl
def kEx (D : EndsW) (σ : SW) : WK := fun _ G => D.nx σ G
theorem m_Expr : sExpr ta D σ G = ta D.ex σ G (kEx D σ) := rfl
theorem m_kEx : kEx D σ w G = D.nx σ G := rfl
theorem m_Ret : sRet ta D σ G = ta D.ex σ G D.rt := rfl
theorem m_RetN : sRetN D σ G = D.rt .non G := rfl
def kSIf (S U : ST) (D : EndsW) (σ : SW) : Bool → HW → Prop := fun k G => match k with
  | true => S D σ G
  | false => U D σ G
theorem m_SIf : sIf A S U D σ G = A D.ex σ G (kSIf S U D σ) := rfl
theorem m_kSIft : kSIf S U D σ true G = S D σ G := rfl
theorem m_kSIff : kSIf S U D σ false G = U D σ G := rfl
def kSet (i : Nat) (D : EndsW) (σ : SW) : WK := fun w G => D.nx (σ.set i (some w)) G
theorem m_Set {i : Nat} : sSet i ta D σ G = ta D.ex σ G (kSet i D σ) := rfl
theorem m_kSet {i : Nat} : kSet i D σ w G = D.nx (σ.set i (some w)) G := rfl
def kPar (i j : Nat) (D : EndsW) (σ : SW) : List Wv → HW → Prop := fun ws G => match ws with
  | [v, w] => D.nx ((σ.set i (some v)).set j (some w)) G
  | _ => False
theorem m_Par {i j : Nat} : sPar i j tl D σ G = tl D.ex σ G (kPar i j D σ) := rfl
theorem m_kPar {i j : Nat} {v w : Wv} : kPar i j D σ [v, w] G = D.nx ((σ.set i (some v)).set j (some w)) G := rfl
def kPar3 (i j k : Nat) (D : EndsW) (σ : SW) : List Wv → HW → Prop := fun ws G => match ws with
  | [u, v, w] => D.nx (((σ.set i (some u)).set j (some v)).set k (some w)) G
  | _ => False
theorem m_Par3 {i j k : Nat} : sPar3 i j k tl D σ G = tl D.ex σ G (kPar3 i j k D σ) := rfl
theorem m_kPar3 {i j k : Nat} {u v w : Wv} : kPar3 i j k D σ [u, v, w] G = D.nx (((σ.set i (some u)).set j (some v)).set k (some w)) G := rfl
variable {g : GT} {gs : GTs} {s : SW → HW → Prop}
def kAsg (g : GT) (D : EndsW) (σ : SW) : WK := fun w G => g D.ex w σ G D.nx
theorem m_Asg : sAsg ta g D σ G = ta D.ex σ G (kAsg g D σ) := rfl
theorem m_kAsg : kAsg g D σ w G = g D.ex w σ G D.nx := rfl
theorem m_gNm {i : Nat} : gNm i x w σ G s = s (σ.set i (some w)) G := rfl
def kG (gs : GTs) (x : XW) (ws : List Wv) (s : SW → HW → Prop) : SW → HW → Prop := fun σ G => gs x ws σ G s
theorem m_kG : kG gs x ws s σ G = gs x ws σ G s := rfl
theorem m_gNo : gNo x [] σ G s = s σ G := propext ⟨fun z => z.2, fun z => ⟨rfl, z⟩⟩
theorem m_gMo : gMo g gs x (w :: ws) σ G s = g x w σ G (kG gs x ws s) := rfl
theorem m_gTu (h : ws.length = n) : gTu n gs x (.tup ws) σ G s = gs x ws σ G s := propext ⟨fun z => z.2, fun z => ⟨h, z⟩⟩
def kW2 (o i : Wv) (σ : SW) (s : SW → HW → Prop) : HW → Prop := fun G => s σ G
def kGs2 (o w : Wv) (σ : SW) (s : SW → HW → Prop) : WK := fun i G => wSet o i w G (kW2 o i σ s)
def kGs (ta : ET) (x : XW) (w : Wv) (σ : SW) (s : SW → HW → Prop) : WK := fun o G => ta x σ G (kGs2 o w σ s)
theorem m_gSb : gSb to ta x w σ G s = to x σ G (kGs ta x w σ s) := rfl
theorem m_kGs {o : Wv} : kGs ta x w σ s o G = ta x σ G (kGs2 o w σ s) := rfl
theorem m_kGs2 {o i : Wv} : kGs2 o w σ s i G = wSet o i w G (kW2 o i σ s) := rfl
theorem m_kW2 {o i : Wv} : kW2 o i σ s G = s σ G := rfl
def kAu2 (i : Nat) (D : EndsW) (σ : SW) : WK := fun z G => D.nx (σ.set i (some z)) G
def kAu (i : Nat) (r : RWop) (w : Wv) (D : EndsW) (σ : SW) : WK := fun w2 G => r w w2 G (kAu2 i D σ)
def kAug (i : Nat) (ta : ET) (r : RWop) (D : EndsW) (σ : SW) : WK := fun w G => ta D.ex σ G (kAu i r w D σ)
theorem m_Aug {i : Nat} : sAug i ta r D σ G = kV (σ[i]?) (kAug i ta r D σ) G := rfl
theorem m_kAug {i : Nat} : kAug i ta r D σ w G = ta D.ex σ G (kAu i r w D σ) := rfl
theorem m_kAu {i : Nat} {w2 : Wv} : kAu i r w D σ w2 G = r w w2 G (kAu2 i D σ) := rfl
theorem m_kAu2 {i : Nat} : kAu2 i D σ w G = D.nx (σ.set i (some w)) G := rfl
/-! #### raising -/
def kMk (C : Addr) (f : Str) (q : Value → List (Str × Wv) → HW → Prop) : WK := fun w G => q (.ref C) [(f, w)] G
variable {mk : MT} {rq : Value → List (Str × Wv) → HW → Prop}
theorem m_mk1 {C : Addr} {f : Str} : mk1 C f ta x σ G rq = ta x σ G (kMk C f rq) := rfl
theorem m_kMk {C : Addr} {f : Str} : kMk C f rq w G = rq (.ref C) [(f, w)] G := rfl
theorem m_Raise : sRaise mk D σ G = mk D.ex σ G (kX D.ex σ) := rfl
theorem m_ends_rt {xe : XE} : (endsW q xe).rt = q := rfl
theorem m_ends_ex {xe : XE} {cls : Value} {fs : List (Str × Wv)} : (endsW q xe).ex cls fs σ G = xe cls fs G := rfl
theorem m_ends_nx {xe : XE} : (endsW q xe).nx σ G = q .non G := rfl
/-! #### ops on plain values -/
theorem m_add {i j : Int} : wAdd (.int i) (.int j) G q = q (.int (i + j)) G := rfl
theorem m_addB {i : Int} {k : Bool} : wAdd (.int i) (.bl k) G q = q (.int (i + b2i k)) G := rfl
theorem m_sub {f : Int → Int → Wv} {i j : Int} : wI0 f (.int i) (.int j) G q = q (f i j) G := rfl
theorem r_int {C : Int → Int → Prop} {f : Int → Int → Wv} {i j : Int} (h : C i j) (z : q (f i j) G) : wI C f (.int i) (.int j) G q := ⟨h, z⟩
theorem r_mul {i j : Int} (h : CMul i j) (z : q (.int (i * j)) G) : wMul (.int i) (.int j) G q := ⟨h, z⟩
theorem m_eqI {i j : Int} : wEq (.int i) (.int j) G q = q (.bl (decide (i = j))) G := rfl
theorem m_eqS {i j : Str} : wEq (.str i) (.str j) G q = q (.bl (decide (i = j))) G := rfl
theorem m_neI {i j : Int} : wNe (.int i) (.int j) G q = q (.bl (!decide (i = j))) G := rfl
theorem m_neS {i j : Str} : wNe (.str i) (.str j) G q = q (.bl (!decide (i = j))) G := rfl
theorem m_isB {i j : Bool} : wIs (.bl i) (.bl j) G q = q (.bl (decide (i = j))) G := rfl
theorem m_isN {w : Wv} : wIs w .non G q = q (.bl (isNon w)) G := by cases w <;> rfl
theorem m_isNotN {w : Wv} : wIsNot w .non G q = q (.bl (!isNon w)) G := by cases w <;> rfl
theorem m_nonN : isNon .non = true := rfl
theorem m_nonR {a : Addr} : isNon (.ref a) = false := rfl
theorem m_nonT {us : List Wv} : isNon (.tup us) = false := rfl
theorem m_nonI {i : Int} : isNon (.int i) = false := rfl
theorem m_nonS {i : Str} : isNon (.str i) = false := rfl
theorem m_nonB {i : Bool} : isNon (.bl i) = false := rfl
theorem m_lenT {us : List Wv} : wLen [.tup us] G q = q (.int us.length) G := rfl
theorem m_lenKt {us : List Wv} : wLen [.ktp us] G q = q (.int us.length) G := rfl
theorem m_lenK {us : List Wv} : wLen [.kls us] G q = q (.int us.length) G := rfl
theorem m_tupT {us : List Wv} : wTuple [.tup us] G q = q (.tup us) G := rfl
theorem m_max {i j : Int} : wMax [.int i, .int j] G q = q (.int (if j > i then j else i)) G := rfl
theorem m_min {i j : Int} : wMin [.int i, .int j] G q = q (.int (if j < i then j else i)) G := rfl
theorem m_intI {i : Int} : wIntOf [.int i] G q = q (.int i) G := rfl
theorem m_intB {k : Bool} : wIntOf [.bl k] G q = q (.int (if k then 1 else 0)) G := rfl
theorem r_isi {K : PySem.W.Frag} {c : Wv} {t u : Value} {k : Bool} (y : TyW K G w t) (c' : ClW c u) (e : PySem.W.kitOne K t u = some k) (z : q (.bl k) G) : wIsi K [w, c] G q := by
  unfold wIsi
  cases c <;> first | exact ⟨t, u, k, y, c', e, z⟩ | exact c'.elim
theorem r_isiT {K : PySem.W.Frag} {cs : List Wv} {t : Value} {us : List Value} {k : Bool} (y : TyW K G w t) (c' : ClWs cs us) (e : PySem.W.kitAny K t us = some k) (z : q (.bl k) G) : wIsi K [w, .tup cs] G q := ⟨t, us, k, y, c', e, z⟩
theorem r_len {p : Addr} {us : List Wv} (h : RdL G p us) (z : q (.int us.length) G) : wLen [.ref p] G q := .inl ⟨us, h, z⟩
theorem r_ixT {i : Int} {us : List Wv} {y : Wv} (h : atI us i = some y) (z : q y G) : wIx (.tup us) (.int i) G q := ⟨i, y, rfl, h, z⟩
theorem r_ixL {p : Addr} {i : Int} {us : List Wv} {y : Wv} (hl : RdL G p us) (h : atI us i = some y) (z : q y G) : wIx (.ref p) (.int i) G q := .inl ⟨us, i, y, rfl, hl, h, z⟩
theorem r_ixD {p : Addr} {k : Wv} {key : Key} {kvs : List (Key × Wv)} {y : Wv} (hl : G p = some (.dct kvs)) (hk : keyOf k = some key) (h : lkW kvs key = some y) (z : q y G) : wIx (.ref p) k G q := by
  refine .inr ⟨y, ?_, z⟩
  cases k <;> cases hk <;> exact ⟨kvs, _, hl, rfl, h.symm⟩
variable {hq : HW → Prop}
theorem r_setL {p : Addr} {us : List Wv} {i : Int} {j : Nat} {v : Wv} (hl : G p = some (.lst us)) (hj : ixN us.length i = some j) (z : hq (updO G p (.lst (us.set j v)))) : wSet (.ref p) (.int i) v G hq := .inl ⟨us, i, j, rfl, hl, hj, z⟩
theorem r_setD {p : Addr} {k v : Wv} {key : Key} {kvs kvs' : List (Key × Wv)} (hl : G p = some (.dct kvs)) (hk : keyOf k = some key) (hz : kvs.length < sizeLine) (e : pkW kvs key v = kvs') (z : hq (updO G p (.dct kvs'))) : wSet (.ref p) k v G hq := by
  subst e
  refine .inr ⟨_, ?_, z⟩
  cases k <;> cases hk <;> exact ⟨kvs, _, hl, rfl, hz, rfl⟩
theorem r_setDT {p : Addr} {ks : List Wv} {v : Wv} {key : List Key} {kvs kvs' : List (List Key × Wv)} (hl : G p = some (.dtp kvs)) (hk : keysOf ks = some key) (hz : kvs.length < sizeLine) (e : pkW kvs key v = kvs') (z : hq (updO G p (.dtp kvs'))) : wSet (.ref p) (.tup ks) v G hq := by
  subst e
  exact .inr ⟨_, ⟨kvs, key, hl, hk, hz, rfl⟩, z⟩
theorem r_addS {xs ys : Str} (hz : xs.length + ys.length ≤ sizeLine) (z : q (.str (xs ++ ys)) G) : wAdd (.str xs) (.str ys) G q := ⟨hz, z⟩
theorem r_slL {p : Addr} {us : List Wv} (h : RdL G p us) (z : ∀ l, G l = none → q (.ref l) (updO G l (.lst (cutL us lo hi)))) : wSl (.ref p) lo hi G q := ⟨us, h, z⟩
theorem r_all {p : Addr} {bs : List Bool} (h : RdL G p (bs.map .bl)) (z : q (.bl (bs.all id)) G) : wAll [.ref p] G q := ⟨bs, h, z⟩
theorem r_tupL {p : Addr} {us : List Wv} (h : RdL G p us) (z : q (.tup us) G) : wTuple [.ref p] G q := ⟨us, h, z⟩
theorem r_listT {us : List Wv} (z : ∀ l, G l = none → q (.ref l) (updO G l (.lst us))) : wList [.tup us] G q := z
theorem r_listL {p : Addr} {us : List Wv} (h : RdL G p us) (z : ∀ l, G l = none → q (.ref l) (updO G l (.lst us))) : wList [.ref p] G q := ⟨us, h, z⟩
theorem r_app {p : Addr} {us : List Wv} {y : Wv} (h : G p = some (.lst us)) (hz : us.length < sizeLine) (z : q .non (updO G p (.lst (us ++ [y])))) : wAppend (.ref p) [y] G q := ⟨us, h, hz, z⟩
end
/-! ### displays, errors, tries, long repetitions -/
section
variable {x : XW} {σ : SW} {G : HW} {q : WK} {D : EndsW} {ta t : ET} {K : PySem.W.Frag} {w : Wv}
abbrev PrK := List (Key × Wv) → HW → Prop
def kPr2 (k : Str) (w : Wv) (l : PrK) : PrK := fun ws G => l ((.inr k, w) :: ws) G
def kPr (r : List (Str × ET)) (k : Str) (x : XW) (σ : SW) (l : PrK) : WK := fun w G => ePairs r x σ G (kPr2 k w l)
theorem m_pr0 {l : PrK} : ePairs [] x σ G l = l [] G := rfl
theorem m_pr {k : Str} {r : List (Str × ET)} {l : PrK} : ePairs ((k, t) :: r) x σ G l = t x σ G (kPr r k x σ l) := rfl
theorem m_kpr {k : Str} {r : List (Str × ET)} {l : PrK} : kPr r k x σ l w G = ePairs r x σ G (kPr2 k w l) := rfl
theorem m_kpr2 {k : Str} {l : PrK} {ws : List (Key × Wv)} : kPr2 k w l ws G = l ((.inr k, w) :: ws) G := rfl
def kDisp (p : Addr) (q : WK) : PrK := fun ws G2 => G2 p = some (.dct []) ∧ q (.ref p) (updO G2 p (.dct (mergeW [] ws)))
theorem r_disp {ks : List (Str × ET)} (z : ∀ p, G p = none → ePairs ks x σ (updO G p (.dct [])) (kDisp p q)) : eDisp ks x σ G q := z
theorem r_kdisp {p : Addr} {ws kvs : List (Key × Wv)} (h : G p = some (.dct [])) (e : mergeW [] ws = kvs) (z : q (.ref p) (updO G p (.dct kvs))) : kDisp p q ws G := ⟨h, by rw [e]; exact z⟩
def kXf (K : PySem.W.Frag) (f : Str) (q : WK) : WK := fun w G1 => match w with
  | .ref a => ∃ (C : Addr) (fs : List (Str × Wv)) (y : Wv), G1 a = some (.exc a (.ref C) fs) ∧ XfC K C ∧ PySem.W.findIn K (.ref C) f = some none ∧ fs.lookup f = some y ∧ q y G1
  | _ => False
theorem m_Xf {f : Str} : eXf K f ta x σ G q = ta x σ G (kXf K f q) := rfl
def kSuite (i : Nat) (a : Addr) (cls : Value) (fs : List (Str × Wv)) (D : EndsW) : EndsW := { nx := fun σ2 G2 => D.nx (σ2.set i none) (updO G2 a (.exc a cls fs)), rt := D.rt, bk := fun σ2 G2 => D.bk (σ2.set i none) G2, ct := fun σ2 G2 => D.ct (σ2.set i none) G2, ex := fun _ _ _ _ => False }
def kTryX (K : PySem.W.Frag) (cs : List Value) (i : Nat) (ts : ST) (D : EndsW) : XW := fun cls fs σ1 G1 => ∃ b, PySem.W.exmAny K cls cs = some b ∧ (b = true → ∀ a, G1 a = none → ts (kSuite i a cls fs D) (σ1.set i (some (.ref a))) G1) ∧ (b = false → D.ex cls fs σ1 G1)
def kTry (K : PySem.W.Frag) (cs : List Value) (i : Nat) (ts : ST) (D : EndsW) : EndsW := { D with ex := kTryX K cs i ts D }
variable {cs : List Value} {i : Nat} {tb ts : ST} {cls : Value} {fs : List (Str × Wv)} {a : Addr}
theorem m_Try : sTry K cs i tb ts D σ G = tb (kTry K cs i ts D) σ G := rfl
theorem m_Try_nx : (kTry K cs i ts D).nx σ G = D.nx σ G := rfl
theorem m_Try_rt : (kTry K cs i ts D).rt = D.rt := rfl
theorem m_Try_bk : (kTry K cs i ts D).bk σ G = D.bk σ G := rfl
theorem m_Try_ct : (kTry K cs i ts D).ct σ G = D.ct σ G := rfl
theorem m_Try_ex : (kTry K cs i ts D).ex = kTryX K cs i ts D := rfl
theorem r_caught (h : PySem.W.exmAny K cls cs = some true) (z : ∀ a, G a = none → ts (kSuite i a cls fs D) (σ.set i (some (.ref a))) G) : kTryX K cs i ts D cls fs σ G := ⟨true, h, (fun _ => z), (fun e => Bool.noConfusion e)⟩
theorem m_Suite_nx : (kSuite i a cls fs D).nx σ G = D.nx (σ.set i none) (updO G a (.exc a cls fs)) := rfl
theorem m_Suite_rt : (kSuite i a cls fs D).rt = D.rt := rfl
theorem m_Suite_bk : (kSuite i a cls fs D).bk σ G = D.bk (σ.set i none) G := rfl
theorem m_Suite_ct : (kSuite i a cls fs D).ct σ G = D.ct (σ.set i none) G := rfl
variable {tl : TlT} {f : Addr} {HL : Hp} {P0 : Addr} {q0 : Str} {sp : SpT}
def kXe (x : XW) (σ : SW) : XE := fun cls fs G => x cls fs σ G
theorem m_kXe : kXe x σ cls fs G = x cls fs σ G := rfl
theorem r_deed (h : σ[i]? = some (some (.fn f HL))) (z : tl (kXe x σ) G q) : eDeed i f HL tl x σ G q := ⟨h, z⟩
theorem r_tell (h : G P0 = some (.tab q0)) (z : sp (tlOf ta σ) G q (kXe x σ)) : eTell P0 q0 sp ta x σ G q := ⟨h, z⟩
def kXo (xe : XE) : XW := fun cls fs _ G => xe cls fs G
theorem m_kXo {xe : XE} : kXo xe cls fs σ G = xe cls fs G := rfl
theorem m_tlOf {xe : XE} : tlOf ta σ xe G q = ta (kXo xe) σ G q := rfl
end
/-! ### heaps that grow -/
def Ext (G G' : HW) : Prop := ∀ a o, G a = some o → G' a = some o
/-- all but those of S stay -/
def Kp (S : List Addr) (G G' : HW) : Prop := ∀ a o, a ∉ S → G a = some o → G' a = some o
section
variable {G G' G1 G2 : HW} {a p : Addr} {o : O} {S : List Addr}
theorem Ext.refl : Ext G G := fun _ _ h => h
theorem Ext.trans (h : Ext G G1) (k : Ext G1 G2) : Ext G G2 := fun a o z => k a o (h a o z)
theorem Ext.new (h : G p = none) : Ext G (updO G p o) := fun a o' z => by
  rw [updO_ne]
  · exact z
  · intro e; rw [e, h] at z; cases z
/-- what was laid behind G may be written -/
theorem Ext.put (h : Ext G G1) (n : G p = none) : Ext G (updO G1 p o) := fun a o' z => by
  rw [updO_ne]
  · exact h a o' z
  · intro e; rw [e, n] at z; cases z
theorem Ext.none (h : Ext G G') (n : G' p = none) : G p = none := by
  cases e : G p with
  | none => rfl
  | some o => rw [h p o e] at n; cases n
theorem Ext.kp (h : Ext G G') : Kp S G G' := fun a o _ z => h a o z
theorem Kp.refl : Kp S G G := fun _ _ _ z => z
theorem Kp.trans (h : Kp S G G1) (k : Kp S G1 G2) : Kp S G G2 := fun a o n z => k a o n (h a o n z)
theorem Kp.put (h : Kp S G G1) (m : p ∈ S) : Kp S G (updO G1 p o) := fun a o' n z => by
  rw [updO_ne]
  · exact h a o' n z
  · intro e; exact n (e ▸ m)
theorem Kp.new (h : Kp S G G1) (m : G p = none) : Kp S G (updO G1 p o) := fun a o' n z => by
  rw [updO_ne]
  · exact h a o' n z
  · intro e; rw [e, m] at z; cases z
theorem Kp.sub {S' : List Addr} (h : Kp S G G') (k : ∀ a ∈ S, a ∈ S') : Kp S' G G' := fun a o n z => h a o (fun q => n (k a q)) z
theorem RdL.ext (h : Ext G G') {ws : List Wv} (r : RdL G a ws) : RdL G' a ws := r.elim (fun z => .inl (h _ _ z)) fun z => .inr (h _ _ z)
theorem ne_of_new {p q : Addr} {o : O} (h : G p = some o) (n : G q = none) : p ≠ q := fun e => by rw [e, n] at h; cases h
end
/-! ### loops and comprehensions -/
section
variable {x : XW} {σ : SW} {G : HW} {q : WK} {D : EndsW} {S : ST} {wi : IT} {g : GT} {te : ET} {tt : QT} {is vs : List Nat} {its : List Wv} {ok : HW → Prop}
def kFor (g : GT) (S : ST) (D : EndsW) (σ : SW) : IK := fun its ok G1 => ∃ P : Nat → SW → HW → Prop, P 0 σ G1 ∧ (∀ i σ G, i ≤ its.length → P i σ G → ok G) ∧
  (∀ i w σ G, its[i]? = some w → P i σ G → g D.ex w σ G fun σ2 G2 => S { D with nx := P (i + 1), ct := P (i + 1), bk := D.nx } σ2 G2) ∧ ∀ σ G, P its.length σ G → D.nx σ G
theorem m_For : sFor wi g S D σ G = wi D.ex σ G (kFor g S D σ) := rfl
def kLoop (D : EndsW) (P : SW → HW → Prop) : EndsW := { D with nx := P, ct := P, bk := D.nx }
theorem m_Loop_nx {P : SW → HW → Prop} : (kLoop D P).nx = P := rfl
theorem m_Loop_ct {P : SW → HW → Prop} : (kLoop D P).ct = P := rfl
theorem m_Loop_bk {P : SW → HW → Prop} : (kLoop D P).bk = D.nx := rfl
theorem m_Loop_rt {P : SW → HW → Prop} : (kLoop D P).rt = D.rt := rfl
theorem m_Loop_ex {P : SW → HW → Prop} : (kLoop D P).ex = D.ex := rfl
def kB (S : ST) (D : EndsW) : SW → HW → Prop := fun σ G => S D σ G
theorem m_kB : kB S D σ G = S D σ G := rfl
theorem r_for (P : Nat → SW → HW → Prop) (h0 : P 0 σ G) (hk : ∀ i σ G, i ≤ its.length → P i σ G → ok G) (hs : ∀ i w σ G, its[i]? = some w → P i σ G → g D.ex w σ G (kB S (kLoop D (P (i + 1))))) (hd : ∀ σ G, P its.length σ G → D.nx σ G) : kFor g S D σ its ok G := ⟨P, h0, hk, hs, hd⟩
/-- what is walked -/
def kIt (q : IK) : WK := fun w G => wIt w G q
theorem m_iSeq {q : IK} : iSeq te x σ G q = te x σ G (kIt q) := rfl
theorem m_kItT {q : IK} {ws : List Wv} : kIt q (.tup ws) G = q ws okT G := rfl
theorem m_kItK {q : IK} {ws : List Wv} : kIt q (.kls ws) G = q ws okT G := rfl
theorem m_kItKt {q : IK} {ws : List Wv} : kIt q (.ktp ws) G = q ws okT G := rfl
theorem m_kItS {q : IK} {z : Str} : kIt q (.str z) G = q (sgW z) okT G := rfl
theorem r_itL {q : IK} {p : Addr} {ws : List Wv} (h : RdL G p ws) (z : q ws (fun G => RdL G p ws) G) : kIt q (.ref p) G := ⟨ws, h, z⟩
def kRg1 (q : IK) : List Wv → HW → Prop := fun ws G => match ws with
  | [.int j] => -(2 ^ 62) ≤ j ∧ j < 2 ^ 62 ∧ q (rgW 0 1 j.toNat) okT G
  | _ => False
def kRg2 (q : IK) : List Wv → HW → Prop := fun ws G => match ws with
  | [.int i, .int j] => (-(2 ^ 62) ≤ i ∧ i < 2 ^ 62 ∧ -(2 ^ 62) ≤ j ∧ j < 2 ^ 62) ∧ q (rgW i 1 (j - i).toNat) okT G
  | _ => False
variable {tl : AT}
theorem m_iRg1 {q : IK} : iRg1 tl x σ G q = tl x σ G (kRg1 q) := rfl
theorem m_iRg2 {q : IK} : iRg2 tl x σ G q = tl x σ G (kRg2 q) := rfl
theorem r_rg1 {q : IK} {j : Int} (h1 : -(2 ^ 62) ≤ j) (h2 : j < 2 ^ 62) (z : q (rgW 0 1 j.toNat) okT G) : kRg1 q [.int j] G := ⟨h1, h2, z⟩
theorem r_rg2 {q : IK} {i j : Int} (h1 : -(2 ^ 62) ≤ i ∧ i < 2 ^ 62 ∧ -(2 ^ 62) ≤ j ∧ j < 2 ^ 62) (z : q (rgW i 1 (j - i).toNat) okT G) : kRg2 q [.int i, .int j] G := ⟨h1, z⟩
def kEnu (q : IK) : List Wv → HW → Prop := fun ws G => match ws with
  | [.ref r] => ∃ us, RdL G r us ∧ q (enW us) (fun G => RdL G r us) G
  | [.kls us] => q (enW us) okT G
  | _ => False
theorem m_iEnu {q : IK} : iEnu tl x σ G q = tl x σ G (kEnu q) := rfl
theorem m_kEnuK {q : IK} {us : List Wv} : kEnu q [.kls us] G = q (enW us) okT G := rfl
theorem r_enu {q : IK} {r : Addr} {us : List Wv} (h : RdL G r us) (z : q (enW us) (fun G => RdL G r us) G) : kEnu q [.ref r] G := ⟨us, h, z⟩
def kZp (q : IK) : List Wv → HW → Prop := fun ws G => match ws with
  | [.ref r, .ref r'] => ∃ us vs, RdL G r us ∧ RdL G r' vs ∧ q (zpW us vs) (fun G => RdL G r us ∧ RdL G r' vs) G
  | [.tup us, .tup vs] => q (zpW us vs) okT G
  | _ => False
theorem m_iZp {q : IK} : iZp tl x σ G q = tl x σ G (kZp q) := rfl
theorem m_kZpT {q : IK} {us vs : List Wv} : kZp q [.tup us, .tup vs] G = q (zpW us vs) okT G := rfl
def kRv (q : IK) : WK := fun w G => match w with
  | .tup ws => q ws.reverse okT G
  | .ref r => ∃ ws, RdL G r ws ∧ q ws.reverse (fun G => RdL G r ws) G
  | _ => False
theorem m_iRv {q : IK} : iRv te x σ G q = te x σ G (kRv q) := rfl
theorem m_kRvT {q : IK} {ws : List Wv} : kRv q (.tup ws) G = q ws.reverse okT G := rfl
def kLc (is vs : List Nat) (tt : QT) (te : ET) (x : XW) (σ : SW) (q : WK) : IK := fun its ok G1 => ∀ D, G1 D = none → ∃ P : Nat → HW → Prop, P 0 (updO G1 D (.lst [])) ∧ (∀ i G, i ≤ its.length → P i G → ok G) ∧
  (∀ i w G, its[i]? = some w → P i G → ∃ σ2, inTo is w (wipeW σ vs) = some σ2 ∧ tt x0 σ2 G fun k G3 => match k with
    | true => te x0 σ2 G3 fun y G4 => ∃ acc, G4 D = some (.lst acc) ∧ acc.length < sizeLine ∧ P (i + 1) (updO G4 D (.lst (acc ++ [y])))
    | false => P (i + 1) G3) ∧ ∀ G, P its.length G → q (.ref D) G
theorem m_Lc : eLc wi is vs tt te x σ G q = wi x σ G (kLc is vs tt te x σ q) := rfl
/-- what a turn of a comprehension gives -/
def kCell (k : Option Wv → HW → Prop) : WK := fun y G => k (some y) G
def kTurn (te : ET) (σ2 : SW) (k : Option Wv → HW → Prop) : Bool → HW → Prop := fun b G => match b with
  | true => te x0 σ2 G (kCell k)
  | false => k none G
theorem m_kCell {k : Option Wv → HW → Prop} {w : Wv} : kCell k w G = k (some w) G := rfl
theorem m_kTurnT {k : Option Wv → HW → Prop} {σ2 : SW} : kTurn te σ2 k true G = te x0 σ2 G (kCell k) := rfl
theorem m_kTurnF {k : Option Wv → HW → Prop} {σ2 : SW} : kTurn te σ2 k false G = k none G := rfl
/-- a comprehension by a word of the items gathered so far -/
theorem r_lcI (P : Nat → List Wv → HW → Prop) (hl : its.length ≤ sizeLine)
    (h0 : ∀ D, G D = none → P 0 [] (updO G D (.lst [])))
    (hk : ∀ i acc G', i ≤ its.length → P i acc G' → ok G')
    (hp : ∀ i acc G' D ys, G D = none → P i acc G' → P i acc (updO G' D (.lst ys)))
    (hs : ∀ i w acc G' (k : Option Wv → HW → Prop), its[i]? = some w → P i acc G' → (∀ y G2, P (i + 1) (match y with | some z => acc ++ [z] | none => acc) G2 → (∀ D ys, G D = none → G' D = some (.lst ys) → G2 D = some (.lst ys)) → k y G2) → ∃ σ2, inTo is w (wipeW σ vs) = some σ2 ∧ tt x0 σ2 G' (kTurn te σ2 k))
    (hd : ∀ D acc G', G D = none → P its.length acc G' → G' D = some (.lst acc) → q (.ref D) G') : kLc is vs tt te x σ q its ok G := by
  intro D hD
  refine ⟨fun i G' => ∃ acc, acc.length ≤ i ∧ P i acc G' ∧ G' D = some (.lst acc), ⟨[], Nat.le_refl _, h0 D hD, updO_same⟩, fun i G' hi ⟨acc, _, z, _⟩ => hk i acc G' hi z, fun i w G' ew ⟨acc, hl2, z, e⟩ => ?_, fun G' ⟨acc, _, z, e⟩ => hd D acc G' hD z e⟩
  have hi : i < its.length := by
    rcases Nat.lt_or_ge i its.length with h | h
    · exact h
    · rw [List.getElem?_eq_none h] at ew; cases ew
  obtain ⟨σ2, e2, hq⟩ := hs i w acc G' (fun y G2 => match y with
    | some y => ∃ acc, G2 D = some (.lst acc) ∧ acc.length < sizeLine ∧ ∃ acc', acc'.length ≤ i + 1 ∧ P (i + 1) acc' (updO G2 D (.lst (acc ++ [y]))) ∧ (updO G2 D (.lst (acc ++ [y]))) D = some (.lst acc')
    | none => ∃ acc', acc'.length ≤ i + 1 ∧ P (i + 1) acc' G2 ∧ G2 D = some (.lst acc')) ew z (fun y G2 z2 hD2 => by
      cases y with
      | some y => exact ⟨acc, hD2 D acc hD e, by omega, acc ++ [y], by simp; omega, hp _ _ _ _ _ hD z2, updO_same⟩
      | none => exact ⟨acc, by omega, z2, hD2 D acc hD e⟩)
  refine ⟨σ2, e2, ?_⟩
  have eqk : (kTurn te σ2 (fun y G2 => match y with
    | some y => ∃ acc, G2 D = some (.lst acc) ∧ acc.length < sizeLine ∧ ∃ acc', acc'.length ≤ i + 1 ∧ P (i + 1) acc' (updO G2 D (.lst (acc ++ [y]))) ∧ (updO G2 D (.lst (acc ++ [y]))) D = some (.lst acc')
    | none => ∃ acc', acc'.length ≤ i + 1 ∧ P (i + 1) acc' G2 ∧ G2 D = some (.lst acc'))) = (fun k G3 => match k with
    | true => te x0 σ2 G3 fun y G4 => ∃ acc, G4 D = some (.lst acc) ∧ acc.length < sizeLine ∧ ∃ acc', acc'.length ≤ i + 1 ∧ P (i + 1) acc' (updO G4 D (.lst (acc ++ [y]))) ∧ (updO G4 D (.lst (acc ++ [y]))) D = some (.lst acc')
    | false => ∃ acc', acc'.length ≤ i + 1 ∧ P (i + 1) acc' G3 ∧ G3 D = some (.lst acc')) := by
    funext k G3
    cases k <;> rfl
  rw [← eqk]
  exact hq
/-- what is gathered -/
def gath (f : Nat → Wv → Option Wv) : Nat → List Wv → List Wv
  | _, [] => []
  | i, w :: ws => pk1 (f i w) (gath f (i + 1) ws)
theorem gath_take {f : Nat → Wv → Option Wv} {w : Wv} : ∀ {ws : List Wv} {i j : Nat}, ws[i]? = some w → gath f j (ws.take (i + 1)) = gath f j (ws.take i) ++ (f (j + i) w).toList
  | [], i, j, e => by simp at e
  | a :: ws, 0, j, e => by
    simp at e
    subst e
    simp only [List.take_succ_cons, List.take_zero, gath, Nat.add_zero]
    cases f j a <;> rfl
  | a :: ws, i + 1, j, e => by
    have ih := gath_take (f := f) (j := j + 1) (i := i) (ws := ws) (by simpa using e)
    rw [List.take_succ_cons, List.take_succ_cons]
    show pk1 (f j a) (gath f (j + 1) (ws.take (i + 1))) = pk1 (f j a) (gath f (j + 1) (ws.take i)) ++ _
    rw [ih, show j + 1 + i = j + (i + 1) from by omega]
    cases f j a <;> rfl
/-- a comprehension whose turns only lay anew -/
theorem r_lc (f : Nat → Wv → Option Wv) (hl : its.length ≤ sizeLine) (hk : ∀ G', Ext G G' → ok G')
    (hs : ∀ i w G' (k : Option Wv → HW → Prop), its[i]? = some w → Ext G G' → (∀ G2, Ext G' G2 → k (f i w) G2) → ∃ σ2, inTo is w (wipeW σ vs) = some σ2 ∧ tt x0 σ2 G' (kTurn te σ2 k))
    (hd : ∀ D G', G D = none → Ext G G' → G' D = some (.lst (gath f 0 its)) → q (.ref D) G') : kLc is vs tt te x σ q its ok G := by
  refine r_lcI (fun i acc G' => Ext G G' ∧ acc = gath f 0 (its.take i)) hl (fun D hD => ⟨Ext.new hD, by simp [gath]⟩) (fun i acc G' _ z => hk G' z.1) (fun i acc G' D ys hD z => ⟨z.1.put hD, z.2⟩)
    (fun i w acc G' k ew ⟨z1, z2⟩ hq => hs i w G' k ew z1 fun G2 e2 => hq _ G2 ⟨z1.trans e2, ?_⟩ fun D ys _ h => e2 _ _ h)
    (fun D acc G' hD z e => hd D G' hD z.1 (by rw [e, z.2, List.take_length]))
  rw [gath_take ew, Nat.zero_add, z2]
  cases f i w <;> simp
end
end LF
/-! LF15: kinds of values, data, what is equal -/
namespace LF
open PySem PySem.Spec PyProof.Rows L2
section
variable {K : PySem.W.Frag} {G G' : HW} {w : Wv}
/-! ### kinds -/
def TyIs (K : PySem.W.Frag) (G : HW) (w : Wv) (n : String) (b : Bool) : Prop := ∃ t, TyW K G w t ∧ PySem.W.kitOne K t (.type n) = some b
theorem TyW.ext (h : Ext G G') {t : Value} (y : TyW K G w t) : TyW K G' w t := by
  cases w with
  | ref p =>
    show TyO K p (G' p) t
    have y : TyO K p (G p) t := y
    cases e : G p with
    | none => rw [e] at y; exact y.elim
    | some o => rw [h p o e]; rw [e] at y; exact y
  | _ => exact y
theorem TyIs.ext (h : Ext G G') {n : String} {b : Bool} (y : TyIs K G w n b) : TyIs K G' w n b := let ⟨t, a, e⟩ := y; ⟨t, a.ext h, e⟩
def isI : Wv → Bool
  | .int _ => true
  | .bl _ => true
  | _ => false
def isBl : Wv → Bool
  | .bl _ => true
  | _ => false
def isSt : Wv → Bool
  | .str _ => true
  | _ => false
def isTp : Wv → Bool
  | .tup _ => true
  | _ => false
def isLs (G : HW) : Wv → Bool
  | .ref p => match G p with
    | some (.lst _) => true
    | some (.flst _) => true
    | _ => false
  | _ => false
def isDc (G : HW) : Wv → Bool
  | .ref p => match G p with
    | some (.dct _) => true
    | some (.dtp _) => true
    | _ => false
  | _ => false
/-- what is asked of a value's kind is known -/
structure Kn (K : PySem.W.Frag) (G : HW) (w : Wv) : Prop where
  i : TyIs K G w "int" (isI w)
  b : TyIs K G w "bool" (isBl w)
  s : TyIs K G w "str" (isSt w)
  t : TyIs K G w "tuple" (isTp w)
  l : TyIs K G w "list" (isLs G w)
  d : TyIs K G w "dict" (isDc G w)
theorem Kn.has {p : Addr} (h : Kn K G (.ref p)) : ∃ o, G p = some o := by
  obtain ⟨t, y, _⟩ := h.i
  have y : TyO K p (G p) t := y
  cases e : G p with
  | none => rw [e] at y; exact y.elim
  | some o => exact ⟨o, rfl⟩
theorem Kn.ext (h : Ext G G') (k : Kn K G w) : Kn K G' w := by
  have e : isLs G' w = isLs G w ∧ isDc G' w = isDc G w := by
    cases w with
    | ref p =>
      obtain ⟨o, e⟩ := k.has
      unfold isLs isDc
      dsimp only
      rw [e, h p o e]
      exact ⟨rfl, rfl⟩
    | _ => exact ⟨rfl, rfl⟩
  exact ⟨k.i.ext h, k.b.ext h, k.s.ext h, k.t.ext h, by rw [e.1]; exact k.l.ext h, by rw [e.2]; exact k.d.ext h⟩
theorem kn_non : Kn K G .non := ⟨⟨_, rfl, rfl⟩, ⟨_, rfl, rfl⟩, ⟨_, rfl, rfl⟩, ⟨_, rfl, rfl⟩, ⟨_, rfl, rfl⟩, ⟨_, rfl, rfl⟩⟩
theorem kn_bl {b : Bool} : Kn K G (.bl b) := ⟨⟨_, rfl, rfl⟩, ⟨_, rfl, rfl⟩, ⟨_, rfl, rfl⟩, ⟨_, rfl, rfl⟩, ⟨_, rfl, rfl⟩, ⟨_, rfl, rfl⟩⟩
theorem kn_int {i : Int} : Kn K G (.int i) := ⟨⟨_, rfl, rfl⟩, ⟨_, rfl, rfl⟩, ⟨_, rfl, rfl⟩, ⟨_, rfl, rfl⟩, ⟨_, rfl, rfl⟩, ⟨_, rfl, rfl⟩⟩
theorem kn_str {i : Str} : Kn K G (.str i) := ⟨⟨_, rfl, rfl⟩, ⟨_, rfl, rfl⟩, ⟨_, rfl, rfl⟩, ⟨_, rfl, rfl⟩, ⟨_, rfl, rfl⟩, ⟨_, rfl, rfl⟩⟩
theorem kn_tup {ws : List Wv} : Kn K G (.tup ws) := ⟨⟨_, rfl, rfl⟩, ⟨_, rfl, rfl⟩, ⟨_, rfl, rfl⟩, ⟨_, rfl, rfl⟩, ⟨_, rfl, rfl⟩, ⟨_, rfl, rfl⟩⟩
variable {q : WK}
theorem r_ty {n : String} {b : Bool} (y : TyIs K G w n b) (z : q (.bl b) G) : wIsi K [w, .ty n] G q := let ⟨t, a, e⟩ := y; r_isi a rfl e z
/-! ### whole numbers, configurations -/
def isWh (w : Wv) (lo hi : Int) : Bool := match w with
  | .int i => decide (lo ≤ i) && decide (i ≤ hi)
  | _ => false
def SpWhole (K : PySem.W.Frag) : SpW := fun ws G q _ => ∃ w lo hi, ws = [w, .int lo, .int hi] ∧ Kn K G w ∧ q (.bl (isWh w lo hi)) G
def pairLt : Wv → Bool
  | .tup [.int a, .int b] => decide (a < b)
  | _ => false
def rises (ws : List Wv) : Bool := (zpW ws (ws.drop 1)).all pairLt
def isConf (w : Wv) (n : Int) : Bool := match w with
  | .tup ws => decide ((ws.length : Int) ≤ n) && (ws.all (isWh · 0 (n - 1)) && rises ws)
  | _ => false
/-- what a check of w looks into is known -/
def KnD (K : PySem.W.Frag) (G : HW) (n : Int) (w : Wv) : Prop := Kn K G w ∧ ∀ ws, w = .tup ws → (ws.length : Int) ≤ n → ∀ y ∈ ws, Kn K G y
theorem KnD.ext (h : Ext G G') {n : Int} (k : KnD K G n w) : KnD K G' n w := ⟨k.1.ext h, fun ws e l y m => (k.2 ws e l y m).ext h⟩
theorem knD_tup {n : Int} {ws : List Wv} (h : ∀ y ∈ ws, Kn K G y) : KnD K G n (.tup ws) := ⟨kn_tup, fun ws' e _ => by cases e; exact h⟩
/-- a configuration is a rising tuple of ints in range -/
def Cfg (ns : List Int) (n : Int) : Prop := (ns.length : Int) ≤ n ∧ (∀ i ∈ ns, 0 ≤ i ∧ i < n) ∧ ns.Pairwise (· < ·)
/-! ### comprehensions of truths -/
theorem gath_map (f : Wv → Wv) : ∀ (ws : List Wv) (i : Nat), gath (fun _ w => some (f w)) i ws = ws.map f
  | [], _ => rfl
  | w :: ws, i => congrArg (f w :: ·) (gath_map f ws (i + 1))
theorem gath_filter (p : Wv → Bool) (f : Wv → Wv) : ∀ (ws : List Wv) (i : Nat), gath (fun _ w => if p w then some (f w) else none) i ws = (ws.filter p).map f
  | [], _ => rfl
  | w :: ws, i => by
    have ih := gath_filter p f ws (i + 1)
    unfold gath
    rw [ih, List.filter_cons]
    cases p w <;> rfl
variable {x : XW} {σ : SW} {te : ET} {tt : QT} {is vs : List Nat} {its : List Wv} {ok : HW → Prop}
theorem r_lcM (f : Wv → Wv) (hl : its.length ≤ sizeLine) (hk : ∀ G', Ext G G' → ok G')
    (hs : ∀ (i : Nat) w G' (k : Option Wv → HW → Prop), its[i]? = some w → Ext G G' → (∀ G2, Ext G' G2 → k (some (f w)) G2) → ∃ σ2, inTo is w (wipeW σ vs) = some σ2 ∧ tt x0 σ2 G' (kTurn te σ2 k))
    (hd : ∀ D G', G D = none → Ext G G' → G' D = some (.lst (its.map f)) → q (.ref D) G') : kLc is vs tt te x σ q its ok G :=
  r_lc (fun _ w => some (f w)) hl hk hs fun D G' n e h => hd D G' n e (by rw [h, gath_map])
theorem r_lcB (f : Wv → Bool) (hl : its.length ≤ sizeLine) (hk : ∀ G', Ext G G' → ok G')
    (hs : ∀ (i : Nat) w G' (k : Option Wv → HW → Prop), its[i]? = some w → Ext G G' → (∀ G2, Ext G' G2 → k (some (.bl (f w))) G2) → ∃ σ2, inTo is w (wipeW σ vs) = some σ2 ∧ tt x0 σ2 G' (kTurn te σ2 k))
    (hd : ∀ D G', G D = none → Ext G G' → G' D = some (.lst ((its.map f).map .bl)) → q (.ref D) G') : kLc is vs tt te x σ q its ok G :=
  r_lcM (fun w => .bl (f w)) hl hk hs fun D G' n e h => hd D G' n e (by rw [h, List.map_map]; rfl)
theorem all_id (f : Wv → Bool) (ws : List Wv) : (ws.map f).all id = ws.all f := by rw [List.all_map]; rfl
/-! ### data -/
mutual
theorem Dt.ext (h : Ext G G') : ∀ {d : PyData} {w : Wv}, Dt G w d → Dt G' w d
  | .none, _, z => by cases z; exact .non
  | .bool b, _, z => by cases z; exact .bl b
  | .int i, _, z => by cases z; exact .int i
  | .str y, _, z => by cases z; exact .str y
  | .list ds, _, z => by
    cases z with
    | lst a b => exact .lst (a.ext h) (Dts.ext h b)
  | .tuple ds, _, z => by
    cases z with
    | tup b => exact .tup (Dts.ext h b)
  | .dict _, _, z => by cases z
theorem Dts.ext (h : Ext G G') : ∀ {ds : List PyData} {ws : List Wv}, Dts G ws ds → Dts G' ws ds
  | [], _, z => by cases z; exact .nil
  | d :: ds, _, z => by
    cases z with
    | cons a b => exact .cons (Dt.ext h a) (Dts.ext h b)
end
theorem dts_ints : ∀ ns : List Int, Dts G (ns.map .int) (ns.map .int)
  | [] => .nil
  | n :: ns => .cons (.int n) (dts_ints ns)
theorem dt_ints (ns : List Int) : Dt G (.tup (ns.map .int)) (.tuple (ns.map .int)) := .tup (dts_ints ns)
theorem dts_map {α : Type} {f : α → Wv} {g : α → PyData} (h : ∀ a, Dt G (f a) (g a)) : ∀ l : List α, Dts G (l.map f) (l.map g)
  | [] => .nil
  | a :: l => .cons (h a) (dts_map h l)
theorem lay_ints : ∀ ns : List Int, PyData.canLayAll0 (ns.map .int) = true
  | [] => by simp [PyData.canLayAll0]
  | n :: ns => by rw [List.map_cons, PyData.canLayAll0, lay_ints ns]; simp [PyData.canLay0]
theorem depth_ints : ∀ ns : List Int, PyData.depthAll (ns.map .int) = 0
  | [] => by simp [PyData.depthAll]
  | n :: ns => by rw [List.map_cons, PyData.depthAll, depth_ints ns]; simp [PyData.depth]
theorem shaped_intsL (ns : List Int) : SeqAt.shaped (.list (ns.map .int)) = true := by
  unfold SeqAt.shaped
  rw [PyData.canLay0, lay_ints, PyData.depth, depth_ints]
  rfl
theorem eqvAll_ints : ∀ ns ms : List Int, PyData.eqvAll (ns.map .int) (ms.map .int) = decide (ns = ms)
  | [], [] => by simp [PyData.eqvAll]
  | [], m :: ms => by simp [PyData.eqvAll]
  | n :: ns, [] => by simp [PyData.eqvAll]
  | n :: ns, m :: ms => by
    rw [List.map_cons, List.map_cons, PyData.eqvAll, eqvAll_ints ns ms, PyData.eqv]
    by_cases h1 : n = m <;> by_cases h2 : ns = ms <;> simp [h1, h2]
theorem r_ne {a b : Wv} {d e : PyData} {k : Bool} (h1 : Dt G a d) (h2 : Dt G b e) (s1 : SeqAt.shaped d = true) (s2 : SeqAt.shaped e = true) (e' : PyData.eqv d e = k) (z : q (.bl (!k)) G) : wNe a b G q := by
  have nd : wNeD a b G q := ⟨d, e, h1, h2, s1, s2, by rw [e']; exact z⟩
  unfold wNe
  split
  · cases h1; cases h2
    subst e'
    rw [PyData.eqv] at z
    rename_i i j
    rw [show decide (i = j) = (i == j) from by by_cases h : i = j <;> simp [h]]
    exact z
  · cases h1; cases h2
    subst e'
    rw [PyData.eqv] at z
    rename_i i j
    rw [show decide (i = j) = (i == j) from by by_cases h : i = j <;> simp [h]]
    exact z
  · exact nd
theorem r_eq {a b : Wv} {d e : PyData} {k : Bool} (h1 : Dt G a d) (h2 : Dt G b e) (s1 : SeqAt.shaped d = true) (s2 : SeqAt.shaped e = true) (e' : PyData.eqv d e = k) (z : q (.bl k) G) : wEq a b G q := by
  have nd : wEqD a b G q := ⟨d, e, h1, h2, s1, s2, by rw [e']; exact z⟩
  unfold wEq
  split
  · cases h1; cases h2
    subst e'
    rw [PyData.eqv] at z
    rename_i i j
    rw [show decide (i = j) = (i == j) from by by_cases h : i = j <;> simp [h]]
    exact z
  · cases h1; cases h2
    subst e'
    rw [PyData.eqv] at z
    rename_i i j
    rw [show decide (i = j) = (i == j) from by by_cases h : i = j <;> simp [h]]
    exact z
  · exact nd
end
end LF
/-! LF16: what the laws' own small functions keep -/
namespace LF
open PySem PySem.Spec PyProof.Rows L2
theorem m_wip0 {σ : SW} : wipeW σ [] = σ := rfl
theorem m_wip1 {σ : SW} {v : Nat} {vs : List Nat} : wipeW σ (v :: vs) = (wipeW σ vs).set v none := rfl
section
variable {K : PySem.W.Frag} {G G' : HW} {w : Wv}
/-! ### places -/
theorem atI_n {α : Type} {ws : List α} {i : Nat} {w : α} (h : ws[i]? = some w) : atI ws (i : Int) = some w := by
  have hi : i < ws.length := by
    rcases Nat.lt_or_ge i ws.length with z | z
    · exact z
    · rw [List.getElem?_eq_none z] at h; cases h
  unfold atI ixN
  rw [if_pos (by omega), if_pos (by omega)]
  simpa using h
theorem atI_int {α : Type} {ws : List α} {i : Int} {w : α} (h0 : 0 ≤ i) (h : ws[i.toNat]? = some w) : atI ws i = some w := by
  have e : i = (i.toNat : Int) := by omega
  rw [e]
  exact atI_n h
theorem ixN_int {n : Nat} {i : Int} (h0 : 0 ≤ i) (h1 : i < n) : ixN n i = some i.toNat := by
  unfold ixN
  rw [if_pos h0, if_pos h1]
theorem at_map {ns : List Int} {i : Nat} (h : i < ns.length) : (ns.map Wv.int)[i]? = some (.int ns[i]) := by
  rw [List.getElem?_map, List.getElem?_eq_getElem h]
  rfl
theorem setI {ns : List Int} {i : Nat} {v : Int} : (ns.map Wv.int).set i (.int v) = (ns.set i v).map Wv.int := by rw [List.map_set]
theorem rg_at {lo c : Int} {n i : Nat} {w : Wv} (h : (rgW lo c n)[i]? = some w) : i < n ∧ w = .int (lo + (i : Nat) * c) := by
  unfold rgW at h
  rw [List.getElem?_map] at h
  rcases Nat.lt_or_ge i n with z | z
  · rw [List.getElem?_range z] at h
    exact ⟨z, (Option.some.inj h).symm⟩
  · rw [List.getElem?_eq_none (by simpa using z)] at h; cases h
theorem few {α : Type} {l : List α} (h : l.length ≤ 64 := by exact Nat.le_of_ble_eq_true rfl) : l.length < sizeLine := by rw [sizeLine_eq]; omega
/-- cuts -/
def cutN {α : Type} (xs : List α) (a b : Nat) : List α := (xs.drop a).take (b - a)
theorem cutN_len {α : Type} (xs : List α) {a b : Nat} (h : b ≤ xs.length) : (cutN xs a b).length = b - a := by
  unfold cutN
  rw [List.length_take, List.length_drop]
  omega
/-! ### parts -/
def cutAt (n m i : Nat) : Nat := i * n / m
def partN (ns : List Int) (m i : Nat) : List Int := cutN ns (cutAt ns.length m i) (cutAt ns.length m (i + 1))
theorem cutAt_le (n m i : Nat) (h : i ≤ m) (hm : 0 < m) : cutAt n m i ≤ n := by
  unfold cutAt
  calc i * n / m ≤ m * n / m := Nat.div_le_div_right (Nat.mul_le_mul_right n h)
    _ = n := Nat.mul_div_cancel_left n hm
theorem part_len (ns : List Int) (m i : Nat) (h : i < m) : (partN ns m i).length = cutAt ns.length m (i + 1) - cutAt ns.length m i := cutN_len ns (cutAt_le _ m _ h (by omega))
/-- a part has as many as the least one, or one more -/
theorem part_size (ns : List Int) (m i : Nat) (h : i < m) : ns.length / m ≤ (partN ns m i).length ∧ (partN ns m i).length ≤ ns.length / m + 1 := by
  rw [part_len ns m i h]
  unfold cutAt
  have hm : 0 < m := by omega
  generalize ns.length = n
  have h1 : (i + 1) * n = i * n + n := by rw [Nat.add_mul, Nat.one_mul]
  rw [h1]
  have e1 := Nat.div_add_mod (i * n) m
  have e2 := Nat.div_add_mod n m
  have l1 := Nat.mod_lt (i * n) hm
  have l2 := Nat.mod_lt n hm
  have e3 := Nat.div_add_mod (i * n + n) m
  have l3 := Nat.mod_lt (i * n + n) hm
  generalize i * n / m = A at *
  generalize n / m = B at *
  generalize (i * n + n) / m = C at *
  have c1 : m * (A + B) ≤ m * C + (m - 1) := by rw [Nat.mul_add]; omega
  have c2 : m * C ≤ m * (A + B + 1) + (m - 1) := by rw [Nat.mul_add, Nat.mul_add]; omega
  have d1 : A + B ≤ C := by
    rcases Nat.lt_or_ge C (A + B) with z | z
    · have := Nat.mul_le_mul_left m z
      rw [Nat.succ_eq_add_one, Nat.mul_add] at this
      omega
    · exact z
  have d2 : C ≤ A + B + 1 := by
    rcases Nat.lt_or_ge (A + B + 1) C with z | z
    · have := Nat.mul_le_mul_left m z
      rw [Nat.succ_eq_add_one, Nat.mul_add m (A + B + 1)] at this
      omega
    · exact z
  omega
theorem rg_nat {n i : Nat} {w : Wv} (h : (rgW 0 1 n)[i]? = some w) : i < n ∧ w = .int i := by
  obtain ⟨h1, rfl⟩ := rg_at h
  exact ⟨h1, by rw [Int.zero_add, Int.mul_one]⟩
/-! ### numbers drawn from the script -/
def mixV (c k : Int) : Int := (c * (1 + 2 * k) * 48271 % 2147483647 + 7919 * k * k + 104729 * k) * 69621 % 2147483629 / 7
def SpMixed : SpW := fun ws G q _ => ∃ c k, ws = [.int c, .int k] ∧ 0 ≤ k ∧ k < 2 ^ 50 ∧ ∀ r, 0 ≤ r → r = mixV c k → q (.int r) G
/-- the state of drawing: at m, its lists at a, b; n more may be drawn -/
def DSt (G : HW) (m a b : Addr) (n : Nat) : Prop := ∃ (k : Int) (cells left : List Int), G m = some (.dct [(.inr "cells", .ref a), (.inr "left", .ref b), (.inr "spot", .int k)]) ∧ G a = some (.lst (cells.map .int)) ∧ cells.length = 64 ∧ G b = some (.lst (left.map .int)) ∧ left.length ≤ 63 ∧ 0 ≤ k ∧ k + n ≤ 2 ^ 40 ∧ a ≠ b
theorem DSt.ext {m a b : Addr} {n : Nat} (h : DSt G m a b n) (e : Ext G G') : DSt G' m a b n := let ⟨k, c, l, h1, h2, h3, h4, h5⟩ := h; ⟨k, c, l, e _ _ h1, e _ _ h2, h3, e _ _ h4, h5⟩
theorem DSt.mono {m a b : Addr} {n n' : Nat} (h : DSt G m a b n) (e : n' ≤ n) : DSt G m a b n' := let ⟨k, c, l, h1, h2, h3, h4, h5, h6, h7, h8⟩ := h; ⟨k, c, l, h1, h2, h3, h4, h5, h6, by omega, h8⟩
theorem DSt.put {m a b p : Addr} {n : Nat} {o : O} (h : DSt G m a b n) (h1 : p ≠ m) (h2 : p ≠ a) (h3 : p ≠ b) : DSt (updO G p o) m a b n := let ⟨k, c, l, e1, e2, r3, e4, r5⟩ := h; ⟨k, c, l, by rw [updO_ne h1.symm]; exact e1, by rw [updO_ne h2.symm]; exact e2, r3, by rw [updO_ne h3.symm]; exact e4, r5⟩
def SpDraw : SpW := fun ws G q _ => ∃ m a b top n, ws = [.ref m, .int top] ∧ 0 < top ∧ top < 2 ^ 30 ∧ DSt G m a b (n + 1) ∧ ∀ r G', 0 ≤ r → r < top → Kp [m, b] G G' → DSt G' m a b n → q (.int r) G'
def SpFolded : SpW := fun ws G q _ => ∃ ns : List Int, ws = [.kls (ns.map .int)] ∧ ns.length ≤ 63 ∧ ∀ (l : Addr) (cells : List Int) (G' : HW), G l = none → Ext G G' → G' l = some (.lst (cells.map .int)) → cells.length = 64 → q (.ref l) G'
def SpBegun : SpW := fun ws G q _ => ∃ ns : List Int, ws = [.kls (ns.map .int)] ∧ ns.length ≤ 63 ∧ ∀ m a b G', G m = none → G a = none → G b = none → Ext G G' → DSt G' m a b (2 ^ 40) → q (.ref m) G'
theorem Cfg.mono {ns : List Int} {n n' : Int} (h : Cfg ns n) (e : n ≤ n') : Cfg ns n' := ⟨by have := h.1; omega, fun i hi => ⟨(h.2.1 i hi).1, by have := (h.2.1 i hi).2; omega⟩, h.2.2⟩
theorem cfg_nil {n : Int} (h : 0 ≤ n) : Cfg [] n := ⟨by simpa using h, (fun i hi => by cases hi), List.Pairwise.nil⟩
theorem Cfg.snoc {ns : List Int} {i : Nat} (h : Cfg ns i) : Cfg (ns ++ [(i : Int)]) ((i + 1 : Nat) : Int) := by
  obtain ⟨h1, h2, h3⟩ := h
  refine ⟨by simp; omega, fun j hj => ?_, List.pairwise_append.mpr ⟨h3, List.pairwise_singleton _ _, fun a ha b hb => ?_⟩⟩
  · rcases List.mem_append.mp hj with z | z
    · have := h2 j z; omega
    · cases List.mem_singleton.mp z; omega
  · cases List.mem_singleton.mp hb
    exact (h2 a ha).2
/-! ### deeds and what is told of them -/
def SpClass (C : Addr) : SpW := fun ws G q _ => ∃ a y, ws = [.ref a] ∧ G a = some (.exc a (.ref C) [(("what" : Str), y)]) ∧ q (.tup [.str "value", y]) G
/-- E, R: how the deed ends -/
def SpTold (C : Addr) : SpT := fun tl G q _ => ∃ (E : Value → List (Str × Wv) → HW → Prop) (R : Wv → HW → Prop), (∀ G0 xe qe, Ext G G0 → (∀ cls fs G1, E cls fs G1 → xe cls fs G1) → (∀ w G1, R w G1 → qe w G1) → tl xe G0 qe) ∧
  (∀ cls fs G1, E cls fs G1 → cls = .ref C ∧ ∃ y, fs = [(("what" : Str), y)] ∧ ∀ G2, Ext G1 G2 → q (.tup [.str "value", y]) G2) ∧ (∀ w G1, R w G1 → ∀ l G2, G1 l = none → Ext G1 G2 → G2 l = some (.lst [w]) → q (.ref l) G2)
/-- a deed that is refused -/
theorem told_bad {C : Addr} {tl : TlT} {q : WK} {x : XE} (y : Wv) (h : ∀ G0 xe qe, Ext G G0 → (∀ G1, Ext G G1 → xe (.ref C) [(("what" : Str), y)] G1) → tl xe G0 qe) (z : ∀ G2, Ext G G2 → q (.tup [.str "value", y]) G2) : SpTold C tl G q x :=
  ⟨fun cls fs G1 => cls = .ref C ∧ fs = [(("what" : Str), y)] ∧ Ext G G1, fun _ _ => False, fun G0 xe qe ex he _ => h G0 xe qe ex fun G1 e => he _ _ _ ⟨rfl, rfl, e⟩,
    fun cls fs G1 ⟨e1, e2, e3⟩ => ⟨e1, y, e2, fun G2 e4 => z G2 (e3.trans e4)⟩, fun _ _ z => z.elim⟩
/-! ### far things -/
end
end LF
/-! LF17: data that is shown and compared -/
namespace LF
open PySem PySem.Spec PyProof.Rows L2
/-- no deeper than D, no wider than W, its ints short -/
structure Fit (D W : Nat) (d : PyData) : Prop where
  ly : d.canLay0 = true
  sh : d.showable = true
  dp : d.depth ≤ D
  wt : d.weight ≤ W
  sm : d.intsShort 13 = true
structure Fits (D W : Nat) (ds : List PyData) : Prop where
  ly : PyData.canLayAll0 ds = true
  sh : PyData.showableAll ds = true
  dp : PyData.depthAll ds ≤ D
  wt : PyData.weightAll ds ≤ W
  sm : PyData.intsShortAll 13 ds = true
theorem fits_of {D W : Nat} : ∀ {ds : List PyData}, (∀ d ∈ ds, Fit D W d) → Fits D ((W + 1) * ds.length) ds
  | [], _ => ⟨by simp [PyData.canLayAll0], by simp [PyData.showableAll], by simp [PyData.depthAll], by simp [PyData.weightAll], by simp [PyData.intsShortAll]⟩
  | d :: ds, h => by
    have a := h d List.mem_cons_self
    have b := fits_of (ds := ds) fun x hx => h x (List.mem_cons_of_mem _ hx)
    have e : (W + 1) * (ds.length + 1) = (W + 1) * ds.length + (W + 1) := by rw [Nat.mul_add, Nat.mul_one]
    refine ⟨by rw [PyData.canLayAll0, a.ly, b.ly]; rfl, by rw [PyData.showableAll, a.sh, b.sh]; rfl, by rw [PyData.depthAll]; exact Nat.max_le.mpr ⟨a.dp, b.dp⟩, ?_, by rw [PyData.intsShortAll, a.sm, b.sm]; rfl⟩
    rw [PyData.weightAll, List.length_cons, e]
    have := a.wt
    have := b.wt
    omega
theorem Fit.mono {D W D' W' : Nat} {d : PyData} (h : Fit D W d) (h1 : D ≤ D') (h2 : W ≤ W') : Fit D' W' d := ⟨h.ly, h.sh, Nat.le_trans h.dp h1, Nat.le_trans h.wt h2, h.sm⟩
theorem fit_tup {D W W' : Nat} {ds : List PyData} (h : ∀ d ∈ ds, Fit D W d) (e : (W + 1) * ds.length ≤ W') : Fit (D + 1) W' (.tuple ds) := by
  have f := fits_of h
  exact ⟨by rw [PyData.canLay0]; exact f.ly, by rw [PyData.showable]; exact f.sh, by rw [PyData.depth]; exact Nat.succ_le_succ f.dp, by rw [PyData.weight]; exact Nat.le_trans f.wt e, by rw [PyData.intsShort]; exact f.sm⟩
theorem log2_lt {n k : Nat} (h : n < 2 ^ k) (hk : 0 < k) : n.log2 < k := by
  by_cases z : n = 0
  · subst z; simpa using hk
  · exact (Nat.log2_lt z).mpr h
theorem fit_int {i : Int} (h1 : -(10 ^ 12) < i) (h2 : i < 10 ^ 12) : Fit 0 40 (.int i) := by
  have hn : i.natAbs < 10 ^ 12 := by omega
  have hl := log2_lt (n := i.natAbs) (k := 40) (by omega) (by decide)
  refine ⟨by simp [PyData.canLay0], ?_, by simp [PyData.depth], ?_, ?_⟩
  · rw [PyData.showable]; exact decide_eq_true (by omega)
  · rw [PyData.weight]
    split <;> omega
  · rw [PyData.intsShort]; exact decide_eq_true (PyData.shown_int_le hn)
theorem fit_str {x : Str} (h : PyData.strOk x = true) : Fit 0 x.length (.str x) := ⟨by rw [PyData.canLay0]; exact h, by simp [PyData.showable], by simp [PyData.depth], by rw [PyData.weight]; exact Nat.le_refl _, by simp [PyData.intsShort]⟩
theorem fit_ints {ns : List Int} {W : Nat} (h : ∀ i ∈ ns, -(10 ^ 12) < i ∧ i < 10 ^ 12) (e : 41 * ns.length ≤ W) : Fit 1 W (.tuple (ns.map .int)) := fit_tup (fun d hd => by
  obtain ⟨i, hi, rfl⟩ := List.mem_map.mp hd
  exact fit_int (h i hi).1 (h i hi).2) (by rw [List.length_map]; exact e)
theorem Fit.len {D W : Nat} {d : PyData} (h : Fit D W d) (h1 : D ≤ 20) (h2 : W ≤ 2 ^ 20) : d.shown.length ≤ sizeLine := by
  have hl : d.layable0 = true := by
    unfold PyData.layable0
    rw [h.ly, decide_eq_true (show d.depth ≤ 64 from by have := h.dp; omega), decide_eq_true (Nat.le_trans h.wt h2)]
    rfl
  have := shown_le13 hl h.sm
  rw [sizeLine_eq]
  omega
theorem Fit.shaped {D W : Nat} {d : PyData} (h : Fit D W d) (h1 : D ≤ 20) : SeqAt.shaped d = true := by
  unfold SeqAt.shaped
  rw [h.ly, decide_eq_true (show d.depth ≤ 64 from by have := h.dp; omega)]
  rfl
section
variable {G : HW} {q : WK} {w a b : Wv} {D W : Nat} {d e : PyData}
theorem r_neSame (h1 : Dt G a d) (h2 : Dt G b d) (f : Fit D W d) (z : q (.bl false) G) (hD : D ≤ 20 := by decide) : wNe a b G q := r_ne (k := true) h1 h2 (f.shaped hD) (f.shaped hD) (SeqAt.eqv_refl d f.ly) z
end
end LF
/-! LF18: t[::-1]; more of the laws' own -/
namespace LF
open PySem PySem.Spec PyProof.Rows L2 HT
section
variable {X : Cx} {Wx : WX} {e : Expr} {te : ET} {k : Nat} {p1 p2 p3 pos : Pos}
def wBack : Wv → HW → WK → Prop := fun w G q => match w with
  | .tup ws => q (.tup ws.reverse) G
  | .ref p => ∃ ws, RdL G p ws ∧ ∀ l, G l = none → q (.ref l) (updO G l (.lst ws.reverse))
  | _ => False
def eBack (te : ET) : ET := fun x σ G q => te x σ G fun w G1 => wBack w G1 q
variable {x : XW} {σ : SW} {G : HW} {q : WK}
def kBack (q : WK) : WK := fun w G => wBack w G q
theorem m_Back : eBack te x σ G q = te x σ G (kBack q) := rfl
theorem m_kBackT {ws : List Wv} : kBack q (.tup ws) G = q (.tup ws.reverse) G := rfl
end
/-! ### ranges as arguments -/
section
variable {x : XW} {σ : SW} {G : HW} {q : WK} {te : ET}
abbrev RgK := Int → Int → HW → Prop
def kRgA (r : RgK) : WK := fun w G => match w with
  | .int n => r 0 n G
  | _ => False
theorem m_rg1 {r : RgK} : rg1 te x σ G r = te x σ G (kRgA r) := rfl
theorem m_kRgA {r : RgK} {n : Int} : kRgA r (.int n) G = r 0 n G := rfl
def kTupRg (q : WK) : RgK := fun i j G1 => RgOk i j ∧ q (.tup (rgW i 1 (j - i).toNat)) G1
def kLstRg (q : WK) : RgK := fun i j G1 => RgOk i j ∧ ∀ l, G1 l = none → q (.ref l) (updO G1 l (.lst (rgW i 1 (j - i).toNat)))
variable {t : RGt}
theorem m_TupRg : eTupRg t x σ G q = t x σ G (kTupRg q) := rfl
theorem m_LstRg : eLstRg t x σ G q = t x σ G (kLstRg q) := rfl
end
section
variable {K : PySem.W.Frag} {G G' : HW}
theorem KnD.mono {n n' : Int} {w : Wv} (h : KnD K G n w) (e : n' ≤ n) : KnD K G n' w := ⟨h.1, fun ws ew hl => h.2 ws ew (by omega)⟩
end
end LF
/-! LF19: tables made by comprehensions; sorted(set(t)) -/
namespace LF
open PySem PySem.Spec PyProof.Rows L2
/-! ### {k: v for .. in .. if ..}, keys flat -/
section
variable {X : Cx} {Wx : WX} {K : PySem.W.Frag} {pos : Pos} {tg : Expr} {tk tv : ET}
def eDc (wi : IT) (is vs : List Nat) (tt : QT) (tk tv : ET) : ET := fun x σ G q => wi x σ G fun its ok G1 => ∀ D, G1 D = none → ∃ P : Nat → HW → Prop, P 0 (updO G1 D (.dct [])) ∧ (∀ i G, i ≤ its.length → P i G → ok G) ∧
  (∀ i w G, its[i]? = some w → P i G → ∃ σ2, inTo is w (wipeW σ vs) = some σ2 ∧ tt x0 σ2 G fun k G3 => match k with
    | true => tk x0 σ2 G3 fun y G4 => tv x0 σ2 G4 fun z G5 => ∃ kvs key, keyOf y = some key ∧ G5 D = some (.dct kvs) ∧ kvs.length < sizeLine ∧ P (i + 1) (updO G5 D (.dct (pkW kvs key z)))
    | false => P (i + 1) G3) ∧ ∀ G, P its.length G → q (.ref D) G
end
section
variable {x : XW} {σ : SW} {G : HW} {q : WK} {wi : IT} {tk tv : ET} {tt : QT} {is vs : List Nat} {its : List Wv} {ok : HW → Prop}
def kDc (is vs : List Nat) (tt : QT) (tk tv : ET) (x : XW) (σ : SW) (q : WK) : IK := fun its ok G1 => ∀ D, G1 D = none → ∃ P : Nat → HW → Prop, P 0 (updO G1 D (.dct [])) ∧ (∀ i G, i ≤ its.length → P i G → ok G) ∧
  (∀ i w G, its[i]? = some w → P i G → ∃ σ2, inTo is w (wipeW σ vs) = some σ2 ∧ tt x0 σ2 G fun k G3 => match k with
    | true => tk x0 σ2 G3 fun y G4 => tv x0 σ2 G4 fun z G5 => ∃ kvs key, keyOf y = some key ∧ G5 D = some (.dct kvs) ∧ kvs.length < sizeLine ∧ P (i + 1) (updO G5 D (.dct (pkW kvs key z)))
    | false => P (i + 1) G3) ∧ ∀ G, P its.length G → q (.ref D) G
theorem m_Dc : eDc wi is vs tt tk tv x σ G q = wi x σ G (kDc is vs tt tk tv x σ q) := rfl
def kDv (y : Wv) (k : Option (Wv × Wv) → HW → Prop) : WK := fun z G => k (some (y, z)) G
def kDk (tv : ET) (σ2 : SW) (k : Option (Wv × Wv) → HW → Prop) : WK := fun y G => tv x0 σ2 G (kDv y k)
def kDturn (tk tv : ET) (σ2 : SW) (k : Option (Wv × Wv) → HW → Prop) : Bool → HW → Prop := fun b G => match b with
  | true => tk x0 σ2 G (kDk tv σ2 k)
  | false => k none G
variable {σ2 : SW} {kk : Option (Wv × Wv) → HW → Prop} {y z : Wv}
theorem m_DturnT : kDturn tk tv σ2 kk true G = tk x0 σ2 G (kDk tv σ2 kk) := rfl
theorem m_DturnF : kDturn tk tv σ2 kk false G = kk none G := rfl
theorem m_kDk : kDk tv σ2 kk y G = tv x0 σ2 G (kDv y kk) := rfl
theorem m_kDv : kDv y kk z G = kk (some (y, z)) G := rfl
end
/-! ### sorted(set(t)), ints -/
section
variable {X : Cx} {Wx : WX} {e : Expr} {te : ET} {p p2 pos pos2 : Pos}
def wSSet : Wv → HW → WK → Prop := fun w G q => match w with
  | .tup ws => ∃ ns : List Int, ws = ns.map .int ∧ ns.length ≤ 1000 ∧ ∀ out : List Int, out.Pairwise (· < ·) → (∀ k, k ∈ out ↔ k ∈ ns) → ∀ l, G l = none → q (.ref l) (updO G l (.lst (out.map .int)))
  | _ => False
def eSSet (te : ET) : ET := fun x σ G q => te x σ G fun w G1 => wSSet w G1 q
variable {x : XW} {σ : SW} {G : HW} {q : WK}
def kSSet (q : WK) : WK := fun w G => wSSet w G q
theorem m_SSet : eSSet te x σ G q = te x σ G (kSSet q) := rfl
end
end LF
/-! LF20: numbers of two configurations -/
namespace LF
open PySem PySem.Spec PyProof.Rows L2
section
variable {x : XW} {σ : SW} {G G' : HW} {q : WK} {te : ET} {tt : QT} {is vs : List Nat} {its : List Wv} {ok : HW → Prop}
/-! ### more rules -/
theorem r_inD0 {neg : Bool} {p : Addr} {a : Wv} {key : Key} {kvs : List (Key × Wv)} (h : G p = some (.dct kvs)) (hk : keyOf a = some key) (z : q (.bl (if neg then !(lkW kvs key).isSome else (lkW kvs key).isSome)) G) : wIn neg a (.ref p) G q := by
  refine .inr ⟨lkW kvs key, ?_, z⟩
  cases a <;> cases hk <;> exact ⟨kvs, _, h, rfl, rfl⟩
def kRvR (q : IK) : RgK := fun i j G1 => -(2 ^ 62) ≤ i ∧ i < 2 ^ 62 ∧ -(2 ^ 62) ≤ j ∧ j < 2 ^ 62 ∧ q (rgW (i + (((j - i).toNat : Nat) : Int) - 1) (-1) (j - i).toNat) okT G1
variable {t : RGt}
theorem m_iRvR {q : IK} : iRvR t x σ G q = t x σ G (kRvR q) := rfl
end
/-! ### tables -/
section
variable {κ : Type} [DecidableEq κ]
theorem lk_pk (kvs : List (κ × Wv)) (k k' : κ) (w : Wv) : lkW (pkW kvs k w) k' = if k' = k then some w else lkW kvs k' := by
  unfold pkW
  split
  · rename_i h
    unfold lkW
    induction kvs with
    | nil => cases h
    | cons p ps ih =>
      rw [List.map_cons, List.find?_cons, List.find?_cons]
      by_cases e : p.1 = k
      · rw [if_pos e]
        by_cases e2 : k' = k
        · subst e2
          simp [e]
        · have e3 : ¬ p.1 = k' := fun z => e2 (z.symm.trans e)
          rw [if_neg e2]
          simp only [e3, decide_false]
          by_cases h2 : (ps.any fun p => decide (p.1 = k)) = true
          · have := ih h2
            rw [if_neg e2] at this
            exact this
          · have : ps.map (fun p => if p.1 = k then (p.1, w) else p) = ps := by
              have h3 : ∀ a ∈ ps, ¬ a.1 = k := fun a ha z => h2 (List.any_eq_true.mpr ⟨a, ha, decide_eq_true z⟩)
              clear ih h h2
              induction ps with
              | nil => rfl
              | cons a ps ih2 =>
                rw [List.map_cons, if_neg (h3 a List.mem_cons_self), ih2 fun b hb => h3 b (List.mem_cons_of_mem _ hb)]
            rw [this]
      · rw [if_neg e]
        have h2 : (ps.any fun p => decide (p.1 = k)) = true := by
          rw [List.any_cons, decide_eq_false e, Bool.false_or] at h
          exact h
        by_cases e4 : p.1 = k'
        · have e5 : ¬ k' = k := fun z => e (e4.trans z)
          rw [if_neg e5]
          simp [e4]
        · simp only [e4, decide_false]
          exact ih h2
  · rename_i h
    have h3 : ∀ a ∈ kvs, ¬ a.1 = k := fun a ha z => h (List.any_eq_true.mpr ⟨a, ha, decide_eq_true z⟩)
    clear h
    unfold lkW
    induction kvs with
    | nil =>
      by_cases e2 : k' = k
      · rw [if_pos e2]; simp [e2]
      · have e3 : ¬ k = k' := fun z => e2 z.symm
        rw [if_neg e2]; simp [e3]
    | cons p ps ih =>
      have ih := ih fun a ha => h3 a (List.mem_cons_of_mem _ ha)
      have e := h3 p List.mem_cons_self
      rw [List.cons_append, List.find?_cons, List.find?_cons]
      by_cases e4 : p.1 = k'
      · have e5 : ¬ k' = k := fun z => e (e4.trans z)
        rw [if_neg e5]
        simp [e4]
      · simp only [e4, decide_false]
        exact ih
end
/-! ### rising lists -/
theorem rise_ext : ∀ {a b : List Int}, a.Pairwise (· < ·) → b.Pairwise (· < ·) → (∀ k, k ∈ a ↔ k ∈ b) → a = b
  | [], [], _, _, _ => rfl
  | [], y :: b, _, _, h => by have := (h y).mpr List.mem_cons_self; cases this
  | x :: a, [], _, _, h => by have := (h x).mp List.mem_cons_self; cases this
  | x :: a, y :: b, ha, hb, h => by
    obtain ⟨a1, a2⟩ := List.pairwise_cons.mp ha
    obtain ⟨b1, b2⟩ := List.pairwise_cons.mp hb
    have e : x = y := by
      rcases List.mem_cons.mp ((h x).mp List.mem_cons_self) with z | z
      · exact z
      · rcases List.mem_cons.mp ((h y).mpr List.mem_cons_self) with u | u
        · exact u.symm
        · have := a1 y u; have := b1 x z; omega
    subst e
    rw [rise_ext a2 b2 fun k => ⟨fun hk => ?_, fun hk => ?_⟩]
    · rcases List.mem_cons.mp ((h k).mp (List.mem_cons_of_mem _ hk)) with z | z
      · have := a1 k hk; omega
      · exact z
    · rcases List.mem_cons.mp ((h k).mpr (List.mem_cons_of_mem _ hk)) with z | z
      · have := b1 k hk; omega
      · exact z
theorem rise_len : ∀ {ns : List Int} {a n : Int}, ns.Pairwise (· < ·) → (∀ i ∈ ns, a ≤ i ∧ i < n) → a ≤ n → (ns.length : Int) ≤ n - a
  | [], a, n, _, _, h => by simp; omega
  | x :: ns, a, n, hp, hr, h => by
    obtain ⟨h1, h2⟩ := List.pairwise_cons.mp hp
    have hx := hr x List.mem_cons_self
    have := rise_len (a := x + 1) (n := n) h2 (fun i hi => by have := h1 i hi; have := hr i (List.mem_cons_of_mem _ hi); omega) (by omega)
    rw [List.length_cons]
    push_cast
    omega
theorem cfg_of {ns : List Int} {n : Int} (h0 : 0 ≤ n) (h1 : ∀ i ∈ ns, 0 ≤ i ∧ i < n) (h2 : ns.Pairwise (· < ·)) : Cfg ns n := ⟨by have := rise_len h2 h1 h0; omega, h1, h2⟩
theorem Cfg.nodup {ns : List Int} {n : Int} (h : Cfg ns n) : ns.Nodup := h.2.2.imp fun {a b} z => by omega
def lessL (ns ms : List Int) : List Int := ns.filter fun i => decide (i ∉ ms)
/-- out: the numbers of both, rising -/
def BothL (ns ms out : List Int) : Prop := out.Pairwise (· < ·) ∧ ∀ k, k ∈ out ↔ k ∈ ns ∨ k ∈ ms
theorem BothL.eq {ns ms a b : List Int} (h : BothL ns ms a) (k : BothL ns ms b) : a = b := rise_ext h.1 k.1 fun j => by rw [h.2, k.2]
def notB (ms : List Int) : Wv → Bool
  | .int i => decide (i ∉ ms)
  | _ => false
/-! ### specs -/
/-- without the number at j: of a rising list -/
theorem filt_erase : ∀ {ns : List Int} {j : Nat} {v : Int}, ns.Nodup → ns[j]? = some v → ns.filter (fun i => !decide (i = v)) = ns.eraseIdx j
  | [], _, _, _, e => by simp at e
  | n :: ns, 0, v, hn, e => by
    simp at e
    subst e
    obtain ⟨h1, h2⟩ := List.nodup_cons.mp hn
    rw [List.filter_cons, List.eraseIdx_cons_zero]
    simp only [decide_true, Bool.not_true, Bool.false_eq_true, if_false]
    exact List.filter_eq_self.mpr fun a ha => by
      have : ¬ a = n := fun z => h1 (z ▸ ha)
      simp [this]
  | n :: ns, j + 1, v, hn, e => by
    obtain ⟨h1, h2⟩ := List.nodup_cons.mp hn
    have e : ns[j]? = some v := by simpa using e
    have : ¬ n = v := fun z => h1 (z ▸ List.mem_of_getElem? e)
    rw [List.filter_cons, List.eraseIdx_cons_succ, filt_erase h2 e]
    simp [this]
end LF
/-! LF21: instances: fields, methods, making -/
namespace LF
open PySem PySem.Spec PyProof.Rows L2
def putW (f : Str) (w : Wv) : List (Str × Wv) → List (Str × Wv)
  | [] => [(f, w)]
  | (g, y) :: r => if g = f then (g, w) :: r else (g, y) :: putW f w r
section
variable {K : PySem.W.Frag} {H : Hp}
theorem RKs.putF (f : Str) {w : Wv} {v : V} (h : RW K H w v) : ∀ {xs : List (Str × Wv)} {ys : List (Str × V)}, RKs K H xs ys → RKs K H (putW f w xs) (L2.putF f v ys)
  | _, _, .nil => .cons ⟨rfl, h⟩ .nil
  | (g, y) :: xs, (g', y') :: ys, .cons a b => by
    obtain ⟨e, r⟩ := a
    cases (show g = g' from e)
    show RKs K H (if g = f then (g, w) :: xs else (g, y) :: putW f w xs) (if g = f then (g, v) :: ys else (g, y') :: L2.putF f v ys)
    by_cases z : g = f
    · rw [if_pos z, if_pos z]; exact .cons ⟨rfl, h⟩ b
    · rw [if_neg z, if_neg z]; exact .cons ⟨rfl, r⟩ (RKs.putF f h b)
theorem RKs.nolk {f : Str} : ∀ {xs : List (Str × Wv)} {ys : List (Str × V)}, RKs K H xs ys → xs.lookup f = none → ys.lookup f = none
  | _, _, .nil, _ => rfl
  | (g, y) :: xs, (g', y') :: ys, .cons a b, e => by
    obtain ⟨e1, r⟩ := a
    cases (show g = g' from e1)
    by_cases q : f = g
    · subst q
      simp [List.lookup] at e
    · have z : (f == g) = false := by simpa using q
      simp only [List.lookup, z] at e ⊢
      exact RKs.nolk b e
end
section
variable {X : Cx} {Wx : WX} {e o : Expr} {es : List Expr} {te to : ET} {tl tk : AT} {f m x : Str} {pos pos' apos p : Pos}
/-! ### o.f -/
/-- a field of a kept error, of an instance -/
def wAt (K : PySem.W.Frag) (f : Str) : Wv → HW → WK → Prop := fun w G1 q => match w with
  | .ref a => (∃ (C : Addr) (fs : List (Str × Wv)) (y : Wv), G1 a = some (.exc a (.ref C) fs) ∧ XfC K C ∧ PySem.W.findIn K (.ref C) f = some none ∧ fs.lookup f = some y ∧ q y G1) ∨
    ∃ (C dx : Addr) (fs : List (Str × Wv)) (y : Wv), G1 a = some (.ins C dx fs) ∧ Cls K C ∧ NoAttr K C f ∧ fs.lookup f = some y ∧ q y G1
  | _ => False
def eAt (K : PySem.W.Frag) (f : Str) (te : ET) : ET := fun x σ G q => te x σ G fun w G1 => wAt K f w G1 q
theorem z_at (he : EW X Wx e te) (hb : attributeBase e f X.env (eval e X.env) = eval e X.env := by rfl) : EW X Wx (.Attribute e f pos) (eAt X.K f te) := ⟨fun pins s σ H Q I h => by
  obtain ⟨σw, G, x, q, rs, rh, px, po, h⟩ := h
  refine attr_of hb (thn (he.run pins s σ H (fun v H1 => ∃ w G1, TX X.K H H1 ∧ RW X.K H1 w v ∧ RH X.K G1 H1 ∧ wAt X.K f w G1 q) I ⟨σw, G, x, _, rs, rh, px, fun w G1 v H1 t1 r1 rh1 h1 => ⟨w, G1, t1, r1, rh1, h1⟩, h⟩) fun u s1 hh => ?_)
  obtain ⟨v, H1, I1, rv, w, G1, t1, r1, rh1, h1⟩ := hh
  unfold wAt at h1
  split at h1
  · rename_i a
    cases r1
    cases (show u = Value.ref a from rv)
    rcases h1 with ⟨C, fs, y, ea, T, hno, l, hq⟩ | ⟨C, dx, fs, y, ea, c, n, l, hq⟩
    · obtain ⟨d, e1, rx⟩ := rh1.exc ea
      obtain ⟨⟨oe, vs, h1, ⟨h2, h3⟩, h4⟩, _, _⟩ := I1.hok _ _ e1
      cases d with
      | none =>
        cases (show fs = [] from rx)
        cases l
      | some d =>
        obtain ⟨xs, e2, rk⟩ := rx
        obtain ⟨mA, hns, hr⟩ := (show ObjOk X.prog X.w H1 s1.heap d (.xd xs) from I1.hok d _ e2)
        obtain ⟨od, ho, hl⟩ := lookIn_ns hns
        obtain ⟨v, l2, ry⟩ := rk.lkp l
        obtain ⟨u, hu, ru⟩ := RelO.some_of (v := v) (o := mA f) (by rw [← l2]; exact hr f)
        have J : PySem.W.InstAt s1.heap a oe C (some od) := ⟨h1, h2, by unfold PySem.W.notCls; rw [h4], by rw [h3]; exact ho⟩
        exact HandSPX.exc_get I1.kIn J T.ga T.gg T.exC (PySem.W.findObj_own T.hdC hno rfl (by rw [hl, hu])) (handed_of ru) ⟨v, H1, I1.tok _, ru, po _ _ _ _ t1 ry rh1 hq⟩
    · obtain ⟨xs, e1, rk⟩ := rh1.ins ea
      obtain ⟨v, l2, ry⟩ := rk.lkp l
      exact getattr_ok I1 e1 c n l2 fun u' s2 I2 ru => ⟨v, H1, I2, ru, po _ _ _ _ t1 ry rh1 hq⟩
  · exact h1.elim⟩
/-- o.f = e -/
def wFst (K : PySem.W.Frag) (f : Str) (w o : Wv) (G : HW) (k : HW → Prop) : Prop := match o with
  | .ref a => ∃ C dx fs, G a = some (.ins C dx fs) ∧ Cls K C ∧ NoAttr K C f ∧ fs.length < 1000 ∧ k (updO G a (.ins C dx (putW f w fs)))
  | _ => False
def sFst (K : PySem.W.Frag) (f : Str) (te to : ET) : ST := fun D σ G => te D.ex σ G fun w G1 => to D.ex σ G1 fun o G2 => wFst K f w o G2 fun G3 => D.nx σ G3
theorem z_fst (he : EW X Wx e te) (ho : EW X Wx o to) (hs : swapsWith e (some (.Attribute o f pos')) pos.line X.env = pure false := by rfl) : TW X Wx (.Assign [.Attribute o f pos'] e pos) (sFst X.K f te to) :=
  ps_imp (ps_fld ho he hs) fun D σ H ⟨σw, G, d, rs, rh, sm, h⟩ => ⟨σw, G, d.ex, _, rs, rh, sm.ex, fun w G1 v H1 t1 r1 rh1 h1 => ⟨σw, G1, d.ex, _, rs.mono t1, rh1, sm.ex.mono t1, fun o G2 vo H2 t2 r2 rh2 h2 => by
    unfold wFst at h2
    split at h2
    · rename_i a
      obtain ⟨C, dx, fs, ea, c, n, hl, hk⟩ := h2
      cases r2
      obtain ⟨xs, e1, rk⟩ := rh2.ins ea
      have t3 : TX X.K H2 (upd H2 a (.ins C dx (L2.putF f v xs))) := TX.put e1 noTup_ins
      exact ⟨a, C, dx, xs, rfl, e1, c, n, by rw [rk.len]; exact hl, sm.nx _ _ _ _ ((t1.trans t2).trans t3) (rs.mono ((t1.trans t2).trans t3)) (rh2.putI e1 (rk.putF f (r1.mono t2))) hk⟩
    · exact h2.elim, h1⟩, h⟩
/-! ### o.m(..) -/
/-- a class that may stand ahead of .m: its method, how the call binds, its promise -/
structure Cand where
  C : Addr
  sel : List Sel
  dws : List Wv
  sp : SpW
structure CandOk (X : Cx) (k : Nat) (m : Str) (n : Nat) (ks : List Str) (c : Cand) : Prop where
  cl : Cls X.K c.C
  ok : ∃ (f : Addr) (fd : FuncData) (ps : List Str), Meth X.K c.C m f ∧ FnX X k f fd ps c.sp ∧ BindW X.K fd ps (n + 1) ks c.sel c.dws
def Cands (X : Cx) (k : Nat) (m : Str) (n : Nat) (ks : List Str) : List Cand → Prop
  | [] => True
  | c :: cs => CandOk X k m n ks c ∧ Cands X k m n ks cs
theorem Cands.at {k : Nat} {n : Nat} {ks : List Str} : ∀ {cs : List Cand} {c : Cand}, Cands X k m n ks cs → c ∈ cs → CandOk X k m n ks c
  | _ :: _, _, h, hc => (List.mem_cons.mp hc).elim (fun e => e ▸ h.1) fun z => Cands.at h.2 z
def wMeth (m : Str) (n l : Nat) (cs : List Cand) (tl tk : AT) (x : XW) (σ : SW) (q : WK) (w : Wv) (G1 : HW) : Prop := match w with
  | .ref a => ∃ c ∈ cs, ∃ dx fs, G1 a = some (.ins c.C dx fs) ∧ fs.lookup m = none ∧ tl x σ G1 fun ws G2 => tk x σ G2 fun zs G3 => ws.length = n ∧ zs.length = l ∧ c.sp (pick c.sel (.ref a :: ws) zs c.dws) G3 q fun cls fs G4 => x cls fs σ G4
  | _ => False
def eMeth (m : Str) (n l : Nat) (cs : List Cand) (to : ET) (tl tk : AT) : ET := fun x σ G q => to x σ G fun w G1 => wMeth m n l cs tl tk x σ q w G1
section
variable {k n : Nat} {ks : List Str} {kws : List Keyword} {cs : List Cand} {pl : Sem Bool}
theorem z_meth0 (ho : EW X Wx o to) (hcs : Cands X k m 0 [] cs) (hr : Rm k X.A) (tx : Takes X Wx)
    (ht : eval (.Call (.Attribute o m apos) [] [] pos) X.env = (do
      let ov ← eval o X.env
      standAt apos.atName
      let (f, first) ← holding [ov] (getMethod ov m pl)
      callWith pos f first (backTo pos (starEach [] X.env)) (backToKw pos (keywordEach [] X.env))) := by rfl) : EW X Wx (.Call (.Attribute o m apos) [] [] pos) (eMeth m 0 0 cs to aNil aNil) := ⟨fun pins s σ H Q I h => by
  obtain ⟨σw, G, xw, q, rs, rh, px, po, h⟩ := h
  refine PySem.W.methodCall_KW (pl := pl) (thn (ho.run pins s σ H (fun v H1 => ∃ w G1, TX X.K H H1 ∧ RW X.K H1 w v ∧ RH X.K G1 H1 ∧ wMeth m 0 0 cs aNil aNil xw σw q w G1) I ⟨σw, G, xw, _, rs, rh, px, fun w G1 v H1 t1 r1 rh1 h1 => ⟨w, G1, t1, r1, rh1, h1⟩, h⟩) fun u s1 ⟨v, H1, I1, rv, w, G1, t1, r1, rh1, h1⟩ => ?_) ht
  unfold wMeth at h1
  split at h1
  · rename_i a
    obtain ⟨c, hc, dx, fs, ea, hm, h1⟩ := h1
    cases r1
    cases (show u = Value.ref a from rv)
    obtain ⟨cl, f, fd, ps, hmeth, F, hb⟩ := hcs.at hc
    obtain ⟨xs, e1, rk⟩ := rh1.ins ea
    refine getmeth_ok I1 e1 cl hmeth (rk.nolk hm) ?_
    exact PySem.W.callWith_K0 (first := [.ref a]) I1.kIn hmeth.kp (run_w (us := [.ref a]) (uk := []) (wu := [.ref a]) (wk := []) F hr hb tx I1 (.cons (show RelV (.ref a) (.ref a) from rfl) .nil) .nil (.cons (.ref a) .nil) .nil rfl rfl (rs.mono t1) rh1 (px.mono t1) (po.mono t1) h1.2.2)
  · exact h1.elim⟩
end
/-! ### C(..) -/
section
variable {k n : Nat} {g C : Addr} {fd : FuncData} {ps ks : List Str} {sp : SpW} {sel : List Sel} {dws : List Wv} {kws : List Keyword}
theorem run_mk {pins : List (Addr × Obj)} {σ : L2.St} {H : Hp} {s : Shared} {Q : VK} {σw : SW} {G : HW} {x : XW} {q : WK} {us uk : List Value} {vu vk : List V} {wu wk : List Wv} (M : Mk X.K C g) (F : FnX X k g fd ps sp) (hr : Rm (k + 1) X.A) (hb : BindW X.K fd ps (n + 1) ks sel dws) (tk : Takes X Wx)
    (I : Inv X pins σ H s) (r : Vals vu us) (rk : Vals vk uk) (wr : RWs X.K H wu vu) (wk' : RWs X.K H wk vk) (hn : wu.length = n) (hk : wk.length = ks.length) (rs : RS X.K H σw σ) (rh : RH X.K G H) (px : PostX X.K H Wx x) (po : Post X.K H Q q)
    (h : ∀ p dx, G p = none → sp (pick sel (.ref p :: wu) wk dws) (updO G p (.ins C dx [])) (fun v G' => v = .non ∧ q (.ref p) G') fun cls fs G2 => x cls fs σw G2) : wpAny (model X.prog X.w) X.A (call (.ref C) us (ks.zip uk)) (EP X pins σ Q) X.xe s := by
  obtain ⟨dvs, ds, hv, hw, to⟩ := hb.dv
  have n1 : H s.heap.objs.size = none := I.hok.fresh (Nat.le_refl _)
  have n2 : H (s.heap.objs.size + 1) = none := I.hok.fresh (Nat.le_succ _)
  have n3 : upd H s.heap.objs.size (.own (s.heap.objs.size + 1)) (s.heap.objs.size + 1) = none := by rw [upd_ne (Nat.succ_ne_self _)]; exact n2
  have hq := h (s.heap.objs.size + 1) s.heap.objs.size (rh.fresh n2)
  have I2 := Inv.made (C := C) I
  have tx : TX X.K H (upd (upd H s.heap.objs.size (.own (s.heap.objs.size + 1))) (s.heap.objs.size + 1) (.ins C s.heap.objs.size [])) := (TX.new n1).trans (TX.new n3)
  have rh2 : RH X.K (updO G (s.heap.objs.size + 1) (.ins C s.heap.objs.size [])) (upd (upd H s.heap.objs.size (.own (s.heap.objs.size + 1))) (s.heap.objs.size + 1) (.ins C s.heap.objs.size [])) := (rh.kept n1).new n3 ⟨[], rfl, .nil⟩
  have r2 := pick_vals (.cons (show RelV (.ref (s.heap.objs.size + 1)) (.ref (s.heap.objs.size + 1)) from rfl) r) rk hv sel
  have w2 := pick_rws (RWs.cons (.ref (s.heap.objs.size + 1)) (wr.mono tx)) (wk'.mono tx) (hw _) sel
  have lu : us.length = n := by rw [← r.length, wr.len]; exact hn
  refine wpAny_call (make_map (f := g) I.kIn M.makes M.init (beq_iff_eq.mp M.fn) (codeAny_mono (F.run _ X.stack _ _ ⟨.ref (s.heap.objs.size + 1) :: us, ks.zip uk⟩ _ _ (fun v H2 => v = .non ∧ Q (.ref (s.heap.objs.size + 1)) H2) (fun cls d H' => Wx cls d σ H' ∧ True) (hr.make C us (ks.zip uk))
    (I2.env0.make C us (ks.zip uk)) (to _ (.ref (s.heap.objs.size + 1) :: us) uk I2.kIn (by rw [List.length_cons, lu]) (by rw [← rk.length, wk'.len]; exact hk)) r2
    ⟨_, _, _, _, w2, rh2, fun w G' v H' t r1 rh' hh => ?_, fun cls d fs G' H' t rx rh' hx => ⟨px cls d fs σw G' σ H' (tx.trans t) rx (rs.mono (tx.trans t)) rh' hx, trivial⟩, hq⟩) fun rr s' hq' => ?_))
  · obtain ⟨e, hh⟩ := hh
    subst e
    cases r1
    exact ⟨rfl, po _ _ _ _ (tx.trans t) (.ref _) rh' hh⟩
  · cases rr with
    | error er => exact tk er s' (XE.of_call I2 (fun cls d H' z => z.1) hq')
    | ok fl =>
      cases fl with
      | ret u =>
        obtain ⟨v, H', I3, rv, ev, q3⟩ := I2.after hq'
        subst ev
        exact ⟨rv, ⟨V.ref (s.heap.objs.size + 1), H', I3, rfl, q3⟩⟩
      | next => exact False.elim hq'
      | brk => exact False.elim hq'
      | cont => exact False.elim hq'
def wMake (C : Addr) (n l : Nat) (sel : List Sel) (dws : List Wv) (sp : SpW) (x : XW) (σ : SW) (q : WK) (ws zs : List Wv) (G : HW) : Prop := ws.length = n ∧ zs.length = l ∧ ∀ p dx, G p = none → sp (pick sel (.ref p :: ws) zs dws) (updO G p (.ins C dx [])) (fun v G' => v = .non ∧ q (.ref p) G') fun cls fs G2 => x cls fs σ G2
def eMake (C : Addr) (n l : Nat) (sel : List Sel) (dws : List Wv) (sp : SpW) (tl tk : AT) : ET := fun x σ G q => tl x σ G fun ws G1 => tk x σ G1 fun zs G2 => wMake C n l sel dws sp x σ q ws zs G2
theorem z_make (M : Mk X.K C g) (F : FnX X k g fd ps sp) (hr : Rm (k + 1) X.A) (hg : Gl X x) (hm : X.mg x = some (.ref C)) (hb : BindW X.K fd ps (n + 1) [] sel dws) (tx : Takes X Wx) (ha : AW X Wx (e :: es) tl)
    (hdb : (x == ("__debug__" : Str)) = false := by decide) (he : starEach (e :: es) X.env = (false, eval e X.env) :: starEach es X.env := by rfl) (hpl : (backTo pos (starEach es X.env)).any (·.1) = false := by rfl) :
    EW X Wx (.Call (.Name x p) (e :: es) [] pos) (eMake C n 0 sel dws sp tl aNil) := ⟨fun pins s σ H Q I h => by
  obtain ⟨σw, G, xw, q, rs, rh, px, po, h⟩ := h
  refine wpAny_Call_Name_kw (ld_glob I hg hm ?_ hdb)
  refine PySem.W.callWith_K (h₀ := X.base) I.ok.mod.kin M.kp (thn (ha.run pos pins s σ H (fun vs H1 => ∃ ws G1, TX X.K H H1 ∧ RWs X.K H1 ws vs ∧ RH X.K G1 H1 ∧ wMake C n 0 sel dws sp xw σw q ws [] G1) I
    ⟨σw, G, xw, _, rs, rh, px, fun ws G1 vs H1 t1 r1 rh1 h1 => ⟨ws, G1, t1, r1, rh1, h1⟩, h⟩) fun us s1 ⟨vs, H1, I1, r, ws, G1, t1, r1, rh1, h1⟩ => ⟨I1.kIn, ?_⟩) he hpl
  exact run_mk (uk := []) (wk := []) M F hr hb tx I1 r .nil r1 .nil h1.1 rfl (rs.mono t1) rh1 (px.mono t1) (po.mono t1) h1.2.2⟩
end
end
/-! ### the readings run -/
section
variable {x : XW} {σ : SW} {G : HW} {q : WK} {K : PySem.W.Frag} {te to : ET} {tl tk : AT} {f m : Str} {w : Wv} {ws zs : List Wv} {D : EndsW} {n l : Nat} {cs : List Cand}
def kAt (K : PySem.W.Frag) (f : Str) (q : WK) : WK := fun w G => wAt K f w G q
theorem m_At : eAt K f te x σ G q = te x σ G (kAt K f q) := rfl
theorem r_err {a C : Addr} {fs : List (Str × Wv)} {y : Wv} (h : G a = some (.exc a (.ref C) fs)) (c : XfC K C) (n : PySem.W.findIn K (.ref C) f = some none) (l : fs.lookup f = some y) (z : q y G) : kAt K f q (.ref a) G := .inl ⟨C, fs, y, h, c, n, l, z⟩
theorem r_fld {a C dx : Addr} {fs : List (Str × Wv)} {y : Wv} (h : G a = some (.ins C dx fs)) (c : Cls K C) (n : NoAttr K C f) (l : fs.lookup f = some y) (z : q y G) : kAt K f q (.ref a) G := .inr ⟨C, dx, fs, y, h, c, n, l, z⟩
def kFs2 (K : PySem.W.Frag) (f : Str) (w : Wv) (D : EndsW) (σ : SW) : WK := fun o G => wFst K f w o G fun G3 => D.nx σ G3
def kFs (K : PySem.W.Frag) (f : Str) (to : ET) (D : EndsW) (σ : SW) : WK := fun w G => to D.ex σ G (kFs2 K f w D σ)
theorem m_Fst : sFst K f te to D σ G = te D.ex σ G (kFs K f to D σ) := rfl
theorem m_kFs : kFs K f to D σ w G = to D.ex σ G (kFs2 K f w D σ) := rfl
theorem r_fst {a C dx : Addr} {fs fs' : List (Str × Wv)} (h : G a = some (.ins C dx fs)) (c : Cls K C) (n : NoAttr K C f) (hl : fs.length < 1000) (e : putW f w fs = fs') (z : D.nx σ (updO G a (.ins C dx fs'))) : kFs2 K f w D σ (.ref a) G := ⟨C, dx, fs, h, c, n, hl, by rw [e]; exact z⟩
def kMe (m : Str) (n l : Nat) (cs : List Cand) (tl tk : AT) (x : XW) (σ : SW) (q : WK) : WK := fun w G => wMeth m n l cs tl tk x σ q w G
theorem m_Meth : eMeth m n l cs to tl tk x σ G q = to x σ G (kMe m n l cs tl tk x σ q) := rfl
def kMe3 (n l : Nat) (c : Cand) (a : Addr) (ws : List Wv) (x : XW) (σ : SW) (q : WK) : List Wv → HW → Prop := fun zs G => ws.length = n ∧ zs.length = l ∧ c.sp (pick c.sel (.ref a :: ws) zs c.dws) G q (kX x σ)
def kMe2 (n l : Nat) (c : Cand) (a : Addr) (tk : AT) (x : XW) (σ : SW) (q : WK) : List Wv → HW → Prop := fun ws G => tk x σ G (kMe3 n l c a ws x σ q)
variable {c : Cand} {a : Addr}
theorem m_kMe2 : kMe2 n l c a tk x σ q ws G = tk x σ G (kMe3 n l c a ws x σ q) := rfl
theorem m_kMe3 (h1 : ws.length = n) (h2 : zs.length = l) : kMe3 n l c a ws x σ q zs G = c.sp (pick c.sel (.ref a :: ws) zs c.dws) G q (kX x σ) := propext ⟨fun z => z.2.2, fun z => ⟨h1, h2, z⟩⟩
/-- the one class whose method it may be -/
theorem r_meth1 {dx C : Addr} {sel : List Sel} {dws : List Wv} {sp : SpW} {fs : List (Str × Wv)} (h : G a = some (.ins C dx fs)) (hm : fs.lookup m = none) (z : tl x σ G (kMe2 n l ⟨C, sel, dws, sp⟩ a tk x σ q)) : kMe m n l [⟨C, sel, dws, sp⟩] tl tk x σ q (.ref a) G := ⟨_, List.mem_cons_self, dx, fs, h, hm, z⟩
variable {C : Addr} {sel : List Sel} {dws : List Wv} {sp : SpW}
def kMk2 (C : Addr) (n l : Nat) (sel : List Sel) (dws : List Wv) (sp : SpW) (ws : List Wv) (x : XW) (σ : SW) (q : WK) : List Wv → HW → Prop := fun zs G => wMake C n l sel dws sp x σ q ws zs G
def kMk1 (C : Addr) (n l : Nat) (sel : List Sel) (dws : List Wv) (sp : SpW) (tk : AT) (x : XW) (σ : SW) (q : WK) : List Wv → HW → Prop := fun ws G => tk x σ G (kMk2 C n l sel dws sp ws x σ q)
theorem m_Make : eMake C n l sel dws sp tl tk x σ G q = tl x σ G (kMk1 C n l sel dws sp tk x σ q) := rfl
theorem m_kMk1 : kMk1 C n l sel dws sp tk x σ q ws G = tk x σ G (kMk2 C n l sel dws sp ws x σ q) := rfl
def kMade (p : Addr) (q : WK) : WK := fun v G => v = .non ∧ q (.ref p) G
theorem m_kMade {p : Addr} : kMade p q .non G = q (.ref p) G := propext ⟨fun z => z.2, fun z => ⟨rfl, z⟩⟩
theorem r_make (z : ∀ p dx, G p = none → sp (pick sel (.ref p :: ws) zs dws) (updO G p (.ins C dx [])) (kMade p q) (kX x σ)) (h1 : ws.length = n := by rfl) (h2 : zs.length = l := by rfl) : kMk2 C n l sel dws sp ws x σ q zs G := ⟨h1, h2, z⟩
end
end LF
/-! LF22: sorted of lists, tuples, tables; more of tables -/
namespace LF
open PySem PySem.Spec PyProof.Rows L2
section
variable {P : Program} {w : World} {A : Around} {s : Shared} {E : Value → Shared → Prop} {r : Addr}
/-- what is walked at r gives vs -/
def Gathers (P : Program) (w : World) (A : Around) (s : Shared) (r : Addr) (Pv : List Value → Prop) : Prop := ∀ (R : List Value → Shared → Prop) (E : Value → Shared → Prop),
  (∀ (h' : Heap) (tk : Nat) (vs : List Value), (∀ b o, s.heap.get? b = some o → h'.get? b = some o) → Pv vs → R vs { s with heap := h', toks := tk }) → wpAny (model P w) A (collect (.ref r)) R E s
theorem grown_old {h : Heap} {vs : List Value} {b : Addr} {o : Obj} (e : h.get? b = some o) : ((h.push (seqObj "list" #[] 0)).update h.objs.size (Obj.mapSeq (· ++ vs.toArray))).get? b = some o := by
  rw [Heap.get?_update_ne _ _ _ _ (Nat.ne_of_lt (Heap.lt_size e))]
  exact Heap.get?_push_of_some _ e
theorem gathers_list {vs : List Value} (hl : s.heap.IsList r vs.toArray) (hz : vs.length ≤ sizeLine) : Gathers P w A s r (· = vs) := fun R E h => collect_list hl (h _ s.toks vs (fun b o e => grown_old e) rfl) hz
theorem gathers_tup {vs : List Value} (hl : IsTup s.heap r vs.toArray) (hz : vs.length ≤ sizeLine) : Gathers P w A s r (· = vs) := fun R E h => by
  obtain ⟨o, ho, hc, n, hd⟩ := id hl
  unfold collect
  refine wpAny_bind (wpAny_runValue (codeAny_builtin entry_proto_collect' ?_))
  show wpAny _ _ (do again (.builtin "list.__iadd__" ⟨[← newList [], .ref r], []⟩)) _ _ s
  refine wpAny_bind (wpAny_newList (wpAny_pure ⟨Code.quiet_builtin _ (by decide +kernel), codeAny_builtin entry_list_iadd' ?_⟩))
  show wpAny _ _ (Builtin.List.listExtendWith (.ref s.heap.objs.size) (.ref r) (.ref s.heap.objs.size)) _ _ { s with heap := s.heap.push (seqObj "list" #[] 0) }
  unfold Builtin.List.listExtendWith
  have ho' : (s.heap.push (seqObj "list" #[] 0)).get? r = some o := Heap.get?_push_of_some _ ho
  refine wpAny_bind (wpAny_typeOf (T := "tuple") ⟨o, ho', hc⟩ ?_)
  have ht : (Value.type "tuple" == Value.type "tuple") = true := by rfl
  rw [if_pos (by rw [ht]; simp)]
  refine wpAny_bind (listItems_at ho' hd (wpAny_bind (listItems_at (xs := #[]) (n := 0) (Heap.get?_push_size _ rfl) rfl ?_)))
  rw [if_neg (by simp)]
  refine wpAny_bind (listUpdate_at (xs := #[]) (n := 0) (Heap.get?_push_size _ rfl) rfl ?_ (Nat.zero_le _) (by show (#[] ++ vs.toArray).size ≤ sizeLine + 1; simp only [Array.size_append, List.size_toArray, List.length_nil]; omega))
  refine wpAny_pure ?_
  show wpAny (model P w) A (do
      let o ← load s.heap.objs.size
      match o.data with
      | .seq xs _ => pure xs.toList
      | _ => unsupported "internal:collect") R E { s with heap := (s.heap.push (seqObj "list" #[] 0)).update s.heap.objs.size (Obj.mapSeq (· ++ vs.toArray)) }
  refine wpAny_bind (wpAny_load (get?_update_seq (Heap.get?_push_size _ rfl) _) ?_)
  show wpAny _ _ (pure ((#[] : Array Value) ++ vs.toArray).toList) R E _
  rw [show ((#[] : Array Value) ++ vs.toArray).toList = vs by simp]
  exact wpAny_pure (h _ s.toks vs (fun b o e => grown_old e) rfl)
end
/-! ### over trees -/
section
variable {K : PySem.W.Frag} {H : Hp}
def tup2 (p : Int × Int) : Wv := .tup [.int p.1, .int p.2]
theorem RKs.keysEq {κ : Type} {kvs : List (κ × Wv)} {vs : List (κ × V)} (r : RKs K H kvs vs) : vs.map (·.1) = kvs.map (·.1) := by
  induction r with
  | nil => rfl
  | cons h t ih => rw [List.map_cons, List.map_cons, ih, h.1]
theorem rws_mem : ∀ {ws : List Wv} {vs : List V} {v : V}, RWs K H ws vs → v ∈ vs → ∃ w ∈ ws, RW K H w v
  | _, _, v, .nil, h => nomatch h
  | _, _, v, .cons r rs, h => by
    rcases List.mem_cons.mp h with rfl | z
    · exact ⟨_, List.mem_cons_self, r⟩
    · obtain ⟨w, a, b⟩ := rws_mem rs z
      exact ⟨w, List.mem_cons_of_mem _ a, b⟩
end
end LF
/-! LF23: tuples compared, data in lists, .get, .setdefault -/
namespace LF
open PySem PySem.Spec PyProof.Rows L2
section
variable {X : Cx} {Wx : WX}
/-! ### < , >= -/
def wLtA : RWop := fun a b G q => match a, b with
  | .int i, .int j => q (.bl (decide (i < j))) G
  | .tup xs, .tup ys => ∃ ns ms : List Int, xs = ns.map .int ∧ ys = ms.map .int ∧ q (.bl (HT.lexLt ns ms)) G
  | _, _ => False
theorem w_ltA (hu : X.A.units + 64 < cLine) : OW X (compareOp .Lt) wLtA := by
  rintro pins s σ H x y v u Q I rx ry ⟨w1, w2, G, q, r1, r2, rh, po, h⟩
  unfold wLtA at h
  split at h
  · exact w_lt pins s σ H x y v u Q I rx ry ⟨_, _, G, q, r1, r2, rh, po, h⟩
  · obtain ⟨ns, ms, rfl, rfl, hq⟩ := h
    cases r1 with
    | tup h1 s1 =>
      cases r2 with
      | tup h2 s2 =>
        have e1 := s1.ints
        have e2 := s2.ints
        subst e1 e2
        exact op_ltT (by omega) pins s σ H _ _ v u Q I rx ry ⟨_, _, ns, ms, rfl, rfl, SqT.of h1, SqT.of h2, po _ _ _ _ TX.refl (.bl _) rh hq⟩
  · exact h.elim
def gePair (a b : Int × Int) : Bool := if a.1 = b.1 then decide (b.2 ≤ a.2) else decide (b.1 ≤ a.1)
def wGeA : RWop := fun a b G q => match a, b with
  | .int i, .int j => q (.bl (decide (j ≤ i))) G
  | .tup [.int a, .int b], .tup [.int c, .int d] => q (.bl (gePair (a, b) (c, d))) G
  | _, _ => False
theorem w_geA (hu : X.A.units + 64 < cLine) : OW X (compareOp .GtE) wGeA := by
  rintro pins s σ H x y v u Q I rx ry ⟨w1, w2, G, q, r1, r2, rh, po, h⟩
  unfold wGeA at h
  split at h
  · exact w_ge pins s σ H x y v u Q I rx ry ⟨_, _, G, q, r1, r2, rh, po, h⟩
  · rename_i a b c d
    cases r1 with
    | tup h1 s1 =>
      cases r2 with
      | tup h2 s2 =>
        obtain ⟨v1, v2, rfl, q1, q2⟩ := rws2 s1
        obtain ⟨v3, v4, rfl, q3, q4⟩ := rws2 s2
        cases q1; cases q2; cases q3; cases q4
        cases rx; cases ry
        obtain ⟨its, k1, p1, _⟩ := I.tuple (SqT.of h1)
        obtain ⟨its2, k2, p2, _⟩ := I.tuple (SqT.of h2)
        obtain ⟨u1, u2, rfl, ra, rb⟩ := vals2 k1
        obtain ⟨u3, u4, rfl, rc, rd⟩ := vals2 k2
        obtain ⟨t1, rfl⟩ := ra
        obtain ⟨t2, rfl⟩ := rb
        obtain ⟨t3, rfl⟩ := rc
        obtain ⟨t4, rfl⟩ := rd
        have bd : ∀ i j : Int, (i == j) = decide (i = j) := fun i j => by by_cases z : i = j <;> simp [z]
        have R := Ob.RcOp.tuples_ge (A := X.A) (s := s) (e := fun j => match j with | 0 => decide (a = c) | _ => decide (b = d)) (r := fun j => match j with | 0 => decide (c ≤ a) | _ => decide (d ≤ b)) p1 p2 (by omega) (fun j g1 g2 => by
          match j, g1, g2 with
          | 0, _, _ => exact (bd a c) ▸ SeqAt.EqAt.int_int _ _ _ _
          | 1, _, _ => exact (bd b d) ▸ SeqAt.EqAt.int_int _ _ _ _
          | j + 2, g1, _ => exact absurd g1 (by simp)) (fun j g1 g2 _ => by
          match j, g1, g2 with
          | 0, _, _ => exact Ob.RcOp.ge_int _ _ _ _
          | 1, _, _ => exact Ob.RcOp.ge_int _ _ _ _
          | j + 2, g1, _ => exact absurd g1 (by simp))
        refine R X.prog X.w X.xe (EP X pins σ Q) ⟨.bl _, H, I, rfl, po _ _ _ _ TX.refl (.bl _) rh ?_⟩
        have ee : Ob.lexAt (fun j => match j with | 0 => decide (a = c) | _ => decide (b = d)) (fun j => match j with | 0 => decide (c ≤ a) | _ => decide (d ≤ b)) (decide ([Value.int a t1, Value.int b t2].toArray.size ≥ [Value.int c t3, Value.int d t4].toArray.size)) 0 (min [Value.int a t1, Value.int b t2].toArray.size [Value.int c t3, Value.int d t4].toArray.size) = gePair (a, b) (c, d) := by
          show Ob.lexAt _ _ true 0 2 = _
          unfold gePair
          by_cases z1 : a = c <;> by_cases z2 : b = d <;> simp [Ob.lexAt, z1, z2]
        rw [ee]
        exact h
  · exact h.elim
theorem Rm.un65 {k : Nat} {A : Around} (r : Rm k A) : A.units + 65 < cLine := by have := r.room.un; omega
/-! ### in, of data -/
def wInA (neg : Bool) : RWop := fun a b G q => wIn neg a b G q ∨ ∃ d ds, Dt G a d ∧ Dt G b (.list ds) ∧ SeqAt.shaped d = true ∧ SeqAt.shaped (.list ds) = true ∧ q (.bl (if neg then !ds.any (fun z => PyData.eqv z d) else ds.any fun z => PyData.eqv z d)) G
theorem w_inA (hu : X.A.units + 65 < cLine) : OW X (compareOp .In) (wInA false) := by
  rintro pins s σ H x y v u Q I rx ry ⟨w1, w2, G, q, r1, r2, rh, po, h | ⟨d, ds, h1, h2, s1, s2, hq⟩⟩
  · exact w_in (by omega) pins s σ H x y v u Q I rx ry ⟨_, _, G, q, r1, r2, rh, po, h⟩
  · exact op_inD hu pins s σ H x y v u Q I rx ry ⟨d, ds, h1.dp rh r1, h2.dp rh r2, s1, s2, po _ _ _ _ TX.refl (.bl _) rh hq⟩
/-! ### .get, .setdefault -/
variable {o e f : Expr} {to te tf : ET} {apos cpos : Pos}
def IsDW (G : HW) (a : Addr) : Prop := (∃ kvs, G a = some (.dct kvs)) ∨ ∃ kvs, G a = some (.dtp kvs)
theorem IsDW.is {K : PySem.W.Frag} {G : HW} {H : Hp} {a : Addr} (h : IsDW G a) (rh : RH K G H) : IsD H a := by
  rcases h with ⟨kvs, e⟩ | ⟨kvs, e⟩
  · obtain ⟨xs, f, _⟩ := rh.dct e; exact .inl ⟨xs, Rd.of f⟩
  · obtain ⟨xs, f, _⟩ := rh.dtp e; exact .inr ⟨xs, Rd.of f⟩
def wGet (w k d : Wv) (G : HW) (q : WK) : Prop := match w with
  | .ref a => ∃ r, DgW G a k r ∧ q (r.getD d) G
  | _ => False
def eGet1 (to te : ET) : ET := fun x σ G q => to x σ G fun w G1 => (match w with | .ref a => IsDW G1 a | _ => False) ∧ te x σ G1 fun k G2 => wGet w k .non G2 q
def eGet2 (to te tf : ET) : ET := fun x σ G q => to x σ G fun w G1 => (match w with | .ref a => IsDW G1 a | _ => False) ∧ te x σ G1 fun k G2 => tf x σ G2 fun d G3 => wGet w k d G3 q
def wSetd (w k d : Wv) (G : HW) (q : WK) : Prop := match w with
  | .ref a => ∃ kvs key, G a = some (.dct kvs) ∧ keyOf k = some key ∧ kvs.length < sizeLine ∧ (∀ y, lkW kvs key = some y → q y G) ∧ (lkW kvs key = none → q d (updO G a (.dct (pkW kvs key d))))
  | _ => False
def eSetd (to te tf : ET) : ET := fun x σ G q => to x σ G fun w G1 => (match w with | .ref a => IsDW G1 a | _ => False) ∧ te x σ G1 fun k G2 => tf x σ G2 fun d G3 => wSetd w k d G3 q
/-! ### range(a, b) as an argument -/
def rg2 (te tf : ET) : RGt := fun x σ G q => te x σ G fun w G1 => tf x σ G1 fun u G2 => match w, u with
  | .int a, .int b => q a b G2
  | _, _ => False
end
section
variable {x : XW} {σ : SW} {G : HW} {q : WK} {to te tf : ET} {w k d : Wv} {a : Addr}
theorem m_ltI {i j : Int} : wLtA (.int i) (.int j) G q = q (.bl (decide (i < j))) G := rfl
theorem m_geI {i j : Int} : wGeA (.int i) (.int j) G q = q (.bl (decide (j ≤ i))) G := rfl
theorem r_ltT {ns ms : List Int} (z : q (.bl (HT.lexLt ns ms)) G) : wLtA (.tup (ns.map .int)) (.tup (ms.map .int)) G q := ⟨ns, ms, rfl, rfl, z⟩
theorem m_geP {a b c d : Int} : wGeA (.tup [.int a, .int b]) (.tup [.int c, .int d]) G q = q (.bl (gePair (a, b) (c, d))) G := rfl
theorem m_isNotB {i j : Bool} : wIsNot (.bl i) (.bl j) G q = q (.bl (!decide (i = j))) G := rfl
theorem r_inD {neg : Bool} {p : Addr} {a : Wv} {key : Key} {kvs : List (Key × Wv)} (h : G p = some (.dct kvs)) (hk : keyOf a = some key) (z : q (.bl (if neg then !(lkW kvs key).isSome else (lkW kvs key).isSome)) G) : wInA neg a (.ref p) G q := .inl (r_inD0 h hk z)
def kGet3 (w k : Wv) (q : WK) : WK := fun d G => wGet w k d G q
def kGet2 (w : Wv) (tf : ET) (x : XW) (σ : SW) (q : WK) : WK := fun k G => tf x σ G (kGet3 w k q)
def kGet1 (w : Wv) (q : WK) : WK := fun k G => wGet w k .non G q
def kGetA (te : ET) (x : XW) (σ : SW) (q : WK) : WK := fun w G => (match w with | .ref a => IsDW G a | _ => False) ∧ te x σ G (kGet1 w q)
def kGetB (te tf : ET) (x : XW) (σ : SW) (q : WK) : WK := fun w G => (match w with | .ref a => IsDW G a | _ => False) ∧ te x σ G (kGet2 w tf x σ q)
theorem m_Get1 : eGet1 to te x σ G q = to x σ G (kGetA te x σ q) := rfl
theorem m_Get2 : eGet2 to te tf x σ G q = to x σ G (kGetB te tf x σ q) := rfl
theorem m_kGet2 : kGet2 w tf x σ q k G = tf x σ G (kGet3 w k q) := rfl
def kSd3 (w k : Wv) (q : WK) : WK := fun d G => wSetd w k d G q
def kSd2 (w : Wv) (tf : ET) (x : XW) (σ : SW) (q : WK) : WK := fun k G => tf x σ G (kSd3 w k q)
def kSd (te tf : ET) (x : XW) (σ : SW) (q : WK) : WK := fun w G => (match w with | .ref a => IsDW G a | _ => False) ∧ te x σ G (kSd2 w tf x σ q)
theorem m_Setd : eSetd to te tf x σ G q = to x σ G (kSd te tf x σ q) := rfl
theorem m_kSd2 : kSd2 w tf x σ q k G = tf x σ G (kSd3 w k q) := rfl
def kRg2b (a : Wv) (r : RgK) : WK := fun u G2 => match a, u with
  | .int a, .int b => r a b G2
  | _, _ => False
def kRg2a (tf : ET) (x : XW) (σ : SW) (r : RgK) : WK := fun w G1 => tf x σ G1 (kRg2b w r)
theorem m_rg2 {r : RgK} : rg2 te tf x σ G r = te x σ G (kRg2a tf x σ r) := rfl
theorem m_kRg2a {r : RgK} : kRg2a tf x σ r w G = tf x σ G (kRg2b w r) := rfl
theorem m_kRg2b {r : RgK} {i j : Int} : kRg2b (.int i) r (.int j) G = r i j G := rfl
/-! sorted -/
end
end LF
/-! LF24: links of pieces -/
namespace LF
open PySem PySem.Spec PyProof.Rows L2
abbrev Lk := List (Int × Int)
/-! ### counting -/
theorem nodup_sub : ∀ {l m : List Int}, l.Nodup → (∀ k ∈ l, k ∈ m) → l.length ≤ m.length
  | [], _, _, _ => Nat.zero_le _
  | a :: l, m, h, s => by
    obtain ⟨h1, h2⟩ := List.nodup_cons.mp h
    have ha := s a List.mem_cons_self
    have := nodup_sub (l := l) (m := m.erase a) h2 fun k hk => (List.mem_erase_of_ne (fun e : k = a => h1 (by rw [← e]; exact hk))).mpr (s k (List.mem_cons_of_mem _ hk))
    rw [List.length_erase_of_mem ha] at this
    have := List.length_pos_of_mem ha
    rw [List.length_cons]
    omega
theorem nodup_range {l : List Int} {n : Nat} (h : l.Nodup) (r : ∀ k ∈ l, 0 ≤ k ∧ k < n) : l.length ≤ n := by
  have := nodup_sub (m := (List.range n).map fun i : Nat => (i : Int)) h fun k hk => by
    obtain ⟨a, b⟩ := r k hk
    exact List.mem_map.mpr ⟨k.toNat, List.mem_range.mpr (by omega), by omega⟩
  rwa [List.length_map, List.length_range] at this
/-! ### what is reached -/
/-- from one to another: up along the links, or down -/
def Step (L : Lk) (up : Bool) (a b : Int) : Prop := if up then (a, b) ∈ L else (b, a) ∈ L
inductive Reach (L : Lk) (up : Bool) (ns : List Int) : Int → Prop
  | at {k : Int} (h : k ∈ ns) : Reach L up ns k
  | go {a b : Int} (h : Reach L up ns a) (s : Step L up a b) : Reach L up ns b
/-- the numbers of the links are below n -/
def LkIn (L : Lk) (n : Int) : Prop := ∀ p ∈ L, 0 ≤ p.1 ∧ p.1 < n ∧ 0 ≤ p.2 ∧ p.2 < n
theorem LkIn.step {L : Lk} {n : Int} {up : Bool} {a b : Int} (h : LkIn L n) (s : Step L up a b) : (0 ≤ a ∧ a < n) ∧ 0 ≤ b ∧ b < n := by
  unfold Step at s
  cases up with
  | true => have := h _ s; dsimp only at this; omega
  | false => have := h _ s; dsimp only at this; omega
theorem Reach.mono {L : Lk} {up : Bool} {ns ms : List Int} (h : ∀ k ∈ ns, Reach L up ms k) {k : Int} (r : Reach L up ns k) : Reach L up ms k := by
  induction r with
  | «at» z => exact h _ z
  | go _ s ih => exact .go ih s
/-- out: what is reached, rising -/
def ReachL (L : Lk) (up : Bool) (ns out : List Int) : Prop := out.Pairwise (· < ·) ∧ ∀ k, k ∈ out ↔ Reach L up ns k
theorem ReachL.eq {L : Lk} {up : Bool} {ns a b : List Int} (h : ReachL L up ns a) (k : ReachL L up ns b) : a = b := rise_ext h.1 k.1 fun j => by rw [h.2, k.2]
/-! ### what is told of links -/
def isLk (w : Wv) (n : Int) : Bool := match w with
  | .tup [a, b] => isWh a 0 (n - 1) && (isWh b 0 (n - 1) && (match a, b with
    | .int i, .int j => !decide (i = j)
    | _, _ => false))
  | _ => false
def pairLtT : Wv → Bool
  | .tup [.tup [.int a, .int b], .tup [.int c, .int d]] => HT.lexLt [a, b] [c, d]
  | _ => false
def risesT (ws : List Wv) : Bool := (zpW ws (ws.drop 1)).all pairLtT
def isLks (w : Wv) (n : Int) : Bool := match w with
  | .tup ws => ws.all (isLk · n) && risesT ws
  | _ => false
theorem lk_of {w : Wv} {n : Int} (h : isLk w n = true) : ∃ i j : Int, w = .tup [.int i, .int j] ∧ 0 ≤ i ∧ i < n ∧ 0 ≤ j ∧ j < n ∧ i ≠ j := by
  unfold isLk at h
  split at h
  · rename_i a b
    rw [Bool.and_eq_true, Bool.and_eq_true] at h
    obtain ⟨h1, h2, h3⟩ := h
    split at h3
    · rename_i i j
      simp only [isWh, Bool.and_eq_true, decide_eq_true_iff] at h1 h2
      refine ⟨i, j, rfl, by omega, by omega, by omega, by omega, ?_⟩
      simpa using h3
    · cases h3
  · cases h
theorem lk_is {i j n : Int} : isLk (.tup [.int i, .int j]) n = true ↔ 0 ≤ i ∧ i < n ∧ 0 ≤ j ∧ j < n ∧ i ≠ j := by
  simp only [isLk, isWh, Bool.and_eq_true, decide_eq_true_iff, Bool.not_eq_true', decide_eq_false_iff_not]
  omega
def ltPr (p q : Int × Int) : Prop := p.1 < q.1 ∨ (p.1 = q.1 ∧ p.2 < q.2)
theorem lexLt_pair {a b c d : Int} : HT.lexLt [a, b] [c, d] = true ↔ ltPr (a, b) (c, d) := by
  unfold ltPr
  dsimp only
  by_cases h1 : a = c
  · by_cases h2 : b = d
    · simp [HT.lexLt, h1, h2]
    · simp [HT.lexLt, h1, h2]
  · simp [HT.lexLt, h1]
theorem risesT_pairs : ∀ L : Lk, risesT (L.map tup2) = true ↔ L.Pairwise ltPr
  | [] => by simp [risesT, zpW]
  | [a] => by simp [risesT, zpW]
  | a :: b :: L => by
    have ih := risesT_pairs (b :: L)
    have e : risesT ((a :: b :: L).map tup2) = (HT.lexLt [a.1, a.2] [b.1, b.2] && risesT ((b :: L).map tup2)) := by
      simp [risesT, zpW, pairLtT, tup2]
    rw [e, Bool.and_eq_true, ih, List.pairwise_cons (a := a), lexLt_pair]
    have tr : ∀ {p q r : Int × Int}, ltPr p q → ltPr q r → ltPr p r := fun {p q r} h1 h2 => by unfold ltPr at *; omega
    constructor
    · rintro ⟨h1, h2⟩
      refine ⟨fun c hc => ?_, h2⟩
      rcases List.mem_cons.mp hc with rfl | hc
      · exact h1
      · exact tr h1 ((List.pairwise_cons.mp h2).1 c hc)
    · rintro ⟨h1, h2⟩
      exact ⟨h1 b (by simp), h2⟩
theorem lks_is {L : Lk} {n : Int} : isLks (.tup (L.map tup2)) n = true ↔ (∀ p ∈ L, (0 ≤ p.1 ∧ p.1 < n ∧ 0 ≤ p.2 ∧ p.2 < n) ∧ p.1 ≠ p.2) ∧ L.Pairwise ltPr := by
  unfold isLks
  rw [Bool.and_eq_true, risesT_pairs, List.all_map, List.all_eq_true]
  refine and_congr_left fun _ => forall_congr' fun p => forall_congr' fun _ => ?_
  show isLk (.tup [.int p.1, .int p.2]) n = true ↔ _
  rw [lk_is]
  exact ⟨fun ⟨a, b, c, d, e⟩ => ⟨⟨a, b, c, d⟩, e⟩, fun ⟨⟨a, b, c, d⟩, e⟩ => ⟨a, b, c, d, e⟩⟩
/-! ### specs -/
section
variable {K : PySem.W.Frag} {C : Addr} {G G' : HW}
/-- what a look at links goes into is known -/
def KnL (K : PySem.W.Frag) (G : HW) (w : Wv) : Prop := Kn K G w ∧ ∀ ws, w = .tup ws → ws.length ≤ 100000 ∧ ∀ y ∈ ws, KnD K G 2 y
theorem KnL.ext {w : Wv} (h : Ext G G') (k : KnL K G w) : KnL K G' w := ⟨k.1.ext h, fun ws e => ⟨(k.2 ws e).1, fun y hy => ((k.2 ws e).2 y hy).ext h⟩⟩
theorem knL_pairs {L : Lk} (h : L.length ≤ 100000) : KnL K G (.tup (L.map tup2)) := ⟨kn_tup, fun ws e => by
  cases e
  refine ⟨by rw [List.length_map]; exact h, fun y hy => ?_⟩
  obtain ⟨p, _, rfl⟩ := List.mem_map.mp hy
  exact knD_tup fun z hz => by
    simp only [List.mem_cons, List.not_mem_nil, or_false] at hz
    rcases hz with rfl | rfl <;> exact kn_int⟩
def SpLink (K : PySem.W.Frag) : SpW := fun ws G q _ => ∃ w n, ws = [w, .int n] ∧ KnD K G 2 w ∧ ∀ G', Ext G G' → q (.bl (isLk w n)) G'
def SpLinks (K : PySem.W.Frag) : SpW := fun ws G q _ => ∃ w n, ws = [w, .int n] ∧ KnL K G w ∧ ∀ G', Ext G G' → q (.bl (isLks w n)) G'
end
end LF
/-! LF25: links as data; what is reached by going through all links again and again -/
namespace LF
open PySem PySem.Spec PyProof.Rows L2
/-- links of pieces below n, rising -/
def GoodL (L : Lk) (n : Int) : Prop := (∀ p ∈ L, (0 ≤ p.1 ∧ p.1 < n ∧ 0 ≤ p.2 ∧ p.2 < n) ∧ p.1 ≠ p.2) ∧ L.Pairwise ltPr ∧ L.length ≤ 400
/-- closed under the links -/
def ClosedL (L : Lk) (fs : List Int) : Prop := ∀ p ∈ L, p.1 ∈ fs → p.2 ∈ fs
theorem reach_up_in {L : Lk} {ns : List Int} {k : Int} (r : Reach L true ns k) : k ∈ ns ++ L.map (·.2) := by
  induction r with
  | «at» h => exact List.mem_append_left _ h
  | go _ s _ => exact List.mem_append_right _ (List.mem_map.mpr ⟨_, s, rfl⟩)
/-- where the walk stands -/
def UpAt (L : Lk) (ns : List Int) (t : Nat) (fs : List Int) : Prop := fs.Nodup ∧ (∀ k ∈ ns, k ∈ fs) ∧ (∀ k ∈ fs, Reach L true ns k) ∧ (ClosedL L fs ∨ ns.length + t ≤ fs.length)
theorem UpAt.len {L : Lk} {ns fs : List Int} {t : Nat} (h : UpAt L ns t fs) : fs.length ≤ ns.length + L.length := by
  have := nodup_sub (m := ns ++ L.map (·.2)) h.1 fun k hk => reach_up_in (h.2.2.1 k hk)
  rwa [List.length_append, List.length_map] at this
/-- amid a turn that began with gs -/
def UpIn (L : Lk) (ns : List Int) (t : Nat) (gs : List Int) (j : Nat) (fs : List Int) : Prop := fs.Nodup ∧ (∀ k ∈ ns, k ∈ fs) ∧ (∀ k ∈ fs, Reach L true ns k) ∧ ((fs = gs ∧ ∀ p ∈ L.take j, p.1 ∈ fs → p.2 ∈ fs) ∨ (gs.length + 1 ≤ fs.length ∧ ¬ ClosedL L gs))
theorem UpIn.len {L : Lk} {ns gs fs : List Int} {t j : Nat} (h : UpIn L ns t gs j fs) : fs.length ≤ ns.length + L.length := by
  have := nodup_sub (m := ns ++ L.map (·.2)) h.1 fun k hk => reach_up_in (h.2.2.1 k hk)
  rwa [List.length_append, List.length_map] at this
theorem UpIn.out {L : Lk} {ns gs fs : List Int} {t : Nat} (h0 : UpAt L ns t gs) (h : UpIn L ns t gs L.length fs) : UpAt L ns (t + 1) fs := by
  obtain ⟨h1, h2, h3, h4⟩ := h
  refine ⟨h1, h2, h3, ?_⟩
  rcases h4 with ⟨rfl, c⟩ | ⟨l, n⟩
  · rw [List.take_length] at c
    exact .inl c
  · rcases h0.2.2.2 with c | c
    · exact absurd c n
    · right; omega
theorem UpIn.stay {L : Lk} {ns gs fs : List Int} {t j : Nat} {p : Int × Int} (h : UpIn L ns t gs j fs) (hp : L[j]? = some p) (c : p.1 ∈ fs → p.2 ∈ fs) : UpIn L ns t gs (j + 1) fs := by
  obtain ⟨h1, h2, h3, h4⟩ := h
  refine ⟨h1, h2, h3, h4.imp (fun ⟨e, z⟩ => ⟨e, fun r hr => ?_⟩) id⟩
  rw [List.take_succ, hp] at hr
  rcases List.mem_append.mp hr with y | y
  · exact z r y
  · cases Option.mem_toList.mp y; exact c
def LinksAt (G : HW) (w : Wv) (L : Lk) : Prop := w = .tup (L.map tup2) ∨ ∃ p, w = .ref p ∧ G p = some (.lst (L.map tup2))
theorem LinksAt.ext {G G' : HW} {w : Wv} {L : Lk} (h : LinksAt G w L) (e : Ext G G') : LinksAt G' w L := h.imp id fun ⟨p, a, b⟩ => ⟨p, a, e _ _ b⟩
/-! ### calls with what is due -/
theorem GoodL.mono {L : Lk} {n n' : Int} (h : GoodL L n) (e : n ≤ n') : GoodL L n' := ⟨fun p hp => by have := h.1 p hp; refine ⟨by omega, this.2⟩, h.2.1, h.2.2⟩
theorem GoodL.is {L : Lk} {n : Int} (h : GoodL L n) : isLks (.tup (L.map tup2)) n = true := lks_is.mpr ⟨h.1, h.2.1⟩
section
variable {K : PySem.W.Frag} {C : Addr} {G : HW} {x : XE} {q : WK}
theorem GoodL.kn {L : Lk} {n : Int} (h : GoodL L n) : KnL K G (.tup (L.map tup2)) := knL_pairs (Nat.le_trans h.2.2 (by decide))
end
end LF
/-! LF26: functions made within a def -/
namespace LF
open PySem PySem.Spec PyProof.Rows L2 LamX
/-! ### the readings -/
/-- the names that a function captures: where they stand -/
def CsOf (X : Cx) (fr : List Str) (cs : List Addr) : Prop := cs.length = fr.length ∧ ∀ (i : Nat) (y : Str), fr[i]? = some y → ∃ a, cs[i]? = some a ∧ X.env.cells.lookup y = some a
def capB (scope : Scope) (fr : List Str) : Bool := decide fr.Nodup && fr.all (fun y => decide ((y, NameKind.free) ∈ scope.names)) && scope.names.all fun y => !decide (y.2 = .free) || decide (y.1 ∈ fr)
theorem capB_of {scope : Scope} {fr : List Str} (h : capB scope fr = true) : fr.Nodup ∧ (∀ y ∈ fr, (y, NameKind.free) ∈ scope.names) ∧ ∀ y ∈ scope.names, y.2 = .free → y.1 ∈ fr := by
  unfold capB at h
  simp only [Bool.and_eq_true, List.all_eq_true, Bool.or_eq_true, Bool.not_eq_true', decide_eq_true_eq, decide_eq_false_iff_not] at h
  exact ⟨h.1.1, h.1.2, fun y hy e => (h.2 y hy).elim (fun z => absurd e z) id⟩
section
variable {X : Cx} {Wx : WX}
theorem CsOf.has {scope : Scope} {fr : List Str} {cs : List Addr} (h : CsOf X fr cs) (hc : capB scope fr = true) : ∀ y ∈ scope.names, y.2 = .free → ∃ c, X.env.cells.lookup y.1 = some c := fun y hy e => by
  obtain ⟨i, hi⟩ := List.mem_iff_getElem?.mp ((capB_of hc).2.2 y hy e)
  obtain ⟨a, _, ha⟩ := h.2 i _ hi
  exact ⟨a, ha⟩
end
end LF
/-! LF27: defs that make functions: what their cells hold is known when they return -/
namespace LF
open PySem PySem.Spec PyProof.Rows L2 LamX
structure EndsM where
  nx : SW → HW → Prop
  rt : SW → WK
  ex : XW
abbrev STM := EndsM → SW → HW → Prop
section
variable {K : PySem.W.Frag} {X : Cx} {Wx : WX}
structure SimM (K : PySem.W.Frag) (Wx : WX) (H : Hp) (N : L2.St → Hp → Prop) (R : V → L2.St → Hp → Prop) (d : EndsM) : Prop where
  nx : PostS K H N d.nx
  rt : ∀ σw w G v σ H', TX K H H' → RS K H' σw σ → RW K H' w v → RH K G H' → d.rt σw w G → R v σ H'
  ex : PostX K H Wx d.ex
theorem SimM.mono {H H1 : Hp} {N : L2.St → Hp → Prop} {R : V → L2.St → Hp → Prop} {d : EndsM} (s : SimM K Wx H N R d) (t : TX K H H1) : SimM K Wx H1 N R d :=
  ⟨fun σw G σ H' t2 => s.nx σw G σ H' (t.trans t2), fun σw w G v σ H' t2 => s.rt σw w G v σ H' (t.trans t2), s.ex.mono t⟩
variable {st : Stmt} {rest a b : List Stmt} {t : ST} {u v w : STM} {e : Expr} {te : ET} {pos : Pos} {c : Expr} {q : QT}
def mNil : STM := fun d σ G => d.nx σ G
def mSeq (t : ST) (u : STM) : STM := fun d σ G => t { nx := u d, rt := fun _ _ => False, ex := d.ex } σ G
def mRet (te : ET) : STM := fun d σ G => te d.ex σ G (d.rt σ)
def mIf (q : QT) (u v w : STM) : STM := fun d σ G => q d.ex σ G fun k G1 => match k with
  | true => u { d with nx := w d } σ G1
  | false => v { d with nx := w d } σ G1
end
/-! ### what the cells hold -/
def layS : List (Addr × Nat) → SW → HW → HW
  | [], _, G => G
  | (c, j) :: r, σ, G => layS r σ (match σ[j]? with
    | some (some w) => updO G c (.cel w)
    | _ => G)
def endsM (cjs : List (Addr × Nat)) (q : WK) (x : XE) : EndsM := { nx := fun σ G => (∀ p ∈ cjs, G p.1 = none) → q .non (layS cjs σ G), rt := fun σ w G => (∀ p ∈ cjs, G p.1 = none) → q w (layS cjs σ G), ex := fun cls fs _ G => x cls fs G }
theorem CsOf.sub {X : Cx} {ys fr : List Str} {cs : List Addr} (h : CsOf X ys cs) (ix : List Nat) (hi : ix.map (fun i => ys[i]?) = fr.map some) : CsOf X fr (ix.map fun i => cs.getD i 0) := by
  have hl := congrArg List.length hi
  rw [List.length_map, List.length_map] at hl
  refine ⟨by rw [List.length_map, hl], fun i y e => ?_⟩
  have e1 : (ix.map fun i => ys[i]?)[i]? = some (some y) := by rw [hi, List.getElem?_map, e]; rfl
  rw [List.getElem?_map] at e1
  cases ei : ix[i]? with
  | none => rw [ei] at e1; cases e1
  | some j =>
    rw [ei] at e1
    have ej : ys[j]? = some y := Option.some.inj e1
    obtain ⟨a, ha, hc⟩ := h.2 j y ej
    exact ⟨a, by rw [List.getElem?_map, ei]; show some (cs.getD j 0) = some a; rw [List.getD_eq_getElem?_getD, ha]; rfl, hc⟩
end LF
/-! LF28: functions made within a def: their promises, calls of them -/
namespace LF
open PySem PySem.Spec PyProof.Rows L2 LamX
/-! ### the captured cells are the callee's own while it runs -/
def dropG (cs : List Addr) (G : HW) : HW := fun a => if a ∈ cs then none else G a
def reG (cs : List Addr) (G G' : HW) : HW := fun a => if a ∈ cs then G a else G' a
/-! ### promises -/
structure CloOk (P : Program) (w : World) (K : PySem.W.Frag) (mg : Str → Option Value) (base : Heap) (k : Nat) (n : NW) (ps : List Str) (sp : List Wv → SpW) : Prop where
  len : ∀ caps ws G q x, sp caps ws G q x → ws.length = ps.length
  run : ∀ (A : Around) (outer : List Env) (s : Shared) (H : Hp) (f c : Addr) (cl : List (Str × Addr)) (us : List Value) (vs cvs : List V) (cws ws : List Wv) (G : HW) (q : WK) (x : XE) (Q : VK) (E : XK), Rm k A → Env0 P w K mg base A outer s H → H f = some (CloO f n cl c) → H c = some (CodeO c n.qual) →
    NdefX.CellsAt cl n.fr (cvs.map some) s.heap H → Vals vs us → RWs K H ws vs → RWs K H cws cvs → RH K G H → Post K H Q q → PostE K H E x → sp cws ws G q x → codeAny (model P w) A (.call (.ref f) ⟨us, []⟩) (CR (L2.CX P w) outer P w H s Q E) s
theorem CloOk.mono {P : Program} {w : World} {K : PySem.W.Frag} {mg : Str → Option Value} {base : Heap} {j k : Nat} {n : NW} {ps : List Str} {sp : List Wv → SpW} (F : CloOk P w K mg base j n ps sp) (h : j ≤ k) : CloOk P w K mg base k n ps sp :=
  ⟨F.len, fun A outer s H f c cl us vs cvs cws ws G q x Q E hr => F.run A outer s H f c cl us vs cvs cws ws G q x Q E (hr.mono h)⟩
/-- captured cells, as a function that runs has them -/
structure CapF (base : Heap) (outer : List Env) (cl : List (Str × Addr)) (fr : List Str) (ks : List Addr) : Prop where
  nd : ks.Nodup
  len : ks.length = fr.length
  at_ : ∀ (j : Nat) (y : Str), fr[j]? = some y → ∃ a, ks[j]? = some a ∧ cl.lookup y = some a
  nb : ∀ a ∈ ks, base.get? a = none
  nf : ∀ a ∈ ks, a ∉ frs outer
/-- likewise, its cells being told of -/
structure CloOkL (P : Program) (w : World) (K : PySem.W.Frag) (mg : Str → Option Value) (base : Heap) (k : Nat) (n : NW) (ps : List Str) (sp : List Addr → List Wv → SpW) : Prop where
  len : ∀ ks caps ws G q x, sp ks caps ws G q x → ws.length = ps.length
  run : ∀ (A : Around) (outer : List Env) (s : Shared) (H : Hp) (f c : Addr) (cl : List (Str × Addr)) (ks : List Addr) (us : List Value) (vs cvs : List V) (cws ws : List Wv) (G : HW) (q : WK) (x : XE) (Q : VK) (E : XK), Rm k A → Env0 P w K mg base A outer s H → H f = some (CloO f n cl c) → H c = some (CodeO c n.qual) →
    NdefX.CellsAt cl n.fr (cvs.map some) s.heap H → CapF base outer cl n.fr ks → Vals vs us → RWs K H ws vs → RWs K H cws cvs → RH K G H → Post K H Q q → PostE K H E x → sp ks cws ws G q x → codeAny (model P w) A (.call (.ref f) ⟨us, []⟩) (CR (L2.CX P w) outer P w H s Q E) s
theorem CloOk.toL {P : Program} {w : World} {K : PySem.W.Frag} {mg : Str → Option Value} {base : Heap} {k : Nat} {n : NW} {ps : List Str} {sp : List Wv → SpW} (F : CloOk P w K mg base k n ps sp) : CloOkL P w K mg base k n ps (fun _ => sp) :=
  ⟨fun _ caps ws G q x h => F.len caps ws G q x h, fun A outer s H f c cl _ us vs cvs cws ws G q x Q E hr e0 hf hc C _ => F.run A outer s H f c cl us vs cvs cws ws G q x Q E hr e0 hf hc C⟩
theorem CloOkL.mono {P : Program} {w : World} {K : PySem.W.Frag} {mg : Str → Option Value} {base : Heap} {j k : Nat} {n : NW} {ps : List Str} {sp : List Addr → List Wv → SpW} (F : CloOkL P w K mg base j n ps sp) (h : j ≤ k) : CloOkL P w K mg base k n ps sp :=
  ⟨F.len, fun A outer s H f c cl ks us vs cvs cws ws G q x Q E hr => F.run A outer s H f c cl ks us vs cvs cws ws G q x Q E (hr.mono h)⟩
/-! ### calls -/
/-- a function that may stand ahead of (..): its words, its promise -/
inductive CandF where
  /-- made within a def -/
  | clo (n : NW) (sp : List Wv → SpW)
  /-- likewise, its cells being told of -/
  | cloL (n : NW) (sp : List Addr → List Wv → SpW)
  /-- a def of the top, with m values by place -/
  | glo (f : Addr) (m : Nat) (sel : List Sel) (sp : SpW)
def CandFOk (X : Cx) (k : Nat) : CandF → Prop
  | .clo n sp => ∃ ps, CloOk X.prog X.w X.K X.mg X.base k n ps sp
  | .cloL n sp => ∃ ps, CloOkL X.prog X.w X.K X.mg X.base k n ps sp
  | .glo f m sel sp => ∃ (fd : FuncData) (ps : List Str), FnX X k f fd ps sp ∧ BindW X.K fd ps m [] sel [] ∧ ∃ (oc : Value) (od : Option Addr) (sl : Array (Option Value)), X.K.lookup f = some ⟨oc, od, .func fd, sl⟩
def CandsF (X : Cx) (k : Nat) : List CandF → Prop
  | [] => True
  | c :: cs => CandFOk X k c ∧ CandsF X k cs
theorem CandsF.at {X : Cx} {k : Nat} : ∀ {cs : List CandF} {c : CandF}, CandsF X k cs → c ∈ cs → CandFOk X k c
  | _ :: _, _, h, hc => (List.mem_cons.mp hc).elim (fun e => e ▸ h.1) fun z => CandsF.at h.2 z
inductive CloIn (cs : List CandF) : NW → (List Addr → List Wv → SpW) → Prop
  | clo {n : NW} {sp : List Wv → SpW} : CandF.clo n sp ∈ cs → CloIn cs n (fun _ => sp)
  | cloL {n : NW} {sp : List Addr → List Wv → SpW} : CandF.cloL n sp ∈ cs → CloIn cs n sp
theorem CandsF.clo {X : Cx} {k : Nat} {cs : List CandF} {n : NW} {sp : List Addr → List Wv → SpW} (h : CandsF X k cs) (i : CloIn cs n sp) : ∃ ps, CloOkL X.prog X.w X.K X.mg X.base k n ps sp := by
  cases i with
  | clo m => obtain ⟨ps, F⟩ := h.at m; exact ⟨ps, F.toL⟩
  | cloL m => exact h.at m
/-- what the cells hold -/
def CapsG (G : HW) (cs : List Addr) (caps : List Wv) : Prop := caps.length = cs.length ∧ ∀ (j : Nat) (a : Addr) (w : Wv), cs[j]? = some a → caps[j]? = some w → G a = some (.cel w)
theorem CapsG.nil {G : HW} : CapsG G [] [] := ⟨rfl, fun j a w e => by simp at e⟩
theorem CapsG.cons {G : HW} {c : Addr} {w : Wv} {cs : List Addr} {ws : List Wv} (h : G c = some (.cel w)) (k : CapsG G cs ws) : CapsG G (c :: cs) (w :: ws) := ⟨by rw [List.length_cons, List.length_cons, k.1], fun j a w' e1 e2 => by
  cases j with
  | zero => cases e1; cases e2; exact h
  | succ j => exact k.2 j a w' e1 e2⟩
def wCallF (cs : List CandF) (f : Addr) (ws : List Wv) (G1 : HW) (x : XE) (q : WK) : Prop := (∃ n sp, CloIn cs n sp ∧ ∃ ks caps, G1 f = some (.clo f n ks) ∧ CapsG G1 ks caps ∧ sp ks caps ws (dropG ks G1) (fun v G2 => (∀ c ∈ ks, G2 c = none) → q v (reG ks G1 G2)) fun cls fs G2 => (∀ c ∈ ks, G2 c = none) → x cls fs (reG ks G1 G2)) ∨
  ∃ m sel sp, CandF.glo f m sel sp ∈ cs ∧ ws.length = m ∧ sp (pick sel ws [] []) G1 q x
/-- f may be called -/
def CallableW (cs : List CandF) (f : Addr) (G : HW) : Prop := (∃ n ks, G f = some (.clo f n ks)) ∨ ∃ m sel sp, CandF.glo f m sel sp ∈ cs
end LF
/-! LF29: try: return / finally; keyword-only defaults; len of an instance; fields as targets -/
namespace LF
open PySem PySem.Spec PyProof.Rows L2 LamX
/-! ### try: return e / finally: suite -/
section
variable {X : Cx} {Wx : WX} {e : Expr} {f₀ : Stmt} {fs : List Stmt} {rp pos : Pos} {te : ET} {tf : ST}
def finX (tf : ST) (D : EndsW) : XW := fun cls fs σ1 G1 => tf { nx := fun σ2 G2 => D.ex cls fs σ2 G2, rt := fun _ _ => False, ex := fun _ _ _ _ => False } σ1 G1
def finN (D : EndsW) (w : Wv) : EndsW := { D with nx := fun _ G2 => D.rt w G2, ex := fun _ _ _ _ => False }
def sRetFin (te : ET) (tf : ST) : ST := fun D σ G => te (finX tf D) σ G fun w G1 => tf (finN D w) σ G1
end
/-! ### keyword-only defaults -/
/-! ### len(x), x an instance -/
section
variable {X : Cx} {Wx : WX} {k : Nat} {te : ET} {e : Expr} {p pos : Pos} {f : Str}
def wLenO (m : Str) (cs : List Cand) (x : XW) (σ : SW) (q : WK) (w : Wv) (G1 : HW) : Prop := match w with
  | .ref a => ∃ c ∈ cs, ∃ dx fs, G1 a = some (.ins c.C dx fs) ∧ c.sp (pick c.sel [.ref a] [] c.dws) G1 (fun v G2 => ∃ n : Nat, v = .int n ∧ n ≤ sizeLine ∧ q (.int n) G2) fun cls fs G4 => x cls fs σ G4
  | _ => False
def eLenO (cs : List Cand) (te : ET) : ET := fun x σ G q => te x σ G fun w G1 => wLenO "__len__" cs x σ q w G1
end
end LF
/-! LF30: fields as targets; an empty table is of both kinds; the readings run -/
namespace LF
open PySem PySem.Spec PyProof.Rows L2 LamX
section
variable {X : Cx} {Wx : WX} {o e : Expr} {to te : ET} {f : Str} {pos pos' tpos : Pos}
/-- o.f = .. -/
def gAt (K : PySem.W.Frag) (f : Str) (to : ET) : GT := fun x w σ G s => to x σ G fun o G1 => wFst K f w o G1 fun G2 => s σ G2
/-- o.f op= e -/
def sFaug (K : PySem.W.Frag) (f : Str) (r : RWop) (to te : ET) : ST := fun D σ G => to D.ex σ G fun o G1 => match o with
  | .ref a => ∃ C dx fs w, G1 a = some (.ins C dx fs) ∧ Cls K C ∧ NoAttr K C f ∧ fs.lookup f = some w ∧ te D.ex σ G1 fun y G2 => r w y G2 fun z G3 => ∃ dx' fs', G3 a = some (.ins C dx' fs') ∧ fs'.length < 1000 ∧ D.nx σ (updO G3 a (.ins C dx' (putW f z fs')))
  | _ => False
/-! ### an empty table is of both kinds -/
end
end LF
/-! LF31: list(d); the readings of LF26-LF30 run -/
namespace LF
open PySem PySem.Spec PyProof.Rows L2 LamX
/-! ### list(x), x a dict too -/
def keyW (k : List Key) : Wv := .tup (k.map kW)
section
variable {x : XW} {σ : SW} {G : HW} {q : WK} {K : PySem.W.Frag} {te to : ET} {tl tk : AT} {f : Str} {w : Wv} {ws zs caps : List Wv} {D : EndsW} {cs : List CandF} {g a : Addr} {ks : List Addr} {n : NW} {nm : Nat → Nat → Str} {P0 : Addr} {xe : XE}
/-! ### functions as values -/
def kCallF (cs : List CandF) (f : Addr) (x : XW) (σ : SW) (q : WK) : List Wv → HW → Prop := fun ws G1 => wCallF cs f ws G1 (kX x σ) q
theorem m_kCallF : kCallF cs g x σ q ws G = wCallF cs g ws G (kX x σ) q := rfl
/-! ### defs that make functions -/
def kMk' (u : STM) (d : EndsM) : EndsW := { nx := u d, rt := fun _ _ => False, ex := d.ex }
variable {t : ST} {u v m : STM} {d : EndsM} {qq : QT}
theorem m_mSeq : mSeq t u d σ G = t (kMk' u d) σ G := rfl
theorem m_kMk_nx : (kMk' u d).nx σ G = u d σ G := rfl
theorem m_kMk_ex : (kMk' u d).ex = d.ex := rfl
theorem m_mRet : mRet te d σ G = te d.ex σ G (d.rt σ) := rfl
theorem m_mNil : mNil d σ G = d.nx σ G := rfl
def kMd (m : STM) (d : EndsM) : EndsM := { d with nx := m d }
def kMif (u v m : STM) (d : EndsM) (σ : SW) : Bool → HW → Prop := fun k G1 => match k with
  | true => u (kMd m d) σ G1
  | false => v (kMd m d) σ G1
theorem m_mIf : mIf qq u v m d σ G = qq d.ex σ G (kMif u v m d σ) := by
  unfold mIf
  congr 1
theorem m_kMift : kMif u v m d σ true G = u (kMd m d) σ G := rfl
theorem m_kMiff : kMif u v m d σ false G = v (kMd m d) σ G := rfl
theorem m_kMd_nx : (kMd m d).nx σ G = m d σ G := rfl
theorem m_kMd_rt : (kMd m d).rt = d.rt := rfl
theorem m_kMd_ex : (kMd m d).ex = d.ex := rfl
def kRtM (cjs : List (Addr × Nat)) (σ : SW) (q : WK) : WK := fun w G => (∀ p ∈ cjs, G p.1 = none) → q w (layS cjs σ G)
theorem m_endsM_rt {cjs : List (Addr × Nat)} : (endsM cjs q xe).rt σ = kRtM cjs σ q := rfl
theorem m_endsM_ex {cjs : List (Addr × Nat)} {cls : Value} {fs : List (Str × Wv)} : (endsM cjs q xe).ex cls fs σ G = xe cls fs G := rfl
def lay1 (c : Addr) (G : HW) : Option (Option Wv) → HW
  | some (some w) => updO G c (.cel w)
  | _ => G
theorem m_lay0 : layS [] σ G = G := rfl
theorem m_lay {c : Addr} {j : Nat} {r : List (Addr × Nat)} : layS ((c, j) :: r) σ G = layS r σ (lay1 c G (σ[j]?)) := by
  rfl
theorem m_lay1 {c : Addr} : lay1 c G (some (some w)) = updO G c (.cel w) := rfl
theorem m_lay1n {c : Addr} : lay1 c G (some none) = G := rfl
/-! ### try: return / finally -/
def kFin (tf : ST) (D : EndsW) (σ : SW) : WK := fun w G1 => tf (finN D w) σ G1
variable {tf : ST}
theorem m_RetFin : sRetFin te tf D σ G = te (finX tf D) σ G (kFin tf D σ) := rfl
theorem m_kFin : kFin tf D σ w G = tf (finN D w) σ G := rfl
theorem m_finN_nx : (finN D w).nx σ G = D.rt w G := rfl
theorem m_finN_rt : (finN D w).rt = D.rt := rfl
def finE (D : EndsW) (cls : Value) (fs : List (Str × Wv)) : EndsW := { nx := fun σ2 G2 => D.ex cls fs σ2 G2, rt := fun _ _ => False, ex := fun _ _ _ _ => False }
theorem m_finX {cls : Value} {fs : List (Str × Wv)} : finX tf D cls fs σ G = tf (finE D cls fs) σ G := rfl
theorem m_finE_nx {cls : Value} {fs : List (Str × Wv)} : (finE D cls fs).nx σ G = D.ex cls fs σ G := rfl
/-! ### len(x) -/
def kLenO (cs : List Cand) (x : XW) (σ : SW) (q : WK) : WK := fun w G1 => wLenO "__len__" cs x σ q w G1
variable {os : List Cand}
theorem m_LenO : eLenO os te x σ G q = te x σ G (kLenO os x σ q) := rfl
/-! ### fields -/
def kGat (K : PySem.W.Frag) (f : Str) (w : Wv) (σ : SW) (s : SW → HW → Prop) : WK := fun o G1 => wFst K f w o G1 fun G2 => s σ G2
theorem m_gAt {s : SW → HW → Prop} : gAt K f to x w σ G s = to x σ G (kGat K f w σ s) := rfl
def kFaug3 (f : Str) (a C : Addr) (D : EndsW) (σ : SW) : WK := fun z G3 => ∃ dx' fs', G3 a = some (.ins C dx' fs') ∧ fs'.length < 1000 ∧ D.nx σ (updO G3 a (.ins C dx' (putW f z fs')))
def kFaug2 (f : Str) (r : RWop) (a C : Addr) (w : Wv) (D : EndsW) (σ : SW) : WK := fun y G2 => r w y G2 (kFaug3 f a C D σ)
def kFaug1 (K : PySem.W.Frag) (f : Str) (r : RWop) (te : ET) (D : EndsW) (σ : SW) : WK := fun o G1 => match o with
  | .ref a => ∃ C dx fs w, G1 a = some (.ins C dx fs) ∧ Cls K C ∧ NoAttr K C f ∧ fs.lookup f = some w ∧ te D.ex σ G1 (kFaug2 f r a C w D σ)
  | _ => False
variable {r : RWop}
theorem m_Faug : sFaug K f r to te D σ G = to D.ex σ G (kFaug1 K f r te D σ) := rfl
theorem m_kFaug2 {C : Addr} {y : Wv} : kFaug2 f r a C w D σ y G = r w y G (kFaug3 f a C D σ) := rfl
/-! ### casts -/
end
end LF
/-! LF32: words of what is made within a def -/
namespace LF
open PySem PySem.Spec PyProof.Rows L2 LamX
section
variable {σ : SW} {G : HW} {D : EndsW} {tb : ST} {q : QT}
def kWhD (P : Nat → SW → HW → Prop) (m : Nat) (D : EndsW) : EndsW := { D with nx := fun σ' G' => ∃ m', m' < m ∧ P m' σ' G', ct := fun σ' G' => ∃ m', m' < m ∧ P m' σ' G', bk := D.nx }
def kWh (P : Nat → SW → HW → Prop) (m : Nat) (tb : ST) (D : EndsW) (σ : SW) : Bool → HW → Prop := fun k G1 => match k with
  | true => tb (kWhD P m D) σ G1
  | false => D.nx σ G1
variable {P : Nat → SW → HW → Prop} {m : Nat}
theorem m_kWht : kWh P m tb D σ true G = tb (kWhD P m D) σ G := rfl
theorem m_kWhf : kWh P m tb D σ false G = D.nx σ G := rfl
theorem m_kWhD_nx : (kWhD P m D).nx σ G = ∃ m', m' < m ∧ P m' σ G := rfl
theorem m_kWhD_ct : (kWhD P m D).ct σ G = ∃ m', m' < m ∧ P m' σ G := rfl
theorem m_kWhD_bk : (kWhD P m D).bk = D.nx := rfl
theorem m_kWhD_rt : (kWhD P m D).rt = D.rt := rfl
theorem m_kWhD_ex : (kWhD P m D).ex = D.ex := rfl
end
end LF
/-! LF33: heaps by parts that stand apart -/
namespace LF
open PySem PySem.Spec PyProof.Rows L2
/-- said of a part of a heap -/
def Ass := HW → Prop
/-- h taken out -/
def offG (G h : HW) : HW := fun a => match h a with
  | some _ => none
  | none => G a
theorem offG_some {G h : HW} {a : Addr} {o : O} : offG G h a = some o ↔ h a = none ∧ G a = some o := by
  unfold offG
  cases h a with
  | none => simp
  | some o' => simp
theorem offG_none {G h : HW} {a : Addr} (e : h a = none) : offG G h a = G a := by unfold offG; rw [e]
def Sep : List Ass → HW → Prop
  | [], _ => True
  | A :: L, G => ∃ h, A h ∧ Ext h G ∧ Sep L (offG G h)
def one (a : Addr) (o : O) : HW := fun b => if b = a then some o else none
def pt (a : Addr) (o : O) : Ass := fun h => h = one a o
def pu (p : Prop) : Ass := fun _ => p
def exA {α : Type} (f : α → Ass) : Ass := fun h => ∃ a, f a h
def bun (L : List Ass) : Ass := Sep L
section
variable {G G' G2 h h' : HW} {A B : Ass} {L M N F : List Ass} {a b l : Addr} {o o' : O} {p : Prop}
theorem one_same : one a o a = some o := by unfold one; rw [if_pos rfl]
theorem one_ne (h : b ≠ a) : one a o b = none := by unfold one; rw [if_neg h]
theorem one_none (h : one a o b = none) : b ≠ a := fun e => by subst e; rw [one_same] at h; cases h
theorem offG_ext (e : Ext G G') : Ext (offG G h) (offG G' h) := fun a o z => offG_some.mpr ⟨(offG_some.mp z).1, e _ _ (offG_some.mp z).2⟩
theorem Sep.ext : ∀ {L : List Ass} {G G' : HW}, Sep L G → Ext G G' → Sep L G'
  | [], _, _, _, _ => trivial
  | A :: L, G, G', ⟨h, hA, x, s⟩, e => ⟨h, hA, x.trans e, s.ext (offG_ext e)⟩
theorem Sep.new (s : Sep L G) (hl : G l = none) : Sep (pt l o :: L) (updO G l o) :=
  ⟨one l o, rfl, (fun a o' e => by
    by_cases z : a = l
    · subst z; rw [one_same] at e; cases e; exact updO_same
    · rw [one_ne z] at e; cases e), s.ext fun a o' e => by
    have z : a ≠ l := fun z => by subst z; rw [hl] at e; cases e
    exact offG_some.mpr ⟨one_ne z, by rw [updO_ne z]; exact e⟩⟩
theorem Sep.at (s : Sep (pt a o :: L) G) : G a = some o := by
  obtain ⟨h, rfl, x, _⟩ := s
  exact x _ _ one_same
theorem Sep.tail (s : Sep (A :: L) G) : Sep L G := by
  obtain ⟨h, _, _, s⟩ := s
  exact s.ext fun a o e => (offG_some.mp e).2
theorem Sep.swap (s : Sep (A :: B :: L) G) : Sep (B :: A :: L) G := by
  obtain ⟨h, hA, x, h', hB, x', s⟩ := s
  refine ⟨h', hB, fun a o e => (offG_some.mp (x' _ _ e)).2, h, hA, fun a o e => offG_some.mpr ⟨?_, x _ _ e⟩, s.ext fun a o e => ?_⟩
  · cases e' : h' a with
    | none => rfl
    | some o' =>
      have := (offG_some.mp (x' _ _ e')).1
      rw [e] at this; cases this
  · obtain ⟨e1, e2⟩ := offG_some.mp e
    obtain ⟨e3, e4⟩ := offG_some.mp e2
    exact offG_some.mpr ⟨e3, offG_some.mpr ⟨e1, e4⟩⟩
theorem Sep.putH (s : Sep (pt a o :: L) G) : Sep (pt a o' :: L) (updO G a o') := by
  obtain ⟨h, rfl, x, s⟩ := s
  refine ⟨one a o', rfl, fun b o2 e => ?_, s.ext fun b o2 e => ?_⟩
  · by_cases z : b = a
    · subst z; rw [one_same] at e; cases e; exact updO_same
    · rw [one_ne z] at e; cases e
  · obtain ⟨e1, e2⟩ := offG_some.mp e
    have z := one_none e1
    exact offG_some.mpr ⟨one_ne z, by rw [updO_ne z]; exact e2⟩
theorem Sep.cons (k : Sep L G → Sep M G) : False → Sep (A :: L) G → Sep (A :: M) G := fun z => z.elim
theorem Sep.map (k : ∀ {G}, Sep L G → Sep M G) (s : Sep (A :: L) G) : Sep (A :: M) G := let ⟨h, hA, x, s⟩ := s; ⟨h, hA, x, k s⟩
/-- A pulled out of M leaves N -/
inductive Pull (A : Ass) : List Ass → List Ass → Prop
  | head {L : List Ass} : Pull A (A :: L) L
  | tail {B : Ass} {L M : List Ass} : Pull A L M → Pull A (B :: L) (B :: M)
theorem Sep.pull (s : Sep M G) (k : Pull A M N) : Sep (A :: N) G := by
  induction k generalizing G with
  | head => exact s
  | tail _ ih => exact (s.map ih).swap
theorem Sep.back (s : Sep (A :: N) G) (k : Pull A M N) : Sep M G := by
  induction k generalizing G with
  | head => exact s
  | tail _ ih => exact s.swap.map ih
theorem Sep.get (s : Sep L G) (k : Pull (pt a o) L M) : G a = some o := (s.pull k).at
inductive Put (a : Addr) (o o' : O) : List Ass → List Ass → Prop
  | head {L : List Ass} : Put a o o' (pt a o :: L) (pt a o' :: L)
  | tail {B : Ass} {L M : List Ass} : Put a o o' L M → Put a o o' (B :: L) (B :: M)
theorem Put.pull (k : Put a o o' L M) : ∃ N, Pull (pt a o) L N ∧ Pull (pt a o') M N := by
  induction k with
  | head => exact ⟨_, .head, .head⟩
  | tail _ ih => obtain ⟨N, a, b⟩ := ih; exact ⟨_, .tail a, .tail b⟩
theorem Sep.put (s : Sep L G) (k : Put a o o' L M) : Sep M (updO G a o') := by
  obtain ⟨N, a, b⟩ := k.pull
  exact (s.pull a).putH.back b
/-- L is among M; F is left -/
inductive Take : List Ass → List Ass → List Ass → Prop
  | nil {M : List Ass} : Take [] M M
  | cons {A : Ass} {L M N F : List Ass} : Pull A M N → Take L N F → Take (A :: L) M F
theorem Sep.take (s : Sep M G) (k : Take L M F) : Sep (L ++ F) G := by
  induction k generalizing G with
  | nil => exact s
  | cons p _ ih => exact (s.pull p).map ih
/-- L without what is told no more -/
inductive Sub : List Ass → List Ass → Prop
  | refl {L : List Ass} : Sub L L
  | nil {L : List Ass} : Sub [] L
  | pull {A : Ass} {L M N : List Ass} : Pull A M N → Sub L N → Sub (A :: L) M
  | skip {B : Ass} {L M : List Ass} : Sub L M → Sub L (B :: M)
theorem Sep.sub (s : Sep M G) (k : Sub L M) : Sep L G := by
  induction k generalizing G with
  | refl => exact s
  | nil => trivial
  | pull p _ ih => exact (s.pull p).map ih
  | skip _ ih => exact ih s.tail
theorem Sep.exi {α : Type} {f : α → Ass} (s : Sep (exA f :: L) G) : ∃ a, Sep (f a :: L) G := by
  obtain ⟨h, ⟨a, ha⟩, x, s⟩ := s
  exact ⟨a, h, ha, x, s⟩
theorem Sep.imp (k : ∀ h, A h → B h) (s : Sep (A :: L) G) : Sep (B :: L) G := let ⟨h, hA, x, s⟩ := s; ⟨h, k h hA, x, s⟩
theorem Sep.unbun : ∀ {L : List Ass} {F : List Ass} {G h : HW}, Sep L h → Ext h G → Sep F (offG G h) → Sep (L ++ F) G
  | [], F, G, h, _, x, s => s.ext fun a o e => (offG_some.mp e).2
  | A :: L, F, G, h, ⟨h1, hA, x1, s1⟩, x, s => ⟨h1, hA, x1.trans x, Sep.unbun s1 (offG_ext x) (s.ext fun a o e => by
    obtain ⟨e1, e2⟩ := offG_some.mp e
    have n1 : h1 a = none := by
      cases z : h1 a with
      | none => rfl
      | some o' => rw [x1 _ _ z] at e1; cases e1
    refine offG_some.mpr ⟨?_, offG_some.mpr ⟨n1, e2⟩⟩
    rw [offG_none n1]; exact e1)⟩
theorem Sep.un (s : Sep (bun L :: F) G) : Sep (L ++ F) G := let ⟨_, hL, x, s⟩ := s; Sep.unbun hL x s
/-- two parts as one -/
def orG (h h' : HW) : HW := fun a => match h a with
  | some o => some o
  | none => h' a
theorem orG_l {h h' : HW} (e : h a = some o) : orG h h' a = some o := by unfold orG; rw [e]
theorem orG_r {h h' : HW} (e : h a = none) : orG h h' a = h' a := by unfold orG; rw [e]
theorem Sep.mkBun : ∀ {L : List Ass} {F : List Ass} {G : HW}, Sep (L ++ F) G → Sep (bun L :: F) G
  | [], F, G, s => ⟨fun _ => none, trivial, (fun _ _ e => by cases e), s.ext fun a o e => offG_some.mpr ⟨rfl, e⟩⟩
  | A :: L, F, G, ⟨h1, hA, x1, s⟩ => by
    obtain ⟨h2, hL, x2, s2⟩ := Sep.mkBun (L := L) (F := F) s
    refine ⟨orG h1 h2, ⟨h1, hA, fun a o e => orG_l e, hL.ext fun a o e => ?_⟩, fun a o e => ?_, s2.ext fun a o e => ?_⟩
    · have n1 := (offG_some.mp (x2 _ _ e)).1
      exact offG_some.mpr ⟨n1, by rw [orG_r n1]; exact e⟩
    · cases z : h1 a with
      | some o' => rw [orG_l z] at e; cases e; exact x1 _ _ z
      | none => rw [orG_r z] at e; exact (offG_some.mp (x2 _ _ e)).2
    · obtain ⟨e1, e2⟩ := offG_some.mp e
      obtain ⟨e3, e4⟩ := offG_some.mp e2
      exact offG_some.mpr ⟨by rw [orG_r e3]; exact e1, e4⟩
/-- what an own part keeps of a run that touches but S -/
theorem Sep.kp {S : List Addr} (s : Sep (A :: L) G) (hA : ∀ h, A h → ∀ a ∈ S, ∃ o, h a = some o) (k : Kp S G G') (B' : ∀ h, A h → Ext h G → ∃ h', B h' ∧ Ext h' G' ∧ ∀ a, h a = none → h' a = none) : Sep (B :: L) G' := by
  obtain ⟨h, ha, x, s⟩ := s
  obtain ⟨h', hb, x', dm⟩ := B' h ha x
  refine ⟨h', hb, x', s.ext fun a o e => ?_⟩
  obtain ⟨e1, e2⟩ := offG_some.mp e
  refine offG_some.mpr ⟨dm a e1, k a o (fun m => ?_) e2⟩
  obtain ⟨o', z⟩ := hA h ha a m
  rw [z] at e1; cases e1
end
/-! ### the state of drawing -/
def DrA (m : Addr) (n : Nat) : Ass := fun h => ∃ a b, DSt h m a b n
section
variable {G G' : HW} {L : List Ass} {m a b : Addr} {n n' : Nat}
theorem Sep.dr (s : Sep (DrA m n :: L) G) : ∃ a b, DSt G m a b n ∧ ∀ G' n', Kp [m, b] G G' → DSt G' m a b n' → Sep (DrA m n' :: L) G' := by
  obtain ⟨h, ⟨a, b, d⟩, x, s⟩ := s
  refine ⟨a, b, d.ext x, fun G' n' k d' => ?_⟩
  obtain ⟨k0, cells, left, h1, h2, h3, h4, h5⟩ := d
  obtain ⟨k1, cells', left', g1, g2, g3, g4, g5⟩ := d'
  refine ⟨fun c => if c = m ∨ c = a ∨ c = b then G' c else none, ⟨a, b, k1, cells', left', ?_, ?_, g3, ?_, g5⟩, fun c o e => ?_, s.ext fun c o e => ?_⟩
  · dsimp only; rw [if_pos (.inl rfl)]; exact g1
  · dsimp only; rw [if_pos (.inr (.inl rfl))]; exact g2
  · dsimp only; rw [if_pos (.inr (.inr rfl))]; exact g4
  · dsimp only at e
    split at e
    · exact e
    · cases e
  · obtain ⟨e1, e2⟩ := offG_some.mp e
    have c1 : c ≠ m := fun z => by rw [z, h1] at e1; cases e1
    have c2 : c ≠ a := fun z => by rw [z, h2] at e1; cases e1
    have c3 : c ≠ b := fun z => by rw [z, h4] at e1; cases e1
    refine offG_some.mpr ⟨?_, k c o (by simp [c1, c3]) e2⟩
    rw [if_neg (by simp [c1, c2, c3])]
theorem DrA.mono (h : n' ≤ n) (s : Sep (DrA m n :: L) G) : Sep (DrA m n' :: L) G := s.imp fun h' ⟨a, b, d⟩ => ⟨a, b, d.mono h⟩
end
end LF
/-! LF34: tables made by comprehensions, of any keys -/
namespace LF
open PySem PySem.Spec PyProof.Rows L2
/-! ### keys that are tuples -/
/-! ### readings -/
/-- o0, how a table is filled, told on trees -/
abbrev FillW := Addr → Wv → Wv → HW → (HW → Prop) → Prop
def eDcG (o0 : O) (sw : FillW) (wi : IT) (is vs : List Nat) (tt : QT) (tk tv : ET) : ET := fun x σ G q => wi x σ G fun its ok G1 => ∀ D, G1 D = none → ∃ P : Nat → HW → Prop, P 0 (updO G1 D o0) ∧ (∀ i G, i ≤ its.length → P i G → ok G) ∧
  (∀ i w G, its[i]? = some w → P i G → ∃ σ2, inTo is w (wipeW σ vs) = some σ2 ∧ tt x0 σ2 G fun k G3 => match k with
    | true => tk x0 σ2 G3 fun y G4 => tv x0 σ2 G4 fun z G5 => sw D y z G5 (P (i + 1))
    | false => P (i + 1) G3) ∧ ∀ G, P its.length G → q (.ref D) G
section
variable {x : XW} {σ : SW} {G : HW} {q : WK} {wi : IT} {is vs : List Nat} {tt : QT} {tk tv : ET} {its : List Wv} {ok : HW → Prop} {o0 : O} {sw : FillW}
def kDcG (o0 : O) (sw : FillW) (is vs : List Nat) (tt : QT) (tk tv : ET) (x : XW) (σ : SW) (q : WK) : IK := fun its ok G1 => ∀ D, G1 D = none → ∃ P : Nat → HW → Prop, P 0 (updO G1 D o0) ∧ (∀ i G, i ≤ its.length → P i G → ok G) ∧
  (∀ i w G, its[i]? = some w → P i G → ∃ σ2, inTo is w (wipeW σ vs) = some σ2 ∧ tt x0 σ2 G fun k G3 => match k with
    | true => tk x0 σ2 G3 fun y G4 => tv x0 σ2 G4 fun z G5 => sw D y z G5 (P (i + 1))
    | false => P (i + 1) G3) ∧ ∀ G, P its.length G → q (.ref D) G
theorem m_DcG : eDcG o0 sw wi is vs tt tk tv x σ G q = wi x σ G (kDcG o0 sw is vs tt tk tv x σ q) := rfl
end
end LF
/-! LF35: own errors over any of the usual bases -/
namespace LF
open PySem PySem.Spec PyProof.Rows L2
/-- behind the own classes -/
def pastRefs : List Value → List Value
  | .ref _ :: r => pastRefs r
  | l => l
/-- what the library says of a base -/
structure BaseOk (B newId initId : String) (tl : List Value) : Prop where
  F : ExcBaseFacts B newId initId tl
  pass : ∀ self, PySem.refuseLoop self "__setattr__" tl = pure ()
  obj : tl.contains (.type "object") = true
/-- what the written part says of an own class over a base -/
structure OexB (K : PySem.W.Frag) (C : Addr) (B newId initId : String) (tl : List Value) : Prop where
  base : BaseOk B newId initId tl
  cls : ∃ nm q N bs bm sn sub ab col dd k0 k1 k2 k3 k5, K.lookup C = some (excClassObj nm q C N bs bm true sn sub ab col dd k0 k1 k2 k3 k5 newId) ∧ pastRefs bm = tl
  sa : PySem.W.findIn K (.ref C) "__setattr__" = some (some (.builtin "object.__setattr__"))
  exC : PySem.W.subIn K (.ref C) (.type "BaseException") = some true
  tyC : PySem.W.typeIn K (.ref C) = some (.type "type")
  kC : PySem.W.keepIn K (.ref C) = true
section
variable {X : Cx} {pins : List (Addr × Obj)} {τ : L2.St} {H : Hp} {s : Shared} {a C dx : Addr} {f : Str} {y : V} {u : Value} {fs : List (Str × V)} {Q : Unit → Shared → Prop} {E : Value → Shared → Prop} {A : Around} {B newId initId : String} {tl : List Value}
theorem OexB.data (T : OexB X.K C B newId initId tl) : ∃ cd, PySem.W.clsIn X.K C = some cd ∧ pastRefs cd.mro = tl ∧ cd.hasDict = true := by
  obtain ⟨nm, q, N, bs, bm, sn, sub, ab, col, dd, k0, k1, k2, k3, k5, hC, hbm⟩ := T.cls
  exact ⟨{ name := nm, bases := bs, mro := .ref C :: bm, ns := N, qualname := q, hasDict := true, slotNames := sn, subclasses := sub, abstract := ab, collection := col, hasDel := false }, by unfold PySem.W.clsIn; rw [hC] <;> rfl, hbm, rfl⟩
variable {o e0 : Expr} {es : List Expr} {to te : TE} {ta : TA} {p p' p1 p2 pos : Pos}
end
/-! ### readings -/
def mkA (C : Addr) (f : List Str) (n : Nat) (sel : List Sel) (dws : List Wv) (tl : AT) : MT := fun x σ G q => tl x σ G fun ws G1 => ws.length = n ∧ n ≤ 1000 ∧ q (.ref C) (f.zip (pick sel ws [] dws)).reverse G1
def mk0 (C : Addr) (fs : List (Str × Wv)) : MT := fun x σ G q => q (.ref C) fs G
/-! ### run -/
section
variable {σ : SW} {G : HW} {C : Addr} {f : List Str} {n : Nat} {sel : List Sel} {dws : List Wv} {tl : AT} {fs : List (Str × Wv)} {ws : List Wv} {x : XW} {rq : Value → List (Str × Wv) → HW → Prop}
def kMkA (C : Addr) (f : List Str) (n : Nat) (sel : List Sel) (dws : List Wv) (rq : Value → List (Str × Wv) → HW → Prop) : List Wv → HW → Prop := fun ws G1 => ws.length = n ∧ n ≤ 1000 ∧ rq (.ref C) (f.zip (pick sel ws [] dws)).reverse G1
theorem m_mkA : mkA C f n sel dws tl x σ G rq = tl x σ G (kMkA C f n sel dws rq) := rfl
theorem m_mk0 : mk0 C fs x σ G rq = rq (.ref C) fs G := rfl
theorem m_kMkA (h1 : ws.length = n) (h2 : n ≤ 1000) : kMkA C f n sel dws rq ws G = rq (.ref C) (f.zip (pick sel ws [] dws)).reverse G := propext ⟨fun z => z.2.2, fun z => ⟨h1, h2, z⟩⟩
end
end LF
/-! LF36: trials as parts of a heap: rows, what is known, the test with its log; cells of a callee -/
namespace LF
open PySem PySem.Spec PyProof.Rows L2
local macro_rules | `(tactic| walk_at "pull") => `(tactic| first
  | exact Pull.head | exact Pull.tail Pull.head | exact Pull.tail (Pull.tail Pull.head) | exact Pull.tail (Pull.tail (Pull.tail Pull.head))
  | exact Pull.tail (Pull.tail (Pull.tail (Pull.tail Pull.head))) | exact Pull.tail (Pull.tail (Pull.tail (Pull.tail (Pull.tail Pull.head))))
  | exact Pull.tail (Pull.tail (Pull.tail (Pull.tail (Pull.tail (Pull.tail Pull.head))))) | exact Pull.tail (Pull.tail (Pull.tail (Pull.tail (Pull.tail (Pull.tail (Pull.tail Pull.head))))))
  | exact Pull.tail (Pull.tail (Pull.tail (Pull.tail (Pull.tail (Pull.tail (Pull.tail (Pull.tail Pull.head))))))) | exact Pull.tail (Pull.tail (Pull.tail (Pull.tail (Pull.tail (Pull.tail (Pull.tail (Pull.tail (Pull.tail Pull.head)))))))))
local macro_rules | `(tactic| walk_at "putp") => `(tactic| first
  | exact Put.head | exact Put.tail Put.head | exact Put.tail (Put.tail Put.head) | exact Put.tail (Put.tail (Put.tail Put.head))
  | exact Put.tail (Put.tail (Put.tail (Put.tail Put.head))) | exact Put.tail (Put.tail (Put.tail (Put.tail (Put.tail Put.head))))
  | exact Put.tail (Put.tail (Put.tail (Put.tail (Put.tail (Put.tail Put.head))))) | exact Put.tail (Put.tail (Put.tail (Put.tail (Put.tail (Put.tail (Put.tail Put.head))))))
  | exact Put.tail (Put.tail (Put.tail (Put.tail (Put.tail (Put.tail (Put.tail (Put.tail Put.head))))))))
local macro_rules | `(tactic| walk_at "sepm") => `(tactic| repeat (first | exact Sub.refl | refine Sub.pull (by walk_at "pull") ?_))
abbrev Cf := List Int
abbrev Rw := Cf × Str
def kyW (p : Cf) : List Key := p.map .inl
def cfW (p : Cf) : Wv := .tup (p.map .int)
def rowW (r : Rw) : Wv := .tup [.tup (r.1.map .int), .str r.2]
def entT (r : Rw) : List Key × Wv := (kyW r.1, .str r.2)
def lkR (kn : List Rw) (p : Cf) : Option Str := (kn.find? fun r => decide (r.1 = p)).map (·.2)
theorem lkR_map {τ : Cf → Str} : ∀ (cs : List Cf) (p : Cf), lkR (cs.map fun p => (p, τ p)) p = if p ∈ cs then some (τ p) else none
  | [], p => by simp [lkR]
  | c :: cs, p => by
    have ih := lkR_map (τ := τ) cs p
    unfold lkR at *
    rw [List.map_cons]
    by_cases h : c = p
    · subst h; simp
    · rw [List.find?_cons_of_neg (by simpa using h), ih]
      have : (p ∈ c :: cs) ↔ p ∈ cs := ⟨fun z => (List.mem_cons.mp z).elim (fun z => absurd z.symm h) id, List.mem_cons_of_mem _⟩
      by_cases k : p ∈ cs
      · rw [if_pos k, if_pos (this.mpr k)]
      · rw [if_neg k, if_neg fun z => k (this.mp z)]
/-! ### cells -/
def celsL (xs : List (Addr × Wv)) : List Ass := xs.map fun p => pt p.1 (.cel p.2)
section
variable {G G' G2 : HW} {M M' L : List Ass} {A B : Ass} {ks : List Addr}
theorem Sep.drop : ∀ {xs : List (Addr × Wv)} {G : HW}, Sep (celsL xs ++ M) G → Sep M (dropG (xs.map (·.1)) G)
  | [], G, s => s.ext fun a o e => by unfold dropG; simpa using e
  | (a, w) :: xs, G, s => by
    obtain ⟨h, rfl, x, s⟩ := (show Sep (pt a (.cel w) :: (celsL xs ++ M)) G from s)
    refine (Sep.drop s).ext fun b o e => ?_
    unfold dropG at e ⊢
    by_cases m : b ∈ xs.map (·.1)
    · rw [if_pos m] at e; cases e
    · rw [if_neg m] at e
      obtain ⟨e1, e2⟩ := offG_some.mp e
      have z := one_none e1
      rw [if_neg (by simp only [List.map_cons, List.mem_cons, not_or]; exact ⟨z, m⟩)]
      exact e2
theorem Sep.cel : ∀ {xs : List (Addr × Wv)} {G : HW}, Sep (celsL xs ++ M) G → ∀ (j : Nat) (a : Addr) (w : Wv), (xs.map (·.1))[j]? = some a → (xs.map (·.2))[j]? = some w → G a = some (.cel w)
  | [], G, _, j, a, w, e, _ => by simp at e
  | (b, u) :: xs, G, s, j, a, w, e1, e2 => by
    have s : Sep (pt b (.cel u) :: (celsL xs ++ M)) G := s
    cases j with
    | zero =>
      simp at e1 e2
      subst e1 e2
      exact s.at
    | succ j =>
      simp only [List.map_cons, List.getElem?_cons_succ] at e1 e2
      exact Sep.cel s.tail j a w e1 e2
end
/-! ### what is said of one of two -/
def orA (A B : Ass) : Ass := fun h => A h ∨ B h
theorem Sep.inl {G : HW} {A B : Ass} {L : List Ass} (s : Sep (A :: L) G) : Sep (orA A B :: L) G := s.imp fun _ z => .inl z
theorem Sep.inr {G : HW} {A B : Ass} {L : List Ass} (s : Sep (B :: L) G) : Sep (orA A B :: L) G := s.imp fun _ z => .inr z
/-! ### trials -/
def trF (te : Wv) (m : Int) (k r : Addr) (b : Bool) : List (Str × Wv) := [("the_test", te), ("most_calls", .int m), ("all_known", .ref k), ("called_rows", .ref r), ("calling", .bl b)]
def TrA (C t : Addr) (te : Wv) (m : Int) (kn rs : List Rw) : Ass := exA fun z : Addr × Addr × Addr => bun [pt t (.ins C z.1 (trF te m z.2.1 z.2.2 false)), pt z.2.1 (.dtp (kn.map entT)), pt z.2.2 (.lst (rs.map rowW))]
/-- a test that writes down what it is called with -/
def TeA (n : NW) (g lg f : Addr) (log : List Cf) : Ass := exA fun z : Addr × Addr => bun [pt z.1 (.cel (.ref lg)), pt z.2 (.cel (.ref f)), pt g (.clo g n [z.1, z.2]), pt lg (.lst (log.map cfW))]
section
variable {G : HW} {F : List Ass} {C t g lg f dx k r c1 c2 : Addr} {te : Wv} {m : Int} {kn rs : List Rw} {n : NW} {log : List Cf}
theorem Sep.tr (s : Sep (TrA C t te m kn rs :: F) G) : ∃ dx k r, Sep (pt t (.ins C dx (trF te m k r false)) :: pt k (.dtp (kn.map entT)) :: pt r (.lst (rs.map rowW)) :: F) G :=
  let ⟨z, s⟩ := s.exi; ⟨z.1, z.2.1, z.2.2, s.un⟩
end
/-! ### verdicts -/
def isVd : Wv → Bool
  | .str x => x == "fail" || x == "pass" || x == "unresolved"
  | _ => false
def vdS (v : Str) : Prop := v = "fail" ∨ v = "pass" ∨ v = "unresolved"
theorem vdS.is {v : Str} (h : vdS v) : isVd (.str v) = true := by rcases h with rfl | rfl | rfl <;> rfl
end LF
/-! LF37: halving, told in plain words -/
namespace LF
open PySem PySem.Spec PyProof.Rows L2
/-! ### counting -/
theorem nodup_le {α : Type} [DecidableEq α] : ∀ {l m : List α}, l.Nodup → (∀ x ∈ l, x ∈ m) → l.length ≤ m.length
  | [], m, _, _ => Nat.zero_le _
  | a :: l, m, hn, hs => by
    obtain ⟨h1, h2⟩ := List.nodup_cons.mp hn
    have ha := hs a List.mem_cons_self
    have := nodup_le (l := l) (m := m.erase a) h2 fun x hx => (List.mem_erase_of_ne (fun e => by subst e; exact h1 hx)).mpr (hs x (List.mem_cons_of_mem _ hx))
    rw [List.length_erase_of_mem ha] at this
    have := List.length_pos_of_mem ha
    simp only [List.length_cons]
    omega
/-! ### asked -/
def askL (cs : List Cf) (p : Cf) : List Cf := if p ∈ cs then cs else cs ++ [p]
def askAll : List Cf → List Cf → List Cf
  | cs, [] => cs
  | cs, p :: l => askAll (askL cs p) l
theorem askL_nodup {cs : List Cf} {p : Cf} (h : cs.Nodup) : (askL cs p).Nodup := by
  unfold askL
  split
  · exact h
  · rename_i n
    exact List.nodup_append.mpr ⟨h, by simp, fun a ha b hb e => by cases List.mem_singleton.mp hb; subst e; exact n ha⟩
theorem askL_mem {cs : List Cf} {p q : Cf} : q ∈ askL cs p ↔ q ∈ cs ∨ q = p := by
  unfold askL
  split
  · rename_i h
    exact ⟨.inl, fun z => z.elim id fun z => z ▸ h⟩
  · simp
theorem askL_le {cs : List Cf} {p : Cf} : cs.length ≤ (askL cs p).length := by
  unfold askL
  split
  · exact Nat.le_refl _
  · simp
theorem askAll_nodup : ∀ {l cs : List Cf}, cs.Nodup → (askAll cs l).Nodup
  | [], _, h => h
  | _ :: l, _, h => askAll_nodup (l := l) (askL_nodup h)
theorem askAll_mem : ∀ {l cs : List Cf} {q : Cf}, q ∈ askAll cs l ↔ q ∈ cs ∨ q ∈ l
  | [], _, _ => by simp [askAll]
  | p :: l, cs, q => by
    rw [askAll, askAll_mem, askL_mem, List.mem_cons, or_assoc]
theorem askAll_le : ∀ {l cs : List Cf}, cs.length ≤ (askAll cs l).length
  | [], _ => Nat.le_refl _
  | _ :: l, _ => Nat.le_trans askL_le (askAll_le (l := l))
theorem askAll_app : ∀ {l m cs : List Cf}, askAll cs (l ++ m) = askAll (askAll cs l) m
  | [], _, _ => rfl
  | _ :: l, m, _ => askAll_app (l := l) (m := m)
/-! ### halving -/
inductive Sg | empty | parts | rests | over
  deriving DecidableEq
def Sg.w : Sg → Str
  | .empty => "empty" | .parts => "parts" | .rests => "rests" | .over => "over"
structure Hs where
  st : Sg
  now : Cf
  cuts : Nat
  place : Nat
def Hs.part (s : Hs) : Cf := partN s.now s.cuts s.place
def Hs.upc (s : Hs) : Cf := match s.st with
  | .empty => []
  | .parts => s.part
  | _ => lessL s.now s.part
def beginS (p : Cf) (c : Nat) : Hs := ⟨if 1 < p.length then .parts else .over, p, c, 0⟩
def nothingS (s : Hs) : Hs := if s.st = .parts ∧ 2 < s.cuts then { s with st := .rests, place := 0 } else if s.cuts < s.now.length then beginS s.now (min (2 * s.cuts) s.now.length) else { s with st := .over }
def takeS (s : Hs) (fl : Bool) : Hs := if s.st = .empty then beginS (if fl then [] else s.now) 2 else if fl then beginS s.upc (if s.st = .parts then 2 else s.cuts - 1)
  else if s.place + 1 = s.cuts then nothingS { s with place := s.place + 1 } else { s with place := s.place + 1 }
def Hs.Mid (s : Hs) : Prop := match s.st with
  | .empty => True
  | .parts => 2 ≤ s.cuts ∧ s.cuts ≤ s.now.length ∧ s.place < s.cuts
  | .rests => 2 < s.cuts ∧ s.cuts ≤ s.now.length ∧ s.place < s.cuts
  | .over => True
structure Hs.Ok (s : Hs) : Prop where
  c : Cfg s.now 120
  k : s.Mid
theorem part_sub {ns : Cf} {m i : Nat} : (partN ns m i).Sublist ns := by
  unfold partN cutN
  exact (List.take_sublist _ _).trans (List.drop_sublist _ _)
theorem less_sub {ns ms : Cf} : (lessL ns ms).Sublist ns := List.filter_sublist
theorem Cfg.sub {ns ms : Cf} {n : Int} (h : Cfg ns n) (s : ms.Sublist ns) : Cfg ms n := ⟨by have := s.length_le; have := h.1; omega, fun i hi => h.2.1 i (s.subset hi), h.2.2.sublist s⟩
theorem upc_sub {s : Hs} : s.upc.Sublist s.now := by
  unfold Hs.upc Hs.part
  split
  · exact List.nil_sublist _
  · exact part_sub
  · exact less_sub
theorem Hs.Ok.upc {s : Hs} (h : s.Ok) : Cfg s.upc 120 := h.c.sub upc_sub
theorem less_len {ns ms : Cf} (hn : ns.Nodup) : ns.length ≤ (lessL ns ms).length + ms.length := by
  have h1 : (ns.filter fun i => decide (i ∈ ms)).length ≤ ms.length := nodup_le (hn.sublist List.filter_sublist) fun x hx => by simpa using (List.mem_filter.mp hx).2
  have h2 : ns.length = (ns.filter fun i => decide (i ∈ ms)).length + (lessL ns ms).length := by
    unfold lessL
    clear h1 hn
    induction ns with
    | nil => rfl
    | cons a ns ih =>
      by_cases h : a ∈ ms
      · rw [List.filter_cons_of_pos (by simpa using h), List.filter_cons_of_neg (by simpa using h), List.length_cons, List.length_cons, ih]; omega
      · rw [List.filter_cons_of_neg (by simpa using h), List.filter_cons_of_pos (by simpa using h), List.length_cons, List.length_cons, ih]; omega
  omega
theorem less_lt {ns ms : Cf} {x : Int} (h1 : x ∈ ns) (h2 : x ∈ ms) : (lessL ns ms).length < ns.length := by
  unfold lessL
  exact List.length_filter_lt_length_iff_exists.mpr ⟨x, h1, by simpa using h2⟩
/-- among as many numbers as parts at least, a part leaves one for each other part -/
theorem part_rest {ns : Cf} {m i : Nat} (h : i < m) (hm : m ≤ ns.length) : (partN ns m i).length + (m - 1) ≤ ns.length := by
  rw [part_len ns m i h]
  have l0 := cutAt_le ns.length m (i + 1) h (by omega)
  generalize ns.length = n at *
  have a1 : i ≤ cutAt n m i := by
    unfold cutAt
    rw [Nat.le_div_iff_mul_le (by omega)]
    exact Nat.mul_le_mul_left i hm
  have a2 : cutAt n m (i + 1) ≤ n - (m - (i + 1)) := by
    unfold cutAt
    refine Nat.div_le_of_le_mul ?_
    obtain ⟨d, rfl⟩ : ∃ d, m = (i + 1) + d := ⟨m - (i + 1), by omega⟩
    obtain ⟨e, rfl⟩ : ∃ e, n = (i + 1) + d + e := ⟨n - (i + 1 + d), by omega⟩
    have : (i + 1 + d + e) - (i + 1 + d - (i + 1)) = i + 1 + e := by omega
    rw [this]
    have e1 : (i + 1) * (i + 1 + d + e) = (i + 1) * (i + 1 + e) + (i + 1) * d := by
      rw [← Nat.mul_add]; congr 1; omega
    have e2 : (i + 1 + d) * (i + 1 + e) = (i + 1) * (i + 1 + e) + d * (i + 1 + e) := by rw [Nat.add_mul]
    rw [e1, e2, Nat.mul_comm (i + 1) d]
    have := Nat.mul_le_mul_left d (show i + 1 ≤ i + 1 + e by omega)
    omega
  omega
theorem part_pos {ns : Cf} {m i : Nat} (h : i < m) (hm : m ≤ ns.length) : 1 ≤ (partN ns m i).length := by
  have := (part_size ns m i h).1
  have h2 : 1 ≤ ns.length / m := by rw [Nat.le_div_iff_mul_le (by omega)]; omega
  omega
theorem part_lt {ns : Cf} {m i : Nat} (h : i < m) (hm : m ≤ ns.length) (h2 : 2 ≤ m) : (partN ns m i).length < ns.length := by
  have := part_rest h hm
  omega
theorem rest_lt {ns : Cf} {m i : Nat} (h : i < m) (hm : m ≤ ns.length) : (lessL ns (partN ns m i)).length < ns.length := by
  have := part_pos h hm
  obtain ⟨x, hx⟩ : ∃ x, x ∈ partN ns m i := List.exists_mem_of_length_pos this
  exact less_lt (part_sub.subset hx) hx
theorem begin_ok {p : Cf} {c : Nat} (hp : Cfg p 120) (h : 1 < p.length → 2 ≤ c ∧ c ≤ p.length) : (beginS p c).Ok := by
  refine ⟨hp, ?_⟩
  unfold Hs.Mid beginS
  by_cases h1 : 1 < p.length
  · rw [if_pos h1]
    have := h h1
    dsimp only
    omega
  · rw [if_neg h1]
    trivial
theorem Hs.Ok.rest_cfg {s : Hs} (h : s.Ok) (e : s.st = .rests) : 2 ≤ s.cuts - 1 ∧ s.cuts - 1 ≤ s.upc.length := by
  obtain ⟨c, k⟩ := h
  obtain ⟨st, now, cuts, place⟩ := s
  dsimp only at e
  subst e
  unfold Hs.Mid at k
  dsimp only at k c ⊢
  unfold Hs.upc Hs.part
  dsimp only
  have h1 := part_rest k.2.2 k.2.1
  have h2 := less_len (ms := partN now cuts place) c.nodup
  omega
theorem nothing_ok {s : Hs} (c : Cfg s.now 120) (h : 2 ≤ s.cuts ∧ s.cuts ≤ s.now.length) : (nothingS s).Ok := by
  unfold nothingS
  split
  · rename_i z
    refine ⟨c, ?_⟩
    unfold Hs.Mid
    dsimp only
    omega
  · split
    · exact begin_ok c fun _ => by omega
    · exact ⟨c, trivial⟩
theorem Hs.Ok.take {s : Hs} (h : s.Ok) (n : s.st ≠ .over) (fl : Bool) : (takeS s fl).Ok := by
  unfold takeS
  split
  · refine begin_ok ?_ fun _ => ?_
    · cases fl
      · exact h.c
      · exact cfg_nil (by omega)
    · omega
  · rename_i e0
    split
    · refine begin_ok h.upc fun h1 => ?_
      split
      · omega
      · rename_i e1
        have e2 : s.st = .rests := by cases e : s.st <;> simp_all
        exact h.rest_cfg e2
    · obtain ⟨c, k⟩ := h
      unfold Hs.Mid at k
      split
      · refine nothing_ok c ?_
        dsimp only
        split at k <;> simp_all <;> omega
      · refine ⟨c, ?_⟩
        unfold Hs.Mid
        dsimp only
        split <;> split at k <;> simp_all <;> omega
/-! ### runs -/
def flB (τ : Cf → Str) (p : Cf) : Bool := decide (τ p = "fail")
inductive Steps (τ : Cf → Str) : Hs → List Cf → Hs → Prop
  | nil {s : Hs} : Steps τ s [] s
  | cons {s s' : Hs} {l : List Cf} : s.st ≠ .over → Steps τ (takeS s (flB τ s.upc)) l s' → Steps τ s (s.upc :: l) s'
theorem Steps.app {τ : Cf → Str} {a b c : Hs} {l m : List Cf} (h : Steps τ a l b) (k : Steps τ b m c) : Steps τ a (l ++ m) c := by
  induction h with
  | nil => exact k
  | cons n _ ih => exact .cons n (ih k)
theorem Steps.one {τ : Cf → Str} {s : Hs} (n : s.st ≠ .over) : Steps τ s [s.upc] (takeS s (flB τ s.upc)) := .cons n .nil
theorem take_sub {s : Hs} {fl : Bool} {l : Cf} (h : s.now.Sublist l) : (takeS s fl).now.Sublist l := by
  unfold takeS nothingS beginS
  repeat' split
  all_goals first
    | exact h
    | exact List.nil_sublist _
    | exact upc_sub.trans h
    | (cases fl <;> first | exact h | exact List.nil_sublist _)
theorem Steps.sub {τ : Cf → Str} {s s' : Hs} {l : List Cf} {p : Cf} (h : Steps τ s l s') (k : s.now.Sublist p) : ∀ q ∈ l, q.Sublist p := by
  induction h with
  | nil => intro q hq; cases hq
  | cons n _ ih =>
    intro q hq
    rcases List.mem_cons.mp hq with rfl | hq
    · exact upc_sub.trans k
    · exact ih (take_sub k) q hq
theorem Steps.ok {τ : Cf → Str} {s s' : Hs} {l : List Cf} (h : Steps τ s l s') (k : s.Ok) : s'.Ok := by
  induction h with
  | nil => exact k
  | cons n _ ih => exact ih (k.take n _)
/-! ### the halving as an instance -/
end LF
/-! LF38: what tests tell; asking -/
namespace LF
open PySem PySem.Spec PyProof.Rows L2
local macro_rules | `(tactic| walk_at "pull") => `(tactic| first
  | exact Pull.head | exact Pull.tail Pull.head | exact Pull.tail (Pull.tail Pull.head) | exact Pull.tail (Pull.tail (Pull.tail Pull.head))
  | exact Pull.tail (Pull.tail (Pull.tail (Pull.tail Pull.head))) | exact Pull.tail (Pull.tail (Pull.tail (Pull.tail (Pull.tail Pull.head))))
  | exact Pull.tail (Pull.tail (Pull.tail (Pull.tail (Pull.tail (Pull.tail Pull.head))))) | exact Pull.tail (Pull.tail (Pull.tail (Pull.tail (Pull.tail (Pull.tail (Pull.tail Pull.head))))))
  | exact Pull.tail (Pull.tail (Pull.tail (Pull.tail (Pull.tail (Pull.tail (Pull.tail (Pull.tail Pull.head))))))) | exact Pull.tail (Pull.tail (Pull.tail (Pull.tail (Pull.tail (Pull.tail (Pull.tail (Pull.tail (Pull.tail Pull.head)))))))))
local macro_rules | `(tactic| walk_at "putp") => `(tactic| first
  | exact Put.head | exact Put.tail Put.head | exact Put.tail (Put.tail Put.head) | exact Put.tail (Put.tail (Put.tail Put.head))
  | exact Put.tail (Put.tail (Put.tail (Put.tail Put.head))) | exact Put.tail (Put.tail (Put.tail (Put.tail (Put.tail Put.head))))
  | exact Put.tail (Put.tail (Put.tail (Put.tail (Put.tail (Put.tail Put.head))))) | exact Put.tail (Put.tail (Put.tail (Put.tail (Put.tail (Put.tail (Put.tail Put.head))))))
  | exact Put.tail (Put.tail (Put.tail (Put.tail (Put.tail (Put.tail (Put.tail (Put.tail Put.head))))))))
local macro_rules | `(tactic| walk_at "sepm") => `(tactic| repeat (first | exact Sub.refl | refine Sub.pull (by walk_at "pull") ?_))
/-! ### each once -/
/-! ### a row of a way -/
abbrev Wy := Cf × Cf × Nat
/-- numbers from a on, so many -/
def rgN (a : Int) (n : Nat) : List Int := (List.range n).map fun i : Nat => a + i
/-! ### the way -/
/-! ### comprehensions, by parts -/
/-! ### drawing, by parts -/
/-! ### lists of configurations compared -/
def cfD (c : Cf) : PyData := .tuple (c.map .int)
theorem dts_cf {G : HW} (l : List Cf) : Dts G (l.map cfW) (l.map cfD) := dts_map (fun c => dt_ints c) l
theorem map_at {α β : Type} {f : α → β} {l : List α} {i : Nat} {w : β} (h : (l.map f)[i]? = some w) : ∃ a, l[i]? = some a ∧ w = f a := by
  rw [List.getElem?_map] at h
  cases e : l[i]? with
  | none => rw [e] at h; cases h
  | some a => rw [e] at h; cases h; exact ⟨a, rfl, rfl⟩
/-! ### what is told -/
/-! ### asking -/
def AskP (C : Addr) (n : NW) (Tl : Addr → (Cf → Str) → Ass) (ws : List Wv) (G : HW) (k : Str → HW → Prop) : Prop :=
  ∃ (t g lg f : Addr) (m : Int) (kn rs : List Rw) (log : List Cf) (τ : Cf → Str) (p : Cf) (F : List Ass), ws = [.ref t, .tup (p.map .int)] ∧ Cfg p 120 ∧ (∀ p, vdS (τ p)) ∧ kn.length ≤ 100000 ∧ rs.length ≤ 100000 ∧ log.length ≤ 100000 ∧
  Sep (TrA C t (.ref g) m kn rs :: TeA n g lg f log :: Tl f τ :: F) G ∧
  (∀ v, lkR kn p = some v → ∀ G', Sep (TrA C t (.ref g) m kn rs :: TeA n g lg f log :: Tl f τ :: F) G' → k v G') ∧
  (lkR kn p = none → (rs.length : Int) < m ∧ ∀ G', Sep (TrA C t (.ref g) m (kn ++ [(p, τ p)]) (rs ++ [(p, τ p)]) :: TeA n g lg f (log ++ [p]) :: Tl f τ :: F) G' → k (τ p) G')
structure TrW where
  t : Addr
  g : Addr
  lg : Addr
  f : Addr
  m : Int
  τ : Cf → Str
section
variable {C : Addr} {n : NW} {Tl : Addr → (Cf → Str) → Ass} {ws : List Wv} {G : HW} {k k' : Str → HW → Prop} {w : TrW} {cs : List Cf} {F : List Ass} {p : Cf}
theorem AskP.mono (h : AskP C n Tl ws G k) (hk : ∀ v G', k v G' → k' v G') : AskP C n Tl ws G k' :=
  let ⟨t, g, lg, f, m, kn, rs, log, τ, p, F, e, cp, vd, l1, l2, l3, s, h1, h2⟩ := h
  ⟨t, g, lg, f, m, kn, rs, log, τ, p, F, e, cp, vd, l1, l2, l3, s, fun v e G' s' => hk _ _ (h1 v e G' s'), fun e => ⟨(h2 e).1, fun G' s' => hk _ _ ((h2 e).2 G' s')⟩⟩
theorem AskP.ext {G' : HW} (h : AskP C n Tl ws G k) (x : Ext G G') : AskP C n Tl ws G' k :=
  let ⟨t, g, lg, f, m, kn, rs, log, τ, p, F, e, cp, vd, l1, l2, l3, s, h1, h2⟩ := h
  ⟨t, g, lg, f, m, kn, rs, log, τ, p, F, e, cp, vd, l1, l2, l3, s.ext x, h1, h2⟩
theorem AskP.len (h : AskP C n Tl ws G k) : ws.length = 2 := by
  obtain ⟨t, g, lg, f, m, kn, rs, log, τ, p, F, rfl, _⟩ := h
  rfl
end
end LF
/-! LF39: sorted of tuples of ints, of any lengths -/
namespace LF
open PySem PySem.W PySem.Calls PyProof.Rows
section
variable {prog : Program} {w : World} {A : Around} {E : Value → Shared → Prop} {s : Shared}
theorem lexK {fin : Bool} {Q : Bool → Shared → Prop} : ∀ {xs ys : List Value} {ns ms : List Int} {i : Nat}, IntsAre xs ns → IntsAre ys ms → fin = decide (ns.length < ms.length) → Q (HT.lexLt ns ms) s → KatLex prog w A true fin Q (xs.zip ys) i s
  | _, _, _, _, _, .nil, .nil, e, h => by
    subst e
    exact kat_nil h
  | _, _, _, _, _, .nil, .cons m t r, e, h => by
    subst e
    refine kat_nil ?_
    rw [HT.lexLt_nil_cons] at h
    simpa using h
  | _, _, _, _, _, .cons n t r, .nil, e, h => by
    subst e
    refine kat_nil ?_
    rw [HT.lexLt_cons_nil] at h
    simpa using h
  | _, _, _, _, i, @IntsAre.cons n t vs ns r, @IntsAre.cons m t2 ws ms r2, e, h => by
    rw [HT.lexLt_cons] at h
    refine kat_cons (SeqAt.EqAt.int_int n t m t2 prog w _ _ ?_)
    refine kat_go (fun e1 => ?_) (fun e1 => ?_)
    · have ex : n = m := by simpa using e1
      rw [if_pos ex] at h
      exact kat_yes (lexK r r2 (by rw [e]; simp) h)
    · have ex : ¬ n = m := by simpa using e1
      rw [if_neg ex] at h
      cases i with
      | zero => exact kat_no (oneLt_int h)
      | succ i => exact kat_no (kat_one _ _ (lt_int h))
theorem tupI_at {v : Value} {ns : List Int} (h : TS.TupInts s.heap v ns) : ∃ a o xs n, v = .ref a ∧ s.heap.get? a = some o ∧ o.cls = .type "tuple" ∧ o.data = .seq xs n ∧ IntsAre xs.toList ns := by
  obtain ⟨a, xs, e, ⟨o, ho, hc, n, hd⟩, i⟩ := h
  exact ⟨a, o, xs, n, e, ho, hc, hd, i⟩
theorem ktup_lt {v u : Value} {ns ms : List Int} {Q : Bool → Shared → Prop} (hv : TS.TupInts s.heap v ns) (hu : TS.TupInts s.heap u ms) (h : Q (HT.lexLt ns ms) s) : wpAny (model prog w) A (keyLt' (tuples' true) v u) Q E s := by
  obtain ⟨a, o, xs, n, rfl, ho, hc, hd, i⟩ := tupI_at hv
  obtain ⟨b, o2, ys, n2, rfl, ho2, hc2, hd2, i2⟩ := tupI_at hu
  refine kat_lt ho hd ho2 hd2 (lexK i i2 ?_ h)
  have e1 := i.length
  have e2 := i2.length
  rw [Array.length_toList] at e1 e2
  rw [e1, e2]
theorem kgen_lt {v u : Value} {ns ms : List Int} {Q : Bool → Shared → Prop} (hA : A.units < cLine) (hv : TS.TupInts s.heap v ns) (hu : TS.TupInts s.heap u ms) (h : Q (HT.lexLt ns ms) s) : wpAny (model prog w) A (keyLt' general' v u) Q E s := by
  obtain ⟨a, xs, rfl, ht, i⟩ := hv
  obtain ⟨b, ys, rfl, ht2, i2⟩ := hu
  show wpAny (model prog w) A (oneLt' false (.ref a) (.ref b)) Q E s
  exact kat_one _ _ (HT.lt_tupInts ht ht2 i i2 hA h)
theorem kone_lt {v u : Value} {ns ms : List Int} {Q : Bool → Shared → Prop} (hA : A.units < cLine) (hv : TS.TupInts s.heap v ns) (hu : TS.TupInts s.heap u ms) (h : Q (HT.lexLt ns ms) s) : wpAny (model prog w) A (keyLt' oneType' v u) Q E s := by
  obtain ⟨a, xs, rfl, ht, i⟩ := hv
  obtain ⟨b, ys, rfl, ht2, i2⟩ := hu
  obtain ⟨⟨cls, dd, data, sl⟩, ho, hc, n, hd⟩ := id ht
  obtain ⟨⟨cls2, dd2, data2, sl2⟩, ho2, hc2, n2, hd2⟩ := id ht2
  simp only at hc hd hc2 hd2
  subst hc hd hc2 hd2
  rw [keyLt'_oneType, oneLt'_eq]
  simp only [if_true]
  refine wpAny_bind (wpAny_cRoomFor hA ?_)
  refine wpAny_bind (wpAny_callSpecialIfBound?_slot ⟨_, ho, rfl⟩ PySem.F.slot_tuple_lt (call_meets PySem.F.slot_tuple_lt ⟨_, ho, rfl⟩ PySem.F.entry_tuple_lt (PySem.F.args_tuple_lt_2 _ _) (HT.tuple_lt_ints a b xs ys n n2 dd dd2 sl sl2 ns ms i i2) ⟨ho, ho2, ?_⟩))
  exact wpAny_truthy_bool h
/-! ### which way they are compared -/
theorem look_tup {v : Value} {ns : List Int} {M : Model} (h : TS.TupInts s.heap v ns) : Looks M s.heap (typeOf v) (.type "tuple") := by
  obtain ⟨a, o, xs, n, rfl, ho, hc, hd, i⟩ := tupI_at h
  have : Looks M s.heap (typeOf (.ref a)) o.cls := (Looks.ld ho).andThen .now
  rw [hc] at this
  exact this
theorem k_firsts {k : Value → List Int} : ∀ (vs : List Value) {Q : List (Option Value) → Shared → Prop}, (∀ v ∈ vs, TS.TupInts s.heap v (k v)) → (∀ fs : List (Option Value), fs.length = vs.length → (∀ (i : Nat) v, vs[i]? = some v → k v = [] → fs[i]? = some none) →
    (∀ (i : Nat) v, vs[i]? = some v → k v ≠ [] → ∃ n t, fs[i]? = some (some (.int n t))) → Q fs s) → wpAny (model prog w) A (vs.mapM firstOfTuple') Q E s
  | [], _, _, h => by
    rw [List.mapM_nil]
    exact wpAny_pure (h [] rfl (fun i v e => by simp at e) fun i v e => by simp at e)
  | v :: vs, Q, hv, h => by
    obtain ⟨a, o, xs, n, e, ho, hc, hd, ia⟩ := tupI_at (hv v List.mem_cons_self)
    rw [List.mapM_cons]
    refine wpAny_bind ?_
    rw [kas_first_eq, e]
    refine wpAny_bind (Looks.here (show Looks _ s.heap (typeOf (.ref a)) o.cls from (Looks.ld ho).andThen .now) ?_)
    rw [hc, if_neg (by first | decide | simp)]
    refine wpAny_bind (listItems_at ho hd (wpAny_pure ?_))
    refine wpAny_bind (k_firsts vs (Q := fun bs s' => wpAny _ A (pure (xs[0]? :: bs)) Q E s') (fun u hu => hv u (List.mem_cons_of_mem _ hu)) fun fs hl h1 h2 => wpAny_pure (h _ (by rw [List.length_cons, List.length_cons, hl]) (fun i u eu ek => ?_) fun i u eu ek => ?_))
    · cases i with
      | succ i => exact h1 i u eu ek
      | zero =>
        simp at eu
        subst eu
        rw [ek] at ia
        have hx : xs.toList = [] := by
          generalize xs.toList = l at ia
          cases ia
          rfl
        have : xs = #[] := by simpa using hx
        subst this
        rfl
    · cases i with
      | succ i => exact h2 i u eu ek
      | zero =>
        simp at eu
        subst eu
        obtain ⟨l, hl⟩ : ∃ l, l = xs.toList := ⟨_, rfl⟩
        rw [← hl] at ia
        generalize k v = ks at ia ek
        cases ia with
        | nil => exact absurd rfl ek
        | cons m t r =>
          refine ⟨m, t, ?_⟩
          have : xs[0]? = some (.int m t) := by rw [← Array.getElem?_toList, ← hl]; rfl
          rw [List.getElem?_cons_zero, this]
theorem sortable_tups {a : Addr} {vs : List Value} {k : Value → List Int} (hA : A.units < cLine) (h2 : 2 ≤ vs.length) (hv : ∀ v ∈ vs, TS.TupInts s.heap v (k v)) (ha : ∀ o, s.heap.get? a = some o → o.cls ≠ .type "tuple") :
    SrtO.SortableO prog w A s a vs fun v u => HT.lexLt (k v) (k u) := by
  intro h' keep
  have hv' : ∀ v ∈ vs, TS.TupInts h' v (k v) := fun v hm => (hv v hm).keeps fun b o e c => keep b o (fun z => by subst z; exact ha o e c) e
  by_cases hne : ∀ v ∈ vs, k v ≠ []
  · refine ⟨tuples' true, fun Q E hq => ?_, fun p q hp hq => ktup_lt (s := { s with heap := h' }) (hv' _ hp) (hv' _ hq) ⟨rfl, rfl⟩⟩
    obtain ⟨fs, f1, f2, f3⟩ : ∃ fs, KatTups h' vs fs ∧ fs.length = vs.length ∧ ∀ f ∈ fs, ∃ n t, f = Value.int n t := by
      clear h2 hv keep ha hq
      induction vs with
      | nil => exact ⟨[], trivial, rfl, fun f hf => by cases hf⟩
      | cons v vs ih =>
        obtain ⟨fs, f1, f2, f3⟩ := ih (fun u hu => hv' u (List.mem_cons_of_mem _ hu)) fun u hu => hne u (List.mem_cons_of_mem _ hu)
        obtain ⟨b, o, xs, n, e, ho, hc, hd, ia⟩ := tupI_at (s := { s with heap := h' }) (hv' v List.mem_cons_self)
        have kn := hne v List.mem_cons_self
        obtain ⟨l, hl⟩ : ∃ l, l = xs.toList := ⟨_, rfl⟩
        rw [← hl] at ia
        generalize k v = ks at ia kn
        cases ia with
        | nil => exact absurd rfl kn
        | cons m t r =>
          have h0 : xs[0]? = some (.int m t) := by rw [← Array.getElem?_toList, ← hl]; rfl
          refine ⟨.int m t :: fs, ⟨⟨b, o, xs, n, e, ho, hc, hd, h0⟩, f1⟩, by simp [f2], fun f hf => ?_⟩
          rcases List.mem_cons.mp hf with rfl | hf
          · exact ⟨m, t, rfl⟩
          · exact f3 f hf
    refine kat_kind (T := .type "int") f1 (by omega) (fun f hm => ?_) (by rfl) ?_
    · obtain ⟨x, t, rfl⟩ := f3 f hm
      exact Looks.now
    · have e : (Value.type "int" != Value.type "tuple") = true := by first | decide +kernel | rfl | decide
      rw [e]
      exact hq
  · obtain ⟨v0, hv0, e0⟩ : ∃ v ∈ vs, k v = [] := by
      refine Classical.byContradiction fun z => hne fun v hm e => z ⟨v, hm, e⟩
    obtain ⟨i0, hi0⟩ := List.getElem?_of_mem hv0
    obtain ⟨v1, rest, rfl⟩ : ∃ v1 rest, vs = v1 :: rest := by
      match vs, h2 with
      | [], h => exact absurd h (by simp)
      | v :: r, _ => exact ⟨v, r, rfl⟩
    by_cases hk : k v1 = []
    · refine ⟨oneType', fun Q E hq => ?_, fun p q hp hq => kone_lt (s := { s with heap := h' }) hA (hv' _ hp) (hv' _ hq) ⟨rfl, rfl⟩⟩
      rw [kat_kind_eq, List.mapM_toArray, map_eq_pure_bind]
      refine wpAny_bind (wpAny_bind (k_firsts (s := { s with heap := h' }) _ hv' fun fs hl n1 n2 => wpAny_pure ?_))
      have hno : (fs.toArray.all fun x => x.isSome) = false := by
        rw [List.all_toArray, List.all_eq_false]
        exact ⟨none, List.mem_of_getElem? (n1 i0 v0 hi0 e0), by simp⟩
      have hf0 : fs.toArray[0]? = some none := by
        rw [List.getElem?_toArray]
        exact n1 0 v1 rfl hk
      simp only [hno, hf0, Bool.false_eq_true, if_false, Option.bind_some, id, Option.isSome_none]
      rw [oneTypeOnly'_eq, List.mapM_toArray, map_eq_pure_bind]
      refine wpAny_bind (wpAny_bind (wpAny_bind (kas_mapM (r := Value.type "tuple") _ (fun v hm Q' hq' => (look_tup (s := { s with heap := h' }) (hv' v hm)).here hq') (wpAny_pure ?_))))
      have h0 : (List.map (fun _ => Value.type "tuple") (v1 :: rest)).toArray[0]? = some (Value.type "tuple") := by simp
      have hall : ((List.map (fun _ => Value.type "tuple") (v1 :: rest)).toArray.all fun x => x == Value.type "tuple") = true := by
        simp only [List.all_toArray, List.all_map, List.all_eq_true]
        intro _ _
        rfl
      rw [h0]
      simp only [hall, if_true]
      exact wpAny_pure (wpAny_pure hq)
    · refine ⟨general', fun Q E hq => ?_, fun p q hp hq => kgen_lt (s := { s with heap := h' }) hA (hv' _ hp) (hv' _ hq) ⟨rfl, rfl⟩⟩
      rw [kat_kind_eq, List.mapM_toArray, map_eq_pure_bind]
      refine wpAny_bind (wpAny_bind (k_firsts (s := { s with heap := h' }) _ hv' fun fs hl n1 n2 => wpAny_pure ?_))
      have hno : (fs.toArray.all fun x => x.isSome) = false := by
        rw [List.all_toArray, List.all_eq_false]
        exact ⟨none, List.mem_of_getElem? (n1 i0 v0 hi0 e0), by simp⟩
      obtain ⟨n, t, hf⟩ := n2 0 v1 rfl hk
      have hf0 : fs.toArray[0]? = some (some (.int n t)) := by
        rw [List.getElem?_toArray]
        exact hf
      simp only [hno, hf0, Bool.false_eq_true, if_false, Option.bind_some, id, Option.isSome_some, if_true]
      exact wpAny_pure hq
end
end LF
/-! LF40: sorted(x), x a list, a tuple, a table of tuples of ints, of any lengths -/
namespace LF
open PySem PySem.Spec PyProof.Rows L2
section
variable {P : Program} {w : World} {A : Around} {s : Shared} {E : Value → Shared → Prop} {r : Addr}
theorem sorted_fromA {Pv : List Value → Prop} {ltv : Value → Value → Bool} {Q : Value → Shared → Prop} (G : Gathers P w A.in1 s r Pv) (O : SrtO.Swo ltv) (hz : ∀ vs, Pv vs → vs.length ≤ sizeLine)
    (hS : ∀ (vs : List Value) (h₁ : Heap) (tk : Nat) (a : Addr), Pv vs → 2 ≤ vs.length → h₁.get? a = some (seqObj "list" vs.toArray 0) → (∀ b o, s.heap.get? b = some o → b ≠ a ∧ h₁.get? b = some o) → SrtO.SortableO P w A.in1.in1 { s with heap := h₁, toks := tk } a vs ltv)
    (hQ : ∀ (h1 h' : Heap) (tk : Nat) (p : Addr) (out vs : List Value) (c : Nat), (∀ b o, s.heap.get? b = some o → h1.get? b = some o) → (∀ b o, h1.get? b = some o → h'.get? b = some o) → h1.objs.size ≤ p → h'.get? p = some (seqObj "list" out.toArray c) → Pv vs → SrtO.Srtd ltv out → SrtO.Stb ltv out vs → Q (.ref p) { s with heap := h', toks := tk }) :
    wpAny (model P w) A (call (.builtin "sorted") [.ref r]) Q E s := by
  refine Calls.call_function_entry kind_sorted plain_sorted entry_sorted (args_sorted1 _) ?_
  unfold Builtin.«sorted»
  refine wpAny_bind (m := checkCount "sorted" 1 1 _) (wpAny_pure (wpAny_bind (G _ _ fun h1 tk vs k1 pv => ?_)))
  have hvz := hz vs pv
  refine wpAny_bind (wpAny_newList ?_ hvz)
  have hoL : (h1.push (seqObj "list" vs.toArray 0)).get? h1.objs.size = some (seqObj "list" vs.toArray 0) := Heap.get?_push_size _ rfl
  have keep : ∀ b o, s.heap.get? b = some o → b ≠ h1.objs.size ∧ (h1.push (seqObj "list" vs.toArray 0)).get? b = some o := fun b o e => ⟨Nat.ne_of_lt (Heap.lt_size (k1 b o e)), Heap.get?_push_of_some _ (k1 b o e)⟩
  show wpAny _ _ _ _ _ { s with heap := h1.push (seqObj "list" vs.toArray 0), toks := tk }
  refine wpAny_bind (wpAny_holding (wpAny_call_entry slot_list_sort ⟨_, hoL, rfl⟩ entry_list_sort (SrtO.list_sort_ord O hoL hvz (fun h2 => hS vs _ tk _ pv h2 hoL keep) fun out a1 a2 => ⟨_, rfl, ?_⟩) (args_list_sort _)))
  obtain ⟨c, hc⟩ := sortedHeap_at (vs := vs) (out := out.toArray) hoL
  refine wpAny_pure ⟨_, rfl, hQ h1 (sortedHeap (h1.push (seqObj "list" vs.toArray 0)) h1.objs.size vs out.toArray) tk h1.objs.size out vs c k1 (fun b o e => ?_) (Nat.le_refl _) hc pv a1 a2⟩
  rw [sortedHeap_old (Nat.ne_of_lt (Heap.lt_size e)) (by rw [size_push']; exact Nat.lt_succ_of_lt (Heap.lt_size e))]
  exact Heap.get?_push_of_some _ e
end
def RiseC (cs : List Cf) : Prop := cs.Pairwise fun a b => HT.lexLt b a = false
def wSrtC : RCop := fun ws G q => match ws with
  | [w] => ∃ cs : List Cf, (w = .tup (cs.map cfW) ∨ (∃ p, w = .ref p ∧ RdL G p (cs.map cfW)) ∨ ∃ p kvs, w = .ref p ∧ G p = some (.dtp kvs) ∧ kvs.map (·.1) = cs.map kyW ∧ kvs.length ≤ sizeLine) ∧
      ∀ cs' : List Cf, cs'.Perm cs → RiseC cs' → ∀ l, G l = none → q (.ref l) (updO G l (.lst (cs'.map cfW)))
  | _ => False
def cfAt (H : Hp) : V → Cf
  | .ref t => match H t with
    | some (.tup xs) => xs.map fun x => match x with
      | .int i => i
      | _ => 0
    | _ => []
  | _ => []
section
variable {K : PySem.W.Frag} {H : Hp}
theorem ints_back : ∀ {ns : List Int} {xs : List V}, RWs K H (ns.map .int) xs → xs = ns.map V.int
  | [], _, .nil => rfl
  | n :: ns, _, .cons r rs => by
    cases r
    rw [ints_back rs]
    rfl
theorem rw_cf {c : Cf} {v : V} (r : RW K H (cfW c) v) : ∃ t, v = .ref t ∧ H t = some (.tup (c.map V.int)) ∧ cfAt H v = c := by
  unfold cfW at r
  cases r with
  | @tup a xs ws hb rr =>
    have e := ints_back rr
    subst e
    refine ⟨a, rfl, hb, ?_⟩
    unfold cfAt
    dsimp only
    rw [hb]
    dsimp only
    rw [List.map_map]
    conv => rhs; rw [← List.map_id c]
    rfl
theorem rws_cfs : ∀ {cs : List Cf} {vs : List V}, RWs K H (cs.map cfW) vs → vs.map (cfAt H) = cs
  | [], _, .nil => rfl
  | p :: ps, _, .cons r rs => by
    obtain ⟨_, _, _, e⟩ := rw_cf r
    rw [List.map_cons, e, rws_cfs rs]
theorem rws_of_cfs : ∀ {vs : List V}, (∀ v ∈ vs, ∃ c, RW K H (cfW c) v) → RWs K H ((vs.map (cfAt H)).map cfW) vs
  | [], _ => .nil
  | v :: vs, h => by
    obtain ⟨c, r⟩ := h v List.mem_cons_self
    obtain ⟨_, _, _, e⟩ := rw_cf r
    refine .cons ?_ (rws_of_cfs fun u hu => h u (List.mem_cons_of_mem _ hu))
    rw [e]
    exact r
theorem ky_vals (c : Cf) : (kyW c).map L2.kV = c.map V.int := by
  unfold kyW
  rw [List.map_map]
  rfl
theorem keys_of_cfs {cs : List Cf} : ∀ {bs : List Addr}, Paired (fun (c : Cf) (b : Addr) => H b = some (.tup ((kyW c).map L2.kV))) cs bs → RWs K H (cs.map cfW) (bs.map V.ref)
  | _, .nil => .nil
  | _, .cons h t => .cons (.tup h (by rw [ky_vals]; exact RWs.ofInts _)) (keys_of_cfs t)
theorem pairs_cf {R : V → Value → Prop} : ∀ {kv : List (List Key × V)} {ks : List (List Key × Addr × Value)} {cs : List Cf}, Paired (fun (p : List Key × V) (q : List Key × Addr × Value) => p.1 = q.1 ∧ H q.2.1 = some (.tup (p.1.map L2.kV)) ∧ R p.2 q.2.2) kv ks → kv.map (·.1) = cs.map kyW →
    Paired (fun (c : Cf) (b : Addr) => H b = some (.tup ((kyW c).map L2.kV))) cs (ks.map fun x => x.2.1)
  | _, _, [], .nil, _ => .nil
  | _, _, _ :: _, .nil, e => by cases e
  | _, _, [], .cons _ _, e => by cases e
  | _, _, c :: cs, .cons h t, e => by
    simp only [List.map_cons, List.cons.injEq] at e
    exact .cons (by rw [← e.1]; exact h.2.1) (pairs_cf t e.2)
end
section
variable {X : Cx}
theorem w_srtC (hc : X.calm = true) (hu : X.A.units + 64 < cLine) : CW X (.builtin "sorted") wSrtC := by
  rintro pins s σ H xs us Q I r ⟨ws, G, q, rw', rh, po, h⟩
  unfold wSrtC at h
  split at h
  · rename_i w
    obtain ⟨cs, hw, hq⟩ := h
    obtain ⟨v, rfl, rv⟩ := rws1 rw'
    have hd := I.ok.hd hc
    obtain ⟨u0, rfl, ru0⟩ : ∃ u, us = [u] ∧ RelV v u := r.one
    have fin : ∀ {r : Addr} {vs0 : List V} {Pv : List Value → Prop}, Gathers X.prog X.w X.A.in1 s r Pv → (∀ vs, Pv vs → Vals vs0 vs) → RWs X.K H (cs.map cfW) vs0 → vs0.length ≤ sizeLine →
        wpAny (model X.prog X.w) X.A (call (.builtin "sorted") [.ref r]) (EP X pins σ Q) X.xe s := fun {r vs0 Pv} Gt hv rr hz => by
      have hrp : ∀ v ∈ vs0, ∃ c, RW X.K H (cfW c) v := fun v hm => by
        obtain ⟨w, hw, r⟩ := rws_mem rr hm
        obtain ⟨p, _, rfl⟩ := List.mem_map.mp hw
        exact ⟨p, r⟩
      have back : ∀ vs, Pv vs → vs0 = vs.map backV ∧ ∀ u ∈ vs, ∃ a, u = Value.ref a := fun vs pv => refs_back (hv vs pv) fun x m => by
        obtain ⟨p, r⟩ := hrp x m
        obtain ⟨t, e, _⟩ := rw_cf r
        exact ⟨t, e⟩
      refine sorted_fromA Gt (NtL.swo_lexL fun u => cfAt H (backV u)) (fun vs pv => by rw [← (hv vs pv).length]; exact hz) (fun vs h₁ tk a pv h2 ha kk => ?_) fun h1 h' tk p out vs c k1 k2 hp ho pv a1 a2 => ?_
      · obtain ⟨e1, e2⟩ := back vs pv
        refine sortable_tups (s := { s with heap := h₁, toks := tk }) (k := fun u => cfAt H (backV u)) ?_ (by omega) (fun v hv => ?_) fun o e => ?_
        · show X.A.in1.in1.units < cLine
          have : X.A.in1.in1.units ≤ X.A.units + 64 := by unfold Around.in1; dsimp only; omega
          omega
        · obtain ⟨t, rfl⟩ := e2 v hv
          have hm : V.ref t ∈ vs0 := by rw [e1]; exact List.mem_map.mpr ⟨_, hv, rfl⟩
          obtain ⟨c, r⟩ := hrp _ hm
          obtain ⟨t', et, ht, ec⟩ := rw_cf r
          cases et
          obtain ⟨its, rv, pt, hz⟩ := I.tuple (SqT.of ht)
          have ec' : cfAt H (backV (.ref t)) = c := ec
          rw [ec']
          exact ⟨t, its.toArray, rfl, (let ⟨o, ho, hc, n, hd⟩ := pt; ⟨o, (kk _ _ ho).2, hc, n, hd⟩), by simpa using intsAre_of rv⟩
        · have e' : some o = some (seqObj "list" vs.toArray 0) := e.symm.trans ha
          cases e'
          intro cc
          exact absurd (Value.type.inj cc) (by decide)
      · obtain ⟨e1, e2⟩ := back vs pv
        have h3 : ∀ u ∈ out, ∃ a, u = Value.ref a := fun u hu => e2 u (a2.perm.mem_iff.mp hu)
        have pm : (out.map backV).Perm vs0 := by rw [e1]; exact a2.perm.map backV
        have I1 : Inv X pins σ H { s with heap := h1, toks := tk } := I.kept k1
        have hn : H p = none := I1.hok.fresh hp
        have hrp2 : ∀ v ∈ out.map backV, ∃ c, RW X.K H (cfW c) v := fun v hm => hrp v (pm.mem_iff.mp hm)
        have hl : (out.map backV).length ≤ sizeLine := by rw [pm.length_eq]; exact hz
        have pp : ((out.map backV).map (cfAt H)).Perm cs := by
          have z := pm.map (cfAt H)
          rw [rws_cfs rr] at z
          exact z
        have ris : RiseC ((out.map backV).map (cfAt H)) := by
          unfold RiseC
          rw [List.pairwise_map, List.pairwise_map]
          exact a1
        exact ⟨.ref p, upd H p (.lst (out.map backV)), I1.laid (t' := tk) k2 hp ⟨hl, out, c, vals_back h3, ho⟩, rfl, po _ _ _ _ (TX.new hn) (.ref p) (rh.newL hn (rws_of_cfs hrp2)) (hq _ pp ris p (rh.fresh hn))⟩
    rcases hw with rfl | ⟨p, rfl, hl⟩ | ⟨p, kvs, rfl, ek, hks, hz⟩
    · cases rv with
      | @tup p xs _ hb rr =>
        cases ru0
        obtain ⟨its, rv, pt, hz⟩ := I.tuple (SqT.of hb)
        exact fin (gathers_tup pt (by rw [← rv.length]; exact hz)) (fun vs e => by subst e; exact rv) rr hz
    · cases rv
      cases ru0
      obtain ⟨xs, hx, rr⟩ := rh.rdl hl
      obtain ⟨its, rv, pl, hz⟩ := I.list hx
      exact fin (gathers_list pl.isList (by rw [← rv.length]; exact hz)) (fun vs e => by subst e; exact rv) rr hz
    · cases rv
      cases ru0
      obtain ⟨kv, f, rk⟩ := rh.dtp ek
      obtain ⟨z, hs, ks, pr, o, es, ep, ho, hx, hdt, he, hn⟩ := (show ObjOk X.prog X.w H s.heap p (.dT kv) from I.hok _ _ f)
      have l1 : es.size = ks.length := size_of_entries he
      have l2 : kv.length = ks.length := Paired.length pr
      have l3 : kvs.length = kv.length := rk.len.symm
      have kk : kv.map (·.1) = cs.map kyW := by rw [← hks]; exact rk.keysEq
      have rr : RWs X.K H (cs.map cfW) ((ks.map fun x => x.2.1).map V.ref) := by
        exact keys_of_cfs (pairs_cf pr kk)
      refine fin (Pv := fun vs => vs = (ks.map fun x => x.2.1).map Value.ref) (fun R E hR => PySem.W.kdu_collect (A := X.A.in1) (kdl_raw hs hx hdt) hd ho (by omega) fun h' tk acc hk it => hR h' tk acc.toList hk ?_) (fun vs e => by subst e; exact vals_refs _) rr (by rw [List.length_map, List.length_map]; omega)
      have ea : acc.toList = ks.map fun x => Value.ref x.2.1 := by
        have hl : acc.toList.length = ks.length := by rw [Array.length_toList, it.1]; exact l1
        apply List.ext_getElem?
        intro j
        rw [List.getElem?_map]
        cases hj : acc.toList[j]? with
        | none =>
          have h1 := List.getElem?_eq_none_iff.mp hj
          rw [List.getElem?_eq_none (by omega)]
          rfl
        | some v =>
          obtain ⟨en, hen, hv⟩ := it.2 j v (by rw [← Array.getElem?_toList]; exact hj)
          have qe := entry_at he j
          rw [hen] at qe
          cases hb : ks[j]? with
          | none =>
            rw [hb] at qe
            exact nomatch (show some en = none from qe)
          | some b =>
            rw [hb] at qe
            have e2 : en = entryOfKey (tupleKind (mixKind X.prog X.w)) b := Option.some.inj qe
            rw [hv, e2]
            rfl
      rw [ea, List.map_map]
      rfl
  · exact h.elim
end
end LF
/-! LF41: the law's own books of trials; rows shown; known rows -/
namespace LF
open PySem PySem.Spec PyProof.Rows L2
local macro_rules | `(tactic| walk_at "pull") => `(tactic| first
  | exact Pull.head | exact Pull.tail Pull.head | exact Pull.tail (Pull.tail Pull.head) | exact Pull.tail (Pull.tail (Pull.tail Pull.head))
  | exact Pull.tail (Pull.tail (Pull.tail (Pull.tail Pull.head))) | exact Pull.tail (Pull.tail (Pull.tail (Pull.tail (Pull.tail Pull.head))))
  | exact Pull.tail (Pull.tail (Pull.tail (Pull.tail (Pull.tail (Pull.tail Pull.head))))) | exact Pull.tail (Pull.tail (Pull.tail (Pull.tail (Pull.tail (Pull.tail (Pull.tail Pull.head))))))
  | exact Pull.tail (Pull.tail (Pull.tail (Pull.tail (Pull.tail (Pull.tail (Pull.tail (Pull.tail Pull.head))))))) | exact Pull.tail (Pull.tail (Pull.tail (Pull.tail (Pull.tail (Pull.tail (Pull.tail (Pull.tail (Pull.tail Pull.head)))))))))
local macro_rules | `(tactic| walk_at "putp") => `(tactic| first
  | exact Put.head | exact Put.tail Put.head | exact Put.tail (Put.tail Put.head) | exact Put.tail (Put.tail (Put.tail Put.head))
  | exact Put.tail (Put.tail (Put.tail (Put.tail Put.head))) | exact Put.tail (Put.tail (Put.tail (Put.tail (Put.tail Put.head))))
  | exact Put.tail (Put.tail (Put.tail (Put.tail (Put.tail (Put.tail Put.head))))) | exact Put.tail (Put.tail (Put.tail (Put.tail (Put.tail (Put.tail (Put.tail Put.head))))))
  | exact Put.tail (Put.tail (Put.tail (Put.tail (Put.tail (Put.tail (Put.tail (Put.tail Put.head))))))))
local macro_rules | `(tactic| walk_at "sepm") => `(tactic| repeat (first | exact Sub.refl | refine Sub.pull (by walk_at "pull") ?_))
/-! ### two risen rearrangements are one -/
theorem lex_anti : ∀ {a b : Cf}, HT.lexLt a b = false → HT.lexLt b a = false → a = b
  | [], [], _, _ => rfl
  | [], _ :: _, h, _ => by rw [HT.lexLt_nil_cons] at h; cases h
  | _ :: _, [], _, h => by rw [HT.lexLt_nil_cons] at h; cases h
  | x :: xs, y :: ys, h1, h2 => by
    rw [HT.lexLt_cons] at h1 h2
    by_cases e : x = y
    · subst e
      rw [if_pos rfl] at h1 h2
      rw [lex_anti h1 h2]
    · rw [if_neg e] at h1
      rw [if_neg (fun z => e z.symm)] at h2
      have a := of_decide_eq_false h1
      have b := of_decide_eq_false h2
      omega
theorem riseC_uniq : ∀ {a b : List Cf}, a.Perm b → RiseC a → RiseC b → a = b
  | [], b, p, _, _ => by
    cases b with
    | nil => rfl
    | cons y b => have := p.length_eq; simp at this
  | x :: a, [], p, _, _ => by have := p.length_eq; simp at this
  | x :: a, y :: b, p, ha, hb => by
    obtain ⟨a1, a2⟩ := List.pairwise_cons.mp ha
    obtain ⟨b1, b2⟩ := List.pairwise_cons.mp hb
    have e : x = y := by
      rcases List.mem_cons.mp (p.mem_iff.mp List.mem_cons_self) with z | z
      · exact z
      · rcases List.mem_cons.mp (p.mem_iff.mpr List.mem_cons_self) with u | u
        · exact u.symm
        · exact lex_anti (b1 x z) (a1 y u)
    subst e
    rw [riseC_uniq (List.Perm.cons_inv p) a2 b2]
/-! ### rows as data -/
theorem r_srtC {G : HW} {q : WK} {p : Addr} {kvs : List (List Key × Wv)} {cs : List Cf} (h : G p = some (.dtp kvs)) (e : kvs.map (·.1) = cs.map kyW) (hz : kvs.length ≤ sizeLine) (z : ∀ cs' : List Cf, cs'.Perm cs → RiseC cs' → ∀ l, G l = none → q (.ref l) (updO G l (.lst (cs'.map cfW)))) : wSrtC [.ref p] G q :=
  ⟨cs, .inr (.inr ⟨p, kvs, rfl, h, e, hz⟩), z⟩
/-! ### known rows -/
inductive KnW (G : HW) : Wv → List Rw → Prop
  | ktp : KnW G (.ktp []) []
  | tup (rows : List Rw) : KnW G (.tup (rows.map rowW)) rows
  | lst {a : Addr} {rows : List Rw} : RdL G a (rows.map rowW) → KnW G (.ref a) rows
theorem KnW.ext {G G' : HW} {w : Wv} {rows : List Rw} (h : KnW G w rows) (e : Ext G G') : KnW G' w rows := by
  cases h with
  | ktp => exact .ktp
  | tup => exact .tup _
  | lst h => exact .lst (h.elim (fun z => .inl (e _ _ z)) fun z => .inr (e _ _ z))
/-! ### the law's own books -/
abbrev prL (τ : Cf → Str) (cs : List Cf) : List Rw := cs.map fun p => (p, τ p)
/-! ### a test drawn: by cores, or wild -/
/-! ### a deed that is let by -/
end LF
/-! LF42: any test; asking, whatever comes of it -/
namespace LF
open PySem PySem.Spec PyProof.Rows L2
local macro_rules | `(tactic| walk_at "pull") => `(tactic| first
  | exact Pull.head | exact Pull.tail Pull.head | exact Pull.tail (Pull.tail Pull.head) | exact Pull.tail (Pull.tail (Pull.tail Pull.head))
  | exact Pull.tail (Pull.tail (Pull.tail (Pull.tail Pull.head))) | exact Pull.tail (Pull.tail (Pull.tail (Pull.tail (Pull.tail Pull.head))))
  | exact Pull.tail (Pull.tail (Pull.tail (Pull.tail (Pull.tail (Pull.tail Pull.head))))) | exact Pull.tail (Pull.tail (Pull.tail (Pull.tail (Pull.tail (Pull.tail (Pull.tail Pull.head))))))
  | exact Pull.tail (Pull.tail (Pull.tail (Pull.tail (Pull.tail (Pull.tail (Pull.tail (Pull.tail Pull.head))))))) | exact Pull.tail (Pull.tail (Pull.tail (Pull.tail (Pull.tail (Pull.tail (Pull.tail (Pull.tail (Pull.tail Pull.head)))))))))
local macro_rules | `(tactic| walk_at "putp") => `(tactic| first
  | exact Put.head | exact Put.tail Put.head | exact Put.tail (Put.tail Put.head) | exact Put.tail (Put.tail (Put.tail Put.head))
  | exact Put.tail (Put.tail (Put.tail (Put.tail Put.head))) | exact Put.tail (Put.tail (Put.tail (Put.tail (Put.tail Put.head))))
  | exact Put.tail (Put.tail (Put.tail (Put.tail (Put.tail (Put.tail Put.head))))) | exact Put.tail (Put.tail (Put.tail (Put.tail (Put.tail (Put.tail (Put.tail Put.head))))))
  | exact Put.tail (Put.tail (Put.tail (Put.tail (Put.tail (Put.tail (Put.tail (Put.tail Put.head))))))))
local macro_rules | `(tactic| walk_at "sepm") => `(tactic| repeat (first | exact Sub.refl | refine Sub.pull (by walk_at "pull") ?_))
/-- what comes of a call -/
inductive Out
  | val (w : Wv)
  | exc (cls : Value) (fs : List (Str × Wv))
def Out.run (o : Out) (q : WK) (xe : XE) (G : HW) : Prop := match o with
  | .val w => q w G
  | .exc c fs => xe c fs G
/-- the test at g, called with p where A0 stands: o comes of it, A1 stands then -/
def TestG (cs : List CandF) (g : Addr) (p : Cf) (A0 : Ass) (o : Out) (A1 : Ass) : Prop := ∀ (F : List Ass) (G : HW) (xe : XE) (q : WK), Sep (A0 :: F) G → CallableW cs g G ∧ ((∀ G', Sep (A1 :: F) G' → o.run q xe G') → wCallF cs g [.tup (p.map .int)] G xe q)
/-- the classes of what asking is refused with: spent, no verdict -/
structure SpB where
  s : Addr
  b : Addr
instance : Coe SpB Addr := ⟨SpB.s⟩
/-- trials, being called or not -/
def TrX (C t : Addr) (te : Wv) (m : Int) (kn rs : List Rw) (b : Bool) : Ass := exA fun z : Addr × Addr × Addr => bun [pt t (.ins C z.1 (trF te m z.2.1 z.2.2 b)), pt z.2.1 (.dtp (kn.map entT)), pt z.2.2 (.lst (rs.map rowW))]
/-- the test at g of the trials at t, called with p amid: it may look at the trials, and let more be called -/
def TestN (C : Addr) (cs : List CandF) (t g : Addr) (p : Cf) (m : Int) (kn rs : List Rw) (A0 : Ass) (o : Out) (m' : Int) (A1 : Ass) : Prop := ∀ (F : List Ass) (G : HW) (xe : XE) (q : WK), Sep (TrX C t (.ref g) m kn rs true :: A0 :: F) G → CallableW cs g G ∧ ((∀ G', Sep (TrX C t (.ref g) m' kn rs true :: A1 :: F) G' → o.run q xe G') → wCallF cs g [.tup (p.map .int)] G xe q)
theorem testN_of {C : Addr} {cs : List CandF} {t g : Addr} {p : Cf} {m : Int} {kn rs : List Rw} {A0 A1 : Ass} {o : Out} (h : TestG cs g p A0 o A1) : TestN C cs t g p m kn rs A0 o m A1 := fun F G xe q s =>
  let ⟨h1, h2⟩ := h (TrX C t (.ref g) m kn rs true :: F) G xe q s.swap
  ⟨h1, fun z => h2 fun G' s' => z G' s'.swap⟩
/-- no verdict -/
def OddG (G : HW) (w : Wv) : Prop := isVd w = false ∧ ∀ K : PySem.W.Frag, Kn K G w
/-- what comes of a call, once it is told: kept, or refused -/
def Came (C : Addr) (Cs : SpB) (t g : Addr) (p : Cf) (kn rs : List Rw) (F : List Ass) (o : Out) (m' : Int) (A1 : Ass) (k : Str → HW → Prop) (kx : XE) : Prop :=
  (∃ c fs, o = .exc c fs ∧ ∀ G', Sep (TrA C t (.ref g) m' kn rs :: A1 :: F) G' → kx c fs G') ∨
  (∃ v, o = .val (.str v) ∧ vdS v ∧ ∀ G', Sep (TrA C t (.ref g) m' (kn ++ [(p, v)]) (rs ++ [(p, v)]) :: A1 :: F) G' → k v G') ∨
  ∃ w, o = .val w ∧ ∀ G', Sep (TrA C t (.ref g) m' kn rs :: A1 :: F) G' → OddG G' w ∧ kx (.ref Cs.b) [("told", w)] G'
def AskG (C : Addr) (Cs : SpB) (cs : List CandF) (ws : List Wv) (G : HW) (k : Str → HW → Prop) (kx : XE) : Prop :=
  ∃ (t g : Addr) (m : Int) (kn rs : List Rw) (p : Cf) (A0 : Ass) (F : List Ass), ws = [.ref t, .tup (p.map .int)] ∧ Cfg p 120 ∧ kn.length ≤ 100000 ∧ rs.length ≤ 100000 ∧ Sep (TrA C t (.ref g) m kn rs :: A0 :: F) G ∧
  (∀ v, lkR kn p = some v → ∀ G', Sep (TrA C t (.ref g) m kn rs :: A0 :: F) G' → k v G') ∧
  (lkR kn p = none → (rs.length : Int) = m → ∀ G', Sep (TrA C t (.ref g) m kn rs :: A0 :: F) G' → kx (.ref Cs) [("most", .int m)] G') ∧
  (lkR kn p = none → (rs.length : Int) ≠ m → ∃ (o : Out) (m' : Int) (A1 : Ass), TestN C cs t g p m kn rs A0 o m' A1 ∧ Came C Cs t g p kn rs F o m' A1 k kx)
/-- of a test that doesn't look at the trials -/
theorem askG_of {C : Addr} {Cs : SpB} {cs : List CandF} {ws : List Wv} {G : HW} {k : Str → HW → Prop} {kx : XE} (h : ∃ (t g : Addr) (m : Int) (kn rs : List Rw) (p : Cf) (A0 : Ass) (F : List Ass), ws = [.ref t, .tup (p.map .int)] ∧ Cfg p 120 ∧ kn.length ≤ 100000 ∧ rs.length ≤ 100000 ∧ Sep (TrA C t (.ref g) m kn rs :: A0 :: F) G ∧
  (∀ v, lkR kn p = some v → ∀ G', Sep (TrA C t (.ref g) m kn rs :: A0 :: F) G' → k v G') ∧
  (lkR kn p = none → (rs.length : Int) = m → ∀ G', Sep (TrA C t (.ref g) m kn rs :: A0 :: F) G' → kx (.ref Cs) [("most", .int m)] G') ∧
  (lkR kn p = none → (rs.length : Int) ≠ m → ∃ (o : Out) (A1 : Ass), TestG cs g p A0 o A1 ∧
    ((∃ c fs, o = .exc c fs ∧ ∀ G', Sep (TrA C t (.ref g) m kn rs :: A1 :: F) G' → kx c fs G') ∨
     ∃ v, o = .val (.str v) ∧ vdS v ∧ ∀ G', Sep (TrA C t (.ref g) m (kn ++ [(p, v)]) (rs ++ [(p, v)]) :: A1 :: F) G' → k v G'))) : AskG C Cs cs ws G k kx :=
  let ⟨t, g, m, kn, rs, p, A0, F, e, cp, l1, l2, s, h1, h2, h3⟩ := h
  ⟨t, g, m, kn, rs, p, A0, F, e, cp, l1, l2, s, h1, h2, fun e1 e2 => let ⟨o, A1, ht, z⟩ := h3 e1 e2; ⟨o, m, A1, testN_of ht, z.elim .inl fun z => .inr (.inl z)⟩⟩
section
variable {C : Addr} {Cs : SpB} {n : NW} {cs : List CandF} {Tl : Addr → (Cf → Str) → Ass} {ws : List Wv} {G : HW} {k k' : Str → HW → Prop} {kx kx' : XE} {w : TrW} {l : List Cf} {F : List Ass} {p : Cf}
theorem AskG.mono (h : AskG C Cs cs ws G k kx) (hk : ∀ v G', k v G' → k' v G') (hx : ∀ c fs G', kx c fs G' → kx' c fs G') : AskG C Cs cs ws G k' kx' :=
  let ⟨t, g, m, kn, rs, p, A0, F, e, cp, l1, l2, s, h1, h2, h3⟩ := h
  ⟨t, g, m, kn, rs, p, A0, F, e, cp, l1, l2, s, fun v e G' s' => hk _ _ (h1 v e G' s'), fun e1 e2 G' s' => hx _ _ _ (h2 e1 e2 G' s'), fun e1 e2 => let ⟨o, m', A1, t, z⟩ := h3 e1 e2; ⟨o, m', A1, t, z.elim (fun ⟨c, fs, eo, z⟩ => .inl ⟨c, fs, eo, fun G' s' => hx _ _ _ (z G' s')⟩) fun z => .inr (z.elim (fun ⟨v, eo, vd, z⟩ => .inl ⟨v, eo, vd, fun G' s' => hk _ _ (z G' s')⟩) fun ⟨w, eo, z⟩ => .inr ⟨w, eo, fun G' s' => ⟨(z G' s').1, hx _ _ _ (z G' s').2⟩⟩)⟩⟩
theorem AskG.ext {G' : HW} (h : AskG C Cs cs ws G k kx) (x : Ext G G') : AskG C Cs cs ws G' k kx :=
  let ⟨t, g, m, kn, rs, p, A0, F, e, cp, l1, l2, s, h1, h2, h3⟩ := h
  ⟨t, g, m, kn, rs, p, A0, F, e, cp, l1, l2, s.ext x, h1, h2, h3⟩
theorem AskG.len (h : AskG C Cs cs ws G k kx) : ws.length = 2 := by
  obtain ⟨t, g, m, kn, rs, p, A0, F, rfl, _⟩ := h
  rfl
/-- a test that writes down what it is called with, and what it tells by -/
def TeT (n : NW) (Tl : Addr → (Cf → Str) → Ass) (w : TrW) (log : List Cf) : Ass := bun [TeA n w.g w.lg w.f log, Tl w.f w.τ]
end
/-! ### deeds, let by or refused -/
end LF
/-! LF43: dict(pairs) and list(d.items()), the keys tuples -/
namespace LF
open PySem PySem.Spec PyProof.Rows L2
/-- a pair of a table as a value -/
def prW (r : List Key × Wv) : Wv := .tup [keyW r.1, r.2]
end LF
/-! LF44: list(d.items()), the keys tuples -/
namespace LF
open PySem PySem.Spec PyProof.Rows L2
/-! ### the reading -/
def eLiT (te : ET) : ET := fun x σ G q => te x σ G fun w G1 => match w with
  | .ref d => ∃ kvs, G1 d = some (.dtp kvs) ∧ ∀ l, G1 l = none → q (.ref l) (updO G1 l (.lst (kvs.map prW)))
  | _ => False
section
variable {x : XW} {σ : SW} {G : HW} {q : WK} {te : ET}
def kLiT (q : WK) : WK := fun w G1 => match w with
  | .ref d => ∃ kvs, G1 d = some (.dtp kvs) ∧ ∀ l, G1 l = none → q (.ref l) (updO G1 l (.lst (kvs.map prW)))
  | _ => False
theorem m_LiT : eLiT te x σ G q = te x σ G (kLiT q) := rfl
end
end LF
/-! LF45: walking through a table whose keys are tuples -/
namespace LF
open PySem PySem.Spec PyProof.Rows L2
def frE (r : Rw) : List Key × V := (kyW r.1, .str r.2)
/-- a table of rows, locked -/
def frT (od : Obj) (rs : List Rw) : O := .raw (.frz od (.dT (rs.map frE)))
/-! ### locking -/
def lockD (d : Addr) (od : Obj) (rs : List Rw) (D : EndsW) : EndsW where
  nx := fun σ G => G d = some (frT od rs) ∧ D.nx σ (updO G d (.dtp (rs.map entT)))
  rt := fun w G => G d = some (frT od rs) ∧ D.rt w (updO G d (.dtp (rs.map entT)))
  bk := fun σ G => G d = some (frT od rs) ∧ D.bk σ (updO G d (.dtp (rs.map entT)))
  ct := fun σ G => G d = some (frT od rs) ∧ D.ct σ (updO G d (.dtp (rs.map entT)))
  ex := D.ex
section
variable {X : Cx} {Wx : WX} {st : Stmt} {t : ST} {tg e : Expr} {te : ET}
/-! ### for k in d, d locked -/
def iKeyF (te : ET) : IT := fun x σ G q => te x σ G fun w G1 => match w with
  | .ref d => ∃ od rs, G1 d = some (frT od rs) ∧ q (rs.map fun r => cfW r.1) (fun G => G d = some (frT od rs)) G1
  | _ => False
end
/-! ### d[k], d locked -/
section
variable {x : XW} {σ : SW} {G : HW} {q : WK} {te : ET} {t : ST} {D : EndsW} {d : Addr} {od : Obj} {rs : List Rw}
def kKeyF (q : IK) : WK := fun w G1 => match w with
  | .ref d => ∃ od rs, G1 d = some (frT od rs) ∧ q (rs.map fun r => cfW r.1) (fun G => G d = some (frT od rs)) G1
  | _ => False
theorem m_KeyF {q : IK} : iKeyF te x σ G q = te x σ G (kKeyF q) := rfl
theorem m_lockD_nx : (lockD d od rs D).nx σ G = (G d = some (frT od rs) ∧ D.nx σ (updO G d (.dtp (rs.map entT)))) := rfl
theorem m_lockD_ex : (lockD d od rs D).ex = D.ex := rfl
end
end LF
/-! LF46: books whose known ones are more than their rows; refusals of two classes -/
namespace LF
open PySem PySem.Spec PyProof.Rows L2
/-! ### known rows in another order -/
theorem kyW_inj {a b : Cf} (h : kyW a = kyW b) : a = b := by
  unfold kyW at h
  exact (List.map_inj_right (fun _ _ e => Sum.inl.inj e)).mp h
/-! ### lists of few things of unlike weight -/
/-! ### refusals of two classes -/
end LF
/-! LF47: sets of many tuples of ints, no two alike: their tables -/
namespace LF
open PySem PySem.Spec PyProof.Rows L2
/-! ### the round -/
/-- masks of tables of up to 1200 -/
def Mk7 (m : Nat) : Prop := m = 7 ∨ m = 31 ∨ m = 127 ∨ m = 511 ∨ m = 2047
theorem lcg_cons (m x : Nat) : ∀ k, lcgI m ((x * 5 + 1) % (m + 1)) k = lcgI m x (k + 1)
  | 0 => rfl
  | k + 1 => by show (_ * 5 + 1) % (m + 1) = (_ * 5 + 1) % (m + 1); rw [lcg_cons m x k]
/-- the bits of what is met in n steps from x on -/
def orb (m : Nat) : Nat → Nat → Nat → Nat
  | 0, _, b => b
  | n + 1, x, b => orb m n ((x * 5 + 1) % (m + 1)) (b ||| 2 ^ x)
theorem orb_met (m j : Nat) : ∀ (n x b : Nat), (orb m n x b).testBit j = true → b.testBit j = true ∨ ∃ k, k < n ∧ lcgI m x k = j
  | 0, _, _, h => .inl h
  | n + 1, x, b, h => by
    rcases orb_met m j n _ _ h with h | ⟨k, hk, e⟩
    · rw [Nat.testBit_or, Bool.or_eq_true] at h
      rcases h with h | h
      · exact .inl h
      · rw [Nat.testBit_two_pow] at h
        exact .inr ⟨0, by omega, (of_decide_eq_true h)⟩
    · exact .inr ⟨k + 1, by omega, by rw [← lcg_cons]; exact e⟩
theorem orb7 : orb 7 8 0 0 = 2 ^ 8 - 1 := by decide +kernel
theorem orb31 : orb 31 32 0 0 = 2 ^ 32 - 1 := by decide +kernel
theorem orb127 : orb 127 128 0 0 = 2 ^ 128 - 1 := by decide +kernel
theorem orb511 : orb 511 512 0 0 = 2 ^ 512 - 1 := by decide +kernel
theorem orb2047 : orb 2047 2048 0 0 = 2 ^ 2048 - 1 := by decide +kernel
theorem met_of {m : Nat} (h : orb m (m + 1) 0 0 = 2 ^ (m + 1) - 1) {j : Nat} (hj : j ≤ m) : ∃ k, k ≤ m ∧ lcgI m 0 k = j := by
  have hb : (orb m (m + 1) 0 0).testBit j = true := by rw [h, Nat.testBit_two_pow_sub_one]; exact decide_eq_true (by omega)
  rcases orb_met m j _ _ _ hb with h | ⟨k, hk, e⟩
  · rw [Nat.zero_testBit] at h; cases h
  · exact ⟨k, by omega, e⟩
theorem Mk7.met {m : Nat} (hm : Mk7 m) {j : Nat} (hj : j ≤ m) : ∃ k, k ≤ m ∧ lcgI m 0 k = j := by
  rcases hm with rfl | rfl | rfl | rfl | rfl
  · exact met_of orb7 hj
  · exact met_of orb31 hj
  · exact met_of orb127 hj
  · exact met_of orb511 hj
  · exact met_of orb2047 hj
theorem Mk7.odd {m : Nat} (hm : Mk7 m) : m % 2 = 1 := by rcases hm with rfl | rfl | rfl | rfl | rfl <;> rfl
theorem Mk7.le {m : Nat} (hm : Mk7 m) : m ≤ 2047 := by rcases hm with rfl | rfl | rfl | rfl | rfl <;> omega
theorem lcg_app (m x a : Nat) : ∀ k, lcgI m (lcgI m x a) k = lcgI m x (a + k)
  | 0 => rfl
  | k + 1 => by show (_ * 5 + 1) % (m + 1) = (_ * 5 + 1) % (m + 1); rw [lcg_app m x a k]; rfl
/-- a round comes back: the last slot but for nought's own is the one before it -/
theorem Mk7.back {m : Nat} (hm : Mk7 m) : lcgI m 0 (m + 1) = 0 := by
  rcases hm with rfl | rfl | rfl | rfl | rfl <;> decide +kernel
theorem Mk7.all {m : Nat} (hm : Mk7 m) {i j : Nat} (hi : i ≤ m) (hj : j ≤ m) : ∃ k, k ≤ m ∧ lcgI m i k = j := by
  obtain ⟨a, ha, rfl⟩ := hm.met hi
  obtain ⟨b, hb, rfl⟩ := hm.met hj
  by_cases c : a ≤ b
  · exact ⟨b - a, by omega, by rw [lcg_app, show a + (b - a) = b by omega]⟩
  · refine ⟨m + 1 + b - a, by omega, ?_⟩
    rw [lcg_app, show a + (m + 1 + b - a) = (m + 1) + b by omega, ← lcg_app, hm.back]
theorem Mk7.run {m : Nat} (hm : Mk7 m) (h : Int) {j : Nat} (hj : j ≤ m) : ∃ n, n ≤ m + 12 ∧ runI m (SetTable.bits h) n = j := by
  obtain ⟨k, hk, e⟩ := hm.all (runI_le m (SetTable.bits h) 12) hj
  exact ⟨12 + k, by omega, (runI_tail (bits_lt h) k).trans e⟩
theorem Mk7.way {m : Nat} (hm : Mk7 m) (h : Int) {j : Nat} (hj : j ≤ m) : ∃ k, k < 10 * SetTable.turns m ∧ L2.way m h k = j := by
  obtain ⟨n, hn, e1⟩ := hm.run h hj
  obtain ⟨k, hk, e2⟩ := run_nth m (SetTable.bits h) n
  exact ⟨k, by unfold SetTable.turns; omega, by show (nth _ _ k).j = j; rw [e2]; exact e1⟩
theorem way_in (m : Nat) (h : Int) (k : Nat) : L2.way m h k ≤ m := by
  have b1 : SetTable.bits h % (m + 1) ≤ m := Nat.le_of_lt_succ (Nat.mod_lt _ (Nat.succ_pos _))
  have b2 := runEnd_bd b1
  have b3 := nth_in (m := m) k (runAt m (SetTable.bits h % (m + 1)) (SetTable.bits h)) (by show _ % _ + (_ - _) ≤ m; omega)
  exact Nat.le_trans (Nat.le_add_right _ _) b3
/-! ### a table of n -/
structure TbL (t : SetTable) (n : Nat) : Prop where
  ris : Ris t.place.toList
  dm : t.dummies = #[]
  sz : t.place.size = n
  m7 : Mk7 t.mask
theorem TbL.len {t : SetTable} {n : Nat} (T : TbL t n) : t.place.toList.length = n := by rw [Array.length_toList]; exact T.sz
theorem TbL.gap {t : SetTable} {n : Nat} (T : TbL t n) (hn : n ≤ t.mask) (h : Int) : ∃ N, N < 10 * SetTable.turns t.mask ∧ L2.way t.mask h N ∉ t.place.toList ∧ ∀ c, c < N → L2.way t.mask h c ∈ t.place.toList := by
  obtain ⟨j, j1, j2⟩ := st_missing t.place.toList (t.mask + 1) (by rw [T.len]; omega)
  obtain ⟨k, k1, k2⟩ := T.m7.way h (Nat.le_of_lt_succ j1)
  obtain ⟨N, n1, n2, n3⟩ := st_least (p := fun k => L2.way t.mask h k ∉ t.place.toList) k (by rw [k2]; exact j2)
  exact ⟨N, Nat.lt_of_le_of_lt n1 k1, n2, fun c hc => Classical.byContradiction fun z => n3 c hc z⟩
theorem TbL.ins {t : SetTable} {n j : Nat} (T : TbL t n) (hj : j ∉ t.place.toList) : TbL (t.put j).1 (n + 1) ∧ (t.put j).1.fill = n + 1 := by
  obtain ⟨c1, _, _⟩ := below_cut T.ris j
  have hp : (t.put j).1.place.size = n + 1 := by
    rw [← Array.length_toList, put_place t j, len_ins _ (by rw [Array.length_toList]; exact c1), T.len]
  refine ⟨⟨ris_insert T.ris fun e => hj (List.mem_of_getElem? (by rw [Array.getElem?_toList]; exact e)), put_dm T.dm j, hp, T.m7⟩, ?_⟩
  show _ + (t.put j).1.dummies.size = _
  rw [hp, put_dm T.dm j]; rfl
/-! ### laid anew -/
structure Ow (m n : Nat) (ow : Array (Option Nat)) : Prop where
  sz : ow.size = m + 1
  all : ∀ k, k < n → ∃ j, j ≤ m ∧ oAt ow j = some k
  few : ∃ l : List Nat, l.length = n ∧ ∀ j, j ≤ m → oAt ow j ≠ none → j ∈ l
theorem Ow.add {m n : Nat} {ow : Array (Option Nat)} (hm : Mk7 m) (O : Ow m n ow) (hn : n ≤ m) (h : Int) :
    ∃ j, SetTable.layClean.free m ow (SetTable.turns m) (SetTable.bits h % (m + 1)) (SetTable.bits h) = some j ∧ Ow m (n + 1) (ow.setIfInBounds j (some n)) := by
  obtain ⟨l, l1, l2⟩ := O.few
  obtain ⟨z, z1, z2⟩ := st_missing l (m + 1) (by omega)
  have z3 : oAt ow z = none := Classical.byContradiction fun e => z2 (l2 z (Nat.le_of_lt_succ z1) e)
  obtain ⟨u, u1, u2⟩ := hm.run h (Nat.le_of_lt_succ z1)
  have u3 : L2.way m h (off m (SetTable.bits h % (m + 1)) (SetTable.bits h) u) = z := by
    show (nth m _ _).j = z; rw [nth_off, itL_run]; exact u2
  obtain ⟨N, n1, n2, n3⟩ := st_least (p := fun k => oAt ow (L2.way m h k) = none) _ (by show oAt ow (L2.way m h _) = none; rw [u3]; exact z3)
  have jm := way_in m h N
  have js : L2.way m h N < ow.size := by have := O.sz; omega
  refine ⟨L2.way m h N, free_spec m ow _ u _ _ N (by unfold SetTable.turns; omega) n1 (fun k hk => ?_) (by show (oAt ow (L2.way m h N)).isNone = true; rw [n2]; rfl), by rw [Array.size_setIfInBounds]; exact O.sz, fun k hk => ?_, L2.way m h N :: l, by rw [List.length_cons, l1], fun j hj e => ?_⟩
  · have w := n3 k hk
    show (oAt ow (L2.way m h k)).isNone = false
    cases y : oAt ow (L2.way m h k) with
    | none => exact absurd y w
    | some _ => rfl
  · by_cases c : k < n
    · obtain ⟨j, j1, j2⟩ := O.all k c
      exact ⟨j, j1, by rw [oAt_set_ne _ (fun z => by rw [z, n2] at j2; cases j2)]; exact j2⟩
    · exact ⟨_, jm, by rw [show k = n by omega]; exact oAt_set_self _ js⟩
  · by_cases c : j = L2.way m h N
    · rw [c]; exact List.mem_cons_self
    · exact List.mem_cons_of_mem _ (l2 j hj (by rw [oAt_set_ne _ c] at e; exact e))
theorem ow_fold {m : Nat} (hm : Mk7 m) : ∀ (hs : List Int) (n : Nat) (ow : Array (Option Nat)), Ow m n ow → n + hs.length ≤ m →
    ∃ ow', hs.foldl (stepF m) (some (ow, n)) = some (ow', n + hs.length) ∧ Ow m (n + hs.length) ow'
  | [], n, ow, O, _ => ⟨ow, rfl, O⟩
  | h :: hs, n, ow, O, hl => by
    rw [List.length_cons] at hl
    obtain ⟨j, e, O'⟩ := O.add hm (by omega) h
    obtain ⟨ow', f, O2⟩ := ow_fold hm hs (n + 1) _ O' (by omega)
    rw [List.length_cons, show n + (hs.length + 1) = n + 1 + hs.length by omega]
    exact ⟨ow', by rw [List.foldl_cons, stepF_some e]; exact f, O2⟩
theorem ow_lay {m : Nat} (hm : Mk7 m) {hs : Array Int} (hn : hs.size ≤ m) : ∃ ow, SetTable.layClean m hs = some ow ∧ Ow m hs.size ow := by
  obtain ⟨ow, f, O⟩ := ow_fold hm hs.toList 0 (Array.replicate (m + 1) none) ⟨by simp, fun k h => absurd h (Nat.not_lt_zero _), [], rfl, fun j hj e => absurd (oAt_init hj) e⟩ (by rw [Array.length_toList]; omega)
  rw [Array.length_toList, Nat.zero_add] at O f
  exact ⟨ow, by rw [layClean_eq, f]; rfl, O⟩
theorem tb_relaid (t : SetTable) {hs : Array Int} {wanted M : Nat} (hw : SetTable.sizeAbove wanted - 1 = M) (hM : Mk7 M) (hn : hs.size ≤ M) :
    ∃ t' ord, t.relaid hs wanted = some (t', ord) ∧ ord.toList.Perm (List.range hs.size) ∧ TbL t' hs.size ∧ t'.mask = M ∧ t'.led = t.led ∧ t'.plain = t.plain := by
  obtain ⟨ow, e, O⟩ := ow_lay hM hn
  have rs := ris_live (fun j => ow.getD j none) (List.range (M + 1)) (by unfold Ris; first | exact List.pairwise_lt_range | exact List.pairwise_lt_range _)
  have r1 : Ris ((liveOf M ow).map (·.1)) := rs.1
  have nd : ((liveOf M ow).map (·.1)).Nodup := List.Pairwise.imp (fun h => Nat.ne_of_lt h) r1
  have kIn : ∀ k, k < hs.size → k ∈ (liveOf M ow).map (·.2) := fun k hk => by
    obtain ⟨j, j1, j2⟩ := O.all k hk
    exact List.mem_map.mpr ⟨_, (mem_live O.sz).2 ⟨j1, j2⟩, rfl⟩
  have hl : (liveOf M ow).length = hs.size := by
    obtain ⟨l, l1, l2⟩ := O.few
    refine Nat.le_antisymm ?_ ?_
    · have q := nat_nodup_len _ l nd fun x hx => by
        obtain ⟨⟨y, k⟩, hq, rfl⟩ := List.mem_map.mp hx
        obtain ⟨b1, b2⟩ := (mem_live O.sz).1 hq
        exact l2 _ b1 (by rw [b2]; exact Option.some_ne_none _)
      rwa [List.length_map, l1] at q
    · have q := nat_nodup_len (List.range hs.size) _ List.nodup_range fun k hk => kIn k (List.mem_range.mp hk)
      rwa [List.length_map, List.length_range] at q
  refine ⟨tabOf t M ow, ((liveOf M ow).map (·.2)).toArray, by rw [relaid_eq, hw, e]; rfl, perm_range _ _ (by rw [List.toList_toArray, List.length_map]; exact hl) kIn, ⟨r1, rfl, ?_, hM⟩, rfl, rfl, rfl⟩
  show ((liveOf M ow).map (·.1)).toArray.size = _
  rw [List.size_toArray, List.length_map, hl]
theorem szs : SetTable.sizeAbove (SetTable.grown 5) = 32 ∧ SetTable.sizeAbove (SetTable.grown 19) = 128 ∧ SetTable.sizeAbove (SetTable.grown 77) = 512 ∧ SetTable.sizeAbove (SetTable.grown 307) = 2048 := by decide +kernel
/-! ### the set -/
section
variable {P : Program} {w : World} {A : Around} {E : Value → Shared → Prop} {s : Shared} {a : Addr} {L : List (Addr × List Int)} {es : Array (Int × Value)} {ep : Nat} {t : SetTable}
structure SR (P : Program) (w : World) (h : Heap) (a : Addr) (L : List (Addr × List Int)) (es : Array (Int × Value)) (ep : Nat) (t : SetTable) : Prop where
  at_ : ∃ o, h.get? a = some o ∧ o.ExactSet ∧ o.data = .set es ep t
  ro : es.toList = rowsOf P w L
  tb : TbL t L.length
  ts : ∀ p ∈ L, IsT P w h p.2 p.1
  pl : t.plain = true
  ld : w.params.followText "set-order" = true ∨ t.led = true
  rm : L.length * 5 < t.mask * 3
theorem ro_len (e : es.toList = rowsOf P w L) : es.size = L.length := by
  have e := congrArg List.length e
  rw [Array.length_toList] at e
  exact e.trans (List.length_map ..)
theorem SR.count (R : SR P w s.heap a L es ep t) : es.size = L.length := ro_len R.ro
theorem fits_tb {n : Nat} (T : TbL t n) (hn : n ≤ t.mask) (e : es.size = n) : t.fits es.size = true := by
  have e1 := T.sz
  unfold SetTable.fits SetTable.fill
  rw [T.dm]
  simp only [Bool.and_eq_true, beq_iff_eq, decide_eq_true_eq]
  exact ⟨by omega, by show t.place.size + 0 ≤ _; omega⟩
theorem SR.fit (R : SR P w s.heap a L es ep t) : t.fits es.size = true := fits_tb R.tb (by have := R.rm; omega) R.count
theorem SR.ent (R : SR P w s.heap a L es ep t) {i : Nat} {p : Addr × List Int} (e : L[i]? = some p) : es[i]? = some (thash P w p.2, Value.ref p.1) := by
  have e2 : es.toList[i]? = (rowsOf P w L)[i]? := by rw [R.ro]
  rw [Array.getElem?_toList] at e2
  rw [e2, rowsOf, List.getElem?_map, e]; rfl
theorem nth_dm (m : Nat) : ∀ (n : Nat) (p : SetTable.Probe), p.dummy = none → (nth m p n).dummy = none
  | 0, _, h => h
  | n + 1, p, h => nth_dm m n (adv m p) (by unfold adv; split <;> exact h)
/-- what isn't in: the search goes to the first gap -/
theorem sr_look (R : SR P w s.heap a L es ep t) {x : Addr} {k : List Int} (hx : IsT P w s.heap k x) (hn : k ∉ L.map (·.2)) (hu : A.units < cLine) {N : Nat} (N1 : N < 10 * SetTable.turns t.mask)
    (N2 : L2.way t.mask (thash P w k) N ∉ t.place.toList) (N3 : ∀ c, c < N → L2.way t.mask (thash P w k) c ∈ t.place.toList) {Q : SetFound → Shared → Prop} (hq : Q (.free (L2.way t.mask (thash P w k) N) false) s) :
    ∀ (f c : Nat) (st : Option SetTable.Probe), st.getD (t.probeStart (thash P w k)) = nth t.mask (t.probeStart (thash P w k)) c → c ≤ N → N - c < f → wpAny (model P w) A (setSearchFrom a (.ref x) (thash P w k) true f st) Q E s
  | 0, c, st, _, _, hf => absurd hf (Nat.not_lt_zero _)
  | f + 1, c, st, hst, hc, hf => by
    obtain ⟨o, ho, he, hda⟩ := R.at_
    rw [setSearchFrom_succ]; refine wpAny_bind (wpAny_setState_of ho hda R.fit ?_); dsimp only
    refine wp_if_neg (show ¬ t.gaveWay = true by unfold SetTable.gaveWay; rw [R.tb.m7.odd]; decide) ?_
    try refine wpAny_bind (wpAny_pure ?_)
    have sh : ∀ q, nth t.mask (nth t.mask (t.probeStart (thash P w k)) c) q = nth t.mask (t.probeStart (thash P w k)) (c + q) := fun q => (nth_add t.mask c _ q).symm
    have sj : ∀ q, (nth t.mask (nth t.mask (t.probeStart (thash P w k)) c) q).j = L2.way t.mask (thash P w k) (c + q) := fun q => congrArg SetTable.Probe.j (sh q)
    rcases go_spec t R.tb.ris R.tb.dm (fun i => (es[i]?.map (·.1)).getD 0) (thash P w k) (10 * SetTable.turns t.mask) (N - c) _ (nth_dm t.mask c (t.probeStart (thash P w k)) rfl) (by omega)
      (fun q hq => by rw [sj]; exact N3 (c + q) (by omega)) (by rw [sj, show c + (N - c) = N by omega]; exact N2) with ⟨q, i, hq1, hi, hh, _, hpr⟩ | ⟨_, hpr⟩
    · have e0 : t.probe (fun i => (es[i]?.map (·.1)).getD 0) (thash P w k) (st.getD (t.probeStart (thash P w k))) = some (.candidate (L2.way t.mask (thash P w k) (c + q)) i (nth t.mask (t.probeStart (thash P w k)) (c + (q + 1)))) := by
        rw [hst, ← sj, ← sh]; exact hpr
      rw [e0]; dsimp only
      rw [sj] at hi
      have il : i < L.length := by have := (List.getElem?_eq_some_iff.mp hi).1; rw [R.tb.len] at this; exact this
      obtain ⟨p, hp⟩ : ∃ p, L[i]? = some p := ⟨_, List.getElem?_eq_getElem il⟩
      have hm := List.mem_of_getElem? hp
      have hne : ¬ p.2 = k := fun z => hn (List.mem_map.mpr ⟨p, hm, z⟩)
      have go : wpAny (model P w) A (searchRest a (.ref x) (thash P w k) true f es t (L2.way t.mask (thash P w k) (c + q)) i (nth t.mask (t.probeStart (thash P w k)) (c + (q + 1)))) Q E s := by
        unfold searchRest
        rw [R.ent hp]; dsimp only
        refine wpAny_bind (wpAny_holding (wpAny_eqBool_tuple hu (R.ts p hm) hx ?_)); refine wpAny_bind (wpAny_setState_of ho hda R.fit ?_)
        dsimp only; refine wp_if_neg (by simp [hne]) ?_
        try refine wpAny_bind (wpAny_pure ?_)
        rw [sameMem]; dsimp only
        have hsl : t.slot (L2.way t.mask (thash P w k) (c + q)) = .live i := slot_live R.tb.ris hi
        simp only [if_true, hsl, R.ent hp]
        refine wpAny_bind (wpAny_isSame_ref_self (wpAny_bind (wpAny_pure ?_))); simp only [if_true]
        exact wp_if_neg (by simp [hne]) (sr_look R hx hn hu N1 N2 N3 hq f (c + (q + 1)) _ rfl (by omega) (by omega))
      by_cases hl : t.led = true
      · refine wp_if_neg (by simp [hl]) ?_; try refine wpAny_bind (wpAny_pure ?_)
        exact go
      · refine wp_if_pos (by simp [hl]) ?_; refine wpAny_bind (seen_tup hx (fun y hy => ?_) ?_)
        · obtain ⟨e, e1, rfl⟩ := List.mem_map.mp hy
          have e2 : e ∈ es.toList := by have : e ∈ es ∧ e.1 = thash P w k := by simpa using e1
                                        simpa using this.1
          rw [R.ro] at e2
          obtain ⟨p2, hp2, rfl⟩ := List.mem_map.mp e2
          exact ⟨p2.2, p2.1, rfl, R.ts p2 hp2⟩
        · refine wp_if_neg (by decide) ?_; try refine wpAny_bind (wpAny_pure ?_)
          exact go
    · have e0 : t.probe (fun i => (es[i]?.map (·.1)).getD 0) (thash P w k) (st.getD (t.probeStart (thash P w k))) = some (.empty (L2.way t.mask (thash P w k) N) none) := by
        rw [show L2.way t.mask (thash P w k) N = (nth t.mask (nth t.mask (t.probeStart (thash P w k)) c) (N - c)).j by rw [sj, show c + (N - c) = N by omega], hst]; exact hpr
      rw [e0]; dsimp only
      exact wpAny_pure hq
theorem sr_relay {o : Obj} {n : Nat} (ho : s.heap.get? a = some o) (he : o.ExactSet) (hda : o.data = .set es ep t) (ro : es.toList = rowsOf P w L) (T : TbL t L.length) (hf : L.length ≤ t.mask) (ts : ∀ p ∈ L, IsT P w s.heap p.2 p.1)
    (pl : t.plain = true) (ld : w.params.followText "set-order" = true ∨ t.led = true) {wanted M : Nat} (hw : SetTable.sizeAbove wanted - 1 = M) (hM : Mk7 M) (hw2 : SetTable.sizeAbove wanted ≤ 2048) (hn : L.length * 5 < M * 3) {Q : Unit → Shared → Prop}
    (hQ : ∀ h' L' es' ep' t', Heap.SameBut a s.heap h' → SR P w h' a L' es' ep' t' → L'.Perm L → Q () { s with heap := h' }) : wpAny (model P w) A (setRelay a wanted) Q E s := by
  have sl := ro_len ro
  have M2 := hM.le
  obtain ⟨t', od, e, pm, T', em, el, eq⟩ := tb_relaid t (hs := es.map (·.1)) (wanted := wanted) hw hM (by rw [Array.size_map, sl]; omega)
  rw [Array.size_map, sl] at pm T'
  obtain ⟨L2', r1, r2, _⟩ := order_rows L es od ro pm
  have s2 : (od.filterMap (es[·]?)).size = es.size := by rw [ro_len r1, r2.length_eq, sl]
  rw [setRelay_eq]; refine wpAny_bind (wpAny_setState_of ho hda (fits_tb T hf sl) ?_); dsimp only
  refine wp_if_neg (by rw [sizeLine_eq]; omega) ?_; try refine wpAny_bind (wpAny_pure ?_)
  rw [e]; dsimp only; refine wpAny_bind ?_
  refine wp_if_neg (by rw [s2]; simp) ?_; try refine wpAny_bind (wpAny_pure ?_)
  refine wpAny_pure ?_; dsimp only; refine wpAny_storeSet_of ho hda ?_ (by rw [s2, sl, sizeLine_eq]; omega)
  have sb : Heap.SameBut a s.heap (s.heap.update a (Obj.putSet (od.filterMap (es[·]?)) t')) := Heap.SameBut.update ..
  exact hQ _ L2' _ (ep + 1) t' sb ⟨⟨_, store_at ho hda, ⟨he.1, he.2.1, he.2.2⟩, rfl⟩, r1, by rw [r2.length_eq]; exact T', fun p hp => isT_same (ts p (r2.mem_iff.mp hp)) ho hda sb, by rw [eq]; exact pl, by rw [el]; exact ld, by rw [r2.length_eq, em]; exact hn⟩ r2
/-- one more -/
theorem sr_add (R : SR P w s.heap a L es ep t) {x : Addr} {k : List Int} (hx : IsT P w s.heap k x) (hn : k ∉ L.map (·.2)) (hu : A.units < cLine) (hf : L.length + 1 ≤ 1200) {Q : Bool → Shared → Prop}
    (hQ : ∀ b h' L' es' ep' t', Heap.SameBut a s.heap h' → SR P w h' a L' es' ep' t' → L'.Perm ((x, k) :: L) → Q b { s with heap := h' }) : wpAny (model P w) A (setAddHashed a (.ref x) (thash P w k)) Q E s := by
  obtain ⟨o, ho, he, hda⟩ := R.at_
  have sl := R.count
  have rm := R.rm
  have m2 := R.tb.m7.le
  obtain ⟨N, N1, N2, N3⟩ := R.tb.gap (by omega) (thash P w k)
  have tu : 10 * SetTable.turns t.mask ≤ 20620 := by unfold SetTable.turns; omega
  unfold setAddHashed
  refine wpAny_holding ?_; rw [show (100000 : Nat) = 99999 + 1 from rfl, setAddHashedIn_succ]; refine wpAny_bind (wpAny_setState_of ho hda R.fit ?_)
  dsimp only; refine wp_if_neg (by simp [byScan, Value.scannable]) ?_
  try refine wpAny_bind (wpAny_pure ?_)
  unfold setSearch
  refine wpAny_bind (sr_look R hx hn hu N1 N2 N3 ?_ 100000 0 none rfl (Nat.zero_le _) (by omega)); dsimp only; refine wpAny_bind (wpAny_setState_of ho hda R.fit ?_)
  dsimp only
  obtain ⟨T1, fl⟩ := R.tb.ins N2
  have pl1 : (t.put (L2.way t.mask (thash P w k) N)).1.plain = true := R.pl
  have ld1 : w.params.followText "set-order" = true ∨ (t.put (L2.way t.mask (thash P w k) N)).1.led = true := R.ld
  have mk1 : (t.put (L2.way t.mask (thash P w k) N)).1.mask = t.mask := rfl
  have ro1 : (SetTable.insertAt es (t.put (L2.way t.mask (thash P w k) N)).2 (thash P w k, Value.ref x)).toList = rowsOf P w (L.take (t.put (L2.way t.mask (thash P w k) N)).2 ++ (x, k) :: L.drop (t.put (L2.way t.mask (thash P w k) N)).2) := by
    rw [SetTable.toList_insertAt, rows_put, R.ro]
  generalize t.put (L2.way t.mask (thash P w k) N) = tp at T1 fl pl1 ld1 mk1 ro1 ⊢
  obtain ⟨t1, p⟩ := tp
  dsimp only at T1 fl pl1 ld1 mk1 ro1 ⊢
  first
    | (refine wpAny_bind ?_; refine wp_if_pos pl1 ?_; refine hashBy_tup hx ?_)
    | refine wp_if_pos pl1 (wpAny_bind (hashBy_tup hx ?_))
  simp only [if_true]
  have pm := put_perm L p (x, k)
  have ln : (L.take p ++ (x, k) :: L.drop p).length = L.length + 1 := pm.length_eq
  generalize L.take p ++ (x, k) :: L.drop p = L1 at ro1 pm ln
  have sz1 := ro_len ro1
  generalize SetTable.insertAt es p (thash P w k, Value.ref x) = es1 at ro1 sz1 ⊢
  refine wpAny_bind (wpAny_storeSet_of ho hda ?_ (by rw [sz1, ln, sizeLine_eq]; omega)); have sb : Heap.SameBut a s.heap (s.heap.update a (Obj.putSet es1 t1)) := Heap.SameBut.update ..
  have ho1 := store_at (es' := es1) (t' := t1) ho hda
  generalize s.heap.update a (Obj.putSet es1 t1) = h1 at sb ho1 ⊢
  have ts1 : ∀ p ∈ L1, IsT P w h1 p.2 p.1 := fun p hp => by
    rcases List.mem_cons.mp (pm.mem_iff.mp hp) with rfl | hp
    · exact isT_same hx ho hda sb
    · exact isT_same (R.ts p hp) ho hda sb
  rw [← ln] at T1
  have tf : t1.tooFull = decide ((L.length + 1) * 5 ≥ t.mask * 3) := by unfold SetTable.tooFull; rw [fl, mk1]
  by_cases c : (L.length + 1) * 5 ≥ t.mask * 3
  · rw [decide_eq_true c] at tf
    first
      | (refine wpAny_bind ?_; refine wp_if_pos (by simp [tf]) ?_)
      | (refine wp_if_pos (by simp [tf]) ?_; refine wpAny_bind ?_)
    rw [sl]
    have go : ∀ M, SetTable.sizeAbove (SetTable.grown (L.length + 1)) - 1 = M → Mk7 M → SetTable.sizeAbove (SetTable.grown (L.length + 1)) ≤ 2048 → (L.length + 1) * 5 < M * 3 →
        wpAny (model P w) A (setRelay a (SetTable.grown (L.length + 1))) (fun _ s' => wpAny (model P w) A (pure true) Q E s') E { s with heap := h1 } := fun M g1 g2 g3 g4 =>
      sr_relay (s := { s with heap := h1 }) (n := 0) ho1 ⟨he.1, he.2.1, he.2.2⟩ rfl ro1 T1 (by rw [ln, mk1]; omega) ts1 pl1 ld1 g1 g2 g3 (by rw [ln]; exact g4) fun h2 L2' es2 ep2 t2 sb2 R2 pm2 =>
        wpAny_pure (hQ true h2 L2' es2 ep2 t2 (sb.trans sb2) R2 (pm2.trans pm))
    obtain ⟨z1, z2, z3, z4⟩ := szs
    rcases R.tb.m7 with e | e | e | e | e
    · rw [e] at c rm
      have e2 : L.length = 4 := by omega
      exact go 31 (by rw [e2, z1]) (.inr (.inl rfl)) (by rw [e2, z1]; decide) (by omega)
    · rw [e] at c rm
      have e2 : L.length = 18 := by omega
      exact go 127 (by rw [e2, z2]) (.inr (.inr (.inl rfl))) (by rw [e2, z2]; decide) (by omega)
    · rw [e] at c rm
      have e2 : L.length = 76 := by omega
      exact go 511 (by rw [e2, z3]) (.inr (.inr (.inr (.inl rfl)))) (by rw [e2, z3]; decide) (by omega)
    · rw [e] at c rm
      have e2 : L.length = 306 := by omega
      exact go 2047 (by rw [e2, z4]) (.inr (.inr (.inr (.inr rfl)))) (by rw [e2, z4]; decide) (by omega)
    · rw [e] at c
      exact absurd c (by omega)
  · rw [decide_eq_false c] at tf
    first
      | refine wp_if_neg (by simp [tf]) ?_
      | (refine wpAny_bind ?_; refine wp_if_neg (by simp [tf]) ?_; refine wpAny_pure ?_)
    exact wpAny_pure (hQ true h1 L1 es1 (ep + 1) t1 sb ⟨⟨_, ho1, ⟨he.1, he.2.1, he.2.2⟩, rfl⟩, ro1, T1, ts1, pl1, ld1, by rw [ln, mk1]; omega⟩ pm)
theorem SR.keep {h h' : Heap} (R : SR P w h a L es ep t) (ha : ∀ o, h.get? a = some o → h'.get? a = some o) (ht : ∀ p ∈ L, IsT P w h' p.2 p.1) : SR P w h' a L es ep t :=
  let ⟨o, ho, r⟩ := R.at_; ⟨⟨o, ha o ho, r⟩, R.ro, R.tb, ht, R.pl, R.ld, R.rm⟩
theorem sr_new {h : Heap} (ho : h.get? a = some { cls := .type "set", dict := none, data := .set #[] 0 (.fresh 0 0 (!w.params.followText "set-order")) }) : SR P w h a [] #[] 0 (.fresh 0 0 (!w.params.followText "set-order")) :=
  ⟨⟨_, ho, ⟨rfl, rfl, rfl⟩, rfl⟩, rfl, ⟨List.Pairwise.nil, rfl, rfl, .inl rfl⟩, (fun p hp => nomatch hp), rfl, by
    show _ ∨ (!w.params.followText "set-order") = true
    cases w.params.followText "set-order"
    · exact .inr rfl
    · exact .inl rfl, show 0 * 5 < 7 * 3 by decide⟩
/-- the loop behind set(..) -/
theorem sr_loop {I : Addr} {fp wr : List Addr} {Γ : Array GenState → Array GenState → Prop} {n : Nat} {Pv : Nat → Value → Prop} {St : Nat → Shared → Prop} {R : Result → Shared → Prop} (W : WalksS P w A.in1 I fp wr Γ n Pv St) (S : Addr) (hS : S ∉ fp)
    (ks : List (Addr × List Int)) (hn : n = ks.length) (hf : ks.length ≤ 1200) (nd : (ks.map (·.2)).Nodup) (hv : ∀ i v, Pv i v → ∃ p, ks[i]? = some p ∧ v = .ref p.1) (h0 : Heap) (hk : ∀ p ∈ ks, IsT P w h0 p.2 p.1) (hS0 : h0.get? S = none) (hw0 : ∀ b ∈ wr, h0.get? b = none) (hu : A.in1.units < cLine) :
    ∀ (k i : Nat) (s : Shared), n - i = k → i ≤ n → St i s → (∀ b o, h0.get? b = some o → s.heap.get? b = some o) → (∃ L es ep t, SR P w s.heap S L es ep t ∧ L.Perm (ks.take i)) →
      (∀ s' L es ep t, Moved (S :: wr) Γ s s' → SR P w s'.heap S L es ep t → L.Perm ks → (∀ b o, h0.get? b = some o → s'.heap.get? b = some o) → R (.ok (.ret .none)) s') → codeAny (model P w) A (.builtin "set.update.loop" ⟨[.ref S, .ref I], []⟩) R s := by
  have nS : S ∉ wr := fun z => hS (W.sub _ z)
  have keep : ∀ {s s' : Shared}, Moved wr Γ s s' → (∀ b o, h0.get? b = some o → s.heap.get? b = some o) → ∀ b o, h0.get? b = some o → s'.heap.get? b = some o := fun m q b o e => m.heap b o (fun z => by rw [hw0 b z] at e; cases e) (q b o e)
  have wide : ∀ b ∈ wr, b ∈ S :: wr := fun b => List.mem_cons_of_mem S
  intro k
  induction k with
  | zero =>
    intro i s e1 e2 st q ⟨L, es, ep, t, r, pm⟩ hR
    obtain rfl : i = n := by omega
    refine codeAny_builtin F.entry_set_update_loop ?_; rw [Around.under_plainId F.plain_set_update_loop _]; show wpAny _ A.in1 (pyNext (.ref I) >>= _) _ _ s
    refine wpAny_bind (W.done s _ _ st fun s' m => ?_); show wpAny _ A.in1 (ret Value.none) _ _ s'
    rw [hn, List.take_length] at pm
    exact wpAny_pure (hR s' L es ep t (m.mono wide) (r.keep (fun o e => m.heap S o nS e) fun p hp => isT_keep (hk p (pm.mem_iff.mp hp)) (keep m q)) pm (keep m q))
  | succ k ih =>
    intro i s e1 e2 st q ⟨L, es, ep, t, r, pm⟩ hR
    have lt : i < n := by omega
    refine codeAny_builtin F.entry_set_update_loop ?_; rw [Around.under_plainId F.plain_set_update_loop _]; show wpAny _ A.in1 (pyNext (.ref I) >>= _) _ _ s
    refine wpAny_bind (W.item i s _ _ lt st fun v s' hP st' m => ?_)
    obtain ⟨p, hp, rfl⟩ := hv i v hP
    have q' := keep m q
    have tk := take_next hp
    have ink : ∀ p ∈ L, p ∈ ks := fun p hp => List.mem_of_mem_take (pm.mem_iff.mp hp)
    have r' : SR P w s'.heap S L es ep t := r.keep (fun o e => m.heap S o nS e) fun p hp => isT_keep (hk p (ink p hp)) q'
    have hx : IsT P w s'.heap p.2 p.1 := isT_keep (hk p (List.mem_of_getElem? hp)) q'
    have out : p.2 ∉ L.map (·.2) := fun z => by
      have z := (pm.map (·.2)).mem_iff.mp z
      have nd2 : ((ks.take (i + 1)).map (·.2)).Nodup := ((List.take_sublist _ _).map _).nodup nd
      rw [tk, List.map_append] at nd2
      exact (List.nodup_append.mp nd2).2.2 _ z _ (List.mem_singleton.mpr rfl) rfl
    have ll : L.length = i := by rw [pm.length_eq, List.length_take]; omega
    show wpAny _ A.in1 (holding [Value.ref p.1] (setAdd S (.ref p.1)) >>= _) _ _ s'; refine wpAny_bind (wpAny_holding ?_)
    unfold setAdd
    refine wpAny_holding ?_; refine wpAny_bind (wpAny_pyHash_tuple hu hx ?_)
    refine sr_add (s := { s' with toks := s'.toks + (p.2.length + 1) }) r' hx out hu (by omega) fun b h' L' es' ep' t' sb r2 pm2 => ?_
    have q2 : ∀ b o, h0.get? b = some o → h'.get? b = some o := fun b o e => (sb.2 b (fun z => by rw [z, hS0] at e; cases e)).trans (q' b o e)
    refine wpAny_pure ⟨plainId_quiet F.plain_set_update_loop _, ih (i + 1) _ (by omega) lt (W.frame _ s' _ _ st' (Nat.le_add_right _ _) fun b hb o e => ?_) q2 ⟨L', es', ep', t', r2, ?_⟩ fun s'' L2' es2 ep2 t2 m2 r3 pm3 q3 => ?_⟩
    · rw [sb.2 b (fun z : b = S => hS (by rw [← z]; exact hb))]; exact e
    · rw [tk]
      exact pm2.trans ((pm.cons p).trans (List.perm_append_singleton p _).symm)
    · refine hR s'' L2' es2 ep2 t2 (Moved.trans W.gtrans ((m.mono wide).then_heap (Nat.le_add_right _ _) fun b o hb e => ?_) m2) r3 pm3 q3
      rw [sb.2 b (fun z : b = S => hb (by rw [z]; exact List.mem_cons_self))]; exact e
/-- a set as it is made -/
abbrev mtS (w : World) : Obj := { cls := .type "set", dict := none, data := .set #[] 0 (.fresh 0 0 (!w.params.followText "set-order")) }
theorem none_hi {h : Heap} {b : Addr} (hb : h.objs.size ≤ b) : h.get? b = none := by
  cases q : h.get? b with
  | none => rfl
  | some o => exact absurd (Nat.lt_of_lt_of_le (Heap.lt_size q) hb) (Nat.lt_irrefl _)
set_option maxHeartbeats 4000000 in
/-- set(l), no two of l alike -/
theorem sr_call {l : Addr} {items : Array Value} (ks : List (Addr × List Int)) {Q : Value → Shared → Prop} (hh : A.handled = none) (hl : s.heap.IsList l items) (hit : items.toList = ks.map fun p => Value.ref p.1) (hk : ∀ p ∈ ks, IsT P w s.heap p.2 p.1) (nd : (ks.map (·.2)).Nodup) (hf : ks.length ≤ 1200) (hu : A.units + 3 < cLine)
    (h : ∀ (h' : Heap) (tk : Nat) L es ep t, SR P w h' s.heap.objs.size L es ep t → L.Perm ks → (∀ b o, s.heap.get? b = some o → h'.get? b = some o) → Q (.ref s.heap.objs.size) { s with heap := h', toks := tk }) : wpAny (model P w) A (call (.type "set") [.ref l]) Q E s := by
  have hz : items.size = ks.length := by
    have q := congrArg List.length hit
    rw [Array.length_toList] at q
    exact q.trans (List.length_map ..)
  obtain ⟨c, tl, hmro⟩ := F.called_set.mro
  have m1 := F.called_set.made; have m2 := F.called_set.sub; have m3 := F.called_set.notType; have m4 := F.called_set.canCreate; have m5 := F.typeCall_set_1 (.ref l)
  refine wpAny_call (codeAny_of_tree ?_); show wpAny _ _ (callAny (.type "set") _) _ _ _; refine wpAny_pure ⟨Code.quiet_builtin _ (by decide +kernel), codeAny_builtin F.entry_type_call ?_⟩
  rw [Around.under_plain (weight_type_call_type "set" [.ref l] []) rfl]; repeat (any_goals (first | assumption | wp_step))
  refine codeAny_mono (code_set_led1 (.ref l) (E := E) (Q₁ := fun obj s₁ => obj = .ref s.heap.objs.size ∧ s₁ = { s with heap := s.heap.push (mtS w) }) ⟨rfl, rfl⟩) fun r s₁ hr => ?_
  rcases r with e | fl
  · exact hr
  · cases fl with
    | ret obj =>
      obtain ⟨rfl, rfl⟩ := hr
      have hS : (s.heap.push (mtS w)).get? s.heap.objs.size = some (mtS w) := Heap.get?_push_size _ rfl
      have hT : Shared.TypeIs { s with heap := s.heap.push (mtS w) } (.ref s.heap.objs.size) "set" := ⟨_, hS, rfl⟩
      have m6 := F.called_set.init.lookup; have m7 := F.called_set.init.bind (.ref s.heap.objs.size)
      repeat (any_goals (first | assumption | wp_step))
      refine codeAny_mono (codeAny_call_builtin (R := wants (fun r s₂ => r = .none ∧ ∃ h' tk L es ep t, s₂ = { s with heap := h', toks := tk } ∧ SR P w h' s.heap.objs.size L es ep t ∧ L.Perm ks ∧ (∀ b o, s.heap.get? b = some o → h'.get? b = some o)) E) F.called_set.init.plain F.entry_set_init (check_set_init_1 hT ?_)) fun r₂ s₂ hr₂ => ?_
      · obtain ⟨ol, hol, hcl, nl, hdl⟩ := hl
        obtain ⟨oc, od, oda, osl⟩ := ol
        simp only at hcl hdl
        subst hcl; subst hdl
        have hol' : (s.heap.push (mtS w)).get? l = some { cls := .type "list", dict := od, data := .seq items nl, slots := osl } := Heap.get?_push_of_some _ hol
        have n1 := F.sub_list_set; have n2 := F.sub_list_frozenset; have n3 : (Value.type "list" == Value.type "dict") = false := by decide
        have hl1 : (s.heap.push (mtS w)).IsList l items := ⟨_, hol', rfl, nl, rfl⟩
        unfold Builtin.«set.__init__» noKeywords Builtin.Frozenset.updateFrom
        generalize hPI : pyIter = PI; wp_walk; subst hPI
        refine wpAny_pyIter_list hl1 ?_; refine wpAny_bind (wpAny_runValue ?_)
        have ls : l < s.heap.objs.size := Heap.lt_size hol
        have h3 : A.in1.in1.in1.handled = none := by simp [hh]
        have nI : l ≠ (s.heap.push (mtS w)).objs.size := by rw [Heap.size_push]; exact Nat.ne_of_lt (Nat.lt_succ_of_lt ls)
        have nS : s.heap.objs.size ∉ [(s.heap.push (mtS w)).objs.size, l] := by
          rw [Heap.size_push]; simp only [List.mem_cons, List.mem_singleton, List.not_mem_nil, or_false, not_or]; exact ⟨Nat.ne_of_lt (Nat.lt_succ_self _), Nat.ne_of_gt ls⟩
        have hv : ∀ (i : Nat) (v : Value), items[i]? = some v → ∃ p, ks[i]? = some p ∧ v = .ref p.1 := fun i v e => by
          have q : (ks.map fun p => Value.ref p.1)[i]? = some v := by rw [← hit, Array.getElem?_toList]; exact e
          rw [List.getElem?_map] at q
          obtain ⟨p, e1, e2⟩ := Option.map_eq_some_iff.mp q
          exact ⟨p, e1, e2.symm⟩
        refine sr_loop ((Walks.list h3 _ l nI items).toS) s.heap.objs.size nS ks hz hf nd hv s.heap hk (none_hi (Nat.le_refl _)) (fun b hb => none_hi (by rw [List.mem_singleton.mp hb, Heap.size_push]; exact Nat.le_succ _)) hu (items.size - 0) 0 _ (by omega) (Nat.zero_le _)
          ⟨⟨_, Heap.get?_push_size _ rfl, rfl, rfl⟩, (hl1.push _)⟩ (fun b o e => Heap.get?_push_of_some _ (Heap.get?_push_of_some _ e)) ?inA ?inB
        case inA => exact ⟨[], #[], 0, _, sr_new (Heap.get?_push_of_some _ hS), .refl _⟩
        case inB =>
          intro s' L es ep t hm r pm kp
          obtain ⟨h', g2, d', tk', os'⟩ := s'
          cases (show g2 = s.gens from hm.gens); cases (show d' = s.drawn from hm.drawn); cases (show os' = s.os from hm.os)
          show wpAny _ _ _ _ _ _
          refine wpAny_pure ?_
          show wpAny _ _ (ret Value.none) _ _ _
          exact wpAny_pure ⟨rfl, h', tk', L, es, ep, t, rfl, r, pm, kp⟩
      · rcases r₂ with e | fl₂
        · exact hr₂
        · cases fl₂ with
          | ret r =>
            obtain ⟨rfl, h', tk, L, es, ep, t, rfl, r, pm, kp⟩ := hr₂
            repeat (any_goals (first | assumption | wp_step))
            exact h h' tk L es ep t r pm kp
          | _ => exact hr₂.elim
    | _ => exact hr.elim
end
end LF
/-! LF48: len(set(l)); worlds of trials -/
namespace LF
open PySem PySem.Spec PyProof.Rows L2
section
variable {X : Cx} {Wx : WX} {e : Expr} {te : ET} {p p2 pos pos2 : Pos}
def wLnSet : Wv → HW → WK → Prop := fun w G q => match w with
  | .ref p => ∃ cs : List Cf, RdL G p (cs.map cfW) ∧ cs.Nodup ∧ cs.length ≤ 1200 ∧ q (.int cs.length) G
  | _ => False
def eLnSet (te : ET) : ET := fun x σ G q => te x σ G fun w G1 => wLnSet w G1 q
theorem cfs_ks {K : PySem.W.Frag} {H : Hp} : ∀ {cs : List Cf} {vs : List V}, RWs K H (cs.map cfW) vs → ∃ ks : List (Addr × List Int), vs = ks.map (fun p => V.ref p.1) ∧ ks.map (·.2) = cs ∧ ∀ p ∈ ks, H p.1 = some (.tup (p.2.map V.int))
  | [], _, r => by cases r; exact ⟨[], rfl, rfl, fun _ h => nomatch h⟩
  | c :: cs, _, r => by
    rw [List.map_cons] at r
    cases r with
    | cons a b =>
      obtain ⟨t, rfl, ht, _⟩ := rw_cf a
      obtain ⟨ks, rfl, rfl, hk⟩ := cfs_ks b
      refine ⟨(t, c) :: ks, rfl, rfl, fun p hp => ?_⟩
      rcases List.mem_cons.mp hp with rfl | hp
      · exact ht
      · exact hk p hp
variable {x : XW} {σ : SW} {G : HW} {q : WK}
def kLnSet (q : WK) : WK := fun w G => wLnSet w G q
theorem m_LnSet : eLnSet te x σ G q = te x σ G (kLnSet q) := rfl
end
/-! ### worlds of trials -/
/-- trials in a world: what is known, how many were called, what stands, what comes of an asking -/
structure Wd (C : Addr) (Cs : SpB) (cs : List CandF) where
  S : Type
  t : Addr
  ok : S → Prop
  kn : S → List Rw
  n : S → Nat
  A : S → Ass
  to : S → Cf → S
  out : S → Cf → Out
  tr : ∀ (s : S) (F : List Ass) (G : HW), ok s → Sep (A s :: F) G → ∃ (dx : Addr) (te : Wv) (m : Int) (k r : Addr) (rows : List Wv), G t = some (.ins C dx (trF te m k r false)) ∧ G k = some (.dtp ((kn s).map entT)) ∧ G r = some (.lst rows) ∧ rows.length = n s ∧ n s ≤ 100000
  ask : ∀ (s : S) (p : Cf) (F : List Ass) (G : HW) (k : Str → HW → Prop) (kx : XE), ok s → Cfg p 120 → Sep (A s :: F) G → out s p ≠ .val .non → (∀ v G', out s p = .val (.str v) → Sep (A (to s p) :: F) G' → k v G') → (∀ c fs G', out s p = .exc c fs → Sep (A (to s p) :: F) G' → kx c fs G') → AskG C Cs cs [.ref t, .tup (p.map .int)] G k kx
/-- the way by halves within a world, c calls from a on at the most -/
inductive Go {C : Addr} {Cs : SpB} {cs : List CandF} (W : Wd C Cs cs) (c a : Nat) : Nat → Hs → W.S → Hs → W.S → Out → Prop
  | over {m : Nat} {s : Hs} {z : W.S} : W.ok z → s.st = .over → Go W c a m s z s z (.val (.bl true))
  | stop {m : Nat} {s : Hs} {z : W.S} : W.ok z → s.st ≠ .over → lkR (W.kn z) s.upc = none → a + c ≤ W.n z → Go W c a m s z s z (.val (.bl false))
  | fail {m : Nat} {s : Hs} {z : W.S} {cl : Value} {fs : List (Str × Wv)} : W.ok z → s.st ≠ .over → (lkR (W.kn z) s.upc = none → W.n z < a + c) → W.out z s.upc = .exc cl fs → Go W c a m s z s (W.to z s.upc) (.exc cl fs)
  | step {m : Nat} {s s' : Hs} {z z' : W.S} {v : Str} {o : Out} : W.ok z → s.st ≠ .over → (lkR (W.kn z) s.upc = none → W.n z < a + c) → W.out z s.upc = .val (.str v) → Go W c a m (takeS s (decide (v = "fail"))) (W.to z s.upc) s' z' o → Go W c a (m + 1) s z s' z' o
/-! ### a test that always tells -/
structure TrV extends TrW where
  k : Nat
  pre : List Cf
def askM (w : TrV) (l : List Cf) (p : Cf) : List Cf := if p ∉ l ∧ (l.length : Int) - w.k = w.m then l else askL l p
def askO (Cs : SpB) (w : TrV) (l : List Cf) (p : Cf) : Out := if p ∉ l ∧ (l.length : Int) - w.k = w.m then .exc (.ref Cs) [("most", .int w.m)] else .val (.str (w.τ p))
theorem askL_drop {l : List Cf} {p : Cf} {k : Nat} (h : k ≤ l.length) (hp : p ∉ l) : (askL l p).drop k = l.drop k ++ [p] := by
  unfold askL
  rw [if_neg hp, List.drop_append_of_le_length h]
theorem prL_snoc {τ : Cf → Str} {l : List Cf} {p : Cf} : prL τ (l ++ [p]) = prL τ l ++ [(p, τ p)] := by show (l ++ [p]).map _ = _; rw [List.map_append]; rfl
def totW (C : Addr) (Cs : SpB) (cs : List CandF) (n : NW) (Tl : Addr → (Cf → Str) → Ass) (w : TrV) (hp : w.pre.length ≤ 40000) (vd : ∀ p, vdS (w.τ p))
    (ht : ∀ (p : Cf) (log : List Cf), Cfg p 120 → log.length ≤ 100000 → TestG cs w.g p (TeT n Tl w.toTrW log) (.val (.str (w.τ p))) (TeT n Tl w.toTrW (log ++ [p]))) : Wd C Cs cs where
  S := List Cf
  t := w.t
  ok l := w.k ≤ l.length ∧ l.length ≤ 50000
  kn l := prL w.τ l
  n l := l.length - w.k
  A l := bun [TrA C w.t (.ref w.g) w.m (prL w.τ l) (prL w.τ (l.drop w.k)), TeT n Tl w.toTrW (w.pre ++ l.drop w.k)]
  to l p := askM w l p
  out l p := askO Cs w l p
  tr l F G h s := by
    obtain ⟨dx, k, r, s1⟩ := s.un.tr
    refine ⟨dx, _, _, k, r, _, s1.at, s1.tail.at, s1.tail.tail.at, ?_, by omega⟩
    rw [List.length_map, List.length_map, List.length_drop]
  ask l p F G k kx h cp s _ h1 h2 := by
    obtain ⟨hk, hl⟩ := h
    have e1 := lkR_map (τ := w.τ) l p
    have s1 := s.un
    refine askG_of ⟨w.t, w.g, w.m, prL w.τ l, prL w.τ (l.drop w.k), p, TeT n Tl w.toTrW (w.pre ++ l.drop w.k), F, rfl, cp, by rw [List.length_map]; omega, by rw [List.length_map, List.length_drop]; omega, s1, fun v e G' s' => ?_, fun e e2 G' s' => ?_, fun e e2 => ⟨_, _, ht p _ cp (by rw [List.length_append, List.length_drop]; omega), .inr ⟨_, rfl, vd p, fun G' s' => ?_⟩⟩⟩
    · have hm : p ∈ l := Classical.byContradiction fun z => by rw [show prL w.τ l = _ from rfl, e1, if_neg z] at e; cases e
      rw [show prL w.τ l = _ from rfl, e1, if_pos hm] at e
      cases e
      refine h1 _ G' (if_neg fun z => z.1 hm) ?_
      rw [askM, if_neg fun z => z.1 hm, askL, if_pos hm]
      exact s'.mkBun
    · have hm : p ∉ l := fun z => by rw [show prL w.τ l = _ from rfl, e1, if_pos z] at e; cases e
      rw [List.length_map, List.length_drop, Int.ofNat_sub hk] at e2
      refine h2 _ _ G' (if_pos ⟨hm, e2⟩) ?_
      rw [askM, if_pos ⟨hm, e2⟩]
      exact s'.mkBun
    · have hm : p ∉ l := fun z => by rw [show prL w.τ l = _ from rfl, e1, if_pos z] at e; cases e
      rw [List.length_map, List.length_drop, Int.ofNat_sub hk] at e2
      refine h1 _ G' (if_neg fun z => e2 z.2) ?_
      rw [askM, if_neg fun z => e2 z.2, askL_drop hk hm, askL, if_neg hm, prL_snoc, prL_snoc, ← List.append_assoc]
      exact s'.mkBun
end LF
/-! LF49: halving comes to a least one, within few calls -/
namespace LF
open PySem PySem.Spec PyProof.Rows L2
def potT : Nat → Nat
  | 0 => 0
  | m + 1 => potT m + 6 * (m + 1)
theorem potT_eq : ∀ m, potT m = 3 * m * (m + 1)
  | 0 => rfl
  | m + 1 => by
    rw [potT, potT_eq m]
    have e1 : 3 * (m + 1) * (m + 1 + 1) = 3 * (m * (m + 1)) + 6 * (m + 1) := by
      rw [Nat.mul_assoc, Nat.mul_add (m + 1) (m + 1) 1, Nat.add_mul m 1 (m + 1)]
      omega
    rw [e1, Nat.mul_assoc]
theorem potT_mono {a b : Nat} (h : a ≤ b) : potT a ≤ potT b := by
  induction h with
  | refl => exact Nat.le_refl _
  | step _ ih => rw [potT]; omega
theorem potT_pred {m : Nat} (h : 0 < m) : potT m = potT (m - 1) + 6 * m := by
  obtain ⟨k, rfl⟩ : ∃ k, m = k + 1 := ⟨m - 1, by omega⟩
  rfl
def potA (c m : Nat) : Nat := if c < m then 6 * m - 4 * c else 0
def pot (s : Hs) : Nat := match s.st with
  | .empty => 1 + potT s.now.length
  | .parts => 2 * s.cuts - s.place + potA s.cuts s.now.length + potT (s.now.length - 1)
  | .rests => s.cuts - s.place + potA s.cuts s.now.length + potT (s.now.length - 1)
  | .over => 0
theorem pot_begin {p : Cf} {c : Nat} (h : 1 < p.length → 2 ≤ c ∧ c ≤ p.length) : pot (beginS p c) ≤ potT p.length := by
  unfold pot beginS
  by_cases e : 1 < p.length
  · rw [if_pos e]
    dsimp only
    obtain ⟨h1, h2⟩ := h e
    rw [potT_pred (m := p.length) (by omega)]
    unfold potA
    split <;> omega
  · rw [if_neg e]
    exact Nat.zero_le _
theorem pot_nothing {s : Hs} (h1 : 2 ≤ s.cuts) (h2 : s.cuts ≤ s.now.length) (hs : s.st = .parts ∨ s.st = .rests) : pot (nothingS s) ≤ (if s.st = .parts then s.cuts else 0) + potA s.cuts s.now.length + potT (s.now.length - 1) := by
  unfold nothingS
  by_cases e : s.st = .parts ∧ 2 < s.cuts
  · rw [if_pos e, if_pos e.1]
    show s.cuts - 0 + potA s.cuts s.now.length + potT (s.now.length - 1) ≤ _
    omega
  · rw [if_neg e]
    by_cases e2 : s.cuts < s.now.length
    · rw [if_pos e2]
      have e3 : 1 < s.now.length := by omega
      have : pot (beginS s.now (min (2 * s.cuts) s.now.length)) = 2 * (min (2 * s.cuts) s.now.length) - 0 + potA (min (2 * s.cuts) s.now.length) s.now.length + potT (s.now.length - 1) := by
        unfold beginS
        rw [if_pos e3]
        rfl
      rw [this]
      unfold potA
      rw [if_pos e2]
      by_cases e4 : 2 * s.cuts < s.now.length
      · rw [Nat.min_eq_left (by omega), if_pos e4]
        omega
      · rw [Nat.min_eq_right (by omega), if_neg (Nat.lt_irrefl _)]
        omega
    · rw [if_neg e2]
      exact Nat.zero_le _
theorem pot_take {s : Hs} (ok : s.Ok) (n : s.st ≠ .over) (fl : Bool) : pot (takeS s fl) + 1 ≤ pot s := by
  have mid := ok.k
  unfold Hs.Mid at mid
  unfold takeS
  by_cases e1 : s.st = .empty
  · rw [if_pos e1]
    have : pot s = 1 + potT s.now.length := by unfold pot; rw [e1]
    rw [this]
    cases fl
    · have := pot_begin (p := s.now) (c := 2) (fun h => ⟨Nat.le_refl _, h⟩)
      show pot (beginS s.now 2) + 1 ≤ _
      omega
    · show pot (beginS [] 2) + 1 ≤ _
      have : pot (beginS [] 2) = 0 := rfl
      omega
  · rw [if_neg e1]
    have hs : s.st = .parts ∨ s.st = .rests := by
      revert e1 n
      cases s.st <;> simp
    obtain ⟨c1, c2, c3⟩ : 2 ≤ s.cuts ∧ s.cuts ≤ s.now.length ∧ s.place < s.cuts := by
      rcases hs with h | h <;> rw [h] at mid <;> dsimp only at mid <;> omega
    have lo : 1 + potT (s.now.length - 1) ≤ pot s := by
      rcases hs with h | h <;> (unfold pot; rw [h]; dsimp only; omega)
    cases fl
    · rw [if_neg Bool.false_ne_true]
      by_cases e2 : s.place + 1 = s.cuts
      · rw [if_pos e2]
        have := pot_nothing (s := { s with place := s.place + 1 }) c1 c2 hs
        dsimp only at this
        refine Nat.le_trans (Nat.add_le_add_right this 1) ?_
        rcases hs with h | h
        · rw [if_pos h]; unfold pot; rw [h]; dsimp only; omega
        · rw [if_neg (by rw [h]; decide)]; unfold pot; rw [h]; dsimp only; omega
      · rw [if_neg e2]
        rcases hs with h | h <;> (unfold pot; dsimp only; rw [h]; dsimp only; omega)
    · rw [if_pos rfl]
      have lt : s.upc.length < s.now.length := by
        unfold Hs.upc
        rcases hs with h | h <;> rw [h] <;> dsimp only
        · exact part_lt c3 c2 c1
        · exact rest_lt c3 c2
      have b := pot_begin (p := s.upc) (c := if s.st = .parts then 2 else s.cuts - 1) (fun h => by
        rcases hs with h' | h'
        · rw [if_pos h']; omega
        · rw [if_neg (by rw [h']; decide)]; exact ok.rest_cfg h')
      have := potT_mono (show s.upc.length ≤ s.now.length - 1 by omega)
      omega
theorem steps_end (τ : Cf → Str) : ∀ (k : Nat) (s : Hs), pot s ≤ k → s.Ok → ∃ l s', Steps τ s l s' ∧ s'.st = .over ∧ l.length ≤ pot s
  | k, s, hk, ok => by
    by_cases e : s.st = .over
    · exact ⟨[], s, .nil, e, Nat.zero_le _⟩
    · have h := pot_take ok e (flB τ s.upc)
      cases k with
      | zero => omega
      | succ k =>
        obtain ⟨l, s', h1, h2, h3⟩ := steps_end τ k _ (by omega) (ok.take e (flB τ s.upc))
        exact ⟨_, s', .cons e h1, h2, by rw [List.length_cons]; omega⟩
/-! ### none less fails -/
def LeastB (τ : Cf → Str) (p : Cf) : Prop := τ p = "fail" ∧ ∀ k, k < p.length → τ (p.eraseIdx k) ≠ "fail"
def HInv (τ : Cf → Str) (s : Hs) : Prop := match s.st with
  | .empty => τ s.now = "fail"
  | .parts => τ s.now = "fail" ∧ τ [] ≠ "fail" ∧ ∀ j, j < s.place → τ (partN s.now s.cuts j) ≠ "fail"
  | .rests => τ s.now = "fail" ∧ τ [] ≠ "fail" ∧ ∀ j, j < s.place → τ (lessL s.now (partN s.now s.cuts j)) ≠ "fail"
  | .over => LeastB τ s.now
theorem inv_begin {τ : Cf → Str} {p : Cf} {c : Nat} (h1 : τ p = "fail") (h2 : p = [] ∨ τ [] ≠ "fail") : HInv τ (beginS p c) := by
  unfold beginS
  by_cases e : 1 < p.length
  · rw [if_pos e]
    exact ⟨h1, h2.resolve_left (fun z => by rw [z] at e; exact absurd e (by decide)), fun j hj => absurd hj (Nat.not_lt_zero _)⟩
  · rw [if_neg e]
    refine ⟨h1, fun k hk => ?_⟩
    dsimp only at hk ⊢
    obtain ⟨x, rfl⟩ : ∃ x, p = [x] := List.length_eq_one_iff.mp (by omega)
    have : k = 0 := by simp at hk; omega
    subst this
    exact h2.resolve_left (fun z => nomatch z)
theorem part_one {ns : Cf} {i : Nat} (h : i < ns.length) : partN ns ns.length i = [ns[i]] := by
  have e : ∀ j, cutAt ns.length ns.length j = j := fun j => by unfold cutAt; exact Nat.mul_div_cancel _ (by omega)
  unfold partN cutN
  rw [e, e, show i + 1 - i = 1 by omega, List.drop_eq_getElem_cons h]
  rfl
theorem rest_one {ns : Cf} {i : Nat} (nd : ns.Nodup) (h : i < ns.length) : lessL ns (partN ns ns.length i) = ns.eraseIdx i := by
  rw [part_one h]
  unfold lessL
  rw [← filt_erase nd (List.getElem?_eq_getElem h)]
  refine List.filter_congr fun x _ => ?_
  simp
theorem inv_take {τ : Cf → Str} {s : Hs} (ok : s.Ok) (n : s.st ≠ .over) (h : HInv τ s) : HInv τ (takeS s (flB τ s.upc)) := by
  have mid := ok.k
  unfold Hs.Mid at mid
  have nd := ok.c.nodup
  unfold takeS
  by_cases e1 : s.st = .empty
  · rw [if_pos e1]
    have hf : τ s.now = "fail" := by unfold HInv at h; rw [e1] at h; exact h
    have eu : s.upc = [] := by unfold Hs.upc; rw [e1]
    rw [eu]
    unfold flB
    by_cases e2 : τ [] = "fail"
    · rw [decide_eq_true e2]
      exact inv_begin e2 (.inl rfl)
    · rw [decide_eq_false e2]
      exact inv_begin hf (.inr e2)
  · rw [if_neg e1]
    by_cases e2 : τ s.upc = "fail"
    · unfold flB
      rw [decide_eq_true e2, if_pos rfl]
      refine inv_begin e2 (.inr ?_)
      unfold HInv at h
      revert h e1 n
      cases s.st
      · exact fun _ _ z => absurd rfl z
      · exact fun _ z _ => z.2.1
      · exact fun _ z _ => z.2.1
      · exact fun z _ _ => absurd rfl z
    · unfold flB
      rw [decide_eq_false e2, if_neg Bool.false_ne_true]
      have hs : s.st = .parts ∨ s.st = .rests := by
        revert e1 n
        cases s.st <;> simp
      rcases hs with h' | h'
      · unfold HInv at h
        rw [h'] at mid h
        dsimp only at mid h
        have eu : s.upc = partN s.now s.cuts s.place := by unfold Hs.upc; rw [h']; rfl
        rw [eu] at e2
        obtain ⟨a, b, c⟩ := h
        have c' : ∀ j, j < s.place + 1 → τ (partN s.now s.cuts j) ≠ "fail" := fun j hj => by
          by_cases z : j = s.place
          · rw [z]; exact e2
          · exact c j (by omega)
        by_cases e3 : s.place + 1 = s.cuts
        · rw [if_pos e3]
          unfold nothingS
          dsimp only
          by_cases e4 : s.st = .parts ∧ 2 < s.cuts
          · rw [if_pos e4]
            exact ⟨a, b, fun j hj => absurd hj (Nat.not_lt_zero _)⟩
          · rw [if_neg e4]
            by_cases e5 : s.cuts < s.now.length
            · rw [if_pos e5]
              exact inv_begin a (.inr b)
            · rw [if_neg e5]
              refine ⟨a, fun k hk => ?_⟩
              dsimp only at hk ⊢
              have c2 : s.cuts = 2 := Nat.le_antisymm (Nat.not_lt.mp fun z => e4 ⟨h', z⟩) mid.1
              have l2 : s.now.length = 2 := by omega
              have q0 := c' 0 (by omega)
              have q1 := c' 1 (by omega)
              rw [c2] at q0 q1
              clear c' eu e2 c a mid nd ok
              have q : ∀ ns : Cf, ns.length = 2 → τ (partN ns 2 0) ≠ "fail" → τ (partN ns 2 1) ≠ "fail" → τ (ns.eraseIdx k) ≠ "fail" := fun ns hn p0 p1 => by
                match ns, hn with
                | [u, v], _ =>
                  rw [show partN [u, v] 2 0 = [u] from part_one (ns := [u, v]) (i := 0) (by simp)] at p0
                  rw [show partN [u, v] 2 1 = [v] from part_one (ns := [u, v]) (i := 1) (by simp)] at p1
                  rcases (by omega : k = 0 ∨ k = 1) with rfl | rfl
                  · exact p1
                  · exact p0
              exact q _ l2 q0 q1
        · rw [if_neg e3]
          unfold HInv
          dsimp only
          rw [h']
          exact ⟨a, b, c'⟩
      · unfold HInv at h
        rw [h'] at mid h
        dsimp only at mid h
        have eu : s.upc = lessL s.now (partN s.now s.cuts s.place) := by unfold Hs.upc; rw [h']; rfl
        rw [eu] at e2
        obtain ⟨a, b, c⟩ := h
        have c' : ∀ j, j < s.place + 1 → τ (lessL s.now (partN s.now s.cuts j)) ≠ "fail" := fun j hj => by
          by_cases z : j = s.place
          · rw [z]; exact e2
          · exact c j (by omega)
        by_cases e3 : s.place + 1 = s.cuts
        · rw [if_pos e3]
          unfold nothingS
          dsimp only
          rw [if_neg (fun z => by rw [h'] at z; exact absurd z.1 (by decide))]
          by_cases e5 : s.cuts < s.now.length
          · rw [if_pos e5]
            exact inv_begin a (.inr b)
          · rw [if_neg e5]
            refine ⟨a, fun k hk => ?_⟩
            dsimp only at hk ⊢
            have c2 : s.cuts = s.now.length := by omega
            have q := c' k (by omega)
            rw [c2, rest_one nd hk] at q
            exact q
        · rw [if_neg e3]
          unfold HInv
          dsimp only
          rw [h']
          exact ⟨a, b, c'⟩
theorem steps_inv {τ : Cf → Str} {s s' : Hs} {l : List Cf} (st : Steps τ s l s') : s.Ok → HInv τ s → HInv τ s' := by
  induction st with
  | nil => exact fun _ h => h
  | cons n _ ih => exact fun ok h => ih (ok.take n _) (inv_take ok n h)
theorem steps_now {τ : Cf → Str} {s s' : Hs} {l : List Cf} {p : Cf} (st : Steps τ s l s') : s.now.Sublist p → s'.now.Sublist p := by
  induction st with
  | nil => exact id
  | cons n _ ih => exact fun h => ih (take_sub h)
/-! ### the way by halves, all being called -/
section
variable {C : Addr} {Cs : SpB} {cs : List CandF} {n : NW} {Tl : Addr → (Cf → Str) → Ass} {w : TrV} {hp : w.pre.length ≤ 40000} {vd : ∀ p, vdS (w.τ p)} {ht : ∀ (p : Cf) (log : List Cf), Cfg p 120 → log.length ≤ 100000 → TestG cs w.g p (TeT n Tl w.toTrW log) (.val (.str (w.τ p))) (TeT n Tl w.toTrW (log ++ [p]))}
theorem tot_to {l : List Cf} {p : Cf} (h : ((askL l p).length : Int) ≤ w.m + w.k) : askM w l p = askL l p ∧ askO Cs w l p = .val (.str (w.τ p)) := by
  have : ¬ (p ∉ l ∧ (l.length : Int) - w.k = w.m) := fun ⟨a, b⟩ => by
    unfold askL at h
    rw [if_neg a, List.length_append] at h
    simp at h
    omega
  exact ⟨if_neg this, if_neg this⟩
end
/-- trials of a test, nothing being known from the first -/
abbrev w0 (t g lg f : Addr) (m : Int) (τ : Cf → Str) : TrV := ⟨⟨t, g, lg, f, m, τ⟩, 0, []⟩
theorem askAll_in : ∀ {l cs : List Cf}, (∀ p ∈ l, p ∈ cs) → askAll cs l = cs
  | [], cs, _ => rfl
  | p :: l, cs, h => by
    show askAll (askL cs p) l = cs
    rw [askL, if_pos (h p List.mem_cons_self)]
    exact askAll_in fun q hq => h q (List.mem_cons_of_mem _ hq)
/-! ### halved, in a world -/
end LF
/-! LF50: cutting down, one by one -/
namespace LF
open PySem PySem.Spec PyProof.Rows L2
/-! ### in a world -/
end LF
/-! LF51: halvings in a world; what was known is not asked -/
namespace LF
open PySem PySem.Spec PyProof.Rows L2
theorem steps_len {τ : Cf → Str} {s s' : Hs} {l : List Cf} (st : Steps τ s l s') : s.Ok → l.length ≤ pot s := by
  induction st with
  | nil => exact fun _ => Nat.zero_le _
  | @cons s s' l n _ ih =>
    intro ok
    have := ih (ok.take n _)
    have := pot_take ok n (flB τ s.upc)
    rw [List.length_cons]
    omega
/-- what a whole way comes to -/
theorem way_end {τ : Cf → Str} {p : Cf} {s' : Hs} {l : List Cf} (cp : Cfg p 120) (hf : τ p = "fail") (st : Steps τ ⟨.empty, p, 2, 0⟩ l s') (ov : s'.st = .over) : l.length ≤ 1 + 3 * p.length * (p.length + 1) ∧ LeastB τ s'.now ∧ s'.now.Sublist p ∧ ∀ q ∈ l, q.Sublist p := by
  have ok : Hs.Ok ⟨.empty, p, 2, 0⟩ := ⟨cp, trivial⟩
  have h3 := steps_len st ok
  have inv := steps_inv st ok hf
  unfold HInv at inv
  rw [ov] at inv
  refine ⟨?_, inv, steps_now st (List.Sublist.refl _), st.sub (List.Sublist.refl _)⟩
  rw [← potT_eq]
  exact h3
end LF
/-! LF52: cells of a def lent to a call: functions made within it may be called there -/
namespace LF
open PySem PySem.Spec PyProof.Rows L2 LamX
/-- slots whose names are captured: their cells -/
structure Ln (X : Cx) (cjs : List (Addr × Nat)) : Prop where
  at_ : ∀ p ∈ cjs, ∃ y, X.N[p.2]? = some y ∧ X.env.cells.lookup y = some p.1 ∧ X.env.scope.names.lookup y = some .cell ∧ X.fn y = true
  nd : (cjs.map (·.1)).Nodup
def Asg (cjs : List (Addr × Nat)) (σ : SW) : Prop := ∀ p ∈ cjs, ∃ w, σ[p.2]? = some (some w)
/-- sp, the cells being lent -/
def spL (cjs : List (Addr × Nat)) (σ : SW) (sp : SpW) : SpW := fun ws G q x => Asg cjs σ ∧ ((∀ p ∈ cjs, G p.1 = none) → sp ws (layS cjs σ G) (fun w G' => q w (dropG (cjs.map (·.1)) G')) fun cls fs G' => x cls fs (dropG (cjs.map (·.1)) G'))
section
variable {X : Cx} {Wx : WX} {k n : Nat} {f : Addr} {fd : FuncData} {ps ks : List Str} {sp : SpW} {sel : List Sel} {dws : List Wv} {cjs : List (Addr × Nat)} {x : Str} {p pos : Pos} {e : Expr} {es : List Expr} {tl tk : AT} {kws : List Keyword}
/-- f(..), the cells being lent -/
def eCallL (cjs : List (Addr × Nat)) (n m : Nat) (sel : List Sel) (dws : List Wv) (sp : SpW) (tl tk : AT) : ET := fun x σ G q => eCall n m sel dws (spL cjs σ sp) tl tk x σ G q
end
section
variable {x : XW} {σ : SW} {G : HW} {q : WK} {cjs : List (Addr × Nat)} {n m : Nat} {sel : List Sel} {dws : List Wv} {sp : SpW} {tl tk : AT}
theorem m_CallL : eCallL cjs n m sel dws sp tl tk x σ G q = tl x σ G (kC1 n m sel dws (spL cjs σ sp) tk x σ q) := rfl
end
end LF
/-! LF53: what is needed, by halves -/
namespace LF
open PySem PySem.Spec PyProof.Rows L2
/-- the numbers of both -/
def unL (a b : Cf) : Cf := (rgN 0 120).filter fun i => decide (i ∈ a) || decide (i ∈ b)
def needR (τ : Cf → Str) : Nat → Cf → Cf → Cf × List Cf
  | 0, _, _ => ([], [])
  | n + 1, held, parts => if τ held = "fail" then ([], [held]) else if parts.length = 1 then (parts, [held]) else
    ((needR τ n (unL held (needR τ n (unL held (parts.take (parts.length / 2))) (parts.drop (parts.length / 2))).1) (parts.take (parts.length / 2))).1 ++ (needR τ n (unL held (parts.take (parts.length / 2))) (parts.drop (parts.length / 2))).1,
      held :: ((needR τ n (unL held (parts.take (parts.length / 2))) (parts.drop (parts.length / 2))).2 ++ (needR τ n (unL held (needR τ n (unL held (parts.take (parts.length / 2))) (parts.drop (parts.length / 2))).1) (parts.take (parts.length / 2))).2))
/-- the turn of one that is parted -/
structure Deep (τ : Cf → Str) (n : Nat) (held parts l r a b : Cf) (la lb : List Cf) : Prop where
  dl : l = parts.take (parts.length / 2)
  dr : r = parts.drop (parts.length / 2)
  da : needR τ n (unL held l) r = (a, la)
  db : needR τ n (unL held a) l = (b, lb)
theorem Deep.app {τ : Cf → Str} {n : Nat} {held parts l r a b : Cf} {la lb : List Cf} (d : Deep τ n held parts l r a b la lb) : l ++ r = parts := by rw [d.dl, d.dr, List.take_append_drop]
/-! ### of a monotone test: as leaving out goes -/
/-! ### in a world -/
/-! ### words of what is made within a def, further in -/
end LF
/-! LF54: tests told by what stands -/
namespace LF
open PySem PySem.Spec PyProof.Rows L2
local macro_rules | `(tactic| walk_at "pull") => `(tactic| first
  | exact Pull.head | exact Pull.tail Pull.head | exact Pull.tail (Pull.tail Pull.head) | exact Pull.tail (Pull.tail (Pull.tail Pull.head))
  | exact Pull.tail (Pull.tail (Pull.tail (Pull.tail Pull.head))) | exact Pull.tail (Pull.tail (Pull.tail (Pull.tail (Pull.tail Pull.head))))
  | exact Pull.tail (Pull.tail (Pull.tail (Pull.tail (Pull.tail (Pull.tail Pull.head))))) | exact Pull.tail (Pull.tail (Pull.tail (Pull.tail (Pull.tail (Pull.tail (Pull.tail Pull.head))))))
  | exact Pull.tail (Pull.tail (Pull.tail (Pull.tail (Pull.tail (Pull.tail (Pull.tail (Pull.tail Pull.head))))))) | exact Pull.tail (Pull.tail (Pull.tail (Pull.tail (Pull.tail (Pull.tail (Pull.tail (Pull.tail (Pull.tail Pull.head)))))))))
local macro_rules | `(tactic| walk_at "putp") => `(tactic| first
  | exact Put.head | exact Put.tail Put.head | exact Put.tail (Put.tail Put.head) | exact Put.tail (Put.tail (Put.tail Put.head))
  | exact Put.tail (Put.tail (Put.tail (Put.tail Put.head))) | exact Put.tail (Put.tail (Put.tail (Put.tail (Put.tail Put.head))))
  | exact Put.tail (Put.tail (Put.tail (Put.tail (Put.tail (Put.tail Put.head))))) | exact Put.tail (Put.tail (Put.tail (Put.tail (Put.tail (Put.tail (Put.tail Put.head))))))
  | exact Put.tail (Put.tail (Put.tail (Put.tail (Put.tail (Put.tail (Put.tail (Put.tail Put.head))))))))
local macro_rules | `(tactic| walk_at "sepm") => `(tactic| repeat (first | exact Sub.refl | refine Sub.pull (by walk_at "pull") ?_))
section
variable {n0 nw n : NW} {ft : Option Addr} {f c L : Addr} {τ : Cf → Str} {cs : List CandF} {cores : List Cf}
/-- f tells τ where A stands -/
def Tells (cs : List CandF) (f : Addr) (τ : Cf → Str) (A : Ass) : Prop := ∀ p : Cf, Cfg p 120 → TestG cs f p A (.val (.str (τ p))) A
end
end LF
/-! LF55: the way by halves with what stood at each asking; several halvings over one trials -/
namespace LF
open PySem PySem.Spec PyProof.Rows L2
local macro_rules | `(tactic| walk_at "pull") => `(tactic| first
  | exact Pull.head | exact Pull.tail Pull.head | exact Pull.tail (Pull.tail Pull.head) | exact Pull.tail (Pull.tail (Pull.tail Pull.head))
  | exact Pull.tail (Pull.tail (Pull.tail (Pull.tail Pull.head))) | exact Pull.tail (Pull.tail (Pull.tail (Pull.tail (Pull.tail Pull.head))))
  | exact Pull.tail (Pull.tail (Pull.tail (Pull.tail (Pull.tail (Pull.tail Pull.head))))) | exact Pull.tail (Pull.tail (Pull.tail (Pull.tail (Pull.tail (Pull.tail (Pull.tail Pull.head))))))
  | exact Pull.tail (Pull.tail (Pull.tail (Pull.tail (Pull.tail (Pull.tail (Pull.tail (Pull.tail Pull.head))))))) | exact Pull.tail (Pull.tail (Pull.tail (Pull.tail (Pull.tail (Pull.tail (Pull.tail (Pull.tail (Pull.tail Pull.head)))))))))
local macro_rules | `(tactic| walk_at "putp") => `(tactic| first
  | exact Put.head | exact Put.tail Put.head | exact Put.tail (Put.tail Put.head) | exact Put.tail (Put.tail (Put.tail Put.head))
  | exact Put.tail (Put.tail (Put.tail (Put.tail Put.head))) | exact Put.tail (Put.tail (Put.tail (Put.tail (Put.tail Put.head))))
  | exact Put.tail (Put.tail (Put.tail (Put.tail (Put.tail (Put.tail Put.head))))) | exact Put.tail (Put.tail (Put.tail (Put.tail (Put.tail (Put.tail (Put.tail Put.head))))))
  | exact Put.tail (Put.tail (Put.tail (Put.tail (Put.tail (Put.tail (Put.tail (Put.tail Put.head))))))))
local macro_rules | `(tactic| walk_at "sepm") => `(tactic| repeat (first | exact Sub.refl | refine Sub.pull (by walk_at "pull") ?_))
inductive StepsW (τ : Cf → Str) : Hs → List Wy → Hs → Prop
  | nil {s : Hs} : StepsW τ s [] s
  | cons {s s' : Hs} {l : List Wy} : s.st ≠ .over → StepsW τ (takeS s (flB τ s.upc)) l s' → StepsW τ s ((s.upc, s.now, s.cuts) :: l) s'
section
variable {τ : Cf → Str} {s s' a b c : Hs} {l m : List Wy}
theorem StepsW.app (h : StepsW τ a l b) (k : StepsW τ b m c) : StepsW τ a (l ++ m) c := by
  induction h with
  | nil => exact k
  | cons n _ ih => exact .cons n (ih k)
theorem StepsW.one (n : s.st ≠ .over) : StepsW τ s [(s.upc, s.now, s.cuts)] (takeS s (flB τ s.upc)) := .cons n .nil
theorem StepsW.steps (h : StepsW τ s l s') : Steps τ s (l.map (·.1)) s' := by
  induction h with
  | nil => exact .nil
  | cons n _ ih => exact .cons n ih
end
/-! ### gone part of the way -/
section
variable {C : Addr} {Cs : SpB} {cs : List CandF} {n : NW} {Tl : Addr → (Cf → Str) → Ass} {w : TrV} {hp : w.pre.length ≤ 40000} {vd : ∀ p, vdS (w.τ p)} {ht : ∀ (p : Cf) (log : List Cf), Cfg p 120 → log.length ≤ 100000 → TestG cs w.g p (TeT n Tl w.toTrW log) (.val (.str (w.τ p))) (TeT n Tl w.toTrW (log ++ [p]))}
theorem go_row {c a : Nat} {s s' : Hs} {l : List Wy} (st : StepsW w.τ s l s') (ov : s'.st = .over) : ∀ {z : List Cf}, w.k ≤ z.length → (askAll z (l.map (·.1))).length ≤ 50000 → ((askAll z (l.map (·.1))).length : Int) ≤ w.m + w.k → z.length ≤ a + c + w.k →
    ∃ (l1 l2 : List Wy) (s1 : Hs) (b : Bool), l = l1 ++ l2 ∧ StepsW w.τ s l1 s1 ∧ StepsW w.τ s1 l2 s' ∧ Go (totW C Cs cs n Tl w hp vd ht) c a l1.length s z s1 (askAll z (l1.map (·.1))) (.val (.bl b)) ∧ (askAll z (l1.map (·.1))).length ≤ a + c + w.k ∧
      (b = true → l2 = [] ∧ s1 = s') ∧ (b = false → s1.st ≠ .over ∧ (askAll z (l1.map (·.1))).length = a + c + w.k ∧ ∃ l3, l2 = (s1.upc, s1.now, s1.cuts) :: l3 ∧ s1.upc ∉ askAll z (l1.map (·.1))) := by
  induction st with
  | @nil s => exact fun h1 h2 _ h4 => ⟨[], [], s, true, rfl, .nil, .nil, .over ⟨h1, h2⟩ ov, h4, fun _ => ⟨rfl, rfl⟩, fun z => by cases z⟩
  | @cons s s'' l e st ih =>
    intro z h1 h2 h3 h4
    have le : (askL z s.upc).length ≤ (askAll z (s.upc :: l.map (·.1))).length := askAll_le (l := l.map (·.1))
    have le0 := askL_le (cs := z) (p := s.upc)
    obtain ⟨e1, e2⟩ := tot_to (Cs := Cs) (w := w) (l := z) (p := s.upc) (by
      have : (askAll z (((s.upc, s.now, s.cuts) :: l : List Wy).map (·.1))) = askAll z (s.upc :: l.map (·.1)) := rfl
      rw [this] at h3
      omega)
    have kn : lkR (prL w.τ z) s.upc = none ↔ s.upc ∉ z := by
      have := lkR_map (τ := w.τ) z s.upc
      by_cases hm : s.upc ∈ z
      · rw [if_pos hm] at this
        exact ⟨fun y => absurd (this.symm.trans y) (fun y => nomatch y), fun y => absurd hm y⟩
      · rw [if_neg hm] at this
        exact ⟨fun _ => hm, fun _ => this⟩
    by_cases hs : s.upc ∉ z ∧ a + c ≤ z.length - w.k
    · exact ⟨[], (s.upc, s.now, s.cuts) :: l, s, false, rfl, .nil, .cons e st, .stop ⟨h1, by
        have : (askAll z (((s.upc, s.now, s.cuts) :: l : List Wy).map (·.1))) = askAll z (s.upc :: l.map (·.1)) := rfl
        rw [this] at h2
        omega⟩ e (kn.mpr hs.1) hs.2, h4, (fun y => by cases y), fun _ => ⟨e, (by have := hs.2; show z.length = _; omega), l, rfl, hs.1⟩⟩
    · have h2' : (askAll (askL z s.upc) (l.map (·.1))).length ≤ 50000 := h2
      have h3' : ((askAll (askL z s.upc) (l.map (·.1))).length : Int) ≤ w.m + w.k := h3
      obtain ⟨l1, l2, s1, b, q1, q2, q3, q4, q5, q6, q7⟩ := ih ov (z := askL z s.upc) (by omega) h2' h3' (by
        by_cases hm : s.upc ∈ z
        · unfold askL; rw [if_pos hm]; exact h4
        · have : ¬ (a + c ≤ z.length - w.k) := fun y => hs ⟨hm, y⟩
          unfold askL
          rw [if_neg hm, List.length_append, List.length_singleton]
          omega)
      refine ⟨(s.upc, s.now, s.cuts) :: l1, l2, s1, b, by rw [q1]; rfl, .cons e q2, q3, .step (v := w.τ s.upc) ⟨h1, ?_⟩ e (fun e3 => Nat.not_le.mp fun y => hs ⟨kn.mp e3, y⟩) e2 ?_, q5, q6, q7⟩
      · have : (askL z s.upc).length ≤ (askAll (askL z s.upc) (l.map (·.1))).length := askAll_le
        omega
      · rw [show (totW C Cs cs n Tl w hp vd ht).to z s.upc = askL z s.upc from e1]
        exact q4
end
/-! ### where it stands, by what was asked -/
def whereR (seen : List Cf) : List Wy → Cf → Nat → Cf × Nat × Bool
  | [], e, c => (e, c, true)
  | r :: l, e, c => if r.1 ∈ seen then whereR seen l e c else (r.2.1, r.2.2, false)
theorem where_app {seen : List Cf} {e : Cf} {c : Nat} : ∀ {A B : List Wy}, (∀ r ∈ A, r.1 ∈ seen) → whereR seen (A ++ B) e c = whereR seen B e c
  | [], _, _ => rfl
  | r :: A, B, h => by
    show (if r.1 ∈ seen then whereR seen (A ++ B) e c else _) = _
    rw [if_pos (h r List.mem_cons_self), where_app fun r hr => h r (List.mem_cons_of_mem _ hr)]
/-- a halving begun at p, its whole way being W -/
structure Hd (τ : Cf → Str) (z : List Cf) (p : Cf) (W : List Wy) (e : Cf) (c : Nat) (s : Hs) : Prop where
  way : ∃ (A B : List Wy) (s' : Hs), W = A ++ B ∧ StepsW τ ⟨.empty, p, 2, 0⟩ A s ∧ StepsW τ s B s' ∧ s'.st = .over ∧ s'.now = e ∧ s'.cuts = c ∧ ∀ r ∈ A, r.1 ∈ z
  cf : Cfg p 120
  st : p ∈ z
section
variable {τ : Cf → Str} {z z' : List Cf} {p e : Cf} {W : List Wy} {c : Nat} {s : Hs}
theorem Hd.mono (h : Hd τ z p W e c s) (m : ∀ q ∈ z, q ∈ z') : Hd τ z' p W e c s :=
  let ⟨A, B, s', h1, h2, h3, h4, h5, h6, h7⟩ := h.way
  ⟨⟨A, B, s', h1, h2, h3, h4, h5, h6, fun r hr => m _ (h7 r hr)⟩, h.cf, m _ h.st⟩
theorem steps_ok {τ : Cf → Str} {s s' : Hs} {l : List Cf} (st : Steps τ s l s') : s.Ok → s'.Ok := by
  induction st with
  | nil => exact id
  | cons n _ ih => exact fun h => ih (h.take n _)
theorem Hd.ok (h : Hd τ z p W e c s) : s.Ok := by
  obtain ⟨A, B, s', h1, h2, h3, h4, h5, h6, h7⟩ := h.way
  exact steps_ok h2.steps ⟨h.cf, trivial⟩
theorem take_cuts {s : Hs} {fl : Bool} (h : s.Ok) (k : s.cuts ≤ 240) : (takeS s fl).cuts ≤ 240 := by
  have := h.c.1
  unfold takeS nothingS beginS
  repeat' split
  all_goals dsimp only
  all_goals omega
theorem steps_cuts {τ : Cf → Str} {s s' : Hs} {l : List Cf} (st : Steps τ s l s') : s.Ok → s.cuts ≤ 240 → s'.cuts ≤ 240 := by
  induction st with
  | nil => exact fun _ h => h
  | cons n _ ih => exact fun h k => ih (h.take n _) (take_cuts h k)
theorem Hd.cuts (h : Hd τ z p W e c s) : s.cuts ≤ 240 := by
  obtain ⟨A, B, s', h1, h2, h3, h4, h5, h6, h7⟩ := h.way
  exact steps_cuts h2.steps ⟨h.cf, trivial⟩ (by dsimp only; omega)
end
section
variable {C : Addr} {Cs : SpB} {cs : List CandF} {n : NW} {Tl : Addr → (Cf → Str) → Ass} {w : TrV} {hp : w.pre.length ≤ 40000} {vd : ∀ p, vdS (w.τ p)} {ht : ∀ (p : Cf) (log : List Cf), Cfg p 120 → log.length ≤ 100000 → TestG cs w.g p (TeT n Tl w.toTrW log) (.val (.str (w.τ p))) (TeT n Tl w.toTrW (log ++ [p]))}
  {z : List Cf} {p e : Cf} {W : List Wy} {c : Nat} {s : Hs}
/-- one going: at most c calls more -/
theorem Hd.go (h : Hd w.τ z p W e c s) (k : Nat) (h1 : w.k ≤ z.length) (h2 : (askAll z (W.map (·.1))).length ≤ 50000) (h3 : ((askAll z (W.map (·.1))).length : Int) ≤ w.m + w.k) :
    ∃ (l1 : List Cf) (m : Nat) (s1 : Hs) (b : Bool), (∀ q ∈ l1, q ∈ W.map (·.1)) ∧ Go (totW C Cs cs n Tl w hp vd ht) k (z.length - w.k) m s z s1 (askAll z l1) (.val (.bl b)) ∧ Hd w.τ (askAll z l1) p W e c s1 ∧ (askAll z l1).length ≤ z.length + k ∧ b = decide (s1.st = .over) ∧ (b = false → (askAll z l1).length = z.length + k) ∧
      (b = true → s1.now = e) ∧ ∀ seen : List Cf, (∀ q, q ∈ seen ↔ q ∈ askAll z l1) → whereR seen W e c = (s1.now, s1.cuts, b) := by
  obtain ⟨A, B, s', rfl, q2, q3, q4, q5, q6, q7⟩ := h.way
  have eA : askAll z ((A ++ B).map (·.1)) = askAll z (B.map (·.1)) := by
    rw [List.map_append, askAll_app, show askAll z (A.map (·.1)) = z from askAll_in fun q hq => by
      obtain ⟨r, hr, rfl⟩ := List.mem_map.mp hq
      exact q7 r hr]
  rw [eA] at h2 h3
  obtain ⟨l1, l2, s1, b, g1, g2, g3, g4, g5, g6, g7⟩ := go_row (C := C) (Cs := Cs) (cs := cs) (n := n) (Tl := Tl) (w := w) (hp := hp) (vd := vd) (ht := ht) (c := k) (a := z.length - w.k) q3 q4 (z := z) h1 h2 h3 (by omega)
  have inz : ∀ r ∈ A ++ l1, r.1 ∈ askAll z (l1.map (·.1)) := fun r hr => by
    rcases List.mem_append.mp hr with hr | hr
    · exact askAll_mem.mpr (.inl (q7 r hr))
    · exact askAll_mem.mpr (.inr (List.mem_map.mpr ⟨r, hr, rfl⟩))
  refine ⟨l1.map (·.1), l1.length, s1, b, fun q hq => ?_, g4, ⟨⟨A ++ l1, l2, s', by rw [g1, List.append_assoc], q2.app g2, g3, q4, q5, q6, inz⟩, h.cf, askAll_mem.mpr (.inl h.st)⟩, by omega, ?_, fun hb => ?_, fun hb => ?_, fun seen hs => ?_⟩
  · obtain ⟨r, hr, rfl⟩ := List.mem_map.mp hq
    exact List.mem_map.mpr ⟨r, List.mem_append_right _ (by rw [g1]; exact List.mem_append_left _ hr), rfl⟩
  · cases b with
    | true => rw [(g6 rfl).2]; exact (decide_eq_true q4).symm
    | false => exact (decide_eq_false (g7 rfl).1).symm
  · obtain ⟨_, y, _⟩ := g7 hb
    omega
  · rw [(g6 hb).2]; exact q5
  · rw [g1, ← List.append_assoc, where_app fun r hr => (hs _).mpr (inz r hr)]
    cases b with
    | true =>
      obtain ⟨y1, y2⟩ := g6 rfl
      rw [y1, y2, ← q5, ← q6]
      rfl
    | false =>
      obtain ⟨_, _, l3, y1, y2⟩ := g7 rfl
      rw [y1]
      show (if s1.upc ∈ seen then _ else _) = _
      rw [if_neg fun y => y2 ((hs _).mp y)]
end
end LF
/-! LF56: parts told by a list; many halvings -/
namespace LF
open PySem PySem.Spec PyProof.Rows L2
theorem Sep.perm {L M : List Ass} {G : HW} (h : L.Perm M) : Sep L G → Sep M G := by
  induction h generalizing G with
  | nil => exact id
  | cons a _ ih => exact Sep.map ih
  | swap a b l => exact Sep.swap
  | trans _ _ h1 h2 => exact fun s => h2 (h1 s)
section
variable {α β : Type} {f : α → Ass} {l : List α} {i : Nat} {a b : α} {F : List Ass} {G : HW}
theorem put_perm (h : l[i]? = some a) : (l.set i b).Perm (b :: l.eraseIdx i) := by
  obtain ⟨hi, _⟩ := List.getElem?_eq_some_iff.mp h
  rw [List.eraseIdx_eq_take_drop_succ, List.set_eq_take_append_cons_drop, if_pos hi]
  exact List.perm_middle
theorem Sep.snoc (s : Sep (f b :: bun (l.map f) :: F) G) : Sep (bun ((l ++ [b]).map f) :: F) G := by
  refine Sep.mkBun (Sep.perm ?_ (Sep.map (fun s => s.un) s))
  rw [List.map_append, List.append_assoc]
  exact (List.perm_middle (l₁ := l.map f) (l₂ := F) (a := f b)).symm
theorem map_set_same {g : α → β} (h : l[i]? = some a) (e : g b = g a) : (l.set i b).map g = l.map g := by
  obtain ⟨hi, e2⟩ := List.getElem?_eq_some_iff.mp h
  rw [List.map_set, e, ← e2]
  have : g l[i] = (l.map g)[i]'(by rw [List.length_map]; exact hi) := by rw [List.getElem_map]
  rw [this, List.set_getElem_self]
end
/-- a halving, its way, and where it stands -/
structure Hv where
  p : Cf
  W : List Wy
  e : Cf
  c : Nat
  h : Addr
  dx : Addr
  wl : Addr
  s : Hs
/-- what stands, over all: what was asked lies in U or X -/
structure Sev (τ : Cf → Str) (U z X : List Cf) (ps : List Cf) (hs : List Hv) : Prop where
  nd : z.Nodup
  inU : ∀ q ∈ z, q ∈ U ∨ q ∈ X
  cf : ∀ q ∈ z, Cfg q 120
  pp : hs.map (·.p) = ps
  hd : ∀ v ∈ hs, Hd τ z v.p v.W v.e v.c v.s ∧ v.W.length ≤ 300000 ∧ ∀ q ∈ v.W.map (·.1), q ∈ U ∧ Cfg q 120
section
variable {τ : Cf → Str} {U z X ps : List Cf} {hs : List Hv}
theorem Sev.len (h : Sev τ U z X ps hs) : z.length ≤ U.length + X.length := by
  rw [← List.length_append]
  exact nodup_le h.nd fun q hq => List.mem_append.mpr (h.inU q hq)
theorem Sev.ask (h : Sev τ U z X ps hs) {l Y : List Cf} (hl : ∀ q ∈ l, (q ∈ U ∨ q ∈ Y) ∧ Cfg q 120) (hX : ∀ q ∈ X, q ∈ Y) : Sev τ U (askAll z l) Y ps hs where
  nd := askAll_nodup h.nd
  inU := fun q hq => (askAll_mem.mp hq).elim (fun z => (h.inU q z).imp id (hX q)) fun z => (hl q z).1
  cf := fun q hq => (askAll_mem.mp hq).elim (h.cf q) fun z => (hl q z).2
  pp := h.pp
  hd := fun v hv => ⟨(h.hd v hv).1.mono fun q hq => askAll_mem.mpr (.inl hq), (h.hd v hv).2⟩
/-- the i-th one gone on -/
theorem Sev.go (h : Sev τ U z X ps hs) {i : Nat} {v : Hv} {s1 : Hs} {l : List Cf} (hv : hs[i]? = some v) (hl : ∀ q ∈ l, q ∈ v.W.map (·.1)) (hd : Hd τ (askAll z l) v.p v.W v.e v.c s1) : Sev τ U (askAll z l) X ps (hs.set i { v with s := s1 }) := by
  have hm := h.hd v (List.mem_of_getElem? hv)
  have h1 := h.ask (l := l) (Y := X) (fun q hq => ⟨.inl (hm.2.2 q (hl q hq)).1, (hm.2.2 q (hl q hq)).2⟩) (fun _ h => h)
  refine ⟨h1.nd, h1.inU, h1.cf, ?_, fun u hu => ?_⟩
  · rw [map_set_same (g := fun v => v.p) (a := v) hv (by rfl)]
    exact h.pp
  · rcases List.mem_or_eq_of_mem_set hu with hu | rfl
    · exact h1.hd u hu
    · exact ⟨hd, hm.2⟩
end
end LF
/-! LF57: closed down: what hangs falls with it -/
namespace LF
open PySem PySem.Spec PyProof.Rows L2
/-! ### in a world -/
end LF
/-! LF58: worlds of tests that tell of few -/
namespace LF
open PySem PySem.Spec PyProof.Rows L2
theorem nd1 {α : Type} (p : α) : [p].Nodup := List.nodup_cons.mpr ⟨(fun h => nomatch h), List.nodup_nil⟩
end LF
/-! LF59: a lambda told to a def, other cells of its maker being lent meanwhile -/
namespace LF
open PySem PySem.Spec PyProof.Rows L2 LamX
theorem Ln.sub {X : Cx} {a b : List (Addr × Nat)} (h : Ln X b) (s : a.Sublist b) : Ln X a := ⟨fun p hp => h.at_ p (s.mem hp), h.nd.sublist (s.map _)⟩
end LF
/-! LF60: all configurations of few pieces, tables of them -/
namespace LF
open PySem PySem.Spec PyProof.Rows L2
def allN : Nat → List Cf
  | 0 => [[]]
  | n + 1 => allN n ++ (allN n).map fun p => p ++ [(n : Int)]
theorem allN_mem : ∀ {n : Nat} {p : Cf}, p ∈ allN n ↔ Cfg p n
  | 0, p => by
    rw [allN, List.mem_singleton]
    refine ⟨fun e => by rw [e]; exact cfg_nil (by omega), fun h => ?_⟩
    have := h.1
    exact List.eq_nil_of_length_eq_zero (by omega)
  | n + 1, p => by
    rw [allN, List.mem_append, List.mem_map]
    constructor
    · rintro (h | ⟨q, hq, rfl⟩)
      · exact (allN_mem.mp h).mono (by omega)
      · have c := allN_mem.mp hq
        refine cfg_of (by omega) (fun i hi => ?_) (List.pairwise_append.mpr ⟨c.2.2, List.pairwise_singleton _ _, fun a ha b hb => ?_⟩)
        · rcases List.mem_append.mp hi with hi | hi
          · have := c.2.1 i hi; omega
          · have := List.mem_singleton.mp hi; omega
        · have := c.2.1 a ha
          have := List.mem_singleton.mp hb
          omega
    · intro h
      by_cases e : (n : Int) ∈ p
      · right
        obtain ⟨a, b, rfl⟩ := List.append_of_mem e
        have pw := List.pairwise_append.mp h.2.2
        have pb := List.pairwise_cons.mp pw.2.1
        have : b = [] := by
          cases b with
          | nil => rfl
          | cons x b =>
            have h1 := pb.1 x List.mem_cons_self
            have h2 := h.2.1 x (by simp)
            omega
        subst this
        refine ⟨a, allN_mem.mpr (cfg_of (by omega) (fun i hi => ?_) pw.1), rfl⟩
        have h1 := h.2.1 i (List.mem_append_left _ hi)
        have h2 := pw.2.2 i hi (n : Int) List.mem_cons_self
        omega
      · left
        refine allN_mem.mpr (cfg_of (by omega) (fun i hi => ?_) h.2.2)
        have h1 := h.2.1 i hi
        have : i ≠ (n : Int) := fun z => e (by rw [← z]; exact hi)
        omega
/-! ### what doesn't fail, refused and told -/
end LF
/-! LF61: tellers of what hangs together; papers of least ones -/
namespace LF
open PySem PySem.Spec PyProof.Rows L2
/-! ### lists of rows -/
/-! ### papers -/
def prwW (r : Int × Str) : Wv := .tup [.int r.1, .str r.2]
def paperW (p : Cf) (rs : List (Int × Str)) : Wv := .tup [.tup (p.map .int), .tup (rs.map prwW)]
/-- the paper is due -/
def DueP (τ : Cf → Str) (p : Cf) : Prop := τ p = "fail" ∧ ∀ k ∈ p, τ (lessL p [k]) ≠ "fail"
instance (τ : Cf → Str) (p : Cf) : Decidable (DueP τ p) := inferInstanceAs (Decidable (_ ∧ _))
/-- whether a paper comes out by rows -/
def chkP (rows : List Rw) (p : Cf) (rs : List (Int × Str)) : Prop := rs.map (·.1) = p ∧ lkR rows p = some "fail" ∧ ∀ r ∈ rs, r.2 ≠ "fail" ∧ lkR rows (lessL p [r.1]) = some r.2
instance (rows : List Rw) (p : Cf) (rs : List (Int × Str)) : Decidable (chkP rows p rs) := inferInstanceAs (Decidable (_ ∧ _ ∧ _))
/-! ### rows among rows -/
end LF
/-! LF62: a def within a def that has cells of its own, too -/
namespace LF
open PySem PySem.Spec PyProof.Rows L2 LamX
end LF
/-! LF63: bits; tables by the place of a configuration; papers of closed ones -/
namespace LF
open PySem PySem.Spec PyProof.Rows L2
/-! ### tables of any values -/
/-! ### closing down -/
/-! ### papers of closed ones -/
end LF
/-! LF64: a def within a def, called there: its cells are lent to the call -/
namespace LF
open PySem PySem.Spec PyProof.Rows L2 LamX
/-! ### while, in defs that make functions: its body may return -/
section
variable {σ : SW} {G : HW} {d : EndsM} {tb u : STM} {q : QT}
def kMwD (P : Nat → SW → HW → Prop) (m : Nat) (d : EndsM) : EndsM := { d with nx := fun σ' G' => ∃ m', m' < m ∧ P m' σ' G' }
def kMw (P : Nat → SW → HW → Prop) (m : Nat) (tb u : STM) (d : EndsM) (σ : SW) : Bool → HW → Prop := fun k G1 => match k with
  | true => tb (kMwD P m d) σ G1
  | false => u d σ G1
variable {P : Nat → SW → HW → Prop} {m : Nat}
theorem m_kMwt : kMw P m tb u d σ true G = tb (kMwD P m d) σ G := rfl
theorem m_kMwf : kMw P m tb u d σ false G = u d σ G := rfl
theorem m_kMwD_nx : (kMwD P m d).nx σ G = ∃ m', m' < m ∧ P m' σ G := rfl
theorem m_kMwD_rt : (kMwD P m d).rt = d.rt := rfl
theorem m_kMwD_ex : (kMwD P m d).ex = d.ex := rfl
end
end LF
/-! LF65: isolated pairs -/
namespace LF
open PySem PySem.Spec PyProof.Rows L2
/-! ### what holds on the way -/
/-! ### tests that always tell -/
end LF
/-! LF66: tellers with two configurations fixed -/
namespace LF
open PySem PySem.Spec PyProof.Rows L2
local macro_rules | `(tactic| walk_at "pull") => `(tactic| first | exact Pull.head | (apply Pull.tail; walk_at "pull"))
local macro_rules | `(tactic| walk_at "putp") => `(tactic| first
  | exact Put.head | exact Put.tail Put.head | exact Put.tail (Put.tail Put.head) | exact Put.tail (Put.tail (Put.tail Put.head))
  | exact Put.tail (Put.tail (Put.tail (Put.tail Put.head))) | exact Put.tail (Put.tail (Put.tail (Put.tail (Put.tail Put.head))))
  | exact Put.tail (Put.tail (Put.tail (Put.tail (Put.tail (Put.tail Put.head))))) | exact Put.tail (Put.tail (Put.tail (Put.tail (Put.tail (Put.tail (Put.tail Put.head))))))
  | exact Put.tail (Put.tail (Put.tail (Put.tail (Put.tail (Put.tail (Put.tail (Put.tail Put.head))))))))
local macro_rules | `(tactic| walk_at "sepm") => `(tactic| repeat (first | exact Sub.refl | refine Sub.pull (by walk_at "pull") ?_))
/-! ### small configurations shown -/
end LF
/-! LF67: papers of isolated pairs -/
namespace LF
open PySem PySem.Spec PyProof.Rows L2
abbrev Tri := Int × Str × Str
def unR : Str := "unresolved"
def nearB (rs : List Tri) : Prop := rs.length = 1 ∨ ∀ r ∈ rs, r.2.1 = unR ∧ r.2.2 = unR
instance (rs : List Tri) : Decidable (nearB rs) := inferInstanceAs (Decidable (_ ∨ _))
def triR (τ : Cf → Str) (low high : Cf) (ks : List Int) : List Tri := ks.map fun k => (k, τ (unL low [k]), τ (lessL high [k]))
def DueI (τ : Cf → Str) (low high : Cf) : Prop := (∀ k ∈ low, k ∈ high) ∧ τ low = "pass" ∧ τ high = "fail" ∧ nearB (triR τ low high (lessL high low))
instance (τ : Cf → Str) (low high : Cf) : Decidable (DueI τ low high) := inferInstanceAs (Decidable (_ ∧ _))
/-- whether a paper of a pair comes out by rows -/
def chkI (rows : List Rw) (low high : Cf) (rs : List Tri) : Prop := (∀ k ∈ low, k ∈ high) ∧ lkR rows low = some "pass" ∧ lkR rows high = some "fail" ∧ rs.map (·.1) = lessL high low ∧ nearB rs ∧ ∀ r ∈ rs, lkR rows (unL low [r.1]) = some r.2.1 ∧ lkR rows (lessL high [r.1]) = some r.2.2
instance (rows : List Rw) (low high : Cf) (rs : List Tri) : Decidable (chkI rows low high rs) := inferInstanceAs (Decidable (_ ∧ _))
end LF
/-! LF68: sorted by a key that tells a number and a tuple of ints -/
namespace LF
open PySem PySem.W PySem.Calls PyProof.Rows
/-- by the number, then as tuples -/
def ltK (a b : Int × Cf) : Bool := if a.1 = b.1 then HT.lexLt a.2 b.2 else decide (a.1 < b.1)
section
variable {prog : Program} {w : World} {A : Around} {E : Value → Shared → Prop} {s : Shared}
/-- a number and a tuple of ints -/
def TupK (h : Heap) (v : Value) (k : Int × Cf) : Prop := ∃ (a : Addr) (o : Obj) (xs : Array Value) (n : Nat) (t : Tok) (u : Value), v = .ref a ∧ h.get? a = some o ∧ o.cls = .type "tuple" ∧ o.data = .seq xs n ∧ xs = #[.int k.1 t, u] ∧ TS.TupInts h u k.2
theorem TupK.keeps {h h' : Heap} {v : Value} {k : Int × Cf} (x : TupK h v k) (kp : ∀ b o, h.get? b = some o → o.cls = .type "tuple" → h'.get? b = some o) : TupK h' v k := by
  obtain ⟨a, o, xs, n, t, u, e, ho, hc, hd, ex, hu⟩ := x
  exact ⟨a, o, xs, n, t, u, e, kp a o ho hc, hc, hd, ex, hu.keeps kp⟩
end
open PySem.Spec L2
/-- the ghosts of such a key -/
def KeyAt (H : Hp) (u : Value) (k : Int × Cf) : Prop := ∃ t t2 : Addr, u = .ref t ∧ H t = some (.tup [.int k.1, .ref t2]) ∧ H t2 = some (.tup (k.2.map V.int))
theorem KeyAt.mono {K : PySem.W.Frag} {H H' : Hp} {u : Value} {k : Int × Cf} (h : KeyAt H u k) (t : TX K H H') : KeyAt H' u k := by
  obtain ⟨a, b, e, h1, h2⟩ := h
  exact ⟨a, b, e, t a _ (show True from trivial) h1, t b _ (show True from trivial) h2⟩
section
variable {X : Cx} {pins : List (Addr × Obj)} {σ : L2.St} {H : Hp} {s : Shared}
theorem KeyAt.tup {u : Value} {k : Int × Cf} (I : Inv X pins σ H s) (h : KeyAt H u k) : TupK s.heap u k := by
  obtain ⟨t, t2, rfl, h1, h2⟩ := h
  obtain ⟨its, rv, ⟨o, ho, hc, n, hd⟩, _⟩ := I.tuple (SqT.of h1)
  obtain ⟨its2, rv2, pt2, _⟩ := I.tuple (SqT.of h2)
  cases rv with
  | cons a b =>
    cases b with
    | cons c d =>
      cases d
      obtain ⟨tk, rfl⟩ := a
      cases (show _ = Value.ref t2 from c)
      exact ⟨t, o, _, n, tk, .ref t2, rfl, ho, hc, hd, rfl, ⟨t2, its2.toArray, rfl, pt2, by simpa using intsAre_of rv2⟩⟩
end
/-- by number of members, then as tuples -/
def RiseS (cs : List Cf) : Prop := cs.Pairwise fun a b => ltK ((b.length : Int), b) ((a.length : Int), a) = false
def keyS (c : Cf) : Wv := .tup [.int c.length, .tup (c.map .int)]
def wSrtKey (sp : SpW) (w : Wv) (G : HW) (q : WK) : Prop := ∃ (p : Addr) (cs : List Cf), w = .ref p ∧ RdL G p (cs.map cfW) ∧ (∀ c ∈ cs, ∀ (q' : WK) (x' : XE), q' (keyS c) G → sp [cfW c] G q' x') ∧ ∀ cs' : List Cf, cs'.Perm cs → RiseS cs' → ∀ l, G l = none → q (.ref l) (updO G l (.lst (cs'.map cfW)))
def eSrtKey (sp : SpW) (te : ET) : ET := fun x σ G q => te x σ G fun w G1 => wSrtKey sp w G1 q
end LF
/-! LF69: sorted of pairs of a number and a tuple; all configurations by their size; lowest ones, breaches -/
namespace LF
open PySem PySem.W PySem.Calls PyProof.Rows
open PySem.Spec L2
def keyC (c : Cf) : Int × Cf := ((c.length : Int), c)
section
variable {x : XW} {σ : SW} {G : HW} {q : WK} {te : ET} {sp : SpW}
def kSrtKey (sp : SpW) (q : WK) : WK := fun w G => wSrtKey sp w G q
theorem m_SrtKey : eSrtKey sp te x σ G q = te x σ G (kSrtKey sp q) := rfl
end
/-! ### tuple(d.items()), the keys tuples -/
def eTuT (te : ET) : ET := fun x σ G q => te x σ G fun w G1 => match w with
  | .ref d => ∃ kvs, G1 d = some (.dtp kvs) ∧ q (.tup (kvs.map prW)) G1
  | _ => False
section
variable {x : XW} {σ : SW} {G : HW} {q : WK} {te : ET}
def kTuT (q : WK) : WK := fun w G1 => match w with
  | .ref d => ∃ kvs, G1 d = some (.dtp kvs) ∧ q (.tup (kvs.map prW)) G1
  | _ => False
theorem m_TuT : eTuT te x σ G q = te x σ G (kTuT q) := rfl
end
/-! ### all configurations by their size -/
def leS (a b : Cf) : Bool := !ltK (keyC b) (keyC a)
def allS (n : Nat) : List Cf := (allN n).mergeSort leS
theorem allS_perm (n : Nat) : (allS n).Perm (allN n) := List.mergeSort_perm _ _
theorem allS_mem {n : Nat} {p : Cf} : p ∈ allS n ↔ Cfg p n := (allS_perm n).mem_iff.trans allN_mem
/-! ### one more -/
/-! ### lowest ones, breaches, told in plain words -/
section
variable {C : Addr} {Cs : SpB} {cs : List CandF}
def brW : Option (Cf × Cf) → Wv
  | none => .non
  | some (p, q) => .tup [cfW p, cfW q]
end
/-! ### of a test that always tells -/
section
variable {C : Addr} {Cs : SpB} {cs : List CandF} {n : NW} {Tl : Addr → (Cf → Str) → Ass} {w : TrV} {hp : w.pre.length ≤ 40000} {vd : ∀ p, vdS (w.τ p)} {ht : ∀ (p : Cf) (log : List Cf), Cfg p 120 → log.length ≤ 100000 → TestG cs w.g p (TeT n Tl w.toTrW log) (.val (.str (w.τ p))) (TeT n Tl w.toTrW (log ++ [p]))}
/-- there is room for all of N -/
structure RoomU (w : TrV) (N z : List Cf) : Prop where
  k : w.k ≤ z.length
  nd : z.Nodup
  sub : ∀ q ∈ z, q ∈ N
  n1 : N.length ≤ 50000
  n2 : (N.length : Int) ≤ w.m + w.k
theorem RoomU.step {N z : List Cf} {p : Cf} (h : RoomU w N z) (hp2 : p ∈ N) : (totW C Cs cs n Tl w hp vd ht).ok z ∧ (totW C Cs cs n Tl w hp vd ht).to z p = askL z p ∧ (totW C Cs cs n Tl w hp vd ht).out z p = .val (.str (w.τ p)) ∧ RoomU w N (askL z p) := by
  have e0 := askL_le (cs := z) (p := p)
  have nd2 := askL_nodup (p := p) h.nd
  have sub2 : ∀ q ∈ askL z p, q ∈ N := fun q hq => by
    unfold askL at hq
    split at hq
    · exact h.sub q hq
    · rcases List.mem_append.mp hq with hq | hq
      · exact h.sub q hq
      · rw [List.mem_singleton.mp hq]; exact hp2
  have l1 := nodup_le h.nd h.sub
  have l2 := nodup_le nd2 sub2
  have n1 := h.n1
  have n2 := h.n2
  obtain ⟨a1, a2⟩ := tot_to (Cs := Cs) (w := w) (l := z) (p := p) (by omega)
  exact ⟨⟨h.k, by omega⟩, a1, a2, ⟨by have := h.k; omega, nd2, sub2, n1, n2⟩⟩
theorem RoomU.ok {N z : List Cf} (h : RoomU w N z) : (totW C Cs cs n Tl w hp vd ht).ok z := ⟨h.k, Nat.le_trans (nodup_le h.nd h.sub) h.n1⟩
end
/-! ### one core told by a lambda that holds it -/
/-! ### one core, monotone ones -/
/-! ### what is told, shown -/
end LF
/-! LF70: isolated pairs: what they are at the end; tests that always fail or pass; a teller with two ends that are let by -/
namespace LF
open PySem PySem.Spec PyProof.Rows L2
/-! ### a teller with hangs and two ends that are let by -/
/-! ### what stands at the end was asked -/
end LF
/-! LF71: worlds that tell τ of all of U: bottoms, breaches, isolated pairs, papers in them -/
namespace LF
open PySem PySem.Spec PyProof.Rows L2
/-- z being known, all of U is told, and known then -/
structure Tll {C : Addr} {Cs : SpB} {cs : List CandF} (W : Wd C Cs cs) (τ : Cf → Str) (U : List Cf) (good : List Cf → Prop) (st : List Cf → W.S) : Prop where
  ok : ∀ z, good z → W.ok (st z)
  out : ∀ z p, good z → p ∈ U → W.out (st z) p = .val (.str (τ p))
  to : ∀ z p, good z → p ∈ U → W.to (st z) p = st (askL z p)
  next : ∀ z p, good z → p ∈ U → good (askL z p)
section
variable {C : Addr} {Cs : SpB} {Cn : Addr} {cs : List CandF} {W : Wd C Cs cs} {τ : Cf → Str} {U : List Cf} {good : List Cf → Prop} {st : List Cf → W.S}
theorem Tll.all (t : Tll W τ U good st) : ∀ {l z : List Cf}, good z → (∀ q ∈ l, q ∈ U) → good (askAll z l)
  | [], _, h, _ => h
  | p :: l, z, h, hl => Tll.all t (l := l) (t.next z p h (hl p List.mem_cons_self)) fun q hq => hl q (List.mem_cons_of_mem _ hq)
variable {z : List Cf} {nn : Nat} {F : List Ass} {G : HW} {q : WK} {x : XE}
/-! ### isolated pairs -/
/-! ### papers -/
end
end LF
/-! LF72: texts: join, count, list(s), str(x); == and str by a class's own; l[i] += text; a module's table of functions -/
namespace LF
open PySem PySem.Spec PyProof.Rows L2
section
variable {X : Cx} {Wx : WX} {k : Nat} {e o i : Expr} {te to ti : ET} {pos tpos : Pos}
/-! ### methods of texts -/
def wCount : RMop := fun w us G q => match w, us with
  | .str a, [.str b] => q (.int (Txt.count a b)) G
  | _, _ => False
/-! ### list(s) -/
def wListS : RCop := fun ws G q => match ws with
  | [.str z] => z.length ≤ sizeLine ∧ ∀ l, G l = none → q (.ref l) (updO G l (.lst (sgW z)))
  | ws => wList ws G q
/-! ### a == b by the class's own -/
/-! ### str(x) -/
def wStrA (cs : List Cand) : RCop := fun ws G q => match ws with
  | [.int i] => i.natAbs.log2 < 1920 ∧ q (.str (toString i)) G
  | [.str a] => q (.str a) G
  | [.ref a] => ∃ c ∈ cs, ∃ dx fs, G a = some (.ins c.C dx fs) ∧ c.sp (pick c.sel [.ref a] [] c.dws) G (fun v G2 => ∃ z, v = .str z ∧ q (.str z) G2) fun _ _ _ => False
  | _ => False
/-! ### l[i] += text -/
def sAugIx (to ti te : ET) : ST := fun D σ G => to D.ex σ G fun o G1 => ti D.ex σ G1 fun i G2 => match o, i with
  | .ref p, .int k => ∃ ws x, RdL G2 p ws ∧ atI ws k = some (.str x) ∧ te D.ex σ G2 fun w G3 => match w with
    | .str y => x.length + y.length ≤ sizeLine ∧ ∃ ws' j, G3 p = some (.lst ws') ∧ ixN ws'.length k = some j ∧ D.nx σ (updO G3 p (.lst (ws'.set j (.str (x ++ y)))))
    | _ => False
  | _, _ => False
/-! ### a module's table, texts for keys -/
end
section
variable {x : XW} {σ : SW} {G : HW} {q : WK} {D : EndsW} {te to ti : ET}
theorem m_Count {a b : Str} : wCount (.str a) [.str b] G q = q (.int (Txt.count a b)) G := rfl
theorem m_ListS {z : Str} : wListS [.str z] G q = (z.length ≤ sizeLine ∧ ∀ l, G l = none → q (.ref l) (updO G l (.lst (sgW z)))) := rfl
theorem m_ListSr {p : Addr} : wListS [.ref p] G q = wList [.ref p] G q := rfl
theorem m_StrA_str {a : Str} {cs : List Cand} : wStrA cs [.str a] G q = q (.str a) G := rfl
/-- l[i] += text, l's part under way -/
def kAug2 (te : ET) (D : EndsW) (σ : SW) (o : Wv) : WK := fun i G2 => match o, i with
  | .ref p, .int k => ∃ ws x, RdL G2 p ws ∧ atI ws k = some (.str x) ∧ te D.ex σ G2 fun w G3 => match w with
    | .str y => x.length + y.length ≤ sizeLine ∧ ∃ ws' j, G3 p = some (.lst ws') ∧ ixN ws'.length k = some j ∧ D.nx σ (updO G3 p (.lst (ws'.set j (.str (x ++ y)))))
    | _ => False
  | _, _ => False
def kAug1 (ti te : ET) (D : EndsW) (σ : SW) : WK := fun o G1 => ti D.ex σ G1 (kAug2 te D σ o)
theorem m_AugIx : sAugIx to ti te D σ G = to D.ex σ G (kAug1 ti te D σ) := rfl
theorem m_Aug1 {o : Wv} : kAug1 ti te D σ o G = ti D.ex σ G (kAug2 te D σ o) := rfl
end
end LF
/-! LF73: texts as lists of codes; a text's parts (cutP), cases of texts, cut -/
namespace LF
open PySem PySem.Spec PyProof.Rows L2
open SX (S S_tl S_inj S_len S_cat)
/-! ### texts -/
abbrev tS (l : List Nat) : Wv := .str (S l)
def okC (l : List Nat) : Prop := ∀ c ∈ l, c < 1114112
theorem okC.str {l : List Nat} (h : okC l) : PyData.strOk (S l) = true := by
  unfold PyData.strOk
  rw [show (S l).cps = l.toArray from rfl]
  simp only [List.all_toArray, List.all_eq_true, decide_eq_true_eq]
  exact fun c hc => h c hc
theorem okC.sub {l m : List Nat} (h : okC l) (s : ∀ c ∈ m, c ∈ l) : okC m := fun c hc => h c (s c hc)
theorem S_dec (a b : List Nat) : decide (S a = S b) = decide (a = b) := by
  by_cases h : a = b
  · subst h; simp
  · rw [decide_eq_false h, decide_eq_false fun z => h (S_inj z)]
/-! ### lists of texts, shown and compared -/
def txD (l : List Nat) : PyData := .str (S l)
theorem dts_tx {G : HW} : ∀ ts : List (List Nat), Dts G (ts.map tS) (ts.map txD)
  | [] => .nil
  | t :: ts => .cons (.str _) (dts_tx ts)
theorem shaped_tx {ts : List (List Nat)} (h : ∀ t ∈ ts, okC t) : SeqAt.shaped (.list (ts.map txD)) = true := by
  have lay : ∀ ts : List (List Nat), (∀ t ∈ ts, okC t) → PyData.canLayAll0 (ts.map txD) = true := by
    intro ts
    induction ts with
    | nil => intro _; rfl
    | cons t ts ih => intro h; rw [List.map_cons, PyData.canLayAll0, ih fun x hx => h x (List.mem_cons_of_mem _ hx)]; unfold txD; rw [PyData.canLay0, (h t List.mem_cons_self).str]; rfl
  have dep : ∀ ts : List (List Nat), PyData.depthAll (ts.map txD) ≤ 0 := by
    intro ts
    induction ts with
    | nil => simp [PyData.depthAll]
    | cons t ts ih => rw [List.map_cons, PyData.depthAll]; refine Nat.max_le.mpr ⟨?_, ih⟩; unfold txD; simp [PyData.depth]
  unfold SeqAt.shaped
  rw [PyData.canLay0, lay ts h, PyData.depth, Bool.true_and]
  have := dep ts
  exact decide_eq_true (by omega)
theorem eqvAll_tx : ∀ l m : List (List Nat), PyData.eqvAll (l.map txD) (m.map txD) = decide (l = m)
  | [], [] => by simp [PyData.eqvAll]
  | [], m :: ms => by simp [PyData.eqvAll]
  | n :: ns, [] => by simp [PyData.eqvAll]
  | n :: ns, m :: ms => by
    rw [List.map_cons, List.map_cons, PyData.eqvAll, eqvAll_tx ns ms]
    have : PyData.eqv (txD n) (txD m) = decide (n = m) := by
      unfold txD
      rw [PyData.eqv, ← S_dec]
      by_cases e : S n = S m
      · rw [decide_eq_true e, e]; exact beq_self_eq_true _
      · rw [decide_eq_false e]; exact beq_eq_false_iff_ne.mpr e
    rw [this]
    by_cases h1 : n = m <;> by_cases h2 : ns = ms <;> simp [h1, h2]
theorem r_eqTx {G : HW} {q : WK} {p r : Addr} {l m : List (List Nat)} (ol : ∀ t ∈ l, okC t) (om : ∀ t ∈ m, okC t) (h1 : RdL G p (l.map tS)) (h2 : RdL G r (m.map tS)) (z : q (.bl (decide (l = m))) G) : wEq (.ref p) (.ref r) G q :=
  r_eq (k := decide (l = m)) (.lst h1 (dts_tx l)) (.lst h2 (dts_tx m)) (shaped_tx ol) (shaped_tx om) (by rw [PyData.eqv]; exact eqvAll_tx l m) z
theorem r_neTx {G : HW} {q : WK} {p r : Addr} {l m : List (List Nat)} (ol : ∀ t ∈ l, okC t) (om : ∀ t ∈ m, okC t) (h1 : RdL G p (l.map tS)) (h2 : RdL G r (m.map tS)) (z : q (.bl (!decide (l = m))) G) : wNe (.ref p) (.ref r) G q :=
  r_ne (k := decide (l = m)) (.lst h1 (dts_tx l)) (.lst h2 (dts_tx m)) (shaped_tx ol) (shaped_tx om) (by rw [PyData.eqv]; exact eqvAll_tx l m) z
/-! ### where parts begin -/
section
variable {bg : Nat → Nat → Bool}
/-- behind b: the rest of the part under way, and the parts that follow -/
def runs (bg : Nat → Nat → Bool) : Nat → List Nat → List Nat × List (List Nat)
  | _, [] => ([], [])
  | b, c :: r => if bg b c then ([], (c :: (runs bg c r).1) :: (runs bg c r).2) else (c :: (runs bg c r).1, (runs bg c r).2)
def cutP (bg : Nat → Nat → Bool) : List Nat → List (List Nat)
  | [] => []
  | c :: r => (c :: (runs bg c r).1) :: (runs bg c r).2
end
/-! ### cases -/
section
variable {K : PySem.W.Frag} {C B : Addr} {G G' : HW} {p l : Addr} {ts : List (List Nat)} {q : WK} {x : XE}
/-- a case of these texts -/
structure CaA (C : Addr) (G : HW) (p l : Addr) (ts : List (List Nat)) : Prop where
  ins : ∃ dx, G p = some (.ins C dx [("all_pieces", .ref l)])
  lst : G l = some (.lst (ts.map tS))
theorem CaA.ext (h : CaA C G p l ts) (e : Ext G G') : CaA C G' p l ts := ⟨let ⟨dx, a⟩ := h.ins; ⟨dx, e _ _ a⟩, e _ _ h.lst⟩
theorem CaA.kp {M : List Addr} (h : CaA C G p l ts) (k : Kp M G G') (h1 : p ∉ M) (h2 : l ∉ M) : CaA C G' p l ts := ⟨let ⟨dx, a⟩ := h.ins; ⟨dx, k _ _ h1 a⟩, k _ _ h2 h.lst⟩
/-- few and short enough -/
structure GdC (ts : List (List Nat)) : Prop where
  few : ts.length ≤ 120
  short : ∀ t ∈ ts, t.length ≤ 200
/-- list or tuple of these texts -/
def TxA (G : HW) (w : Wv) (ts : List (List Nat)) : Prop := w = .tup (ts.map tS) ∨ ∃ r, w = .ref r ∧ G r = some (.lst (ts.map tS))
def SpPiece (K : PySem.W.Frag) : SpW := fun ws G q _ => ∃ w, ws = [w] ∧ Kn K G w ∧ (∀ z, w = .str z → z.length ≤ sizeLine) ∧ q (.bl (match w with | .str z => decide (z.length ≤ 200) | _ => false)) G
theorem piece_ok {t : List Nat} (h : t.length ≤ sizeLine) (z : q (.bl (decide (t.length ≤ 200))) G) : SpPiece K [tS t] G q x := ⟨_, rfl, kn_str, fun z e => by cases e; rw [S_len]; exact h, by rw [← S_len] at z; exact z⟩
def SpPieces (C : Addr) : SpW := fun ws G q _ => ∃ p l ts, ws = [.ref p] ∧ CaA C G p l ts ∧ ∀ r G', G r = none → Ext G G' → G' r = some (.lst (ts.map tS)) → q (.ref r) G'
end
theorem tx_isi {K : PySem.W.Frag} {G : HW} {w : Wv} {ts : List (List Nat)} {q : WK} (h : TxA G w ts) (z : q (.bl true) G) : wIsi K [w, .tup [.ty "list", .ty "tuple"]] G q := by
  rcases h with rfl | ⟨r, rfl, h⟩
  · exact r_isiT (t := .type "tuple") rfl ⟨_, _, rfl, rfl, _, _, rfl, rfl, rfl⟩ (k := true) rfl z
  · refine r_isiT (t := .type "list") ?_ ⟨_, _, rfl, rfl, _, _, rfl, rfl, rfl⟩ (k := true) rfl z
    show TyO K r (G r) _
    rw [h]; rfl
theorem tx_len {G : HW} {w : Wv} {ts : List (List Nat)} {q : WK} (h : TxA G w ts) (z : q (.int (ts.length : Nat)) G) : wLen [w] G q := by
  rcases h with rfl | ⟨r, rfl, h⟩
  · have e : ((ts.map tS).length : Int) = (ts.length : Nat) := by rw [List.length_map]
    rw [← e] at z
    exact z
  · exact r_len (.inl h) (by rw [List.length_map]; exact z)
theorem tx_it {G : HW} {w : Wv} {ts : List (List Nat)} {q : IK} (h : TxA G w ts) (z : ∀ ok : HW → Prop, (∀ G', Ext G G' → ok G') → q (ts.map tS) ok G) : kIt q w G := by
  rcases h with rfl | ⟨r, rfl, h⟩
  · exact z okT fun _ _ => trivial
  · exact r_itL (.inl h) (z _ fun G' e => .inl (e _ _ h))
theorem tx_list {G : HW} {w : Wv} {ts : List (List Nat)} {q : WK} (h : TxA G w ts) (z : ∀ l, G l = none → q (.ref l) (updO G l (.lst (ts.map tS)))) : wList [w] G q := by
  rcases h with rfl | ⟨r, rfl, h⟩
  · exact r_listT z
  · exact r_listL (.inl h) z
theorem TxA.ext {G G' : HW} {w : Wv} {ts : List (List Nat)} (h : TxA G w ts) (e : Ext G G') : TxA G' w ts := by
  rcases h with rfl | ⟨r, rfl, h⟩
  · exact .inl rfl
  · exact .inr ⟨r, rfl, e _ _ h⟩
/-! ### cutting, sign by sign -/
def CutI (bg : Nat → Nat → Bool) (l : List Nat) (i : Nat) (b : List Nat) (fs : List (List Nat)) : Prop := (i = 0 ∧ b = [] ∧ fs = []) ∨
  ∃ c ini cur, b = [c] ∧ fs = ini ++ [cur] ∧ cutP bg l = ini ++ (cur ++ (runs bg c (l.drop i)).1) :: (runs bg c (l.drop i)).2
section
variable {bg : Nat → Nat → Bool} {l : List Nat}
theorem drop_at {i c : Nat} (h : l[i]? = some c) : l.drop i = c :: l.drop (i + 1) := by
  obtain ⟨hi, hx⟩ := List.getElem?_eq_some_iff.mp h
  rw [← hx, ← List.drop_eq_getElem_cons hi]
theorem CutI.next {i c b : Nat} {fs ini : List (List Nat)} {cur : List Nat} (e1 : fs = ini ++ [cur]) (e : cutP bg l = ini ++ (cur ++ (runs bg b (l.drop i)).1) :: (runs bg b (l.drop i)).2) (h : l[i]? = some c) :
    CutI bg l (i + 1) [c] (if bg b c then fs ++ [[c]] else ini ++ [cur ++ [c]]) := by
  rw [drop_at h, runs] at e
  cases q : bg b c with
  | true =>
    rw [q] at e
    simp only [if_true, List.append_nil] at e ⊢
    exact .inr ⟨c, fs, [c], rfl, rfl, by rw [e, e1]; simp⟩
  | false =>
    rw [q] at e
    simp only [Bool.false_eq_true, if_false] at e ⊢
    exact .inr ⟨c, ini, cur ++ [c], rfl, rfl, by rw [e]; simp⟩
theorem CutI.done {b : List Nat} {fs : List (List Nat)} (h : CutI bg l l.length b fs) : fs = cutP bg l := by
  rcases h with ⟨h, _, rfl⟩ | ⟨c, ini, cur, _, rfl, e⟩
  · cases l with
    | nil => rfl
    | cons c r => cases h
  · rw [List.drop_length, runs, List.append_nil] at e
    exact e.symm
end
/-! ### a text's signs -/
/-! ### what a law says of cuts -/
/-! ### all places -/
end LF
/-! LF74: a text so many times -/
namespace LF
open PySem PySem.Spec PyProof.Rows L2
open SX (S S_tl S_inj S_len S_cat)
/-! ### an instance's kinds -/
/-! ### a deed that tells a thing -/
/-! ### where the parts begin -/
/-! ### what a comprehension keeps -/
end LF
/-! LF75: == and != by a class's own against anything; repr by a class's own; f-strings -/
namespace LF
open PySem PySem.Spec PyProof.Rows L2
/-! ### a != b, the class's own == behind it -/
section
variable {X : Cx} {Wx : WX} {k : Nat} {e : Expr} {te : ET} {pos : Pos}
/-- the right one does not go first -/
def NoFst (K : PySem.W.Frag) (C : Addr) (t : Value) : Prop := t = .ref C ∨ PySem.W.subIn K t (.ref C) = some false
theorem NoFst.ok {K : PySem.W.Frag} {C : Addr} {t : Value} (h : NoFst K C t) : PySem.W.notFirst K C t = true := by
  unfold PySem.W.notFirst
  rcases h with rfl | h
  · simp
  · rw [h]; simp
/-! ### repr(x), the class's own -/
/-! ### f-strings -/
def kFmt (q : WK) : WK := fun w G => match w with
  | .str y => y.length ≤ sizeLine ∧ q (.str y) G
  | .int i => i.natAbs.log2 < 1920 ∧ q (.str (toString i)) G
  | _ => False
def eFmt (te : ET) : ET := fun x σ G q => te x σ G (kFmt q)
def eJs : List ET → Str → XW → SW → HW → (Str → HW → Prop) → Prop
  | [], acc, _, _, G, q => q acc G
  | t :: ts, acc, x, σ, G, q => t x σ G fun w G1 => match w with
    | .str y => (acc ++ y).length ≤ sizeLine ∧ eJs ts (acc ++ y) x σ G1 q
    | _ => False
def eJoin (ts : List ET) : ET := fun x σ G q => eJs ts Str.empty x σ G fun out G1 => q (.str out) G1
end
section
variable {x : XW} {σ : SW} {G : HW} {q : WK} {te : ET} {ts : List ET} {acc : Str}
def kOut (q : WK) : Str → HW → Prop := fun out G1 => q (.str out) G1
def kJs (ts : List ET) (acc : Str) (x : XW) (σ : SW) (q : Str → HW → Prop) : WK := fun w G1 => match w with
  | .str y => (acc ++ y).length ≤ sizeLine ∧ eJs ts (acc ++ y) x σ G1 q
  | _ => False
theorem m_Fmt : eFmt te x σ G q = te x σ G (kFmt q) := rfl
theorem m_Join : eJoin ts x σ G q = eJs ts Str.empty x σ G (kOut q) := rfl
theorem m_Out {out : Str} : kOut q out G = q (.str out) G := rfl
theorem m_JsN {q : Str → HW → Prop} : eJs [] acc x σ G q = q acc G := rfl
theorem m_JsC {q : Str → HW → Prop} {t : ET} : eJs (t :: ts) acc x σ G q = t x σ G (kJs ts acc x σ q) := rfl
end
end LF
/-! LF76: cases refused, too -/
namespace LF
open PySem PySem.Spec PyProof.Rows L2
open SX (S S_tl S_inj S_len S_cat)
section
variable {K : PySem.W.Frag} {C B : Addr} {G G' : HW} {w : Wv} {q : WK} {x : XE}
theorem tyW_fun {t t' : Value} (h : TyW K G w t) (h' : TyW K G w t') : t = t' := by
  cases w with
  | ref p =>
    have h : TyO K p (G p) t := h
    have h' : TyO K p (G p) t' := h'
    unfold TyO at h h'
    cases e : G p with
    | none => rw [e] at h; exact h.elim
    | some o =>
      rw [e] at h h'
      cases o <;> first | exact (show False from h).elim | exact (show t = _ from h).trans (show t' = _ from h').symm | exact h.1.trans h'.1.symm | exact (show _ ∧ t = _ from h).2.trans (show _ ∧ t' = _ from h').2.symm | skip
      obtain ⟨_, c1, e1, e2, _⟩ := h
      obtain ⟨_, c2, e3, e4, _⟩ := h'
      rw [e2, e4]
      rw [e1] at e3
      exact e3
  | ty n => exact (show False from h).elim
  | fn f H => exact (show False from h).elim
  | kls ws => exact (show False from h).elim
  | non => exact (show t = _ from h).trans (show t' = _ from h').symm
  | bl b => exact (show t = _ from h).trans (show t' = _ from h').symm
  | int i => exact (show t = _ from h).trans (show t' = _ from h').symm
  | str z => exact (show t = _ from h).trans (show t' = _ from h').symm
  | tup ws => exact (show t = _ from h).trans (show t' = _ from h').symm
  | ktp ws => exact (show t = _ from h).trans (show t' = _ from h').symm
/-- isinstance(x, (list, tuple)) -/
theorem isi_lt (k : Kn K G w) (z : q (.bl (isLs G w || isTp w)) G) : wIsi K [w, .tup [.ty "list", .ty "tuple"]] G q := by
  obtain ⟨t, ty, e1⟩ := k.l
  obtain ⟨t', ty', e2⟩ := k.t
  cases tyW_fun ty ty'
  refine r_isiT ty ⟨_, _, rfl, rfl, _, _, rfl, rfl, rfl⟩ (k := isLs G w || isTp w) ?_ z
  unfold PySem.W.kitAny
  rw [e1]
  cases isLs G w with
  | true => rfl
  | false =>
    show PySem.W.kitAny K t [.type "tuple"] = _
    unfold PySem.W.kitAny
    rw [e2]
    cases isTp w <;> rfl
def pcW : Wv → Bool
  | .str z => decide (z.length ≤ 200)
  | _ => false
/-- a list or a tuple of these -/
def SqA (G : HW) (w : Wv) (us : List Wv) : Prop := w = .tup us ∨ ∃ r, w = .ref r ∧ G r = some (.lst us)
theorem SqA.ext {us : List Wv} (h : SqA G w us) (e : Ext G G') : SqA G' w us := by
  rcases h with rfl | ⟨r, rfl, h⟩
  · exact .inl rfl
  · exact .inr ⟨r, rfl, e _ _ h⟩
theorem sq_isi {us : List Wv} (h : SqA G w us) (z : q (.bl true) G) : wIsi K [w, .tup [.ty "list", .ty "tuple"]] G q := by
  rcases h with rfl | ⟨r, rfl, h⟩
  · exact r_isiT (t := .type "tuple") rfl ⟨_, _, rfl, rfl, _, _, rfl, rfl, rfl⟩ (k := true) rfl z
  · refine r_isiT (t := .type "list") ?_ ⟨_, _, rfl, rfl, _, _, rfl, rfl, rfl⟩ (k := true) rfl z
    show TyO K r (G r) _
    rw [h]; rfl
theorem sq_len {us : List Wv} (h : SqA G w us) (z : q (.int (us.length : Nat)) G) : wLen [w] G q := by
  rcases h with rfl | ⟨r, rfl, h⟩
  · exact z
  · exact r_len (.inl h) z
theorem sq_it {us : List Wv} {q : IK} (h : SqA G w us) (z : ∀ ok : HW → Prop, (∀ G', Ext G G' → ok G') → q us ok G) : kIt q w G := by
  rcases h with rfl | ⟨r, rfl, h⟩
  · exact z okT fun _ _ => trivial
  · exact r_itL (.inl h) (z _ fun G' e => .inl (e _ _ h))
def BadPc (K : PySem.W.Frag) (G : HW) (w : Wv) : Prop := (Kn K G w ∧ isLs G w = false ∧ isTp w = false) ∨
  ∃ us, SqA G w us ∧ us.length ≤ 10000 ∧ (120 < us.length ∨ ((∀ u ∈ us, Kn K G u ∧ ∀ z, u = .str z → z.length ≤ sizeLine) ∧ ∃ u ∈ us, pcW u = false))
theorem BadPc.ext (h : BadPc K G w) (e : Ext G G') : BadPc K G' w := by
  rcases h with ⟨k, h1, h2⟩ | ⟨us, h1, h2, h3⟩
  · have hl : isLs G' w = isLs G w := by
      cases w with
      | ref p =>
        obtain ⟨o, ho⟩ := k.has
        unfold isLs
        dsimp only
        rw [ho, e p o ho]
      | _ => rfl
    exact .inl ⟨k.ext e, by rw [hl]; exact h1, h2⟩
  · refine .inr ⟨us, h1.ext e, h2, ?_⟩
    rcases h3 with h3 | ⟨h3, h4⟩
    · exact .inl h3
    · exact .inr ⟨fun u hu => ⟨(h3 u hu).1.ext e, (h3 u hu).2⟩, h4⟩
def SpCaseInitX (K : PySem.W.Frag) (C B : Addr) : SpW := fun ws G q x => ∃ p w dx, ws = [.ref p, w] ∧ G p = some (.ins C dx []) ∧
  ((∃ ts, TxA G w ts ∧ GdC ts ∧ ∀ l G', G l = none → Kp [p] G G' → CaA C G' p l ts → q .non G') ∨ (BadPc K G w ∧ ∀ G', Ext G G' → x (.ref B) [("what", .str "pieces")] G'))
/-- X(w) made, all good -/
theorem mk_case {sel : List Sel} {ts : List (List Nat)} {xe : XE} (tx : TxA G w ts) (gd : GdC ts) (p : Addr) (dx : Addr) (hp : G p = none) (h : ∀ l G', G l = none → Ext G G' → CaA C G' p l ts → q (.ref p) G') : SpCaseInitX K C B [.ref p, w] (updO G p (.ins C dx [])) (fun v G' => v = .non ∧ q (.ref p) G') xe := by
  have tx' : TxA (updO G p (.ins C dx [])) w ts := by
    rcases tx with rfl | ⟨r, rfl, e⟩
    · exact .inl rfl
    · exact .inr ⟨r, rfl, by rw [updO_ne (ne_of_new e hp)]; exact e⟩
  refine ⟨p, w, dx, rfl, updO_same, .inl ⟨ts, tx', gd, fun l G' hl kp ca => ⟨rfl, h l G' ?_ (fun a o e => ?_) ca⟩⟩⟩
  · by_cases e : l = p
    · rw [e]; exact hp
    · rw [updO_ne e] at hl; exact hl
  · have na : a ≠ p := ne_of_new e hp
    exact kp a o (by simpa using na) (by rw [updO_ne na]; exact e)
end
end LF
/-! LF77: tables that are walked through while tests read them -/
namespace LF
open PySem PySem.Spec PyProof.Rows L2
end LF
/-! LF78: list comprehensions the whole of which has cells of the def lent -/
namespace LF
open PySem PySem.Spec PyProof.Rows L2 LamX
/-! ### the comprehension -/
section
variable {X : Cx} {Wx : WX} {cjs : List (Addr × Nat)} {K : PySem.W.Frag} {te : ET} {x : XW} {σ : SW} {G : HW} {q : WK} {wi : IT} {is vs : List Nat} {tt : QT}
/-- the comprehension's reading: the cells are laid as it begins, and taken back -/
def kLcL (cjs : List (Addr × Nat)) (is vs : List Nat) (tt : QT) (te : ET) (x : XW) (σ : SW) (q : WK) : IK := fun its ok G1 => Asg cjs σ ∧ ∀ D, G1 D = none → (∀ p ∈ cjs, G1 p.1 = none ∧ p.1 ≠ D) → ∃ P : Nat → HW → Prop, P 0 (layS cjs σ (updO G1 D (.lst []))) ∧ (∀ i G, i ≤ its.length → P i G → ok G) ∧
  (∀ i w G, its[i]? = some w → P i G → ∃ σ2, inTo is w (wipeW σ vs) = some σ2 ∧ tt x0 σ2 G fun k G3 => match k with
    | true => te x0 σ2 G3 fun y G4 => ∃ acc, G4 D = some (.lst acc) ∧ acc.length < sizeLine ∧ P (i + 1) (updO G4 D (.lst (acc ++ [y])))
    | false => P (i + 1) G3) ∧ ∀ G, P its.length G → q (.ref D) (dropG (cjs.map (·.1)) G)
def eLcL (cjs : List (Addr × Nat)) (wi : IT) (is vs : List Nat) (tt : QT) (te : ET) : ET := fun x σ G q => wi x σ G (kLcL cjs is vs tt te x σ q)
theorem m_LcL : eLcL cjs wi is vs tt te x σ G q = wi x σ G (kLcL cjs is vs tt te x σ q) := rfl
variable {its : List Wv} {ok : HW → Prop}
end
end LF
/-! LF79: tables of all configurations of few pieces, by size: least ones, inner ones, calm; trials over such a table, locked or not -/
namespace LF
open PySem PySem.Spec PyProof.Rows L2
/-- fails, and nothing else of U within it does -/
def MinF (τ : Cf → Str) (U : List Cf) (p : Cf) : Prop := τ p = "fail" ∧ ∀ l ∈ U, lessL l p = [] → τ l = "fail" → l = p
instance (τ : Cf → Str) (U : List Cf) (p : Cf) : Decidable (MinF τ U p) := inferInstanceAs (Decidable (_ ∧ _))
/-! ### lists of ints against none -/
theorem r_neI0 {G : HW} {q : WK} {p r : Addr} {ns : List Int} (h1 : RdL G p (ns.map .int)) (h2 : RdL G r []) (z : q (.bl (!decide (ns = []))) G) : wNe (.ref p) (.ref r) G q :=
  r_ne (k := decide (ns = [])) (.lst h1 (dts_ints _)) (.lst h2 .nil) (shaped_intsL _) (shaped_intsL []) (by rw [PyData.eqv]; exact eqvAll_ints _ []) z
/-! ### a table's rows -/
/-! ### trials over a table, a lambda's cell being lent -/
end LF
/-! LF80: refusals of any kinds told; a test that is gone at some of its calls -/
namespace LF
open PySem PySem.Spec PyProof.Rows L2
local macro_rules | `(tactic| walk_at "pull") => `(tactic| first
  | exact Pull.head | exact Pull.tail Pull.head | exact Pull.tail (Pull.tail Pull.head) | exact Pull.tail (Pull.tail (Pull.tail Pull.head))
  | exact Pull.tail (Pull.tail (Pull.tail (Pull.tail Pull.head))) | exact Pull.tail (Pull.tail (Pull.tail (Pull.tail (Pull.tail Pull.head))))
  | exact Pull.tail (Pull.tail (Pull.tail (Pull.tail (Pull.tail (Pull.tail Pull.head))))) | exact Pull.tail (Pull.tail (Pull.tail (Pull.tail (Pull.tail (Pull.tail (Pull.tail Pull.head))))))
  | exact Pull.tail (Pull.tail (Pull.tail (Pull.tail (Pull.tail (Pull.tail (Pull.tail (Pull.tail Pull.head))))))) | exact Pull.tail (Pull.tail (Pull.tail (Pull.tail (Pull.tail (Pull.tail (Pull.tail (Pull.tail (Pull.tail Pull.head)))))))))
local macro_rules | `(tactic| walk_at "putp") => `(tactic| first
  | exact Put.head | exact Put.tail Put.head | exact Put.tail (Put.tail Put.head) | exact Put.tail (Put.tail (Put.tail Put.head))
  | exact Put.tail (Put.tail (Put.tail (Put.tail Put.head))) | exact Put.tail (Put.tail (Put.tail (Put.tail (Put.tail Put.head))))
  | exact Put.tail (Put.tail (Put.tail (Put.tail (Put.tail (Put.tail Put.head))))) | exact Put.tail (Put.tail (Put.tail (Put.tail (Put.tail (Put.tail (Put.tail Put.head))))))
  | exact Put.tail (Put.tail (Put.tail (Put.tail (Put.tail (Put.tail (Put.tail (Put.tail Put.head))))))))
local macro_rules | `(tactic| walk_at "sepm") => `(tactic| repeat (first | exact Sub.refl | refine Sub.pull (by walk_at "pull") ?_))
/-! ### a test that is gone at each far-th call -/
structure GoS where
  kn : List Cf
  lg : List Cf
  m : Int
structure GoneOk (far : Nat) (U : List Cf) (z : GoS) : Prop where
  nd : z.kn.Nodup
  inU : ∀ p ∈ z.kn, p ∈ U
  cnt : z.kn.length + z.lg.length / far = z.lg.length
  mm : (z.kn.length : Int) ≤ z.m
def goT (far : Nat) (z : GoS) (p : Cf) : GoS := if p ∈ z.kn then z else if (z.kn.length : Int) = z.m then z else if (z.lg.length + 1) % far = 0 then ⟨z.kn, z.lg ++ [p], z.m⟩ else ⟨z.kn ++ [p], z.lg ++ [p], z.m⟩
theorem div_succ {n k : Nat} (hk : 2 ≤ k) : ((n + 1) % k = 0 → (n + 1) / k = n / k + 1) ∧ ((n + 1) % k ≠ 0 → (n + 1) / k = n / k) := by
  constructor
  · intro h
    have := Nat.succ_div (a := n) (b := k)
    rw [this, if_pos (Nat.dvd_of_mod_eq_zero h)]
  · intro h
    have := Nat.succ_div (a := n) (b := k)
    rw [this, if_neg fun z => h (Nat.mod_eq_zero_of_dvd z), Nat.add_zero]
section
variable {far : Nat} {U : List Cf} {z : GoS} {p : Cf} {τ : Cf → Str} {Cs : SpB} {Cg : Addr}
theorem GoneOk.len (h : GoneOk far U z) (hf : 2 ≤ far) : z.kn.length ≤ U.length ∧ z.lg.length ≤ 2 * z.kn.length := by
  refine ⟨nodup_le h.nd h.inU, ?_⟩
  have h1 := h.cnt
  have h2 : z.lg.length / far ≤ z.lg.length / 2 := Nat.div_le_div_left hf (by omega)
  omega
theorem GoneOk.to (h : GoneOk far U z) (hf : 2 ≤ far) (hp : p ∈ U) : GoneOk far U (goT far z p) := by
  have d := div_succ (n := z.lg.length) hf
  have c := h.cnt
  unfold goT
  split
  · exact h
  split
  · exact h
  split
  · rename_i e
    have := d.1 e
    refine ⟨h.nd, h.inU, ?_, h.mm⟩
    show z.kn.length + (z.lg ++ [p]).length / far = (z.lg ++ [p]).length
    rw [List.length_append, List.length_singleton, this]
    omega
  · rename_i n1 n2 e
    have := d.2 e
    refine ⟨List.nodup_append.mpr ⟨h.nd, nd1 p, fun a ha b hb e2 => n1 (by rw [← List.mem_singleton.mp hb, ← e2]; exact ha)⟩, fun q hq => ?_, ?_, by show ((z.kn ++ [p]).length : Int) ≤ z.m; rw [List.length_append, List.length_singleton]; have := h.mm; omega⟩
    · exact (List.mem_append.mp hq).elim (h.inU q) fun y => by rw [List.mem_singleton.mp y]; exact hp
    · show (z.kn ++ [p]).length + (z.lg ++ [p]).length / far = (z.lg ++ [p]).length
      rw [List.length_append, List.length_append, List.length_singleton, this]
      omega
end
/-! ### l.count(x) -/
end LF
/-! LF81: what was heard; halvings over a test that is gone at times -/
namespace LF
open PySem PySem.Spec PyProof.Rows L2
local macro_rules | `(tactic| walk_at "pull") => `(tactic| first
  | exact Pull.head | exact Pull.tail Pull.head | exact Pull.tail (Pull.tail Pull.head) | exact Pull.tail (Pull.tail (Pull.tail Pull.head))
  | exact Pull.tail (Pull.tail (Pull.tail (Pull.tail Pull.head))) | exact Pull.tail (Pull.tail (Pull.tail (Pull.tail (Pull.tail Pull.head))))
  | exact Pull.tail (Pull.tail (Pull.tail (Pull.tail (Pull.tail (Pull.tail Pull.head))))) | exact Pull.tail (Pull.tail (Pull.tail (Pull.tail (Pull.tail (Pull.tail (Pull.tail Pull.head))))))
  | exact Pull.tail (Pull.tail (Pull.tail (Pull.tail (Pull.tail (Pull.tail (Pull.tail (Pull.tail Pull.head))))))) | exact Pull.tail (Pull.tail (Pull.tail (Pull.tail (Pull.tail (Pull.tail (Pull.tail (Pull.tail (Pull.tail Pull.head)))))))))
local macro_rules | `(tactic| walk_at "putp") => `(tactic| first
  | exact Put.head | exact Put.tail Put.head | exact Put.tail (Put.tail Put.head) | exact Put.tail (Put.tail (Put.tail Put.head))
  | exact Put.tail (Put.tail (Put.tail (Put.tail Put.head))) | exact Put.tail (Put.tail (Put.tail (Put.tail (Put.tail Put.head))))
  | exact Put.tail (Put.tail (Put.tail (Put.tail (Put.tail (Put.tail Put.head))))) | exact Put.tail (Put.tail (Put.tail (Put.tail (Put.tail (Put.tail (Put.tail Put.head))))))
  | exact Put.tail (Put.tail (Put.tail (Put.tail (Put.tail (Put.tail (Put.tail (Put.tail Put.head))))))))
local macro_rules | `(tactic| walk_at "sepm") => `(tactic| repeat (first | exact Sub.refl | refine Sub.pull (by walk_at "pull") ?_))
/-! ### how near the next verdict is -/
def rk (far : Nat) (z : GoS) : Nat := if (z.kn.length : Int) = z.m then 2 else if (z.lg.length + 1) % far = 0 then 1 else 0
/-- a halving of p -/
structure Hq where
  p : Cf
  h : Addr
  dx : Addr
  s : Hs
structure HqOk (τ : Cf → Str) (U kn : List Cf) (v : Hq) : Prop where
  cf : Cfg v.p 120
  ef : τ v.p = "fail"
  st : v.p ∈ kn
  way : ∃ (A B : List Cf) (s' : Hs), Steps τ ⟨.empty, v.p, 2, 0⟩ A v.s ∧ Steps τ v.s B s' ∧ s'.st = .over ∧ (∀ q ∈ A, q ∈ kn) ∧ ∀ q ∈ B, q ∈ U
theorem take_now (s : Hs) (fl : Bool) : (takeS s fl).now = s.now ∨ (fl = true ∧ (takeS s fl).now = s.upc) := by
  unfold takeS
  by_cases e : s.st = .empty
  · rw [if_pos e]
    have eu : s.upc = [] := by unfold Hs.upc; rw [e]
    cases fl
    · exact .inl rfl
    · exact .inr ⟨rfl, by rw [eu]; rfl⟩
  · rw [if_neg e]
    cases fl
    · rw [if_neg Bool.false_ne_true]
      refine .inl ?_
      split
      · unfold nothingS
        split
        · rfl
        · split <;> rfl
      · rfl
    · rw [if_pos rfl]
      exact .inr ⟨rfl, rfl⟩
theorem steps_fail {τ : Cf → Str} {s s' : Hs} {l : List Cf} (st : Steps τ s l s') : τ s.now = "fail" → τ s'.now = "fail" ∧ (s'.now = s.now ∨ s'.now ∈ l) := by
  induction st with
  | nil => exact fun h => ⟨h, .inl rfl⟩
  | @cons s s' l n _ ih =>
    intro h
    rcases take_now s (flB τ s.upc) with e | ⟨e1, e2⟩
    · obtain ⟨a, b⟩ := ih (by rw [e]; exact h)
      exact ⟨a, b.elim (fun y => .inl (y.trans e)) fun y => .inr (List.mem_cons_of_mem _ y)⟩
    · obtain ⟨a, b⟩ := ih (by rw [e2]; exact of_decide_eq_true e1)
      exact ⟨a, .inr (b.elim (fun y => by rw [y, e2]; exact List.mem_cons_self) fun y => List.mem_cons_of_mem _ y)⟩
section
variable {τ : Cf → Str} {U kn kn' : List Cf} {v : Hq}
theorem HqOk.mono (h : HqOk τ U kn v) (m : ∀ q ∈ kn, q ∈ kn') : HqOk τ U kn' v :=
  let ⟨A, B, s', h1, h2, h3, h4, h5⟩ := h.way
  ⟨h.cf, h.ef, m _ h.st, A, B, s', h1, h2, h3, fun q hq => m q (h4 q hq), h5⟩
theorem HqOk.ok (h : HqOk τ U kn v) : v.s.Ok := by
  obtain ⟨A, B, s', h1, _⟩ := h.way
  exact steps_ok h1 ⟨h.cf, trivial⟩
theorem HqOk.now (h : HqOk τ U kn v) : τ v.s.now = "fail" ∧ v.s.now ∈ kn := by
  obtain ⟨A, B, s', h1, _, _, h4, _⟩ := h.way
  obtain ⟨a, b⟩ := steps_fail h1 h.ef
  exact ⟨a, b.elim (fun y => by rw [y]; exact h.st) (h4 _)⟩
theorem HqOk.start {p : Cf} {h dx : Addr} {n : Nat} (cp : Cfg p n) (hn : n ≤ 120) (ef : τ p = "fail") (hp : p ∈ kn) : HqOk τ (allS n) kn ⟨p, h, dx, ⟨.empty, p, 2, 0⟩⟩ := by
  have c120 : Cfg p 120 := cp.mono (by omega)
  obtain ⟨l, s', h1, h2, _⟩ := steps_end τ _ ⟨.empty, p, 2, 0⟩ (Nat.le_refl _) ⟨c120, trivial⟩
  obtain ⟨_, _, _, h3⟩ := way_end c120 ef h1 h2
  exact ⟨c120, ef, hp, [], l, s', .nil, h1, h2, (fun _ h => nomatch h), fun q hq => allS_mem.mpr (cp.sub (h3 q hq))⟩
end
end LF
/-! LF82: lists of unlike lengths compared, whatever they hold -/
namespace LF
open PySem PySem.Spec PyProof.Rows L2
end LF
/-! LF83: reducers as runs along what they ask, as far as these go -/
namespace LF
open PySem PySem.Spec PyProof.Rows L2
abbrev Fx := Option (Value × List (Str × Wv))
section
variable {C : Addr} {Cs : SpB} {Cn : Addr} {cs : List CandF} {W : Wd C Cs cs} {τ : Cf → Str}
/-- what is asked in turn, until it is refused -/
inductive RunL (W : Wd C Cs cs) (τ : Cf → Str) : W.S → List Cf → W.S → Fx → Prop
  | done {z : W.S} : W.ok z → RunL W τ z [] z none
  | fail {z : W.S} {p : Cf} {l : List Cf} {c : Value} {fs : List (Str × Wv)} : W.ok z → W.out z p = .exc c fs → RunL W τ z (p :: l) (W.to z p) (some (c, fs))
  | step {z z' : W.S} {p : Cf} {l : List Cf} {e : Fx} : W.ok z → W.out z p = .val (.str (τ p)) → RunL W τ (W.to z p) l z' e → RunL W τ z (p :: l) z' e
theorem RunL.ok {z z' : W.S} {l : List Cf} {e : Fx} (h : RunL W τ z l z' e) : W.ok z := by cases h <;> assumption
theorem RunL.app {m : List Cf} {z' : W.S} {e : Fx} : ∀ {l : List Cf} {z : W.S}, RunL W τ z (l ++ m) z' e → (∃ z1, RunL W τ z l z1 none ∧ RunL W τ z1 m z' e) ∨ (RunL W τ z l z' e ∧ ∃ c fs, e = some (c, fs))
  | [], z, h => .inl ⟨z, .done h.ok, h⟩
  | p :: l, z, h => by
    cases h with
    | fail a b => exact .inr ⟨.fail a b, _, _, rfl⟩
    | step a b h =>
      rcases RunL.app (l := l) h with ⟨z1, h1, h2⟩ | ⟨h1, h2⟩
      · exact .inl ⟨z1, .step a b h1, h2⟩
      · exact .inr ⟨.step a b h1, h2⟩
/-! ### halving -/
/-! ### cutting down -/
/-! ### quickly -/
/-! ### all that fail lowest -/
/-! ### isolated -/
/-! ### papers -/
end
end LF
/-! LF84: things looked into: rows, papers -/
namespace LF
open PySem PySem.Spec PyProof.Rows L2
section
variable {K : PySem.W.Frag} {G G' : HW} {w : Wv}
def KnB (K : PySem.W.Frag) (G : HW) (n : Nat) (w : Wv) : Prop := Kn K G w ∧ ∀ ws, w = .tup ws → ws.length = n → ∀ y ∈ ws, Kn K G y
def KnRs (K : PySem.W.Frag) (G : HW) (n : Nat) (w : Wv) : Prop := Kn K G w ∧ ∀ ws, w = .tup ws → ws.length ≤ 1000 ∧ ∀ y ∈ ws, KnB K G n y
def KnPap (K : PySem.W.Frag) (G : HW) (w : Wv) : Prop := Kn K G w ∧ ∀ a b, w = .tup [a, b] → KnD K G 120 a ∧ KnRs K G 2 b
def KnRow (K : PySem.W.Frag) (G : HW) (w : Wv) : Prop := Kn K G w ∧ ∀ a b, w = .tup [a, b] → KnD K G 120 a ∧ Kn K G b
theorem KnB.ext (h : Ext G G') {n : Nat} (k : KnB K G n w) : KnB K G' n w := ⟨k.1.ext h, fun ws e l y m => (k.2 ws e l y m).ext h⟩
theorem KnRs.ext (h : Ext G G') {n : Nat} (k : KnRs K G n w) : KnRs K G' n w := ⟨k.1.ext h, fun ws e => ⟨(k.2 ws e).1, fun y m => ((k.2 ws e).2 y m).ext h⟩⟩
theorem KnPap.ext (h : Ext G G') (k : KnPap K G w) : KnPap K G' w := ⟨k.1.ext h, fun a b e => ⟨(k.2 a b e).1.ext h, (k.2 a b e).2.ext h⟩⟩
theorem KnRow.ext (h : Ext G G') (k : KnRow K G w) : KnRow K G' w := ⟨k.1.ext h, fun a b e => ⟨(k.2 a b e).1.ext h, (k.2 a b e).2.ext h⟩⟩
def isRow : Wv → Bool
  | .tup [a, b] => isConf a 120 && isVd b
  | _ => false
/-- what is no rows -/
inductive BadRows (K : PySem.W.Frag) (G : HW) : Wv → Prop
  | no {w : Wv} : (∀ G', Ext G G' → ∀ q : WK, q (.bl false) G' → wIsi K [w, .tup [.ty "list", .ty "tuple"]] G' q) → BadRows K G w
  | tup {ws : List Wv} : ws.length ≤ 100000 → (∀ y ∈ ws, KnRow K G y) → (∃ y ∈ ws, isRow y = false) → BadRows K G (.tup ws)
  | lst {a : Addr} {ws : List Wv} : RdL G a ws → ws.length ≤ 100000 → (∀ y ∈ ws, KnRow K G y) → (∃ y ∈ ws, isRow y = false) → BadRows K G (.ref a)
  | two {w : Wv} {rows : List Rw} : KnW G w rows → rows.length ≤ 100000 → (∀ x ∈ rows, Cfg x.1 120 ∧ vdS x.2) → ¬ (rows.map (·.1)).Nodup → BadRows K G w
theorem BadRows.ext (e : Ext G G') (h : BadRows K G w) : BadRows K G' w := by
  cases h with
  | no h => exact .no fun G2 x => h G2 (e.trans x)
  | tup l k b => exact .tup l (fun y hy => (k y hy).ext e) b
  | lst h l k b => exact .lst (RdL.ext e h) l (fun y hy => (k y hy).ext e) b
  | two h l k b => exact .two (h.ext e) l k b
def eqI : Wv → Int → Bool
  | .int i, k => decide (i = k)
  | _, _ => false
/-- what can be compared with a number -/
def CmpI (G : HW) (u : Wv) : Prop := isBl u = true ∨ ∀ (k : Int) (q : WK) G', Ext G G' → q (.bl (!eqI u k)) G' → wNe u (.int k) G' q
def CmpP (G : HW) (P : Wv) : Prop := ∀ a ws, P = .tup [a, .tup ws] → ∀ y ∈ ws, ∀ u v, y = .tup [u, v] → CmpI G u ∧ (v = .non ∨ ∃ s, v = .str s)
theorem CmpI.ext {u : Wv} (e : Ext G G') (h : CmpI G u) : CmpI G' u := h.imp id fun h k q G2 x z => h k q G2 (e.trans x) z
theorem CmpP.ext {P : Wv} (e : Ext G G') (h : CmpP G P) : CmpP G' P := fun a ws eq y hy u v ey => ⟨(h a ws eq y hy u v ey).1.ext e, (h a ws eq y hy u v ey).2⟩
/-- things near papers, as a law bends them -/
def PartsOk (K : PySem.W.Frag) (G : HW) (a : Wv) : Prop := Kn K G a ∧ ∀ us, a = .tup us → us.length ≤ 1000 ∧ ∀ y ∈ us, Kn K G y
def RowOk (K : PySem.W.Frag) (G : HW) (y : Wv) : Prop := Kn K G y ∧ ∀ zs, y = .tup zs → (∀ z ∈ zs, Kn K G z) ∧ ∀ u v, zs = [u, v] → CmpI G u ∧ (v = .non ∨ ∃ s, v = .str s)
def RowsOk (K : PySem.W.Frag) (G : HW) (b : Wv) : Prop := Kn K G b ∧ ∀ ws, b = .tup ws → ws.length ≤ 1000 ∧ ∀ y ∈ ws, RowOk K G y
def OddP (K : PySem.W.Frag) (G : HW) (y : Wv) : Prop := Kn K G y ∧ ∀ a b, y = .tup [a, b] → PartsOk K G a ∧ RowsOk K G b
theorem OddP.parts (h : OddP K G w) : ∀ a b, w = .tup [a, b] → KnD K G 1000 a ∧ ∀ us, a = .tup us → us.length ≤ 1000 := fun a b e => ⟨⟨(h.2 a b e).1.1, fun us ea _ => ((h.2 a b e).1.2 us ea).2⟩, fun us ea => ((h.2 a b e).1.2 us ea).1⟩
theorem RowOk.ext {y : Wv} (e : Ext G G') (h : RowOk K G y) : RowOk K G' y := ⟨h.1.ext e, fun zs ez => ⟨fun z hz => ((h.2 zs ez).1 z hz).ext e, fun u v x => ⟨((h.2 zs ez).2 u v x).1.ext e, ((h.2 zs ez).2 u v x).2⟩⟩⟩
theorem OddP.ext (e : Ext G G') (h : OddP K G w) : OddP K G' w := ⟨h.1.ext e, fun a b z => ⟨⟨(h.2 a b z).1.1.ext e, fun us eu => ⟨((h.2 a b z).1.2 us eu).1, fun y hy => (((h.2 a b z).1.2 us eu).2 y hy).ext e⟩⟩, (h.2 a b z).2.1.ext e, fun ws ew => ⟨((h.2 a b z).2.2 ws ew).1, fun y hy => (((h.2 a b z).2.2 ws ew).2 y hy).ext e⟩⟩⟩
/-! papers of closed ones in worlds of trials -/
/-- what is no trials, no links, no closed configuration -/
inductive BadC (C : Addr) (K : PySem.W.Frag) (G : HW) : List Wv → Str → Prop
  | tri {y z : Wv} : BadC C K G [.non, y, z] "trials"
  | lks {t dx : Addr} {fs : List (Str × Wv)} {y z : Wv} : G t = some (.ins C dx fs) → KnL K G y → isLks y 120 = false → BadC C K G [.ref t, y, z] "links"
  | prt {t dx : Addr} {fs : List (Str × Wv)} {L : Lk} {z : Wv} : G t = some (.ins C dx fs) → GoodL L 120 → KnD K G 120 z → isConf z 120 = false → BadC C K G [.ref t, .tup (L.map tup2), z] "parts"
  | cls {t dx : Addr} {fs : List (Str × Wv)} {L : Lk} {p : Cf} : G t = some (.ins C dx fs) → GoodL L 120 → Cfg p 120 → ¬ ClosedL L p → BadC C K G [.ref t, .tup (L.map tup2), .tup (p.map .int)] "parts"
theorem BadC.ext {C : Addr} {ws : List Wv} {s : Str} (e : Ext G G') (h : BadC C K G ws s) : BadC C K G' ws s := by
  cases h with
  | tri => exact .tri
  | lks h k l => exact .lks (e _ _ h) (k.ext e) l
  | prt h g k l => exact .prt (e _ _ h) g (k.ext e) l
  | cls h g k l => exact .cls (e _ _ h) g k l
theorem BadC.len {C : Addr} {ws : List Wv} {s : Str} (h : BadC C K G ws s) : ws.length = 3 := by cases h <;> rfl
end
end LF
/-! LF85: sorted(set(t)) of tuples of ints, no two alike -/
namespace LF
open PySem PySem.Spec PyProof.Rows L2
section
variable {P : Program} {w : World} {A : Around} {E : Value → Shared → Prop} {s : Shared} {a : Addr} {L : List (Addr × List Int)} {es : Array (Int × Value)} {ep : Nat} {t : SetTable}
set_option maxHeartbeats 4000000 in
/-- set(l), no two of l alike -/
theorem sr_callT {l : Addr} {items : Array Value} (ks : List (Addr × List Int)) {Q : Value → Shared → Prop} (hh : A.handled = none) (hl : s.heap.IsTuple l items) (hit : items.toList = ks.map fun p => Value.ref p.1) (hk : ∀ p ∈ ks, IsT P w s.heap p.2 p.1) (nd : (ks.map (·.2)).Nodup) (hf : ks.length ≤ 1200) (hu : A.units + 3 < cLine)
    (h : ∀ (h' : Heap) (tk : Nat) L es ep t, SR P w h' s.heap.objs.size L es ep t → L.Perm ks → (∀ b o, s.heap.get? b = some o → h'.get? b = some o) → Q (.ref s.heap.objs.size) { s with heap := h', toks := tk }) : wpAny (model P w) A (call (.type "set") [.ref l]) Q E s := by
  have hz : items.size = ks.length := by
    have q := congrArg List.length hit
    rw [Array.length_toList] at q
    exact q.trans (List.length_map ..)
  obtain ⟨c, tl, hmro⟩ := F.called_set.mro
  have m1 := F.called_set.made; have m2 := F.called_set.sub; have m3 := F.called_set.notType; have m4 := F.called_set.canCreate; have m5 := F.typeCall_set_1 (.ref l)
  refine wpAny_call (codeAny_of_tree ?_); show wpAny _ _ (callAny (.type "set") _) _ _ _; refine wpAny_pure ⟨Code.quiet_builtin _ (by decide +kernel), codeAny_builtin F.entry_type_call ?_⟩
  rw [Around.under_plain (weight_type_call_type "set" [.ref l] []) rfl]; repeat (any_goals (first | assumption | wp_step))
  refine codeAny_mono (code_set_led1 (.ref l) (E := E) (Q₁ := fun obj s₁ => obj = .ref s.heap.objs.size ∧ s₁ = { s with heap := s.heap.push (mtS w) }) ⟨rfl, rfl⟩) fun r s₁ hr => ?_
  rcases r with e | fl
  · exact hr
  · cases fl with
    | ret obj =>
      obtain ⟨rfl, rfl⟩ := hr
      have hS : (s.heap.push (mtS w)).get? s.heap.objs.size = some (mtS w) := Heap.get?_push_size _ rfl
      have hT : Shared.TypeIs { s with heap := s.heap.push (mtS w) } (.ref s.heap.objs.size) "set" := ⟨_, hS, rfl⟩
      have m6 := F.called_set.init.lookup; have m7 := F.called_set.init.bind (.ref s.heap.objs.size)
      repeat (any_goals (first | assumption | wp_step))
      refine codeAny_mono (codeAny_call_builtin (R := wants (fun r s₂ => r = .none ∧ ∃ h' tk L es ep t, s₂ = { s with heap := h', toks := tk } ∧ SR P w h' s.heap.objs.size L es ep t ∧ L.Perm ks ∧ (∀ b o, s.heap.get? b = some o → h'.get? b = some o)) E) F.called_set.init.plain F.entry_set_init (check_set_init_1 hT ?_)) fun r₂ s₂ hr₂ => ?_
      · obtain ⟨ol, hol, hcl, nl, hdl⟩ := hl
        obtain ⟨oc, od, oda, osl⟩ := ol
        simp only at hcl hdl
        subst hcl; subst hdl
        have hol' : (s.heap.push (mtS w)).get? l = some { cls := .type "tuple", dict := od, data := .seq items nl, slots := osl } := Heap.get?_push_of_some _ hol
        have n1 := F.sub_tuple_set; have n2 := F.sub_tuple_frozenset; have n3 : (Value.type "tuple" == Value.type "dict") = false := by decide
        have hl1 : (s.heap.push (mtS w)).IsTuple l items := ⟨_, hol', rfl, nl, rfl⟩
        unfold Builtin.«set.__init__» noKeywords Builtin.Frozenset.updateFrom
        generalize hPI : pyIter = PI; wp_walk; subst hPI
        refine wpAny_pyIter_tuple hl1 ?_; refine wpAny_bind (wpAny_runValue ?_)
        have ls : l < s.heap.objs.size := Heap.lt_size hol
        have h3 : A.in1.in1.in1.handled = none := by simp [hh]
        have nI : l ≠ (s.heap.push (mtS w)).objs.size := by rw [Heap.size_push]; exact Nat.ne_of_lt (Nat.lt_succ_of_lt ls)
        have nS : s.heap.objs.size ∉ [(s.heap.push (mtS w)).objs.size, l] := by
          rw [Heap.size_push]; simp only [List.mem_cons, List.mem_singleton, List.not_mem_nil, or_false, not_or]; exact ⟨Nat.ne_of_lt (Nat.lt_succ_self _), Nat.ne_of_gt ls⟩
        have hv : ∀ (i : Nat) (v : Value), items[i]? = some v → ∃ p, ks[i]? = some p ∧ v = .ref p.1 := fun i v e => by
          have q : (ks.map fun p => Value.ref p.1)[i]? = some v := by rw [← hit, Array.getElem?_toList]; exact e
          rw [List.getElem?_map] at q
          obtain ⟨p, e1, e2⟩ := Option.map_eq_some_iff.mp q
          exact ⟨p, e1, e2.symm⟩
        refine sr_loop ((Walks.tuple h3 _ l nI items).toS) s.heap.objs.size nS ks hz hf nd hv s.heap hk (none_hi (Nat.le_refl _)) (fun b hb => none_hi (by rw [List.mem_singleton.mp hb, Heap.size_push]; exact Nat.le_succ _)) hu (items.size - 0) 0 _ (by omega) (Nat.zero_le _)
          ⟨⟨_, Heap.get?_push_size _ rfl, rfl, rfl⟩, (hl1.push _)⟩ (fun b o e => Heap.get?_push_of_some _ (Heap.get?_push_of_some _ e)) ?inA ?inB
        case inA => exact ⟨[], #[], 0, _, sr_new (Heap.get?_push_of_some _ hS), .refl _⟩
        case inB =>
          intro s' L es ep t hm r pm kp
          obtain ⟨h', g2, d', tk', os'⟩ := s'
          cases (show g2 = s.gens from hm.gens); cases (show d' = s.drawn from hm.drawn); cases (show os' = s.os from hm.os)
          show wpAny _ _ _ _ _ _
          refine wpAny_pure ?_
          show wpAny _ _ (ret Value.none) _ _ _
          exact wpAny_pure ⟨rfl, h', tk', L, es, ep, t, rfl, r, pm, kp⟩
      · rcases r₂ with e | fl₂
        · exact hr₂
        · cases fl₂ with
          | ret r =>
            obtain ⟨rfl, h', tk, L, es, ep, t, rfl, r, pm, kp⟩ := hr₂
            repeat (any_goals (first | assumption | wp_step))
            exact h h' tk L es ep t r pm kp
          | _ => exact hr₂.elim
    | _ => exact hr.elim
theorem rows_vals : ∀ L : List (Addr × List Int), (rowsOf P w L).map (·.2) = L.map fun p => Value.ref p.1 := fun L => by
  unfold rowsOf
  rw [List.map_map]
  rfl
theorem sr_sorted {k : Value → List Int} {Q : Value → Shared → Prop} (R : SR P w s.heap a L es ep t) (hh : A.handled = none) (hu : A.in1.in1.units < cLine) (hl : L.length ≤ 1200) (hk : ∀ p ∈ L, TS.TupInts s.heap (.ref p.1) (k (.ref p.1)))
    (hQ : ∀ s' p (out : List Value) (c : Nat), (∀ b o, s.heap.get? b = some o → s'.heap.get? b = some o) → s'.gens = s.gens → s'.os = s.os → s.heap.objs.size ≤ p → s'.heap.get? p = some (seqObj "list" out.toArray c) → out.Perm (L.map fun p => Value.ref p.1) → SrtO.Srtd (fun v u => HT.lexLt (k v) (k u)) out → Q (.ref p) s') : wpAny (model P w) A (call (.builtin "sorted") [.ref a]) Q E s := by
  obtain ⟨o, ho, hex, hdd⟩ := R.at_
  have sz := R.count
  refine Calls.call_function_entry kind_sorted plain_sorted entry_sorted (args_sorted1 _) ?_
  unfold Builtin.«sorted»
  refine wpAny_bind (m := checkCount "sorted" 1 1 _) (wpAny_pure (wpAny_bind (collect_set (A := A.in1) hh ⟨o, ho, hex.1, hdd⟩ R.fit (by rw [sz]; unfold scanBound; omega) R.tb.ris R.ld fun s1 vs k1 hz g1 o1 pm => ?_)))
  rw [show es.toList.map (·.2) = L.map fun p => Value.ref p.1 from by rw [R.ro]; exact rows_vals L] at pm
  have hvl : vs.length = L.length := by rw [pm.length_eq, List.length_map]
  have hvz : vs.length ≤ sizeLine := by rw [hvl, sizeLine_eq]; omega
  have hoL : (s1.heap.push (seqObj "list" vs.toArray 0)).get? s1.heap.objs.size = some (seqObj "list" vs.toArray 0) := Heap.get?_push_size _ rfl
  refine wpAny_bind (wpAny_newList ?_ hvz)
  refine wpAny_bind (wpAny_holding (wpAny_call_entry slot_list_sort ⟨_, hoL, rfl⟩ entry_list_sort (SrtO.list_sort_ord (NtL.swo_lexL k) hoL hvz (fun h2 => ?_) fun out a1 a2 => ⟨_, rfl, ?_⟩) (args_list_sort _)))
  · refine sortable_tups (s := { s1 with heap := s1.heap.push (seqObj "list" vs.toArray 0) }) hu h2 (fun v hm => ?_) fun o e => ?_
    · obtain ⟨p, hp, rfl⟩ := List.mem_map.mp (pm.mem_iff.mp hm)
      exact (hk p hp).keeps fun b o e _ => Heap.get?_push_of_some _ (k1 b o e)
    · have e' : some o = some (seqObj "list" vs.toArray 0) := e.symm.trans hoL
      cases e'
      intro c
      exact absurd (Value.type.inj c) (by decide)
  · obtain ⟨c, hc⟩ := sortedHeap_at (vs := vs) (out := out.toArray) hoL
    refine wpAny_pure ⟨_, rfl, hQ _ s1.heap.objs.size out c (fun b u e => ?_) g1 o1 hz hc (a2.perm.trans pm) a1⟩
    have q := k1 b u e
    show (sortedHeap (s1.heap.push (seqObj "list" vs.toArray 0)) s1.heap.objs.size vs out.toArray).get? b = some u
    rw [sortedHeap_old (Nat.ne_of_lt (Heap.lt_size q)) (by rw [size_push']; exact Nat.lt_succ_of_lt (Heap.lt_size q))]
    exact Heap.get?_push_of_some _ q
end
section
variable {X : Cx} {Wx : WX} {e : Expr} {te : ET} {p p2 pos pos2 : Pos}
def wSSetC : Wv → HW → WK → Prop := fun w G q => ∃ cs : List Cf, (w = .tup (cs.map cfW) ∨ ∃ p, w = .ref p ∧ RdL G p (cs.map cfW)) ∧ cs.Nodup ∧ cs.length ≤ 1200 ∧ ∀ cs' : List Cf, cs'.Perm cs → RiseC cs' → ∀ l, G l = none → q (.ref l) (updO G l (.lst (cs'.map cfW)))
def eSSetC (te : ET) : ET := fun x σ G q => te x σ G fun w G1 => wSSetC w G1 q
theorem z_ssetC (hc : X.calm = true) (hu : X.A.units + 64 < cLine) (hg : Gl X "sorted") (hm : X.mg "sorted" = none) (hg2 : Gl X "set") (hm2 : X.mg "set" = none) (he : EW X Wx e te) (na : starEach [e] X.env = (false, eval e X.env) :: starEach [] X.env := by rfl) :
    EW X Wx (.Call (.Name "sorted" p) [.Call (.Name "set" p2) [e] [] pos2] [] pos) (eSSetC te) := by
  refine ⟨fun pins s σ H Q I h => ?_⟩
  obtain ⟨σw, G, xw, q, rs, rh, px, po, h⟩ := h
  refine Call_ (ld_blt I hg hm boot_sorted ?_)
  refine PyProof.Rows.callWith_builtin1 (PyProof.Rows.args_cons ?_ rfl) rfl rfl
  refine Call_ (ld_blt I hg2 hm2 boot_set ?_)
  refine PyProof.Rows.callWith_type1 (PyProof.Rows.args_cons (thn (he.run pins s σ H (fun v H1 => ∃ w G1, TX X.K H H1 ∧ RW X.K H1 w v ∧ RH X.K G1 H1 ∧ wSSetC w G1 q) I ⟨σw, G, xw, _, rs, rh, px, fun w G1 v H1 t1 r1 rh1 h1 => ⟨w, G1, t1, r1, rh1, h1⟩, h⟩) fun v s1 ⟨x, H1, I1, rx, w, G1, t1, r1, rh1, h1⟩ => PyProof.Rows.args_nil ?_) na) na rfl
  obtain ⟨cs, hw, nd, lc, hq⟩ := h1
  have fin : ∀ (ks : List (Addr × List Int)) (h' : Heap) (tk : Nat) (L : List (Addr × List Int)) (es : Array (Int × Value)) (ep : Nat) (t : SetTable), ks.map (·.2) = cs → (∀ p ∈ ks, H1 p.1 = some (.tup (p.2.map V.int))) → SR X.prog X.w h' s1.heap.objs.size L es ep t → L.Perm ks → (∀ b o, s1.heap.get? b = some o → h'.get? b = some o) →
      wpAny (model X.prog X.w) X.A (call (.builtin "sorted") [.ref s1.heap.objs.size]) (EP X pins σ Q) X.xe { s1 with heap := h', toks := tk } := fun ks h' tk L es ep t ek hk R pm kp => by
    have I2 : Inv X pins σ H1 { s1 with heap := h', toks := tk } := I1.kept fun b o z => kp b o z
    have hd := I2.ok.hd hc
    have lL : L.length = cs.length := by rw [pm.length_eq, ← ek, List.length_map]
    have kin : ∀ p ∈ L, RW X.K H1 (cfW p.2) (.ref p.1) := fun p hp => .tup (hk p (pm.mem_iff.mp hp)) (RWs.ofInts p.2)
    have ka : ∀ p ∈ L, cfAt H1 (backV (.ref p.1)) = p.2 := fun p hp => by
      obtain ⟨t', et, ht, ec⟩ := rw_cf (kin p hp)
      cases et
      exact ec
    refine sr_sorted (s := { s1 with heap := h', toks := tk }) (k := fun u => cfAt H1 (backV u)) R hd (by
      have : X.A.in1.in1.units ≤ X.A.units + 64 := by unfold Around.in1; dsimp only; omega
      omega) (by omega) (fun p hp => ?_) fun s' q0 out c k2 g2 o2 hp ho po2 hs => ?_
    · have e := ka p hp
      show TS.TupInts _ _ (cfAt H1 (backV (.ref p.1)))
      rw [e]
      obtain ⟨its, rv, pt, hz⟩ := I2.tuple (SqT.of (hk p (pm.mem_iff.mp hp)))
      exact ⟨p.1, its.toArray, rfl, pt, by simpa using intsAre_of rv⟩
    · have h3 : ∀ u ∈ out, ∃ a, u = Value.ref a := fun u hu => by
        obtain ⟨p, _, rfl⟩ := List.mem_map.mp (po2.mem_iff.mp hu)
        exact ⟨_, rfl⟩
      have pb : (out.map backV).Perm (L.map fun p => V.ref p.1) := by
        have z := po2.map backV
        rw [List.map_map] at z
        exact z
      have hn : H1 q0 = none := I2.hok.fresh hp
      have hsz : (out.map backV).length ≤ sizeLine := by rw [pb.length_eq, List.length_map, lL, sizeLine_eq]; omega
      have J : Inv X pins σ (upd H1 q0 (.lst (out.map backV))) { ({ s1 with heap := h', toks := tk } : Shared) with heap := s'.heap, gens := s'.gens, drawn := s'.drawn, toks := s'.toks } :=
        I2.call (ch := []) (Un.laid k2 hp hn) (I2.hok.laid k2 hp ⟨hsz, out, c, vals_back h3, ho⟩) (by rw [g2]; exact I2.bare) (fun _ z => nomatch z)
      have es : s' = { ({ s1 with heap := h', toks := tk } : Shared) with heap := s'.heap, gens := s'.gens, drawn := s'.drawn, toks := s'.toks } := by
        cases s'
        cases o2
        rfl
      have hrp2 : ∀ v ∈ out.map backV, ∃ c, RW X.K H1 (cfW c) v := fun v hm => by
        obtain ⟨p, hp, rfl⟩ := List.mem_map.mp (pb.mem_iff.mp hm)
        exact ⟨p.2, kin p hp⟩
      have pp : ((out.map backV).map (cfAt H1)).Perm cs := by
        have z := pb.map (cfAt H1)
        have e : (L.map fun p => V.ref p.1).map (cfAt H1) = L.map (·.2) := by
          rw [List.map_map]
          exact List.map_congr_left fun p hp => ka p hp
        rw [e] at z
        rw [← ek]
        exact z.trans (pm.map (·.2))
      have ris : RiseC ((out.map backV).map (cfAt H1)) := by
        unfold RiseC
        rw [List.pairwise_map, List.pairwise_map]
        exact hs
      rw [es]
      exact ⟨.ref q0, _, J, rfl, po _ _ _ _ (t1.trans (TX.new hn)) (.ref q0) (rh1.newL hn (rws_of_cfs hrp2)) (hq _ pp ris q0 (rh1.fresh hn))⟩
  rcases hw with rfl | ⟨p, rfl, hl⟩
  · cases r1 with
    | @tup p0 xs ws hb rr =>
      cases rx
      obtain ⟨ks, rfl, ek, hk⟩ := cfs_ks rr
      obtain ⟨its, rv, pt, hz⟩ := I1.tuple (SqT.of hb)
      refine sr_callT (P := X.prog) (w := X.w) ks (I1.ok.hd hc) (show s1.heap.IsTuple p0 its.toArray from pt) (by simpa using refs_of_vals rv) (fun p hp => I1.isT (SqT.of (hk p hp))) (by rw [ek]; exact nd) (by rw [← ek, List.length_map] at lc; exact lc) (by omega) fun h' tk L es ep t R pm kp => PyProof.Rows.args_nil ?_
      exact fin ks h' tk L es ep t ek hk R pm kp
  · cases r1
    cases rx
    obtain ⟨xs, sq, rr⟩ := rh1.rdl hl
    obtain ⟨ks, rfl, ek, hk⟩ := cfs_ks rr
    obtain ⟨its, rv, pl, hz⟩ := I1.list sq
    refine sr_call (P := X.prog) (w := X.w) ks (I1.ok.hd hc) pl.isList (by simpa using refs_of_vals rv) (fun p hp => I1.isT (SqT.of (hk p hp))) (by rw [ek]; exact nd) (by rw [← ek, List.length_map] at lc; exact lc) (by omega) fun h' tk L es ep t R pm kp => PyProof.Rows.args_nil ?_
    exact fin ks h' tk L es ep t ek hk R pm kp
variable {x : XW} {σ : SW} {G : HW} {q : WK}
def kSSetC (q : WK) : WK := fun w G => wSSetC w G q
theorem m_SSetC : eSSetC te x σ G q = te x σ G (kSSetC q) := rfl
theorem r_ssetL {p : Addr} {cs : List Cf} (h : RdL G p (cs.map cfW)) (nd : cs.Nodup) (hl : cs.length ≤ 1200) (z : ∀ cs' : List Cf, cs'.Perm cs → RiseC cs' → ∀ l, G l = none → q (.ref l) (updO G l (.lst (cs'.map cfW)))) : kSSetC q (.ref p) G := ⟨cs, .inr ⟨p, rfl, h⟩, nd, hl, z⟩
end
theorem cutL_from {α : Type} (l : List α) (n : Nat) : cutL l (some (n : Int)) none = l.drop n := by
  unfold cutL
  rw [show HT.sIx l.length l.length none = l.length from rfl, HT.sIx_nat]
  by_cases h : n ≤ l.length
  · rw [Nat.min_eq_left h, List.take_of_length_le (by rw [List.length_drop]; exact Nat.le_refl _)]
  · rw [Nat.min_eq_right (by omega), List.drop_of_length_le (Nat.le_refl _), List.drop_of_length_le (by omega), List.take_nil]
def prOf : Cf → Int × Int
  | [a, b] => (a, b)
  | _ => (0, 0)
theorem lks_of_rise {L : Lk} {cs : List Cf} (pm : cs.Perm (L.map fun p => [p.1, p.2])) (nd : L.Nodup) (rise : RiseC cs) : ∃ L2 : Lk, cs = L2.map (fun p => [p.1, p.2]) ∧ L2.Perm L ∧ L2.Pairwise ltPr := by
  have e1 : ∀ L : Lk, (L.map fun p => [p.1, p.2]).map prOf = L := fun L => by
    rw [List.map_map]
    exact List.map_id'' (fun p => rfl) L
  have p2 := pm.map prOf
  rw [e1] at p2
  have ec : cs = (cs.map prOf).map fun p => [p.1, p.2] := by
    rw [List.map_map]
    refine (List.map_id' cs).symm.trans (List.map_congr_left fun c hc => ?_)
    obtain ⟨p, _, rfl⟩ := List.mem_map.mp (pm.mem_iff.mp hc)
    rfl
  refine ⟨cs.map prOf, ec, p2, ?_⟩
  have nd2 := p2.nodup_iff.mpr nd
  unfold RiseC at rise
  rw [ec, List.pairwise_map] at rise
  refine (rise.and nd2).imp fun {a b} ⟨h1, h2⟩ => ?_
  obtain ⟨a1, a2⟩ := a
  obtain ⟨b1, b2⟩ := b
  have h1 : ¬ ltPr (b1, b2) (a1, a2) := fun z => by rw [lexLt_pair.mpr z] at h1; cases h1
  have h2 : ¬ (a1 = b1 ∧ a2 = b2) := fun z => h2 (by rw [z.1, z.2])
  unfold ltPr at h1 ⊢
  dsimp only at h1 ⊢
  omega
end LF
/-! LF86: sorted(set(l)) of a list of ints -/
namespace LF
open PySem PySem.Spec PyProof.Rows L2
section
variable {X : Cx} {Wx : WX} {e : Expr} {te : ET} {p p2 pos pos2 : Pos}
def wSSetI : Wv → HW → WK → Prop := fun w G q => ∃ (p : Addr) (ns : List Int), w = .ref p ∧ RdL G p (ns.map .int) ∧ ns.length ≤ 1000 ∧ ∀ out : List Int, out.Pairwise (· < ·) → (∀ k, k ∈ out ↔ k ∈ ns) → ∀ l, G l = none → q (.ref l) (updO G l (.lst (out.map .int)))
def eSSetI (te : ET) : ET := fun x σ G q => te x σ G fun w G1 => wSSetI w G1 q
variable {x : XW} {σ : SW} {G : HW} {q : WK}
def kSSetI (q : WK) : WK := fun w G => wSSetI w G q
theorem m_SSetI : eSSetI te x σ G q = te x σ G (kSSetI q) := rfl
end
end LF
/-! LF87: what is refused ahead of all: no trials, no configuration -/
namespace LF
open PySem PySem.Spec PyProof.Rows L2
/-- of another class -/
def NotC (K : PySem.W.Frag) (C : Addr) (G : HW) (w : Wv) : Prop := ∃ t, TyW K G w t ∧ PySem.W.kitOne K t (.ref C) = some false
theorem NotC.ext {K : PySem.W.Frag} {C : Addr} {G G' : HW} {w : Wv} (h : Ext G G') (y : NotC K C G w) : NotC K C G' w := let ⟨t, a, e⟩ := y; ⟨t, a.ext h, e⟩
/-- no trials, or no configuration -/
inductive RfH (K : PySem.W.Frag) (C : Addr) (G : HW) : Wv → Wv → Str → Prop
  | tri {w w2 : Wv} : NotC K C G w → RfH K C G w w2 "trials"
  | prt {t dx : Addr} {fs : List (Str × Wv)} {w2 : Wv} : G t = some (.ins C dx fs) → KnD K G 120 w2 → isConf w2 120 = false → RfH K C G (.ref t) w2 "parts"
theorem RfH.ext {K : PySem.W.Frag} {C : Addr} {G G' : HW} {w w2 : Wv} {s : Str} (h : Ext G G') (r : RfH K C G w w2 s) : RfH K C G' w w2 s := by
  cases r with
  | tri n => exact .tri (n.ext h)
  | prt e k f => exact .prt (h _ _ e) (k.ext h) f
/-! ### told -/
/-! ### nested tuples -/
/-! ### drawn from a list -/
/-- where A stands, w is no count -/
def OddN (K : PySem.W.Frag) (A : Ass) (w : Wv) : Prop := isWh w 0 1000000 = false ∧ ∀ h, A h → Kn K h w
/-! ### one core -/
theorem OddN.kn {K : PySem.W.Frag} {A : Ass} {w : Wv} {G : HW} {F : List Ass} (o : OddN K A w) (s : Sep (A :: F) G) : Kn K G w := by
  obtain ⟨h, hA, ex, _⟩ := s
  exact (o.2 h hA).ext ex
/-! ### a lambda of one core -/
end LF
/-! LF88: exceptions as values; built-in ones raised; except clauses by one class -/
namespace PySem
end PySem
namespace LF
open PySem PySem.Spec PyProof.Rows L2
/-! ### an exception as a value -/
/-- made, and held -/
def eExV (t : MT) : ET := fun x σ G q => t x σ G fun cls fs G1 => ∀ a, G1 a = none → q (.ref a) (updO G1 a (.exc a cls fs))
def kExV (q : WK) : Value → List (Str × Wv) → HW → Prop := fun cls fs G1 => ∀ a, G1 a = none → q (.ref a) (updO G1 a (.exc a cls fs))
theorem m_ExV {t : MT} {x : XW} {σ : SW} {G : HW} {q : WK} : eExV t x σ G q = t x σ G (kExV q) := rfl
/-! ### raise T('m'), T built in -/
def mkT (T : String) : MT := fun x σ G q => q (.type T) [] G
theorem m_mkT {T : String} {x : XW} {σ : SW} {G : HW} {rq : Value → List (Str × Wv) → HW → Prop} : mkT T x σ G rq = rq (.type T) [] G := rfl
/-! ### several except clauses, each of one class, without a name -/
def wManyS (K : PySem.W.Frag) (D : EndsW) : List (Value × ST) → XW
  | [] => D.ex
  | (c, ts) :: r => fun cls fs σ G => ∃ b, PySem.W.exmOne K cls c = some b ∧ (b = true → ts { D with ex := fun _ _ _ _ => False } σ G) ∧ (b = false → wManyS K D r cls fs σ G)
/-- try: tb / except c1: ts1 / except c2: ts2 .. -/
def sTryN (K : PySem.W.Frag) (l : List (Value × ST)) (tb : ST) : ST := fun D σ G => tb { D with ex := wManyS K D l } σ G
/-- the clauses' readings -/
inductive HdsW (X : Cx) : List ExceptHandler → List (Value × ST) → Prop
  | nil : HdsW X [] []
  | cons {x : Str} {c : Value} {ts : ST} {b₀ : Stmt} {suite : List Stmt} {np pos' : Pos} {hds : List ExceptHandler} {l : List (Value × ST)} (hc : Names X x c)
      (hsu : ∀ (a : Addr) (pn : List (Addr × Obj)), TWs (X.suite a pn) W0 (b₀ :: suite) ts) (r : HdsW X hds l) : HdsW X (.ExceptHandler (some (.Name x np)) none (b₀ :: suite) pos' :: hds) ((c, ts) :: l)
theorem HdsW.ok {X : Cx} : ∀ {hds : List ExceptHandler} {l : List (Value × ST)}, HdsW X hds l → HdsOk X hds (l.map fun p => (p.1, fun _ _ _ => embS X.K W0 p.2))
  | _, _, .nil => .nil
  | _, _, .cons hc hsu r => .cons hc (fun a oe cls d pn _ _ => hsu a _) r.ok
section
variable {K : PySem.W.Frag} {D : EndsW} {l : List (Value × ST)} {tb : ST} {σ : SW} {G : HW} {cls c : Value} {fs : List (Str × Wv)} {ts : ST}
def kTryN (K : PySem.W.Frag) (l : List (Value × ST)) (D : EndsW) : EndsW := { D with ex := wManyS K D l }
theorem m_TryN : sTryN K l tb D σ G = tb (kTryN K l D) σ G := rfl
theorem m_TryN_nx : (kTryN K l D).nx σ G = D.nx σ G := rfl
theorem m_TryN_rt : (kTryN K l D).rt = D.rt := rfl
theorem m_TryN_bk : (kTryN K l D).bk σ G = D.bk σ G := rfl
theorem m_TryN_ct : (kTryN K l D).ct σ G = D.ct σ G := rfl
theorem m_TryN_ex : (kTryN K l D).ex = wManyS K D l := rfl
def kSuN (D : EndsW) : EndsW := { D with ex := fun _ _ _ _ => False }
theorem m_SuN_nx : (kSuN D).nx σ G = D.nx σ G := rfl
theorem m_SuN_rt : (kSuN D).rt = D.rt := rfl
theorem m_SuN_bk : (kSuN D).bk σ G = D.bk σ G := rfl
theorem m_SuN_ct : (kSuN D).ct σ G = D.ct σ G := rfl
theorem m_out : wManyS K D [] cls fs σ G = D.ex cls fs σ G := rfl
end
/-! ### an own exception, made by names -/
section
variable {X : Cx} {Wx : WX} {x : Str} {C fI : Addr} {k n : Nat} {fd : FuncData} {ps f : List Str} {e : Expr} {es : List Expr} {tl : AT} {p pos : Pos} {B newId initId : String} {btl : List Value} {sel : List Sel} {dws : List Wv}
def mkAK (C : Addr) (f : List Str) (n : Nat) (sel : List Sel) (dws : List Wv) (tk : AT) : MT := fun x σ G q => tk x σ G fun zs G1 => zs.length = n ∧ q (.ref C) (f.zip (pick sel [] zs dws)).reverse G1
end
section
variable {σ : SW} {G : HW} {C : Addr} {f : List Str} {n : Nat} {sel : List Sel} {dws : List Wv} {tl : AT} {ws : List Wv} {x : XW} {rq : Value → List (Str × Wv) → HW → Prop}
def kMkAK (C : Addr) (f : List Str) (n : Nat) (sel : List Sel) (dws : List Wv) (rq : Value → List (Str × Wv) → HW → Prop) : List Wv → HW → Prop := fun zs G1 => zs.length = n ∧ rq (.ref C) (f.zip (pick sel [] zs dws)).reverse G1
theorem m_mkAK : mkAK C f n sel dws tl x σ G rq = tl x σ G (kMkAK C f n sel dws rq) := rfl
theorem m_kMkAK (h : ws.length = n) : kMkAK C f n sel dws rq ws G = rq (.ref C) (f.zip (pick sel [] ws dws)).reverse G := propext ⟨fun z => z.2, fun z => ⟨h, z⟩⟩
end
/-! ### KeyError('m') -/
end LF
/-! LF89: StopIteration('m') -/
namespace PyProof.Rows
open PySem
end PyProof.Rows
namespace LF
open PySem PySem.Spec PyProof.Rows L2
end LF
/-! LF90: repr of a list of texts and empty dicts -/
namespace LF
open PySem PySem.Spec PyProof.Rows L2
end LF
/-! LF91: trials that are asked amid a call: a test that sees the trials' own parts -/
namespace LF
open PySem PySem.Spec PyProof.Rows L2
end LF
/-! LF92: a function made within a def lends the cells that it captured to a call of its own: it may be called there again -/
namespace LF
open PySem PySem.Spec PyProof.Rows L2 LamX
/-! ### a method called, cells of the def being lent -/
def lendC (cjs : List (Addr × Nat)) (σ : SW) (c : Cand) : Cand := ⟨c.C, c.sel, c.dws, spL cjs σ c.sp⟩
def eMethL (cjs : List (Addr × Nat)) (m : Str) (n l : Nat) (c : Cand) (to : ET) (tl tk : AT) : ET := fun x σ G q => eMeth m n l [lendC cjs σ c] to tl tk x σ G q
section
variable {x : XW} {σ : SW} {G : HW} {q : WK} {cjs : List (Addr × Nat)} {n l : Nat} {m : Str} {to : ET} {tl tk : AT} {C : Addr} {sel : List Sel} {dws : List Wv} {sp : SpW}
theorem m_MethL : eMethL cjs m n l ⟨C, sel, dws, sp⟩ to tl tk x σ G q = to x σ G (kMe m n l [⟨C, sel, dws, spL cjs σ sp⟩] tl tk x σ q) := rfl
end
end LF
/-! LF93: list comprehensions whose turns may be left by an exception -/
namespace PySem
section
variable {M : Model} {A : Around} {E : Value → Shared → Prop} {s : Shared} {env : Env}
/-- a block's end, its environment being told of -/
def compPostX (M : Model) (A : Around) (E : Value → Shared → Prop) (use : Option (Value → Sem Unit)) (Q : Value → Shared → Prop) (acc : Value) (cenv : Env) (r : Result) (s' : Shared) : Prop :=
  match r with
  | .ok f => compPost M A E use Q acc cenv.locals (.ok f) s'
  | .error x => ∃ m, s'.heap.Ns cenv.locals m ∧ ∀ h', Heap.SameBut cenv.locals s'.heap h' → wpAny M A (passOn "comprehension.variables-let-go" x cenv : Sem Value) (fun _ _ => False) E { s' with heap := h' }
theorem comp_freeX {e : Expr} {scope : Scope} {pos : Pos} {newAcc first : Sem Value} {g : Comprehension} {gs : List Comprehension} {cl : List (Str × Addr)} {use : Option (Value → Sem Unit)}
    {Q : Value → Shared → Prop}
    (hcl : clausesOf e = g :: gs) (hs : ∀ x, foldedSetIterable g.iter env x = pure x) (hclos : closureFor scope env = pure cl)
    (hkind : scope.kind = .function) (hnames : ∀ x ∈ scope.names, x.2 = .local → scope.names.lookup x.1 = some .local)
    (h : wpAny M A first (fun x s₁ => wpAny M A (pyIter x) (fun it s₂ => wpAny M A newAcc (fun acc s₃ =>
      wpAny M A (newFunctionEnv scope env.globals cl [] env.qual none .none (some env)) (fun cenv s₄ =>
        codeAny M A (.compStart e 0 it acc { cenv with scope := relabel scope env }) (compPostX M A E use Q acc { cenv with scope := relabel scope env }) s₄) E s₃) E s₂) E s₁) E s) :
    wpAny M A (comprehension e scope env pos newAcc false first use) Q E s := by
  unfold comprehension
  rw [hclos, hcl]
  refine wpAny_bind (wpAny_mono h (fun x s₁ h₁ => wpAny_bind (wpAny_standAt (wpAny_bind (wpAny_of_eq (hs x) (wpAny_bind (wpAny_holding (wpAny_mono h₁ (fun it s₂ h₂ =>
    wpAny_standIf (wpAny_bind (wpAny_mono h₂ (fun acc s₃ h₃ => wpAny_bind (wpAny_pure (wpAny_bind (wpAny_mono h₃ (fun cenv s₄ h₄ => ?_) fun _ _ h' => h')))) fun _ _ h' => h')))
      fun _ _ h' => h'))))))) fun _ _ h' => h')
  dsimp only
  have hv : ∀ x ∈ (scope.names.filter fun x => (x.2 == .local || x.2 == .cell) && x.1 != (".0" : Str)).reverse, x.2 = .local →
      Env.kindOf { cenv with scope := relabel scope env } x.1 = some .local := fun x hx hl => lookup_relabel_local (hnames x (List.mem_filter.mp (List.mem_reverse.mp hx)).1 hl)
  have hv' : ∀ x ∈ (scope.names.filter fun x => (x.2 == .local || x.2 == .cell) && x.1 != (".0" : Str)).reverse.drop 1 ++ (scope.names.filter fun x => (x.2 == .local || x.2 == .cell) && x.1 != (".0" : Str)).reverse.take 1,
      x.2 = .local → Env.kindOf { cenv with scope := relabel scope env } x.1 = some .local := fun x hx hl => by
    rcases List.mem_append.mp hx with h1 | h1
    · exact hv x (List.mem_of_mem_drop h1) hl
    · exact hv x (List.mem_of_mem_take h1) hl
  refine wpAny_holding (wpAny_bind (wpAny_attempt (wpAny_holding (wpAny_run (codeAny_mono h₄ fun r s' hr => ?_)))))
  cases r with
  | ok f =>
    cases use with
    | none =>
      obtain ⟨m, hn, hr⟩ := hr
      exact wpAny_bind (wpAny_holding (wpAny_comp_letGo (cenv := { cenv with scope := relabel scope env }) hkind _ s' m hv hn fun h' m' _ hs' => wpAny_pure (hr h' hs')))
    | some u =>
      refine wpAny_bind (wpAny_rule (wpAny_bind (wpAny_holding (wpAny_mono hr (fun _ s'' hr' => ?_) fun _ _ h' => h'))))
      obtain ⟨m, hn, hr'⟩ := hr'
      exact wpAny_bind (wpAny_comp_letGo (cenv := { cenv with scope := relabel scope env }) hkind _ s'' m hv' hn fun h' m' _ hs' => wpAny_pure (hr' h' hs'))
  | error x =>
    obtain ⟨m, hn, hr⟩ := hr
    exact wpAny_bind (wpAny_holding (wpAny_comp_letGo (cenv := { cenv with scope := relabel scope env }) hkind _ s' m hv hn fun h' m' _ hs' => wpAny_mono (hr h' hs') (fun _ _ f => f.elim) fun _ _ y => y))
theorem noteFrame_congr {env' : Env} (h : env.frame = env'.frame) (e : Value) : noteFrame e env = noteFrame e env' := by
  unfold noteFrame frameOf
  rw [h]
end
namespace HandSPX
section
variable {M : Model} {A : Around} {E : Value → Shared → Prop} {s : Shared} {Z : Obj → Prop} {base : Heap} {env : Env} {outer l : List Env} {L e : Addr}
theorem looks_offZ {fl : Value} {Q : Unit → Shared → Prop} (hZ : Steady Z) (hfr : A.frames = some (env :: outer)) (hf : env.frame = some L) (hne : ¬ ((fl == rawInt L) = true)) (hkb : base.StaysIn s.heap) (hen : base.get? e = none) (hl : s.heap.FunFrames base (env :: outer)) (htr : TracedZ s.heap base e Z fl)
    (hQ : ∀ h', HeldZ base (env :: outer) e Z L h' → s.heap.UpToSlots h' → Q () { s with heap := h' }) : wpAny M A (noteFrame (.ref e) env) Q E s := by
  obtain ⟨oe, vs, T, oT, ts, he, hz, hd, h1, hnT, hTe, hT, hdT, h3⟩ := htr
  unfold noteFrame
  simp only [hf]
  refine wpAny_bind (wpAny_field he hd h1 ?_)
  rw [if_pos (show (Value.ref T != Value.none) = true from by simp)]
  refine wpAny_bind (wpAny_field hT hdT h3 ?_)
  rw [if_neg hne]
  refine wpAny_bind (wpAny_setField hT hdT (Array.getElem?_eq_some_iff.mp h3).1 ?_)
  have other : ∀ b, b ≠ T → (s.heap.update T (Obj.mapFields (·.setIfInBounds 3 Value.none))).get? b = s.heap.get? b := fun b hb => Heap.get?_update_other _ _ (Ne.symm hb)
  have noRecord : ∀ b o, s.heap.get? b = some o → (∀ vs, o.data ≠ .fields vs) → b ≠ T := fun b o hb hnf q => by
    rw [q, hT] at hb; injection hb with hb; subst hb; exact hnf ts hdT
  refine wpAny_entryZ hZ hfr (hl.of_keeps fun b o hb hnf => ⟨o, (other b (noRecord b o hb hnf)).trans hb, rfl⟩) hf ((other e (Ne.symm hTe)).trans he)
    (fun b o hbo => (other b fun q => by rw [q, hnT] at hbo; cases hbo).trans (hkb b o hbo)) hen hd (Array.getElem?_eq_some_iff.mp h1).1 hz fun h' hN => ?_
  obtain ⟨x1, x2, x3, x4⟩ := hN
  exact hQ h' ⟨x1, hen, x2, x3⟩ fun b o hb hnf => x4 b o ((other b (noRecord b o hb hnf)).trans hb) hnf
theorem funFrames_but {h h' base base' : Heap} {C : Addr} (sb : ∀ b, b ≠ C → h'.get? b = h.get? b) (hb : ∀ b, base.get? b = none → base'.get? b = none) : ∀ {l : List Env}, (∀ L ∈ l.filterMap (·.frame), L ≠ C) → h.FunFrames base l → h'.FunFrames base' l
  | [], _, _ => trivial
  | env :: l, hn, h => by
    obtain ⟨hk, ⟨L, o, hf, hn1, ho, hd⟩, hr⟩ := h
    exact ⟨hk, ⟨L, o, hf, hb L hn1, by rw [sb L (hn L (List.mem_filterMap.mpr ⟨env, List.mem_cons_self, hf⟩))]; exact ho, hd⟩, funFrames_but sb hb (fun L hL => hn L (by
      obtain ⟨e, he, q⟩ := List.mem_filterMap.mp hL
      exact List.mem_filterMap.mpr ⟨e, List.mem_cons_of_mem _ he, q⟩)) hr⟩
end
end HandSPX
end PySem
namespace L2
open PySem PySem.Spec PyProof.Rows
abbrev Cx.blkE (X : Cx) (W : WX) (s : Shared) (H : Hp) (scope : Scope) (cenv : Env) (fp : List Addr) : Cx := (X.blk s H scope cenv fp).wish fun u s' => XE (X.blk s H scope cenv fp) W u s'
section
variable {X : Cx}
/-- an exception of the block's is one of the def's -/
theorem blk_err {pins : List (Addr × Obj)} {σ : St} {s3 : Shared} {H3 : Hp} {W : WX} {scope : Scope} {ce : Env} {fp : List Addr} {use : Option (Value → Sem Unit)} {Qf : Value → Shared → Prop} {acc : Value}
    (hst : X.stack = X.env :: X.outer) (hfr : X.env.frame = some X.env.locals) (tk : Takes X W) (I3 : Inv X pins σ H3 s3) (f3 : ∀ b ∈ fp, FpOk X pins H3 b ∧ b < s3.heap.objs.size) (cL : ce.locals = s3.heap.objs.size) (cF : ce.frame = X.env.frame)
    {u : Value} {s' : Shared} (x : XE (X.blk s3 H3 scope ce fp) (fun cls d _ H' => W cls d σ H') u s') : notedBy (model X.prog X.w) X.A ce (fun e s'' => compPostX (model X.prog X.w) X.A X.xe use Qf acc ce (.error e) s'') u s' := by
  obtain ⟨a, B, sI, pinsB, σB, HB, cls, d, rfl, J, nb, up, sky, na, os, ag, w⟩ := x
  have K0 : Inv X pins σ HB sI := I3.call' (ch := fp) J.os J.base J.hok J.bare fun b hb => ⟨(f3 b hb).1.2.2.2.1, (f3 b hb).1.2.1, (f3 b hb).1.2.2.2.2.1, (f3 b hb).1.2.2.2.2.2⟩
  have nC : HB ce.locals = none := J.free
  have fC : FpOk X pins HB ce.locals := by rw [cL] at nC ⊢; exact I3.fpOk (Nat.le_refl _) nC
  obtain ⟨f0, f1, f2, f3', f4, f5⟩ := fC
  have nfr : ∀ L ∈ frs X.stack, L ≠ ce.locals := fun L hL z => by
    rcases List.mem_cons.mp (K0.stkSub L hL) with z' | z'
    · exact f1 (by rw [← z, z'])
    · exact f2 (by rw [← z]; exact z')
  obtain ⟨mC, ⟨oC, esC, epC, hoC, hdC, rC⟩, _⟩ := J.loc
  have hoC : sI.heap.get? ce.locals = some oC := hoC
  have hBC : B.get? ce.locals = some oC := nb _ _ hoC fun hm => nfr _ hm rfl
  have hfA : X.A.frames = some (X.env :: X.outer) := by rw [K0.ok.frames, hst]
  have nb' : ∀ b o, (PySem.W.hideAll sI.heap [ce.locals]).get? b = some o → b ∉ frs X.stack → (PySem.W.hideAll B [ce.locals]).get? b = some o := fun b o e hb => by
    have hbC : b ∉ [ce.locals] := fun hm => by rw [PySem.W.hideAll_none _ hm] at e; cases e
    exact PySem.W.hideAll_get _ (nb b o (PySem.W.of_hideAll _ e) hb) hbC
  have K' : Inv X pins σ HB { sI with heap := PySem.W.hideAll sI.heap [ce.locals], toks := sI.toks } := K0.turned (fun b o hb e => PySem.W.hideAll_get _ e (fun hm => hb (List.mem_singleton.mp hm))) f0 f1 f3' f4 f5
  -- behind the note
  have fin : ∀ h2, HandSPX.HeldZ B (X.env :: X.outer) a (Zc cls d) X.env.locals h2 → s'.heap.UpToSlots h2 → compPostX (model X.prog X.w) X.A X.xe use Qf acc ce (.error (.ref a)) { s' with heap := h2 } := fun h2 hh up2 => by
    obtain ⟨g1, g2, g3, oe, vs, T, oT, ts, he, hz, hd, h1, hnT, hTe, hT, hdT, h3⟩ := hh
    have h2C : h2.get? ce.locals = some oC := g1 _ _ hBC
    refine ⟨mC, ⟨oC, esC, epC, h2C, hdC, rC⟩, fun h' sb => ?_⟩
    have neq : ∀ {b : Addr} {o : Obj} {vs : Array Value}, h2.get? b = some o → o.data = .fields vs → b ≠ ce.locals := fun {b o vs} e ed z => by
      rw [z, h2C] at e
      cases e
      rw [hdC] at ed
      cases ed
    have sb2 : ∀ b, b ≠ ce.locals → h'.get? b = h2.get? b := fun b hb => sb.2 b hb
    have hB' : ∀ b, B.get? b = none → (PySem.W.hideAll B [ce.locals]).get? b = none := fun b e => by
      cases q : (PySem.W.hideAll B [ce.locals]).get? b with
      | none => rfl
      | some o => have z := PySem.W.of_hideAll _ q; rw [e] at z; cases z
    have held : HandSPX.HeldZ (PySem.W.hideAll B [ce.locals]) (X.env :: X.outer) a (Zc cls d) X.env.locals h' := by
      refine ⟨fun b o e => ?_, hB' _ g2, HandSPX.funFrames_but sb2 hB' (fun L hL => nfr L (by rw [hst]; exact hL)) g3, oe, vs, T, oT, ts, by rw [sb2 a (neq he hd)]; exact he, hz, hd, h1, hB' _ hnT, hTe, by rw [sb2 T (neq hT hdT)]; exact hT, hdT, h3⟩
      have hbC : b ∉ [ce.locals] := fun hm => by rw [PySem.W.hideAll_none _ hm] at e; cases e
      rw [sb2 b fun z => hbC (List.mem_singleton.mpr z)]
      exact g1 b o (PySem.W.of_hideAll _ e)
    have he' : h'.get? a = some oe := by rw [sb2 a (neq he hd)]; exact he
    unfold PySem.passOn
    refine wpAny_bind (wpAny_field (s := { s' with heap := h' }) he' hd h1 ?_)
    rw [if_neg (show ¬ ((Value.ref T == Value.none) = true) from by simp)]
    rw [cF, hfr]
    refine wpAny_bind (HandSPX.setFlight_onZ (s := { s' with heap := h' }) held fun h4 held4 up4 => wpAny_throw ?_)
    refine tk _ _ ⟨a, PySem.W.hideAll B [ce.locals], _, pins, σ, HB, cls, d, rfl, K', nb', fun b o e hd' => ?_, .inr (.inr (by rw [hst]; exact held4)), na, os, ag, w⟩
    have e : (PySem.W.hideAll sI.heap [ce.locals]).get? b = some o := e
    have hbC : b ≠ ce.locals := fun z => by rw [PySem.W.hideAll_none _ (List.mem_singleton.mpr z)] at e; cases e
    obtain ⟨sl, e1⟩ := up b o (PySem.W.of_hideAll _ e) hd'
    obtain ⟨sl2, e2⟩ := up2 b _ e1 hd'
    obtain ⟨sl3, e3⟩ := up4 b { o with slots := sl2 } (by show h'.get? b = _; rw [sb2 b hbC]; exact e2) hd'
    exact ⟨sl3, e3⟩
  show wpAny _ _ (noteFrame (.ref a) ce) _ _ _
  rw [noteFrame_congr (env' := X.env) cF]
  have sky : Sky B (X.env :: X.outer) a (Zc cls d) ce.locals s'.heap := by rw [← hst]; exact sky
  rcases sky with ⟨hB, hn, hl, oe, vs, he, hz, hd, h1⟩ | fl | ⟨k1, k2, k3, k4⟩
  · exact HandSPX.look_newZ Zc.steady hfA hl hfr he hB hn hd h1 hz fin
  · exact HandSPX.looks_onZ Zc.steady hfA hfr fl fin
  · refine HandSPX.looks_offZ Zc.steady hfA hfr (fl := rawInt ce.locals) (fun z => ?_) k1 k2 k3 k4 fin
    have z' : rawInt ce.locals = rawInt X.env.locals := by simpa using z
    unfold rawInt at z'
    have z'' : (ce.locals : Int) = (X.env.locals : Int) := by simpa using z'
    exact f1 (Int.ofNat_inj.mp z'')
end
end L2
namespace LF
open PySem PySem.Spec PyProof.Rows L2
section
variable {K : PySem.W.Frag} {Wx : WX} {te : ET}
/-- a comprehension whose turns may be left -/
def eLcX (wi : IT) (is vs : List Nat) (tt : QT) (te : ET) : ET := fun x σ G q => wi x σ G fun its ok G1 => ∀ D, G1 D = none → ∃ P : Nat → HW → Prop, P 0 (updO G1 D (.lst [])) ∧ (∀ i G, i ≤ its.length → P i G → ok G) ∧
  (∀ i w G, its[i]? = some w → P i G → ∃ σ2, inTo is w (wipeW σ vs) = some σ2 ∧ tt x0 σ2 G fun k G3 => match k with
    | true => te (fun cls fs _ G4 => x cls fs σ G4) σ2 G3 fun y G4 => ∃ acc, G4 D = some (.lst acc) ∧ acc.length < sizeLine ∧ P (i + 1) (updO G4 D (.lst (acc ++ [y])))
    | false => P (i + 1) G3) ∧ ∀ G, P its.length G → q (.ref D) G
theorem emb_lcX {wi : IT} {is vs : List Nat} {tt : QT} (hv : ∀ i ∈ is, i ∈ vs) : ∀ σ H Q, emb K Wx (eLcX wi is vs tt te) σ H Q → tLc (embI K Wx wi) (gIn K is) (embB K W0 tt) (emb K (fun cls d _ H' => Wx cls d σ H') te) vs σ H Q := by
  rintro σ H Q ⟨σw, G, x, q, rs, rh, px, po, h⟩
  refine ⟨σw, G, x, _, rs, rh, px, fun its ok G1 J H1 t1 rh1 wk h1 => ?_, h⟩
  intro D hD
  obtain ⟨P, h0, hok, hst, hdn⟩ := h1 D (rh1.fresh hD)
  have tD : TX K H1 (upd H1 D (.lst [])) := TX.new hD
  have pw : ∀ H : Hp, PostX K H W0 x0 := fun H cls d fs σw G σ H' _ _ _ _ z => z
  refine ⟨fun i m H2 => ∃ G2, m = its.length - i ∧ i ≤ its.length ∧ RH K G2 H2 ∧ TX K H1 H2 ∧ P i G2, ⟨its.length, _, by simp, Nat.zero_le _, rh1.newL hD .nil, tD, h0⟩, ?_⟩
  rintro i m H2 ⟨G2, rfl, hi, rh2, t2, p2⟩
  have k2 := hok i G2 hi p2
  by_cases hlt : i < its.length
  · refine .inr ⟨wk.goes i G2 H2 hlt t2 rh2 k2, fun H3 => ∃ G3, RH K G3 H3 ∧ TX K H1 H3 ∧ P (i + 1) G3, fun H' ⟨G3, h3, t3, q3⟩ => ⟨its.length - (i + 1), by omega, G3, rfl, hlt, h3, t3, q3⟩, fun v H' y => ?_⟩
    obtain ⟨w, ew, t3, rw3, rh3⟩ := wk.yields i G2 H2 v H' hlt t2 rh2 k2 y
    obtain ⟨σ2, es, hq⟩ := hst i w G2 ew p2
    have t23 := t2.trans t3
    have rsw : RS K H' (wipeW σw vs) (L2.wipe σ vs) := (rs.mono (t1.trans t23)).wipe vs
    refine gIn_ok hv rw3 rsw es fun σ' rs' ez => ⟨by rw [ez, wipe_wipe], σ2, G2, x0, _, rs', rh3, pw _, fun k G4 H4 t4 rh4 h4 => ?_, hq⟩
    cases k with
    | true =>
      refine (if_pos rfl).mpr ⟨σ2, G4, _, _, rs'.mono t4, rh4, fun cls d fs σw' G' σ' H'' tx rx rs'' rh'' hx => px cls d fs σw G' σ H'' (t1.trans ((t23.trans t4).trans tx)) rx (rs.mono (t1.trans ((t23.trans t4).trans tx))) rh'' hx, fun w5 G5 v5 H5 t5 r5 rh5 h5 => ?_, h4⟩
      obtain ⟨acc, ea, hz, p5⟩ := h5
      obtain ⟨xs, f, rx⟩ := rh5.lst ea
      exact ⟨xs, f, by rw [rx.len]; exact hz, _, rh5.putL f (rx.app (.cons r5 .nil)), ((t23.trans t4).trans t5).trans (TX.put f noTup_lst), p5⟩
    | false => exact (if_neg Bool.false_ne_true).mpr ⟨G4, rh4, t23.trans t4, h4⟩
  · have e : i = its.length := by omega
    subst e
    exact .inl ⟨wk.stops G2 H2 t2 rh2 k2, po _ _ _ _ (t1.trans t2) (.ref D) rh2 (hdn G2 p2)⟩
end
/-! ### readings -/
section
variable {x : XW} {σ : SW} {G : HW} {q : WK} {te : ET} {tt : QT} {wi : IT} {is vs : List Nat} {its : List Wv} {ok : HW → Prop}
def kLcX (is vs : List Nat) (tt : QT) (te : ET) (x : XW) (σ : SW) (q : WK) : IK := fun its ok G1 => ∀ D, G1 D = none → ∃ P : Nat → HW → Prop, P 0 (updO G1 D (.lst [])) ∧ (∀ i G, i ≤ its.length → P i G → ok G) ∧
  (∀ i w G, its[i]? = some w → P i G → ∃ σ2, inTo is w (wipeW σ vs) = some σ2 ∧ tt x0 σ2 G fun k G3 => match k with
    | true => te (fun cls fs _ G4 => x cls fs σ G4) σ2 G3 fun y G4 => ∃ acc, G4 D = some (.lst acc) ∧ acc.length < sizeLine ∧ P (i + 1) (updO G4 D (.lst (acc ++ [y])))
    | false => P (i + 1) G3) ∧ ∀ G, P its.length G → q (.ref D) G
theorem m_LcX : eLcX wi is vs tt te x σ G q = wi x σ G (kLcX is vs tt te x σ q) := rfl
def kTurnX (te : ET) (x : XW) (σ σ2 : SW) (k : Option Wv → HW → Prop) : Bool → HW → Prop := fun b G => match b with
  | true => te (fun cls fs _ G4 => x cls fs σ G4) σ2 G (kCell k)
  | false => k none G
theorem m_kTurnXT {k : Option Wv → HW → Prop} {σ2 : SW} : kTurnX te x σ σ2 k true G = te (fun cls fs _ G4 => x cls fs σ G4) σ2 G (kCell k) := rfl
theorem m_kTurnXF {k : Option Wv → HW → Prop} {σ2 : SW} : kTurnX te x σ σ2 k false G = k none G := rfl
end
end LF
/-! LF94: deeds of all kinds as plans: what each asks, what it comes to; runs of them by trials of which few may be called -/
namespace LF
open PySem PySem.Spec PyProof.Rows L2
/-! ### reducers that may be refused at their first ask -/
/-! ### plans -/
/-- what is told -/
inductive DV
  | cf (p : Cf)
  | pair (a b : Cf)
  | paper (o : Option (Cf × List (Int × Str)))
  | cfs (l : List Cf)
  | br (o : Option (Cf × Cf))
inductive DR
  | val (v : DV)
  | notso (p : Cf) (v : Str)
/-- what is told is of few pieces -/
def DV.ok : DV → Prop
  | .cf p => Cfg p 7
  | .pair a b => Cfg a 7 ∧ Cfg b 7
  | .paper none => True
  | .paper (some (p, rs)) => Cfg p 7 ∧ rs.length ≤ 7 ∧ ∀ r ∈ rs, (0 ≤ r.1 ∧ r.1 < 7) ∧ vdS r.2
  | .cfs l => l.length ≤ 16 ∧ ∀ p ∈ l, Cfg p 7
  | .br none => True
  | .br (some (p, q)) => Cfg p 7 ∧ Cfg q 7
def DR.ok : DR → Prop
  | .val v => v.ok
  | .notso p v => Cfg p 7 ∧ vdS v
/-! ### runs of trials of which so many may be called -/
/-! ### what is told, as it lies in a heap -/
def ValP (G : HW) (w : Wv) : DV → Prop
  | .cf p => w = cfW p
  | .pair a b => w = .tup [cfW a, cfW b]
  | .paper none => w = .non
  | .paper (some (p, rs)) => w = paperW p rs
  | .cfs l => ∃ a, w = .ref a ∧ G a = some (.lst (l.map cfW))
  | .br b => w = brW b
def FndP (G : HW) (w : Wv) : DR → Prop
  | .val v => ∃ l y, w = .ref l ∧ G l = some (.lst [y]) ∧ ValP G y v
  | .notso p v => w = .tup [.str "not so", cfW p, .str v]
theorem ValP.ext {G G' : HW} (x : Ext G G') {w : Wv} {v : DV} (h : ValP G w v) : ValP G' w v := by
  cases v with
  | cf => exact h
  | pair => exact h
  | paper o => cases o with
    | none => exact h
    | some => exact h
  | cfs l => obtain ⟨a, e, k⟩ := h; exact ⟨a, e, x _ _ k⟩
  | br => exact h
theorem FndP.ext {G G' : HW} (x : Ext G G') {w : Wv} {r : DR} (h : FndP G w r) : FndP G' w r := by
  cases r with
  | val v => obtain ⟨l, y, e, k, z⟩ := h; exact ⟨l, y, e, x _ _ k, z.ext x⟩
  | notso => exact h
end LF
/-! LF95: deeds of all kinds done by plans -/
namespace LF
open PySem PySem.Spec PyProof.Rows L2
section
variable {G : HW} {L : List Ass} {A : Ass} {w : Wv} {v : DV} {l a : Addr}
theorem Sep.free (h : A (fun _ => none)) (s : Sep L G) : Sep (A :: L) G := ⟨fun _ => none, h, (fun _ _ e => by cases e), s.ext fun a o e => offG_some.mpr ⟨rfl, e⟩⟩
end
/-! ### where all is known; where few are told of -/
/-! ### the papers of what was made least: all that they tell of was asked -/
end LF
/-! LF96: drawing, told to the number (base of k31: what a test draws amid its call) -/
namespace LF
open PySem PySem.Spec PyProof.Rows L2
/-- a state of drawing -/
structure DrS where
  k : Int
  cells : List Int
  left : List Int
/-- the number mixed -/
def DrS.base (s : DrS) (top : Int) : Int := mixV (mixV ((s.cells[(s.k % 64).toNat]?).getD 0 + 31 * (s.k / 64)) s.k) (s.k + 7) % top
/-- the next drawn number -/
def DrS.num (s : DrS) (top : Int) : Int := match s.left[(s.k % (s.left.length : Int)).toNat]? with
  | some c => if 0 < c then c % top else s.base top
  | none => s.base top
def DrS.nx (s : DrS) (top : Int) : DrS := ⟨s.k + 1, s.cells, match s.left[(s.k % (s.left.length : Int)).toNat]? with
  | some c => if 0 < c then s.left.set (s.k % (s.left.length : Int)).toNat (c / top) else s.left
  | none => s.left⟩
def DSE (G : HW) (m a b : Addr) (s : DrS) (n : Nat) : Prop := G m = some (.dct [(.inr "cells", .ref a), (.inr "left", .ref b), (.inr "spot", .int s.k)]) ∧ G a = some (.lst (s.cells.map .int)) ∧ s.cells.length = 64 ∧ G b = some (.lst (s.left.map .int)) ∧ s.left.length ≤ 63 ∧ 0 ≤ s.k ∧ s.k + n ≤ 2 ^ 40 ∧ a ≠ b
theorem DSE.ext {G G' : HW} {m a b : Addr} {s : DrS} {n : Nat} (h : DSE G m a b s n) (e : Ext G G') : DSE G' m a b s n := let ⟨h1, h2, h3, h4, h5⟩ := h; ⟨e _ _ h1, e _ _ h2, h3, e _ _ h4, h5⟩
/-! ### one told otherwise -/
def putT (τ : Cf → Str) (c : Cf) (v : Str) (p : Cf) : Str := if p = c then v else τ p
/-! ### a test that is stopped at one call -/
def oddW (i : Int) : Wv := match i with
  | 0 => .str "failed"
  | 1 => .non
  | 2 => .bl true
  | 3 => .int 5
  | 4 => .str "FAIL"
  | _ => .tup [.str "fail"]
theorem oddW_odd (i : Int) (G : HW) : OddG G (oddW i) := by
  unfold oddW
  split <;> exact ⟨by decide, fun _ => by first | exact kn_str | exact kn_non | exact kn_bl | exact kn_int | exact kn_tup⟩
/-- what comes of a call of the stopped test -/
def stO (Cg Cn : Addr) (hit : Bool) (road : Int) (why : Wv) (s : DrS) (v : Str) : Out :=
  if hit then (if road = 0 then .exc (.ref Cg) [("why", why)] else if road = 1 then .val (oddW (s.num 6)) else .exc (.ref Cn) []) else .val (.str v)
def stS (hit : Bool) (road : Int) (s : DrS) : DrS := if hit = true ∧ road = 1 then s.nx 6 else s
/-! ### where all is told -/
end LF
/-! LF97: (c,) * n where n may be one -/
namespace LF
open PySem PySem.Spec PyProof.Rows L2
end LF
/-! LF98: cells of a told lambda lent to what it calls; isolated, told -/
namespace LF
open PySem PySem.Spec PyProof.Rows L2 LamX
/-! ### parts side by side, in any order -/
def star (A B : Ass) : Ass := fun G => ∃ h, A h ∧ Ext h G ∧ B (offG G h)
def topA : Ass := fun _ => True
theorem off_off {G h : HW} (x : Ext h G) : offG G (offG G h) = h := by
  funext a
  cases e : h a with
  | some o =>
    have e2 : offG G h a = none := by unfold offG; rw [e]
    rw [offG_none e2]
    exact x a o e
  | none =>
    have e2 : offG G h a = G a := offG_none e
    cases e3 : G a with
    | none => rw [offG_none (by rw [e2, e3])]; exact e3
    | some o =>
      have e4 : offG G h a = some o := by rw [e2, e3]
      show (match offG G h a with | some _ => none | none => G a) = none
      rw [e4]
theorem ext_off {G h : HW} : Ext (offG G h) G := fun a o e => (offG_some.mp e).2
theorem star_comm (A B : Ass) : star A B = star B A := by
  have k : ∀ A B : Ass, ∀ G, star A B G → star B A G := fun A B G ⟨h, hA, x, hB⟩ => ⟨offG G h, hB, ext_off, by rw [off_off x]; exact hA⟩
  funext G
  exact propext ⟨k A B G, k B A G⟩
theorem off_or {G h1 h2 : HW} (x2 : Ext h2 (offG G h1)) : offG (orG h1 h2) h1 = h2 := by
  funext a
  cases e : h1 a with
  | some o =>
    have e2 : offG (orG h1 h2) h1 a = none := by unfold offG; rw [e]
    rw [e2]
    cases e3 : h2 a with
    | none => rfl
    | some o2 => have := (offG_some.mp (x2 a o2 e3)).1; rw [e] at this; cases this
  | none => rw [offG_none e, orG_r e]
theorem off_2 {G h1 h2 : HW} : offG G (orG h1 h2) = offG (offG G h1) h2 := by
  funext a
  cases e : h1 a with
  | some o =>
    have e1 : orG h1 h2 a = some o := orG_l e
    have e2 : offG G h1 a = none := by unfold offG; rw [e]
    have e3 : offG (offG G h1) h2 a = none := by
      cases z : offG (offG G h1) h2 a with
      | none => rfl
      | some o2 => have := (offG_some.mp z).2; rw [e2] at this; cases this
    rw [e3]
    unfold offG
    rw [e1]
  | none =>
    cases e2 : h2 a with
    | some o =>
      have e1 : orG h1 h2 a = some o := by rw [orG_r e]; exact e2
      unfold offG
      rw [e1, e2]
    | none =>
      have e1 : orG h1 h2 a = none := by rw [orG_r e]; exact e2
      rw [offG_none e1, offG_none e2, offG_none e]
theorem star_assoc (A B C : Ass) : star (star A B) C = star A (star B C) := by
  funext G
  refine propext ⟨fun ⟨h, ⟨h1, hA, x1, hB⟩, x, hC⟩ => ?_, fun ⟨h1, hA, x1, h2, hB, x2, hC⟩ => ?_⟩
  · refine ⟨h1, hA, x1.trans x, offG h h1, hB, offG_ext x, ?_⟩
    have e : orG h1 (offG h h1) = h := by
      funext a
      cases e : h1 a with
      | some o => rw [orG_l e]; exact (x1 a o e).symm
      | none => rw [orG_r e, offG_none e]
    rw [← off_2, e]
    exact hC
  · refine ⟨orG h1 h2, ⟨h1, hA, fun a o e => orG_l e, by rw [off_or x2]; exact hB⟩, fun a o e => ?_, by rw [off_2]; exact hC⟩
    cases e1 : h1 a with
    | some o' => rw [orG_l e1] at e; cases e; exact x1 a _ e1
    | none => rw [orG_r e1] at e; exact (offG_some.mp (x2 a o e)).2
theorem star_tt : star topA topA = topA := by
  funext G
  exact propext ⟨fun _ => trivial, fun _ => ⟨fun _ => none, trivial, (fun _ _ e => nomatch e), trivial⟩⟩
theorem star_ttl (A : Ass) : star topA (star topA A) = star topA A := by rw [← star_assoc, star_tt]
theorem bun_nilS : bun [] = topA := rfl
theorem bun_consS {A : Ass} {L : List Ass} : bun (A :: L) = star A (bun L) := rfl
theorem bun_appS : ∀ {L M : List Ass}, bun (L ++ M) = star (bun L) (bun M)
  | [], M => by
    rw [List.nil_append, bun_nilS]
    funext G
    exact propext ⟨fun s => ⟨fun _ => none, trivial, (fun _ _ e => nomatch e), (show Sep M G from s).ext fun a o e => offG_some.mpr ⟨rfl, e⟩⟩, fun ⟨h, _, _, s⟩ => (show Sep M _ from s).ext ext_off⟩
  | A :: L, M => by rw [List.cons_append, bun_consS, bun_appS, bun_consS, star_assoc]
instance : Std.Associative star := ⟨star_assoc⟩
instance : Std.Commutative star := ⟨star_comm⟩
theorem star_lc (A B C : Ass) : star A (star B C) = star B (star A C) := by rw [← star_assoc, star_comm A B, star_assoc]
theorem Sep.eqv {L M : List Ass} {G : HW} (s : Sep M G) (e : bun M = bun L) : Sep L G := (show bun L G from e ▸ (show bun M G from s))
theorem celsL_nil : celsL [] = [] := rfl
theorem celsL_cons {c : Addr} {w : Wv} {xs : List (Addr × Wv)} : celsL ((c, w) :: xs) = pt c (.cel w) :: celsL xs := rfl
/-- the top pushed back to the end -/
theorem star_top (B A : Ass) : star topA (star B A) = star B (star topA A) := star_lc _ _ _
theorem star_topB : ∀ {L : List Ass}, star topA (bun L) = bun L
  | [] => star_tt
  | A :: L => by rw [bun_consS, star_lc, star_topB]
theorem teT_S {n : NW} {Tl : Addr → (Cf → Str) → Ass} {w : TrW} {log : List Cf} : TeT n Tl w log = bun [TeA n w.g w.lg w.f log, Tl w.f w.τ] := rfl
theorem Tells.fr {cs : List CandF} {f : Addr} {τ : Cf → Str} {A A' : Ass} (h : Tells cs f τ A) (B : Ass) (e : A' = star A B) : Tells cs f τ A' := fun p cp F G xe q s => by
  have k : ∀ M, bun (A' :: M) = bun (A :: B :: M) := fun M => by rw [bun_consS, bun_consS, bun_consS, e, star_assoc]
  obtain ⟨h1, h2⟩ := h p cp (B :: F) G xe q (s.eqv (k F))
  exact ⟨h1, fun hh => h2 fun G' s' => hh G' (s'.eqv (k F).symm)⟩
local macro_rules | `(tactic| walk_at "sepx") => `(tactic| (simp only [bun_consS, bun_nilS, bun_appS, teT_S, celsL_cons, celsL_nil, List.cons_append, List.nil_append, star_assoc, star_ttl, star_tt]; (try simp only [star_ttl, star_tt, star_top, star_topB]); (try ac_rfl)))
/-! ### isolated, refused ahead of all -/
/-! ### told -/
/-! ### orders of asking -/
end LF
/-! LF99: worlds by what comes of each call; a test that is stopped at one call -/
namespace LF
open PySem PySem.Spec PyProof.Rows L2 LamX
/-- what is kept of a call's outcome -/
def resKn (o : Out) (p : Cf) (kn : List Rw) (kn' : List Rw) : Prop := match o with
  | .val w => (∃ v, w = .str v ∧ vdS v ∧ kn' = kn ++ [(p, v)]) ∨ ((∀ G, OddG G w) ∧ kn' = kn)
  | .exc _ _ => kn' = kn
/-- what the asker sees of it -/
def seeO (Cs : SpB) : Out → Out
  | .val w => if isVd w then .val w else .exc (.ref Cs.b) [("told", w)]
  | .exc c fs => .exc c fs
def callW (C : Addr) (Cs : SpB) (cs : List CandF) (t g : Addr) (S : Type) (ok : S → Prop) (kn : S → List Rw) (Te : S → Ass) (to : S → Cf → S) (res : S → Cf → Out) (len : ∀ s, ok s → (kn s).length ≤ 10000)
    (ht : ∀ s p, ok s → Cfg p 120 → lkR (kn s) p = none → TestN C cs t g p 20000 (kn s) (kn s) (Te s) (res s p) 20000 (Te (to s p)))
    (hk : ∀ s p, lkR (kn s) p = none → resKn (res s p) p (kn s) (kn (to s p))) : Wd C Cs cs where
  S := S
  t := t
  ok := ok
  kn := kn
  n s := (kn s).length
  A s := bun [TrA C t (.ref g) 20000 (kn s) (kn s), Te s]
  to s p := if (lkR (kn s) p).isSome then s else to s p
  out s p := match lkR (kn s) p with
    | some v => .val (.str v)
    | none => seeO Cs (res s p)
  tr s F G h sp := by
    obtain ⟨dx, k, r, s1⟩ := sp.un.tr
    have := len s h
    exact ⟨dx, _, _, k, r, _, s1.at, s1.tail.at, s1.tail.tail.at, by rw [List.length_map], by omega⟩
  ask s p F G k kx h cp sp nn h1 h2 := by
    have l0 := len s h
    have s1 := sp.un
    refine ⟨t, g, 20000, kn s, kn s, p, Te s, F, rfl, cp, by omega, by omega, s1, fun v e G' s' => ?_, fun e e2 G' s' => by omega, fun e e2 => ⟨res s p, 20000, Te (to s p), ht s p h cp e, ?_⟩⟩
    · refine h1 v G' (by rw [e]) ?_
      rw [if_pos (by rw [e]; rfl)]
      exact s'.mkBun
    · have e3 : ∀ {G'}, Sep (bun [TrA C t (.ref g) 20000 (kn (to s p)) (kn (to s p)), Te (to s p)] :: F) G' → Sep (bun [TrA C t (.ref g) 20000 (kn (if (none : Option Str).isSome then s else to s p)) (kn (if (none : Option Str).isSome then s else to s p)), Te (if (none : Option Str).isSome then s else to s p)] :: F) G' := fun s' => s'
      have hr := hk s p e
      simp only [e] at nn h1 h2
      cases er : res s p with
      | exc c fs =>
        rw [er] at hr h2
        have hr : kn (to s p) = kn s := hr
        refine .inl ⟨c, fs, rfl, fun G' s' => h2 c fs G' rfl (e3 ?_)⟩
        rw [hr]
        exact s'.mkBun
      | val w =>
        rw [er] at hr h1 h2
        rcases hr with ⟨v, rfl, vd, hr⟩ | ⟨od, hr⟩
        · refine .inr (.inl ⟨v, rfl, vd, fun G' s' => h1 v G' (if_pos vd.is) (e3 ?_)⟩)
          rw [hr]
          exact s'.mkBun
        · refine .inr (.inr ⟨w, rfl, fun G' s' => ⟨od G', h2 _ _ G' (if_neg (by rw [(od G').1]; exact Bool.false_ne_true)) (e3 ?_)⟩⟩)
          rw [hr]
          exact s'.mkBun
/-! ### stopped at one call -/
/-- what is known, the log, the state of drawing -/
structure StS where
  z : List Cf
  log : List Cf
  d : DrS
def stTo (cn : Nat) (road : Int) (s : StS) (p : Cf) : StS := if s.log.length = cn then ⟨s.z, s.log ++ [p], stS true road s.d⟩ else ⟨s.z ++ [p], s.log ++ [p], s.d⟩
def stRes (Cg Cn : Addr) (τ : Cf → Str) (cn : Nat) (road : Int) (why : Wv) (s : StS) (p : Cf) : Out := stO Cg Cn (decide (s.log.length = cn)) road why s.d (τ p)
theorem stRes_kn {Cg Cn : Addr} {τ : Cf → Str} (vd : ∀ p, vdS (τ p)) {cn : Nat} {road : Int} {why : Wv} (s : StS) (p : Cf) : resKn (stRes Cg Cn τ cn road why s p) p (prL τ s.z) (prL τ (stTo cn road s p).z) := by
  unfold stRes stO stTo
  by_cases h : s.log.length = cn
  · rw [decide_eq_true h, if_pos rfl, if_pos h]
    by_cases r0 : road = 0
    · rw [if_pos r0]
      exact rfl
    · rw [if_neg r0]
      by_cases r1 : road = 1
      · rw [if_pos r1]
        exact .inr ⟨fun G => oddW_odd _ G, rfl⟩
      · rw [if_neg r1]
        exact rfl
  · rw [decide_eq_false h, if_neg Bool.false_ne_true, if_neg h]
    exact .inl ⟨_, rfl, vd p, prL_snoc⟩
/-- a stopped test's parts -/
structure StP (C : Addr) (Cs : SpB) (cs : List CandF) where
  t : Addr
  g : Addr
  Cg : Addr
  Cn : Addr
  ok : StS → Prop
  Te : StS → Ass
  τ : Cf → Str
  cn : Nat
  road : Int
  why : Wv
  len : ∀ s, ok s → (prL τ s.z).length ≤ 10000
  ht : ∀ s p, ok s → Cfg p 120 → lkR (prL τ s.z) p = none → TestN C cs t g p 20000 (prL τ s.z) (prL τ s.z) (Te s) (stRes Cg Cn τ cn road why s p) 20000 (Te (stTo cn road s p))
  vd : ∀ p, vdS (τ p)
section
variable {C : Addr} {Cs : SpB} {cs : List CandF}
def StP.W (P : StP C Cs cs) : Wd C Cs cs := callW C Cs cs P.t P.g StS P.ok (fun s => prL P.τ s.z) P.Te (stTo P.cn P.road) (stRes P.Cg P.Cn P.τ P.cn P.road P.why) P.len P.ht (fun s p _ => stRes_kn P.vd s p)
abbrev StP.run (P : StP C Cs cs) (s : StS) (L : List Cf) (s' : StS) (e : Fx) : Prop := RunL P.W P.τ s L s' e
end
end LF
/-! LF100: split; replace of written texts, by what is read where a token is out -/
namespace L2
open PySem PySem.Spec PyProof.Rows
section
variable {X : Cx}
theorem lc_coreT {Wz : WX} (hst : X.stack = X.env :: X.outer) (hfr : X.env.frame = some X.env.locals) (tk : Takes X Wz) {pins : List (Addr × Obj)} {s : Shared} {σ : St} {H : Hp} {Q : VK} {elt tg iter : Expr} {ifs : List Expr} {scope : Scope} {own : List (Str × Nat)} {pos pos' : Pos} {wi : TI} {g : TG} {tt : TT} {te : TE} {use : Option (Value → Sem Unit)} {Qf : Value → Shared → Prop}
    (hc : X.calm = true) (hN : X.N.Nodup) (h0 : 1 ≤ s.toks) (I : Inv X pins σ H s) (hi : PIT X tg iter wi) (ok : BlkOk X.N X.env.scope scope own)
    (hg : ∀ (s : Shared) (H : Hp) (C : Addr) (cl : List (Str × Addr)) (fp : List Addr), PG (X.blkE (fun cls d _ H' => Wz cls d σ H') s H scope (compEnvC scope cl C X.env) fp) tg g) (ht : ∀ (s : Shared) (H : Hp) (C : Addr) (cl : List (Str × Addr)) (fp : List Addr), PTs (X.blkE (fun cls d _ H' => Wz cls d σ H') s H scope (compEnvC scope cl C X.env) fp) ifs tt)
    (he : ∀ (s : Shared) (H : Hp) (C : Addr) (cl : List (Str × Addr)) (fp : List Addr), PE (X.blkE (fun cls d _ H' => Wz cls d σ H') s H scope (compEnvC scope cl C X.env) fp) elt te) (hs : ∀ x, foldedSetIterable iter X.env x = pure x)
    (h : tLc wi g tt te (own.map (·.2)) σ H Q)
    (hRR : ∀ D C s' m H', Inv X pins σ H' s' → Q (.ref D) H' → s'.heap.Ns C m → FpOk X pins H' C → compPost (model X.prog X.w) X.A X.xe use Qf (.ref D) C (.ok .next) s') :
    wpAny (model X.prog X.w) X.A (comprehension (.ListComp elt [⟨tg, iter, ifs, 0⟩] scope pos) scope X.env pos' (newList []) false (eval iter X.env) use) Qf X.xe s := by
  have hfree : ∀ y ∈ scope.names, y.2 = .free → ∃ c, X.env.cells.lookup y.1 = some c := fun y hy e => by
    rcases ok.free y hy e with k | k
    · exact I.ok.has _ (.inl k)
    · exact I.ok.has _ (.inr k)
  refine comp_freeX (use := use) rfl hs (closure_ok hfree) ok.kind (fun y hy e => by rw [ok.uniq y hy, e])
    (thn (hi pins s σ H _ h0 I h) fun xv s1 hx => thn hx fun itv s2 h2 => ?_)
  obtain ⟨it, fp, tn, J, H2, e, I2, T, st2, f2, q⟩ := h2
  subst e
  refine wpAny_newObj_type (newEnv_comp ?_) (by show 0 ≤ sizeLine; decide)
  generalize hD : s2.heap.objs.size = D
  have hDn : H2 D = none := I2.hok.fresh (Nat.le_of_eq hD)
  obtain ⟨W, ⟨m0, w0⟩, turn⟩ := q D hDn
  -- the new list
  generalize hs3 : ({ s2 with heap := s2.heap.push { cls := .type "list", data := .seq ([] : List Value).toArray } } : Shared) = s3
  have I3 : Inv X pins σ (upd H2 D (.lst [])) s3 := by
    rw [← hs3]
    refine I2.laid (t' := s2.toks) (fun b o e => Heap.get?_push_of_some _ e) (Nat.le_of_eq hD) ⟨Nat.zero_le _, [], 0, .nil, ?_⟩
    rw [← hD]
    exact Heap.get?_push_size _ rfl
  have h3 : s3.heap = s2.heap.push { cls := .type "list", data := .seq ([] : List Value).toArray } := by rw [← hs3]
  have sz : ∀ b ∈ fp, b < s2.heap.objs.size := fun b hb => by
    obtain ⟨o, e, _⟩ := T.obj _ _ st2 b hb
    exact Heap.lt_size e
  have f3 : ∀ b ∈ fp, FpOk X pins (upd H2 D (.lst [])) b ∧ b < s3.heap.objs.size := fun b hb => by
    have hlt := sz b hb
    refine ⟨⟨?_, (f2 b hb).2⟩, by rw [h3, Heap.size_push]; exact Nat.lt_succ_of_lt hlt⟩
    rw [upd_ne (by rw [← hD]; exact Nat.ne_of_lt hlt)]
    exact (f2 b hb).1
  have st3 : tn 0 s3.heap := T.keep _ _ _ st2 fun b _ o e => by rw [h3]; exact Heap.get?_push_of_some _ e
  have I4 := block_start I3 ok hN f3
  have pg := hg s3 (upd H2 D (.lst [])) s3.heap.objs.size (cellsFrom (s3.heap.objs.size + 1) scope.names (cloFrom X.env.cells scope.names [])) fp
  have pt := ht s3 (upd H2 D (.lst [])) s3.heap.objs.size (cellsFrom (s3.heap.objs.size + 1) scope.names (cloFrom X.env.cells scope.names [])) fp
  have pe := he s3 (upd H2 D (.lst [])) s3.heap.objs.size (cellsFrom (s3.heap.objs.size + 1) scope.names (cloFrom X.env.cells scope.names [])) fp
  show codeAny _ _ (.compStart (.ListComp elt [⟨tg, iter, ifs, 0⟩] scope pos) 0 (.ref it) (.ref D) (compEnvC scope (cellsFrom (s3.heap.objs.size + 1) scope.names (cloFrom X.env.cells scope.names [])) s3.heap.objs.size X.env)) (compPostX (model X.prog X.w) X.A X.xe use Qf (.ref D) (compEnvC scope (cellsFrom (s3.heap.objs.size + 1) scope.names (cloFrom X.env.cells scope.names [])) s3.heap.objs.size X.env)) { s3 with heap := pushCells (s3.heap.push { cls := .type "dict", data := .dict #[] }) scope.names }
  have nfp : ∀ b ∈ fp, (upd H2 D (.lst [])) b = none := fun b hb => (f3 b hb).1.1
  generalize hce : compEnvC scope (cellsFrom (s3.heap.objs.size + 1) scope.names (cloFrom X.env.cells scope.names [])) s3.heap.objs.size X.env = ce at I4 pg pt pe ⊢
  have cL : ce.locals = s3.heap.objs.size := by subst hce; rfl
  have cF : ce.frame = X.env.frame := by subst hce; rfl
  generalize hH3 : upd H2 D (.lst []) = H3 at I3 I4 pg pt pe w0 nfp f3
  generalize hs4 : ({ s3 with heap := pushCells (s3.heap.push { cls := .type "dict", data := .dict #[] }) scope.names } : Shared) = s4 at I4 ⊢
  have st4 : tn 0 s4.heap := T.keep _ _ _ st3 fun b _ o e => by rw [← hs4]; exact pushCells_keeps _ _ _ _ (Heap.get?_push_of_some _ e)
  have stat : ∀ {σ' : St} {H' : Hp} {s' : Shared}, Inv (X.blk s3 H3 scope ce fp) [] σ' H' s' → (∀ b ∈ fp, H' b = none) → ∀ b ∈ fp, FpOk (X.blk s3 H3 scope ce fp) [] H' b := fun {σ' H' s'} I' hn b hb =>
    ⟨hn b hb, (I'.ok.exf b hb).1, I'.ok.exfs b hb, .inl hb, fun x c e => (I'.ok.exf b hb).2 x c e, fun p hp => absurd (show p ∈ ([] : List (Addr × Obj)) ++ [] from hp) (by simp)⟩
  have loop : codeAny (model X.prog X.w) X.A (.compLoop (.ListComp elt [⟨tg, iter, ifs, 0⟩] scope pos) 0 (.ref it) (.ref D) ce) (compPostX (model X.prog X.w) X.A X.xe use Qf (.ref D) ce) s4 := by
    have err : ∀ {u : Value} {s' : Shared}, XE (X.blk s3 H3 scope ce fp) (fun cls d _ H' => Wz cls d σ H') u s' → notedBy (model X.prog X.w) X.A ce (fun e s'' => compPostX (model X.prog X.w) X.A X.xe use Qf (.ref D) ce (.error e) s'') u s' := fun x => blk_err hst hfr tk I3 f3 cL cF x
    refine compLoop_any (fun n s' => ∃ i H', Inv (X.blk s3 H3 scope ce fp) [] (wipe σ (own.map (·.2))) H' s' ∧ tn i s'.heap ∧ (∀ b ∈ fp, H' b = none) ∧ W i n H') ?_ m0 ⟨0, H3, I4, st4, nfp, w0⟩
    rintro n s5 ⟨i, H5, I5, st5, n5, w5⟩
    rcases turn i n H5 w5 with ⟨stop, qq⟩ | ⟨go, Nx, hNx, step⟩
    · have td := T.done (X.blk s3 H3 scope ce fp) rfl rfl rfl hc i [] s5 _ H5 (fun _ _ => False) I5 (stat I5 n5) st5 stop
      refine thnF td fun r s6 ⟨hr, I6⟩ => ?_
      subst hr
      -- back in the def's context
      have I7 : Inv X pins σ H5 s6 := I3.call' (ch := fp) I6.os I6.base I6.hok I6.bare fun b hb => ⟨(f3 b hb).1.2.2.2.1, (f3 b hb).1.2.1, (f3 b hb).1.2.2.2.2.1, (f3 b hb).1.2.2.2.2.2⟩
      have nC : H5 s3.heap.objs.size = none := by
        have z : H5 ce.locals = none := I6.free
        rw [cL] at z
        exact z
      obtain ⟨m, hn, _⟩ := I6.loc
      have hn : s6.heap.Ns ce.locals m := hn
      rw [cL] at hn
      show compPost _ _ _ _ _ _ ce.locals _ _
      rw [cL]
      exact hRR D s3.heap.objs.size s6 m H5 I7 qq hn (I3.fpOk (Nat.le_refl _) nC)
    · have ti := T.item (X.blk s3 H3 scope ce fp) rfl rfl rfl hc i [] s5 _ H5 (fun _ _ => False) I5 (stat I5 n5) st5 go
      refine thnF ti fun r s6 ⟨u, hr, h6⟩ => ?_
      subst hr
      refine thnF h6 fun _ s7 ⟨x, H7, I7, r7, y7, st7, n7⟩ => ?_
      have I7' := I7.pinned (stat I7 n7) (T.obj _ _ st7)
      refine wpAny_mono (pg.run _ s7 _ H7 x u _ (I7'.wish _) r7 (step x H7 y7)) (fun _ s8 ⟨σ8, H8, I8, hw8, q8⟩ => ?_) fun _ _ x => err x
      refine wpAny_mono (pt.run _ s8 σ8 H8 _ I8 q8) (fun b s9 ⟨H9, I9, q9⟩ => ?_) fun _ _ x => err x
      -- the turn's end
      have fin : ∀ {s' : Shared} {H' : Hp}, Inv (X.blk s3 H3 scope ce fp) ([] ++ pinsAt fp s7.heap) σ8 H' s' → Nx H' → ∃ m, m < n ∧ ∃ i H', Inv (X.blk s3 H3 scope ce fp) [] (wipe σ (own.map (·.2))) H' s' ∧ tn i s'.heap ∧ (∀ b ∈ fp, H' b = none) ∧ W i m H' := fun {s' H'} I' nx => by
        obtain ⟨m', hm, w'⟩ := hNx H' nx
        have pin' : ∀ b ∈ fp, ∀ o, s7.heap.get? b = some o → s'.heap.get? b = some o ∧ H' b = none := fun b hb o e =>
          let z := I'.pin (b, o) (List.mem_append_right _ (List.mem_append_right _ (mem_pinsAt hb e)))
          ⟨z.1, z.2.1⟩
        have hl : (wipe σ (own.map (·.2))).length = σ8.length := by rw [← hw8, wipe_length]
        refine ⟨m', hm, i + 1, H', (I'.unpinned (pins := [])).weak hl (fun j v e => ?_), T.keep _ _ _ st7 fun b hb o e => (pin' b hb o e).1, fun b hb => ?_, w'⟩
        · rw [← hw8] at e
          exact (wipe_some e).1
        · obtain ⟨o, e, _⟩ := T.obj _ _ st7 b hb
          exact (pin' b hb o e).2
      cases b with
      | false =>
        simp only [Bool.false_eq_true, if_false] at q9 ⊢
        exact fin I9.unwish q9
      | true =>
        simp only [if_true] at q9 ⊢
        refine wpAny_mono (pe.run _ s9 σ8 H9 _ I9 q9) (fun z s10 ⟨yv, H10, I10, r10, acc, hD10, hz10, nx⟩ => ?_) fun _ _ x => err x
        exact app_ok (X := X.blk s3 H3 scope ce fp) I10.unwish hD10 hz10 r10 fun s11 I11 => fin I11 nx
  exact codeAny_compStart_list loop (T.self X.A 0 _ _ _ st4 loop)
theorem pet_lc {W : WX} (hst : X.stack = X.env :: X.outer) (hfr : X.env.frame = some X.env.locals) (tk : Takes X W) {elt tg iter : Expr} {ifs : List Expr} {scope : Scope} {own : List (Str × Nat)} {pos : Pos} {wi : TI} {g : TG} {tt : TT} {te : St → TE} (hc : X.calm = true) (hN : X.N.Nodup) (hi : PIT X tg iter wi) (ok : BlkOk X.N X.env.scope scope own)
    (hg : ∀ (σ : St) (s : Shared) (H : Hp) (C : Addr) (cl : List (Str × Addr)) (fp : List Addr), PG (X.blkE (fun cls d _ H' => W cls d σ H') s H scope (compEnvC scope cl C X.env) fp) tg g) (ht : ∀ (σ : St) (s : Shared) (H : Hp) (C : Addr) (cl : List (Str × Addr)) (fp : List Addr), PTs (X.blkE (fun cls d _ H' => W cls d σ H') s H scope (compEnvC scope cl C X.env) fp) ifs tt)
    (he : ∀ (σ : St) (s : Shared) (H : Hp) (C : Addr) (cl : List (Str × Addr)) (fp : List Addr), PE (X.blkE (fun cls d _ H' => W cls d σ H') s H scope (compEnvC scope cl C X.env) fp) elt (te σ)) (hs : ∀ x, foldedSetIterable iter X.env x = pure x := by intro _; rfl) :
    PET X (.ListComp elt [⟨tg, iter, ifs, 0⟩] scope pos) (fun σ H Q => tLc wi g tt (te σ) (own.map (·.2)) σ H Q) := by
  intro pins s σ H Q h0 I h
  rw [eval_ListComp]
  refine lc_coreT hst hfr tk hc hN h0 I hi ok (hg σ) (ht σ) (he σ) hs h fun D C s' m H' I' q hn f => ⟨m, hn, fun h'' sb => ?_⟩
  obtain ⟨f0, f1, f2, f3, f4, f5⟩ := f
  exact ⟨.ref D, H', I'.turned (t' := s'.toks) (fun b o hb e => (sb.2 b hb).trans e) f0 f1 f3 f4 f5, rfl, q⟩
end
section
variable {X : Cx} {T : String} {name : Str} {id : String} {r : V → List V → Hp → VK → Prop} {o e : Expr} {es : List Expr} {to : TE} {t : TA} {apos cpos : Pos}
theorem pet_bm (pa : PlainAttrs T) (slot : Slot T name id) (hty : typeOf (.builtin id) = pure (.type "method_descriptor")) (hm : MtR X id r) (ho : PET X o to) (ha : PA X (e :: es) t)
    (hbase : attributeBase o name X.env (eval o X.env) = eval o X.env := by rfl)
    (hfew : ((backTo cpos (starEach (e :: es) X.env)).all (fun x => !x.1) && (backToKw cpos (keywordEach [] X.env)).all (fun x => x.1.isSome)
      && decide ((e :: es).length + ([] : List Keyword).length + (if ([] : List Keyword).isEmpty then 0 else 1) < 30)) = true := by rfl)
    (hline : (apos.endLine == cpos.line) = true := by rfl) (hs : starEach (e :: es) X.env = (false, eval e X.env) :: starEach es X.env := by rfl) (hplain : (backTo cpos (starEach es X.env)).any (·.1) = false := by rfl) :
    PET X (.Call (.Attribute o name apos) (e :: es) [] cpos) (tBM X.K T r to t) := by
  intro pins s σ H Q h0 I h
  refine wpAny_Call_method_late hbase hfew hline rfl (thn (ho pins s σ H _ h0 I h) fun v s1 ⟨x, H1, I1, r1, ty, q1⟩ => ?_)
  obtain ⟨h1, h2⟩ := tyV_is I1 r1 ty
  refine ⟨T, id, pa, slot, hty, h1, h2, ?_⟩
  have hA := ha.run cpos pins s1 σ H1 _ I1 q1
  rw [hs] at hA ⊢
  refine Calls.callWith_builtin (by show (false || (backTo cpos (starEach es X.env)).any (·.1)) = false; rw [hplain] <;> rfl) (Calls.evalArgs_plain ?_)
  exact thn hA fun us s2 ⟨vs, H2, I2, r2, q2⟩ => hm pins s2 σ H2 x vs v us Q I2 (by exact r1) r2 q2
end
end L2
namespace LF
open PySem PySem.Spec PyProof.Rows L2 LamX
abbrev EWT (X : Cx) (Wx : WX) (e : Expr) (t : ET) : Prop := PET X e (emb X.K Wx t)
abbrev IWT (X : Cx) (Wx : WX) (tg iter : Expr) (wi : IT) : Prop := PIT X tg iter (embI X.K Wx wi)
abbrev TWsT (X : Cx) (Wx : WX) (st : List Stmt) (t : ST) : Prop := PSsT X st (embS X.K Wx t)
theorem pet_imp {X : Cx} {e : Expr} {t t' : TE} (h : PET X e t) (i : ∀ σ H Q, t' σ H Q → t σ H Q) : PET X e t' := fun pins s σ H Q h0 I q => h pins s σ H Q h0 I (i _ _ _ q)
section
variable {X : Cx} {Wx : WX} {tg : Expr} {te : ET} {pos : Pos}
theorem z_lcT (hst : X.stack = X.env :: X.outer) (hfr : X.env.frame = some X.env.locals) (tk : Takes X Wx) {elt iter : Expr} {ifs : List Expr} {scope : Scope} {own : List (Str × Nat)} {wi : IT} {is : List Nat} {tt : QT} (hc : X.calm = true) (hN : X.N.Nodup) (hi : IWT X Wx tg iter wi) (ok : BlkOk X.N X.env.scope scope own)
    (hg : ∀ (W : WX) (s : Shared) (H : Hp) (C : Addr) (cl : List (Str × Addr)) (fp : List Addr), PG (X.blkE W s H scope (compEnvC scope cl C X.env) fp) tg (gIn X.K is)) (ht : ∀ (W : WX) (s : Shared) (H : Hp) (C : Addr) (cl : List (Str × Addr)) (fp : List Addr), QsW (X.blkE W s H scope (compEnvC scope cl C X.env) fp) W0 ifs tt)
    (he : ∀ (W : WX) (s : Shared) (H : Hp) (C : Addr) (cl : List (Str × Addr)) (fp : List Addr), EW (X.blkE W s H scope (compEnvC scope cl C X.env) fp) W elt te) (hv : ∀ i ∈ is, i ∈ own.map (·.2)) (hs : ∀ x, foldedSetIterable iter X.env x = pure x := by intro _; rfl) :
    EWT X Wx (.ListComp elt [⟨tg, iter, ifs, 0⟩] scope pos) (eLcX wi is (own.map (·.2)) tt te) := pet_imp (pet_lc hst hfr tk hc hN hi ok (fun σ => hg _) (fun σ => ht _) (fun σ => he _) hs) (emb_lcX hv)
end
section
variable {X : Cx} {Wx : WX} {o e : Expr} {es : List Expr} {to te : ET} {tl : AT} {y z : Str} {j k : Nat} {c0 c1 apos cpos pos : Pos} {T : String} {name : Str} {id : String} {r : RMop} {tg : Expr}
/-- o.replace(y, z), both written -/
def eRepl (to : ET) (y z : Str) : ET := fun x σ G q => to x σ G fun w G1 => match w with
  | .str a => a.length + (a.length + 1) * z.length ≤ 16777216 ∧ q (.str (Txt.replace a y z)) G1
  | _ => False
theorem z_replT (ho : EW X Wx o to) (hyz : (y == z) = false := by decide)
    (hst : starEach [.Constant (.str y) j c0, .Constant (.str z) k c1] X.env = [(false, eval (.Constant (.str y) j c0) X.env), (false, eval (.Constant (.str z) k c1) X.env)] := by rfl)
    (hbase : attributeBase o "replace" X.env (eval o X.env) = eval o X.env := by rfl) (hline : (apos.endLine == pos.line) = true := by rfl) :
    EWT X Wx (.Call (.Attribute o "replace" apos) [.Constant (.str y) j c0, .Constant (.str z) k c1] [] pos) (eRepl to y z) :=
  pet_imp (CwR.pet_replC ho hyz hst hbase hline) fun σ H Q ⟨σw, G, x, q, rs, rh, px, po, h⟩ => ⟨σw, G, x, _, rs, rh, px, fun w G1 v H1 t1 r1 rh1 h1 => by
    cases w <;> try exact h1.elim
    cases r1
    exact ⟨_, rfl, h1.1, po _ _ _ _ t1 (.str _) rh1 h1.2⟩, h⟩
theorem z_bmT (pa : PlainAttrs T) (slot : Slot T name id) (hty : typeOf (.builtin id) = pure (.type "method_descriptor")) (hm : MtR X id (embM X.K r)) (ho : EWT X Wx o to) (ha : AW X Wx (e :: es) tl)
    (hbase : attributeBase o name X.env (eval o X.env) = eval o X.env := by rfl)
    (hfew : ((backTo cpos (starEach (e :: es) X.env)).all (fun x => !x.1) && (backToKw cpos (keywordEach [] X.env)).all (fun x => x.1.isSome)
      && decide ((e :: es).length + ([] : List Keyword).length + (if ([] : List Keyword).isEmpty then 0 else 1) < 30)) = true := by rfl)
    (hline : (apos.endLine == cpos.line) = true := by rfl) (hs : starEach (e :: es) X.env = (false, eval e X.env) :: starEach es X.env := by rfl) (hplain : (backTo cpos (starEach es X.env)).any (·.1) = false := by rfl) :
    EWT X Wx (.Call (.Attribute o name apos) (e :: es) [] cpos) (eBM T r to tl) :=
  pet_imp (pet_bm pa slot hty hm ho ha hbase hfew hline hs hplain) fun σ H Q ⟨σw, G, x, q, rs, rh, px, po, h⟩ => ⟨σw, G, x, _, rs, rh, px, fun w G1 v H1 t1 r1 rh1 h1 => ⟨h1.1.is rh1 r1, σw, G1, x, _, rs.mono t1, rh1, px.mono t1,
    fun ws G2 vs H2 t2 r2 rh2 h2 => ⟨w, ws, G2, q, r1.mono t2, r2, rh2, po.mono (t1.trans t2), h2⟩, h1.2⟩, h⟩
/-- a list that is walked -/
def iLstT (te : ET) : IT := fun x σ G q => te x σ G fun w G1 => match w with
  | .ref r => ∃ ws, RdL G1 r ws ∧ q ws (fun G => RdL G r ws) G1
  | _ => False
theorem zi_seqT (he : EWT X Wx e te) : IWT X Wx tg e (iLstT te) := by
  intro pins s σ H R h0 I h
  obtain ⟨σw, G, x, q, rs, rh, px, hq, h⟩ := h
  refine thn (he pins s σ H (fun v H1 => ∃ w G1, TX X.K H H1 ∧ RW X.K H1 w v ∧ RH X.K G1 H1 ∧ ∃ r ws, w = .ref r ∧ RdL G1 r ws ∧ q ws (fun G => RdL G r ws) G1) h0 I ⟨σw, G, x, _, rs, rh, px, fun w G1 v H1 t1 r1 rh1 h1 => ?_, h⟩) ?_
  · cases w <;> try exact h1.elim
    obtain ⟨ws, h2, h3⟩ := h1
    exact ⟨_, G1, t1, r1, rh1, _, ws, rfl, h2, h3⟩
  rintro v s1 ⟨y, H1, I1, ry, w, G1, t1, r1, rh1, r, ws, rfl, hl, hk⟩
  cases r1
  cases ry
  obtain ⟨xs, hx, rr⟩ := rh1.rdl hl
  obtain ⟨its, rv, pl, hz⟩ := I1.list hx
  exact wpAny_pyIter_list pl.isList (pi_one (tk := s1.toks) I1 _ (turn_list r _) ⟨_, Heap.get?_push_size _ rfl, rfl, rfl⟩ (hq _ _ G1 _ H1 t1 rh1 walkW_list hk))
/-- a def of one return -/
theorem zs_retT (he : EWT X Wx e te) : TWsT X Wx [.Return (some e) pos] (sRet te) :=
  CwR.psst_one fun pins s σ H D h0 I ⟨σw, G, d, rs, rh, sm, hq⟩ => CwR.pst_ret (te := emb X.K Wx te) he pins s σ H D h0 I ⟨σw, G, d.ex, _, rs, rh, sm.ex, fun w G1 v H1 t1 r1 rh1 h1 => sm.rt _ _ _ _ t1 r1 rh1 h1, hq⟩
end
section
variable {P : Program} {w : World} {K : PySem.W.Frag} {mg : Str → Option Value} {base : Heap} {k : Nat} {f : Addr} {fd : FuncData} {ps : List Str} {sp : SpW}
variable {x qual : Str} {params : Arguments} {body : List Stmt} {scope : Scope} {dvs : List V} {kws : List (Str × V)}
structure RmT (k : Nat) (A : Around) : Prop where
  room : Room k A
theorem RmT.un {k : Nat} {A : Around} (r : RmT k A) : A.units + 64 < cLine := r.room.units
theorem RmT.un65 {k : Nat} {A : Around} (r : RmT k A) : A.units + 65 < cLine := by have := r.room.un; omega
/-- a def by its body, where a token is out -/
theorem fnW_ofT {N : List Str} {t : ST} (F : FunD K x qual params body scope dvs kws f fd) (S : FnScope N ps scope) (hnc : (scope.names.all fun y => !decide (y.2 = .cell)) = true) (hps : 1 ≤ ps.length) (len : ∀ ws G q x, sp ws G q x → ws.length = ps.length)
    (hbody : ∀ (cdv : Value) (A : Around) (outer : List Env) (s : Shared) (H : Hp) (E : XK), RmT k (A.deeper (envOfC qual scope s.heap.objs.size f cdv)) → TWsT (cxOf (L2.CX P w) P w K mg base N qual scope f cdv A outer s H E) (WxE E) body t)
    (hsp : ∀ ws G q x, sp ws G q x → t (endsW q x) (startW N ws) G) : FnW P w K mg base (k + 1) f fd ps sp := by
  obtain ⟨oc, od, dV, kV, doc, pm, an, cdv, ct, osl, rfl, lk, hcd, _, _⟩ := F.ex
  have ok := fn_ofT (CX := L2.CX P w) (P := P) (w := w) (mg := mg) (base := base) (k := k) (N := N) (ps := ps) (sp := embSp K sp) lk hcd S (fun y hy e => by
    have := List.all_eq_true.mp hnc y hy
    rw [e] at this
    exact absurd this (by decide)) hps (fun vs H Q E ⟨ws, G, q, x, rw', _, _, _, h⟩ => by rw [rw'.len]; exact len _ _ _ _ h) fun A outer s H vs Q E hr h => by
      obtain ⟨ws, G, q, xe, rw', rh, po, pe, h⟩ := h
      refine ⟨_, hbody cdv A outer s H E ⟨hr⟩, startW N ws, G, endsW q xe, rs_start rw', rh, { nx := ?_, rt := po, bk := fun _ _ _ _ _ _ _ z => z.elim, ct := fun _ _ _ _ _ _ _ z => z.elim, ex := ?_ }, hsp ws G q xe h⟩
      · exact fun σw G' σ H' tx _ rh' hq => po .non G' .non H' tx .non rh' hq
      · exact fun cls d fs σw G' σ H' tx rx _ rh' hq => pe cls d fs G' H' tx rx rh' hq
  exact ⟨len, fun A outer s H args us vs Q E hr e0 hb r h => ok.run A outer s H args us vs Q E hr.room e0 hb r h⟩
end
/-! ### x.split(y) -/
section
variable {X : Cx}
def wSplit : RMop := fun w us G q => match w, us with
  | .str a, [.str b] => (b.length == 0) = false ∧ a.length + 2 ≤ sizeLine ∧ ∀ l, G l = none → q (.ref l) (updO G l (.lst ((Txt.split a b).map .str)))
  | _, _ => False
theorem w_split : MtR X "str.split" (embM X.K wSplit) := by
  rintro pins s σ H x xs v us Q I rx rxs ⟨w, ws, G, q, r1, r2, rh, po, h⟩
  unfold wSplit at h
  split at h
  · obtain ⟨h1, h2, hq⟩ := h
    cases r1
    obtain ⟨y, rfl, ry⟩ := rws1 r2
    cases ry
    exact mt_split pins s σ H _ _ v us Q I rx rxs ⟨_, _, rfl, rfl, h1, h2, fun p hp => po _ _ _ _ (TX.new hp) (.ref p) (rh.newL hp (RWs.ofStrs _)) (hq p (rh.fresh hp))⟩
  · exact h.elim
theorem r_split {a b : Str} {G : HW} {q : WK} (h1 : (b.length == 0) = false) (h2 : a.length + 2 ≤ sizeLine) (z : ∀ l, G l = none → q (.ref l) (updO G l (.lst ((Txt.split a b).map .str)))) : wSplit (.str a) [.str b] G q := ⟨h1, h2, z⟩
end
section
variable {x : XW} {σ : SW} {G : HW} {q : WK} {to te : ET} {y z a : Str}
def kRepl (y z : Str) (q : WK) : WK := fun w G1 => match w with
  | .str a => a.length + (a.length + 1) * z.length ≤ 16777216 ∧ q (.str (Txt.replace a y z)) G1
  | _ => False
theorem m_Repl : eRepl to y z x σ G q = to x σ G (kRepl y z q) := rfl
theorem r_repl (h : a.length + (a.length + 1) * z.length ≤ 16777216) (hq : q (.str (Txt.replace a y z)) G) : kRepl y z q (.str a) G := ⟨h, hq⟩
def kItT (q : IK) : WK := fun w G1 => match w with
  | .ref r => ∃ ws, RdL G1 r ws ∧ q ws (fun G => RdL G r ws) G1
  | _ => False
theorem m_iLstT {q : IK} : iLstT te x σ G q = te x σ G (kItT q) := rfl
theorem r_itT {q : IK} {p : Addr} {ws : List Wv} (h : RdL G p ws) (z : q ws (fun G => RdL G p ws) G) : kItT q (.ref p) G := ⟨ws, h, z⟩
end
end LF
/-! LF101: sorted(set(l)) of a list of texts; rstrip by signs -/
namespace LF
open PySem PySem.Spec PyProof.Rows L2
abbrev tKind (P : Program) (w : World) := PySem.strKind P w
def keyT (e : Int × Value) : Str := match e.2 with | .str k _ => k | _ => ⟨#[]⟩
def GoodT (w : World) (e : Int × Value) : Prop := ∃ k tk, e.2 = Value.str k tk ∧ e.1 = hashStr w k
/-- the set of texts at a -/
def SetT (w : World) (h : Heap) (a : Addr) (S : Str → Bool) (n : Nat) : Prop :=
  ∃ o es ep t, h.get? a = some o ∧ o.ExactSet ∧ o.data = .set es ep t ∧ (∀ e ∈ es.toList, GoodT w e) ∧ (es.toList.map keyT).Nodup ∧ (∀ k, S k = true ↔ k ∈ es.toList.map keyT) ∧
    es.size < scanBound ∧ t.fits es.size = true ∧ es.size = n ∧ Ris t.place.toList ∧ (w.params.followText "set-order" = true ∨ t.led = true)
section
variable {P : Program} {w : World} {h h' : Heap} {a : Addr} {S : Str → Bool} {n : Nat}
theorem SetT.at (R : SetT w h a S n) (k : ∀ o, h.get? a = some o → h'.get? a = some o) : SetT w h' a S n := by
  obtain ⟨o, es, ep, t, ho, r⟩ := R
  exact ⟨o, es, ep, t, k o ho, r⟩
theorem SetT.lt (R : SetT w h a S n) : a < h.objs.size := by
  obtain ⟨o, es, ep, t, ho, r⟩ := R
  exact Heap.lt_size ho
theorem SetT.congr {S' : Str → Bool} (R : SetT w h a S n) (e : ∀ k, S' k = S k) : SetT w h a S' n := by
  have q : S' = S := funext e
  rw [q]; exact R
theorem goodT_elems {l : List (Int × Value)} (g : ∀ e ∈ l, GoodT w e) : ElemsOf (tKind P w) l := fun e he => by
  obtain ⟨k, tk, h1, h2⟩ := g e he
  exact ⟨⟨k, by rw [h1]; exact strKind_is P w k tk, h2⟩, by rw [h1] <;> rfl⟩
theorem goodT_is {e : Int × Value} (g : GoodT w e) (k : Str) : (tKind P w).is k e.2 = true ↔ keyT e = k := by
  obtain ⟨k0, tk, h1, _⟩ := g
  unfold keyT
  rw [h1]
  constructor
  · exact fun q => Value.isStrOf_inj (.str k0 tk) k0 k (strKind_is P w k0 tk) q
  · exact fun q => q ▸ strKind_is P w k0 tk
theorem goodT_mem {l : List (Int × Value)} (g : ∀ e ∈ l, GoodT w e) (k : Str) : k ∈ l.map keyT ↔ ∃ e ∈ l, (tKind P w).is k e.2 = true := by
  rw [List.mem_map]
  constructor
  · rintro ⟨e, he, q⟩
    exact ⟨e, he, (goodT_is (g e he) k).2 q⟩
  · rintro ⟨e, he, q⟩
    exact ⟨e, he, (goodT_is (g e he) k).1 q⟩
end
section
variable {P : Program} {w : World} {A : Around} {E : Value → Shared → Prop} {s : Shared} {a : Addr} {S : Str → Bool} {n : Nat}
/-! ### add -/
theorem storeT_at {h : Heap} {a : Addr} {o : Obj} {es es' : Array (Int × Value)} {ep : Nat} {t t' : SetTable} (ho : h.get? a = some o) (hd : o.data = .set es ep t) :
    (h.update a (Obj.putSet es' t')).get? a = some { o with data := .set es' (ep + 1) t' } := by
  have q := Heap.get?_update_self (Obj.putSet es' t') ho (by rw [putSet_of es' t' hd]; rfl)
  rw [putSet_of es' t' hd] at q
  exact q
theorem setT_add_tail {g : Bool → Sem Unit} (hg : ∀ (b : Bool) (s₁ : Shared) (Q' : Unit → Shared → Prop), Q' () s₁ → wpAny (model P w) A (g b) Q' E s₁)
    {o : Obj} {es : Array (Int × Value)} {ep : Nat} {t : SetTable} (ho : s.heap.get? a = some o) (hex : o.ExactSet) (hd : o.data = .set es ep t)
    {es1 : Array (Int × Value)} {t2 : SetTable} {S' : Str → Bool} (g1 : ∀ e ∈ es1.toList, GoodT w e) (nd1 : (es1.toList.map keyT).Nodup) (m1 : ∀ k, S' k = true ↔ k ∈ es1.toList.map keyT)
    (hb1 : es1.size < scanBound) (hf2 : t2.fits es1.size = true) (hr : Ris t2.place.toList) (hl : w.params.followText "set-order" = true ∨ t2.led = true) {wasDummy : Bool} {R : Option Bool → Shared → Prop}
    (hR : ∀ h', Heap.SameBut a s.heap h' → SetT w h' a S' es1.size → R (some true) { s with heap := h' }) :
    wpAny (model P w) A (do
        storeSet a es1 t2
        if (!wasDummy && t2.tooFull) = true then do
            g (relayAll t2 es1 (SetTable.grown es1.size)).2.2
            storeSet a (relayAll t2 es1 (SetTable.grown es1.size)).1 (relayAll t2 es1 (SetTable.grown es1.size)).2.1
            pure (some true)
          else pure (some true)) R E s := by
  refine wpAny_bind (wpAny_storeSet_of ho hd ?_ (fits_of_scanBound hb1))
  have ho1 := storeT_at (es' := es1) (t' := t2) ho hd
  have sb1 := Heap.SameBut.update s.heap a (Obj.putSet es1 t2)
  split
  · have pm := relayAll_perm t2 es1 (SetTable.grown es1.size)
    have hf3 := relayAll_fits t2 es1 (SetTable.grown es1.size)
    have hr3 := relayAll_ris t2 es1 (SetTable.grown es1.size)
    have hl3 := relayAll_led t2 es1 (SetTable.grown es1.size)
    generalize relayAll t2 es1 (SetTable.grown es1.size) = Z at pm hf3 hr3 hl3 ⊢
    obtain ⟨es2, t3, gave⟩ := Z
    dsimp only at pm hf3 hr3 hl3 ⊢
    have hsz : es2.size = es1.size := by rw [← Array.length_toList, pm.length_eq, Array.length_toList]
    have hb2 : es2.size < scanBound := by rw [hsz]; exact hb1
    refine wpAny_bind (hg _ _ _ ?_)
    refine wpAny_bind (wpAny_storeSet_of ho1 rfl ?_ (fits_of_scanBound hb2))
    have ho2 := storeT_at (es' := es2) (t' := t3) ho1 rfl
    refine wpAny_pure (hR _ (sb1.trans (Heap.SameBut.update _ a _)) ?_)
    exact ⟨_, es2, _, t3, ho2, hex, rfl, fun e he => g1 e (pm.mem_iff.mp he), (pm.map keyT).nodup_iff.mpr nd1, fun k => (m1 k).trans (pm.map keyT).mem_iff.symm, hb2, hf3, hsz, hr3,
      hl.imp id fun z => by rw [hl3]; exact z⟩
  · exact wpAny_pure (hR _ sb1 ⟨_, es1, _, t2, ho1, hex, rfl, g1, nd1, m1, hb1, hf2, rfl, hr, hl⟩)
theorem setT_add_hashed {k : Str} {tk : Tok} {Q : Bool → Shared → Prop} (R : SetT w s.heap a S n) (room : n + 1 < scanBound)
    (hQ : ∀ h', Heap.SameBut a s.heap h' → SetT w h' a (fun j => S j || decide (j = k)) (if S k = true then n else n + 1) → Q (!S k) { s with heap := h' }) :
    wpAny (model P w) A (setAddHashed a (.str k tk) ((tKind P w).hash k)) Q E s := by
  obtain ⟨o, es, ep, t, ho, hex, hd, g, nd, hm, hb, hf, hn, hr, hl⟩ := R
  have hkey : (tKind P w).is k (.str k tk) = true := strKind_is P w k tk
  have hsc : (Value.str k tk).scannable = true := rfl
  have hel : ElemsOf (tKind P w) es.toList := goodT_elems g
  unfold setAddHashed setAddHashedIn
  refine wpAny_holding (wpAny_bind (wpAny_setState_of ho hd hf ?_))
  dsimp only
  rw [byScan_of hsc hb hel]
  simp only [↓reduceIte]
  unfold setAddByScan
  refine wpAny_bind ?_
  refine wpAny_bind (wpAny_rule ?_)
  refine wpAny_bind (wpAny_setScan_of hkey ho hd hf hel ?_)
  cases hfi : List.findIdx? (fun e => (tKind P w).is k e.2) es.toList with
  | some j =>
    dsimp only
    obtain ⟨hj, pj, _⟩ := List.findIdx?_eq_some_iff_getElem.mp hfi
    have hSk : S k = true := (hm k).2 ((goodT_mem (P := P) (w := w) g k).2 ⟨es.toList[j], List.getElem_mem hj, pj⟩)
    refine wpAny_pure (wpAny_pure ?_)
    have q := hQ s.heap (Heap.SameBut.refl a s.heap) ⟨o, es, ep, t, ho, hex, hd, g, nd, fun i => by
      rw [Bool.or_eq_true, decide_eq_true_eq, ← hm i]
      exact ⟨fun z => z.elim id (fun e => e ▸ hSk), .inl⟩, hb, hf, by rw [if_pos hSk]; exact hn, hr, hl⟩
    rw [hSk] at q
    exact q
  | none =>
    dsimp only
    have hnk : k ∉ es.toList.map keyT := fun z => by
      obtain ⟨e, he, q⟩ := (goodT_mem (P := P) (w := w) g k).1 z
      have c := List.findIdx?_eq_none_iff.mp hfi e he
      rw [q] at c
      cases c
    have hSk : S k = false := by
      cases q : S k with
      | false => rfl
      | true => exact absurd ((hm k).1 q) hnk
    have hgw : ∀ (b : Bool) {s₁ : Shared} {Q' : Unit → Shared → Prop}, Q' () s₁ → wpAny (model P w) A (match b with | true => rule "set.scan.the-table-gave-way" | false => pure ()) Q' E s₁ :=
      fun b s₁ Q' q => by cases b <;> first | exact wpAny_pure q | exact wpAny_rule q
    have pm := layNew_perm t es ((tKind P w).hash k) (.str k tk)
    have hf1 := layNew_fits t es ((tKind P w).hash k) (.str k tk)
    have hr1 := layNew_ris t es ((tKind P w).hash k) (.str k tk) hr
    have hl1 := layNew_led t es ((tKind P w).hash k) (.str k tk)
    generalize layNew t es ((tKind P w).hash k) (.str k tk) = Z at pm hf1 hr1 hl1 ⊢
    obtain ⟨es1, t1, wasDummy, gave⟩ := Z
    dsimp only at pm hf1 hr1 hl1 ⊢
    rw [Array.toList_push] at pm
    have pc : es1.toList.Perm (((tKind P w).hash k, Value.str k tk) :: es.toList) := pm.trans (List.perm_append_singleton _ _)
    have pk : (es1.toList.map keyT).Perm (k :: es.toList.map keyT) := pc.map keyT
    have g1 : ∀ e ∈ es1.toList, GoodT w e := fun e he => by
      rcases List.mem_cons.mp (pc.mem_iff.mp he) with z | z
      · rw [z]; exact ⟨k, tk, rfl, rfl⟩
      · exact g e z
    have nd1 : (es1.toList.map keyT).Nodup := pk.nodup_iff.mpr (List.nodup_cons.mpr ⟨hnk, nd⟩)
    have m1 : ∀ i, (S i || decide (i = k)) = true ↔ i ∈ es1.toList.map keyT := fun i => by
      rw [Bool.or_eq_true, decide_eq_true_eq, hm i, pk.mem_iff, List.mem_cons]
      exact Or.comm
    have hsz : es1.size = n + 1 := by rw [← Array.length_toList, pc.length_eq, List.length_cons, Array.length_toList, hn]
    have hb1 : es1.size < scanBound := by rw [hsz]; exact room
    have hled : w.params.followText "set-order" = true ∨ t1.led = true := hl.imp id fun z => by rw [hl1]; exact z
    have fin : ∀ h', Heap.SameBut a s.heap h' → SetT w h' a (fun j => S j || decide (j = k)) es1.size → Q true { s with heap := h' } := fun h' sb r => by
      have q := hQ h' sb
      rw [hSk] at q
      rw [hsz] at r
      exact q r
    refine wpAny_bind (hgw _ ?_)
    split
    · refine wpAny_bind ?_
      rw [hashByValue_scannable 8 hsc]
      refine wpAny_pure ?_
      refine setT_add_tail ?_ ho hex hd g1 nd1 m1 hb1 ?_ ?_ ?_ ?_
      · intro b s₁ Q' q; cases b <;> first | exact wpAny_pure q | exact wpAny_rule q
      · first | (split <;> first | exact hf1 | exact SetTable.fits_plain_off hf1) | exact hf1
      · first | (split <;> exact hr1) | exact hr1
      · first | (split <;> exact hled) | exact hled
      · intro h' sb r; dsimp only; exact wpAny_pure (fin h' sb r)
    · refine wpAny_bind (wpAny_pure ?_)
      simp only [↓reduceIte]
      refine setT_add_tail ?_ ho hex hd g1 nd1 m1 hb1 hf1 hr1 hled ?_
      · intro b s₁ Q' q; cases b <;> first | exact wpAny_pure q | exact wpAny_rule q
      · intro h' sb r; dsimp only; exact wpAny_pure (fin h' sb r)
end
theorem setT_new_at {w : World} {h : Heap} {a : Addr} {ns : List Str} (ho : h.get? a = some { cls := .type "set", dict := none, data := .set #[] 0 (.fresh 0 0 (!w.params.followText "set-order")) }) : SetT w h a (fun j => decide (j ∈ ns.take 0)) 0 :=
  ⟨_, #[], 0, _, ho, ⟨rfl, rfl, rfl⟩, rfl, (fun e he => by simp at he), (by simp), (fun k => by simp), (by decide), (by rfl), rfl, List.Pairwise.nil, by
    show _ ∨ (!w.params.followText "set-order") = true
    cases w.params.followText "set-order"
    · exact .inr rfl
    · exact .inl rfl⟩
section
variable {P : Program} {w : World} {A : Around} {E : Value → Shared → Prop} {s : Shared}
theorem set_update_txts {I : Addr} {fp wr : List Addr} {G : Array GenState → Array GenState → Prop} {n : Nat} {Pv : Nat → Value → Prop} {St : Nat → Shared → Prop} {R : Result → Shared → Prop}
    (W : WalksS P w A.in1 I fp wr G n Pv St) (S : Addr) (hSf : S ∉ fp) (ns : List Str) (hn : n = ns.length) (hb : ns.length + 1 < scanBound) (hval : ∀ i v, Pv i v → ∃ k t, ns[i]? = some k ∧ v = .str k t) :
    ∀ (k i : Nat) (s : Shared), n - i = k → i ≤ n → St i s → (∃ c, c ≤ i ∧ SetT w s.heap S (fun j => decide (j ∈ ns.take i)) c) →
      (∀ s' c, Moved (S :: wr) G s s' → c ≤ n → SetT w s'.heap S (fun j => decide (j ∈ ns)) c → R (.ok (.ret .none)) s') →
      codeAny (model P w) A (.builtin "set.update.loop" ⟨[.ref S, .ref I], []⟩) R s := by
  have hSw : S ∉ wr := fun h => hSf (W.sub _ h)
  have hsub : ∀ b ∈ wr, b ∈ S :: wr := fun b hb => List.mem_cons_of_mem _ hb
  intro k
  induction k with
  | zero =>
    intro i s hk' hi hst ⟨c, hc, hS⟩ hR
    have hin : i = n := by omega
    subst hin
    refine codeAny_builtin F.entry_set_update_loop ?_
    rw [Around.under_plainId F.plain_set_update_loop _]
    show wpAny _ A.in1 (pyNext (.ref I) >>= _) _ _ s
    refine wpAny_bind (W.done s _ _ hst fun s' hm => ?_)
    show wpAny _ A.in1 (ret Value.none) _ _ s'
    have e : ns.take i = ns := List.take_of_length_le (by omega)
    rw [e] at hS
    exact wpAny_pure (hR s' c (hm.mono hsub) hc (hS.at fun o e => hm.heap S o hSw e))
  | succ k ih =>
    intro i s hk' hi hst ⟨c, hc, hS⟩ hR
    have hlt : i < n := by omega
    refine codeAny_builtin F.entry_set_update_loop ?_
    rw [Around.under_plainId F.plain_set_update_loop _]
    show wpAny _ A.in1 (pyNext (.ref I) >>= _) _ _ s
    refine wpAny_bind (W.item i s _ _ hlt hst fun v s' hP hst' hm => ?_)
    obtain ⟨z, t, hz, rfl⟩ := hval i v hP
    have hS' : SetT w s'.heap S (fun j => decide (j ∈ ns.take i)) c := hS.at fun o e => hm.heap S o hSw e
    show wpAny _ A.in1 (holding [Value.str z t] (setAdd S (.str z t)) >>= _) _ _ s'
    refine wpAny_bind (wpAny_holding ?_)
    unfold setAdd
    refine wpAny_holding ?_
    refine wpAny_bind ((tKind P w).pyHash (k := z) (strKind_is _ _ _ _) ?_)
    refine setT_add_hashed (s := { s' with toks := s'.toks + 1 }) hS' (by omega) fun h' hsb hS2 => ?_
    have hS3 : SetT w h' S (fun j => decide (j ∈ ns.take (i + 1))) (if decide (z ∈ ns.take i) = true then c else c + 1) := hS2.congr fun j => by
      rw [List.take_add_one, hz]
      simp [List.mem_append]
    have hc3 : (if decide (z ∈ ns.take i) = true then c else c + 1) ≤ i + 1 := by
      split <;> omega
    refine wpAny_pure ⟨plainId_quiet F.plain_set_update_loop _, ih (i + 1) _ (by omega) hlt (W.frame _ s' _ _ hst' (Nat.le_succ _) fun b hb o e => ?_) ⟨_, hc3, hS3⟩ fun s'' c2 hm'' hc'' hS'' => ?_⟩
    · rw [hsb.2 b (fun h : b = S => hSf (by rw [← h]; exact hb))]; exact e
    · refine hR s'' c2 (Moved.trans W.gtrans ((hm.mono hsub).then_heap (Nat.le_succ _) fun b o hb e => ?_) hm'') hc'' hS''
      rw [hsb.2 b (fun h : b = S => hb (by rw [h]; exact List.mem_cons_self))]; exact e
end
section
variable {P : Program} {w : World} {A : Around} {E : Value → Shared → Prop} {s : Shared}
set_option maxHeartbeats 4000000 in
/-- set(l), texts -/
theorem sx_call {l : Addr} {items : Array Value} (ns : List Str) {Q : Value → Shared → Prop} (hh : A.handled = none) (hl : s.heap.IsList l items) (hit : StrsAre items.toList ns) (hb : ns.length + 1 < scanBound)
    (h : ∀ (h' : Heap) (tk c : Nat), SetT w h' s.heap.objs.size (fun j => decide (j ∈ ns)) c → c ≤ ns.length → (∀ b o, s.heap.get? b = some o → h'.get? b = some o) → Q (.ref s.heap.objs.size) { s with heap := h', toks := tk }) : wpAny (model P w) A (call (.type "set") [.ref l]) Q E s := by
  have hz : items.size = ns.length := by
    have q := StrsAre.length hit
    rw [Array.length_toList] at q
    exact q
  obtain ⟨c, tl, hmro⟩ := F.called_set.mro
  have m1 := F.called_set.made; have m2 := F.called_set.sub; have m3 := F.called_set.notType; have m4 := F.called_set.canCreate; have m5 := F.typeCall_set_1 (.ref l)
  refine wpAny_call (codeAny_of_tree ?_); show wpAny _ _ (callAny (.type "set") _) _ _ _; refine wpAny_pure ⟨Code.quiet_builtin _ (by decide +kernel), codeAny_builtin F.entry_type_call ?_⟩
  rw [Around.under_plain (weight_type_call_type "set" [.ref l] []) rfl]; repeat (any_goals (first | assumption | wp_step))
  refine codeAny_mono (code_set_led1 (.ref l) (E := E) (Q₁ := fun obj s₁ => obj = .ref s.heap.objs.size ∧ s₁ = { s with heap := s.heap.push (mtS w) }) ⟨rfl, rfl⟩) fun r s₁ hr => ?_
  rcases r with e | fl
  · exact hr
  · cases fl with
    | ret obj =>
      obtain ⟨rfl, rfl⟩ := hr
      have hS : (s.heap.push (mtS w)).get? s.heap.objs.size = some (mtS w) := Heap.get?_push_size _ rfl
      have hT : Shared.TypeIs { s with heap := s.heap.push (mtS w) } (.ref s.heap.objs.size) "set" := ⟨_, hS, rfl⟩
      have m6 := F.called_set.init.lookup; have m7 := F.called_set.init.bind (.ref s.heap.objs.size)
      repeat (any_goals (first | assumption | wp_step))
      refine codeAny_mono (codeAny_call_builtin (R := wants (fun r s₂ => r = .none ∧ ∃ h' tk c, s₂ = { s with heap := h', toks := tk } ∧ SetT w h' s.heap.objs.size (fun j => decide (j ∈ ns)) c ∧ c ≤ ns.length ∧ (∀ b o, s.heap.get? b = some o → h'.get? b = some o)) E) F.called_set.init.plain F.entry_set_init (check_set_init_1 hT ?_)) fun r₂ s₂ hr₂ => ?_
      · obtain ⟨ol, hol, hcl, nl, hdl⟩ := hl
        obtain ⟨oc, od, oda, osl⟩ := ol
        simp only at hcl hdl
        subst hcl; subst hdl
        have hol' : (s.heap.push (mtS w)).get? l = some { cls := .type "list", dict := od, data := .seq items nl, slots := osl } := Heap.get?_push_of_some _ hol
        have n1 := F.sub_list_set; have n2 := F.sub_list_frozenset; have n3 : (Value.type "list" == Value.type "dict") = false := by decide
        have hl1 : (s.heap.push (mtS w)).IsList l items := ⟨_, hol', rfl, nl, rfl⟩
        unfold Builtin.«set.__init__» noKeywords Builtin.Frozenset.updateFrom
        generalize hPI : pyIter = PI; wp_walk; subst hPI
        refine wpAny_pyIter_list hl1 ?_; refine wpAny_bind (wpAny_runValue ?_)
        have ls : l < s.heap.objs.size := Heap.lt_size hol
        have h3 : A.in1.in1.in1.handled = none := by simp [hh]
        have nI : l ≠ (s.heap.push (mtS w)).objs.size := by rw [Heap.size_push]; exact Nat.ne_of_lt (Nat.lt_succ_of_lt ls)
        have nS : s.heap.objs.size ∉ [(s.heap.push (mtS w)).objs.size, l] := by
          rw [Heap.size_push]; simp only [List.mem_cons, List.mem_singleton, List.not_mem_nil, or_false, not_or]; exact ⟨Nat.ne_of_lt (Nat.lt_succ_self _), Nat.ne_of_gt ls⟩
        have hv : ∀ (i : Nat) (v : Value), items[i]? = some v → ∃ k t, ns[i]? = some k ∧ v = .str k t := fun i v e => by
          obtain ⟨y, t, e1, e2⟩ := StrsAre.item hit i v (by rw [Array.getElem?_toList]; exact e)
          exact ⟨y, t, e2, e1⟩
        refine set_update_txts ((Walks.list h3 _ l nI items).toS) s.heap.objs.size nS ns hz hb hv (items.size - 0) 0 _ (by omega) (Nat.zero_le _)
          ⟨⟨_, Heap.get?_push_size _ rfl, rfl, rfl⟩, (hl1.push _)⟩ ?inA ?inB
        case inA => exact ⟨0, Nat.le_refl 0, setT_new_at (Heap.get?_push_of_some _ hS)⟩
        case inB =>
          intro s' c hm hc hr
          obtain ⟨h', g2, d', tk', os'⟩ := s'
          cases (show g2 = s.gens from hm.gens); cases (show d' = s.drawn from hm.drawn); cases (show os' = s.os from hm.os)
          show wpAny _ _ _ _ _ _
          refine wpAny_pure ?_
          show wpAny _ _ (ret Value.none) _ _ _
          rw [hz] at hc
          refine wpAny_pure ⟨rfl, h', tk', c, rfl, hr, hc, fun b o e => ?_⟩
          have b0 : b < s.heap.objs.size := Heap.lt_size e
          exact hm.heap b o (by
            simp only [List.mem_cons, List.mem_singleton, List.not_mem_nil, or_false, not_or]
            exact ⟨Nat.ne_of_lt b0, by rw [Heap.size_push]; exact Nat.ne_of_lt (Nat.lt_succ_of_lt b0)⟩) (Heap.get?_push_of_some _ (Heap.get?_push_of_some _ e))
      · rcases r₂ with e | fl₂
        · exact hr₂
        · cases fl₂ with
          | ret r =>
            obtain ⟨rfl, h', tk, c, rfl, r, pm, kp⟩ := hr₂
            repeat (any_goals (first | assumption | wp_step))
            exact h h' tk c r pm kp
          | _ => exact hr₂.elim
    | _ => exact hr.elim
end
def ltT (v u : Value) : Bool := decide ((strOf v).cps.toList < (strOf u).cps.toList)
theorem swo_txt : SrtO.Swo ltT := by
  refine ⟨fun x y h => ?_, fun x y z h1 h2 => ?_⟩
  · have a := of_decide_eq_true (p := (strOf x).cps.toList < (strOf y).cps.toList) h
    exact decide_eq_false (p := (strOf y).cps.toList < (strOf x).cps.toList) fun b => List.lt_irrefl _ (List.lt_trans a b)
  · have a := of_decide_eq_false (p := (strOf y).cps.toList < (strOf x).cps.toList) h1
    have b := of_decide_eq_false (p := (strOf z).cps.toList < (strOf y).cps.toList) h2
    exact decide_eq_false (p := (strOf z).cps.toList < (strOf x).cps.toList) (List.not_lt.mpr (List.le_trans (List.not_lt.mp a) (List.not_lt.mp b)))
section
variable {prog : Program} {w : World} {A : Around} {E : Value → Shared → Prop} {s : Shared}
theorem txt_cmp {vs : List Value} {ns : List Str} (hI : StrsAre vs ns) : SrtO.Cmp prog w A s oneType' (fun p => p.1 ∈ vs) (SrtO.lt2 ltT) := by
  intro p q hm hm'
  obtain ⟨a, t, e⟩ := hI.all _ hm
  obtain ⟨b, u, e'⟩ := hI.all _ hm'
  show wpAny (model prog w) A (keyLt' oneType' p.1 q.1) (fun r s' => s' = s ∧ r = ltT p.1 q.1) (fun _ _ => False) s
  rw [e, e', keyLt'_oneType]
  exact oneLt_str ⟨rfl, rfl⟩
theorem txts_sortable {a : Addr} {vs : List Value} {ns : List Str} (hI : StrsAre vs ns) (h2 : 2 ≤ vs.length) : SrtO.SortableO prog w A s a vs ltT := by
  intro h' _
  refine ⟨oneType', fun Q E hq => ?_, txt_cmp hI⟩
  match vs, hI, h2 with
  | v1 :: v2 :: rest, hI, _ =>
    rw [keyKind_strs hI]
    exact wpAny_pure hq
  | [], _, h => exact absurd h (by decide)
  | [v], _, h => exact absurd h (by simp)
end
section
variable {P : Program} {w : World} {A : Around} {s : Shared} {E : Value → Shared → Prop} {a : Addr}
theorem setT_sorted {S : Str → Bool} {n : Nat} {Q : Value → Shared → Prop} (R : SetT w s.heap a S n) (hh : A.handled = none) (hn : n ≤ sizeLine)
    (hQ : ∀ s' p (out : Array Value) (c : Nat) (ns : List Str), (∀ b o, s.heap.get? b = some o → s'.heap.get? b = some o) → s'.gens = s.gens → s'.os = s.os → s.heap.objs.size ≤ p →
      s'.heap.get? p = some (seqObj "list" out c) → StrsAre out.toList ns → ns.Pairwise (fun a b => b.cps.toList < a.cps.toList → False) → ns.Nodup → (∀ k, k ∈ ns ↔ S k = true) → ns.length = n → Q (.ref p) s') : wpAny (model P w) A (call (.builtin "sorted") [.ref a]) Q E s := by
  obtain ⟨o, es, ep, t, ho, hex, hd, g, nd, hm, hb, hf, hn', hr, hl⟩ := R
  refine Calls.call_function_entry kind_sorted plain_sorted entry_sorted (args_sorted1 _) ?_
  unfold Builtin.«sorted»
  refine wpAny_bind (m := checkCount "sorted" 1 1 _) (wpAny_pure (wpAny_bind (collect_set (A := A.in1) hh ⟨o, ho, hex.1, hd⟩ hf hb hr hl fun s1 vs k1 hz g1 o1 pm => ?_)))
  have hvl : vs.length = n := by rw [pm.length_eq, List.length_map, Array.length_toList]; exact hn'
  have hall : ∀ v, v ∈ vs → ∃ x t, v = Value.str x t := fun v hv => by
    obtain ⟨e, he, q⟩ := List.mem_map.mp (pm.mem_iff.mp hv)
    obtain ⟨k, tk, h1, _⟩ := g e he
    exact ⟨k, tk, by rw [← q]; exact h1⟩
  have hI : StrsAre vs (vs.map strOf) := strsAre_map vs hall
  have pk : (vs.map strOf).Perm (es.toList.map keyT) := by
    have q := pm.map strOf
    rw [List.map_map] at q
    exact q
  have hvz : vs.length ≤ sizeLine := by rw [hvl]; exact hn
  refine wpAny_bind (wpAny_newList ?_ hvz)
  have hoL : (s1.heap.push (seqObj "list" vs.toArray 0)).get? s1.heap.objs.size = some (seqObj "list" vs.toArray 0) := Heap.get?_push_size _ rfl
  refine wpAny_bind (wpAny_holding (wpAny_call_entry slot_list_sort ⟨_, hoL, rfl⟩ entry_list_sort (SrtO.list_sort_ord swo_txt hoL hvz (fun h2 => txts_sortable hI h2) fun out h1 h2 => ⟨_, rfl, ?_⟩) (args_list_sort _)))
  have a1 : StrsAre out (out.map strOf) := strsAre_map out fun v hv => hall v (h2.perm.mem_iff.mp hv)
  have a2 : (out.map strOf).Perm (vs.map strOf) := h2.perm.map strOf
  have a3 : (out.map strOf).Pairwise (fun a b => b.cps.toList < a.cps.toList → False) := List.pairwise_map.mpr (h1.imp fun {x y} h => of_decide_eq_false (p := (strOf y).cps.toList < (strOf x).cps.toList) h)
  obtain ⟨c, hc⟩ := sortedHeap_at (vs := vs) (out := out.toArray) hoL
  have pn := a2.trans pk
  refine wpAny_pure ⟨_, rfl, hQ _ s1.heap.objs.size out.toArray c _ (fun b u e => ?_) g1 o1 hz hc a1 a3 (pn.nodup_iff.mpr nd) (fun k => by rw [pn.mem_iff, ← hm k]) (by rw [pn.length_eq, List.length_map, Array.length_toList]; exact hn')⟩
  have q := k1 b u e
  have hlt := Heap.lt_size q
  show (sortedHeap (s1.heap.push (seqObj "list" vs.toArray 0)) s1.heap.objs.size vs out.toArray).get? b = some u
  rw [sortedHeap_old (Nat.ne_of_lt hlt) (by rw [size_push']; exact Nat.lt_succ_of_lt hlt)]
  exact Heap.get?_push_of_some _ q
end
section
variable {X : Cx} {Wx : WX} {e : Expr} {te : ET} {p p2 pos pos2 : Pos}
def wSSetX : Wv → HW → WK → Prop := fun w G q => ∃ (p : Addr) (ns : List Str), w = .ref p ∧ RdL G p (ns.map .str) ∧ ns.length ≤ 1000 ∧ ∀ out : List Str, out.Nodup → (∀ k, k ∈ out ↔ k ∈ ns) → ∀ l, G l = none → q (.ref l) (updO G l (.lst (out.map .str)))
def eSSetX (te : ET) : ET := fun x σ G q => te x σ G fun w G1 => wSSetX w G1 q
theorem z_ssetX (hc : X.calm = true) (hg : Gl X "sorted") (hm : X.mg "sorted" = none) (hg2 : Gl X "set") (hm2 : X.mg "set" = none) (he : EW X Wx e te) (na : starEach [e] X.env = (false, eval e X.env) :: starEach [] X.env := by rfl) :
    EW X Wx (.Call (.Name "sorted" p) [.Call (.Name "set" p2) [e] [] pos2] [] pos) (eSSetX te) := by
  refine ⟨fun pins s σ H Q I h => ?_⟩
  obtain ⟨σw, G, xw, q, rs, rh, px, po, h⟩ := h
  refine Call_ (ld_blt I hg hm boot_sorted ?_)
  refine PyProof.Rows.callWith_builtin1 (PyProof.Rows.args_cons ?_ rfl) rfl rfl
  refine Call_ (ld_blt I hg2 hm2 boot_set ?_)
  refine PyProof.Rows.callWith_type1 (PyProof.Rows.args_cons (thn (he.run pins s σ H (fun v H1 => ∃ w G1, TX X.K H H1 ∧ RW X.K H1 w v ∧ RH X.K G1 H1 ∧ wSSetX w G1 q) I ⟨σw, G, xw, _, rs, rh, px, fun w G1 v H1 t1 r1 rh1 h1 => ⟨w, G1, t1, r1, rh1, h1⟩, h⟩) fun v s1 ⟨x, H1, I1, rx, w, G1, t1, r1, rh1, h1⟩ => PyProof.Rows.args_nil ?_) na) na rfl
  obtain ⟨p0, ns, rfl, hr, hl, hq⟩ := h1
  cases r1
  cases rx
  obtain ⟨xs, sq, rr⟩ := rh1.rdl hr
  have ex := rr.strs
  subst ex
  obtain ⟨its, rv, pl, hz⟩ := I1.list sq
  have hi : StrsAre its.toArray.toList ns := by simpa using strs_of_vals rv
  have hd := I1.ok.hd hc
  refine sx_call ns hd pl.isList hi (by unfold scanBound; omega) fun h' tk c R1 hcn k => PyProof.Rows.args_nil ?_
  have I2 : Inv X pins σ H1 { s1 with heap := h', toks := tk } := I1.kept fun b o z => k b o z
  refine setT_sorted (s := { s1 with heap := h', toks := tk }) R1 hd (by rw [sizeLine_eq]; omega) fun s' p out c2 ns2 k2 g2 o2 hp ho hi2 _ hs hm3 hlen => ?_
  have hn : H1 p = none := I2.hok.fresh hp
  have hsz : (ns2.map V.str).length ≤ sizeLine := by rw [List.length_map, hlen, sizeLine_eq]; omega
  have J : Inv X pins σ (upd H1 p (.lst (ns2.map V.str))) { ({ s1 with heap := h', toks := tk } : Shared) with heap := s'.heap, gens := s'.gens, drawn := s'.drawn, toks := s'.toks } :=
    I2.call (ch := []) (Un.laid k2 hp hn) (I2.hok.laid k2 hp ⟨hsz, out.toList, c2, vals_of_strs hi2, ho⟩) (by rw [g2]; exact I2.bare) (fun _ z => nomatch z)
  have es : s' = { ({ s1 with heap := h', toks := tk } : Shared) with heap := s'.heap, gens := s'.gens, drawn := s'.drawn, toks := s'.toks } := by
    cases s'
    cases o2
    rfl
  rw [es]
  exact ⟨.ref p, _, J, rfl, po _ _ _ _ (t1.trans (TX.new hn)) (.ref p) (rh1.newL hn (RWs.ofStrs ns2)) (hq ns2 hs (fun j => by rw [hm3 j, decide_eq_true_eq]) p (rh1.fresh hn))⟩
variable {x : XW} {σ : SW} {G : HW} {q : WK}
def kSSetX (q : WK) : WK := fun w G => wSSetX w G q
theorem m_SSetX : eSSetX te x σ G q = te x σ G (kSSetX q) := rfl
theorem r_ssetX {p : Addr} {ns : List Str} (h : RdL G p (ns.map .str)) (hl : ns.length ≤ 1000) (z : ∀ out : List Str, out.Nodup → (∀ k, k ∈ out ↔ k ∈ ns) → ∀ l, G l = none → q (.ref l) (updO G l (.lst (out.map .str)))) : kSSetX q (.ref p) G := ⟨p, ns, rfl, h, hl, z⟩
end
/-! ### rstrip -/
section
variable {X : Cx}
def wRstrip : RMop := fun w us G q => match w, us with
  | .str a, [.str b] => a.length ≤ sizeLine ∧ q (.str (Txt.rstripChars a b)) G
  | _, _ => False
theorem w_rstrip : MtR X "str.rstrip" (embM X.K wRstrip) := by
  rintro pins s σ H x xs v us Q I rx rxs ⟨w, ws, G, q, r1, r2, rh, po, h⟩
  unfold wRstrip at h
  split at h
  · obtain ⟨h1, hq⟩ := h
    cases r1
    obtain ⟨y, rfl, ry⟩ := rws1 r2
    cases ry
    exact mt_rstripChars pins s σ H _ _ v us Q I rx rxs ⟨_, _, rfl, rfl, h1, po _ _ _ _ TX.refl (.str _) rh hq⟩
  · exact h.elim
theorem r_rstrip {a b : Str} {G : HW} {q : WK} (h : a.length ≤ sizeLine) (z : q (.str (Txt.rstripChars a b)) G) : wRstrip (.str a) [.str b] G q := ⟨h, z⟩
end
end LF
/-! LF102: words of texts; links by words -/
namespace LF
open PySem PySem.Spec PyProof.Rows L2
open SX (S S_tl S_inj S_len S_cat)
/-- a comprehension whose element raises nothing -/
theorem r_lcN {is vs : List Nat} {tt : QT} {te : ET} {x : XW} {σ : SW} {q : WK} {its : List Wv} {ok : HW → Prop} {G : HW} (ht : ∀ x σ, te x σ = te x0 σ) (h : kLc is vs tt te x σ q its ok G) : kLcX is vs tt te x σ q its ok G := by
  intro D hD
  obtain ⟨P, h0, h1, h2, h3⟩ := h D hD
  refine ⟨P, h0, h1, fun i w G ew hp => ?_, h3⟩
  obtain ⟨σ2, e, hq⟩ := h2 i w G ew hp
  refine ⟨σ2, e, ?_⟩
  simp only [ht]
  exact hq
/-- a comprehension whose turns lay new things, each kept -/
theorem r_lcD {its : List Wv} {ok : HW → Prop} {is vs : List Nat} {tt : QT} {te : ET} {x : XW} {σ : SW} {q : WK} {G : HW} (P : Addr → Nat → List Wv → HW → Prop) (hl : its.length ≤ sizeLine)
    (h0 : ∀ D, G D = none → P D 0 [] (updO G D (.lst [])))
    (hk : ∀ D i acc G', P D i acc G' → ok G')
    (hp : ∀ D i acc G' ys, P D i acc G' → P D i acc (updO G' D (.lst ys)))
    (hs : ∀ D i w acc G' (k : Option Wv → HW → Prop), its[i]? = some w → P D i acc G' → G' D = some (.lst acc) → (∀ y G2, P D (i + 1) (acc ++ [y]) G2 → G2 D = some (.lst acc) → k (some y) G2) → ∃ σ2, inTo is w (wipeW σ vs) = some σ2 ∧ tt x0 σ2 G' (kTurn te σ2 k))
    (hd : ∀ D acc G', G D = none → P D its.length acc G' → G' D = some (.lst acc) → q (.ref D) G') : kLc is vs tt te x σ q its ok G := by
  intro D hD
  refine ⟨fun i G' => ∃ acc, acc.length ≤ i ∧ P D i acc G' ∧ G' D = some (.lst acc), ⟨[], Nat.le_refl _, h0 D hD, updO_same⟩, fun i G' hi ⟨acc, _, z, _⟩ => hk D i acc G' z, fun i w G' ew ⟨acc, hl2, z, e⟩ => ?_, fun G' ⟨acc, _, z, e⟩ => hd D acc G' hD z e⟩
  have hi : i < its.length := by
    rcases Nat.lt_or_ge i its.length with h | h
    · exact h
    · rw [List.getElem?_eq_none h] at ew; cases ew
  obtain ⟨σ2, e2, hq⟩ := hs D i w acc G' (fun y G2 => match y with
    | some y => ∃ acc, G2 D = some (.lst acc) ∧ acc.length < sizeLine ∧ ∃ acc', acc'.length ≤ i + 1 ∧ P D (i + 1) acc' (updO G2 D (.lst (acc ++ [y]))) ∧ (updO G2 D (.lst (acc ++ [y]))) D = some (.lst acc')
    | none => ∃ acc', acc'.length ≤ i + 1 ∧ P D (i + 1) acc' G2 ∧ G2 D = some (.lst acc')) ew z e (fun y G2 z2 hD2 => ⟨acc, hD2, by omega, acc ++ [y], by simp; omega, hp _ _ _ _ _ z2, updO_same⟩)
  refine ⟨σ2, e2, ?_⟩
  have eqk : (kTurn te σ2 (fun y G2 => match y with
    | some y => ∃ acc, G2 D = some (.lst acc) ∧ acc.length < sizeLine ∧ ∃ acc', acc'.length ≤ i + 1 ∧ P D (i + 1) acc' (updO G2 D (.lst (acc ++ [y]))) ∧ (updO G2 D (.lst (acc ++ [y]))) D = some (.lst acc')
    | none => ∃ acc', acc'.length ≤ i + 1 ∧ P D (i + 1) acc' G2 ∧ G2 D = some (.lst acc'))) = (fun k G3 => match k with
    | true => te x0 σ2 G3 fun y G4 => ∃ acc, G4 D = some (.lst acc) ∧ acc.length < sizeLine ∧ ∃ acc', acc'.length ≤ i + 1 ∧ P D (i + 1) acc' (updO G4 D (.lst (acc ++ [y]))) ∧ (updO G4 D (.lst (acc ++ [y]))) D = some (.lst acc')
    | false => ∃ acc', acc'.length ≤ i + 1 ∧ P D (i + 1) acc' G3 ∧ G3 D = some (.lst acc')) := by
    funext k G3
    cases k <;> rfl
  rw [eqk] at hq
  exact hq
/-! ### words -/
def blk (c : Nat) : Bool := c == 32 || c == 10
def wdsG : List Nat → List Nat → List (List Nat)
  | acc, [] => if acc = [] then [] else [acc]
  | acc, c :: r => if blk c = true then (if acc = [] then wdsG [] r else acc :: wdsG [] r) else wdsG (acc ++ [c]) r
def wds (l : List Nat) : List (List Nat) := wdsG [] l
def to32 (c : Nat) : Nat := if c = 10 then 32 else c
theorem pre1 (d c : Nat) (r : List Nat) : TL.pre [d] (c :: r) = decide (c = d) := by
  show ((c :: r).take 1 == [d]) = _
  rw [show (c :: r).take 1 = [c] from rfl]
  by_cases h : c = d
  · subst h; simp
  · rw [decide_eq_false h]
    exact beq_eq_false_iff_ne.mpr fun e => h (List.cons.inj e).1
theorem spl_wds : ∀ (l acc : List Nat), (TL.spl [32] 0 acc (l.map to32)).filter (fun w => decide (w ≠ [])) = wdsG acc l
  | [], acc => by
    rw [List.map_nil, TL.spl_nil]
    unfold wdsG
    by_cases h : acc = []
    · subst h; simp
    · rw [if_neg h]; simp [h]
  | c :: r, acc => by
    rw [List.map_cons]
    have hb : decide (to32 c = 32) = blk c := by
      unfold to32 blk
      by_cases h : c = 10
      · subst h; rfl
      · rw [if_neg h, show (c == 10) = false from beq_eq_false_iff_ne.mpr h, Bool.or_false]
        rfl
    unfold wdsG
    cases e : blk c with
    | true =>
      rw [e] at hb
      rw [TL.spl_hit (by rw [pre1]; exact hb), if_pos rfl]
      have ih := spl_wds r []
      rw [show ([32] : List Nat).length - 1 = 0 from rfl]
      by_cases h : acc = []
      · subst h
        rw [if_pos rfl, List.filter_cons, if_neg (by simp), ih]
      · rw [if_neg h, List.filter_cons, if_pos (by simp [h]), ih]
    | false =>
      rw [e] at hb
      rw [TL.spl_miss (by rw [pre1]; exact hb), if_neg (by simp)]
      have ec : to32 c = c := by
        unfold to32
        rw [if_neg]
        rintro rfl
        cases e
      rw [ec]
      exact spl_wds r (acc ++ [c])
theorem repl_map : ∀ l : List Nat, StrLaws.replL [10] [32] l = l.map to32
  | [] => StrLaws.replL_nil
  | c :: r => by
    by_cases h : c = 10
    · subst h
      rw [StrLaws.replL_hit (by simp) rfl]
      show [32] ++ StrLaws.replL [10] [32] r = _
      rw [repl_map r]
      rfl
    · rw [StrLaws.replL_miss (by
        show ¬ [c] = [10]
        exact fun e => h (List.cons.inj e).1), repl_map r, List.map_cons]
      unfold to32
      rw [if_neg h]
theorem repl_S (l : List Nat) : Txt.replace (S l) "\n" " " = S (l.map to32) := by
  have e := StrLaws.replace_list (x := S l) (y := "\n") (z := " ") (by decide)
  rw [show ("\n" : Str).cps.toList = [10] from by decide +kernel, show (" " : Str).cps.toList = [32] from by decide +kernel, show (S l).cps.toList = l from rfl, repl_map] at e
  exact TL.ext_tl e
theorem wdsG_free : ∀ (w acc r : List Nat), (∀ c ∈ w, blk c = false) → wdsG acc (w ++ r) = wdsG (acc ++ w) r
  | [], acc, r, _ => by rw [List.nil_append, List.append_nil]
  | c :: w, acc, r, h => by
    rw [List.cons_append]
    conv => lhs; unfold wdsG
    rw [if_neg (by rw [h c List.mem_cons_self]; simp), wdsG_free w (acc ++ [c]) r fun d hd => h d (List.mem_cons_of_mem _ hd), List.append_assoc]
    rfl
theorem wds_blank : ∀ (b r : List Nat), (∀ c ∈ b, blk c = true) → wds (b ++ r) = wds r
  | [], r, _ => rfl
  | c :: b, r, h => by
    unfold wds
    rw [List.cons_append]
    conv => lhs; unfold wdsG
    rw [if_pos (h c List.mem_cons_self), if_pos rfl]
    exact wds_blank b r fun d hd => h d (List.mem_cons_of_mem _ hd)
theorem wds_word {w b r : List Nat} (hw : w ≠ []) (fw : ∀ c ∈ w, blk c = false) (hb : b ≠ []) (fb : ∀ c ∈ b, blk c = true) : wds (w ++ (b ++ r)) = w :: wds r := by
  unfold wds
  rw [wdsG_free w [] _ fw, List.nil_append]
  cases b with
  | nil => exact absurd rfl hb
  | cons c b =>
    rw [List.cons_append]
    conv => lhs; unfold wdsG
    rw [if_pos (fb c List.mem_cons_self), if_neg hw]
    exact congrArg (w :: ·) (wds_blank b r fun d hd => fb d (List.mem_cons_of_mem _ hd))
theorem wdsG_end : ∀ (l acc b : List Nat), (∀ c ∈ b, blk c = true) → wdsG acc (l ++ b) = wdsG acc l
  | [], acc, [], _ => rfl
  | [], acc, c :: b, h => by
    rw [List.nil_append]
    conv => lhs; unfold wdsG
    conv => rhs; unfold wdsG
    have e : wdsG [] b = [] := by
      have z := wds_blank b [] fun d hd => h d (List.mem_cons_of_mem _ hd)
      rw [List.append_nil] at z
      exact z
    rw [if_pos (h c List.mem_cons_self), e]
  | c :: l, acc, b, h => by
    rw [List.cons_append]
    conv => lhs; unfold wdsG
    conv => rhs; unfold wdsG
    rw [wdsG_end l [] b h, wdsG_end l (acc ++ [c]) b h]
theorem wdsG_len : ∀ (l acc : List Nat), (wdsG acc l).length ≤ l.length + 1
  | [], acc => by unfold wdsG; split <;> simp
  | c :: l, acc => by
    have a := wdsG_len l []
    have b := wdsG_len l (acc ++ [c])
    unfold wdsG
    rw [List.length_cons]
    split
    · split
      · omega
      · rw [List.length_cons]; omega
    · omega
theorem wds_len (l : List Nat) : (wds l).length ≤ l.length + 1 := wdsG_len l []
theorem spl_len (b : List Nat) : ∀ (l : List Nat) (k : Nat) (acc : List Nat), (TL.spl b k acc l).length ≤ l.length + 1
  | [], k, acc => by rw [TL.spl_nil]; exact Nat.le_refl _
  | c :: r, 0, acc => by
    unfold TL.spl
    split
    · have := spl_len b r (b.length - 1) []
      rw [List.length_cons, List.length_cons]; omega
    · have := spl_len b r 0 (acc ++ [c])
      rw [List.length_cons]; omega
  | c :: r, k + 1, acc => by
    have := spl_len b r k acc
    unfold TL.spl
    rw [List.length_cons]; omega
theorem wds_raw (t : List Nat) : (Txt.split (Txt.replace (S t) "\n" " ") " ").map Wv.str = (TL.spl [32] 0 [] (t.map to32)).map tS := by
  rw [repl_S, show (" " : Str) = S [32] from by decide +kernel, SX.split_S (by simp) (by decide), List.map_map]
  rfl
theorem wds_few (t : List Nat) (h : t.length ≤ 200) : ((Txt.split (Txt.replace (S t) "\n" " ") " ").map Wv.str).length ≤ sizeLine := by
  rw [wds_raw, List.length_map, sizeLine_eq]
  have := spl_len [32] (t.map to32) 0 []
  rw [List.length_map] at this
  omega
def neE (w : Wv) : Bool := match w with
  | .str z => decide (z ≠ S [])
  | _ => false
theorem wds_map (t : List Nat) : ((TL.spl [32] 0 [] (t.map to32)).map tS).filter neE = (wds t).map tS := by
  rw [List.filter_map]
  unfold wds
  rw [← spl_wds t []]
  refine congrArg (List.map tS) (List.filter_congr fun w _ => ?_)
  show decide (S w ≠ S []) = _
  by_cases h : w = []
  · subst h; simp
  · simp [h, fun e => h (S_inj e)]
def SpWdsOf : SpW := fun ws G q _ => ∃ t, ws = [tS t] ∧ t.length ≤ 200 ∧ ∀ l G', G l = none → Ext G G' → G' l = some (.lst ((wds t).map tS)) → q (.ref l) G'
/-! ### rstrip -/
theorem tw_split {p : Nat → Bool} : ∀ l : List Nat, ∃ a b, l = a ++ b ∧ l.takeWhile p = a ∧ ∀ c ∈ a, p c = true
  | [] => ⟨[], [], rfl, rfl, fun _ h => nomatch h⟩
  | c :: r => by
    rw [List.takeWhile_cons]
    cases e : p c with
    | false => exact ⟨[], c :: r, rfl, by simp, fun _ h => nomatch h⟩
    | true =>
      obtain ⟨a, b, e1, e2, h⟩ := tw_split (p := p) r
      exact ⟨c :: a, b, by rw [List.cons_append, ← e1], by rw [if_pos rfl, e2], fun d hd => (List.mem_cons.mp hd).elim (fun z => z ▸ e) (h d)⟩
theorem rstrip_S (l : List Nat) : ∃ m b, l = m ++ b ∧ (∀ c ∈ b, blk c = true) ∧ Txt.rstripChars (S l) (S [32, 10]) = S m := by
  obtain ⟨a, b, e1, e2, h⟩ := tw_split (p := (S [32, 10]).cps.contains) l.reverse
  have el : l = b.reverse ++ a.reverse := by rw [← List.reverse_append, ← e1, List.reverse_reverse]
  have hp : ∀ c ∈ a.reverse, blk c = true := fun c hc => by
    have z := h c (List.mem_reverse.mp hc)
    rw [show (S [32, 10]).cps = #[32, 10] from rfl] at z
    have z2 : c ∈ ([32, 10] : List Nat) := by
      have := Array.contains_iff_mem.mp z
      simpa using this
    unfold blk
    rcases List.mem_cons.mp z2 with rfl | z3
    · rfl
    · cases List.mem_singleton.mp z3; rfl
  have hlo : stripLo (S [32, 10]).cps.contains false (S l) = 0 := rfl
  have hhi : stripHi (S [32, 10]).cps.contains true (S l) 0 = b.length := by
    have e0 : stripHi (S [32, 10]).cps.contains true (S l) 0 = (S l).length - (l.reverse.takeWhile (S [32, 10]).cps.contains).length := rfl
    rw [e0, e2, S_len, ← List.length_reverse, e1, List.length_append]
    omega
  refine ⟨b.reverse, a.reverse, el, hp, ?_⟩
  unfold Txt.rstripChars Txt.stripBy stripSame stripped
  rw [hlo, hhi, S_len]
  have hl : l.length = b.length + a.length := by rw [el, List.length_append, List.length_reverse, List.length_reverse]
  by_cases h0 : a = []
  · subst h0
    rw [if_pos (by simp; rw [hl]; simp)]
    rw [el]; simp
  · have : 0 < a.length := List.length_pos_iff.mpr h0
    rw [if_neg (by simp; omega)]
    refine TL.ext_tl ?_
    show (Builtin.Str.strSub (S l) 0 b.length).cps.toList = b.reverse
    unfold Builtin.Str.strSub
    rw [show (S l).cps = l.toArray from rfl]
    simp only [Array.toList_extract, List.drop_zero, Nat.sub_zero]
    have e3 : l.take b.length = b.reverse := by
      rw [el, show b.length = b.reverse.length from (List.length_reverse ..).symm, List.take_left]
    simpa using e3
/-! ### links by words -/
abbrev Tx := List Nat
/-- the last of these rows that tells w -/
def lastOf : List (List Tx) → Tx → Option Nat
  | [], _ => none
  | r :: rs, w => match lastOf rs w with
    | some j => some (j + 1)
    | none => if r.head? = some w then some 0 else none
theorem lastOf_snoc : ∀ (rs : List (List Tx)) (r : List Tx) (w : Tx), lastOf (rs ++ [r]) w = if r.head? = some w then some rs.length else lastOf rs w
  | [], r, w => rfl
  | x :: rs, r, w => by
    rw [List.cons_append]
    show (match lastOf (rs ++ [r]) w with
      | some j => some (j + 1)
      | none => if x.head? = some w then some 0 else none) = _
    rw [lastOf_snoc rs r w]
    by_cases h : r.head? = some w
    · rw [if_pos h, if_pos h, List.length_cons]
    · rw [if_neg h, if_neg h]
      rfl
theorem lastOf_head : ∀ {rs : List (List Tx)} {w : Tx} {j : Nat}, lastOf rs w = some j → ∃ r, rs[j]? = some r ∧ r.head? = some w
  | [], w, j, h => nomatch h
  | r :: rs, w, j, h => by
    unfold lastOf at h
    cases e : lastOf rs w with
    | some i =>
      rw [e] at h
      cases h
      obtain ⟨x, h1, h2⟩ := lastOf_head e
      exact ⟨x, by rw [List.getElem?_cons_succ]; exact h1, h2⟩
    | none =>
      rw [e] at h
      dsimp only at h
      split at h
      · rename_i hr
        cases h
        exact ⟨r, rfl, hr⟩
      · cases h
theorem lastOf_lt {rs : List (List Tx)} {w : Tx} {j : Nat} (h : lastOf rs w = some j) : j < rs.length := by
  obtain ⟨r, e, _⟩ := lastOf_head h
  exact (List.getElem?_eq_some_iff.mp e).1
/-- a link of these rows -/
def LkAt (rows : List (List Tx)) (k j : Nat) : Prop := ∃ ws w, rows[k]? = some ws ∧ w ∈ ws.drop 1 ∧ lastOf (rows.take k) w = some j
def prC (k j : Nat) : Cf := [(k : Int), (j : Int)]
/-- the links of these rows, rising, each once -/
def LksOf (rows : List (List Tx)) (cs : List Cf) : Prop := RiseC cs ∧ cs.Nodup ∧ ∀ c, c ∈ cs ↔ ∃ k j, c = prC k j ∧ LkAt rows k j
theorem nodup_perm {α : Type} [DecidableEq α] {a b : List α} (na : a.Nodup) (nb : b.Nodup) (h : ∀ c, c ∈ a ↔ c ∈ b) : a.Perm b := (List.perm_ext_iff_of_nodup na nb).mpr h
theorem LksOf.uniq {rows : List (List Tx)} {a b : List Cf} (ha : LksOf rows a) (hb : LksOf rows b) : a = b := riseC_uniq (nodup_perm ha.2.1 hb.2.1 fun c => (ha.2.2 c).trans (hb.2.2 c).symm) ha.1 hb.1
theorem LksOf.at {rows : List (List Tx)} {cs : List Cf} (h : LksOf rows cs) {c : Cf} (hc : c ∈ cs) : ∃ k j : Nat, c = [(k : Int), (j : Int)] ∧ j < k ∧ k < rows.length := by
  obtain ⟨k, j, e, ws, w, h1, _, h3⟩ := (h.2.2 c).mp hc
  have hk := (List.getElem?_eq_some_iff.mp h1).1
  have hj := lastOf_lt h3
  rw [List.length_take] at hj
  exact ⟨k, j, e, by omega, hk⟩
/-- a list of lists of words -/
def RoA (G : HW) (f : Addr) (rows : List (List Tx)) : Prop := ∃ rs : List Addr, G f = some (.lst (rs.map Wv.ref)) ∧ rs.length = rows.length ∧ ∀ (i : Nat) (r : Addr) (ws : List Tx), rs[i]? = some r → rows[i]? = some ws → G r = some (.lst (ws.map tS))
theorem RoA.ext {G G' : HW} {f : Addr} {rows : List (List Tx)} (h : RoA G f rows) (e : Ext G G') : RoA G' f rows := let ⟨rs, h1, h2, h3⟩ := h; ⟨rs, e _ _ h1, h2, fun i r ws a b => e _ _ (h3 i r ws a b)⟩
def RoOk (rows : List (List Tx)) : Prop := rows.length ≤ 120 ∧ (∀ ws ∈ rows, ws.length ≤ 5) ∧ ∀ ws ∈ rows, ∀ w ∈ ws, okC w
def SpDueW : SpW := fun ws G q _ => ∃ f rows, ws = [.ref f] ∧ RoA G f rows ∧ RoOk rows ∧ ∀ cs G', LksOf rows cs → Ext G G' → q (.tup (cs.map cfW)) G'
theorem en_at {us : List Wv} {i : Nat} {w : Wv} (h : (enW us)[i]? = some w) : ∃ u, us[i]? = some u ∧ w = .tup [.int (i : Nat), u] := by
  unfold enW at h
  rw [List.getElem?_mapIdx] at h
  obtain ⟨u, e, h⟩ := Option.map_eq_some_iff.mp h
  exact ⟨u, e, h.symm⟩
theorem enW_len (us : List Wv) : (enW us).length = us.length := by unfold enW; simp
theorem wdsG_sub : ∀ (l acc : List Nat), ∀ w ∈ wdsG acc l, ∀ c ∈ w, c ∈ acc ∨ c ∈ l
  | [], acc, w, hw, c, hc => by
    unfold wdsG at hw
    split at hw
    · cases hw
    · cases List.mem_singleton.mp hw
      exact .inl hc
  | d :: l, acc, w, hw, c, hc => by
    unfold wdsG at hw
    split at hw
    · split at hw
      · rcases wdsG_sub l [] w hw c hc with h | h
        · cases h
        · exact .inr (List.mem_cons_of_mem _ h)
      · rcases List.mem_cons.mp hw with rfl | hw
        · exact .inl hc
        · rcases wdsG_sub l [] w hw c hc with h | h
          · cases h
          · exact .inr (List.mem_cons_of_mem _ h)
    · rcases wdsG_sub l _ w hw c hc with h | h
      · rcases List.mem_append.mp h with h | h
        · exact .inl h
        · cases List.mem_singleton.mp h
          exact .inr List.mem_cons_self
      · exact .inr (List.mem_cons_of_mem _ h)
theorem wds_ok {t : Tx} (h : okC t) : ∀ w ∈ wds t, okC w := fun w hw => h.sub fun c hc => (wdsG_sub t [] w hw c hc).elim (fun z => nomatch z) id
def SpLinksOf (K : PySem.W.Frag) (C B : Addr) : SpW := fun ws G q x => ∃ w, ws = [w] ∧
  ((∃ p l ts, w = .ref p ∧ CaA C G p l ts ∧ GdC ts ∧ (∀ t ∈ ts, okC t) ∧ ∀ cs G', LksOf (ts.map wds) cs → Ext G G' → q (.tup (cs.map cfW)) G') ∨
   (∃ t, TyW K G w t ∧ PySem.W.kitOne K t (.ref C) = some false ∧ ∀ G', Ext G G' → x (.ref B) [("what", .str "case")] G'))
/-- who tells what, of the first rows -/
def TbK (rs : List (List Tx)) (kvs : List (Key × Wv)) : Prop := ∀ w : Tx, lkW kvs (.inr (S w)) = (lastOf rs w).map fun (j : Nat) => Wv.int (j : Int)
theorem TbK.nil : TbK [] [] := fun w => rfl
theorem TbK.skip {rs : List (List Tx)} {kvs : List (Key × Wv)} (h : TbK rs kvs) : TbK (rs ++ [[]]) kvs := fun w => by rw [lastOf_snoc, if_neg (by simp)]; exact h w
theorem TbK.put {rs : List (List Tx)} {kvs : List (Key × Wv)} {v : Tx} {r : List Tx} (h : TbK rs kvs) : TbK (rs ++ [v :: r]) (pkW kvs (.inr (S v)) (.int (rs.length : Int))) := fun w => by
  rw [lastOf_snoc, lk_pk]
  by_cases e : w = v
  · subst e
    rw [if_pos rfl, if_pos (by rfl)]
    rfl
  · rw [if_neg (fun z => e (S_inj (Sum.inr.inj z))), if_neg (by
      show ¬ some v = some w
      exact fun z => e (Option.some.inj z).symm)]
    exact h w
/-- the links found of the first rows, and of the first words of the next one -/
def FdK (rows : List (List Tx)) (i : Nat) (us : List Tx) (cs : List Cf) : Prop := cs.Nodup ∧ ∀ c, c ∈ cs ↔ (∃ k j, c = prC k j ∧ k < i ∧ LkAt rows k j) ∨ ∃ w ∈ us, ∃ j, lastOf (rows.take i) w = some j ∧ c = prC i j
theorem FdK.nil {rows : List (List Tx)} : FdK rows 0 [] [] := ⟨List.nodup_nil, fun c => ⟨fun h => absurd h (by simp), fun h => by
  rcases h with ⟨k, j, _, h, _⟩ | ⟨w, hw, _⟩
  · omega
  · cases hw⟩⟩
theorem FdK.skip {rows : List (List Tx)} {i : Nat} {us : List Tx} {cs : List Cf} {w : Tx} (h : FdK rows i us cs) (hw : lastOf (rows.take i) w = none) : FdK rows i (us ++ [w]) cs := ⟨h.1, fun c => by
  rw [h.2 c]
  refine or_congr Iff.rfl ⟨fun ⟨u, hu, r⟩ => ⟨u, List.mem_append_left _ hu, r⟩, fun ⟨u, hu, j, e, r⟩ => ?_⟩
  rcases List.mem_append.mp hu with hu | hu
  · exact ⟨u, hu, j, e, r⟩
  · cases List.mem_singleton.mp hu
    rw [hw] at e
    cases e⟩
theorem FdK.put {rows : List (List Tx)} {i j : Nat} {us : List Tx} {cs : List Cf} {w : Tx} (h : FdK rows i us cs) (hw : lastOf (rows.take i) w = some j) : FdK rows i (us ++ [w]) (if prC i j ∈ cs then cs else cs ++ [prC i j]) := by
  have key : ∀ c, ((c ∈ cs) ∨ c = prC i j) ↔ (∃ k j, c = prC k j ∧ k < i ∧ LkAt rows k j) ∨ ∃ u ∈ us ++ [w], ∃ j, lastOf (rows.take i) u = some j ∧ c = prC i j := fun c => by
    rw [h.2 c]
    constructor
    · rintro ((z | ⟨u, hu, r⟩) | rfl)
      · exact .inl z
      · exact .inr ⟨u, List.mem_append_left _ hu, r⟩
      · exact .inr ⟨w, List.mem_append_right _ List.mem_cons_self, j, hw, rfl⟩
    · rintro (z | ⟨u, hu, j', e, r⟩)
      · exact .inl (.inl z)
      · rcases List.mem_append.mp hu with hu | hu
        · exact .inl (.inr ⟨u, hu, j', e, r⟩)
        · cases List.mem_singleton.mp hu
          rw [hw] at e
          cases e
          exact .inr r
  by_cases hm : prC i j ∈ cs
  · rw [if_pos hm]
    refine ⟨h.1, fun c => ?_⟩
    rw [← key c]
    exact ⟨.inl, fun z => z.elim id fun e => e ▸ hm⟩
  · rw [if_neg hm]
    refine ⟨List.nodup_append.mpr ⟨h.1, by simp, fun a ha b hb e => hm (by cases List.mem_singleton.mp hb; exact e ▸ ha)⟩, fun c => ?_⟩
    rw [← key c, List.mem_append, List.mem_singleton]
theorem FdK.next {rows : List (List Tx)} {i : Nat} {ws : List Tx} {cs : List Cf} (h : FdK rows i (ws.drop 1) cs) (e : rows[i]? = some ws) : FdK rows (i + 1) [] cs := ⟨h.1, fun c => by
  rw [h.2 c]
  constructor
  · rintro (⟨k, j, e1, e2, e3⟩ | ⟨w, hw, j, e1, e2⟩)
    · exact .inl ⟨k, j, e1, by omega, e3⟩
    · exact .inl ⟨i, j, e2, by omega, ws, w, e, hw, e1⟩
  · rintro (⟨k, j, e1, e2, e3⟩ | ⟨w, hw, _⟩)
    · by_cases hk : k < i
      · exact .inl ⟨k, j, e1, hk, e3⟩
      · have : k = i := by omega
        subst this
        obtain ⟨ws', w, h1, h2, h3⟩ := e3
        rw [e] at h1
        cases h1
        exact .inr ⟨w, h2, j, h3, e1⟩
    · cases hw⟩
theorem FdK.done {rows : List (List Tx)} {cs cs' : List Cf} (h : FdK rows rows.length [] cs) (pm : cs'.Perm cs) (ri : RiseC cs') : LksOf rows cs' := ⟨ri, pm.nodup_iff.mpr h.1, fun c => by
  rw [pm.mem_iff, h.2 c]
  constructor
  · rintro (⟨k, j, e1, _, e3⟩ | ⟨w, hw, _⟩)
    · exact ⟨k, j, e1, e3⟩
    · cases hw
  · rintro ⟨k, j, e1, ws, w, h1, h2⟩
    exact .inl ⟨k, j, e1, (List.getElem?_eq_some_iff.mp h1).1, ws, w, h1, h2⟩⟩
theorem pkW_keys {κ : Type} [DecidableEq κ] (kvs : List (κ × Wv)) (k : κ) (w : Wv) : (pkW kvs k w).map (·.1) = if k ∈ kvs.map (·.1) then kvs.map (·.1) else kvs.map (·.1) ++ [k] := by
  unfold pkW
  by_cases h : k ∈ kvs.map (·.1)
  · rw [if_pos h, if_pos (by
      obtain ⟨p, hp, e⟩ := List.mem_map.mp h
      exact List.any_eq_true.mpr ⟨p, hp, decide_eq_true e⟩), List.map_map]
    refine List.map_congr_left fun p hp => ?_
    show (if p.1 = k then (p.1, w) else p).1 = p.1
    split <;> rfl
  · rw [if_neg h, if_neg (by
      intro z
      obtain ⟨p, hp, e⟩ := List.any_eq_true.mp z
      exact h (List.mem_map.mpr ⟨p, hp, of_decide_eq_true e⟩)), List.map_append]
    rfl
theorem kyW_put {fkv : List (List Key × Wv)} {cs : List Cf} (e : fkv.map (·.1) = cs.map kyW) (c : Cf) (v : Wv) : (pkW fkv (kyW c) v).map (·.1) = (if c ∈ cs then cs else cs ++ [c]).map kyW := by
  rw [pkW_keys, e]
  by_cases h : c ∈ cs
  · rw [if_pos h, if_pos (List.mem_map.mpr ⟨c, h, rfl⟩)]
  · rw [if_neg h, if_neg (fun z => by
      obtain ⟨d, hd, e⟩ := List.mem_map.mp z
      exact h (kyW_inj e ▸ hd)), List.map_append]
    rfl
theorem LastEq {rs : List (List Tx)} {w w' : Tx} {j : Nat} (h : lastOf rs w = some j) (h' : lastOf rs w' = some j) : w = w' := by
  obtain ⟨r, e, a⟩ := lastOf_head h
  obtain ⟨r', e', b⟩ := lastOf_head h'
  rw [e] at e'
  cases e'
  rw [a] at b
  exact Option.some.inj b
theorem prC_inj {i j k l : Nat} (h : prC i j = prC k l) : i = k ∧ j = l := by
  unfold prC at h
  injection h with h1 h2
  injection h2 with h2 _
  exact ⟨by omega, by omega⟩
theorem FdK.new {rows : List (List Tx)} {i j : Nat} {us : List Tx} {cs : List Cf} {w : Tx} (h : FdK rows i us cs) (hw : lastOf (rows.take i) w = some j) (hn : w ∉ us) : prC i j ∉ cs := fun hm => by
  rcases (h.2 _).mp hm with ⟨k, j', e, hk, _⟩ | ⟨w', hw', j', e1, e2⟩
  · have := (prC_inj e).1
    omega
  · cases (prC_inj e2).2
    exact hn (LastEq hw e1 ▸ hw')
theorem FdK.same {rows : List (List Tx)} {i : Nat} {us vs : List Tx} {cs : List Cf} (h : FdK rows i us cs) (e : ∀ w, w ∈ us ↔ w ∈ vs) : FdK rows i vs cs := ⟨h.1, fun c => by
  rw [h.2 c]
  exact or_congr Iff.rfl ⟨fun ⟨w, hw, r⟩ => ⟨w, (e w).mp hw, r⟩, fun ⟨w, hw, r⟩ => ⟨w, (e w).mpr hw, r⟩⟩⟩
/-- the rows ahead that tell w -/
def aheadL (rows : List (List Tx)) (k : Nat) (w : Tx) : List Nat := (List.range k).filter fun j => decide ((rows.getD j []).head? = some w)
theorem ahead_last (rows : List (List Tx)) (w : Tx) : ∀ k, k ≤ rows.length → (aheadL rows k w).getLast? = lastOf (rows.take k) w
  | 0, _ => rfl
  | k + 1, h => by
    have ih := ahead_last rows w k (by omega)
    have e : rows.take (k + 1) = rows.take k ++ [rows.getD k []] := by
      rw [List.take_add_one, List.getElem?_eq_getElem (show k < rows.length by omega), List.getD_eq_getElem?_getD, List.getElem?_eq_getElem (show k < rows.length by omega)]
      rfl
    rw [e, lastOf_snoc, ← ih, List.length_take, Nat.min_eq_left (by omega)]
    unfold aheadL
    rw [List.range_succ, List.filter_append]
    by_cases c : (rows.getD k []).head? = some w
    · rw [if_pos c, List.filter_cons, if_pos (by simpa using c)]
      simp
    · rw [if_neg c, List.filter_cons, if_neg (by simpa using c)]
      simp
def heE (rows : List (List Tx)) (w : Tx) (x : Wv) : Bool := match x with
  | .int j => decide ((rows.getD j.toNat []).head? = some w)
  | _ => false
theorem ahead_W (rows : List (List Tx)) (k : Nat) (w : Tx) : (rgW 0 1 k).filter (heE rows w) = (aheadL rows k w).map fun (j : Nat) => Wv.int (j : Int) := by
  unfold rgW aheadL
  rw [show (fun i : Nat => Wv.int (0 + (i : Int) * 1)) = fun i : Nat => Wv.int (i : Int) from funext fun i => by rw [Int.zero_add, Int.mul_one], List.filter_map]
  refine congrArg _ (List.filter_congr fun j _ => ?_)
  show decide ((rows.getD (j : Int).toNat []).head? = some w) = _
  rw [Int.toNat_natCast]
theorem atI_last {l : List Wv} {a : Wv} (h : l.getLast? = some a) : atI l (-1) = some a := by
  have hp : 0 < l.length := by
    cases l with
    | nil => cases h
    | cons _ _ => simp
  rw [List.getLast?_eq_getElem?] at h
  unfold atI ixN
  rw [if_neg (by decide), if_pos (by omega), Option.bind_some, show (-1 + (l.length : Int)).toNat = l.length - 1 by omega]
  exact h
theorem out_codes {out : List Str} {vs : List Tx} (nd : out.Nodup) (hm : ∀ k, k ∈ out ↔ k ∈ vs.map S) : ∃ us : List Tx, out = us.map S ∧ us.Nodup ∧ (∀ w, w ∈ us ↔ w ∈ vs) ∧ us.length ≤ vs.length := by
  have e : out = (out.map fun z => z.cps.toList).map S := by
    rw [List.map_map]
    refine (List.map_id' out).symm.trans (List.map_congr_left fun z _ => ?_)
    exact (S_tl z).symm
  have n2 : (out.map fun z => z.cps.toList).Nodup := by
    rw [e] at nd
    exact List.Pairwise.of_map S (fun a b h z => h (congrArg S z)) nd
  have m2 : ∀ w, w ∈ (out.map fun z => z.cps.toList) ↔ w ∈ vs := fun w => by
    constructor
    · intro h
      obtain ⟨z, hz, rfl⟩ := List.mem_map.mp h
      obtain ⟨v, hv, e2⟩ := List.mem_map.mp ((hm z).mp hz)
      rw [← e2]
      exact hv
    · intro h
      exact List.mem_map.mpr ⟨S w, (hm _).mpr (List.mem_map.mpr ⟨w, h, rfl⟩), rfl⟩
  exact ⟨_, e, n2, m2, nodup_le n2 fun x hx => (m2 x).mp hx⟩
def poolT : List Tx := [[97], [98], [97, 98], [102], [120, 49], [108, 101, 116], [61], [43], [99], [97, 97]]
theorem pool_is : [Wv.str "a", .str "b", .str "ab", .str "f", .str "x1", .str "let", .str "=", .str "+", .str "c", .str "aa"] = poolT.map tS := by
  show [Wv.str "a", .str "b", .str "ab", .str "f", .str "x1", .str "let", .str "=", .str "+", .str "c", .str "aa"] = [Wv.str (S [97]), .str (S [98]), .str (S [97, 98]), .str (S [102]), .str (S [120, 49]), .str (S [108, 101, 116]), .str (S [61]), .str (S [43]), .str (S [99]), .str (S [97, 97])]
  rw [show ("a" : Str) = S [97] from by decide +kernel, show ("b" : Str) = S [98] from by decide +kernel, show ("ab" : Str) = S [97, 98] from by decide +kernel, show ("f" : Str) = S [102] from by decide +kernel, show ("x1" : Str) = S [120, 49] from by decide +kernel, show ("let" : Str) = S [108, 101, 116] from by decide +kernel, show ("=" : Str) = S [61] from by decide +kernel, show ("+" : Str) = S [43] from by decide +kernel, show ("c" : Str) = S [99] from by decide +kernel, show ("aa" : Str) = S [97, 97] from by decide +kernel]
theorem pool_ok : ∀ w ∈ poolT, w ≠ [] ∧ w.length ≤ 3 ∧ ∀ c ∈ w, blk c = false ∧ c < 128 := by decide
def SpWordsK : SpW := fun ws G q _ => ∃ m a b n, ws = [.ref m] ∧ DSt G m a b (n + 11) ∧ ∀ (D : Addr) (us : List Tx) (G' : HW), G D = none → Kp [m, b] G G' → DSt G' m a b n → G' D = some (.lst (us.map tS)) → us.length ≤ 5 → (∀ w ∈ us, w ∈ poolT) → q (.ref D) G'
def blkA : List Tx := [[], [32], [10], [32, 10, 32]]
def blkB : List Tx := [[32], [10], [32, 32], [32, 10]]
theorem blkA_is : [Wv.str "", .str " ", .str "\n", .str " \n "] = blkA.map tS := by
  show [Wv.str "", .str " ", .str "\n", .str " \n "] = [Wv.str (S []), .str (S [32]), .str (S [10]), .str (S [32, 10, 32])]
  rw [show ("" : Str) = S [] from by decide +kernel, show (" " : Str) = S [32] from by decide +kernel, show ("\n" : Str) = S [10] from by decide +kernel, show (" \n " : Str) = S [32, 10, 32] from by decide +kernel]
theorem blkB_is : [Wv.str " ", .str "\n", .str "  ", .str " \n"] = blkB.map tS := by
  show [Wv.str " ", .str "\n", .str "  ", .str " \n"] = [Wv.str (S [32]), .str (S [10]), .str (S [32, 32]), .str (S [32, 10])]
  rw [show (" " : Str) = S [32] from by decide +kernel, show ("\n" : Str) = S [10] from by decide +kernel, show ("  " : Str) = S [32, 32] from by decide +kernel, show (" \n" : Str) = S [32, 10] from by decide +kernel]
theorem blkA_ok : ∀ w ∈ blkA, w.length ≤ 3 ∧ ∀ c ∈ w, blk c = true ∧ c < 128 := by decide
theorem blkB_ok : ∀ w ∈ blkB, w ≠ [] ∧ w.length ≤ 2 ∧ ∀ c ∈ w, blk c = true ∧ c < 128 := by decide
def SpPieceK : SpW := fun ws G q _ => ∃ (m a b f : Addr) (us : List Tx) (n : Nat), ws = [.ref m, .ref f] ∧ DSt G m a b (n + 7) ∧ G f = some (.lst (us.map tS)) ∧ f ≠ m ∧ f ≠ b ∧ us.length ≤ 5 ∧ (∀ w ∈ us, w ∈ poolT) ∧
  ∀ (t : Tx) (G' : HW), wds t = us → t.length ≤ 30 → (∀ c ∈ t, c < 128) → Kp [m, b] G G' → DSt G' m a b n → q (tS t) G'
theorem lkC_dt {G : HW} (cs : List Cf) : Dt G (.tup (cs.map cfW)) (.tuple (cs.map cfD)) := .tup (dts_cf cs)
theorem LksOf.fit {rows : List (List Tx)} {cs : List Cf} (h : LksOf rows cs) (hr : rows.length ≤ 120) : Fit 2 (101 * cs.length) (.tuple (cs.map cfD)) := fit_tup (W := 100) (fun d hd => by
  obtain ⟨c, hc, rfl⟩ := List.mem_map.mp hd
  obtain ⟨k, j, rfl, h1, h2⟩ := h.at hc
  exact fit_ints (fun i hi => by
    simp only [List.mem_cons, List.not_mem_nil, or_false] at hi
    rcases hi with rfl | rfl <;> omega) (by simp)) (by rw [List.length_map]; omega)
theorem LksOf.pairs {rows : List (List Tx)} {cs : List Cf} (h : LksOf rows cs) : ∃ L : Lk, cs = L.map (fun p => [p.1, p.2]) ∧ (∀ p ∈ L, (0 ≤ p.1 ∧ p.1 < (rows.length : Int) ∧ 0 ≤ p.2 ∧ p.2 < (rows.length : Int)) ∧ p.1 ≠ p.2) ∧ L.Pairwise ltPr := by
  have e : cs = (cs.map prOf).map fun p => [p.1, p.2] := by
    rw [List.map_map]
    refine (List.map_id' cs).symm.trans (List.map_congr_left fun c hc => ?_)
    obtain ⟨k, j, rfl, _, _⟩ := h.at hc
    rfl
  have nd : (cs.map prOf).Nodup := by
    have n1 := h.2.1
    rw [e] at n1
    exact List.Pairwise.of_map (fun p : Int × Int => [p.1, p.2]) (fun a b hab z => hab (by rw [z])) n1
  obtain ⟨L, e2, pm, r⟩ := lks_of_rise (L := cs.map prOf) (by rw [← e]) nd h.1
  refine ⟨L, e2, fun p hp => ?_, r⟩
  obtain ⟨c, hc, rfl⟩ := List.mem_map.mp (pm.mem_iff.mp hp)
  obtain ⟨k, j, rfl, h1, h2⟩ := h.at hc
  show (0 ≤ (k : Int) ∧ (k : Int) < (rows.length : Int) ∧ 0 ≤ (j : Int) ∧ (j : Int) < (rows.length : Int)) ∧ (k : Int) ≠ (j : Int)
  omega
theorem cfW_tup (L : Lk) : (L.map fun p => ([p.1, p.2] : Cf)).map cfW = L.map tup2 := by rw [List.map_map]; rfl
theorem LksOf.len {rows : List (List Tx)} {cs : List Cf} (h : LksOf rows cs) (hr : rows.length ≤ 120) : cs.length ≤ 14400 := by
  have := nodup_le (l := cs) (m := (List.range 120).flatMap fun k => (List.range 120).map fun j => prC k j) h.2.1 fun c hc => by
    obtain ⟨k, j, rfl, h1, h2⟩ := h.at hc
    exact List.mem_flatMap.mpr ⟨k, List.mem_range.mpr (by omega), List.mem_map.mpr ⟨j, List.mem_range.mpr (by omega), rfl⟩⟩
  rw [List.length_flatMap] at this
  simp only [List.length_map, List.length_range, List.map_const'] at this
  rw [List.sum_replicate_nat] at this
  omega
/-- all links, made at once -/
def lkAll (rows : List (List Tx)) : List Cf := (List.range rows.length).flatMap fun k => ((rows.getD k []).drop 1).filterMap fun w => (lastOf (rows.take k) w).map (prC k)
theorem lkAll_mem {rows : List (List Tx)} {c : Cf} : c ∈ lkAll rows ↔ ∃ k j, c = prC k j ∧ LkAt rows k j := by
  unfold lkAll
  rw [List.mem_flatMap]
  constructor
  · rintro ⟨k, hk, h⟩
    obtain ⟨w, hw, e⟩ := List.mem_filterMap.mp h
    obtain ⟨j, e1, e2⟩ := Option.map_eq_some_iff.mp e
    have hk := List.mem_range.mp hk
    rw [List.getD_eq_getElem?_getD, List.getElem?_eq_getElem hk] at hw
    exact ⟨k, j, e2.symm, _, w, List.getElem?_eq_getElem hk, hw, e1⟩
  · rintro ⟨k, j, rfl, ws, w, h1, h2, h3⟩
    refine ⟨k, List.mem_range.mpr (List.getElem?_eq_some_iff.mp h1).1, List.mem_filterMap.mpr ⟨w, ?_, ?_⟩⟩
    · rw [List.getD_eq_getElem?_getD, h1]
      exact h2
    · rw [h3]
      rfl
theorem lks_set {rows : List (List Tx)} {cs : List Cf} (ri : RiseC cs) (nd : cs.Nodup) (h : lkAll rows = cs) : LksOf rows cs := ⟨ri, nd, fun c => by rw [← h]; exact lkAll_mem⟩
def tsX : List Tx := [[97], [97, 32, 97], [97], [98, 32, 97]]
def tsY : List Tx := [[32], [97, 32, 97, 32, 97], [], [97]]
theorem tsX_is : [Wv.str "a", .str "a a", .str "a", .str "b a"] = tsX.map tS := by
  show [Wv.str "a", .str "a a", .str "a", .str "b a"] = [Wv.str (S [97]), .str (S [97, 32, 97]), .str (S [97]), .str (S [98, 32, 97])]
  rw [show ("a" : Str) = S [97] from by decide +kernel, show ("a a" : Str) = S [97, 32, 97] from by decide +kernel, show ("b a" : Str) = S [98, 32, 97] from by decide +kernel]
theorem tsY_is : [Wv.str " ", .str "a a a", .str "", .str "a"] = tsY.map tS := by
  show [Wv.str " ", .str "a a a", .str "", .str "a"] = [Wv.str (S [32]), .str (S [97, 32, 97, 32, 97]), .str (S []), .str (S [97])]
  rw [show (" " : Str) = S [32] from by decide +kernel, show ("a a a" : Str) = S [97, 32, 97, 32, 97] from by decide +kernel, show ("" : Str) = S [] from by decide +kernel, show ("a" : Str) = S [97] from by decide +kernel]
theorem lksX : LksOf (tsX.map wds) [[1, 0], [3, 2]] := lks_set (by unfold RiseC; decide +kernel) (by decide) (by decide +kernel)
theorem lksY : LksOf (tsY.map wds) [] := lks_set List.Pairwise.nil (by decide) (by decide +kernel)
/-- a case's links, told -/
theorem lk_case {K : PySem.W.Frag} {C B : Addr} {G : HW} {q : WK} {x : XE} {p l : Addr} {ts : List Tx} (ca : CaA C G p l ts) (gd : GdC ts) (ok : ∀ t ∈ ts, ∀ c ∈ t, c < 128) (h : ∀ cs G', LksOf (ts.map wds) cs → Ext G G' → q (.tup (cs.map cfW)) G') : SpLinksOf K C B [.ref p] G q x :=
  ⟨_, rfl, .inl ⟨p, l, ts, rfl, ca, gd, (fun t ht c hc => by have := ok t ht c hc; omega), h⟩⟩
theorem two_said {G : HW} {a b : Str} (h1 : PyData.strOk a = true) (h2 : PyData.strOk b = true) (h3 : a.length ≤ 20) (h4 : b.length ≤ 20) : Dt G (.tup [.str a, .str b]) (.tuple [.str a, .str b]) ∧ Fit 1 100 (.tuple [.str a, .str b]) :=
  ⟨.tup (.cons (.str a) (.cons (.str b) .nil)), fit_tup (W := 20) (fun d hd => by
    simp only [List.mem_cons, List.not_mem_nil, or_false] at hd
    rcases hd with rfl | rfl
    · exact (fit_str h1).mono (Nat.le_refl _) h3
    · exact (fit_str h2).mono (Nat.le_refl _) h4) (Nat.le_of_ble_eq_true rfl)⟩
end LF
namespace LawX
open PySem PySem.Spec PyProof.Rows L2 LF
local macro_rules | `(tactic| walk_at "pull") => `(tactic| first | exact Pull.head | (apply Pull.tail; walk_at "pull"))
local macro_rules | `(tactic| walk_at "putp") => `(tactic| first
  | exact Put.head | exact Put.tail Put.head | exact Put.tail (Put.tail Put.head) | exact Put.tail (Put.tail (Put.tail Put.head))
  | exact Put.tail (Put.tail (Put.tail (Put.tail Put.head))) | exact Put.tail (Put.tail (Put.tail (Put.tail (Put.tail Put.head))))
  | exact Put.tail (Put.tail (Put.tail (Put.tail (Put.tail (Put.tail Put.head))))) | exact Put.tail (Put.tail (Put.tail (Put.tail (Put.tail (Put.tail (Put.tail Put.head))))))
  | exact Put.tail (Put.tail (Put.tail (Put.tail (Put.tail (Put.tail (Put.tail (Put.tail Put.head))))))))
local macro_rules | `(tactic| walk_at "sepm") => `(tactic| repeat (first | exact Sub.refl | refine Sub.pull (by walk_at "pull") ?_))
local macro_rules | `(tactic| walk_at "seps") => `(tactic| repeat (first | exact Sub.refl | exact Sub.nil | refine Sub.pull (by walk_at "pull") ?_ | refine Sub.skip ?_))
local macro_rules | `(tactic| walk_at "sepx") => `(tactic| (simp only [bun_consS, bun_nilS, bun_appS, teT_S, celsL_cons, celsL_nil, List.cons_append, List.nil_append, star_assoc, star_ttl, star_tt]; (try simp only [star_ttl, star_tt, star_top, star_topB]); (try ac_rfl)))
set_option hygiene false in
local macro_rules | `(tactic| walk_at "m0") => `(tactic| try simp only [m_V, m_kV, m_C, m_Op, m_kOp, m_kOp2, m_kBl, m_qOp, m_kCh2, m_kCh2f, m_kCh3, m_kCh1, m_kCh, m_Ch, m_qCh, m_oNone, m_oSome, m_kO, m_Sl, m_kSl, m_kSl1, m_kSl2, m_slT, m_qT, m_kTru, m_tB, m_tN, m_tI, m_tT, m_qA, m_qO, m_qN, m_kqAt, m_kqAf, m_kqOt, m_kqOf, m_kqN, m_qYes, m_A, m_Or, m_N, m_Neg, m_kAt, m_kAf, m_kOrt, m_kOrf, m_kN, m_kNeg, m_If, m_kIft, m_kIff, m_an, m_ac, m_kac, m_kac2, m_Tup, m_Lst, m_kTup, m_CB, m_kCB, m_pk1, m_pp, m_pkk, m_pd, m_pn, m_kX, m_Call, m_kC1, m_kC2, m_BM, m_BM0, m_kM1, m_Seq, m_Seq_nx, m_Seq_rt, m_Seq_bk, m_Seq_ct, m_Seq_ex, m_Next, m_Brk, m_Cont, m_Expr, m_kEx, m_Ret, m_RetN, m_SIf, m_kSIft, m_kSIff, m_Set, m_kSet, m_Par, m_kPar, m_Par3, m_kPar3, m_Asg, m_kAsg, m_gNm, m_kG, m_gNo, m_gMo, m_gTu, m_gSb, m_kGs, m_kGs2, m_kW2, m_Aug, m_kAug, m_kAu, m_kAu2, m_mk1, m_kMk, m_Raise, m_ends_rt, m_ends_ex, m_ends_nx, m_add, m_addB, m_sub, m_eqI, m_eqS, m_neI, m_neS, m_isB, m_isN, m_isNotN, m_nonN, m_nonR, m_nonT, m_nonI, m_nonS, m_nonB, m_lenT, m_lenKt, m_lenK, m_tupT, m_max, m_min, m_intI, m_intB, m_pr0, m_pr, m_kpr, m_kpr2, m_Xf, m_Try, m_Try_nx, m_Try_rt, m_Try_bk, m_Try_ct, m_Try_ex, m_Suite_nx, m_Suite_rt, m_Suite_bk, m_Suite_ct, m_kXe, m_kXo, m_tlOf, m_For, m_Loop_nx, m_Loop_ct, m_Loop_bk, m_Loop_rt, m_Loop_ex, m_kB, m_iSeq, m_kItT, m_kItK, m_kItKt, m_kItS, m_iRg1, m_iRg2, m_iEnu, m_kEnuK, m_iZp, m_kZpT, m_iRv, m_kRvT, m_Lc, m_kCell, m_kTurnT, m_kTurnF, m_wip0, m_wip1, m_Back, m_kBackT, m_rg1, m_kRgA, m_TupRg, m_LstRg, m_Dc, m_DturnT, m_DturnF, m_kDk, m_kDv, m_SSet, m_iRvR, m_At, m_Fst, m_kFs, m_Meth, m_kMe2, m_kMe3, m_Make, m_kMk1, m_kMade, m_ltI, m_geI, m_geP, m_isNotB, m_Get1, m_Get2, m_kGet2, m_Setd, m_kSd2, m_rg2, m_kRg2a, m_kRg2b, m_kCallF, m_mSeq, m_kMk_nx, m_kMk_ex, m_mRet, m_mNil, m_mIf, m_kMift, m_kMiff, m_kMd_nx, m_kMd_rt, m_kMd_ex, m_endsM_rt, m_endsM_ex, m_lay0, m_lay, m_lay1, m_lay1n, m_RetFin, m_kFin, m_finN_nx, m_finN_rt, m_finX, m_finE_nx, m_LenO, m_gAt, m_Faug, m_kFaug2, m_kWht, m_kWhf, m_kWhD_nx, m_kWhD_ct, m_kWhD_bk, m_kWhD_rt, m_kWhD_ex, m_DcG, m_mkA, m_mk0, m_kMkA, m_LiT, m_KeyF, m_lockD_nx, m_lockD_ex, m_LnSet, m_CallL, m_kMwt, m_kMwf, m_kMwD_nx, m_kMwD_rt, m_kMwD_ex, m_SrtKey, m_TuT, m_Count, m_ListS, m_ListSr, m_StrA_str, m_AugIx, m_Aug1, m_Fmt, m_Join, m_Out, m_JsN, m_JsC, m_LcL, m_SSetC, m_SSetI, m_ExV, m_mkT, m_TryN, m_TryN_nx, m_TryN_rt, m_TryN_bk, m_TryN_ct, m_TryN_ex, m_SuN_nx, m_SuN_rt, m_SuN_bk, m_SuN_ct, m_out, m_mkAK, m_kMkAK, m_MethL, m_LcX, m_kTurnXT, m_kTurnXF, m_Repl, m_iLstT, m_SSetX, List.getElem?_cons_zero, List.getElem?_cons_succ, List.set_cons_zero, List.set_cons_succ, List.length_cons, List.length_nil, List.getD_cons_zero, List.getD_cons_succ, List.zip_cons_cons, List.zip_nil_left, Nat.zero_add, Nat.reduceAdd, Nat.reduceLeDiff, Bool.not_true, Bool.not_false])
set_option hygiene false in
local macro_rules | `(tactic| walk_at "x1") => `(tactic| try simp only [m_V, m_kV, m_C, m_Op, m_kOp, m_kOp2, m_kBl, m_qOp, m_kCh2, m_kCh2f, m_kCh3, m_kCh1, m_kCh, m_Ch, m_qCh, m_oNone, m_oSome, m_kO, m_Sl, m_kSl, m_kSl1, m_kSl2, m_slT, m_qT, m_kTru, m_tB, m_tN, m_tI, m_tT, m_qA, m_qO, m_qN, m_kqAt, m_kqAf, m_kqOt, m_kqOf, m_kqN, m_qYes, m_A, m_Or, m_N, m_Neg, m_kAt, m_kAf, m_kOrt, m_kOrf, m_kN, m_kNeg, m_If, m_kIft, m_kIff, m_an, m_ac, m_kac, m_kac2, m_Tup, m_Lst, m_kTup, m_CB, m_kCB, m_pk1, m_pp, m_pkk, m_pd, m_pn, m_kX, m_Call, m_kC1, m_kC2, m_BM, m_BM0, m_kM1, m_Seq, m_Seq_nx, m_Seq_rt, m_Seq_bk, m_Seq_ct, m_Seq_ex, m_Next, m_Brk, m_Cont, m_Expr, m_kEx, m_Ret, m_RetN, m_SIf, m_kSIft, m_kSIff, m_Set, m_kSet, m_Par, m_kPar, m_Par3, m_kPar3, m_Asg, m_kAsg, m_gNm, m_kG, m_gNo, m_gMo, m_gTu, m_gSb, m_kGs, m_kGs2, m_kW2, m_Aug, m_kAug, m_kAu, m_kAu2, m_mk1, m_kMk, m_Raise, m_ends_rt, m_ends_ex, m_ends_nx, m_add, m_addB, m_sub, m_eqI, m_eqS, m_neI, m_neS, m_isB, m_isN, m_isNotN, m_nonN, m_nonR, m_nonT, m_nonI, m_nonS, m_nonB, m_lenT, m_lenKt, m_lenK, m_tupT, m_max, m_min, m_intI, m_intB, m_pr0, m_pr, m_kpr, m_kpr2, m_Xf, m_Try, m_Try_nx, m_Try_rt, m_Try_bk, m_Try_ct, m_Try_ex, m_Suite_nx, m_Suite_rt, m_Suite_bk, m_Suite_ct, m_kXe, m_kXo, m_tlOf, m_For, m_Loop_nx, m_Loop_ct, m_Loop_bk, m_Loop_rt, m_Loop_ex, m_kB, m_iSeq, m_kItT, m_kItK, m_kItKt, m_kItS, m_iRg1, m_iRg2, m_iEnu, m_kEnuK, m_iZp, m_kZpT, m_iRv, m_kRvT, m_Lc, m_kCell, m_kTurnT, m_kTurnF, m_wip0, m_wip1, m_Back, m_kBackT, m_rg1, m_kRgA, m_TupRg, m_LstRg, m_Dc, m_DturnT, m_DturnF, m_kDk, m_kDv, m_SSet, m_iRvR, m_At, m_Fst, m_kFs, m_Meth, m_kMe2, m_kMe3, m_Make, m_kMk1, m_kMade, m_ltI, m_geI, m_geP, m_isNotB, m_Get1, m_Get2, m_kGet2, m_Setd, m_kSd2, m_rg2, m_kRg2a, m_kRg2b, m_kCallF, m_mSeq, m_kMk_nx, m_kMk_ex, m_mRet, m_mNil, m_mIf, m_kMift, m_kMiff, m_kMd_nx, m_kMd_rt, m_kMd_ex, m_endsM_rt, m_endsM_ex, m_lay0, m_lay, m_lay1, m_lay1n, m_RetFin, m_kFin, m_finN_nx, m_finN_rt, m_finX, m_finE_nx, m_LenO, m_gAt, m_Faug, m_kFaug2, m_kWht, m_kWhf, m_kWhD_nx, m_kWhD_ct, m_kWhD_bk, m_kWhD_rt, m_kWhD_ex, m_DcG, m_mkA, m_mk0, m_kMkA, m_LiT, m_KeyF, m_lockD_nx, m_lockD_ex, m_LnSet, m_CallL, m_kMwt, m_kMwf, m_kMwD_nx, m_kMwD_rt, m_kMwD_ex, m_SrtKey, m_TuT, m_Count, m_ListS, m_ListSr, m_StrA_str, m_AugIx, m_Aug1, m_Fmt, m_Join, m_Out, m_JsN, m_JsC, m_LcL, m_SSetC, m_SSetI, m_ExV, m_mkT, m_TryN, m_TryN_nx, m_TryN_rt, m_TryN_bk, m_TryN_ct, m_TryN_ex, m_SuN_nx, m_SuN_rt, m_SuN_bk, m_SuN_ct, m_out, m_mkAK, m_kMkAK, m_MethL, m_LcX, m_kTurnXT, m_kTurnXF, m_Repl, m_iLstT, m_SSetX, List.getElem?_cons_zero, List.getElem?_cons_succ, List.set_cons_zero, List.set_cons_succ, List.length_cons, List.length_nil, List.getD_cons_zero, List.getD_cons_succ, List.zip_cons_cons, List.zip_nil_left, Nat.zero_add, Nat.reduceAdd, Nat.reduceLeDiff, Bool.not_true, Bool.not_false, Bool.or_false])
set_option hygiene false in
local macro_rules | `(tactic| walk_at "x2") => `(tactic| try simp only [m_V, m_kV, m_C, m_Op, m_kOp, m_kOp2, m_kBl, m_qOp, m_kCh2, m_kCh2f, m_kCh3, m_kCh1, m_kCh, m_Ch, m_qCh, m_oNone, m_oSome, m_kO, m_Sl, m_kSl, m_kSl1, m_kSl2, m_slT, m_qT, m_kTru, m_tB, m_tN, m_tI, m_tT, m_qA, m_qO, m_qN, m_kqAt, m_kqAf, m_kqOt, m_kqOf, m_kqN, m_qYes, m_A, m_Or, m_N, m_Neg, m_kAt, m_kAf, m_kOrt, m_kOrf, m_kN, m_kNeg, m_If, m_kIft, m_kIff, m_an, m_ac, m_kac, m_kac2, m_Tup, m_Lst, m_kTup, m_CB, m_kCB, m_pk1, m_pp, m_pkk, m_pd, m_pn, m_kX, m_Call, m_kC1, m_kC2, m_BM, m_BM0, m_kM1, m_Seq, m_Seq_nx, m_Seq_rt, m_Seq_bk, m_Seq_ct, m_Seq_ex, m_Next, m_Brk, m_Cont, m_Expr, m_kEx, m_Ret, m_RetN, m_SIf, m_kSIft, m_kSIff, m_Set, m_kSet, m_Par, m_kPar, m_Par3, m_kPar3, m_Asg, m_kAsg, m_gNm, m_kG, m_gNo, m_gMo, m_gTu, m_gSb, m_kGs, m_kGs2, m_kW2, m_Aug, m_kAug, m_kAu, m_kAu2, m_mk1, m_kMk, m_Raise, m_ends_rt, m_ends_ex, m_ends_nx, m_add, m_addB, m_sub, m_eqI, m_eqS, m_neI, m_neS, m_isB, m_isN, m_isNotN, m_nonN, m_nonR, m_nonT, m_nonI, m_nonS, m_nonB, m_lenT, m_lenKt, m_lenK, m_tupT, m_max, m_min, m_intI, m_intB, m_pr0, m_pr, m_kpr, m_kpr2, m_Xf, m_Try, m_Try_nx, m_Try_rt, m_Try_bk, m_Try_ct, m_Try_ex, m_Suite_nx, m_Suite_rt, m_Suite_bk, m_Suite_ct, m_kXe, m_kXo, m_tlOf, m_For, m_Loop_nx, m_Loop_ct, m_Loop_bk, m_Loop_rt, m_Loop_ex, m_kB, m_iSeq, m_kItT, m_kItK, m_kItKt, m_kItS, m_iRg1, m_iRg2, m_iEnu, m_kEnuK, m_iZp, m_kZpT, m_iRv, m_kRvT, m_Lc, m_kCell, m_kTurnT, m_kTurnF, m_wip0, m_wip1, m_Back, m_kBackT, m_rg1, m_kRgA, m_TupRg, m_LstRg, m_Dc, m_DturnT, m_DturnF, m_kDk, m_kDv, m_SSet, m_iRvR, m_At, m_Fst, m_kFs, m_Meth, m_kMe2, m_kMe3, m_Make, m_kMk1, m_kMade, m_ltI, m_geI, m_geP, m_isNotB, m_Get1, m_Get2, m_kGet2, m_Setd, m_kSd2, m_rg2, m_kRg2a, m_kRg2b, m_kCallF, m_mSeq, m_kMk_nx, m_kMk_ex, m_mRet, m_mNil, m_mIf, m_kMift, m_kMiff, m_kMd_nx, m_kMd_rt, m_kMd_ex, m_endsM_rt, m_endsM_ex, m_lay0, m_lay, m_lay1, m_lay1n, m_RetFin, m_kFin, m_finN_nx, m_finN_rt, m_finX, m_finE_nx, m_LenO, m_gAt, m_Faug, m_kFaug2, m_kWht, m_kWhf, m_kWhD_nx, m_kWhD_ct, m_kWhD_bk, m_kWhD_rt, m_kWhD_ex, m_DcG, m_mkA, m_mk0, m_kMkA, m_LiT, m_KeyF, m_lockD_nx, m_lockD_ex, m_LnSet, m_CallL, m_kMwt, m_kMwf, m_kMwD_nx, m_kMwD_rt, m_kMwD_ex, m_SrtKey, m_TuT, m_Count, m_ListS, m_ListSr, m_StrA_str, m_AugIx, m_Aug1, m_Fmt, m_Join, m_Out, m_JsN, m_JsC, m_LcL, m_SSetC, m_SSetI, m_ExV, m_mkT, m_TryN, m_TryN_nx, m_TryN_rt, m_TryN_bk, m_TryN_ct, m_TryN_ex, m_SuN_nx, m_SuN_rt, m_SuN_bk, m_SuN_ct, m_out, m_mkAK, m_kMkAK, m_MethL, m_LcX, m_kTurnXT, m_kTurnXF, m_Repl, m_iLstT, m_SSetX, List.getElem?_cons_zero, List.getElem?_cons_succ, List.set_cons_zero, List.set_cons_succ, List.length_cons, List.length_nil, List.getD_cons_zero, List.getD_cons_succ, List.zip_cons_cons, List.zip_nil_left, Nat.zero_add, Nat.reduceAdd, Nat.reduceLeDiff, Bool.not_true, Bool.not_false, decide_true])
def top (i : Nat) : Stmt := PySem.Challenge.pw_leastfail_k64_links_of_cases.main.body.getD i (.Pass ⟨0, 0, 0, 0⟩)
abbrev s_is_piece : Stmt := top 12
abbrev s_Case_init : Stmt := inClass (top 13) 0
abbrev s__law_class : Stmt := top 24
abbrev s__law_told : Stmt := top 25
abbrev s_Case_pieces : Stmt := inClass (top 13) 1
abbrev s_words_of : Stmt := top 17
abbrev s_links_of : Stmt := top 18
abbrev s__law_due : Stmt := top 28
abbrev s_is_whole : Stmt := top 11
abbrev s_is_link : Stmt := top 15
abbrev s_is_links : Stmt := top 16
abbrev s__law_mixed : Stmt := top 20
abbrev s__law_draw : Stmt := top 22
abbrev s__law_piece : Stmt := top 27
abbrev s__law_words : Stmt := top 26
abbrev s__law_folded : Stmt := top 21
abbrev s__law_begun : Stmt := top 23
abbrev s_law : Stmt := top 29
abbrev s_i_BadValue : Stmt := inClass (top 2) 0
theorem boot_LookupError : bootBuiltins "LookupError" = some (.type "LookupError") := by decide +kernel
theorem boot_OverflowError : bootBuiltins "OverflowError" = some (.type "OverflowError") := by decide +kernel
theorem boot_RuntimeError : bootBuiltins "RuntimeError" = some (.type "RuntimeError") := by decide +kernel
theorem boot_TypeError : bootBuiltins "TypeError" = some (.type "TypeError") := by decide +kernel
theorem boot_ValueError : bootBuiltins "ValueError" = some (.type "ValueError") := by decide +kernel
theorem boot_all : bootBuiltins "all" = some (.builtin "all") := by decide +kernel
theorem boot_bool : bootBuiltins "bool" = some (.type "bool") := by decide +kernel
theorem boot_int : bootBuiltins "int" = some (.type "int") := by decide +kernel
theorem boot_isinstance : bootBuiltins "isinstance" = some (.builtin "isinstance") := by decide +kernel
theorem boot_len : bootBuiltins "len" = some (.builtin "len") := by decide +kernel
theorem boot_list : bootBuiltins "list" = some (.type "list") := by decide +kernel
theorem boot_min : bootBuiltins "min" = some (.builtin "min") := by decide +kernel
theorem boot_sorted : bootBuiltins "sorted" = some (.builtin "sorted") := by decide +kernel
theorem boot_str : bootBuiltins "str" = some (.type "str") := by decide +kernel
theorem boot_tuple : bootBuiltins "tuple" = some (.type "tuple") := by decide +kernel
structure Txt (K : PySem.W.Frag) (mg : Str → Option Value) where
  n_LookupError : mg "LookupError" = none
  n_OverflowError : mg "OverflowError" = none
  n_RuntimeError : mg "RuntimeError" = none
  n_TypeError : mg "TypeError" = none
  n_ValueError : mg "ValueError" = none
  n_all : mg "all" = none
  n_bool : mg "bool" = none
  n_enumerate : mg "enumerate" = none
  n_int : mg "int" = none
  n_isinstance : mg "isinstance" = none
  n_len : mg "len" = none
  n_list : mg "list" = none
  n_min : mg "min" = none
  n_range : mg "range" = none
  n_set : mg "set" = none
  n_sorted : mg "sorted" = none
  n_str : mg "str" = none
  n_tuple : mg "tuple" = none
  n_zip : mg "zip" = none
  t_MOST_SIGNS : Tok
  m_MOST_SIGNS : mg "MOST_SIGNS" = some (.int 200 t_MOST_SIGNS)
  t_MOST_PIECES : Tok
  m_MOST_PIECES : mg "MOST_PIECES" = some (.int 120 t_MOST_PIECES)
  C_Case : Addr
  m_Case : mg "Case" = some (.ref C_Case)
  C_BadValue : Addr
  m_BadValue : mg "BadValue" = some (.ref C_BadValue)
  C_NotSo : Addr
  m_NotSo : mg "NotSo" = some (.ref C_NotSo)
  C_Nested : Addr
  m_Nested : mg "Nested" = some (.ref C_Nested)
  C_Spent : Addr
  m_Spent : mg "Spent" = some (.ref C_Spent)
  C_BadVerdict : Addr
  m_BadVerdict : mg "BadVerdict" = some (.ref C_BadVerdict)
  C_Gone : Addr
  m_Gone : mg "Gone" = some (.ref C_Gone)
  cl_Case : Cls K C_Case
  ins_Case : InsC K C_Case
  ko_Case : PySem.W.kitOne K (.ref C_Case) (.ref C_Case) = some true
  ki_Case_NoneType : PySem.W.kitOne K (.type "NoneType") (.ref C_Case) = some false
  ki_Case_list : PySem.W.kitOne K (.type "list") (.ref C_Case) = some false
  ki_Case_str : PySem.W.kitOne K (.type "str") (.ref C_Case) = some false
  ki_Case_int : PySem.W.kitOne K (.type "int") (.ref C_Case) = some false
  ki_Case_tuple : PySem.W.kitOne K (.type "tuple") (.ref C_Case) = some false
  na_Case_all_pieces : NoAttr K C_Case "all_pieces"
  f_is_piece : Addr
  fd_is_piece : FuncData
  F_is_piece : FunD K "is_piece" "is_piece" (defArgs s_is_piece) (defBody s_is_piece) (defScope s_is_piece) [] [] f_is_piece fd_is_piece
  m_is_piece : mg "is_piece" = some (.ref f_is_piece)
  f_Case_init : Addr
  fd_Case_init : FuncData
  F_Case_init : FunD K "__init__" "Case.__init__" (defArgs s_Case_init) (defBody s_Case_init) (defScope s_Case_init) [] [] f_Case_init fd_Case_init
  f__law_class : Addr
  fd__law_class : FuncData
  F__law_class : FunD K "_law_class" "_law_class" (defArgs s__law_class) (defBody s__law_class) (defScope s__law_class) [] [] f__law_class fd__law_class
  m__law_class : mg "_law_class" = some (.ref f__law_class)
  f__law_told : Addr
  fd__law_told : FuncData
  F__law_told : FunD K "_law_told" "_law_told" (defArgs s__law_told) (defBody s__law_told) (defScope s__law_told) [] [] f__law_told fd__law_told
  m__law_told : mg "_law_told" = some (.ref f__law_told)
  f_Case_pieces : Addr
  fd_Case_pieces : FuncData
  F_Case_pieces : FunD K "pieces" "Case.pieces" (defArgs s_Case_pieces) (defBody s_Case_pieces) (defScope s_Case_pieces) [] [] f_Case_pieces fd_Case_pieces
  f_words_of : Addr
  fd_words_of : FuncData
  F_words_of : FunD K "words_of" "words_of" (defArgs s_words_of) (defBody s_words_of) (defScope s_words_of) [] [] f_words_of fd_words_of
  m_words_of : mg "words_of" = some (.ref f_words_of)
  f_links_of : Addr
  fd_links_of : FuncData
  F_links_of : FunD K "links_of" "links_of" (defArgs s_links_of) (defBody s_links_of) (defScope s_links_of) [] [] f_links_of fd_links_of
  m_links_of : mg "links_of" = some (.ref f_links_of)
  f__law_due : Addr
  fd__law_due : FuncData
  F__law_due : FunD K "_law_due" "_law_due" (defArgs s__law_due) (defBody s__law_due) (defScope s__law_due) [] [] f__law_due fd__law_due
  m__law_due : mg "_law_due" = some (.ref f__law_due)
  f_is_whole : Addr
  fd_is_whole : FuncData
  F_is_whole : FunD K "is_whole" "is_whole" (defArgs s_is_whole) (defBody s_is_whole) (defScope s_is_whole) [] [] f_is_whole fd_is_whole
  m_is_whole : mg "is_whole" = some (.ref f_is_whole)
  f_is_link : Addr
  fd_is_link : FuncData
  F_is_link : FunD K "is_link" "is_link" (defArgs s_is_link) (defBody s_is_link) (defScope s_is_link) [] [] f_is_link fd_is_link
  m_is_link : mg "is_link" = some (.ref f_is_link)
  f_is_links : Addr
  fd_is_links : FuncData
  F_is_links : FunD K "is_links" "is_links" (defArgs s_is_links) (defBody s_is_links) (defScope s_is_links) [.int 120] [] f_is_links fd_is_links
  m_is_links : mg "is_links" = some (.ref f_is_links)
  f__law_mixed : Addr
  fd__law_mixed : FuncData
  F__law_mixed : FunD K "_law_mixed" "_law_mixed" (defArgs s__law_mixed) (defBody s__law_mixed) (defScope s__law_mixed) [] [] f__law_mixed fd__law_mixed
  m__law_mixed : mg "_law_mixed" = some (.ref f__law_mixed)
  f__law_draw : Addr
  fd__law_draw : FuncData
  F__law_draw : FunD K "_law_draw" "_law_draw" (defArgs s__law_draw) (defBody s__law_draw) (defScope s__law_draw) [] [] f__law_draw fd__law_draw
  m__law_draw : mg "_law_draw" = some (.ref f__law_draw)
  f__law_piece : Addr
  fd__law_piece : FuncData
  F__law_piece : FunD K "_law_piece" "_law_piece" (defArgs s__law_piece) (defBody s__law_piece) (defScope s__law_piece) [] [] f__law_piece fd__law_piece
  m__law_piece : mg "_law_piece" = some (.ref f__law_piece)
  f__law_words : Addr
  fd__law_words : FuncData
  F__law_words : FunD K "_law_words" "_law_words" (defArgs s__law_words) (defBody s__law_words) (defScope s__law_words) [] [] f__law_words fd__law_words
  m__law_words : mg "_law_words" = some (.ref f__law_words)
  f__law_folded : Addr
  fd__law_folded : FuncData
  F__law_folded : FunD K "_law_folded" "_law_folded" (defArgs s__law_folded) (defBody s__law_folded) (defScope s__law_folded) [] [] f__law_folded fd__law_folded
  m__law_folded : mg "_law_folded" = some (.ref f__law_folded)
  f__law_begun : Addr
  fd__law_begun : FuncData
  F__law_begun : FunD K "_law_begun" "_law_begun" (defArgs s__law_begun) (defBody s__law_begun) (defScope s__law_begun) [] [] f__law_begun fd__law_begun
  m__law_begun : mg "_law_begun" = some (.ref f__law_begun)
  f_law : Addr
  fd_law : FuncData
  F_law : FunD K "law" "law" (defArgs s_law) (defBody s_law) (defScope s_law) [] [] f_law fd_law
  m_law : mg "law" = some (.ref f_law)
  c_law : Addr
  P_law : Addr
  hc_law : fd_law.code = .ref c_law
  tb_law : PySem.W.tabIn K "law" = some (c_law, P_law)
  tn_law : K.lookup P_law = none
  me_Case_pieces : Meth K C_Case "pieces" f_Case_pieces
  mk_Case : Mk K C_Case f_Case_init
  f_i_BadValue : Addr
  fd_i_BadValue : FuncData
  F_i_BadValue : FunD K "__init__" "BadValue.__init__" (defArgs s_i_BadValue) (defBody s_i_BadValue) (defScope s_i_BadValue) [] [] f_i_BadValue fd_i_BadValue
  i_BadValue : PySem.W.findIn K (.ref C_BadValue) "__init__" = some (some (.ref f_i_BadValue))
  ti_BadValue : PySem.W.typeIn K (.ref f_i_BadValue) = some (.type "function")
  no_BadValue : PySem.W.findIn K (.ref C_BadValue) "what" = some none
  ox_BadValue : OexC K C_BadValue
  xf_BadValue : XfC K C_BadValue
  xc_BadValue : ExcC K C_BadValue
  ko_BadValue : PySem.W.kitOne K (.ref C_BadValue) (.ref C_BadValue) = some true
  kb_BadValue : PySem.W.kitOne K (.ref C_BadValue) (.type "ValueError") = some true
  xm_BadValue : PySem.W.exmAny K (.ref C_BadValue) [.ref C_BadValue, .ref C_BadVerdict, .ref C_Gone, .ref C_Nested, .ref C_NotSo, .ref C_Spent] = some true
theorem sci_BadValue : FnScope ["self", "what"] ["self", "what"] (defScope s_i_BadValue) := ⟨rfl, rfl, rfl, by decide +kernel, rfl, by decide +kernel, by decide +kernel⟩
theorem init_BadValue {P : Program} {w : World} {K : PySem.W.Frag} {mg : Str → Option Value} {base : Heap} (T : Txt K mg) : FnOk P w K mg base (L2.CX P w) 1 T.f_i_BadValue T.fd_i_BadValue ["self", "what"] (SpI K "what") := init1 T.F_i_BadValue sci_BadValue (.inl rfl) (.inl rfl) (by decide) (by decide) (by decide) (by decide) (fun _ => rfl)
theorem bI_BadValue {K : PySem.W.Frag} {mg : Str → Option Value} (T : Txt K mg) : L2.Binds K T.fd_i_BadValue ["self", "what"] [] := by
  obtain ⟨oc, od, dV, kV, doc, pm, an, cdv, ct, osl, e, lk, hcd, hD, hK⟩ := T.F_i_BadValue.ex
  rcases hD with ⟨_, rfl⟩ | ⟨z, _⟩
  · rw [e]; exact Binds.all fun us hl => match us, hl with | [_, _], _ => rfl
  · exact absurd rfl z
/-! ### is_piece -/
theorem sc_is_piece : FnScope ["thing"] ["thing"] (defScope s_is_piece) := ⟨rfl, rfl, rfl, by decide +kernel, rfl, by decide +kernel, by decide +kernel⟩
def sp_is_piece {K : PySem.W.Frag} {mg : Str → Option Value} (T : Txt K mg) : SpW := SpPiece K
theorem len_is_piece {K : PySem.W.Frag} {mg : Str → Option Value} (T : Txt K mg) (ws : List Wv) (G : HW) (q : WK) (x : XE) (h : sp_is_piece T ws G q x) : ws.length = 1 := by
  obtain ⟨w, rfl, _⟩ := h
  rfl
def t_is_piece {K : PySem.W.Frag} {mg : Str → Option Value} (T : Txt K mg) : ST := sRet (eAnd (eCB (wIsi K) (aCons (eV 0) (aCons (eC (.ty "str")) (aNil)))) (eOp oLe (eCB wLen (aCons (eV 0) (aNil))) (eC (.int 200))))
theorem pf_is_piece {K : PySem.W.Frag} {mg : Str → Option Value} (T : Txt K mg) (ws : List Wv) (G : HW) (q : WK) (x : XE) (h : sp_is_piece T ws G q x) : t_is_piece T (endsW q x) (startW ["thing"] ws) G := by
  obtain ⟨w, rfl, kw, hl, hq⟩ := h
  show t_is_piece T (endsW q x) [some (w)] G
  unfold t_is_piece
  walk_at "m0"
  refine r_ty kw.s ?_
  walk_at "m0"
  cases w with
  | str z =>
    walk_at "m0"
    refine ⟨hl z rfl, ?_⟩
    walk_at "m0"
    have e : decide ((z.length : Int) ≤ 200) = decide (z.length ≤ 200) := by
      by_cases h : z.length ≤ 200
      · rw [decide_eq_true h, decide_eq_true (by omega)]
      · rw [decide_eq_false h, decide_eq_false (by omega)]
    rw [e]
    exact hq
  | _ => walk_at "m0"; exact hq
set_option maxHeartbeats 0 in
theorem ok_is_piece {P : Program} {w : World} {K : PySem.W.Frag} {mg : Str → Option Value} {base : Heap} (T : Txt K mg) : FnW P w K mg base 1 T.f_is_piece T.fd_is_piece ["thing"] (sp_is_piece T) :=
  fnW_of (t := t_is_piece T) T.F_is_piece sc_is_piece (len_is_piece T) (fun cdv A outer s H E hr => (zs_one (z_ret (z_vand (z_callB w_isi rfl T.n_isinstance boot_isinstance (z_acons (z_var (i := 0) rfl (by first | exact .inl rfl | exact .inr (.inl rfl) | exact .inr (.inr rfl))) (z_acons (z_bty rfl T.n_str boot_str) (z_anil)))) (z_vone (z_cmp w_le (z_callB w_len rfl T.n_len boot_len (z_acons (z_var (i := 0) rfl (by first | exact .inl rfl | exact .inr (.inl rfl) | exact .inr (.inr rfl))) (z_anil))) (z_globI rfl T.m_MOST_SIGNS) (by rfl))))))) (pf_is_piece T)
/-! ### Case_init -/
theorem sc_Case_init : FnScope ["self", "pieces", "one"] ["self", "pieces"] (defScope s_Case_init) := ⟨rfl, rfl, rfl, by decide +kernel, rfl, by decide +kernel, by decide +kernel⟩
def sp_Case_init {K : PySem.W.Frag} {mg : Str → Option Value} (T : Txt K mg) : SpW := SpCaseInitX K T.C_Case T.C_BadValue
theorem len_Case_init {K : PySem.W.Frag} {mg : Str → Option Value} (T : Txt K mg) (ws : List Wv) (G : HW) (q : WK) (x : XE) (h : sp_Case_init T ws G q x) : ws.length = 2 := by
  obtain ⟨p, w, dx, rfl, _⟩ := h
  rfl
def b_Case_init_5 {K : PySem.W.Frag} {mg : Str → Option Value} (T : Txt K mg) : ST := sFst K "all_pieces" (eCB wList (aCons (eV 1) (aNil))) (eV 0)
theorem mb_Case_init_5 {K : PySem.W.Frag} {mg : Str → Option Value} (T : Txt K mg) (D : EndsW) (σ : SW) (G : HW) : b_Case_init_5 T D σ G = (sFst K "all_pieces" (eCB wList (aCons (eV 1) (aNil))) (eV 0)) D σ G := rfl
def b_Case_init_3 {K : PySem.W.Frag} {mg : Str → Option Value} (T : Txt K mg) : ST := sSeq (sIf (qNot (qTru (eCB wAll (aCons (eLc (iSeq (eV 1)) [2] [2] (qYes) (eCall 1 0 [.p 0] [] (sp_is_piece T) (aCons (eV 2) (aNil)) aNil)) (aNil))))) (sRaise (mk1 T.C_BadValue "what" (eC (.str "pieces")))) (sNext)) (b_Case_init_5 T)
theorem mb_Case_init_3 {K : PySem.W.Frag} {mg : Str → Option Value} (T : Txt K mg) (D : EndsW) (σ : SW) (G : HW) : b_Case_init_3 T D σ G = (sSeq (sIf (qNot (qTru (eCB wAll (aCons (eLc (iSeq (eV 1)) [2] [2] (qYes) (eCall 1 0 [.p 0] [] (sp_is_piece T) (aCons (eV 2) (aNil)) aNil)) (aNil))))) (sRaise (mk1 T.C_BadValue "what" (eC (.str "pieces")))) (sNext)) (b_Case_init_5 T)) D σ G := rfl
def t_Case_init {K : PySem.W.Frag} {mg : Str → Option Value} (T : Txt K mg) : ST := sSeq (sIf (qOr (qNot (qTru (eCB (wIsi K) (aCons (eV 1) (aCons (eTup (aCons (eC (.ty "list")) (aCons (eC (.ty "tuple")) (aNil)))) (aNil)))))) (qOp oGt (eCB wLen (aCons (eV 1) (aNil))) (eC (.int 120)))) (sRaise (mk1 T.C_BadValue "what" (eC (.str "pieces")))) (sNext)) (b_Case_init_3 T)
local macro_rules | `(tactic| walk_at "m_Case_init") => `(tactic| (walk_at "m0"; repeat (simp only [mb_Case_init_5, mb_Case_init_3] <;> walk_at "m0")))
theorem pf_Case_init {K : PySem.W.Frag} {mg : Str → Option Value} (T : Txt K mg) (ws : List Wv) (G : HW) (q : WK) (x : XE) (h : sp_Case_init T ws G q x) : t_Case_init T (endsW q x) (startW ["self", "pieces", "one"] ws) G := by
  obtain ⟨p, w, dx, rfl, hp, h⟩ := h
  rcases h with ⟨ts, tx, gd, hq⟩ | ⟨bad, hx⟩
  · skip
    have few := gd.few
    show t_Case_init T (endsW q x) [some (.ref p), some (w), none] G
    unfold t_Case_init
    walk_at "m_Case_init"
    refine tx_isi tx ?_
    walk_at "m_Case_init"
    refine tx_len tx ?_
    walk_at "m_Case_init"
    rw [decide_eq_false (show ¬ ((ts.length : Nat) : Int) > 120 by omega)]
    walk_at "m_Case_init"
    refine tx_it tx fun okk hk => ?_
    refine r_lcB (fun w => true) (by rw [List.length_map, sizeLine_eq]; omega) hk (fun i w G' k ew ex hk => ?_) fun D G1 hD ex1 eD => ?_
    · obtain ⟨t, ht, rfl⟩ := map_at ew
      have hs := gd.short t (List.mem_of_getElem? ht)
      refine ⟨_, rfl, ?_⟩
      walk_at "m_Case_init"
      refine piece_ok (by rw [sizeLine_eq]; omega) ?_
      rw [decide_eq_true hs]
      exact hk G' Ext.refl
    walk_at "m_Case_init"
    refine r_all (.inl eD) ?_
    rw [all_id, List.all_map]
    have ea : (ts.all ((fun w => true) ∘ tS)) = true := List.all_eq_true.mpr fun _ _ => rfl
    rw [ea]
    walk_at "m_Case_init"
    refine tx_list (tx.ext ex1) fun l hl => ?_
    walk_at "m_Case_init"
    refine r_fst (fs' := [("all_pieces", .ref l)]) ((Ext.new hl) _ _ (ex1 _ _ hp)) T.cl_Case T.na_Case_all_pieces (by decide) rfl ?_
    have np : p ≠ l := ne_of_new (ex1 _ _ hp) hl
    refine hq l _ (ex1.none hl) (fun a o ha e => ?_) ⟨⟨dx, updO_same⟩, ?_⟩
    · rw [updO_ne (by simpa using ha)]
      exact (Ext.new hl) _ _ (ex1 _ _ e)
    · rw [updO_ne (Ne.symm np)]
      exact updO_same
  · skip
    show t_Case_init T (endsW q x) [some (.ref p), some (w), none] G
    unfold t_Case_init
    walk_at "m_Case_init"
    rcases bad with ⟨kw, h1, h2⟩ | ⟨us, sq, ul, h3⟩
    · refine isi_lt kw ?_
      rw [h1, h2]
      ((walk_at "x1"; repeat (simp only [mb_Case_init_5, mb_Case_init_3] <;> walk_at "x1")))
      exact hx G Ext.refl
    · refine sq_isi sq ?_
      walk_at "m_Case_init"
      refine sq_len sq ?_
      walk_at "m_Case_init"
      by_cases few : us.length ≤ 120
      · rw [decide_eq_false (show ¬ ((us.length : Nat) : Int) > 120 by omega)]
        walk_at "m_Case_init"
        rcases h3 with h3 | ⟨h3, u, hu, hf⟩
        · omega
        refine sq_it sq fun okk hk => ?_
        refine r_lcB pcW (by rw [sizeLine_eq]; omega) hk (fun i w G' k ew ex hk => ?_) fun D G1 hD ex1 eD => ?_
        · have hw := h3 w (List.mem_of_getElem? ew)
          refine ⟨_, rfl, ?_⟩
          walk_at "m_Case_init"
          exact ⟨w, rfl, hw.1.ext ex, hw.2, hk G' Ext.refl⟩
        walk_at "m_Case_init"
        refine r_all (.inl eD) ?_
        rw [all_id]
        have ea : us.all pcW = false := by
          refine Bool.eq_false_iff.mpr fun z => ?_
          have := List.all_eq_true.mp z u hu
          rw [hf] at this
          cases this
        rw [ea]
        walk_at "m_Case_init"
        exact hx G1 ex1
      · rw [decide_eq_true (show ((us.length : Nat) : Int) > 120 by omega)]
        walk_at "m_Case_init"
        exact hx G Ext.refl
set_option maxHeartbeats 0 in
theorem ok_Case_init {P : Program} {w : World} {K : PySem.W.Frag} {mg : Str → Option Value} {base : Heap} (T : Txt K mg) : FnW P w K mg base 3 T.f_Case_init T.fd_Case_init ["self", "pieces"] (sp_Case_init T) :=
  fnW_of (t := t_Case_init T) T.F_Case_init sc_Case_init (len_Case_init T) (fun cdv A outer s H E hr => (zs_cons (z_if (z_bool (z_or (z_qnot (z_q (z_callB w_isi rfl T.n_isinstance boot_isinstance (z_acons (z_var (i := 1) rfl (by first | exact .inl rfl | exact .inr (.inl rfl) | exact .inr (.inr rfl))) (z_acons (z_tup (z_acons (z_bty rfl T.n_list boot_list) (z_acons (z_bty rfl T.n_tuple boot_tuple) (z_anil)))) (z_anil)))))) (z_or1 (z_qcmp w_gt (z_callB w_len rfl T.n_len boot_len (z_acons (z_var (i := 1) rfl (by first | exact .inl rfl | exact .inr (.inl rfl) | exact .inr (.inr rfl))) (z_anil))) (z_globI rfl T.m_MOST_PIECES) (by rfl))))) (zs_one (z_raise rfl (takes_of rfl rfl rfl rfl) (z_mk1 T.ox_BadValue T.i_BadValue T.ti_BadValue T.no_BadValue (init_BadValue T) (hr.room.mono (by decide)) (bI_BadValue T) (takes_of rfl rfl rfl rfl) rfl T.m_BadValue (z_str)))) (zs_nil)) (zs_cons (z_if (z_qnot (z_q (z_callB (w_all rfl) rfl T.n_all boot_all (z_acons (z_lc (is := [2]) (own := [("one", 2)]) rfl sc_Case_init.nd (zi_seq (z_var (i := 1) rfl (by first | exact .inl rfl | exact .inr (.inl rfl) | exact .inr (.inr rfl)))) (blkOk_by rfl) (fun _ _ _ _ _ => pg_name sc_Case_init.nd rfl (by first | exact .inl rfl | exact .inr rfl)) (fun _ _ _ _ _ => zq_nil) (fun _ _ _ _ _ => z_call (sel := [.p 0]) (dws := []) (ok_is_piece T) (hr.mono (by decide)) rfl T.m_is_piece T.F_is_piece.kp (bind0 T.F_is_piece fun _ _ _ _ _ _ us uk h1 h2 => match us, h1, uk, h2 with | [_], _, [], _ => rfl) tkN (z_acons (z_var (i := 2) rfl (by first | exact .inl rfl | exact .inr (.inl rfl) | exact .inr (.inr rfl))) (z_anil))) (by decide)) (z_anil))))) (zs_one (z_raise rfl (takes_of rfl rfl rfl rfl) (z_mk1 T.ox_BadValue T.i_BadValue T.ti_BadValue T.no_BadValue (init_BadValue T) (hr.room.mono (by decide)) (bI_BadValue T) (takes_of rfl rfl rfl rfl) rfl T.m_BadValue (z_str)))) (zs_nil)) (zs_one (z_fst (z_callT w_list rfl T.n_list boot_list (z_acons (z_var (i := 1) rfl (by first | exact .inl rfl | exact .inr (.inl rfl) | exact .inr (.inr rfl))) (z_anil))) (z_var (i := 0) rfl (by first | exact .inl rfl | exact .inr (.inl rfl) | exact .inr (.inr rfl)))))))) (pf_Case_init T)
/-! ### _law_class -/
theorem sc__law_class : FnScope ["_law_error"] ["_law_error"] (defScope s__law_class) := ⟨rfl, rfl, rfl, by decide +kernel, rfl, by decide +kernel, by decide +kernel⟩
def sp__law_class {K : PySem.W.Frag} {mg : Str → Option Value} (T : Txt K mg) : SpW := SpClass T.C_BadValue
theorem len__law_class {K : PySem.W.Frag} {mg : Str → Option Value} (T : Txt K mg) (ws : List Wv) (G : HW) (q : WK) (x : XE) (h : sp__law_class T ws G q x) : ws.length = 1 := by
  obtain ⟨a, y, rfl, _⟩ := h
  rfl
def b__law_class_11 {K : PySem.W.Frag} {mg : Str → Option Value} (T : Txt K mg) : ST := sRet (eTup (aCons (eC (.str "gone")) (aCons (eAt K "why" (eV 0)) (aNil))))
theorem mb__law_class_11 {K : PySem.W.Frag} {mg : Str → Option Value} (T : Txt K mg) (D : EndsW) (σ : SW) (G : HW) : b__law_class_11 T D σ G = (sRet (eTup (aCons (eC (.str "gone")) (aCons (eAt K "why" (eV 0)) (aNil))))) D σ G := rfl
def b__law_class_9 {K : PySem.W.Frag} {mg : Str → Option Value} (T : Txt K mg) : ST := sSeq (sIf (qTru (eCB (wIsi K) (aCons (eV 0) (aCons (eC (.ref T.C_NotSo)) (aNil))))) (sRet (eIf (qTru (eCB (wIsi K) (aCons (eV 0) (aCons (eC (.ty "LookupError")) (aNil))))) (eTup (aCons (eC (.str "not so")) (aCons (eAt K "parts" (eV 0)) (aCons (eAt K "verdict" (eV 0)) (aNil))))) (eTup (aCons (eC (.str "else")) (aNil))))) (sNext)) (b__law_class_11 T)
theorem mb__law_class_9 {K : PySem.W.Frag} {mg : Str → Option Value} (T : Txt K mg) (D : EndsW) (σ : SW) (G : HW) : b__law_class_9 T D σ G = (sSeq (sIf (qTru (eCB (wIsi K) (aCons (eV 0) (aCons (eC (.ref T.C_NotSo)) (aNil))))) (sRet (eIf (qTru (eCB (wIsi K) (aCons (eV 0) (aCons (eC (.ty "LookupError")) (aNil))))) (eTup (aCons (eC (.str "not so")) (aCons (eAt K "parts" (eV 0)) (aCons (eAt K "verdict" (eV 0)) (aNil))))) (eTup (aCons (eC (.str "else")) (aNil))))) (sNext)) (b__law_class_11 T)) D σ G := rfl
def b__law_class_7 {K : PySem.W.Frag} {mg : Str → Option Value} (T : Txt K mg) : ST := sSeq (sIf (qTru (eCB (wIsi K) (aCons (eV 0) (aCons (eC (.ref T.C_Nested)) (aNil))))) (sRet (eIf (qTru (eCB (wIsi K) (aCons (eV 0) (aCons (eC (.ty "RuntimeError")) (aNil))))) (eTup (aCons (eC (.str "nested")) (aNil))) (eTup (aCons (eC (.str "else")) (aNil))))) (sNext)) (b__law_class_9 T)
theorem mb__law_class_7 {K : PySem.W.Frag} {mg : Str → Option Value} (T : Txt K mg) (D : EndsW) (σ : SW) (G : HW) : b__law_class_7 T D σ G = (sSeq (sIf (qTru (eCB (wIsi K) (aCons (eV 0) (aCons (eC (.ref T.C_Nested)) (aNil))))) (sRet (eIf (qTru (eCB (wIsi K) (aCons (eV 0) (aCons (eC (.ty "RuntimeError")) (aNil))))) (eTup (aCons (eC (.str "nested")) (aNil))) (eTup (aCons (eC (.str "else")) (aNil))))) (sNext)) (b__law_class_9 T)) D σ G := rfl
def b__law_class_5 {K : PySem.W.Frag} {mg : Str → Option Value} (T : Txt K mg) : ST := sSeq (sIf (qTru (eCB (wIsi K) (aCons (eV 0) (aCons (eC (.ref T.C_Spent)) (aNil))))) (sRet (eIf (qTru (eCB (wIsi K) (aCons (eV 0) (aCons (eC (.ty "OverflowError")) (aNil))))) (eTup (aCons (eC (.str "spent")) (aCons (eAt K "most" (eV 0)) (aNil)))) (eTup (aCons (eC (.str "else")) (aNil))))) (sNext)) (b__law_class_7 T)
theorem mb__law_class_5 {K : PySem.W.Frag} {mg : Str → Option Value} (T : Txt K mg) (D : EndsW) (σ : SW) (G : HW) : b__law_class_5 T D σ G = (sSeq (sIf (qTru (eCB (wIsi K) (aCons (eV 0) (aCons (eC (.ref T.C_Spent)) (aNil))))) (sRet (eIf (qTru (eCB (wIsi K) (aCons (eV 0) (aCons (eC (.ty "OverflowError")) (aNil))))) (eTup (aCons (eC (.str "spent")) (aCons (eAt K "most" (eV 0)) (aNil)))) (eTup (aCons (eC (.str "else")) (aNil))))) (sNext)) (b__law_class_7 T)) D σ G := rfl
def b__law_class_3 {K : PySem.W.Frag} {mg : Str → Option Value} (T : Txt K mg) : ST := sSeq (sIf (qTru (eCB (wIsi K) (aCons (eV 0) (aCons (eC (.ref T.C_BadVerdict)) (aNil))))) (sRet (eIf (qTru (eCB (wIsi K) (aCons (eV 0) (aCons (eC (.ty "TypeError")) (aNil))))) (eTup (aCons (eC (.str "verdict")) (aCons (eAt K "told" (eV 0)) (aNil)))) (eTup (aCons (eC (.str "else")) (aNil))))) (sNext)) (b__law_class_5 T)
theorem mb__law_class_3 {K : PySem.W.Frag} {mg : Str → Option Value} (T : Txt K mg) (D : EndsW) (σ : SW) (G : HW) : b__law_class_3 T D σ G = (sSeq (sIf (qTru (eCB (wIsi K) (aCons (eV 0) (aCons (eC (.ref T.C_BadVerdict)) (aNil))))) (sRet (eIf (qTru (eCB (wIsi K) (aCons (eV 0) (aCons (eC (.ty "TypeError")) (aNil))))) (eTup (aCons (eC (.str "verdict")) (aCons (eAt K "told" (eV 0)) (aNil)))) (eTup (aCons (eC (.str "else")) (aNil))))) (sNext)) (b__law_class_5 T)) D σ G := rfl
def t__law_class {K : PySem.W.Frag} {mg : Str → Option Value} (T : Txt K mg) : ST := sSeq (sIf (qTru (eCB (wIsi K) (aCons (eV 0) (aCons (eC (.ref T.C_BadValue)) (aNil))))) (sRet (eIf (qTru (eCB (wIsi K) (aCons (eV 0) (aCons (eC (.ty "ValueError")) (aNil))))) (eTup (aCons (eC (.str "value")) (aCons (eAt K "what" (eV 0)) (aNil)))) (eTup (aCons (eC (.str "else")) (aNil))))) (sNext)) (b__law_class_3 T)
local macro_rules | `(tactic| walk_at "m__law_class") => `(tactic| (walk_at "m0"; repeat (simp only [mb__law_class_11, mb__law_class_9, mb__law_class_7, mb__law_class_5, mb__law_class_3] <;> walk_at "m0")))
theorem pf__law_class {K : PySem.W.Frag} {mg : Str → Option Value} (T : Txt K mg) (ws : List Wv) (G : HW) (q : WK) (x : XE) (h : sp__law_class T ws G q x) : t__law_class T (endsW q x) (startW ["_law_error"] ws) G := by
  obtain ⟨a, y, rfl, he, hq⟩ := h
  have ty : TyW K G (.ref a) (.ref T.C_BadValue) := by
    show TyO K a (G a) _
    rw [he]
    exact ⟨rfl, _, rfl, rfl, T.xc_BadValue⟩
  show t__law_class T (endsW q x) [some (.ref a)] G
  unfold t__law_class
  walk_at "m__law_class"
  refine r_isi ty rfl T.ko_BadValue ?_
  walk_at "m__law_class"
  refine r_isi ty rfl T.kb_BadValue ?_
  walk_at "m__law_class"
  refine r_err he T.xf_BadValue T.no_BadValue rfl ?_
  walk_at "m__law_class"
  exact hq
set_option maxHeartbeats 0 in
theorem ok__law_class {P : Program} {w : World} {K : PySem.W.Frag} {mg : Str → Option Value} {base : Heap} (T : Txt K mg) : FnW P w K mg base 1 T.f__law_class T.fd__law_class ["_law_error"] (sp__law_class T) :=
  fnW_of (t := t__law_class T) T.F__law_class sc__law_class (len__law_class T) (fun cdv A outer s H E hr => (zs_cons (z_if (z_q (z_callB w_isi rfl T.n_isinstance boot_isinstance (z_acons (z_var (i := 0) rfl (by first | exact .inl rfl | exact .inr (.inl rfl) | exact .inr (.inr rfl))) (z_acons (z_globR rfl T.m_BadValue) (z_anil))))) (zs_one (z_ret (z_ifx (z_q (z_callB w_isi rfl T.n_isinstance boot_isinstance (z_acons (z_var (i := 0) rfl (by first | exact .inl rfl | exact .inr (.inl rfl) | exact .inr (.inr rfl))) (z_acons (z_bty rfl T.n_ValueError boot_ValueError) (z_anil))))) (z_tup (z_acons (z_str) (z_acons (z_at (z_var (i := 0) rfl (by first | exact .inl rfl | exact .inr (.inl rfl) | exact .inr (.inr rfl)))) (z_anil)))) (z_tup (z_acons (z_str) (z_anil)))))) (zs_nil)) (zs_cons (z_if (z_q (z_callB w_isi rfl T.n_isinstance boot_isinstance (z_acons (z_var (i := 0) rfl (by first | exact .inl rfl | exact .inr (.inl rfl) | exact .inr (.inr rfl))) (z_acons (z_globR rfl T.m_BadVerdict) (z_anil))))) (zs_one (z_ret (z_ifx (z_q (z_callB w_isi rfl T.n_isinstance boot_isinstance (z_acons (z_var (i := 0) rfl (by first | exact .inl rfl | exact .inr (.inl rfl) | exact .inr (.inr rfl))) (z_acons (z_bty rfl T.n_TypeError boot_TypeError) (z_anil))))) (z_tup (z_acons (z_str) (z_acons (z_at (z_var (i := 0) rfl (by first | exact .inl rfl | exact .inr (.inl rfl) | exact .inr (.inr rfl)))) (z_anil)))) (z_tup (z_acons (z_str) (z_anil)))))) (zs_nil)) (zs_cons (z_if (z_q (z_callB w_isi rfl T.n_isinstance boot_isinstance (z_acons (z_var (i := 0) rfl (by first | exact .inl rfl | exact .inr (.inl rfl) | exact .inr (.inr rfl))) (z_acons (z_globR rfl T.m_Spent) (z_anil))))) (zs_one (z_ret (z_ifx (z_q (z_callB w_isi rfl T.n_isinstance boot_isinstance (z_acons (z_var (i := 0) rfl (by first | exact .inl rfl | exact .inr (.inl rfl) | exact .inr (.inr rfl))) (z_acons (z_bty rfl T.n_OverflowError boot_OverflowError) (z_anil))))) (z_tup (z_acons (z_str) (z_acons (z_at (z_var (i := 0) rfl (by first | exact .inl rfl | exact .inr (.inl rfl) | exact .inr (.inr rfl)))) (z_anil)))) (z_tup (z_acons (z_str) (z_anil)))))) (zs_nil)) (zs_cons (z_if (z_q (z_callB w_isi rfl T.n_isinstance boot_isinstance (z_acons (z_var (i := 0) rfl (by first | exact .inl rfl | exact .inr (.inl rfl) | exact .inr (.inr rfl))) (z_acons (z_globR rfl T.m_Nested) (z_anil))))) (zs_one (z_ret (z_ifx (z_q (z_callB w_isi rfl T.n_isinstance boot_isinstance (z_acons (z_var (i := 0) rfl (by first | exact .inl rfl | exact .inr (.inl rfl) | exact .inr (.inr rfl))) (z_acons (z_bty rfl T.n_RuntimeError boot_RuntimeError) (z_anil))))) (z_tup (z_acons (z_str) (z_anil))) (z_tup (z_acons (z_str) (z_anil)))))) (zs_nil)) (zs_cons (z_if (z_q (z_callB w_isi rfl T.n_isinstance boot_isinstance (z_acons (z_var (i := 0) rfl (by first | exact .inl rfl | exact .inr (.inl rfl) | exact .inr (.inr rfl))) (z_acons (z_globR rfl T.m_NotSo) (z_anil))))) (zs_one (z_ret (z_ifx (z_q (z_callB w_isi rfl T.n_isinstance boot_isinstance (z_acons (z_var (i := 0) rfl (by first | exact .inl rfl | exact .inr (.inl rfl) | exact .inr (.inr rfl))) (z_acons (z_bty rfl T.n_LookupError boot_LookupError) (z_anil))))) (z_tup (z_acons (z_str) (z_acons (z_at (z_var (i := 0) rfl (by first | exact .inl rfl | exact .inr (.inl rfl) | exact .inr (.inr rfl)))) (z_acons (z_at (z_var (i := 0) rfl (by first | exact .inl rfl | exact .inr (.inl rfl) | exact .inr (.inr rfl)))) (z_anil))))) (z_tup (z_acons (z_str) (z_anil)))))) (zs_nil)) (zs_one (z_ret (z_tup (z_acons (z_str) (z_acons (z_at (z_var (i := 0) rfl (by first | exact .inl rfl | exact .inr (.inl rfl) | exact .inr (.inr rfl)))) (z_anil)))))))))))) (pf__law_class T)
/-! ### _law_told -/
theorem sc__law_told : FnScope ["_law_deed", "_law_error", "_law_found", "e"] ["_law_deed"] (defScope s__law_told) := ⟨rfl, rfl, rfl, by decide +kernel, rfl, by decide +kernel, by decide +kernel⟩
def sp__law_told {K : PySem.W.Frag} {mg : Str → Option Value} (T : Txt K mg) : SpT := SpTold T.C_BadValue
def b__law_told_7 {K : PySem.W.Frag} {mg : Str → Option Value} (T : Txt K mg) (tl : TlT) (p : Addr) (HL : Hp) : ST := sRet (eIf (qOp wIs (eV 1) (eC .non)) (eV 2) (eCall 1 0 [.p 0] [] (sp__law_class T) (aCons (eV 1) (aNil)) aNil))
theorem mb__law_told_7 {K : PySem.W.Frag} {mg : Str → Option Value} (T : Txt K mg) (tl : TlT) (p : Addr) (HL : Hp) (D : EndsW) (σ : SW) (G : HW) : b__law_told_7 T tl p HL D σ G = (sRet (eIf (qOp wIs (eV 1) (eC .non)) (eV 2) (eCall 1 0 [.p 0] [] (sp__law_class T) (aCons (eV 1) (aNil)) aNil))) D σ G := rfl
def b__law_told_3 {K : PySem.W.Frag} {mg : Str → Option Value} (T : Txt K mg) (tl : TlT) (p : Addr) (HL : Hp) : ST := sSeq (sTry K [.ref T.C_BadValue, .ref T.C_BadVerdict, .ref T.C_Gone, .ref T.C_Nested, .ref T.C_NotSo, .ref T.C_Spent] 3 (sSet 2 (eLst (aCons (eDeed 0 p HL tl) (aNil)))) (sSet 1 (eV 3))) (b__law_told_7 T tl p HL)
theorem mb__law_told_3 {K : PySem.W.Frag} {mg : Str → Option Value} (T : Txt K mg) (tl : TlT) (p : Addr) (HL : Hp) (D : EndsW) (σ : SW) (G : HW) : b__law_told_3 T tl p HL D σ G = (sSeq (sTry K [.ref T.C_BadValue, .ref T.C_BadVerdict, .ref T.C_Gone, .ref T.C_Nested, .ref T.C_NotSo, .ref T.C_Spent] 3 (sSet 2 (eLst (aCons (eDeed 0 p HL tl) (aNil)))) (sSet 1 (eV 3))) (b__law_told_7 T tl p HL)) D σ G := rfl
def b__law_told_2 {K : PySem.W.Frag} {mg : Str → Option Value} (T : Txt K mg) (tl : TlT) (p : Addr) (HL : Hp) : ST := sSeq (sSet 2 (eLst (aNil))) (b__law_told_3 T tl p HL)
theorem mb__law_told_2 {K : PySem.W.Frag} {mg : Str → Option Value} (T : Txt K mg) (tl : TlT) (p : Addr) (HL : Hp) (D : EndsW) (σ : SW) (G : HW) : b__law_told_2 T tl p HL D σ G = (sSeq (sSet 2 (eLst (aNil))) (b__law_told_3 T tl p HL)) D σ G := rfl
def t__law_told {K : PySem.W.Frag} {mg : Str → Option Value} (T : Txt K mg) (tl : TlT) (p : Addr) (HL : Hp) : ST := sSeq (sSet 1 (eC .non)) (b__law_told_2 T tl p HL)
local macro_rules | `(tactic| walk_at "m__law_told") => `(tactic| (walk_at "m0"; repeat (simp only [mb__law_told_7, mb__law_told_3, mb__law_told_2] <;> walk_at "m0")))
theorem pf__law_told {K : PySem.W.Frag} {mg : Str → Option Value} (T : Txt K mg) (tl : TlT) (p : Addr) (HL : Hp) (G : HW) (q : WK) (x : XE) (h : sp__law_told T tl G q x) : t__law_told T tl p HL (endsW q x) (startW ["_law_deed", "_law_error", "_law_found", "e"] [.fn p HL]) G := by
  obtain ⟨E, R, ht, hE, hR⟩ := h
  show t__law_told T tl p HL (endsW q x) [some (.fn p HL), some (.non), none, none] G
  unfold t__law_told
  walk_at "m__law_told"
  refine r_lst' fun l0 hl0 => ?_
  walk_at "m__law_told"
  refine r_deed rfl (ht _ _ _ (Ext.new hl0) (fun cls fs G1 h1 => ?_) fun w G1 h1 => ?_)
  · obtain ⟨rfl, y, rfl, hz⟩ := hE cls fs G1 h1
    walk_at "m__law_told"
    refine r_caught T.xm_BadValue fun a ha => ?_
    walk_at "m__law_told"
    refine ⟨a, y, rfl, updO_same, hz _ (Ext.new ha)⟩
  · walk_at "m__law_told"
    refine r_lst' fun l hl => ?_
    walk_at "m__law_told"
    exact hR w G1 h1 l _ hl (Ext.new hl) updO_same
set_option maxHeartbeats 0 in
theorem ok__law_told {P : Program} {w : World} {K : PySem.W.Frag} {mg : Str → Option Value} {base : Heap} (T : Txt K mg) (j : Nat) : TellW P w K mg base (j + 1) T.f__law_told ["_law_deed", "_law_error", "_law_found", "e"] "_law_told" (defScope s__law_told) "_law_deed" (sp__law_told T) :=
  tellW_of (t := t__law_told T) T.F__law_told (bind0 T.F__law_told fun _ _ _ _ _ _ us uk h1 h2 => match us, h1, uk, h2 with | [_], _, [], _ => rfl) sc__law_told (fun cdv A outer s H E p tl hr act => (zs_cons (z_set (i := 1) sc__law_told.nd rfl (by first | exact .inl rfl | exact .inr rfl) (z_non)) (zs_cons (z_set (i := 2) sc__law_told.nd rfl (by first | exact .inl rfl | exact .inr rfl) (z_lst (z_anil))) (zs_cons (z_try (i := 3) (cs := [.ref T.C_BadValue, .ref T.C_BadVerdict, .ref T.C_Gone, .ref T.C_Nested, .ref T.C_NotSo, .ref T.C_Spent]) rfl rfl rfl sc__law_told.nd rfl rfl (.cons ⟨rfl, by decide, .inl T.m_BadValue⟩ (.cons ⟨rfl, by decide, .inl T.m_BadVerdict⟩ (.cons ⟨rfl, by decide, .inl T.m_Gone⟩ (.cons ⟨rfl, by decide, .inl T.m_Nested⟩ (.cons ⟨rfl, by decide, .inl T.m_NotSo⟩ (.cons ⟨rfl, by decide, .inl T.m_Spent⟩ .nil)))))) (show 6 ≤ sizeLine from by rw [sizeLine_eq]; omega) (takes_of rfl rfl rfl rfl) (fun W pn xe tkB poB => zs_one (z_set (i := 2) sc__law_told.nd rfl (by first | exact .inl rfl | exact .inr rfl) (z_lst (z_acons (act _ _ _ _ _ tkB) (z_anil))))) (fun a pn => zs_one (z_set (i := 1) sc__law_told.nd rfl (by first | exact .inl rfl | exact .inr rfl) (z_var (i := 3) rfl (by first | exact .inl rfl | exact .inr (.inl rfl) | exact .inr (.inr rfl)))))) (zs_one (z_ret (z_ifx (z_qcmp w_is (z_var (i := 1) rfl (by first | exact .inl rfl | exact .inr (.inl rfl) | exact .inr (.inr rfl))) (z_non) (by rfl)) (z_var (i := 2) rfl (by first | exact .inl rfl | exact .inr (.inl rfl) | exact .inr (.inr rfl))) (z_call (sel := [.p 0]) (dws := []) (ok__law_class T) ((hr.mono (Nat.le_add_left 1 j)).mono (by decide)) rfl T.m__law_class T.F__law_class.kp (bind0 T.F__law_class fun _ _ _ _ _ _ us uk h1 h2 => match us, h1, uk, h2 with | [_], _, [], _ => rfl) (takes_of rfl rfl rfl rfl) (z_acons (z_var (i := 1) rfl (by first | exact .inl rfl | exact .inr (.inl rfl) | exact .inr (.inr rfl))) (z_anil)))))))))) (pf__law_told T)
/-! ### Case_pieces -/
theorem sc_Case_pieces : FnScope ["self"] ["self"] (defScope s_Case_pieces) := ⟨rfl, rfl, rfl, by decide +kernel, rfl, by decide +kernel, by decide +kernel⟩
def sp_Case_pieces {K : PySem.W.Frag} {mg : Str → Option Value} (T : Txt K mg) : SpW := SpPieces T.C_Case
theorem len_Case_pieces {K : PySem.W.Frag} {mg : Str → Option Value} (T : Txt K mg) (ws : List Wv) (G : HW) (q : WK) (x : XE) (h : sp_Case_pieces T ws G q x) : ws.length = 1 := by
  obtain ⟨p, l, ts, rfl, _⟩ := h
  rfl
def t_Case_pieces {K : PySem.W.Frag} {mg : Str → Option Value} (T : Txt K mg) : ST := sRet (eCB wList (aCons (eAt K "all_pieces" (eV 0)) (aNil)))
theorem pf_Case_pieces {K : PySem.W.Frag} {mg : Str → Option Value} (T : Txt K mg) (ws : List Wv) (G : HW) (q : WK) (x : XE) (h : sp_Case_pieces T ws G q x) : t_Case_pieces T (endsW q x) (startW ["self"] ws) G := by
  obtain ⟨p, l, ts, rfl, ca, hq⟩ := h
  obtain ⟨dx, hp⟩ := ca.ins
  show t_Case_pieces T (endsW q x) [some (.ref p)] G
  unfold t_Case_pieces
  walk_at "m0"
  refine r_fld hp T.cl_Case T.na_Case_all_pieces rfl ?_
  walk_at "m0"
  refine r_listL (.inl ca.lst) fun r hr => ?_
  walk_at "m0"
  exact hq r _ hr (Ext.new hr) updO_same
set_option maxHeartbeats 0 in
theorem ok_Case_pieces {P : Program} {w : World} {K : PySem.W.Frag} {mg : Str → Option Value} {base : Heap} (T : Txt K mg) : FnW P w K mg base 1 T.f_Case_pieces T.fd_Case_pieces ["self"] (sp_Case_pieces T) :=
  fnW_of (t := t_Case_pieces T) T.F_Case_pieces sc_Case_pieces (len_Case_pieces T) (fun cdv A outer s H E hr => (zs_one (z_ret (z_callT w_list rfl T.n_list boot_list (z_acons (z_at (z_var (i := 0) rfl (by first | exact .inl rfl | exact .inr (.inl rfl) | exact .inr (.inr rfl)))) (z_anil)))))) (pf_Case_pieces T)
/-! ### words_of -/
theorem sc_words_of : FnScope ["piece", "word"] ["piece"] (defScope s_words_of) := ⟨rfl, rfl, rfl, by decide +kernel, rfl, by decide +kernel, by decide +kernel⟩
def sp_words_of {K : PySem.W.Frag} {mg : Str → Option Value} (T : Txt K mg) : SpW := SpWdsOf
theorem len_words_of {K : PySem.W.Frag} {mg : Str → Option Value} (T : Txt K mg) (ws : List Wv) (G : HW) (q : WK) (x : XE) (h : sp_words_of T ws G q x) : ws.length = 1 := by
  obtain ⟨t, rfl, _⟩ := h
  rfl
def t_words_of {K : PySem.W.Frag} {mg : Str → Option Value} (T : Txt K mg) : ST := sRet (eLcX (iLstT (eBM "str" wSplit (eRepl (eV 0) "\n" " ") (aCons (eC (.str " ")) (aNil)))) [1] [1] (qOp wNe (eV 1) (eC (.str ""))) (eV 1))
theorem pf_words_of {K : PySem.W.Frag} {mg : Str → Option Value} (T : Txt K mg) (ws : List Wv) (G : HW) (q : WK) (x : XE) (h : sp_words_of T ws G q x) : t_words_of T (endsW q x) (startW ["piece", "word"] ws) G := by
  obtain ⟨t, rfl, hz, hq⟩ := h
  show t_words_of T (endsW q x) [some (tS t), none] G
  unfold t_words_of
  walk_at "m0"
  refine r_repl (by rw [SX.S_len, show (" " : Str).length = 1 from rfl]; omega) ?_
  walk_at "m0"
  have hl : (Txt.replace (SX.S t) "\n" " ").length = t.length := by rw [repl_S, SX.S_len, List.length_map]
  refine r_M rfl ?_
  walk_at "m0"
  refine r_split (a := Txt.replace (SX.S t) "\n" " ") (b := " ") (by decide) (by rw [hl, sizeLine_eq]; omega) fun l hl => ?_
  walk_at "m0"
  have hn := wds_few t hz
  refine r_itT (.inl updO_same) ?_
  refine r_lcN (fun _ _ => rfl) ?_
  refine r_lc (fun _ w => if neE w then some (id w) else none) hn (fun G' e => .inl (e _ _ updO_same)) (fun i w G' k ew ex hk => ?_) fun D G' hD ex eD => ?_
  · rw [wds_raw] at ew
    obtain ⟨z, hz, rfl⟩ := map_at ew
    refine ⟨_, rfl, ?_⟩
    walk_at "m0"
    rw [show ("" : Str) = SX.S [] from by decide +kernel]
    have e := hk G' Ext.refl
    unfold neE at e
    by_cases hw : SX.S z = SX.S []
    · rw [if_neg (by simp [hw])] at e
      rw [decide_eq_true hw]
      exact e
    · rw [if_pos (by simp [hw])] at e
      rw [decide_eq_false hw]
      exact e
  · walk_at "m0"
    have e := gath_filter neE id ((Txt.split (Txt.replace (SX.S t) "\n" " ") " ").map Wv.str) 0
    rw [wds_raw, wds_map, List.map_id] at e
    rw [wds_raw] at eD
    have e2 := eD.trans (congrArg (fun l => some (O.lst l)) e)
    exact hq D G' ((Ext.new hl).none hD) ((Ext.new hl).trans ex) e2
set_option maxHeartbeats 0 in
theorem ok_words_of {P : Program} {w : World} {K : PySem.W.Frag} {mg : Str → Option Value} {base : Heap} (T : Txt K mg) : FnW P w K mg base 1 T.f_words_of T.fd_words_of ["piece"] (sp_words_of T) :=
  fnW_ofT (t := t_words_of T) T.F_words_of sc_words_of (by decide +kernel) (by decide) (len_words_of T) (fun cdv A outer s H E hr => (zs_retT (z_lcT rfl rfl (takes_of rfl rfl rfl rfl) (is := [1]) (own := [("word", 1)]) rfl sc_words_of.nd (zi_seqT (z_bmT PySem.F.plainAttrs_str PySem.F.slot_str_split PySem.F.type_str_split w_split (z_replT (z_var (i := 0) rfl (by first | exact .inl rfl | exact .inr (.inl rfl) | exact .inr (.inr rfl)))) (z_acons (z_str) (z_anil)))) (blkOk_by rfl) (fun _ _ _ _ _ _ => pg_name sc_words_of.nd rfl (by first | exact .inl rfl | exact .inr rfl)) (fun _ _ _ _ _ _ => zq_one (z_qcmp (w_ne (hr).un) (z_var (i := 1) rfl (by first | exact .inl rfl | exact .inr (.inl rfl) | exact .inr (.inr rfl))) (z_str) (by rfl))) (fun _ _ _ _ _ _ => z_var (i := 1) rfl (by first | exact .inl rfl | exact .inr (.inl rfl) | exact .inr (.inr rfl))) (by decide)))) (pf_words_of T)
/-! ### links_of -/
theorem sc_links_of : FnScope ["case", "told_by", "found", "number", "piece", "words", "word"] ["case"] (defScope s_links_of) := ⟨rfl, rfl, rfl, by decide +kernel, rfl, by decide +kernel, by decide +kernel⟩
def sp_links_of {K : PySem.W.Frag} {mg : Str → Option Value} (T : Txt K mg) : SpW := SpLinksOf K T.C_Case T.C_BadValue
theorem len_links_of {K : PySem.W.Frag} {mg : Str → Option Value} (T : Txt K mg) (ws : List Wv) (G : HW) (q : WK) (x : XE) (h : sp_links_of T ws G q x) : ws.length = 1 := by
  obtain ⟨w, rfl, _⟩ := h
  rfl
def b_links_of_11 {K : PySem.W.Frag} {mg : Str → Option Value} (T : Txt K mg) : ST := sRet (eCB wTuple (aCons (eCB wSrtC (aCons (eV 2) (aNil))) (aNil)))
theorem mb_links_of_11 {K : PySem.W.Frag} {mg : Str → Option Value} (T : Txt K mg) (D : EndsW) (σ : SW) (G : HW) : b_links_of_11 T D σ G = (sRet (eCB wTuple (aCons (eCB wSrtC (aCons (eV 2) (aNil))) (aNil)))) D σ G := rfl
def b_links_of_9 {K : PySem.W.Frag} {mg : Str → Option Value} (T : Txt K mg) : ST := sIf (qOp wNe (eV 5) (eLst (aNil))) (sAsg (eV 3) (gSb (eV 1) (eOp wIx (eV 5) (eC (.int 0))))) (sNext)
theorem mb_links_of_9 {K : PySem.W.Frag} {mg : Str → Option Value} (T : Txt K mg) (D : EndsW) (σ : SW) (G : HW) : b_links_of_9 T D σ G = (sIf (qOp wNe (eV 5) (eLst (aNil))) (sAsg (eV 3) (gSb (eV 1) (eOp wIx (eV 5) (eC (.int 0))))) (sNext)) D σ G := rfl
def b_links_of_7 {K : PySem.W.Frag} {mg : Str → Option Value} (T : Txt K mg) : ST := sIf (qOp (wInA false) (eV 6) (eV 1)) (sAsg (eC (.bl true)) (gSb (eV 2) (eTup (aCons (eV 3) (aCons (eOp wIx (eV 1) (eV 6)) (aNil)))))) (sNext)
theorem mb_links_of_7 {K : PySem.W.Frag} {mg : Str → Option Value} (T : Txt K mg) (D : EndsW) (σ : SW) (G : HW) : b_links_of_7 T D σ G = (sIf (qOp (wInA false) (eV 6) (eV 1)) (sAsg (eC (.bl true)) (gSb (eV 2) (eTup (aCons (eV 3) (aCons (eOp wIx (eV 1) (eV 6)) (aNil)))))) (sNext)) D σ G := rfl
def b_links_of_6 {K : PySem.W.Frag} {mg : Str → Option Value} (T : Txt K mg) : ST := sSeq (sFor (iSeq (eSl (eV 5) (oSome (eC (.int 1))) (oNone))) (gNm 6) (b_links_of_7 T)) (b_links_of_9 T)
theorem mb_links_of_6 {K : PySem.W.Frag} {mg : Str → Option Value} (T : Txt K mg) (D : EndsW) (σ : SW) (G : HW) : b_links_of_6 T D σ G = (sSeq (sFor (iSeq (eSl (eV 5) (oSome (eC (.int 1))) (oNone))) (gNm 6) (b_links_of_7 T)) (b_links_of_9 T)) D σ G := rfl
def b_links_of_5 {K : PySem.W.Frag} {mg : Str → Option Value} (T : Txt K mg) : ST := sSeq (sSet 5 (eCall 1 0 [.p 0] [] (sp_words_of T) (aCons (eV 4) (aNil)) aNil)) (b_links_of_6 T)
theorem mb_links_of_5 {K : PySem.W.Frag} {mg : Str → Option Value} (T : Txt K mg) (D : EndsW) (σ : SW) (G : HW) : b_links_of_5 T D σ G = (sSeq (sSet 5 (eCall 1 0 [.p 0] [] (sp_words_of T) (aCons (eV 4) (aNil)) aNil)) (b_links_of_6 T)) D σ G := rfl
def b_links_of_4 {K : PySem.W.Frag} {mg : Str → Option Value} (T : Txt K mg) : ST := sSeq (sFor (iEnu (aCons (eMeth "pieces" 0 0 [⟨T.C_Case, [.p 0], [], sp_Case_pieces T⟩] (eV 0) aNil aNil) (aNil))) (gTu 2 (gMo (gNm 3) (gMo (gNm 4) (gNo)))) (b_links_of_5 T)) (b_links_of_11 T)
theorem mb_links_of_4 {K : PySem.W.Frag} {mg : Str → Option Value} (T : Txt K mg) (D : EndsW) (σ : SW) (G : HW) : b_links_of_4 T D σ G = (sSeq (sFor (iEnu (aCons (eMeth "pieces" 0 0 [⟨T.C_Case, [.p 0], [], sp_Case_pieces T⟩] (eV 0) aNil aNil) (aNil))) (gTu 2 (gMo (gNm 3) (gMo (gNm 4) (gNo)))) (b_links_of_5 T)) (b_links_of_11 T)) D σ G := rfl
def b_links_of_3 {K : PySem.W.Frag} {mg : Str → Option Value} (T : Txt K mg) : ST := sSeq (sPar 1 2 (aCons (eDnew) (aCons (eTnew) (aNil)))) (b_links_of_4 T)
theorem mb_links_of_3 {K : PySem.W.Frag} {mg : Str → Option Value} (T : Txt K mg) (D : EndsW) (σ : SW) (G : HW) : b_links_of_3 T D σ G = (sSeq (sPar 1 2 (aCons (eDnew) (aCons (eTnew) (aNil)))) (b_links_of_4 T)) D σ G := rfl
def t_links_of {K : PySem.W.Frag} {mg : Str → Option Value} (T : Txt K mg) : ST := sSeq (sIf (qNot (qTru (eCB (wIsi K) (aCons (eV 0) (aCons (eC (.ref T.C_Case)) (aNil)))))) (sRaise (mk1 T.C_BadValue "what" (eC (.str "case")))) (sNext)) (b_links_of_3 T)
local macro_rules | `(tactic| walk_at "m_links_of") => `(tactic| (walk_at "m0"; repeat (simp only [mb_links_of_11, mb_links_of_7, mb_links_of_6, mb_links_of_5, mb_links_of_4, mb_links_of_3] <;> walk_at "m0")))
theorem pf_links_of {K : PySem.W.Frag} {mg : Str → Option Value} (T : Txt K mg) (ws : List Wv) (G : HW) (q : WK) (x : XE) (h : sp_links_of T ws G q x) : t_links_of T (endsW q x) (startW ["case", "told_by", "found", "number", "piece", "words", "word"] ws) G := by
  obtain ⟨w, rfl, h⟩ := h
  rcases h with ⟨p, l, ts, rfl, ca, gd, oks, hq⟩ | ⟨t, ty, kt, hx⟩
  · skip
    obtain ⟨dx, hp⟩ := ca.ins
    have few := gd.few
    show t_links_of T (endsW q x) [some (.ref p), none, none, none, none, none, none] G
    unfold t_links_of
    walk_at "m_links_of"
    refine r_isi (t := .ref T.C_Case) (by show TyO K p (G p) _; rw [hp]; exact ⟨rfl, T.ins_Case⟩) rfl T.ko_Case ?_
    walk_at "m_links_of"
    refine r_dnew fun A hA => ?_
    walk_at "m_links_of"
    refine r_tnew fun F hF => ?_
    walk_at "m_links_of"
    have nAF : A ≠ F := ne_of_new updO_same hF
    have hF0 : G F = none := (Ext.new hA).none hF
    have e2 : Ext G (updO (updO G A (O.dct [])) F (O.dtp [])) := (Ext.new hA).trans (Ext.new hF)
    refine r_meth1 (e2 _ _ hp) rfl ?_
    walk_at "m_links_of"
    refine ⟨p, l, ts, rfl, ca.ext e2, fun r G3 hr ex er => ?_⟩
    walk_at "m_links_of"
    refine r_enu (.inl er) ?_
    have hr0 : G r = none := e2.none hr
    have nAr : A ≠ r := ne_of_new (by rw [updO_ne nAF]; exact updO_same) hr
    have nFr : F ≠ r := ne_of_new updO_same hr
    have gA : G3 A = some (.dct []) := ex _ _ (by rw [updO_ne nAF]; exact updO_same)
    have gF : G3 F = some (.dtp []) := ex _ _ updO_same
    refine r_for (fun i σ G4 => ∃ (o3 o4 o5 o6 : Option Wv) (kvs : List (Key × Wv)) (fkv : List (List Key × Wv)) (cs : List Cf), σ = [some (.ref p), some (.ref A), some (.ref F), o3, o4, o5, o6] ∧ Ext G G4 ∧ G4 r = some (.lst (ts.map tS)) ∧
        G4 A = some (.dct kvs) ∧ TbK ((ts.map wds).take i) kvs ∧ kvs.length ≤ i ∧ G4 F = some (.dtp fkv) ∧ fkv.map (·.1) = cs.map kyW ∧ FdK (ts.map wds) i [] cs ∧ cs.length ≤ 201 * i)
      ⟨_, _, _, _, [], [], [], rfl, e2.trans ex, er, gA, TbK.nil, Nat.le_refl _, gF, rfl, FdK.nil, Nat.le_refl _⟩ (fun _ _ _ _ ⟨_, _, _, _, _, _, _, _, _, e, _⟩ => .inl e) ?_ ?_
    · rintro i w σ2 G4 ew ⟨o3, o4, o5, o6, kvs, fkv, cs, rfl, ex4, er4, eA, tb, kl, eF, ek, fd, cl⟩
      obtain ⟨u, eu, rfl⟩ := en_at ew
      obtain ⟨t, ht, rfl⟩ := map_at eu
      have hs := gd.short t (List.mem_of_getElem? ht)
      have ot := wds_ok (oks t (List.mem_of_getElem? ht))
      have hi : i < ts.length := (List.getElem?_eq_some_iff.mp ht).1
      have wl := wds_len t
      have erow : (ts.map wds)[i]? = some (wds t) := by rw [List.getElem?_map, ht]; rfl
      have etk : (ts.map wds).take (i + 1) = (ts.map wds).take i ++ [wds t] := by rw [List.take_add_one, erow]; rfl
      have ltk : ((ts.map wds).take i).length = i := by rw [List.length_take, List.length_map]; omega
      walk_at "m_links_of"
      refine ⟨t, rfl, hs, fun l5 G5 h5 ex5 e5 => ?_⟩
      walk_at "m_links_of"
      refine r_slL (.inl e5) fun m6 h6 => ?_
      walk_at "m_links_of"
      rw [show cutL ((wds t).map tS) (some 1) none = ((wds t).drop 1).map tS from by rw [show (1 : Int) = ((1 : Nat) : Int) from rfl, cutL_from, List.map_drop]]
      have nF5 : F ≠ l5 := ne_of_new eF h5
      have nF6 : F ≠ m6 := ne_of_new (ex5 _ _ eF) h6
      have ex6 := Ext.new (o := .lst (((wds t).drop 1).map tS)) h6
      refine r_itL (.inl updO_same) ?_
      refine r_for (fun j σ G7 => ∃ (o6 : Option Wv) (fkv : List (List Key × Wv)) (cs2 : List Cf), σ = [some (.ref p), some (.ref A), some (.ref F), some (.int i), some (tS t), some (.ref l5), o6] ∧ Ext G G7 ∧ G7 r = some (.lst (ts.map tS)) ∧
          G7 A = some (.dct kvs) ∧ G7 F = some (.dtp fkv) ∧ fkv.map (·.1) = cs2.map kyW ∧ FdK (ts.map wds) i (((wds t).drop 1).take j) cs2 ∧ cs2.length ≤ 201 * i + j ∧ G7 l5 = some (.lst ((wds t).map tS)) ∧ G7 m6 = some (.lst (((wds t).drop 1).map tS)))
        ⟨_, fkv, cs, rfl, (ex4.trans ex5).trans ex6, ex6 _ _ (ex5 _ _ er4), ex6 _ _ (ex5 _ _ eA), ex6 _ _ (ex5 _ _ eF), ek, fd, by omega, ex6 _ _ e5, updO_same⟩ (fun _ _ _ _ ⟨_, _, _, _, _, _, _, _, _, _, _, _, e⟩ => .inl e) ?_ ?_
      · rintro j w σ7 G7 ew7 ⟨o6', fkv2, cs2, rfl, ex7, er7, eA7, eF7, ek2, fd2, cl2, e57, e67⟩
        obtain ⟨v, hv, rfl⟩ := map_at ew7
        have hj : j < ((wds t).drop 1).length := (List.getElem?_eq_some_iff.mp hv).1
        rw [List.length_drop] at hj
        have evk : ((wds t).drop 1).take (j + 1) = ((wds t).drop 1).take j ++ [v] := by rw [List.take_add_one, hv]; rfl
        walk_at "m_links_of"
        refine r_inD eA7 (key := .inr (SX.S v)) rfl ?_
        rw [tb v]
        cases el : lastOf ((ts.map wds).take i) v with
        | none =>
          walk_at "m_links_of"
          exact ⟨_, fkv2, cs2, rfl, ex7, er7, eA7, eF7, ek2, by rw [evk]; exact fd2.skip el, by omega, e57, e67⟩
        | some j' =>
          walk_at "m_links_of"
          refine r_ixD eA7 (key := .inr (SX.S v)) rfl (by rw [tb v, el]; rfl) ?_
          walk_at "m_links_of"
          refine ⟨by rw [sizeLine_eq]; decide, ?_⟩
          refine r_setDT (ks := [.int (i : Int), .int (j' : Int)]) eF7 (key := kyW (prC i j')) rfl (by
            have e := congrArg List.length ek2
            rw [List.length_map, List.length_map] at e
            rw [e, sizeLine_eq]; omega) rfl ?_
          walk_at "m_links_of"
          refine ⟨_, _, if prC i j' ∈ cs2 then cs2 else cs2 ++ [prC i j'], rfl, ex7.put hF0, (updO_ne (Ne.symm nFr)).trans er7, (updO_ne nAF).trans eA7, updO_same, ?_, by rw [evk]; exact fd2.put el, ?_, ?_, ?_⟩
          · exact kyW_put ek2 _ _
          · split
            · omega
            · rw [List.length_append, List.length_singleton]; omega
          · exact (updO_ne (Ne.symm nF5)).trans e57
          · exact (updO_ne (Ne.symm nF6)).trans e67
      · rintro σ7 G7 ⟨o6', fkv2, cs2, rfl, ex7, er7, eA7, eF7, ek2, fd2, cl2, e57, e67⟩
        rw [List.length_map, List.take_length] at fd2
        rw [List.length_map, List.length_drop] at cl2
        have fd3 := fd2.next erow
        rw [m_Seq_nx]
        rw [mb_links_of_9]
        walk_at "m_links_of"
        refine r_lst' fun D hD => ?_
        walk_at "m_links_of"
        have exD := Ext.new (o := .lst []) hD
        refine r_neTx ot (m := []) (fun t ht => nomatch ht) (.inl (exD _ _ e57)) (.inl updO_same) ?_
        cases ew : wds t with
        | nil =>
          walk_at "m_links_of"
          exact ⟨_, _, _, _, kvs, fkv2, cs2, rfl, ex7.trans exD, exD _ _ er7, exD _ _ eA7, by rw [etk, ew]; exact tb.skip, by omega, exD _ _ eF7, ek2, fd3, by omega⟩
        | cons v rest =>
          rw [ew] at e57
          rw [decide_eq_false (show ¬ v :: rest = [] from fun h => nomatch h)]
          walk_at "m_links_of"
          refine r_ixL (.inl (exD _ _ e57)) (show atI ((v :: rest).map tS) 0 = some (tS v) from atI_n (i := 0) rfl) ?_
          walk_at "m_links_of"
          refine r_setD (exD _ _ eA7) (key := .inr (SX.S v)) rfl (by rw [sizeLine_eq]; omega) rfl ?_
          walk_at "m_links_of"
          have tb2 := tb.put (v := v) (r := rest)
          rw [ltk] at tb2
          have pl := pkW_len kvs (.inr (SX.S v)) (.int (i : Int))
          exact ⟨_, _, _, _, _, fkv2, cs2, rfl, (ex7.trans exD).put hA, (updO_ne (Ne.symm nAr)).trans (exD _ _ er7), updO_same, by rw [etk, ew]; exact tb2, by omega, (updO_ne (Ne.symm nAF)).trans (exD _ _ eF7), ek2, fd3, by omega⟩
    · rintro σ2 G4 ⟨o3, o4, o5, o6, kvs, fkv, cs, rfl, ex4, er4, eA, tb, kl, eF, ek, fd, cl⟩
      walk_at "m_links_of"
      rw [enW_len, List.length_map] at tb kl fd cl
      refine r_srtC eF ek (by
        have e := congrArg List.length ek
        rw [List.length_map, List.length_map] at e
        rw [e, sizeLine_eq]; omega) fun cs' pm ri l hl => ?_
      walk_at "m_links_of"
      refine r_tupL (.inl updO_same) ?_
      walk_at "m_links_of"
      exact hq cs' _ (FdK.done (by rw [List.length_map]; exact fd) pm ri) (ex4.trans (Ext.new hl))
  · skip
    show t_links_of T (endsW q x) [some (w), none, none, none, none, none, none] G
    unfold t_links_of
    walk_at "m_links_of"
    refine r_isi ty rfl kt ?_
    walk_at "m_links_of"
    exact hx G Ext.refl
set_option maxHeartbeats 0 in
theorem ok_links_of {P : Program} {w : World} {K : PySem.W.Frag} {mg : Str → Option Value} {base : Heap} (T : Txt K mg) : FnW P w K mg base 3 T.f_links_of T.fd_links_of ["case"] (sp_links_of T) :=
  fnW_of (t := t_links_of T) T.F_links_of sc_links_of (len_links_of T) (fun cdv A outer s H E hr => (zs_cons (z_if (z_qnot (z_q (z_callB w_isi rfl T.n_isinstance boot_isinstance (z_acons (z_var (i := 0) rfl (by first | exact .inl rfl | exact .inr (.inl rfl) | exact .inr (.inr rfl))) (z_acons (z_globR rfl T.m_Case) (z_anil)))))) (zs_one (z_raise rfl (takes_of rfl rfl rfl rfl) (z_mk1 T.ox_BadValue T.i_BadValue T.ti_BadValue T.no_BadValue (init_BadValue T) (hr.room.mono (by decide)) (bI_BadValue T) (takes_of rfl rfl rfl rfl) rfl T.m_BadValue (z_str)))) (zs_nil)) (zs_cons (z_par (i := 1) (j := 2) rfl sc_links_of.nd rfl rfl (by decide) rfl rfl (z_acons (z_dnew) (z_acons (z_tnew) (z_anil))) rfl) (zs_cons (z_for (passes_of rfl) rfl (zi_enum rfl T.n_enumerate (z_acons (z_meth0 (k := 1) (cs := [⟨T.C_Case, [.p 0], [], sp_Case_pieces T⟩]) (z_var (i := 0) rfl (by first | exact .inl rfl | exact .inr (.inl rfl) | exact .inr (.inr rfl))) ⟨⟨T.cl_Case, _, _, _, T.me_Case_pieces, (ok_Case_pieces T).mono (by decide), (bind0 T.F_Case_pieces fun _ _ _ _ _ _ us uk h1 h2 => match us, h1, uk, h2 with | [_], _, [], _ => rfl)⟩, trivial⟩ (hr.mono (by decide)) (takes_of rfl rfl rfl rfl)) (z_anil))) (zg_tup rfl (zg_cons (zg_name (i := 3) sc_links_of.nd rfl (by first | exact .inl rfl | exact .inr rfl)) (zg_cons (zg_name (i := 4) sc_links_of.nd rfl (by first | exact .inl rfl | exact .inr rfl)) (zg_nil)))) (zs_cons (z_set (i := 5) sc_links_of.nd rfl (by first | exact .inl rfl | exact .inr rfl) (z_call (sel := [.p 0]) (dws := []) (ok_words_of T) (hr.mono (by decide)) rfl T.m_words_of T.F_words_of.kp (bind0 T.F_words_of fun _ _ _ _ _ _ us uk h1 h2 => match us, h1, uk, h2 with | [_], _, [], _ => rfl) (takes_of rfl rfl rfl rfl) (z_acons (z_var (i := 4) rfl (by first | exact .inl rfl | exact .inr (.inl rfl) | exact .inr (.inr rfl))) (z_anil)))) (zs_cons (z_for (passes_of rfl) rfl (zi_seq (z_sl (z_var (i := 5) rfl (by first | exact .inl rfl | exact .inr (.inl rfl) | exact .inr (.inr rfl))) (z_osome (z_int)) (z_onone))) (zg_name (i := 6) sc_links_of.nd rfl (by first | exact .inl rfl | exact .inr rfl)) (zs_one (z_if (z_qcmp (w_inA (hr).un65) (z_var (i := 6) rfl (by first | exact .inl rfl | exact .inr (.inl rfl) | exact .inr (.inr rfl))) (z_var (i := 1) rfl (by first | exact .inl rfl | exact .inr (.inl rfl) | exact .inr (.inr rfl))) (by rfl)) (zs_one (z_asg (z_bl) (zg_sub (hr).un (z_var (i := 2) rfl (by first | exact .inl rfl | exact .inr (.inl rfl) | exact .inr (.inr rfl))) (z_tup (z_acons (z_var (i := 3) rfl (by first | exact .inl rfl | exact .inr (.inl rfl) | exact .inr (.inr rfl))) (z_acons (z_ix (hr).un (z_var (i := 1) rfl (by first | exact .inl rfl | exact .inr (.inl rfl) | exact .inr (.inr rfl))) (z_var (i := 6) rfl (by first | exact .inl rfl | exact .inr (.inl rfl) | exact .inr (.inr rfl))) (fun _ _ => rfl)) (z_anil)))) (fun _ => rfl)))) (zs_nil)))) (zs_one (z_if (z_qcmp (w_ne (hr).un) (z_var (i := 5) rfl (by first | exact .inl rfl | exact .inr (.inl rfl) | exact .inr (.inr rfl))) (z_lst (z_anil)) (by rfl)) (zs_one (z_asg (z_var (i := 3) rfl (by first | exact .inl rfl | exact .inr (.inl rfl) | exact .inr (.inr rfl))) (zg_sub (hr).un (z_var (i := 1) rfl (by first | exact .inl rfl | exact .inr (.inl rfl) | exact .inr (.inr rfl))) (z_ix (hr).un (z_var (i := 5) rfl (by first | exact .inl rfl | exact .inr (.inl rfl) | exact .inr (.inr rfl))) (z_int) (fun _ _ => rfl)) (fun _ => rfl)))) (zs_nil)))))) (zs_one (z_ret (z_callT w_tuple rfl T.n_tuple boot_tuple (z_acons (z_callB (w_srtC rfl (hr).un) rfl T.n_sorted boot_sorted (z_acons (z_var (i := 2) rfl (by first | exact .inl rfl | exact .inr (.inl rfl) | exact .inr (.inr rfl))) (z_anil))) (z_anil))))))))) (pf_links_of T)
/-! ### _law_due -/
theorem sc__law_due : FnScope ["_law_rows", "_law_found", "_law_k", "_law_words_here", "_law_word", "_law_ahead", "_law_j"] ["_law_rows"] (defScope s__law_due) := ⟨rfl, rfl, rfl, by decide +kernel, rfl, by decide +kernel, by decide +kernel⟩
def sp__law_due {K : PySem.W.Frag} {mg : Str → Option Value} (T : Txt K mg) : SpW := SpDueW
theorem len__law_due {K : PySem.W.Frag} {mg : Str → Option Value} (T : Txt K mg) (ws : List Wv) (G : HW) (q : WK) (x : XE) (h : sp__law_due T ws G q x) : ws.length = 1 := by
  obtain ⟨f, rows, rfl, _⟩ := h
  rfl
def b__law_due_7 {K : PySem.W.Frag} {mg : Str → Option Value} (T : Txt K mg) : ST := sRet (eCB wTuple (aCons (eSSetC (eV 1)) (aNil)))
theorem mb__law_due_7 {K : PySem.W.Frag} {mg : Str → Option Value} (T : Txt K mg) (D : EndsW) (σ : SW) (G : HW) : b__law_due_7 T D σ G = (sRet (eCB wTuple (aCons (eSSetC (eV 1)) (aNil)))) D σ G := rfl
def b__law_due_5 {K : PySem.W.Frag} {mg : Str → Option Value} (T : Txt K mg) : ST := sIf (qOp wNe (eV 5) (eLst (aNil))) (sExpr (eBM "list" wAppend (eV 1) (aCons (eTup (aCons (eV 2) (aCons (eOp wIx (eV 5) (eNeg (eC (.int 1)))) (aNil)))) (aNil)))) (sNext)
theorem mb__law_due_5 {K : PySem.W.Frag} {mg : Str → Option Value} (T : Txt K mg) (D : EndsW) (σ : SW) (G : HW) : b__law_due_5 T D σ G = (sIf (qOp wNe (eV 5) (eLst (aNil))) (sExpr (eBM "list" wAppend (eV 1) (aCons (eTup (aCons (eV 2) (aCons (eOp wIx (eV 5) (eNeg (eC (.int 1)))) (aNil)))) (aNil)))) (sNext)) D σ G := rfl
def b__law_due_4 {K : PySem.W.Frag} {mg : Str → Option Value} (T : Txt K mg) : ST := sSeq (sSet 5 (eLc (iRg1 (aCons (eV 2) (aNil))) [6] [6] (qAnd (qOp wNe (eOp wIx (eV 0) (eV 6)) (eLst (aNil))) (qOp wEq (eOp wIx (eOp wIx (eV 0) (eV 6)) (eC (.int 0))) (eV 4))) (eV 6))) (b__law_due_5 T)
theorem mb__law_due_4 {K : PySem.W.Frag} {mg : Str → Option Value} (T : Txt K mg) (D : EndsW) (σ : SW) (G : HW) : b__law_due_4 T D σ G = (sSeq (sSet 5 (eLc (iRg1 (aCons (eV 2) (aNil))) [6] [6] (qAnd (qOp wNe (eOp wIx (eV 0) (eV 6)) (eLst (aNil))) (qOp wEq (eOp wIx (eOp wIx (eV 0) (eV 6)) (eC (.int 0))) (eV 4))) (eV 6))) (b__law_due_5 T)) D σ G := rfl
def b__law_due_3 {K : PySem.W.Frag} {mg : Str → Option Value} (T : Txt K mg) : ST := sFor (iSeq (eSSetX (eSl (eV 3) (oSome (eC (.int 1))) (oNone)))) (gNm 4) (b__law_due_4 T)
theorem mb__law_due_3 {K : PySem.W.Frag} {mg : Str → Option Value} (T : Txt K mg) (D : EndsW) (σ : SW) (G : HW) : b__law_due_3 T D σ G = (sFor (iSeq (eSSetX (eSl (eV 3) (oSome (eC (.int 1))) (oNone)))) (gNm 4) (b__law_due_4 T)) D σ G := rfl
def b__law_due_2 {K : PySem.W.Frag} {mg : Str → Option Value} (T : Txt K mg) : ST := sSeq (sFor (iEnu (aCons (eV 0) (aNil))) (gTu 2 (gMo (gNm 2) (gMo (gNm 3) (gNo)))) (b__law_due_3 T)) (b__law_due_7 T)
theorem mb__law_due_2 {K : PySem.W.Frag} {mg : Str → Option Value} (T : Txt K mg) (D : EndsW) (σ : SW) (G : HW) : b__law_due_2 T D σ G = (sSeq (sFor (iEnu (aCons (eV 0) (aNil))) (gTu 2 (gMo (gNm 2) (gMo (gNm 3) (gNo)))) (b__law_due_3 T)) (b__law_due_7 T)) D σ G := rfl
def t__law_due {K : PySem.W.Frag} {mg : Str → Option Value} (T : Txt K mg) : ST := sSeq (sSet 1 (eLst (aNil))) (b__law_due_2 T)
local macro_rules | `(tactic| walk_at "m__law_due") => `(tactic| (walk_at "m0"; repeat (simp only [mb__law_due_5, mb__law_due_4, mb__law_due_3, mb__law_due_2] <;> walk_at "m0")))
theorem pf__law_due {K : PySem.W.Frag} {mg : Str → Option Value} (T : Txt K mg) (ws : List Wv) (G : HW) (q : WK) (x : XE) (h : sp__law_due T ws G q x) : t__law_due T (endsW q x) (startW ["_law_rows", "_law_found", "_law_k", "_law_words_here", "_law_word", "_law_ahead", "_law_j"] ws) G := by
  obtain ⟨f, rows, rfl, ro, ok, hq⟩ := h
  obtain ⟨rs, gf, rl, rr⟩ := ro
  have few := ok.1
  show t__law_due T (endsW q x) [some (.ref f), none, none, none, none, none, none] G
  unfold t__law_due
  walk_at "m__law_due"
  refine r_lst' fun F hF => ?_
  walk_at "m__law_due"
  have exF := Ext.new (o := .lst []) hF
  refine r_enu (.inl (exF _ _ gf)) ?_
  refine r_for (fun i σ G4 => ∃ (o2 o3 o4 o5 o6 : Option Wv) (cs : List Cf), σ = [some (.ref f), some (.ref F), o2, o3, o4, o5, o6] ∧ Ext G G4 ∧ G4 F = some (.lst (cs.map cfW)) ∧ FdK rows i [] cs ∧ cs.length ≤ 5 * i)
    ⟨_, _, _, _, _, [], rfl, exF, updO_same, FdK.nil, Nat.le_refl _⟩ (fun _ _ _ _ ⟨_, _, _, _, _, _, _, e, _⟩ => .inl (e _ _ gf)) ?_ ?_
  · rintro i w σ2 G4 ew ⟨o2, o3, o4, o5, o6, cs, rfl, ex4, eF, fd, cl⟩
    obtain ⟨u, eu, rfl⟩ := en_at ew
    obtain ⟨r, hr, rfl⟩ := map_at eu
    have hi : i < rows.length := by rw [← rl]; exact (List.getElem?_eq_some_iff.mp hr).1
    obtain ⟨ws, hws⟩ : ∃ ws, rows[i]? = some ws := ⟨_, List.getElem?_eq_getElem hi⟩
    have gr := rr i r ws hr hws
    have wl := ok.2.1 ws (List.mem_of_getElem? hws)
    have eF0 : Ext G4 G4 := Ext.refl
    walk_at "m__law_due"
    refine r_slL (.inl (ex4 _ _ gr)) fun m5 h5 => ?_
    walk_at "m__law_due"
    rw [show cutL (ws.map tS) (some 1) none = (ws.drop 1).map tS from by rw [show (1 : Int) = ((1 : Nat) : Int) from rfl, cutL_from, List.map_drop]]
    have ex5 := Ext.new (o := .lst ((ws.drop 1).map tS)) h5
    have nF5 : F ≠ m5 := ne_of_new eF h5
    have e5 : (updO G4 m5 (.lst ((ws.drop 1).map tS))) m5 = some (.lst (((ws.drop 1).map SX.S).map .str)) := by rw [List.map_map]; exact updO_same
    refine r_ssetX (.inl e5) (by rw [List.length_map, List.length_drop]; omega) fun out nd hm l6 h6 => ?_
    obtain ⟨us, rfl, nu, mu, lu⟩ := out_codes nd hm
    rw [show (us.map SX.S).map Wv.str = us.map tS from by rw [List.map_map]; rfl]
    rw [List.length_drop] at lu
    have nF6 : F ≠ l6 := ne_of_new (ex5 _ _ eF) h6
    have ex6 := Ext.new (o := .lst (us.map tS)) h6
    walk_at "m__law_due"
    refine r_itL (.inl updO_same) ?_
    refine r_for (fun j σ G7 => ∃ (o4 o5 o6 : Option Wv) (cs2 : List Cf), σ = [some (.ref f), some (.ref F), some (.int i), some (.ref r), o4, o5, o6] ∧ Ext G G7 ∧ G7 F = some (.lst (cs2.map cfW)) ∧ G7 l6 = some (.lst (us.map tS)) ∧ FdK rows i (us.take j) cs2 ∧ cs2.length ≤ 5 * i + j)
      ⟨_, _, _, cs, rfl, (ex4.trans ex5).trans ex6, ex6 _ _ (ex5 _ _ eF), updO_same, fd, by omega⟩ (fun _ _ _ _ ⟨_, _, _, _, _, _, _, e, _⟩ => .inl e) ?_ ?_
    · rintro j w σ7 G7 ew7 ⟨o4', o5', o6', cs2, rfl, ex7, eF7, e67, fd2, cl2⟩
      obtain ⟨v, hv, rfl⟩ := map_at ew7
      have hj : j < us.length := (List.getElem?_eq_some_iff.mp hv).1
      have evk : us.take (j + 1) = us.take j ++ [v] := by rw [List.take_add_one, hv]; rfl
      have hvn : v ∉ us.take j := by
        have n2 : (us.take (j + 1)).Nodup := nu.sublist (List.take_sublist _ _)
        rw [evk] at n2
        exact fun z => (List.nodup_append.mp n2).2.2 v z v List.mem_cons_self rfl
      walk_at "m__law_due"
      refine r_rg1 (by omega) (by omega) ?_
      rw [Int.toNat_natCast]
      refine r_lc (fun _ w => if heE rows v w then some (id w) else none) (by rw [rgW_len, sizeLine_eq]; omega) (fun _ _ => trivial) (fun a w G' k ea ex hk => ?_) fun D G8 hD ex8 eD => ?_
      · obtain ⟨ha, rfl⟩ := rg_nat ea
        obtain ⟨ra, hra⟩ : ∃ ra, rs[a]? = some ra := ⟨_, List.getElem?_eq_getElem (show a < rs.length by omega)⟩
        obtain ⟨wa, hwa⟩ : ∃ wa, rows[a]? = some wa := ⟨_, List.getElem?_eq_getElem (show a < rows.length by omega)⟩
        have ga := ex _ _ (ex7 _ _ (rr a ra wa hra hwa))
        have hra2 : atI (rs.map Wv.ref) (a : Int) = some (.ref ra) := atI_n (by rw [List.getElem?_map, hra]; rfl)
        have gf2 := ex _ _ (ex7 _ _ gf)
        have he : heE rows v (.int (a : Int)) = decide (wa.head? = some v) := by
          show decide ((rows.getD (a : Int).toNat []).head? = some v) = _
          rw [Int.toNat_natCast, List.getD_eq_getElem?_getD, hwa]
          rfl
        have e := hk
        rw [he] at e
        refine ⟨_, rfl, ?_⟩
        walk_at "m__law_due"
        refine r_ixL (.inl gf2) hra2 ?_
        walk_at "m__law_due"
        refine r_lst' fun D8 hD8 => ?_
        walk_at "m__law_due"
        have ex8 := Ext.new (o := .lst []) hD8
        refine r_neTx (ok.2.2 wa (List.mem_of_getElem? hwa)) (m := []) (fun t ht => nomatch ht) (.inl (ex8 _ _ ga)) (.inl updO_same) ?_
        cases wa with
        | nil =>
          walk_at "m__law_due"
          have e2 := e _ ex8
          rw [if_neg (by simp)] at e2
          exact e2
        | cons v0 rest =>
          rw [decide_eq_false (show ¬ v0 :: rest = [] from fun h => nomatch h)]
          walk_at "m__law_due"
          refine r_ixL (.inl (ex8 _ _ gf2)) hra2 ?_
          walk_at "m__law_due"
          refine r_ixL (.inl (ex8 _ _ ga)) (show atI ((v0 :: rest).map tS) 0 = some (tS v0) from atI_n (i := 0) rfl) ?_
          walk_at "m__law_due"
          have e2 := e _ ex8
          by_cases hv0 : v0 = v
          · rw [hv0, decide_eq_true (show SX.S v = SX.S v from rfl)]
            rw [hv0, if_pos (decide_eq_true (show (v :: rest).head? = some v from rfl))] at e2
            exact e2
          · rw [decide_eq_false (fun z => hv0 (SX.S_inj z))]
            rw [decide_eq_false (show ¬ (v0 :: rest).head? = some v from fun z => hv0 (Option.some.inj z))] at e2
            exact e2
      · rw [gath_filter, List.map_id, ahead_W] at eD
        have hlast := ahead_last rows v i (by omega)
        walk_at "m__law_due"
        refine r_lst' fun D9 hD9 => ?_
        walk_at "m__law_due"
        have ex9 := Ext.new (o := .lst []) hD9
        have eD9 := ex9 _ _ eD
        rw [show ((aheadL rows i v).map fun (j : Nat) => Wv.int (j : Int)) = ((aheadL rows i v).map fun (j : Nat) => (j : Int)).map Wv.int from by rw [List.map_map]; rfl] at eD9
        refine r_neI0 (.inl eD9) (.inl updO_same) ?_
        have nFD : F ≠ D := ne_of_new eF7 hD
        have eF9 := ex9 _ _ (ex8 _ _ eF7)
        have e69 := ex9 _ _ (ex8 _ _ e67)
        cases el : lastOf (rows.take i) v with
        | none =>
          have hn : aheadL rows i v = [] := List.getLast?_eq_none_iff.mp (hlast.trans el)
          rw [hn]
          walk_at "m__law_due"
          exact ⟨_, _, _, cs2, rfl, (ex7.trans ex8).trans ex9, eF9, e69, by rw [evk]; exact fd2.skip el, by omega⟩
        | some j' =>
          have hl2 := hlast.trans el
          rw [decide_eq_false (show ¬ ((aheadL rows i v).map fun (j : Nat) => (j : Int)) = [] from fun z => by
            rw [List.map_eq_nil_iff.mp z] at hl2
            cases hl2)]
          walk_at "m__law_due"
          refine r_M (.inl ⟨rfl, _, .inl eF9⟩) ?_
          walk_at "m__law_due"
          refine r_ixL (.inl eD9) (atI_last (a := .int (j' : Int)) (by rw [List.getLast?_map, List.getLast?_map, hl2]; rfl)) ?_
          walk_at "m__law_due"
          refine r_app eF9 (by rw [List.length_map, sizeLine_eq]; omega) ?_
          walk_at "m__law_due"
          have fd3 := fd2.put el
          rw [if_neg (fd2.new el hvn)] at fd3
          have nF6 : F ≠ l6 := nF6
          refine ⟨_, _, _, cs2 ++ [prC i j'], rfl, ((ex7.trans ex8).trans ex9).put hF, by rw [updO_same, List.map_append]; rfl, (updO_ne (Ne.symm nF6)).trans e69, by rw [evk]; exact fd3, by rw [List.length_append, List.length_singleton]; omega⟩
    · rintro σ7 G7 ⟨o4', o5', o6', cs2, rfl, ex7, eF7, e67, fd2, cl2⟩
      rw [List.length_map] at cl2
      rw [List.length_map, List.take_length] at fd2
      exact ⟨_, _, _, _, _, cs2, rfl, ex7, eF7, (fd2.same mu).next hws, by omega⟩
  · rintro σ2 G4 ⟨o2, o3, o4, o5, o6, cs, rfl, ex4, eF, fd, cl⟩
    walk_at "m__law_due"
    rw [mb__law_due_7]
    walk_at "m__law_due"
    rw [enW_len, List.length_map, rl] at fd cl
    refine r_ssetL (.inl eF) fd.1 (by omega) fun cs' pm ri l hl => ?_
    walk_at "m__law_due"
    refine r_tupL (.inl updO_same) ?_
    walk_at "m__law_due"
    exact hq cs' _ (fd.done pm ri) (ex4.trans (Ext.new hl))
set_option maxHeartbeats 0 in
theorem ok__law_due {P : Program} {w : World} {K : PySem.W.Frag} {mg : Str → Option Value} {base : Heap} (T : Txt K mg) : FnW P w K mg base 1 T.f__law_due T.fd__law_due ["_law_rows"] (sp__law_due T) :=
  fnW_of (t := t__law_due T) T.F__law_due sc__law_due (len__law_due T) (fun cdv A outer s H E hr => (zs_cons (z_set (i := 1) sc__law_due.nd rfl (by first | exact .inl rfl | exact .inr rfl) (z_lst (z_anil))) (zs_cons (z_for (passes_of rfl) rfl (zi_enum rfl T.n_enumerate (z_acons (z_var (i := 0) rfl (by first | exact .inl rfl | exact .inr (.inl rfl) | exact .inr (.inr rfl))) (z_anil))) (zg_tup rfl (zg_cons (zg_name (i := 2) sc__law_due.nd rfl (by first | exact .inl rfl | exact .inr rfl)) (zg_cons (zg_name (i := 3) sc__law_due.nd rfl (by first | exact .inl rfl | exact .inr rfl)) (zg_nil)))) (zs_one (z_for (passes_of rfl) rfl (zi_seq (z_ssetX rfl rfl T.n_sorted rfl T.n_set (z_sl (z_var (i := 3) rfl (by first | exact .inl rfl | exact .inr (.inl rfl) | exact .inr (.inr rfl))) (z_osome (z_int)) (z_onone)))) (zg_name (i := 4) sc__law_due.nd rfl (by first | exact .inl rfl | exact .inr rfl)) (zs_cons (z_setLc (i := 5) (is := [6]) (own := [("_law_j", 6)]) rfl sc__law_due.nd rfl rfl rfl (zi_range1 rfl T.n_range (z_acons (z_var (i := 2) rfl (by first | exact .inl rfl | exact .inr (.inl rfl) | exact .inr (.inr rfl))) (z_anil))) (blkOk_by rfl) (fun _ _ _ _ _ => pg_name sc__law_due.nd rfl (by first | exact .inl rfl | exact .inr rfl)) (fun _ _ _ _ _ => zq_one (z_bool (z_and (z_qcmp (w_ne (hr).un) (z_ix (hr).un (z_var (i := 0) rfl (by first | exact .inl rfl | exact .inr (.inl rfl) | exact .inr (.inr rfl))) (z_var (i := 6) rfl (by first | exact .inl rfl | exact .inr (.inl rfl) | exact .inr (.inr rfl))) (fun _ _ => rfl)) (z_lst (z_anil)) (by rfl)) (z_and1 (z_qcmp (w_eq (hr).un) (z_ix (hr).un (z_ix (hr).un (z_var (i := 0) rfl (by first | exact .inl rfl | exact .inr (.inl rfl) | exact .inr (.inr rfl))) (z_var (i := 6) rfl (by first | exact .inl rfl | exact .inr (.inl rfl) | exact .inr (.inr rfl))) (fun _ _ => rfl)) (z_int) (fun _ _ => rfl)) (z_var (i := 4) rfl (by first | exact .inl rfl | exact .inr (.inl rfl) | exact .inr (.inr rfl))) (by rfl)))))) (fun _ _ _ _ _ => z_var (i := 6) rfl (by first | exact .inl rfl | exact .inr (.inl rfl) | exact .inr (.inr rfl))) (by decide)) (zs_one (z_if (z_qcmp (w_ne (hr).un) (z_var (i := 5) rfl (by first | exact .inl rfl | exact .inr (.inl rfl) | exact .inr (.inr rfl))) (z_lst (z_anil)) (by rfl)) (zs_one (z_expr (z_bm PySem.F.plainAttrs_list PySem.F.slot_list_append PySem.F.type_list_append w_append (z_var (i := 1) rfl (by first | exact .inl rfl | exact .inr (.inl rfl) | exact .inr (.inr rfl))) (z_acons (z_tup (z_acons (z_var (i := 2) rfl (by first | exact .inl rfl | exact .inr (.inl rfl) | exact .inr (.inr rfl))) (z_acons (z_ix (hr).un (z_var (i := 5) rfl (by first | exact .inl rfl | exact .inr (.inl rfl) | exact .inr (.inr rfl))) (z_neg (z_int)) (fun _ _ => rfl)) (z_anil)))) (z_anil))))) (zs_nil))))))) (zs_one (z_ret (z_callT w_tuple rfl T.n_tuple boot_tuple (z_acons (z_ssetC rfl (hr).un rfl T.n_sorted rfl T.n_set (z_var (i := 1) rfl (by first | exact .inl rfl | exact .inr (.inl rfl) | exact .inr (.inr rfl)))) (z_anil)))))))) (pf__law_due T)
/-! ### is_whole -/
theorem sc_is_whole : FnScope ["thing", "least", "most"] ["thing", "least", "most"] (defScope s_is_whole) := ⟨rfl, rfl, rfl, by decide +kernel, rfl, by decide +kernel, by decide +kernel⟩
def sp_is_whole {K : PySem.W.Frag} {mg : Str → Option Value} (T : Txt K mg) : SpW := SpWhole K
theorem len_is_whole {K : PySem.W.Frag} {mg : Str → Option Value} (T : Txt K mg) (ws : List Wv) (G : HW) (q : WK) (x : XE) (h : sp_is_whole T ws G q x) : ws.length = 3 := by
  obtain ⟨w, lo, hi, rfl, _⟩ := h
  rfl
def t_is_whole {K : PySem.W.Frag} {mg : Str → Option Value} (T : Txt K mg) : ST := sRet (eAnd (eCB (wIsi K) (aCons (eV 0) (aCons (eC (.ty "int")) (aNil)))) (eAnd (eNot (eCB (wIsi K) (aCons (eV 0) (aCons (eC (.ty "bool")) (aNil))))) (eChain oLe oLe (eV 1) (eV 0) (eV 2))))
theorem pf_is_whole {K : PySem.W.Frag} {mg : Str → Option Value} (T : Txt K mg) (ws : List Wv) (G : HW) (q : WK) (x : XE) (h : sp_is_whole T ws G q x) : t_is_whole T (endsW q x) (startW ["thing", "least", "most"] ws) G := by
  obtain ⟨w, lo, hi, rfl, kw, hq⟩ := h
  show t_is_whole T (endsW q x) [some (w), some (.int lo), some (.int hi)] G
  unfold t_is_whole
  walk_at "m0"
  refine r_ty kw.i ?_
  cases w <;> simp only [isI] <;> walk_at "m0" <;> try exact hq
  · refine r_ty kw.b ?_
    simp only [isBl]
    walk_at "m0"
    exact hq
  · refine r_ty kw.b ?_
    rename_i i
    simp only [isBl]
    walk_at "m0"
    simp only [isWh] at hq
    cases e1 : decide (lo ≤ i) <;> rw [e1] at hq <;> walk_at "m0" <;> exact hq
set_option maxHeartbeats 0 in
theorem ok_is_whole {P : Program} {w : World} {K : PySem.W.Frag} {mg : Str → Option Value} {base : Heap} (T : Txt K mg) : FnW P w K mg base 1 T.f_is_whole T.fd_is_whole ["thing", "least", "most"] (sp_is_whole T) :=
  fnW_of (t := t_is_whole T) T.F_is_whole sc_is_whole (len_is_whole T) (fun cdv A outer s H E hr => (zs_one (z_ret (z_vand (z_callB w_isi rfl T.n_isinstance boot_isinstance (z_acons (z_var (i := 0) rfl (by first | exact .inl rfl | exact .inr (.inl rfl) | exact .inr (.inr rfl))) (z_acons (z_bty rfl T.n_int boot_int) (z_anil)))) (z_vand (z_vnot (z_callB w_isi rfl T.n_isinstance boot_isinstance (z_acons (z_var (i := 0) rfl (by first | exact .inl rfl | exact .inr (.inl rfl) | exact .inr (.inr rfl))) (z_acons (z_bty rfl T.n_bool boot_bool) (z_anil))))) (z_vone (z_chain w_le w_le (z_var (i := 1) rfl (by first | exact .inl rfl | exact .inr (.inl rfl) | exact .inr (.inr rfl))) (z_var (i := 0) rfl (by first | exact .inl rfl | exact .inr (.inl rfl) | exact .inr (.inr rfl))) (z_var (i := 2) rfl (by first | exact .inl rfl | exact .inr (.inl rfl) | exact .inr (.inr rfl)))))))))) (pf_is_whole T)
/-! ### is_link -/
theorem sc_is_link : FnScope ["thing", "count", "one"] ["thing", "count"] (defScope s_is_link) := ⟨rfl, rfl, rfl, by decide +kernel, rfl, by decide +kernel, by decide +kernel⟩
def sp_is_link {K : PySem.W.Frag} {mg : Str → Option Value} (T : Txt K mg) : SpW := SpLink K
theorem len_is_link {K : PySem.W.Frag} {mg : Str → Option Value} (T : Txt K mg) (ws : List Wv) (G : HW) (q : WK) (x : XE) (h : sp_is_link T ws G q x) : ws.length = 2 := by
  obtain ⟨w, n, rfl, _⟩ := h
  rfl
def b_is_link_3 {K : PySem.W.Frag} {mg : Str → Option Value} (T : Txt K mg) : ST := sRet (eOp wNe (eOp wIx (eV 0) (eC (.int 0))) (eOp wIx (eV 0) (eC (.int 1))))
theorem mb_is_link_3 {K : PySem.W.Frag} {mg : Str → Option Value} (T : Txt K mg) (D : EndsW) (σ : SW) (G : HW) : b_is_link_3 T D σ G = (sRet (eOp wNe (eOp wIx (eV 0) (eC (.int 0))) (eOp wIx (eV 0) (eC (.int 1))))) D σ G := rfl
def t_is_link {K : PySem.W.Frag} {mg : Str → Option Value} (T : Txt K mg) : ST := sSeq (sIf (qOr (qNot (qTru (eCB (wIsi K) (aCons (eV 0) (aCons (eC (.ty "tuple")) (aNil)))))) (qOr (qOp wNe (eCB wLen (aCons (eV 0) (aNil))) (eC (.int 2))) (qNot (qTru (eCB wAll (aCons (eLc (iSeq (eV 0)) [2] [2] (qYes) (eCall 3 0 [.p 0, .p 1, .p 2] [] (sp_is_whole T) (aCons (eV 2) (aCons (eC (.int 0)) (aCons (eOp oSub (eV 1) (eC (.int 1))) (aNil)))) aNil)) (aNil))))))) (sRet (eC (.bl false))) (sNext)) (b_is_link_3 T)
local macro_rules | `(tactic| walk_at "m_is_link") => `(tactic| (walk_at "m0"; repeat (simp only [mb_is_link_3] <;> walk_at "m0")))
theorem pf_is_link {K : PySem.W.Frag} {mg : Str → Option Value} (T : Txt K mg) (ws : List Wv) (G : HW) (q : WK) (x : XE) (h : sp_is_link T ws G q x) : t_is_link T (endsW q x) (startW ["thing", "count", "one"] ws) G := by
  obtain ⟨w, n, rfl, kw, hq⟩ := h
  show t_is_link T (endsW q x) [some (w), some (.int n), none] G
  unfold t_is_link
  walk_at "m_is_link"
  refine r_ty kw.1.t ?_
  cases w with
  | tup ws =>
    simp only [isTp]
    walk_at "m_is_link"
    cases e0 : decide ((ws.length : Int) = 2) with
    | false =>
      have h0 := of_decide_eq_false e0
      walk_at "m_is_link"
      have : isLk (.tup ws) n = false := by
        unfold isLk
        split
        · rename_i a b e
          cases e
          exact absurd rfl h0
        · rfl
      rw [this] at hq
      exact hq G Ext.refl
    | true =>
      have h0 := of_decide_eq_true e0
      obtain ⟨a, b, rfl⟩ : ∃ a b, ws = [a, b] := by
        match ws, h0 with
        | [], h0 => exact absurd h0 (by simp)
        | [a], h0 => exact absurd h0 (by simp)
        | [a, b], _ => exact ⟨a, b, rfl⟩
        | a :: b :: c :: ws, h0 => exact absurd h0 (by rw [List.length_cons, List.length_cons, List.length_cons]; omega)
      walk_at "m_is_link"
      have le2 : (([a, b] : List Wv).length : Int) ≤ 2 := by simp
      have ka := kw.2 [a, b] rfl le2 a (by simp)
      have kb := kw.2 [a, b] rfl le2 b (by simp)
      refine r_lcB (fun w => isWh w 0 (n - 1)) (by rw [sizeLine_eq]; exact Nat.le_of_ble_eq_true rfl) (fun _ _ => trivial) (fun i w G' k ew ex hk => ⟨_, rfl, ?_⟩) fun D G1 hD ex eD => ?_
      · walk_at "m_is_link"
        exact ⟨w, 0, n - 1, rfl, (kw.2 [a, b] rfl le2 w (List.mem_of_getElem? ew)).ext ex, by walk_at "m_is_link"; exact hk G' Ext.refl⟩
      walk_at "m_is_link"
      refine r_all (.inl eD) ?_
      rw [all_id]
      walk_at "m_is_link"
      cases e2 : [a, b].all fun w => isWh w 0 (n - 1) with
      | false =>
        walk_at "m_is_link"
        have : isLk (.tup [a, b]) n = false := by
          rw [List.all_cons, List.all_cons, List.all_nil, Bool.and_true] at e2
          unfold isLk; dsimp only
          rw [← Bool.and_assoc, e2]
          rfl
        rw [this] at hq
        exact hq G1 ex
      | true =>
        rw [List.all_cons, List.all_cons, List.all_nil, Bool.and_true, Bool.and_eq_true] at e2
        cases a <;> try (cases e2.1)
        cases b <;> try (cases e2.2)
        rename_i i j
        walk_at "m_is_link"
        refine r_ixT (i := 0) rfl ?_
        walk_at "m_is_link"
        refine r_ixT (i := 1) rfl ?_
        walk_at "m_is_link"
        have : isLk (.tup [.int i, .int j]) n = !decide (i = j) := by
          unfold isLk; dsimp only
          rw [e2.1, e2.2]
          rfl
        rw [this] at hq
        exact hq G1 ex
  | _ =>
    simp only [isTp]
    walk_at "m_is_link"
    exact hq G Ext.refl
set_option maxHeartbeats 0 in
theorem ok_is_link {P : Program} {w : World} {K : PySem.W.Frag} {mg : Str → Option Value} {base : Heap} (T : Txt K mg) : FnW P w K mg base 2 T.f_is_link T.fd_is_link ["thing", "count"] (sp_is_link T) :=
  fnW_of (t := t_is_link T) T.F_is_link sc_is_link (len_is_link T) (fun cdv A outer s H E hr => (zs_cons (z_if (z_bool (z_or (z_qnot (z_q (z_callB w_isi rfl T.n_isinstance boot_isinstance (z_acons (z_var (i := 0) rfl (by first | exact .inl rfl | exact .inr (.inl rfl) | exact .inr (.inr rfl))) (z_acons (z_bty rfl T.n_tuple boot_tuple) (z_anil)))))) (z_or (z_qcmp (w_ne (hr).un) (z_callB w_len rfl T.n_len boot_len (z_acons (z_var (i := 0) rfl (by first | exact .inl rfl | exact .inr (.inl rfl) | exact .inr (.inr rfl))) (z_anil))) (z_int) (by rfl)) (z_or1 (z_qnot (z_q (z_callB (w_all rfl) rfl T.n_all boot_all (z_acons (z_lc (is := [2]) (own := [("one", 2)]) rfl sc_is_link.nd (zi_seq (z_var (i := 0) rfl (by first | exact .inl rfl | exact .inr (.inl rfl) | exact .inr (.inr rfl)))) (blkOk_by rfl) (fun _ _ _ _ _ => pg_name sc_is_link.nd rfl (by first | exact .inl rfl | exact .inr rfl)) (fun _ _ _ _ _ => zq_nil) (fun _ _ _ _ _ => z_call (sel := [.p 0, .p 1, .p 2]) (dws := []) (ok_is_whole T) (hr.mono (by decide)) rfl T.m_is_whole T.F_is_whole.kp (bind0 T.F_is_whole fun _ _ _ _ _ _ us uk h1 h2 => match us, h1, uk, h2 with | [_, _, _], _, [], _ => rfl) tkN (z_acons (z_var (i := 2) rfl (by first | exact .inl rfl | exact .inr (.inl rfl) | exact .inr (.inr rfl))) (z_acons (z_int) (z_acons (z_bin w_sub (z_var (i := 1) rfl (by first | exact .inl rfl | exact .inr (.inl rfl) | exact .inr (.inr rfl))) (z_int)) (z_anil))))) (by decide)) (z_anil))))))))) (zs_one (z_ret (z_bl))) (zs_nil)) (zs_one (z_ret (z_cmp (w_ne (hr).un) (z_ix (hr).un (z_var (i := 0) rfl (by first | exact .inl rfl | exact .inr (.inl rfl) | exact .inr (.inr rfl))) (z_int) (fun _ _ => rfl)) (z_ix (hr).un (z_var (i := 0) rfl (by first | exact .inl rfl | exact .inr (.inl rfl) | exact .inr (.inr rfl))) (z_int) (fun _ _ => rfl)) (by rfl)))))) (pf_is_link T)
/-! ### is_links -/
theorem sc_is_links : FnScope ["thing", "count", "one", "other"] ["thing", "count"] (defScope s_is_links) := ⟨rfl, rfl, rfl, by decide +kernel, rfl, by decide +kernel, by decide +kernel⟩
def sp_is_links {K : PySem.W.Frag} {mg : Str → Option Value} (T : Txt K mg) : SpW := SpLinks K
theorem len_is_links {K : PySem.W.Frag} {mg : Str → Option Value} (T : Txt K mg) (ws : List Wv) (G : HW) (q : WK) (x : XE) (h : sp_is_links T ws G q x) : ws.length = 2 := by
  obtain ⟨w, n, rfl, _⟩ := h
  rfl
def b_is_links_3 {K : PySem.W.Frag} {mg : Str → Option Value} (T : Txt K mg) : ST := sRet (eCB wAll (aCons (eLc (iZp (aCons (eV 0) (aCons (eSl (eV 0) (oSome (eC (.int 1))) (oNone)) (aNil)))) [2, 3] [2, 3] (qYes) (eOp wLtA (eV 2) (eV 3))) (aNil)))
theorem mb_is_links_3 {K : PySem.W.Frag} {mg : Str → Option Value} (T : Txt K mg) (D : EndsW) (σ : SW) (G : HW) : b_is_links_3 T D σ G = (sRet (eCB wAll (aCons (eLc (iZp (aCons (eV 0) (aCons (eSl (eV 0) (oSome (eC (.int 1))) (oNone)) (aNil)))) [2, 3] [2, 3] (qYes) (eOp wLtA (eV 2) (eV 3))) (aNil)))) D σ G := rfl
def t_is_links {K : PySem.W.Frag} {mg : Str → Option Value} (T : Txt K mg) : ST := sSeq (sIf (qOr (qNot (qTru (eCB (wIsi K) (aCons (eV 0) (aCons (eC (.ty "tuple")) (aNil)))))) (qNot (qTru (eCB wAll (aCons (eLc (iSeq (eV 0)) [2] [2] (qYes) (eCall 2 0 [.p 0, .p 1] [] (sp_is_link T) (aCons (eV 2) (aCons (eV 1) (aNil))) aNil)) (aNil)))))) (sRet (eC (.bl false))) (sNext)) (b_is_links_3 T)
local macro_rules | `(tactic| walk_at "m_is_links") => `(tactic| (walk_at "m0"; repeat (simp only [mb_is_links_3] <;> walk_at "m0")))
theorem pf_is_links {K : PySem.W.Frag} {mg : Str → Option Value} (T : Txt K mg) (ws : List Wv) (G : HW) (q : WK) (x : XE) (h : sp_is_links T ws G q x) : t_is_links T (endsW q x) (startW ["thing", "count", "one", "other"] ws) G := by
  obtain ⟨w, n, rfl, kw, hq⟩ := h
  show t_is_links T (endsW q x) [some (w), some (.int n), none, none] G
  unfold t_is_links
  walk_at "m_is_links"
  refine r_ty kw.1.t ?_
  cases w with
  | tup ws =>
    simp only [isTp]
    obtain ⟨hl, ky⟩ := kw.2 ws rfl
    have hz : ws.length ≤ sizeLine := by rw [sizeLine_eq]; omega
    walk_at "m_is_links"
    refine r_lcB (fun w => isLk w n) hz (fun _ _ => trivial) (fun i w G' k ew ex hk => ⟨_, rfl, ?_⟩) fun D G1 hD ex eD => ?_
    · walk_at "m_is_links"
      exact ⟨w, n, rfl, (ky w (List.mem_of_getElem? ew)).ext ex, fun G2 e2 => by walk_at "m_is_links"; exact hk G2 e2⟩
    walk_at "m_is_links"
    refine r_all (.inl eD) ?_
    rw [all_id]
    walk_at "m_is_links"
    have hc : isLks (.tup ws) n = ((ws.all fun w => isLk w n) && risesT ws) := rfl
    cases e2 : ws.all fun w => isLk w n with
    | false =>
      walk_at "m_is_links"
      rw [hc, e2] at hq
      exact hq G1 ex
    | true =>
      walk_at "m_is_links"
      have ed : cutL ws (some 1) none = ws.drop 1 := by
        unfold cutL HT.sIx
        cases ws with
        | nil => rfl
        | cons a ws => simp
      rw [ed]
      have all : ∀ y ∈ ws, isLk y n = true := List.all_eq_true.mp e2
      refine r_lcB pairLtT (by rw [zpW_len]; omega) (fun _ _ => trivial) (fun i w G' k ew ex hk => ?_) fun D G2 hD ex2 eD => ?_
      · obtain ⟨a, b, rfl, ha, hb⟩ : ∃ a b, w = .tup [a, b] ∧ a ∈ ws ∧ b ∈ ws := by
          unfold zpW at ew
          rw [List.getElem?_zipWith] at ew
          cases h1 : ws[i]? with
          | none => rw [h1] at ew; cases ew
          | some a =>
            cases h2 : (ws.drop 1)[i]? with
            | none => rw [h1, h2] at ew; cases ew
            | some b =>
              rw [h1, h2] at ew
              cases ew
              exact ⟨a, b, rfl, List.mem_of_getElem? h1, List.mem_of_mem_drop (List.mem_of_getElem? h2)⟩
        obtain ⟨a1, a2, rfl, _⟩ := lk_of (all a ha)
        obtain ⟨b1, b2, rfl, _⟩ := lk_of (all b hb)
        refine ⟨_, rfl, ?_⟩
        walk_at "m_is_links"
        refine r_ltT (ns := [a1, a2]) (ms := [b1, b2]) ?_
        walk_at "m_is_links"
        exact hk G' Ext.refl
      walk_at "m_is_links"
      refine r_all (.inl eD) ?_
      rw [all_id]
      rw [hc, e2] at hq
      exact hq G2 (ex.trans ex2)
  | _ =>
    simp only [isTp]
    walk_at "m_is_links"
    exact hq G Ext.refl
set_option maxHeartbeats 0 in
theorem ok_is_links {P : Program} {w : World} {K : PySem.W.Frag} {mg : Str → Option Value} {base : Heap} (T : Txt K mg) : FnW P w K mg base 3 T.f_is_links T.fd_is_links ["thing", "count"] (sp_is_links T) :=
  fnW_of (t := t_is_links T) T.F_is_links sc_is_links (len_is_links T) (fun cdv A outer s H E hr => (zs_cons (z_if (z_bool (z_or (z_qnot (z_q (z_callB w_isi rfl T.n_isinstance boot_isinstance (z_acons (z_var (i := 0) rfl (by first | exact .inl rfl | exact .inr (.inl rfl) | exact .inr (.inr rfl))) (z_acons (z_bty rfl T.n_tuple boot_tuple) (z_anil)))))) (z_or1 (z_qnot (z_q (z_callB (w_all rfl) rfl T.n_all boot_all (z_acons (z_lc (is := [2]) (own := [("one", 2)]) rfl sc_is_links.nd (zi_seq (z_var (i := 0) rfl (by first | exact .inl rfl | exact .inr (.inl rfl) | exact .inr (.inr rfl)))) (blkOk_by rfl) (fun _ _ _ _ _ => pg_name sc_is_links.nd rfl (by first | exact .inl rfl | exact .inr rfl)) (fun _ _ _ _ _ => zq_nil) (fun _ _ _ _ _ => z_call (sel := [.p 0, .p 1]) (dws := []) (ok_is_link T) (hr.mono (by decide)) rfl T.m_is_link T.F_is_link.kp (bind0 T.F_is_link fun _ _ _ _ _ _ us uk h1 h2 => match us, h1, uk, h2 with | [_, _], _, [], _ => rfl) tkN (z_acons (z_var (i := 2) rfl (by first | exact .inl rfl | exact .inr (.inl rfl) | exact .inr (.inr rfl))) (z_acons (z_var (i := 1) rfl (by first | exact .inl rfl | exact .inr (.inl rfl) | exact .inr (.inr rfl))) (z_anil)))) (by decide)) (z_anil)))))))) (zs_one (z_ret (z_bl))) (zs_nil)) (zs_one (z_ret (z_callB (w_all rfl) rfl T.n_all boot_all (z_acons (z_lc (is := [2, 3]) (own := [("one", 2), ("other", 3)]) rfl sc_is_links.nd (zi_zip rfl T.n_zip (z_acons (z_var (i := 0) rfl (by first | exact .inl rfl | exact .inr (.inl rfl) | exact .inr (.inr rfl))) (z_acons (z_sl (z_var (i := 0) rfl (by first | exact .inl rfl | exact .inr (.inl rfl) | exact .inr (.inr rfl))) (z_osome (z_int)) (z_onone)) (z_anil)))) (blkOk_by rfl) (fun _ _ _ _ _ => pg_tup rfl (pgs_cons (pg_name sc_is_links.nd rfl (by first | exact .inl rfl | exact .inr rfl)) (pgs_cons (pg_name sc_is_links.nd rfl (by first | exact .inl rfl | exact .inr rfl)) (pgs_nil)))) (fun _ _ _ _ _ => zq_nil) (fun _ _ _ _ _ => z_cmp (w_ltA (hr).un) (z_var (i := 2) rfl (by first | exact .inl rfl | exact .inr (.inl rfl) | exact .inr (.inr rfl))) (z_var (i := 3) rfl (by first | exact .inl rfl | exact .inr (.inl rfl) | exact .inr (.inr rfl))) (by rfl)) (by decide)) (z_anil))))))) (pf_is_links T)
/-! ### _law_mixed -/
theorem sc__law_mixed : FnScope ["_law_cell", "_law_k", "_law_turned"] ["_law_cell", "_law_k"] (defScope s__law_mixed) := ⟨rfl, rfl, rfl, by decide +kernel, rfl, by decide +kernel, by decide +kernel⟩
def sp__law_mixed {K : PySem.W.Frag} {mg : Str → Option Value} (T : Txt K mg) : SpW := SpMixed
theorem len__law_mixed {K : PySem.W.Frag} {mg : Str → Option Value} (T : Txt K mg) (ws : List Wv) (G : HW) (q : WK) (x : XE) (h : sp__law_mixed T ws G q x) : ws.length = 2 := by
  obtain ⟨c, k, rfl, _⟩ := h
  rfl
def b__law_mixed_2 {K : PySem.W.Frag} {mg : Str → Option Value} (T : Txt K mg) : ST := sRet (eOp oDiv (eOp oMod (eOp wMul (eV 2) (eC (.int 69621))) (eC (.int 2147483629))) (eC (.int 7)))
theorem mb__law_mixed_2 {K : PySem.W.Frag} {mg : Str → Option Value} (T : Txt K mg) (D : EndsW) (σ : SW) (G : HW) : b__law_mixed_2 T D σ G = (sRet (eOp oDiv (eOp oMod (eOp wMul (eV 2) (eC (.int 69621))) (eC (.int 2147483629))) (eC (.int 7)))) D σ G := rfl
def t__law_mixed {K : PySem.W.Frag} {mg : Str → Option Value} (T : Txt K mg) : ST := sSeq (sSet 2 (eOp wAdd (eOp wAdd (eOp oMod (eOp wMul (eOp wMul (eV 0) (eOp wAdd (eC (.int 1)) (eOp wMul (eC (.int 2)) (eV 1)))) (eC (.int 48271))) (eC (.int 2147483647))) (eOp wMul (eOp wMul (eC (.int 7919)) (eV 1)) (eV 1))) (eOp wMul (eC (.int 104729)) (eV 1)))) (b__law_mixed_2 T)
local macro_rules | `(tactic| walk_at "m__law_mixed") => `(tactic| (walk_at "m0"; repeat (simp only [mb__law_mixed_2] <;> walk_at "m0")))
theorem pf__law_mixed {K : PySem.W.Frag} {mg : Str → Option Value} (T : Txt K mg) (ws : List Wv) (G : HW) (q : WK) (x : XE) (h : sp__law_mixed T ws G q x) : t__law_mixed T (endsW q x) (startW ["_law_cell", "_law_k", "_law_turned"] ws) G := by
  obtain ⟨c, k, rfl, k0, k1, hq⟩ := h
  show t__law_mixed T (endsW q x) [some (.int c), some (.int k), none] G
  unfold t__law_mixed
  walk_at "m__law_mixed"
  refine r_mul (.inr ⟨by omega, by omega⟩) ?_
  walk_at "m__law_mixed"
  refine r_mul (.inr ⟨by omega, by omega⟩) ?_
  walk_at "m__law_mixed"
  refine r_mul (.inr ⟨by omega, by omega⟩) ?_
  walk_at "m__law_mixed"
  refine r_int (by omega) ?_
  walk_at "m__law_mixed"
  refine r_mul (.inr ⟨by omega, by omega⟩) ?_
  walk_at "m__law_mixed"
  refine r_mul (.inr ⟨by omega, by omega⟩) ?_
  walk_at "m__law_mixed"
  refine r_mul (.inr ⟨by omega, by omega⟩) ?_
  walk_at "m__law_mixed"
  refine r_mul (.inr ⟨by omega, by omega⟩) ?_
  walk_at "m__law_mixed"
  refine r_int (by omega) ?_
  walk_at "m__law_mixed"
  refine r_int ⟨by omega, by omega⟩ ?_
  refine hq _ ?_ rfl
  exact Int.ediv_nonneg (Int.emod_nonneg _ (by omega)) (by omega)
set_option maxHeartbeats 0 in
theorem ok__law_mixed {P : Program} {w : World} {K : PySem.W.Frag} {mg : Str → Option Value} {base : Heap} (T : Txt K mg) : FnW P w K mg base 1 T.f__law_mixed T.fd__law_mixed ["_law_cell", "_law_k"] (sp__law_mixed T) :=
  fnW_of (t := t__law_mixed T) T.F__law_mixed sc__law_mixed (len__law_mixed T) (fun cdv A outer s H E hr => (zs_cons (z_set (i := 2) sc__law_mixed.nd rfl (by first | exact .inl rfl | exact .inr rfl) (z_bin w_add (z_bin w_add (z_bin w_mod (z_bin w_mul (z_bin w_mul (z_var (i := 0) rfl (by first | exact .inl rfl | exact .inr (.inl rfl) | exact .inr (.inr rfl))) (z_bin w_add (z_int) (z_bin w_mul (z_int) (z_var (i := 1) rfl (by first | exact .inl rfl | exact .inr (.inl rfl) | exact .inr (.inr rfl)))))) (z_int)) (z_int)) (z_bin w_mul (z_bin w_mul (z_int) (z_var (i := 1) rfl (by first | exact .inl rfl | exact .inr (.inl rfl) | exact .inr (.inr rfl)))) (z_var (i := 1) rfl (by first | exact .inl rfl | exact .inr (.inl rfl) | exact .inr (.inr rfl))))) (z_bin w_mul (z_int) (z_var (i := 1) rfl (by first | exact .inl rfl | exact .inr (.inl rfl) | exact .inr (.inr rfl)))))) (zs_one (z_ret (z_bin w_fdiv (z_bin w_mod (z_bin w_mul (z_var (i := 2) rfl (by first | exact .inl rfl | exact .inr (.inl rfl) | exact .inr (.inr rfl))) (z_int)) (z_int)) (z_int)))))) (pf__law_mixed T)
/-! ### _law_draw -/
theorem sc__law_draw : FnScope ["_law_m", "_law_top", "_law_k", "_law_spot", "_law_cell"] ["_law_m", "_law_top"] (defScope s__law_draw) := ⟨rfl, rfl, rfl, by decide +kernel, rfl, by decide +kernel, by decide +kernel⟩
def sp__law_draw {K : PySem.W.Frag} {mg : Str → Option Value} (T : Txt K mg) : SpW := SpDraw
theorem len__law_draw {K : PySem.W.Frag} {mg : Str → Option Value} (T : Txt K mg) (ws : List Wv) (G : HW) (q : WK) (x : XE) (h : sp__law_draw T ws G q x) : ws.length = 2 := by
  obtain ⟨m, a, b, top, n, rfl, _⟩ := h
  rfl
def b__law_draw_9 {K : PySem.W.Frag} {mg : Str → Option Value} (T : Txt K mg) : ST := sRet (eOp oMod (eCall 2 0 [.p 0, .p 1] [] (sp__law_mixed T) (aCons (eCall 2 0 [.p 0, .p 1] [] (sp__law_mixed T) (aCons (eOp wAdd (eOp wIx (eOp wIx (eV 0) (eC (.str "cells"))) (eOp oMod (eV 2) (eC (.int 64)))) (eOp wMul (eC (.int 31)) (eOp oDiv (eV 2) (eC (.int 64))))) (aCons (eV 2) (aNil))) aNil) (aCons (eOp wAdd (eV 2) (eC (.int 7))) (aNil))) aNil) (eV 1))
theorem mb__law_draw_9 {K : PySem.W.Frag} {mg : Str → Option Value} (T : Txt K mg) (D : EndsW) (σ : SW) (G : HW) : b__law_draw_9 T D σ G = (sRet (eOp oMod (eCall 2 0 [.p 0, .p 1] [] (sp__law_mixed T) (aCons (eCall 2 0 [.p 0, .p 1] [] (sp__law_mixed T) (aCons (eOp wAdd (eOp wIx (eOp wIx (eV 0) (eC (.str "cells"))) (eOp oMod (eV 2) (eC (.int 64)))) (eOp wMul (eC (.int 31)) (eOp oDiv (eV 2) (eC (.int 64))))) (aCons (eV 2) (aNil))) aNil) (aCons (eOp wAdd (eV 2) (eC (.int 7))) (aNil))) aNil) (eV 1))) D σ G := rfl
def b__law_draw_8 {K : PySem.W.Frag} {mg : Str → Option Value} (T : Txt K mg) : ST := sRet (eOp oMod (eV 4) (eV 1))
theorem mb__law_draw_8 {K : PySem.W.Frag} {mg : Str → Option Value} (T : Txt K mg) (D : EndsW) (σ : SW) (G : HW) : b__law_draw_8 T D σ G = (sRet (eOp oMod (eV 4) (eV 1))) D σ G := rfl
def b__law_draw_7 {K : PySem.W.Frag} {mg : Str → Option Value} (T : Txt K mg) : ST := sSeq (sAsg (eOp oDiv (eV 4) (eV 1)) (gSb (eOp wIx (eV 0) (eC (.str "left"))) (eV 3))) (b__law_draw_8 T)
theorem mb__law_draw_7 {K : PySem.W.Frag} {mg : Str → Option Value} (T : Txt K mg) (D : EndsW) (σ : SW) (G : HW) : b__law_draw_7 T D σ G = (sSeq (sAsg (eOp oDiv (eV 4) (eV 1)) (gSb (eOp wIx (eV 0) (eC (.str "left"))) (eV 3))) (b__law_draw_8 T)) D σ G := rfl
def b__law_draw_6 {K : PySem.W.Frag} {mg : Str → Option Value} (T : Txt K mg) : ST := sIf (qOp oGt (eV 4) (eC (.int 0))) (b__law_draw_7 T) (sNext)
theorem mb__law_draw_6 {K : PySem.W.Frag} {mg : Str → Option Value} (T : Txt K mg) (D : EndsW) (σ : SW) (G : HW) : b__law_draw_6 T D σ G = (sIf (qOp oGt (eV 4) (eC (.int 0))) (b__law_draw_7 T) (sNext)) D σ G := rfl
def b__law_draw_5 {K : PySem.W.Frag} {mg : Str → Option Value} (T : Txt K mg) : ST := sSeq (sSet 4 (eOp wIx (eOp wIx (eV 0) (eC (.str "left"))) (eV 3))) (b__law_draw_6 T)
theorem mb__law_draw_5 {K : PySem.W.Frag} {mg : Str → Option Value} (T : Txt K mg) (D : EndsW) (σ : SW) (G : HW) : b__law_draw_5 T D σ G = (sSeq (sSet 4 (eOp wIx (eOp wIx (eV 0) (eC (.str "left"))) (eV 3))) (b__law_draw_6 T)) D σ G := rfl
def b__law_draw_4 {K : PySem.W.Frag} {mg : Str → Option Value} (T : Txt K mg) : ST := sSeq (sSet 3 (eOp oMod (eV 2) (eCB wLen (aCons (eOp wIx (eV 0) (eC (.str "left"))) (aNil))))) (b__law_draw_5 T)
theorem mb__law_draw_4 {K : PySem.W.Frag} {mg : Str → Option Value} (T : Txt K mg) (D : EndsW) (σ : SW) (G : HW) : b__law_draw_4 T D σ G = (sSeq (sSet 3 (eOp oMod (eV 2) (eCB wLen (aCons (eOp wIx (eV 0) (eC (.str "left"))) (aNil))))) (b__law_draw_5 T)) D σ G := rfl
def b__law_draw_3 {K : PySem.W.Frag} {mg : Str → Option Value} (T : Txt K mg) : ST := sSeq (sIf (qOp wNe (eOp wIx (eV 0) (eC (.str "left"))) (eLst (aNil))) (b__law_draw_4 T) (sNext)) (b__law_draw_9 T)
theorem mb__law_draw_3 {K : PySem.W.Frag} {mg : Str → Option Value} (T : Txt K mg) (D : EndsW) (σ : SW) (G : HW) : b__law_draw_3 T D σ G = (sSeq (sIf (qOp wNe (eOp wIx (eV 0) (eC (.str "left"))) (eLst (aNil))) (b__law_draw_4 T) (sNext)) (b__law_draw_9 T)) D σ G := rfl
def b__law_draw_2 {K : PySem.W.Frag} {mg : Str → Option Value} (T : Txt K mg) : ST := sSeq (sAsg (eOp wAdd (eV 2) (eC (.int 1))) (gSb (eV 0) (eC (.str "spot")))) (b__law_draw_3 T)
theorem mb__law_draw_2 {K : PySem.W.Frag} {mg : Str → Option Value} (T : Txt K mg) (D : EndsW) (σ : SW) (G : HW) : b__law_draw_2 T D σ G = (sSeq (sAsg (eOp wAdd (eV 2) (eC (.int 1))) (gSb (eV 0) (eC (.str "spot")))) (b__law_draw_3 T)) D σ G := rfl
def t__law_draw {K : PySem.W.Frag} {mg : Str → Option Value} (T : Txt K mg) : ST := sSeq (sSet 2 (eOp wIx (eV 0) (eC (.str "spot")))) (b__law_draw_2 T)
local macro_rules | `(tactic| walk_at "m__law_draw") => `(tactic| (walk_at "m0"; repeat (simp only [mb__law_draw_8, mb__law_draw_7, mb__law_draw_6, mb__law_draw_5, mb__law_draw_4, mb__law_draw_3, mb__law_draw_2] <;> walk_at "m0")))
theorem pf__law_draw {K : PySem.W.Frag} {mg : Str → Option Value} (T : Txt K mg) (ws : List Wv) (G : HW) (q : WK) (x : XE) (h : sp__law_draw T ws G q x) : t__law_draw T (endsW q x) (startW ["_law_m", "_law_top", "_law_k", "_law_spot", "_law_cell"] ws) G := by
  obtain ⟨m, a, b, top, n, rfl, t0, t1, ⟨k, cells, left, hm, ha, hc, hb, hl, k0, k1, ab⟩, hq⟩ := h
  have nma : m ≠ a := fun z => by subst z; rw [hm] at ha; cases ha
  have nmb : m ≠ b := fun z => by subst z; rw [hm] at hb; cases hb
  have fin : ∀ (o3 o4 : Option Wv) (G1 : HW) (left' : List Int), G1 m = some (.dct [(.inr "cells", .ref a), (.inr "left", .ref b), (.inr "spot", .int (k + 1))]) → G1 a = some (.lst (cells.map .int)) → G1 b = some (.lst (left'.map .int)) → left'.length ≤ 63 → Kp [m, b] G G1 →
      b__law_draw_9 T (endsW q x) [some (.ref m), some (.int top), some (.int k), o3, o4] G1 := fun o3 o4 G1 left' hm ha hb hl kp => by
    rw [mb__law_draw_9]
    walk_at "m__law_draw"
    refine r_ixD hm rfl rfl ?_
    walk_at "m__law_draw"
    refine r_int (by omega) ?_
    walk_at "m__law_draw"
    have h64 : (k % 64).toNat < cells.length := by omega
    refine r_ixL (.inl ha) (atI_int (by omega) (at_map h64)) ?_
    walk_at "m__law_draw"
    refine r_int ⟨by omega, by omega⟩ ?_
    walk_at "m__law_draw"
    refine r_mul (.inl ⟨by omega, by omega⟩) ?_
    walk_at "m__law_draw"
    refine ⟨_, k, rfl, k0, by omega, fun r h0 _ => ?_⟩
    walk_at "m__law_draw"
    refine ⟨r, k + 7, rfl, by omega, by omega, fun r h0 _ => ?_⟩
    walk_at "m__law_draw"
    refine r_int t0 ?_
    exact hq _ G1 (Int.emod_nonneg _ (by omega)) (Int.emod_lt_of_pos _ t0) kp ⟨k + 1, cells, left', hm, ha, hc, hb, hl, by omega, by omega, ab⟩
  show t__law_draw T (endsW q x) [some (.ref m), some (.int top), none, none, none] G
  unfold t__law_draw
  walk_at "m__law_draw"
  refine r_ixD hm rfl rfl ?_
  walk_at "m__law_draw"
  refine r_setD hm rfl few rfl ?_
  walk_at "m__law_draw"
  generalize hG1 : updO G m (.dct _) = G1
  have hm1 : G1 m = some (.dct [(.inr "cells", .ref a), (.inr "left", .ref b), (.inr "spot", .int (k + 1))]) := by rw [← hG1]; exact updO_same
  have ha1 : G1 a = some (.lst (cells.map .int)) := by rw [← hG1, updO_ne nma.symm]; exact ha
  have hb1 : G1 b = some (.lst (left.map .int)) := by rw [← hG1, updO_ne nmb.symm]; exact hb
  have kp1 : Kp [m, b] G G1 := by rw [← hG1]; exact Kp.refl.put (by simp)
  refine r_ixD hm1 rfl rfl ?_
  walk_at "m__law_draw"
  refine r_lst' fun l hl0 => ?_
  walk_at "m__law_draw"
  generalize hG2 : updO G1 l (.lst []) = G2
  have ex2 : Ext G1 G2 := by rw [← hG2]; exact Ext.new hl0
  have hm2 := ex2 _ _ hm1
  have ha2 := ex2 _ _ ha1
  have hb2 := ex2 _ _ hb1
  have kp2 := kp1.trans ex2.kp
  refine r_ne (k := decide (left = [])) (.lst (.inl hb2) (dts_ints left)) (.lst (.inl (by rw [← hG2]; exact updO_same)) .nil) (shaped_intsL _) (shaped_intsL []) (by rw [PyData.eqv]; exact eqvAll_ints left []) ?_
  cases e1 : decide (left = []) with
  | true =>
    walk_at "m__law_draw"
    exact fin _ _ G2 left hm2 ha2 hb2 hl kp2
  | false =>
    have ne : 0 < left.length := by
      have := of_decide_eq_false e1
      exact List.length_pos_iff.mpr this
    walk_at "m__law_draw"
    refine r_ixD hm2 rfl rfl ?_
    walk_at "m__law_draw"
    refine r_len (.inl hb2) ?_
    rw [List.length_map]
    walk_at "m__law_draw"
    refine r_int (by omega) ?_
    walk_at "m__law_draw"
    refine r_ixD hm2 rfl rfl ?_
    walk_at "m__law_draw"
    have p0 : 0 ≤ k % (left.length : Int) := Int.emod_nonneg _ (by omega)
    have p1 : k % (left.length : Int) < left.length := Int.emod_lt_of_pos _ (by omega)
    have h64 : (k % (left.length : Int)).toNat < left.length := by omega
    refine r_ixL (.inl hb2) (atI_int p0 (at_map h64)) ?_
    walk_at "m__law_draw"
    cases e2 : decide (0 < left[(k % (left.length : Int)).toNat]) with
    | false =>
      walk_at "m__law_draw"
      exact fin _ _ G2 left hm2 ha2 hb2 hl kp2
    | true =>
      walk_at "m__law_draw"
      refine r_int ⟨t0, by omega⟩ ?_
      walk_at "m__law_draw"
      refine r_ixD hm2 rfl rfl ?_
      walk_at "m__law_draw"
      refine r_setL hb2 (by rw [List.length_map]; exact ixN_int p0 p1) ?_
      walk_at "m__law_draw"
      rw [setI]
      refine r_int t0 ?_
      refine hq _ _ (Int.emod_nonneg _ (by omega)) (Int.emod_lt_of_pos _ t0) (kp2.put (by simp)) ⟨k + 1, cells, _, by rw [updO_ne nmb]; exact hm2, by rw [updO_ne ab]; exact ha2, hc, updO_same, by rw [List.length_set]; exact hl, by omega, by omega, ab⟩
set_option maxHeartbeats 0 in
theorem ok__law_draw {P : Program} {w : World} {K : PySem.W.Frag} {mg : Str → Option Value} {base : Heap} (T : Txt K mg) : FnW P w K mg base 2 T.f__law_draw T.fd__law_draw ["_law_m", "_law_top"] (sp__law_draw T) :=
  fnW_of (t := t__law_draw T) T.F__law_draw sc__law_draw (len__law_draw T) (fun cdv A outer s H E hr => (zs_cons (z_set (i := 2) sc__law_draw.nd rfl (by first | exact .inl rfl | exact .inr rfl) (z_ix (hr).un (z_var (i := 0) rfl (by first | exact .inl rfl | exact .inr (.inl rfl) | exact .inr (.inr rfl))) (z_str) (fun _ _ => rfl))) (zs_cons (z_asg (z_bin w_add (z_var (i := 2) rfl (by first | exact .inl rfl | exact .inr (.inl rfl) | exact .inr (.inr rfl))) (z_int)) (zg_sub (hr).un (z_var (i := 0) rfl (by first | exact .inl rfl | exact .inr (.inl rfl) | exact .inr (.inr rfl))) (z_str) (fun _ => rfl))) (zs_cons (z_if (z_qcmp (w_ne (hr).un) (z_ix (hr).un (z_var (i := 0) rfl (by first | exact .inl rfl | exact .inr (.inl rfl) | exact .inr (.inr rfl))) (z_str) (fun _ _ => rfl)) (z_lst (z_anil)) (by rfl)) (zs_cons (z_set (i := 3) sc__law_draw.nd rfl (by first | exact .inl rfl | exact .inr rfl) (z_bin w_mod (z_var (i := 2) rfl (by first | exact .inl rfl | exact .inr (.inl rfl) | exact .inr (.inr rfl))) (z_callB w_len rfl T.n_len boot_len (z_acons (z_ix (hr).un (z_var (i := 0) rfl (by first | exact .inl rfl | exact .inr (.inl rfl) | exact .inr (.inr rfl))) (z_str) (fun _ _ => rfl)) (z_anil))))) (zs_cons (z_set (i := 4) sc__law_draw.nd rfl (by first | exact .inl rfl | exact .inr rfl) (z_ix (hr).un (z_ix (hr).un (z_var (i := 0) rfl (by first | exact .inl rfl | exact .inr (.inl rfl) | exact .inr (.inr rfl))) (z_str) (fun _ _ => rfl)) (z_var (i := 3) rfl (by first | exact .inl rfl | exact .inr (.inl rfl) | exact .inr (.inr rfl))) (fun _ _ => rfl))) (zs_one (z_if (z_qcmp w_gt (z_var (i := 4) rfl (by first | exact .inl rfl | exact .inr (.inl rfl) | exact .inr (.inr rfl))) (z_int) (by rfl)) (zs_cons (z_asg (z_bin w_fdiv (z_var (i := 4) rfl (by first | exact .inl rfl | exact .inr (.inl rfl) | exact .inr (.inr rfl))) (z_var (i := 1) rfl (by first | exact .inl rfl | exact .inr (.inl rfl) | exact .inr (.inr rfl)))) (zg_sub (hr).un (z_ix (hr).un (z_var (i := 0) rfl (by first | exact .inl rfl | exact .inr (.inl rfl) | exact .inr (.inr rfl))) (z_str) (fun _ _ => rfl)) (z_var (i := 3) rfl (by first | exact .inl rfl | exact .inr (.inl rfl) | exact .inr (.inr rfl))) (fun _ => rfl))) (zs_one (z_ret (z_bin w_mod (z_var (i := 4) rfl (by first | exact .inl rfl | exact .inr (.inl rfl) | exact .inr (.inr rfl))) (z_var (i := 1) rfl (by first | exact .inl rfl | exact .inr (.inl rfl) | exact .inr (.inr rfl))))))) (zs_nil))))) (zs_nil)) (zs_one (z_ret (z_bin w_mod (z_call (sel := [.p 0, .p 1]) (dws := []) (ok__law_mixed T) (hr.mono (by decide)) rfl T.m__law_mixed T.F__law_mixed.kp (bind0 T.F__law_mixed fun _ _ _ _ _ _ us uk h1 h2 => match us, h1, uk, h2 with | [_, _], _, [], _ => rfl) (takes_of rfl rfl rfl rfl) (z_acons (z_call (sel := [.p 0, .p 1]) (dws := []) (ok__law_mixed T) (hr.mono (by decide)) rfl T.m__law_mixed T.F__law_mixed.kp (bind0 T.F__law_mixed fun _ _ _ _ _ _ us uk h1 h2 => match us, h1, uk, h2 with | [_, _], _, [], _ => rfl) (takes_of rfl rfl rfl rfl) (z_acons (z_bin w_add (z_ix (hr).un (z_ix (hr).un (z_var (i := 0) rfl (by first | exact .inl rfl | exact .inr (.inl rfl) | exact .inr (.inr rfl))) (z_str) (fun _ _ => rfl)) (z_bin w_mod (z_var (i := 2) rfl (by first | exact .inl rfl | exact .inr (.inl rfl) | exact .inr (.inr rfl))) (z_int)) (fun _ _ => rfl)) (z_bin w_mul (z_int) (z_bin w_fdiv (z_var (i := 2) rfl (by first | exact .inl rfl | exact .inr (.inl rfl) | exact .inr (.inr rfl))) (z_int)))) (z_acons (z_var (i := 2) rfl (by first | exact .inl rfl | exact .inr (.inl rfl) | exact .inr (.inr rfl))) (z_anil)))) (z_acons (z_bin w_add (z_var (i := 2) rfl (by first | exact .inl rfl | exact .inr (.inl rfl) | exact .inr (.inr rfl))) (z_int)) (z_anil)))) (z_var (i := 1) rfl (by first | exact .inl rfl | exact .inr (.inl rfl) | exact .inr (.inr rfl)))))))))) (pf__law_draw T)
/-! ### _law_piece -/
theorem sc__law_piece : FnScope ["_law_m", "_law_words_here", "_law_found", "_law_word"] ["_law_m", "_law_words_here"] (defScope s__law_piece) := ⟨rfl, rfl, rfl, by decide +kernel, rfl, by decide +kernel, by decide +kernel⟩
def sp__law_piece {K : PySem.W.Frag} {mg : Str → Option Value} (T : Txt K mg) : SpW := SpPieceK
theorem len__law_piece {K : PySem.W.Frag} {mg : Str → Option Value} (T : Txt K mg) (ws : List Wv) (G : HW) (q : WK) (x : XE) (h : sp__law_piece T ws G q x) : ws.length = 2 := by
  obtain ⟨m, a, b, f, us, n, rfl, _⟩ := h
  rfl
def b__law_piece_4 {K : PySem.W.Frag} {mg : Str → Option Value} (T : Txt K mg) : ST := sRet (eIf (qOr (qOp wEq (eV 1) (eLst (aNil))) (qOp wEq (eCall 2 0 [.p 0, .p 1] [] (sp__law_draw T) (aCons (eV 0) (aCons (eC (.int 2)) (aNil))) aNil) (eC (.int 0)))) (eV 2) (eBM "str" wRstrip (eV 2) (aCons (eC (.str " \n")) (aNil))))
theorem mb__law_piece_4 {K : PySem.W.Frag} {mg : Str → Option Value} (T : Txt K mg) (D : EndsW) (σ : SW) (G : HW) : b__law_piece_4 T D σ G = (sRet (eIf (qOr (qOp wEq (eV 1) (eLst (aNil))) (qOp wEq (eCall 2 0 [.p 0, .p 1] [] (sp__law_draw T) (aCons (eV 0) (aCons (eC (.int 2)) (aNil))) aNil) (eC (.int 0)))) (eV 2) (eBM "str" wRstrip (eV 2) (aCons (eC (.str " \n")) (aNil))))) D σ G := rfl
def b__law_piece_2 {K : PySem.W.Frag} {mg : Str → Option Value} (T : Txt K mg) : ST := sSeq (sFor (iSeq (eV 1)) (gNm 3) (sSet 2 (eOp wAdd (eOp wAdd (eV 2) (eV 3)) (eOp wIx (eLst (aCons (eC (.str " ")) (aCons (eC (.str "\n")) (aCons (eC (.str "  ")) (aCons (eC (.str " \n")) (aNil)))))) (eCall 2 0 [.p 0, .p 1] [] (sp__law_draw T) (aCons (eV 0) (aCons (eC (.int 4)) (aNil))) aNil))))) (b__law_piece_4 T)
theorem mb__law_piece_2 {K : PySem.W.Frag} {mg : Str → Option Value} (T : Txt K mg) (D : EndsW) (σ : SW) (G : HW) : b__law_piece_2 T D σ G = (sSeq (sFor (iSeq (eV 1)) (gNm 3) (sSet 2 (eOp wAdd (eOp wAdd (eV 2) (eV 3)) (eOp wIx (eLst (aCons (eC (.str " ")) (aCons (eC (.str "\n")) (aCons (eC (.str "  ")) (aCons (eC (.str " \n")) (aNil)))))) (eCall 2 0 [.p 0, .p 1] [] (sp__law_draw T) (aCons (eV 0) (aCons (eC (.int 4)) (aNil))) aNil))))) (b__law_piece_4 T)) D σ G := rfl
def t__law_piece {K : PySem.W.Frag} {mg : Str → Option Value} (T : Txt K mg) : ST := sSeq (sSet 2 (eOp wIx (eLst (aCons (eC (.str "")) (aCons (eC (.str " ")) (aCons (eC (.str "\n")) (aCons (eC (.str " \n ")) (aNil)))))) (eCall 2 0 [.p 0, .p 1] [] (sp__law_draw T) (aCons (eV 0) (aCons (eC (.int 4)) (aNil))) aNil))) (b__law_piece_2 T)
local macro_rules | `(tactic| walk_at "m__law_piece") => `(tactic| (walk_at "m0"; repeat (simp only [mb__law_piece_2] <;> walk_at "m0")))
theorem pf__law_piece {K : PySem.W.Frag} {mg : Str → Option Value} (T : Txt K mg) (ws : List Wv) (G : HW) (q : WK) (x : XE) (h : sp__law_piece T ws G q x) : t__law_piece T (endsW q x) (startW ["_law_m", "_law_words_here", "_law_found", "_law_word"] ws) G := by
  obtain ⟨m, a, b, f, us, n, rfl, st, gf, nfm, nfb, ul, up, hq⟩ := h
  show t__law_piece T (endsW q x) [some (.ref m), some (.ref f), none, none] G
  unfold t__law_piece
  walk_at "m__law_piece"
  refine r_lst' fun l1 hl1 => ?_
  walk_at "m__law_piece"
  rw [blkA_is]
  have exl : Ext G (updO G l1 (.lst (blkA.map tS))) := Ext.new hl1
  refine ⟨m, a, b, 4, n + 6, rfl, by omega, by omega, st.ext exl, fun r1 G1 r10 r11 kp1 st1 => ?_⟩
  walk_at "m__law_piece"
  have nl : l1 ≠ m ∧ l1 ≠ b := by
    obtain ⟨_, _, _, g1, g2, _, g4, _⟩ := st
    exact ⟨(ne_of_new g1 hl1).symm, (ne_of_new g4 hl1).symm⟩
  obtain ⟨t0, ht0⟩ : ∃ w, blkA[r1.toNat]? = some w := ⟨_, List.getElem?_eq_getElem (show r1.toNat < blkA.length from by show r1.toNat < 4; omega)⟩
  have b0 := blkA_ok t0 (List.mem_of_getElem? ht0)
  refine r_ixL (.inl (kp1 l1 _ (by simp [nl.1, nl.2]) updO_same)) (y := tS t0) (atI_int r10 (by rw [List.getElem?_map, ht0]; rfl)) ?_
  walk_at "m__law_piece"
  have kpG : Kp [m, b] G G1 := exl.kp.trans kp1
  have gf1 : G1 f = some (.lst (us.map tS)) := kpG f _ (by simp [nfm, nfb]) gf
  refine r_itL (.inl gf1) ?_
  refine r_for (fun j σ G4 => ∃ (o3 : Option Wv) (t : Tx), σ = [some (.ref m), some (.ref f), some (tS t), o3] ∧ (∀ r, wds (t ++ r) = us.take j ++ wds r) ∧ t.length ≤ 3 + 5 * j ∧ (∀ c ∈ t, c < 128) ∧ Kp [m, b] G G4 ∧ DSt G4 m a b (n + (5 - j) + 1))
    ⟨_, t0, rfl, fun r => wds_blank t0 r fun c hc => (b0.2 c hc).1, by omega, fun c hc => (b0.2 c hc).2, kpG, st1.mono (by omega)⟩ (fun _ _ _ _ ⟨_, _, _, _, _, _, k, _⟩ => .inl (k f _ (by simp [nfm, nfb]) gf)) ?_ ?_
  · rintro j w σ4 G4 ew ⟨o3, t, rfl, tw, tl, tc, kp4, st4⟩
    obtain ⟨v, hv, rfl⟩ := map_at ew
    have hj : j < us.length := (List.getElem?_eq_some_iff.mp hv).1
    have evk : us.take (j + 1) = us.take j ++ [v] := by rw [List.take_add_one, hv]; rfl
    obtain ⟨v1, v2, v3⟩ := pool_ok v (up v (List.mem_of_getElem? hv))
    walk_at "m__law_piece"
    refine r_addS (by rw [SX.S_len, SX.S_len, sizeLine_eq]; omega) ?_
    rw [SX.S_cat]
    walk_at "m__law_piece"
    refine r_lst' fun l2 hl2 => ?_
    walk_at "m__law_piece"
    rw [blkB_is]
    have exl2 : Ext G4 (updO G4 l2 (.lst (blkB.map tS))) := Ext.new hl2
    refine ⟨m, a, b, 4, n + (5 - (j + 1)) + 1, rfl, by omega, by omega, (st4.ext exl2).mono (by omega), fun r2 G5 r20 r21 kp5 st5 => ?_⟩
    walk_at "m__law_piece"
    have nl2 : l2 ≠ m ∧ l2 ≠ b := by
      obtain ⟨_, _, _, g1, g2, _, g4, _⟩ := st4
      exact ⟨(ne_of_new g1 hl2).symm, (ne_of_new g4 hl2).symm⟩
    obtain ⟨t2, ht2⟩ : ∃ w, blkB[r2.toNat]? = some w := ⟨_, List.getElem?_eq_getElem (show r2.toNat < blkB.length from by show r2.toNat < 4; omega)⟩
    have b2 := blkB_ok t2 (List.mem_of_getElem? ht2)
    refine r_ixL (.inl (kp5 l2 _ (by simp [nl2.1, nl2.2]) updO_same)) (y := tS t2) (atI_int r20 (by rw [List.getElem?_map, ht2]; rfl)) ?_
    walk_at "m__law_piece"
    refine r_addS (by rw [SX.S_len, SX.S_len, sizeLine_eq, List.length_append]; omega) ?_
    rw [SX.S_cat]
    walk_at "m__law_piece"
    refine ⟨_, (t ++ v) ++ t2, rfl, fun r => ?_, by rw [List.length_append, List.length_append]; omega, fun c hc => ?_, (kp4.trans exl2.kp).trans kp5, st5⟩
    · rw [List.append_assoc, List.append_assoc, tw, wds_word v1 (fun c hc => (v3 c hc).1) b2.1 (fun c hc => (b2.2.2 c hc).1), evk, List.append_assoc]
      rfl
    · rcases List.mem_append.mp hc with hc | hc
      · rcases List.mem_append.mp hc with hc | hc
        · exact tc c hc
        · exact (v3 c hc).2
      · exact (b2.2.2 c hc).2
  · rintro σ4 G4 ⟨o3, t, rfl, tw, tl, tc, kp4, st4⟩
    rw [List.length_map] at tw tl st4
    rw [List.take_length] at tw
    have tw0 : wds t = us := by
      have e := tw []
      rw [List.append_nil, show wds [] = [] from rfl, List.append_nil] at e
      exact e
    have gf4 : G4 f = some (.lst (us.map tS)) := kp4 f _ (by simp [nfm, nfb]) gf
    have hup : ∀ w ∈ us, okC w := fun w hw c hc => by have := ((pool_ok w (up w hw)).2.2 c hc).2; omega
    rw [m_Seq_nx]
    rw [mb__law_piece_4]
    walk_at "m__law_piece"
    refine r_lst' fun D hD => ?_
    walk_at "m__law_piece"
    have exD := Ext.new (o := .lst []) hD
    refine r_eqTx hup (m := []) (fun t ht => nomatch ht) (.inl (exD _ _ gf4)) (.inl updO_same) ?_
    cases us with
    | nil =>
      walk_at "m__law_piece"
      exact hq t _ tw0 (by omega) tc (kp4.trans exD.kp) ((st4.ext exD).mono (by omega))
    | cons v rest =>
      rw [decide_eq_false (show ¬ v :: rest = [] from fun h => nomatch h)]
      walk_at "m__law_piece"
      refine ⟨m, a, b, 2, n, rfl, by omega, by omega, (st4.ext exD).mono (by omega), fun r3 G6 r30 r31 kp6 st6 => ?_⟩
      walk_at "m__law_piece"
      by_cases hr : r3 = 0
      · rw [decide_eq_true hr]
        walk_at "m__law_piece"
        exact hq t _ tw0 (by omega) tc ((kp4.trans exD.kp).trans kp6) st6
      · rw [decide_eq_false hr]
        walk_at "m__law_piece"
        refine r_M rfl ?_
        walk_at "m__law_piece"
        rw [show (" \n" : Str) = SX.S [32, 10] from by decide +kernel]
        obtain ⟨t2, b2, et, hb, er⟩ := rstrip_S t
        refine r_rstrip (a := SX.S t) (b := SX.S [32, 10]) (by rw [SX.S_len, sizeLine_eq]; omega) ?_
        rw [er]
        walk_at "m__law_piece"
        have l2 := congrArg List.length et
        rw [List.length_append] at l2
        refine hq t2 _ ?_ (by omega) (fun c hc => tc c (by rw [et]; exact List.mem_append_left _ hc)) ((kp4.trans exD.kp).trans kp6) st6
        have e := wdsG_end t2 [] b2 hb
        rw [← et] at e
        exact e.symm.trans tw0
set_option maxHeartbeats 0 in
theorem ok__law_piece {P : Program} {w : World} {K : PySem.W.Frag} {mg : Str → Option Value} {base : Heap} (T : Txt K mg) : FnW P w K mg base 3 T.f__law_piece T.fd__law_piece ["_law_m", "_law_words_here"] (sp__law_piece T) :=
  fnW_of (t := t__law_piece T) T.F__law_piece sc__law_piece (len__law_piece T) (fun cdv A outer s H E hr => (zs_cons (z_set (i := 2) sc__law_piece.nd rfl (by first | exact .inl rfl | exact .inr rfl) (z_ix (hr).un (z_lst (z_acons (z_str) (z_acons (z_str) (z_acons (z_str) (z_acons (z_str) (z_anil)))))) (z_call (sel := [.p 0, .p 1]) (dws := []) (ok__law_draw T) (hr.mono (by decide)) rfl T.m__law_draw T.F__law_draw.kp (bind0 T.F__law_draw fun _ _ _ _ _ _ us uk h1 h2 => match us, h1, uk, h2 with | [_, _], _, [], _ => rfl) (takes_of rfl rfl rfl rfl) (z_acons (z_var (i := 0) rfl (by first | exact .inl rfl | exact .inr (.inl rfl) | exact .inr (.inr rfl))) (z_acons (z_int) (z_anil)))) (fun _ _ => rfl))) (zs_cons (z_for (passes_of rfl) rfl (zi_seq (z_var (i := 1) rfl (by first | exact .inl rfl | exact .inr (.inl rfl) | exact .inr (.inr rfl)))) (zg_name (i := 3) sc__law_piece.nd rfl (by first | exact .inl rfl | exact .inr rfl)) (zs_one (z_set (i := 2) sc__law_piece.nd rfl (by first | exact .inl rfl | exact .inr rfl) (z_bin w_add (z_bin w_add (z_var (i := 2) rfl (by first | exact .inl rfl | exact .inr (.inl rfl) | exact .inr (.inr rfl))) (z_var (i := 3) rfl (by first | exact .inl rfl | exact .inr (.inl rfl) | exact .inr (.inr rfl)))) (z_ix (hr).un (z_lst (z_acons (z_str) (z_acons (z_str) (z_acons (z_str) (z_acons (z_str) (z_anil)))))) (z_call (sel := [.p 0, .p 1]) (dws := []) (ok__law_draw T) (hr.mono (by decide)) rfl T.m__law_draw T.F__law_draw.kp (bind0 T.F__law_draw fun _ _ _ _ _ _ us uk h1 h2 => match us, h1, uk, h2 with | [_, _], _, [], _ => rfl) (takes_of rfl rfl rfl rfl) (z_acons (z_var (i := 0) rfl (by first | exact .inl rfl | exact .inr (.inl rfl) | exact .inr (.inr rfl))) (z_acons (z_int) (z_anil)))) (fun _ _ => rfl)))))) (zs_one (z_ret (z_ifx (z_bool (z_or (z_qcmp (w_eq (hr).un) (z_var (i := 1) rfl (by first | exact .inl rfl | exact .inr (.inl rfl) | exact .inr (.inr rfl))) (z_lst (z_anil)) (by rfl)) (z_or1 (z_qcmp (w_eq (hr).un) (z_call (sel := [.p 0, .p 1]) (dws := []) (ok__law_draw T) (hr.mono (by decide)) rfl T.m__law_draw T.F__law_draw.kp (bind0 T.F__law_draw fun _ _ _ _ _ _ us uk h1 h2 => match us, h1, uk, h2 with | [_, _], _, [], _ => rfl) (takes_of rfl rfl rfl rfl) (z_acons (z_var (i := 0) rfl (by first | exact .inl rfl | exact .inr (.inl rfl) | exact .inr (.inr rfl))) (z_acons (z_int) (z_anil)))) (z_int) (by rfl))))) (z_var (i := 2) rfl (by first | exact .inl rfl | exact .inr (.inl rfl) | exact .inr (.inr rfl))) (z_bm PySem.F.plainAttrs_str PySem.F.slot_str_rstrip PySem.F.type_str_rstrip w_rstrip (z_var (i := 2) rfl (by first | exact .inl rfl | exact .inr (.inl rfl) | exact .inr (.inr rfl))) (z_acons (z_str) (z_anil))))))))) (pf__law_piece T)
/-! ### _law_words -/
theorem sc__law_words : FnScope ["_law_m", "_law_pool", "_law_k"] ["_law_m"] (defScope s__law_words) := ⟨rfl, rfl, rfl, by decide +kernel, rfl, by decide +kernel, by decide +kernel⟩
def sp__law_words {K : PySem.W.Frag} {mg : Str → Option Value} (T : Txt K mg) : SpW := SpWordsK
theorem len__law_words {K : PySem.W.Frag} {mg : Str → Option Value} (T : Txt K mg) (ws : List Wv) (G : HW) (q : WK) (x : XE) (h : sp__law_words T ws G q x) : ws.length = 1 := by
  obtain ⟨m, a, b, n, rfl, _⟩ := h
  rfl
def b__law_words_2 {K : PySem.W.Frag} {mg : Str → Option Value} (T : Txt K mg) : ST := sRet (eLc (iRg1 (aCons (eCall 2 0 [.p 0, .p 1] [] (sp__law_draw T) (aCons (eV 0) (aCons (eC (.int 6)) (aNil))) aNil) (aNil))) [2] [2] (qYes) (eOp wIx (eV 1) (eCall 2 0 [.p 0, .p 1] [] (sp__law_draw T) (aCons (eV 0) (aCons (eOp wIx (eLst (aCons (eC (.int 4)) (aCons (eC (.int 10)) (aNil)))) (eCall 2 0 [.p 0, .p 1] [] (sp__law_draw T) (aCons (eV 0) (aCons (eC (.int 2)) (aNil))) aNil)) (aNil))) aNil)))
theorem mb__law_words_2 {K : PySem.W.Frag} {mg : Str → Option Value} (T : Txt K mg) (D : EndsW) (σ : SW) (G : HW) : b__law_words_2 T D σ G = (sRet (eLc (iRg1 (aCons (eCall 2 0 [.p 0, .p 1] [] (sp__law_draw T) (aCons (eV 0) (aCons (eC (.int 6)) (aNil))) aNil) (aNil))) [2] [2] (qYes) (eOp wIx (eV 1) (eCall 2 0 [.p 0, .p 1] [] (sp__law_draw T) (aCons (eV 0) (aCons (eOp wIx (eLst (aCons (eC (.int 4)) (aCons (eC (.int 10)) (aNil)))) (eCall 2 0 [.p 0, .p 1] [] (sp__law_draw T) (aCons (eV 0) (aCons (eC (.int 2)) (aNil))) aNil)) (aNil))) aNil)))) D σ G := rfl
def t__law_words {K : PySem.W.Frag} {mg : Str → Option Value} (T : Txt K mg) : ST := sSeq (sSet 1 (eLst (aCons (eC (.str "a")) (aCons (eC (.str "b")) (aCons (eC (.str "ab")) (aCons (eC (.str "f")) (aCons (eC (.str "x1")) (aCons (eC (.str "let")) (aCons (eC (.str "=")) (aCons (eC (.str "+")) (aCons (eC (.str "c")) (aCons (eC (.str "aa")) (aNil))))))))))))) (b__law_words_2 T)
local macro_rules | `(tactic| walk_at "m__law_words") => `(tactic| (walk_at "m0"; repeat (simp only [mb__law_words_2] <;> walk_at "m0")))
theorem pf__law_words {K : PySem.W.Frag} {mg : Str → Option Value} (T : Txt K mg) (ws : List Wv) (G : HW) (q : WK) (x : XE) (h : sp__law_words T ws G q x) : t__law_words T (endsW q x) (startW ["_law_m", "_law_pool", "_law_k"] ws) G := by
  obtain ⟨m, a, b, n, rfl, st, hq⟩ := h
  show t__law_words T (endsW q x) [some (.ref m), none, none] G
  unfold t__law_words
  walk_at "m__law_words"
  refine r_lst' fun P hP => ?_
  walk_at "m__law_words"
  have exP := Ext.new (o := .lst [.str "a", .str "b", .str "ab", .str "f", .str "x1", .str "let", .str "=", .str "+", .str "c", .str "aa"]) hP
  rw [pool_is] at exP ⊢
  obtain ⟨nm, na, nb⟩ : P ≠ m ∧ P ≠ a ∧ P ≠ b := by
    obtain ⟨_, _, _, h1, h2, _, h4, _⟩ := st
    exact ⟨(ne_of_new h1 hP).symm, (ne_of_new h2 hP).symm, (ne_of_new h4 hP).symm⟩
  refine ⟨m, a, b, 6, n + 10, rfl, by omega, by omega, st.ext exP, fun r0 G1 r00 r01 kp1 st1 => ?_⟩
  walk_at "m__law_words"
  refine r_rg1 (by omega) (by omega) ?_
  have gP : G1 P = some (.lst (poolT.map tS)) := kp1 P _ (by simp [nm, nb]) updO_same
  have kpG : Kp [m, b] G G1 := exP.kp.trans kp1
  refine r_lcI (fun i acc G' => ∃ us : List Tx, acc = us.map tS ∧ us.length = i ∧ (∀ w ∈ us, w ∈ poolT) ∧ Kp [m, b] G1 G' ∧ DSt G' m a b (n + 2 * (r0.toNat - i))) (by rw [rgW_len, sizeLine_eq]; omega)
    (fun D hD => ⟨[], rfl, rfl, (fun w hw => nomatch hw), (Ext.new hD).kp, (st1.ext (Ext.new hD)).mono (by omega)⟩) (fun _ _ _ _ _ => trivial)
    (fun i acc G' D ys hD ⟨us, h1, h2, h3, h4, h5⟩ => ⟨us, h1, h2, h3, h4.new hD, ?_⟩) (fun i w acc G' k ew ⟨us, h1, h2, h3, h4, h5⟩ hk => ?_) fun D acc G' hD ⟨us, h1, h2, h3, h4, h5⟩ eD => ?_
  · obtain ⟨_, _, _, g1, g2, _, g4, _⟩ := st1
    exact h5.put (ne_of_new g1 hD).symm (ne_of_new g2 hD).symm (ne_of_new g4 hD).symm
  · obtain ⟨hi, rfl⟩ := rg_nat ew
    refine ⟨_, rfl, ?_⟩
    walk_at "m__law_words"
    refine r_lst' fun l1 hl1 => ?_
    walk_at "m__law_words"
    have exl : Ext G' (updO G' l1 (.lst [.int 4, .int 10])) := Ext.new hl1
    refine ⟨m, a, b, 2, n + 2 * (r0.toNat - (i + 1)) + 1, rfl, by omega, by omega, (h5.ext exl).mono (by omega), fun r2 G4 r20 r21 kp4 st4 => ?_⟩
    walk_at "m__law_words"
    have nl : l1 ≠ m ∧ l1 ≠ b := by
      obtain ⟨_, _, _, g1, g2, _, g4, _⟩ := h5
      exact ⟨(ne_of_new g1 hl1).symm, (ne_of_new g4 hl1).symm⟩
    obtain ⟨top, htop, ht⟩ : ∃ top : Int, atI [Wv.int 4, .int 10] r2 = some (.int top) ∧ 0 < top ∧ top ≤ 10 := by
      rcases (by omega : r2 = 0 ∨ r2 = 1) with rfl | rfl
      · exact ⟨4, rfl, by omega⟩
      · exact ⟨10, rfl, by omega⟩
    refine r_ixL (.inl (kp4 l1 _ (by simp [nl.1, nl.2]) updO_same)) htop ?_
    walk_at "m__law_words"
    refine ⟨m, a, b, top, n + 2 * (r0.toNat - (i + 1)), rfl, ht.1, by omega, st4.mono (by omega), fun r6 G6 r60 r61 kp6 st6 => ?_⟩
    walk_at "m__law_words"
    obtain ⟨w, hw⟩ : ∃ w, poolT[r6.toNat]? = some w := ⟨_, List.getElem?_eq_getElem (show r6.toNat < poolT.length from by show r6.toNat < 10; omega)⟩
    have kpT : Kp [m, b] G1 G6 := ((h4.trans exl.kp).trans kp4).trans kp6
    refine r_ixL (.inl (kpT P _ (by simp [nm, nb]) gP)) (y := tS w) (atI_int r60 (by rw [List.getElem?_map, hw]; rfl)) ?_
    walk_at "m__law_words"
    refine hk (some (tS w)) G6 ⟨us ++ [w], by rw [h1, List.map_append]; rfl, by rw [List.length_append, List.length_singleton, h2], fun x hx => ?_, kpT, st6⟩ fun D ys hD eD => ?_
    · rcases List.mem_append.mp hx with hx | hx
      · exact h3 x hx
      · cases List.mem_singleton.mp hx
        exact List.mem_of_getElem? hw
    · obtain ⟨_, _, _, g1, g2, _, g4, _⟩ := st1
      have nD : D ≠ m ∧ D ≠ b := ⟨(ne_of_new g1 hD).symm, (ne_of_new g4 hD).symm⟩
      exact kp6 D _ (by simp [nD.1, nD.2]) (kp4 D _ (by simp [nD.1, nD.2]) (exl _ _ eD))
  · walk_at "m__law_words"
    rw [rgW_len] at h2 h5
    have hD0 : G D = none := by
      cases e : G D with
      | none => rfl
      | some o =>
        exfalso
        obtain ⟨_, _, _, g1, g2, _, g4, _⟩ := st1
        have nD : D ≠ m ∧ D ≠ b := ⟨(ne_of_new g1 hD).symm, (ne_of_new g4 hD).symm⟩
        have z := kpG D o (by simp [nD.1, nD.2]) e
        rw [hD] at z
        cases z
    exact hq D us G' hD0 (kpG.trans h4) (h5.mono (by omega)) (by rw [eD, h1]) (by omega) h3
set_option maxHeartbeats 0 in
theorem ok__law_words {P : Program} {w : World} {K : PySem.W.Frag} {mg : Str → Option Value} {base : Heap} (T : Txt K mg) : FnW P w K mg base 3 T.f__law_words T.fd__law_words ["_law_m"] (sp__law_words T) :=
  fnW_of (t := t__law_words T) T.F__law_words sc__law_words (len__law_words T) (fun cdv A outer s H E hr => (zs_cons (z_set (i := 1) sc__law_words.nd rfl (by first | exact .inl rfl | exact .inr rfl) (z_lst (z_acons (z_str) (z_acons (z_str) (z_acons (z_str) (z_acons (z_str) (z_acons (z_str) (z_acons (z_str) (z_acons (z_str) (z_acons (z_str) (z_acons (z_str) (z_acons (z_str) (z_anil))))))))))))) (zs_one (z_ret (z_lc (is := [2]) (own := [("_law_k", 2)]) rfl sc__law_words.nd (zi_range1 rfl T.n_range (z_acons (z_call (sel := [.p 0, .p 1]) (dws := []) (ok__law_draw T) (hr.mono (by decide)) rfl T.m__law_draw T.F__law_draw.kp (bind0 T.F__law_draw fun _ _ _ _ _ _ us uk h1 h2 => match us, h1, uk, h2 with | [_, _], _, [], _ => rfl) (takes_of rfl rfl rfl rfl) (z_acons (z_var (i := 0) rfl (by first | exact .inl rfl | exact .inr (.inl rfl) | exact .inr (.inr rfl))) (z_acons (z_int) (z_anil)))) (z_anil))) (blkOk_by rfl) (fun _ _ _ _ _ => pg_name sc__law_words.nd rfl (by first | exact .inl rfl | exact .inr rfl)) (fun _ _ _ _ _ => zq_nil) (fun _ _ _ _ _ => z_ix (hr).un (z_var (i := 1) rfl (by first | exact .inl rfl | exact .inr (.inl rfl) | exact .inr (.inr rfl))) (z_call (sel := [.p 0, .p 1]) (dws := []) (ok__law_draw T) (hr.mono (by decide)) rfl T.m__law_draw T.F__law_draw.kp (bind0 T.F__law_draw fun _ _ _ _ _ _ us uk h1 h2 => match us, h1, uk, h2 with | [_, _], _, [], _ => rfl) tkN (z_acons (z_var (i := 0) rfl (by first | exact .inl rfl | exact .inr (.inl rfl) | exact .inr (.inr rfl))) (z_acons (z_ix (hr).un (z_lst (z_acons (z_int) (z_acons (z_int) (z_anil)))) (z_call (sel := [.p 0, .p 1]) (dws := []) (ok__law_draw T) (hr.mono (by decide)) rfl T.m__law_draw T.F__law_draw.kp (bind0 T.F__law_draw fun _ _ _ _ _ _ us uk h1 h2 => match us, h1, uk, h2 with | [_, _], _, [], _ => rfl) tkN (z_acons (z_var (i := 0) rfl (by first | exact .inl rfl | exact .inr (.inl rfl) | exact .inr (.inr rfl))) (z_acons (z_int) (z_anil)))) (fun _ _ => rfl)) (z_anil)))) (fun _ _ => rfl)) (by decide)))))) (pf__law_words T)
/-! ### _law_folded -/
theorem sc__law_folded : FnScope ["_law_script", "_law_found", "_law_k", "_law_cell"] ["_law_script"] (defScope s__law_folded) := ⟨rfl, rfl, rfl, by decide +kernel, rfl, by decide +kernel, by decide +kernel⟩
def sp__law_folded {K : PySem.W.Frag} {mg : Str → Option Value} (T : Txt K mg) : SpW := SpFolded
theorem len__law_folded {K : PySem.W.Frag} {mg : Str → Option Value} (T : Txt K mg) (ws : List Wv) (G : HW) (q : WK) (x : XE) (h : sp__law_folded T ws G q x) : ws.length = 1 := by
  obtain ⟨ns, rfl, _⟩ := h
  rfl
def b__law_folded_6 {K : PySem.W.Frag} {mg : Str → Option Value} (T : Txt K mg) : ST := sRet (eV 1)
theorem mb__law_folded_6 {K : PySem.W.Frag} {mg : Str → Option Value} (T : Txt K mg) (D : EndsW) (σ : SW) (G : HW) : b__law_folded_6 T D σ G = (sRet (eV 1)) D σ G := rfl
def b__law_folded_4 {K : PySem.W.Frag} {mg : Str → Option Value} (T : Txt K mg) : ST := sSeq (sFor (iRg2 (aCons (eC (.int 1)) (aCons (eC (.int 64)) (aNil)))) (gNm 2) (sAsg (eOp oMod (eOp wAdd (eOp wIx (eV 1) (eV 2)) (eOp wMul (eOp wIx (eV 1) (eOp oSub (eV 2) (eC (.int 1)))) (eC (.int 16807)))) (eC (.int 2147483647))) (gSb (eV 1) (eV 2)))) (b__law_folded_6 T)
theorem mb__law_folded_4 {K : PySem.W.Frag} {mg : Str → Option Value} (T : Txt K mg) (D : EndsW) (σ : SW) (G : HW) : b__law_folded_4 T D σ G = (sSeq (sFor (iRg2 (aCons (eC (.int 1)) (aCons (eC (.int 64)) (aNil)))) (gNm 2) (sAsg (eOp oMod (eOp wAdd (eOp wIx (eV 1) (eV 2)) (eOp wMul (eOp wIx (eV 1) (eOp oSub (eV 2) (eC (.int 1)))) (eC (.int 16807)))) (eC (.int 2147483647))) (gSb (eV 1) (eV 2)))) (b__law_folded_6 T)) D σ G := rfl
def b__law_folded_2 {K : PySem.W.Frag} {mg : Str → Option Value} (T : Txt K mg) : ST := sSeq (sFor (iEnu (aCons (eV 0) (aNil))) (gTu 2 (gMo (gNm 2) (gMo (gNm 3) (gNo)))) (sAsg (eOp oMod (eOp wAdd (eOp wMul (eOp wIx (eV 1) (eOp oMod (eV 2) (eC (.int 64)))) (eC (.int 48271))) (eV 3)) (eC (.int 2147483647))) (gSb (eV 1) (eOp oMod (eV 2) (eC (.int 64)))))) (b__law_folded_4 T)
theorem mb__law_folded_2 {K : PySem.W.Frag} {mg : Str → Option Value} (T : Txt K mg) (D : EndsW) (σ : SW) (G : HW) : b__law_folded_2 T D σ G = (sSeq (sFor (iEnu (aCons (eV 0) (aNil))) (gTu 2 (gMo (gNm 2) (gMo (gNm 3) (gNo)))) (sAsg (eOp oMod (eOp wAdd (eOp wMul (eOp wIx (eV 1) (eOp oMod (eV 2) (eC (.int 64)))) (eC (.int 48271))) (eV 3)) (eC (.int 2147483647))) (gSb (eV 1) (eOp oMod (eV 2) (eC (.int 64)))))) (b__law_folded_4 T)) D σ G := rfl
def t__law_folded {K : PySem.W.Frag} {mg : Str → Option Value} (T : Txt K mg) : ST := sSeq (sSet 1 (eLc (iRg1 (aCons (eC (.int 64)) (aNil))) [2] [2] (qYes) (eOp wAdd (eC (.int 17)) (eV 2)))) (b__law_folded_2 T)
local macro_rules | `(tactic| walk_at "m__law_folded") => `(tactic| (walk_at "m0"; repeat (simp only [mb__law_folded_6, mb__law_folded_4, mb__law_folded_2] <;> walk_at "m0")))
theorem pf__law_folded {K : PySem.W.Frag} {mg : Str → Option Value} (T : Txt K mg) (ws : List Wv) (G : HW) (q : WK) (x : XE) (h : sp__law_folded T ws G q x) : t__law_folded T (endsW q x) (startW ["_law_script", "_law_found", "_law_k", "_law_cell"] ws) G := by
  obtain ⟨ns, rfl, hn, hq⟩ := h
  show t__law_folded T (endsW q x) [some (.kls (ns.map .int)), none, none, none] G
  unfold t__law_folded
  walk_at "m__law_folded"
  refine r_rg1 (by omega) (by omega) ?_
  refine r_lcM (fun w => match w with | .int i => .int (17 + i) | w => w) (by rw [rgW_len, sizeLine_eq]; decide) (fun _ _ => trivial) (fun i w G' k ew ex hk => ?_) fun D G1 hD ex1 eD => ?_
  · obtain ⟨hi, rfl⟩ := rg_nat ew
    refine ⟨_, rfl, ?_⟩
    walk_at "m__law_folded"
    exact hk G' Ext.refl
  have eD : ∃ cells : List Int, cells.length = 64 ∧ G1 D = some (.lst (cells.map .int)) := by
    refine ⟨(List.range 64).map fun i : Nat => 17 + (0 + (i : Int) * 1), by simp, ?_⟩
    rw [eD]
    unfold rgW
    rw [List.map_map, List.map_map]
    rfl
  obtain ⟨cells, hc, eD⟩ := eD
  walk_at "m__law_folded"
  refine r_for (fun _ σ G2 => ∃ (o2 o3 : Option Wv) (cells : List Int), σ = [some (.kls (ns.map .int)), some (.ref D), o2, o3] ∧ cells.length = 64 ∧ G2 D = some (.lst (cells.map .int)) ∧ Ext G G2) ⟨_, _, cells, rfl, hc, eD, ex1⟩ (fun _ _ _ _ _ => trivial) ?_ ?_
  · rintro i w σ2 G2 ew ⟨o2, o3, cells, rfl, hc, eD, ex⟩
    obtain ⟨z, rfl⟩ : ∃ z : Int, w = .tup [.int i, .int z] := by
      unfold enW at ew
      rw [List.getElem?_mapIdx, List.getElem?_map] at ew
      cases e : ns[i]? with
      | none => rw [e] at ew; cases ew
      | some z => rw [e] at ew; cases ew; exact ⟨z, rfl⟩
    walk_at "m__law_folded"
    refine r_int (by omega) ?_
    walk_at "m__law_folded"
    have h64 : ((i : Int) % 64).toNat < cells.length := by omega
    refine r_ixL (.inl eD) (atI_int (by omega) (at_map h64)) ?_
    walk_at "m__law_folded"
    refine r_mul (.inr ⟨by omega, by omega⟩) ?_
    walk_at "m__law_folded"
    refine r_int (by omega) ?_
    walk_at "m__law_folded"
    refine r_int (by omega) ?_
    walk_at "m__law_folded"
    refine r_setL eD (ixN_int (by omega) (by rw [List.length_map]; omega)) ?_
    walk_at "m__law_folded"
    rw [setI]
    exact ⟨_, _, _, rfl, by rw [List.length_set]; exact hc, updO_same, ex.put hD⟩
  · rintro σ2 G2 ⟨o2, o3, cells, rfl, hc, eD, ex⟩
    walk_at "m__law_folded"
    refine r_rg2 (by omega) ?_
    refine r_for (fun _ σ G2 => ∃ (o2 o3 : Option Wv) (cells : List Int), σ = [some (.kls (ns.map .int)), some (.ref D), o2, o3] ∧ cells.length = 64 ∧ G2 D = some (.lst (cells.map .int)) ∧ Ext G G2) ⟨_, _, cells, rfl, hc, eD, ex⟩ (fun _ _ _ _ _ => trivial) ?_ ?_
    · rintro i w σ2 G2 ew ⟨o2, o3, cells, rfl, hc, eD, ex⟩
      obtain ⟨hi, rfl⟩ := rg_at ew
      have hi : i < 63 := by simpa using hi
      walk_at "m__law_folded"
      have h1 : (1 + (i : Int) * 1).toNat < cells.length := by omega
      refine r_ixL (.inl eD) (atI_int (by omega) (at_map h1)) ?_
      walk_at "m__law_folded"
      have h2 : (1 + (i : Int) * 1 - 1).toNat < cells.length := by omega
      refine r_ixL (.inl eD) (atI_int (by omega) (at_map h2)) ?_
      walk_at "m__law_folded"
      refine r_mul (.inr ⟨by omega, by omega⟩) ?_
      walk_at "m__law_folded"
      refine r_int (by omega) ?_
      walk_at "m__law_folded"
      refine r_setL eD (ixN_int (by omega) (by rw [List.length_map]; omega)) ?_
      walk_at "m__law_folded"
      rw [setI]
      exact ⟨_, _, _, rfl, by rw [List.length_set]; exact hc, updO_same, ex.put hD⟩
    · rintro σ2 G2 ⟨o2, o3, cells, rfl, hc, eD, ex⟩
      walk_at "m__law_folded"
      exact hq D cells G2 hD ex eD hc
set_option maxHeartbeats 0 in
theorem ok__law_folded {P : Program} {w : World} {K : PySem.W.Frag} {mg : Str → Option Value} {base : Heap} (T : Txt K mg) : FnW P w K mg base 1 T.f__law_folded T.fd__law_folded ["_law_script"] (sp__law_folded T) :=
  fnW_of (t := t__law_folded T) T.F__law_folded sc__law_folded (len__law_folded T) (fun cdv A outer s H E hr => (zs_cons (z_setLc (i := 1) (is := [2]) (own := [("_law_k", 2)]) rfl sc__law_folded.nd rfl rfl rfl (zi_range1 rfl T.n_range (z_acons (z_int) (z_anil))) (blkOk_by rfl) (fun _ _ _ _ _ => pg_name sc__law_folded.nd rfl (by first | exact .inl rfl | exact .inr rfl)) (fun _ _ _ _ _ => zq_nil) (fun _ _ _ _ _ => z_bin w_add (z_int) (z_var (i := 2) rfl (by first | exact .inl rfl | exact .inr (.inl rfl) | exact .inr (.inr rfl)))) (by decide)) (zs_cons (z_for (passes_of rfl) rfl (zi_enum rfl T.n_enumerate (z_acons (z_var (i := 0) rfl (by first | exact .inl rfl | exact .inr (.inl rfl) | exact .inr (.inr rfl))) (z_anil))) (zg_tup rfl (zg_cons (zg_name (i := 2) sc__law_folded.nd rfl (by first | exact .inl rfl | exact .inr rfl)) (zg_cons (zg_name (i := 3) sc__law_folded.nd rfl (by first | exact .inl rfl | exact .inr rfl)) (zg_nil)))) (zs_one (z_asg (z_bin w_mod (z_bin w_add (z_bin w_mul (z_ix (hr).un (z_var (i := 1) rfl (by first | exact .inl rfl | exact .inr (.inl rfl) | exact .inr (.inr rfl))) (z_bin w_mod (z_var (i := 2) rfl (by first | exact .inl rfl | exact .inr (.inl rfl) | exact .inr (.inr rfl))) (z_int)) (fun _ _ => rfl)) (z_int)) (z_var (i := 3) rfl (by first | exact .inl rfl | exact .inr (.inl rfl) | exact .inr (.inr rfl)))) (z_int)) (zg_sub (hr).un (z_var (i := 1) rfl (by first | exact .inl rfl | exact .inr (.inl rfl) | exact .inr (.inr rfl))) (z_bin w_mod (z_var (i := 2) rfl (by first | exact .inl rfl | exact .inr (.inl rfl) | exact .inr (.inr rfl))) (z_int)) (fun _ => rfl))))) (zs_cons (z_for (passes_of rfl) rfl (zi_range2 rfl T.n_range (z_acons (z_int) (z_acons (z_int) (z_anil)))) (zg_name (i := 2) sc__law_folded.nd rfl (by first | exact .inl rfl | exact .inr rfl)) (zs_one (z_asg (z_bin w_mod (z_bin w_add (z_ix (hr).un (z_var (i := 1) rfl (by first | exact .inl rfl | exact .inr (.inl rfl) | exact .inr (.inr rfl))) (z_var (i := 2) rfl (by first | exact .inl rfl | exact .inr (.inl rfl) | exact .inr (.inr rfl))) (fun _ _ => rfl)) (z_bin w_mul (z_ix (hr).un (z_var (i := 1) rfl (by first | exact .inl rfl | exact .inr (.inl rfl) | exact .inr (.inr rfl))) (z_bin w_sub (z_var (i := 2) rfl (by first | exact .inl rfl | exact .inr (.inl rfl) | exact .inr (.inr rfl))) (z_int)) (fun _ _ => rfl)) (z_int))) (z_int)) (zg_sub (hr).un (z_var (i := 1) rfl (by first | exact .inl rfl | exact .inr (.inl rfl) | exact .inr (.inr rfl))) (z_var (i := 2) rfl (by first | exact .inl rfl | exact .inr (.inl rfl) | exact .inr (.inr rfl))) (fun _ => rfl))))) (zs_one (z_ret (z_var (i := 1) rfl (by first | exact .inl rfl | exact .inr (.inl rfl) | exact .inr (.inr rfl))))))))) (pf__law_folded T)
/-! ### _law_begun -/
theorem sc__law_begun : FnScope ["_law_script", "_law_m", "_law_cell"] ["_law_script"] (defScope s__law_begun) := ⟨rfl, rfl, rfl, by decide +kernel, rfl, by decide +kernel, by decide +kernel⟩
def sp__law_begun {K : PySem.W.Frag} {mg : Str → Option Value} (T : Txt K mg) : SpW := SpBegun
theorem len__law_begun {K : PySem.W.Frag} {mg : Str → Option Value} (T : Txt K mg) (ws : List Wv) (G : HW) (q : WK) (x : XE) (h : sp__law_begun T ws G q x) : ws.length = 1 := by
  obtain ⟨ns, rfl, _⟩ := h
  rfl
def b__law_begun_3 {K : PySem.W.Frag} {mg : Str → Option Value} (T : Txt K mg) : ST := sRet (eV 1)
theorem mb__law_begun_3 {K : PySem.W.Frag} {mg : Str → Option Value} (T : Txt K mg) (D : EndsW) (σ : SW) (G : HW) : b__law_begun_3 T D σ G = (sRet (eV 1)) D σ G := rfl
def b__law_begun_2 {K : PySem.W.Frag} {mg : Str → Option Value} (T : Txt K mg) : ST := sSeq (sAsg (eLc (iSeq (eV 0)) [2] [2] (qYes) (eIf (qOp wGeA (eV 2) (eOp oPow (eC (.int 10)) (eC (.int 18)))) (eV 2) (eC (.int 0)))) (gSb (eV 1) (eC (.str "left")))) (b__law_begun_3 T)
theorem mb__law_begun_2 {K : PySem.W.Frag} {mg : Str → Option Value} (T : Txt K mg) (D : EndsW) (σ : SW) (G : HW) : b__law_begun_2 T D σ G = (sSeq (sAsg (eLc (iSeq (eV 0)) [2] [2] (qYes) (eIf (qOp wGeA (eV 2) (eOp oPow (eC (.int 10)) (eC (.int 18)))) (eV 2) (eC (.int 0)))) (gSb (eV 1) (eC (.str "left")))) (b__law_begun_3 T)) D σ G := rfl
def t__law_begun {K : PySem.W.Frag} {mg : Str → Option Value} (T : Txt K mg) : ST := sSeq (sSet 1 (eDisp (("cells", eCall 1 0 [.p 0] [] (sp__law_folded T) (aCons (eV 0) (aNil)) aNil) :: ("left", eLst (aNil)) :: ("spot", eC (.int 0)) :: []))) (b__law_begun_2 T)
local macro_rules | `(tactic| walk_at "m__law_begun") => `(tactic| (walk_at "m0"; repeat (simp only [mb__law_begun_3, mb__law_begun_2] <;> walk_at "m0")))
theorem pf__law_begun {K : PySem.W.Frag} {mg : Str → Option Value} (T : Txt K mg) (ws : List Wv) (G : HW) (q : WK) (x : XE) (h : sp__law_begun T ws G q x) : t__law_begun T (endsW q x) (startW ["_law_script", "_law_m", "_law_cell"] ws) G := by
  obtain ⟨ns, rfl, hn, hq⟩ := h
  show t__law_begun T (endsW q x) [some (.kls (ns.map .int)), none, none] G
  unfold t__law_begun
  walk_at "m__law_begun"
  refine r_disp fun p hp => ?_
  walk_at "m__law_begun"
  refine ⟨ns, rfl, hn, fun l cells G1 hl ex e hc => ?_⟩
  walk_at "m__law_begun"
  refine r_lst' fun l0 hl0 => ?_
  walk_at "m__law_begun"
  have e1 : G1 p = some (.dct []) := ex _ _ updO_same
  have ne : p ≠ l0 := ne_of_new e1 hl0
  refine r_kdisp (by rw [updO_ne ne]; exact e1) rfl ?_
  walk_at "m__law_begun"
  generalize hG3 : updO (updO G1 l0 (.lst [])) p (.dct _) = G3
  have ex3 : Ext G G3 := by rw [← hG3]; exact (((Ext.new hp).trans ex).trans (Ext.new hl0)).put hp
  have p3 : G3 p = some (.dct [(.inr "cells", .ref l), (.inr "left", .ref l0), (.inr "spot", .int 0)]) := by rw [← hG3]; exact updO_same
  have nl : l ≠ p := (ne_of_new (G := updO G p (.dct [])) updO_same hl).symm
  have l3 : G3 l = some (.lst (cells.map .int)) := by rw [← hG3, updO_ne nl, updO_ne (ne_of_new e hl0)]; exact e
  refine r_lcM (fun w => match w with | .int i => .int (if 10 ^ 18 ≤ i then i else 0) | w => w) (by rw [List.length_map, sizeLine_eq]; omega) (fun _ _ => trivial) (fun i w G' k ew ex hk => ?_) fun D G4 hD ex4 eD => ?_
  · obtain ⟨z, rfl⟩ : ∃ z : Int, w = .int z := by
      obtain ⟨z, _, rfl⟩ := List.mem_map.mp (List.mem_of_getElem? ew)
      exact ⟨z, rfl⟩
    refine ⟨_, rfl, ?_⟩
    walk_at "m__law_begun"
    refine r_int ⟨by omega, by omega, by decide⟩ ?_
    walk_at "m__law_begun"
    have e : (10 : Int) ^ (Int.toNat 18) = 10 ^ 18 := rfl
    rw [e]
    have hk := hk G' Ext.refl
    cases e2 : decide ((10 : Int) ^ 18 ≤ z) with
    | true =>
      walk_at "m__law_begun"
      have := of_decide_eq_true e2
      dsimp only at hk
      rw [if_pos this] at hk
      exact hk
    | false =>
      walk_at "m__law_begun"
      have := of_decide_eq_false e2
      dsimp only at hk
      rw [if_neg this] at hk
      exact hk
  have eD : G4 D = some (.lst ((ns.map fun i => if 10 ^ 18 ≤ i then i else 0).map .int)) := by rw [eD, List.map_map, List.map_map]; rfl
  walk_at "m__law_begun"
  have p4 := ex4 _ _ p3
  refine r_setD p4 rfl few rfl ?_
  walk_at "m__law_begun"
  have nD : D ≠ p := (ne_of_new p3 hD).symm
  have nlD : l ≠ D := ne_of_new l3 hD
  exact hq p l D _ hp ((Ext.new hp).none hl) (ex3.none hD) ((ex3.trans ex4).put hp) ⟨0, cells, _, updO_same, by rw [updO_ne nl]; exact ex4 _ _ l3, hc, by rw [updO_ne nD]; exact eD, by rw [List.length_map]; exact hn, by omega, by omega, nlD⟩
set_option maxHeartbeats 0 in
theorem ok__law_begun {P : Program} {w : World} {K : PySem.W.Frag} {mg : Str → Option Value} {base : Heap} (T : Txt K mg) : FnW P w K mg base 2 T.f__law_begun T.fd__law_begun ["_law_script"] (sp__law_begun T) :=
  fnW_of (t := t__law_begun T) T.F__law_begun sc__law_begun (len__law_begun T) (fun cdv A outer s H E hr => (zs_cons (z_set (i := 1) sc__law_begun.nd rfl (by first | exact .inl rfl | exact .inr rfl) (z_disp (zp_cons (z_call (sel := [.p 0]) (dws := []) (ok__law_folded T) (hr.mono (by decide)) rfl T.m__law_folded T.F__law_folded.kp (bind0 T.F__law_folded fun _ _ _ _ _ _ us uk h1 h2 => match us, h1, uk, h2 with | [_], _, [], _ => rfl) (takes_of rfl rfl rfl rfl) (z_acons (z_var (i := 0) rfl (by first | exact .inl rfl | exact .inr (.inl rfl) | exact .inr (.inr rfl))) (z_anil))) (zp_cons (z_lst (z_anil)) (zp_cons (z_int) (zp_nil)))))) (zs_cons (z_asg (z_lc (is := [2]) (own := [("_law_cell", 2)]) rfl sc__law_begun.nd (zi_seq (z_var (i := 0) rfl (by first | exact .inl rfl | exact .inr (.inl rfl) | exact .inr (.inr rfl)))) (blkOk_by rfl) (fun _ _ _ _ _ => pg_name sc__law_begun.nd rfl (by first | exact .inl rfl | exact .inr rfl)) (fun _ _ _ _ _ => zq_nil) (fun _ _ _ _ _ => z_ifx (z_qcmp (w_geA (hr).un) (z_var (i := 2) rfl (by first | exact .inl rfl | exact .inr (.inl rfl) | exact .inr (.inr rfl))) (z_bin w_pow (z_int) (z_int)) (by rfl)) (z_var (i := 2) rfl (by first | exact .inl rfl | exact .inr (.inl rfl) | exact .inr (.inr rfl))) (z_int)) (by decide)) (zg_sub (hr).un (z_var (i := 1) rfl (by first | exact .inl rfl | exact .inr (.inl rfl) | exact .inr (.inr rfl))) (z_str) (fun _ => rfl))) (zs_one (z_ret (z_var (i := 1) rfl (by first | exact .inl rfl | exact .inr (.inl rfl) | exact .inr (.inr rfl)))))))) (pf__law_begun T)
/-! ### law -/
theorem sc_law : FnScope ["_law_script", "_law_m", "_law_turn", "_law_rows", "_law_pieces", "_law_own", "_law_found", "_law_odd", "_law_k", "_law_words_here"] ["_law_script"] (defScope s_law) := ⟨rfl, rfl, rfl, by decide +kernel, rfl, by decide +kernel, by decide +kernel⟩
def sp_law {K : PySem.W.Frag} {mg : Str → Option Value} (T : Txt K mg) : SpW := fun ws G q _ => ∃ ns : List Int, ws = [.kls (ns.map .int)] ∧ ns.length ≤ 63 ∧ G T.P_law = some (.tab "law.<locals>.<lambda>") ∧ ∀ G', q (.bl true) G'
theorem len_law {K : PySem.W.Frag} {mg : Str → Option Value} (T : Txt K mg) (ws : List Wv) (G : HW) (q : WK) (x : XE) (h : sp_law T ws G q x) : ws.length = 1 := by
  obtain ⟨ns, rfl, _⟩ := h
  rfl
theorem fin_law {K : PySem.W.Frag} {mg : Str → Option Value} (T : Txt K mg) (ns : List Int) (h : ns.length ≤ 63) (_ : ∀ z ∈ ns, Builtin.Int.intBits z ≤ 1048576) : sp_law T [.kls (ns.map .int)] (G0 [(T.c_law, T.P_law, fun _ _ => "law.<locals>.<lambda>")]) (fun v _ => v = .bl true) fun _ _ _ => False :=
  ⟨ns, rfl, h, by unfold G0; simp, fun _ => rfl⟩
def b_law_15 {K : PySem.W.Frag} {mg : Str → Option Value} (T : Txt K mg) : ST := sRet (eC (.bl true))
theorem mb_law_15 {K : PySem.W.Frag} {mg : Str → Option Value} (T : Txt K mg) (D : EndsW) (σ : SW) (G : HW) : b_law_15 T D σ G = (sRet (eC (.bl true))) D σ G := rfl
def b_law_13 {K : PySem.W.Frag} {mg : Str → Option Value} (T : Txt K mg) : ST := sIf (qOp wNe (eTell T.P_law "law.<locals>.<lambda>" (sp__law_told T) (eCall 1 0 [.p 0] [] (sp_links_of T) (aCons (eV 7) (aNil)) aNil)) (eTup (aCons (eC (.str "value")) (aCons (eC (.str "case")) (aNil))))) (sRet (eC (.bl false))) (sNext)
theorem mb_law_13 {K : PySem.W.Frag} {mg : Str → Option Value} (T : Txt K mg) (D : EndsW) (σ : SW) (G : HW) : b_law_13 T D σ G = (sIf (qOp wNe (eTell T.P_law "law.<locals>.<lambda>" (sp__law_told T) (eCall 1 0 [.p 0] [] (sp_links_of T) (aCons (eV 7) (aNil)) aNil)) (eTup (aCons (eC (.str "value")) (aCons (eC (.str "case")) (aNil))))) (sRet (eC (.bl false))) (sNext)) D σ G := rfl
def b_law_12 {K : PySem.W.Frag} {mg : Str → Option Value} (T : Txt K mg) : ST := sSeq (sFor (iSeq (eTup (aCons (eC .non) (aCons (eLst (aCons (eC (.str "a")) (aCons (eC (.str "b a")) (aNil)))) (aCons (eC (.str "a")) (aCons (eC (.int 5)) (aCons (eTup (aNil)) (aCons (eLst (aCons (eMake T.C_Case 1 0 [.p 0, .p 1] [] (sp_Case_init T) (aCons (eLst (aNil)) (aNil)) aNil) (aNil))) (aNil))))))))) (gNm 7) (b_law_13 T)) (b_law_15 T)
theorem mb_law_12 {K : PySem.W.Frag} {mg : Str → Option Value} (T : Txt K mg) (D : EndsW) (σ : SW) (G : HW) : b_law_12 T D σ G = (sSeq (sFor (iSeq (eTup (aCons (eC .non) (aCons (eLst (aCons (eC (.str "a")) (aCons (eC (.str "b a")) (aNil)))) (aCons (eC (.str "a")) (aCons (eC (.int 5)) (aCons (eTup (aNil)) (aCons (eLst (aCons (eMake T.C_Case 1 0 [.p 0, .p 1] [] (sp_Case_init T) (aCons (eLst (aNil)) (aNil)) aNil) (aNil))) (aNil))))))))) (gNm 7) (b_law_13 T)) (b_law_15 T)) D σ G := rfl
def b_law_10 {K : PySem.W.Frag} {mg : Str → Option Value} (T : Txt K mg) : ST := sSeq (sIf (qOr (qOp wNe (eCall 1 0 [.p 0] [] (sp_links_of T) (aCons (eMake T.C_Case 1 0 [.p 0, .p 1] [] (sp_Case_init T) (aCons (eLst (aCons (eC (.str "a")) (aCons (eC (.str "a a")) (aCons (eC (.str "a")) (aCons (eC (.str "b a")) (aNil)))))) (aNil)) aNil) (aNil)) aNil) (eTup (aCons (eTup (aCons (eC (.int 1)) (aCons (eC (.int 0)) (aNil)))) (aCons (eTup (aCons (eC (.int 3)) (aCons (eC (.int 2)) (aNil)))) (aNil))))) (qOp wNe (eCall 1 0 [.p 0] [] (sp_links_of T) (aCons (eMake T.C_Case 1 0 [.p 0, .p 1] [] (sp_Case_init T) (aCons (eLst (aCons (eC (.str " ")) (aCons (eC (.str "a a a")) (aCons (eC (.str "")) (aCons (eC (.str "a")) (aNil)))))) (aNil)) aNil) (aNil)) aNil) (eTup (aNil)))) (sRet (eC (.bl false))) (sNext)) (b_law_12 T)
theorem mb_law_10 {K : PySem.W.Frag} {mg : Str → Option Value} (T : Txt K mg) (D : EndsW) (σ : SW) (G : HW) : b_law_10 T D σ G = (sSeq (sIf (qOr (qOp wNe (eCall 1 0 [.p 0] [] (sp_links_of T) (aCons (eMake T.C_Case 1 0 [.p 0, .p 1] [] (sp_Case_init T) (aCons (eLst (aCons (eC (.str "a")) (aCons (eC (.str "a a")) (aCons (eC (.str "a")) (aCons (eC (.str "b a")) (aNil)))))) (aNil)) aNil) (aNil)) aNil) (eTup (aCons (eTup (aCons (eC (.int 1)) (aCons (eC (.int 0)) (aNil)))) (aCons (eTup (aCons (eC (.int 3)) (aCons (eC (.int 2)) (aNil)))) (aNil))))) (qOp wNe (eCall 1 0 [.p 0] [] (sp_links_of T) (aCons (eMake T.C_Case 1 0 [.p 0, .p 1] [] (sp_Case_init T) (aCons (eLst (aCons (eC (.str " ")) (aCons (eC (.str "a a a")) (aCons (eC (.str "")) (aCons (eC (.str "a")) (aNil)))))) (aNil)) aNil) (aNil)) aNil) (eTup (aNil)))) (sRet (eC (.bl false))) (sNext)) (b_law_12 T)) D σ G := rfl
def b_law_8 {K : PySem.W.Frag} {mg : Str → Option Value} (T : Txt K mg) : ST := sIf (qOr (qOp wNe (eV 6) (eCall 1 0 [.p 0] [] (sp__law_due T) (aCons (eV 3) (aNil)) aNil)) (qOr (qOp wIsNot (eCall 2 0 [.p 0, .p 1] [.int 120] (sp_is_links T) (aCons (eV 6) (aCons (eCB wLen (aCons (eV 3) (aNil))) (aNil))) aNil) (eC (.bl true))) (qOp wNe (eCall 0 1 [.k 0] [] (sp_links_of T) aNil (aCons (eV 5) (aNil))) (eV 6)))) (sRet (eC (.bl false))) (sNext)
theorem mb_law_8 {K : PySem.W.Frag} {mg : Str → Option Value} (T : Txt K mg) (D : EndsW) (σ : SW) (G : HW) : b_law_8 T D σ G = (sIf (qOr (qOp wNe (eV 6) (eCall 1 0 [.p 0] [] (sp__law_due T) (aCons (eV 3) (aNil)) aNil)) (qOr (qOp wIsNot (eCall 2 0 [.p 0, .p 1] [.int 120] (sp_is_links T) (aCons (eV 6) (aCons (eCB wLen (aCons (eV 3) (aNil))) (aNil))) aNil) (eC (.bl true))) (qOp wNe (eCall 0 1 [.k 0] [] (sp_links_of T) aNil (aCons (eV 5) (aNil))) (eV 6)))) (sRet (eC (.bl false))) (sNext)) D σ G := rfl
def b_law_7 {K : PySem.W.Frag} {mg : Str → Option Value} (T : Txt K mg) : ST := sSeq (sSet 6 (eCall 1 0 [.p 0] [] (sp_links_of T) (aCons (eV 5) (aNil)) aNil)) (b_law_8 T)
theorem mb_law_7 {K : PySem.W.Frag} {mg : Str → Option Value} (T : Txt K mg) (D : EndsW) (σ : SW) (G : HW) : b_law_7 T D σ G = (sSeq (sSet 6 (eCall 1 0 [.p 0] [] (sp_links_of T) (aCons (eV 5) (aNil)) aNil)) (b_law_8 T)) D σ G := rfl
def b_law_6 {K : PySem.W.Frag} {mg : Str → Option Value} (T : Txt K mg) : ST := sSeq (sExpr (eBM "list" wAppend (eV 4) (aCons (eC (.str "a b")) (aNil)))) (b_law_7 T)
theorem mb_law_6 {K : PySem.W.Frag} {mg : Str → Option Value} (T : Txt K mg) (D : EndsW) (σ : SW) (G : HW) : b_law_6 T D σ G = (sSeq (sExpr (eBM "list" wAppend (eV 4) (aCons (eC (.str "a b")) (aNil)))) (b_law_7 T)) D σ G := rfl
def b_law_5 {K : PySem.W.Frag} {mg : Str → Option Value} (T : Txt K mg) : ST := sSeq (sSet 5 (eMake T.C_Case 1 0 [.p 0, .p 1] [] (sp_Case_init T) (aCons (eV 4) (aNil)) aNil)) (b_law_6 T)
theorem mb_law_5 {K : PySem.W.Frag} {mg : Str → Option Value} (T : Txt K mg) (D : EndsW) (σ : SW) (G : HW) : b_law_5 T D σ G = (sSeq (sSet 5 (eMake T.C_Case 1 0 [.p 0, .p 1] [] (sp_Case_init T) (aCons (eV 4) (aNil)) aNil)) (b_law_6 T)) D σ G := rfl
def b_law_4 {K : PySem.W.Frag} {mg : Str → Option Value} (T : Txt K mg) : ST := sSeq (sSet 4 (eLc (iSeq (eV 3)) [9] [9] (qYes) (eCall 2 0 [.p 0, .p 1] [] (sp__law_piece T) (aCons (eV 1) (aCons (eV 9) (aNil))) aNil))) (b_law_5 T)
theorem mb_law_4 {K : PySem.W.Frag} {mg : Str → Option Value} (T : Txt K mg) (D : EndsW) (σ : SW) (G : HW) : b_law_4 T D σ G = (sSeq (sSet 4 (eLc (iSeq (eV 3)) [9] [9] (qYes) (eCall 2 0 [.p 0, .p 1] [] (sp__law_piece T) (aCons (eV 1) (aCons (eV 9) (aNil))) aNil))) (b_law_5 T)) D σ G := rfl
def b_law_3 {K : PySem.W.Frag} {mg : Str → Option Value} (T : Txt K mg) : ST := sSeq (sSet 3 (eLc (iRg1 (aCons (eOp wIx (eLst (aCons (eC (.int 0)) (aCons (eC (.int 3)) (aCons (eC (.int 12)) (aCons (eC (.int 40)) (aCons (eC (.int 120)) (aNil))))))) (eCall 2 0 [.p 0, .p 1] [] (sp__law_draw T) (aCons (eV 1) (aCons (eC (.int 5)) (aNil))) aNil)) (aNil))) [8] [8] (qYes) (eCall 1 0 [.p 0] [] (sp__law_words T) (aCons (eV 1) (aNil)) aNil))) (b_law_4 T)
theorem mb_law_3 {K : PySem.W.Frag} {mg : Str → Option Value} (T : Txt K mg) (D : EndsW) (σ : SW) (G : HW) : b_law_3 T D σ G = (sSeq (sSet 3 (eLc (iRg1 (aCons (eOp wIx (eLst (aCons (eC (.int 0)) (aCons (eC (.int 3)) (aCons (eC (.int 12)) (aCons (eC (.int 40)) (aCons (eC (.int 120)) (aNil))))))) (eCall 2 0 [.p 0, .p 1] [] (sp__law_draw T) (aCons (eV 1) (aCons (eC (.int 5)) (aNil))) aNil)) (aNil))) [8] [8] (qYes) (eCall 1 0 [.p 0] [] (sp__law_words T) (aCons (eV 1) (aNil)) aNil))) (b_law_4 T)) D σ G := rfl
def b_law_2 {K : PySem.W.Frag} {mg : Str → Option Value} (T : Txt K mg) : ST := sSeq (sFor (iRg1 (aCons (eCB wMin (aCons (eC (.int 8)) (aCons (eOp wAdd (eC (.int 2)) (eOp oDiv (eCB wLen (aCons (eV 0) (aNil))) (eC (.int 8)))) (aNil)))) (aNil))) (gNm 2) (b_law_3 T)) (b_law_10 T)
theorem mb_law_2 {K : PySem.W.Frag} {mg : Str → Option Value} (T : Txt K mg) (D : EndsW) (σ : SW) (G : HW) : b_law_2 T D σ G = (sSeq (sFor (iRg1 (aCons (eCB wMin (aCons (eC (.int 8)) (aCons (eOp wAdd (eC (.int 2)) (eOp oDiv (eCB wLen (aCons (eV 0) (aNil))) (eC (.int 8)))) (aNil)))) (aNil))) (gNm 2) (b_law_3 T)) (b_law_10 T)) D σ G := rfl
def t_law {K : PySem.W.Frag} {mg : Str → Option Value} (T : Txt K mg) : ST := sSeq (sSet 1 (eCall 1 0 [.p 0] [] (sp__law_begun T) (aCons (eV 0) (aNil)) aNil)) (b_law_2 T)
local macro_rules | `(tactic| walk_at "m_law") => `(tactic| (walk_at "m0"; repeat (simp only [mb_law_15, mb_law_13, mb_law_12, mb_law_8, mb_law_7, mb_law_6, mb_law_5, mb_law_4, mb_law_3, mb_law_2] <;> walk_at "m0")))
theorem pf_law {K : PySem.W.Frag} {mg : Str → Option Value} (T : Txt K mg) (ws : List Wv) (G : HW) (q : WK) (x : XE) (h : sp_law T ws G q x) : t_law T (endsW q x) (startW ["_law_script", "_law_m", "_law_turn", "_law_rows", "_law_pieces", "_law_own", "_law_found", "_law_odd", "_law_k", "_law_words_here"] ws) G := by
  obtain ⟨ns, rfl, hn, hP, hq⟩ := h
  have caseS : ∀ G : HW, Dt G (.tup [.str "value", .str "case"]) (.tuple [.str "value", .str "case"]) ∧ Fit 1 100 (.tuple [.str "value", .str "case"]) := fun G => two_said (by decide +kernel) (by decide +kernel) (by decide +kernel) (by decide +kernel)
  show t_law T (endsW q x) [some (.kls (ns.map .int)), none, none, none, none, none, none, none, none, none] G
  unfold t_law
  walk_at "m_law"
  refine ⟨ns, rfl, hn, fun m a b G1 hm ha hb ex st => ?_⟩
  walk_at "m_law"
  have nPm : T.P_law ≠ m := ne_of_new hP hm
  have nPb : T.P_law ≠ b := ne_of_new hP hb
  refine r_int (by unfold CDiv; omega) ?_
  walk_at "m_law"
  obtain ⟨c, hc, ec⟩ : ∃ c : Nat, c ≤ 8 ∧ (if (2 : Int) + ((ns.map Wv.int).length : Int) / 8 < 8 then (2 : Int) + ((ns.map Wv.int).length : Int) / 8 else 8) = c := by
    rw [List.length_map]
    split
    · exact ⟨(2 + (ns.length : Int) / 8).toNat, by omega, by omega⟩
    · exact ⟨8, by omega, rfl⟩
  rw [ec]
  refine r_rg1 (by omega) (by omega) ?_
  rw [Int.toNat_natCast]
  have un : ∀ {G : HW} {l : Addr} {k : Nat}, DSt G m a b k → G l = none → l ∉ [m, b] ∧ l ≠ m ∧ l ≠ a ∧ l ≠ b := fun ⟨k, c, lf, h1, h2, _, h4, _⟩ hl => ⟨by simp [(ne_of_new h1 hl).symm, (ne_of_new h4 hl).symm], (ne_of_new h1 hl).symm, (ne_of_new h2 hl).symm, (ne_of_new h4 hl).symm⟩
  refine r_for (fun i σ G2 => ∃ o2 o3 o4 o5 o6 : Option Wv, σ = [some (.kls (ns.map .int)), some (.ref m), o2, o3, o4, o5, o6, none, none, none] ∧ G2 T.P_law = some (.tab "law.<locals>.<lambda>") ∧ DSt G2 m a b (2200 * (8 - i) + 10))
    ⟨_, _, _, _, _, rfl, ex _ _ hP, st.mono (by omega)⟩ (fun _ _ _ _ _ => trivial) ?_ ?_
  · rintro i w σ2 G2 ew ⟨o2, o3, o4, o5, o6, rfl, hP2, st2⟩
    obtain ⟨hi, rfl⟩ := rg_nat ew
    have hi : i < c := hi
    walk_at "m_law"
    refine r_lst' fun l hl => ?_
    have xl := Ext.new (o := .lst [.int 0, .int 3, .int 12, .int 40, .int 120]) hl
    walk_at "m_law"
    refine ⟨m, a, b, 5, 2200 * (8 - i) + 9, rfl, by omega, by omega, st2.ext xl, fun r G3 r0 r1 kp3 st3 => ?_⟩
    walk_at "m_law"
    obtain ⟨sz, htop, hsz⟩ : ∃ sz : Nat, atI [Wv.int 0, .int 3, .int 12, .int 40, .int 120] r = some (.int sz) ∧ sz ≤ 120 := by
      rcases (by omega : r = 0 ∨ r = 1 ∨ r = 2 ∨ r = 3 ∨ r = 4) with rfl | rfl | rfl | rfl | rfl
      · exact ⟨0, rfl, by omega⟩
      · exact ⟨3, rfl, by omega⟩
      · exact ⟨12, rfl, by omega⟩
      · exact ⟨40, rfl, by omega⟩
      · exact ⟨120, rfl, by omega⟩
    refine r_ixL (.inl (kp3 _ _ (un st2 hl).1 updO_same)) htop ?_
    have hP3 : G3 T.P_law = some (.tab "law.<locals>.<lambda>") := kp3 _ _ (by simp [nPm, nPb]) (xl _ _ hP2)
    walk_at "m_law"
    refine r_rg1 (by omega) (by omega) ?_
    rw [Int.toNat_natCast]
    refine r_lcD (fun D j acc G' => ∃ (rs : List Addr) (rows : List (List Tx)), acc = rs.map Wv.ref ∧ rs.length = j ∧ rows.length = j ∧ (∀ (i : Nat) (r : Addr) (ws : List Tx), rs[i]? = some r → rows[i]? = some ws → G' r = some (.lst (ws.map tS)) ∧ r ≠ m ∧ r ≠ b ∧ r ≠ D) ∧ (∀ ws ∈ rows, ws.length ≤ 5 ∧ ∀ w ∈ ws, w ∈ poolT) ∧ Kp [m, b] G3 G' ∧ DSt G' m a b (2200 * (8 - i) + 9 - 11 * j) ∧ G3 D = none)
      (by rw [rgW_len, sizeLine_eq]; omega)
      (fun D hD => ⟨[], [], rfl, rfl, rfl, (fun _ _ _ e => by simp at e), (fun _ h => nomatch h), (Ext.new hD).kp, (st3.ext (Ext.new hD)).mono (by omega), hD⟩) (fun _ _ _ _ _ => trivial)
      (fun D j acc G' ys ⟨rs, rows, h1, h2, h3, h4, h5, h6, h7, h8⟩ => ⟨rs, rows, h1, h2, h3, fun i r ws e1 e2 => ⟨(updO_ne (h4 i r ws e1 e2).2.2.2).trans (h4 i r ws e1 e2).1, (h4 i r ws e1 e2).2⟩, h5, h6.new h8, h7.put (un st3 h8).2.1 (un st3 h8).2.2.1 (un st3 h8).2.2.2, h8⟩) (fun D j w acc G' k ew ⟨rs, rows, h1, h2, h3, h4, h5, h6, h7, h8⟩ eD0 hk => ?_) fun f acc G4 hf ⟨rs, rows, h1, h2, h3, h4, h5, h6, h7, h8⟩ ef => ?_
    · obtain ⟨hj, rfl⟩ := rg_nat ew
      refine ⟨_, rfl, ?_⟩
      walk_at "m_law"
      refine ⟨m, a, b, 2200 * (8 - i) + 9 - 11 * (j + 1), rfl, h7.mono (by omega), fun D1 us G5 hD kp5 st5 eD ul up => ?_⟩
      walk_at "m_law"
      have uD := un h7 hD
      refine hk (.ref D1) G5 ⟨rs ++ [D1], rows ++ [us], by rw [h1, List.map_append]; rfl, by rw [List.length_append, h2]; rfl, by rw [List.length_append, h3]; rfl, fun i r ws e1 e2 => ?_, fun ws hws => ?_, h6.trans kp5, st5, h8⟩ (kp5 D _ (un st3 h8).1 eD0)
      · by_cases hij : i < rs.length
        · rw [List.getElem?_append_left hij] at e1
          rw [List.getElem?_append_left (by omega)] at e2
          have z := h4 i r ws e1 e2
          exact ⟨kp5 r _ (by simp [z.2.1, z.2.2.1]) z.1, z.2⟩
        · rw [List.getElem?_append_right (by omega)] at e1
          rw [List.getElem?_append_right (by omega)] at e2
          have hi2 : i - rs.length = 0 := by
            have := (List.getElem?_eq_some_iff.mp e1).1
            rw [List.length_singleton] at this
            omega
          rw [hi2] at e1
          rw [show i - rows.length = 0 by omega] at e2
          cases e1
          cases e2
          exact ⟨eD, uD.2.1, uD.2.2.2, (ne_of_new eD0 hD).symm⟩
      · rcases List.mem_append.mp hws with z | z
        · exact h5 ws z
        · cases List.mem_singleton.mp z
          exact ⟨ul, up⟩
    rw [rgW_len] at h2 h3 h7
    subst h1
    have uf := un st3 hf
    have gP4 : G4 T.P_law = some (.tab "law.<locals>.<lambda>") := h6 _ _ (by simp [nPm, nPb]) hP3
    walk_at "m_law"
    refine r_itL (.inl ef) ?_
    refine r_lcD (fun D j acc G' => ∃ ts : List Tx, acc = ts.map tS ∧ ts.length = j ∧ ts.map wds = rows.take j ∧ (∀ t ∈ ts, t.length ≤ 30 ∧ ∀ c ∈ t, c < 128) ∧ Kp [m, b] G4 G' ∧ DSt G' m a b (2200 * (8 - i) + 9 - 11 * sz - 7 * j) ∧ G4 D = none)
      (by rw [List.length_map, sizeLine_eq]; omega)
      (fun D hD => ⟨[], rfl, rfl, rfl, (fun _ h => nomatch h), (Ext.new hD).kp, (h7.ext (Ext.new hD)).mono (by omega), hD⟩) (fun _ _ _ _ ⟨_, _, _, _, _, k, _⟩ => .inl (k _ _ uf.1 ef))
      (fun D j acc G' ys ⟨ts, g1, g2, g3, g4, g5, g6, g7⟩ => ⟨ts, g1, g2, g3, g4, g5.new g7, g6.put (un h7 g7).2.1 (un h7 g7).2.2.1 (un h7 g7).2.2.2, g7⟩) (fun D j w acc G' k ew ⟨ts, g1, g2, g3, g4, g5, g6, g7⟩ eD0 hk => ?_) fun P acc G5 hp ⟨ts, g1, g2, g3, g4, g5, g6, g7⟩ eP => ?_
    · obtain ⟨r, hr, rfl⟩ := map_at ew
      have hj : j < rows.length := by rw [h3, ← h2]; exact (List.getElem?_eq_some_iff.mp hr).1
      obtain ⟨us, hus⟩ : ∃ us, rows[j]? = some us := ⟨_, List.getElem?_eq_getElem hj⟩
      have gr := h4 j r us hr hus
      have gu := h5 us (List.mem_of_getElem? hus)
      refine ⟨_, rfl, ?_⟩
      walk_at "m_law"
      refine ⟨m, a, b, r, us, 2200 * (8 - i) + 9 - 11 * sz - 7 * (j + 1), rfl, g6.mono (by omega), g5 r _ (by simp [gr.2.1, gr.2.2.1]) gr.1, gr.2.1, gr.2.2.1, gu.1, gu.2, fun t G6 tw tl tc kp6 st6 => ?_⟩
      walk_at "m_law"
      refine hk (tS t) G6 ⟨ts ++ [t], by rw [g1, List.map_append]; rfl, by rw [List.length_append, g2]; rfl, by rw [List.map_append, g3, List.take_add_one, hus]; show _ ++ [wds t] = _; rw [tw]; rfl, fun x hx => ?_, g5.trans kp6, st6, g7⟩ (kp6 D _ (un h7 g7).1 eD0)
      rcases List.mem_append.mp hx with z | z
      · exact g4 x z
      · cases List.mem_singleton.mp z
        exact ⟨tl, tc⟩
    rw [List.length_map, h2] at g2 g3 g6
    rw [← h3, List.take_length] at g3
    subst g1
    have gd : GdC ts := ⟨by omega, fun t ht => Nat.le_trans (g4 t ht).1 (by omega)⟩
    have oks : ∀ t ∈ ts, ∀ c ∈ t, c < 128 := fun t ht => (g4 t ht).2
    have rok : RoOk rows := ⟨by omega, fun ws hw => (h5 ws hw).1, fun ws hw w hm c hc => by have := ((pool_ok w ((h5 ws hw).2 w hm)).2.2 c hc).2; omega⟩
    have uP := un h7 hp
    have ef5 := g5 _ _ uf.1 ef
    have gP5 : G5 T.P_law = some (.tab "law.<locals>.<lambda>") := g5 _ _ (by simp [nPm, nPb]) gP4
    have nfP : f ≠ P := ne_of_new ef hp
    walk_at "m_law"
    refine r_make fun o dr ho => ?_
    refine mk_case (sel := [.p 0, .p 1]) (.inr ⟨P, rfl, eP⟩) gd o dr ho fun lc G6 hlc ex6 ca => ?_
    walk_at "m_law"
    have eP6 := ex6 _ _ eP
    refine r_M (.inl ⟨rfl, _, .inl eP6⟩) ?_
    walk_at "m_law"
    refine r_app eP6 (by rw [List.length_map, sizeLine_eq]; omega) ?_
    walk_at "m_law"
    have nPo : P ≠ o := ne_of_new eP ho
    have nPl : P ≠ lc := ne_of_new eP hlc
    have kU : ∀ (q : Addr) (u : O), q ≠ P → G6 q = some u → updO G6 P (O.lst (List.map tS ts ++ [Wv.str "a b"])) q = some u := fun q u h e => (updO_ne h).trans e
    have ca7 : CaA T.C_Case (updO G6 P (O.lst (List.map tS ts ++ [Wv.str "a b"]))) o lc ts := ⟨let ⟨dx, z⟩ := ca.ins; ⟨dx, kU _ _ nPo.symm z⟩, kU _ _ nPl.symm ca.lst⟩
    have ef7 := kU _ _ nfP (ex6 _ _ ef5)
    have ro7 : RoA (updO G6 P (O.lst (List.map tS ts ++ [Wv.str "a b"]))) f rows := ⟨rs, ef7, by rw [h2, h3], fun i r ws e1 e2 => by
      have z := h4 i r ws e1 e2
      exact kU _ _ (ne_of_new z.1 hp) (ex6 _ _ (g5 r _ (by simp [z.2.1, z.2.2.1]) z.1))⟩
    have gP7 := kU _ _ (ne_of_new gP4 hp) (ex6 _ _ gP5)
    have st7 := (g6.ext ex6).put (o := O.lst (List.map tS ts ++ [Wv.str "a b"])) uP.2.1 uP.2.2.1 uP.2.2.2
    refine lk_case ca7 gd oks fun cs G7 hcs ex7 => ?_
    rw [g3] at hcs
    obtain ⟨L, eL, inL, pwL⟩ := hcs.pairs
    have eW : cs.map cfW = L.map tup2 := by rw [eL, cfW_tup]
    have rlen : rows.length ≤ 120 := by omega
    have fit := hcs.fit rlen
    have cl := hcs.len rlen
    have lL : L.length = cs.length := by rw [eL, List.length_map]
    walk_at "m_law"
    refine ⟨f, rows, rfl, ro7.ext ex7, rok, fun cs2 G8 hcs2 ex8 => ?_⟩
    cases hcs2.uniq hcs
    walk_at "m_law"
    refine r_neSame (lkC_dt _) (lkC_dt _) fit ?_
    walk_at "m_law"
    have x8 := ex7.trans ex8
    refine r_len (.inl (x8 _ _ ef7)) ?_
    rw [List.length_map, h2]
    walk_at "m_law"
    refine ⟨_, _, rfl, by rw [eW]; exact knL_pairs (by omega), fun G9 ex9 => ?_⟩
    rw [eW, lks_is.mpr ⟨by rw [← h3]; exact inL, pwL⟩]
    ((walk_at "x2"; repeat (simp only [mb_law_15, mb_law_13, mb_law_12, mb_law_8, mb_law_7, mb_law_6, mb_law_5, mb_law_4, mb_law_3, mb_law_2] <;> walk_at "x2")))
    refine lk_case (ca7.ext (x8.trans ex9)) gd oks fun cs3 G10 hcs3 ex10 => ?_
    rw [g3] at hcs3
    cases hcs3.uniq hcs
    walk_at "m_law"
    rw [← eW]
    refine r_neSame (lkC_dt _) (lkC_dt _) fit ?_
    walk_at "m_law"
    have x10 := (x8.trans ex9).trans ex10
    exact ⟨_, _, _, _, _, rfl, x10 _ _ gP7, (st7.ext x10).mono (by omega)⟩
  · rintro σ2 G2 ⟨o2, o3, o4, o5, o6, rfl, hP2, st2⟩
    walk_at "m_law"
    rw [mb_law_10]
    walk_at "m_law"
    refine r_lst' fun l hl => ?_
    rw [tsX_is]
    walk_at "m_law"
    refine r_make fun o dr ho => ?_
    refine mk_case (sel := [.p 0, .p 1]) (ts := tsX) (.inr ⟨l, rfl, updO_same⟩) ⟨by decide, by decide⟩ o dr ho fun lc G3 hlc ex3 ca => ?_
    walk_at "m_law"
    refine lk_case ca ⟨by decide, by decide⟩ (by decide) fun cs G4 hcs ex4 => ?_
    cases hcs.uniq lksX
    walk_at "m_law"
    refine r_neSame (lkC_dt [[1, 0], [3, 2]]) (lkC_dt [[1, 0], [3, 2]]) (lksX.fit (by decide)) ?_
    walk_at "m_law"
    refine r_lst' fun l2 hl2 => ?_
    rw [tsY_is]
    walk_at "m_law"
    refine r_make fun oc dr2 ho2 => ?_
    refine mk_case (sel := [.p 0, .p 1]) (ts := tsY) (.inr ⟨l2, rfl, updO_same⟩) ⟨by decide, by decide⟩ oc dr2 ho2 fun lc2 G5 hlc2 ex5 ca2 => ?_
    walk_at "m_law"
    refine lk_case ca2 ⟨by decide, by decide⟩ (by decide) fun cs2 G6 hcs2 ex6 => ?_
    cases hcs2.uniq lksY
    walk_at "m_law"
    refine r_neSame (lkC_dt []) (lkC_dt []) (lksY.fit (by decide)) ?_
    walk_at "m_law"
    have x6 : Ext G2 G6 := ((((Ext.new hl).trans ex3).trans ex4).trans ((Ext.new hl2).trans ex5)).trans ex6
    refine r_lst' fun a1 ha1 => ?_
    walk_at "m_law"
    refine r_lst' fun a2 ha2 => ?_
    walk_at "m_law"
    refine r_make fun o3' dr3 ho3 => ?_
    refine mk_case (sel := [.p 0, .p 1]) (ts := []) (.inr ⟨a2, rfl, updO_same⟩) ⟨by decide, by decide⟩ o3' dr3 ho3 fun lc3 G7 hlc3 ex7 ca3 => ?_
    walk_at "m_law"
    refine r_lst' fun a3 ha3 => ?_
    walk_at "m_law"
    have x67 : Ext G6 G7 := ((Ext.new ha1).trans (Ext.new ha2)).trans ex7
    have e1 : G7 a1 = some (.lst [Wv.str "a", .str "b a"]) := ex7 _ _ ((Ext.new ha2) _ _ updO_same)
    have x78 := Ext.new (o := .lst [Wv.ref o3']) ha3
    have hP8 := x78 _ _ (x67 _ _ (x6 _ _ hP2))
    have e18 := x78 _ _ e1
    refine r_for (fun i σ G8 => ∃ o7 : Option Wv, σ = [some (.kls (ns.map .int)), some (.ref m), o2, o3, o4, o5, o6, o7, none, none] ∧ Ext (updO G7 a3 (.lst [.ref o3'])) G8)
      ⟨_, rfl, Ext.refl⟩ (fun _ _ _ _ _ => trivial) ?_ ?_
    · rintro i w σ8 G8 ew ⟨o7, rfl, ex8⟩
      have bad : ∀ G', Ext G8 G' → ∃ t, TyW K G' w t ∧ PySem.W.kitOne K t (.ref T.C_Case) = some false := fun G' e' => by
        have z := List.mem_of_getElem? ew
        simp only [List.mem_cons, List.not_mem_nil, or_false] at z
        rcases z with rfl | rfl | rfl | rfl | rfl | rfl
        · exact ⟨_, rfl, T.ki_Case_NoneType⟩
        · exact ⟨_, by show TyO K a1 (G' a1) _; rw [e' _ _ (ex8 _ _ e18)]; rfl, T.ki_Case_list⟩
        · exact ⟨_, rfl, T.ki_Case_str⟩
        · exact ⟨_, rfl, T.ki_Case_int⟩
        · exact ⟨_, rfl, T.ki_Case_tuple⟩
        · exact ⟨_, by show TyO K a3 (G' a3) _; rw [e' _ _ (ex8 _ _ updO_same)]; rfl, T.ki_Case_list⟩
      walk_at "m_law"
      refine r_tell (ex8 _ _ hP8) (told_bad (.str "case") (fun G0 xe qe ex0 hx => ?_) fun G9 e9 => ?_)
      · walk_at "m_law"
        obtain ⟨t, ty, kt⟩ := bad G0 ex0
        exact ⟨w, rfl, .inr ⟨t, ty, kt, fun G' e' => hx G' (ex0.trans e')⟩⟩
      walk_at "m_law"
      refine r_neSame (caseS G9).1 (caseS G9).1 (caseS G9).2 ?_
      walk_at "m_law"
      exact ⟨_, rfl, ex8.trans e9⟩
    · rintro σ8 G8 ⟨o7, rfl, ex8⟩
      walk_at "m_law"
      exact hq _
set_option maxHeartbeats 0 in
theorem ok_law {P : Program} {w : World} {K : PySem.W.Frag} {mg : Str → Option Value} {base : Heap} (T : Txt K mg) (TB_law : LamX.TabB base mg T.c_law T.P_law) : FnW P w K mg base 6 T.f_law T.fd_law ["_law_script"] (sp_law T) :=
  fnW_ofL (t := t_law T) (c := T.c_law) T.F_law T.hc_law sc_law (len_law T) (fun A outer s H E hr => (zs_cons (z_set (i := 1) sc_law.nd rfl (by first | exact .inl rfl | exact .inr rfl) (z_call (sel := [.p 0]) (dws := []) (ok__law_begun T) (hr.mono (by decide)) rfl T.m__law_begun T.F__law_begun.kp (bind0 T.F__law_begun fun _ _ _ _ _ _ us uk h1 h2 => match us, h1, uk, h2 with | [_], _, [], _ => rfl) (takes_of rfl rfl rfl rfl) (z_acons (z_var (i := 0) rfl (by first | exact .inl rfl | exact .inr (.inl rfl) | exact .inr (.inr rfl))) (z_anil)))) (zs_cons (z_for (passes_of rfl) rfl (zi_range1 rfl T.n_range (z_acons (z_callB (w_min rfl) rfl T.n_min boot_min (z_acons (z_int) (z_acons (z_bin w_add (z_int) (z_bin w_fdiv (z_callB w_len rfl T.n_len boot_len (z_acons (z_var (i := 0) rfl (by first | exact .inl rfl | exact .inr (.inl rfl) | exact .inr (.inr rfl))) (z_anil))) (z_int))) (z_anil)))) (z_anil))) (zg_name (i := 2) sc_law.nd rfl (by first | exact .inl rfl | exact .inr rfl)) (zs_cons (z_setLc (i := 3) (is := [8]) (own := [("_law_k", 8)]) rfl sc_law.nd rfl rfl rfl (zi_range1 rfl T.n_range (z_acons (z_ix (hr).un (z_lst (z_acons (z_int) (z_acons (z_int) (z_acons (z_int) (z_acons (z_int) (z_acons (z_int) (z_anil))))))) (z_call (sel := [.p 0, .p 1]) (dws := []) (ok__law_draw T) (hr.mono (by decide)) rfl T.m__law_draw T.F__law_draw.kp (bind0 T.F__law_draw fun _ _ _ _ _ _ us uk h1 h2 => match us, h1, uk, h2 with | [_, _], _, [], _ => rfl) (takes_of rfl rfl rfl rfl) (z_acons (z_var (i := 1) rfl (by first | exact .inl rfl | exact .inr (.inl rfl) | exact .inr (.inr rfl))) (z_acons (z_int) (z_anil)))) (fun _ _ => rfl)) (z_anil))) (blkOk_by rfl) (fun _ _ _ _ _ => pg_name sc_law.nd rfl (by first | exact .inl rfl | exact .inr rfl)) (fun _ _ _ _ _ => zq_nil) (fun _ _ _ _ _ => z_call (sel := [.p 0]) (dws := []) (ok__law_words T) (hr.mono (by decide)) rfl T.m__law_words T.F__law_words.kp (bind0 T.F__law_words fun _ _ _ _ _ _ us uk h1 h2 => match us, h1, uk, h2 with | [_], _, [], _ => rfl) tkN (z_acons (z_var (i := 1) rfl (by first | exact .inl rfl | exact .inr (.inl rfl) | exact .inr (.inr rfl))) (z_anil))) (by decide)) (zs_cons (z_setLc (i := 4) (is := [9]) (own := [("_law_words_here", 9)]) rfl sc_law.nd rfl rfl rfl (zi_seq (z_var (i := 3) rfl (by first | exact .inl rfl | exact .inr (.inl rfl) | exact .inr (.inr rfl)))) (blkOk_by rfl) (fun _ _ _ _ _ => pg_name sc_law.nd rfl (by first | exact .inl rfl | exact .inr rfl)) (fun _ _ _ _ _ => zq_nil) (fun _ _ _ _ _ => z_call (sel := [.p 0, .p 1]) (dws := []) (ok__law_piece T) (hr.mono (by decide)) rfl T.m__law_piece T.F__law_piece.kp (bind0 T.F__law_piece fun _ _ _ _ _ _ us uk h1 h2 => match us, h1, uk, h2 with | [_, _], _, [], _ => rfl) tkN (z_acons (z_var (i := 1) rfl (by first | exact .inl rfl | exact .inr (.inl rfl) | exact .inr (.inr rfl))) (z_acons (z_var (i := 9) rfl (by first | exact .inl rfl | exact .inr (.inl rfl) | exact .inr (.inr rfl))) (z_anil)))) (by decide)) (zs_cons (z_set (i := 5) sc_law.nd rfl (by first | exact .inl rfl | exact .inr rfl) (z_make (n := 1) (sel := [.p 0, .p 1]) (dws := []) T.mk_Case (ok_Case_init T) (hr.mono (by decide)) rfl T.m_Case (bind0 T.F_Case_init fun _ _ _ _ _ _ us uk h1 h2 => match us, h1, uk, h2 with | [_, _], _, [], _ => rfl) (takes_of rfl rfl rfl rfl) (z_acons (z_var (i := 4) rfl (by first | exact .inl rfl | exact .inr (.inl rfl) | exact .inr (.inr rfl))) (z_anil)))) (zs_cons (z_expr (z_bm PySem.F.plainAttrs_list PySem.F.slot_list_append PySem.F.type_list_append w_append (z_var (i := 4) rfl (by first | exact .inl rfl | exact .inr (.inl rfl) | exact .inr (.inr rfl))) (z_acons (z_str) (z_anil)))) (zs_cons (z_set (i := 6) sc_law.nd rfl (by first | exact .inl rfl | exact .inr rfl) (z_call (sel := [.p 0]) (dws := []) (ok_links_of T) (hr.mono (by decide)) rfl T.m_links_of T.F_links_of.kp (bind0 T.F_links_of fun _ _ _ _ _ _ us uk h1 h2 => match us, h1, uk, h2 with | [_], _, [], _ => rfl) (takes_of rfl rfl rfl rfl) (z_acons (z_var (i := 5) rfl (by first | exact .inl rfl | exact .inr (.inl rfl) | exact .inr (.inr rfl))) (z_anil)))) (zs_one (z_if (z_bool (z_or (z_qcmp (w_ne (hr).un) (z_var (i := 6) rfl (by first | exact .inl rfl | exact .inr (.inl rfl) | exact .inr (.inr rfl))) (z_call (sel := [.p 0]) (dws := []) (ok__law_due T) (hr.mono (by decide)) rfl T.m__law_due T.F__law_due.kp (bind0 T.F__law_due fun _ _ _ _ _ _ us uk h1 h2 => match us, h1, uk, h2 with | [_], _, [], _ => rfl) (takes_of rfl rfl rfl rfl) (z_acons (z_var (i := 3) rfl (by first | exact .inl rfl | exact .inr (.inl rfl) | exact .inr (.inr rfl))) (z_anil))) (by rfl)) (z_or (z_qcmp w_isnot (z_call (sel := [.p 0, .p 1]) (dws := [.int 120]) (ok_is_links T) (hr.mono (by decide)) rfl T.m_is_links T.F_is_links.kp (bindD T.F_is_links (fun z => nomatch z) (fun _ => (.cons (.int _) .nil)) fun _ _ _ _ _ _ _ us uk its h1 h2 h3 => match us, h1, uk, h2, its, h3 with | [_, _], _, [], _, [_], _ => ⟨_, rfl, rfl⟩) (takes_of rfl rfl rfl rfl) (z_acons (z_var (i := 6) rfl (by first | exact .inl rfl | exact .inr (.inl rfl) | exact .inr (.inr rfl))) (z_acons (z_callB w_len rfl T.n_len boot_len (z_acons (z_var (i := 3) rfl (by first | exact .inl rfl | exact .inr (.inl rfl) | exact .inr (.inr rfl))) (z_anil))) (z_anil)))) (z_bl) (by rfl)) (z_or1 (z_qcmp (w_ne (hr).un) (z_callK (ks := ["case"]) (sel := [.k 0]) (dws := []) (ok_links_of T) (hr.mono (by decide)) rfl T.m_links_of T.F_links_of.kp (bind0 T.F_links_of fun _ _ _ _ _ _ us uk h1 h2 => match us, h1, uk, h2 with | [], _, [_], _ => rfl) (takes_of rfl rfl rfl rfl) (z_kcons (z_var (i := 5) rfl (by first | exact .inl rfl | exact .inr (.inl rfl) | exact .inr (.inr rfl))) (z_knil))) (z_var (i := 6) rfl (by first | exact .inl rfl | exact .inr (.inl rfl) | exact .inr (.inr rfl))) (by rfl)))))) (zs_one (z_ret (z_bl))) (zs_nil))))))))) (zs_cons (z_if (z_bool (z_or (z_qcmp (w_ne (hr).un) (z_call (sel := [.p 0]) (dws := []) (ok_links_of T) (hr.mono (by decide)) rfl T.m_links_of T.F_links_of.kp (bind0 T.F_links_of fun _ _ _ _ _ _ us uk h1 h2 => match us, h1, uk, h2 with | [_], _, [], _ => rfl) (takes_of rfl rfl rfl rfl) (z_acons (z_make (n := 1) (sel := [.p 0, .p 1]) (dws := []) T.mk_Case (ok_Case_init T) (hr.mono (by decide)) rfl T.m_Case (bind0 T.F_Case_init fun _ _ _ _ _ _ us uk h1 h2 => match us, h1, uk, h2 with | [_, _], _, [], _ => rfl) (takes_of rfl rfl rfl rfl) (z_acons (z_lst (z_acons (z_str) (z_acons (z_str) (z_acons (z_str) (z_acons (z_str) (z_anil)))))) (z_anil))) (z_anil))) (z_tup (z_acons (z_tup (z_acons (z_int) (z_acons (z_int) (z_anil)))) (z_acons (z_tup (z_acons (z_int) (z_acons (z_int) (z_anil)))) (z_anil)))) (by rfl)) (z_or1 (z_qcmp (w_ne (hr).un) (z_call (sel := [.p 0]) (dws := []) (ok_links_of T) (hr.mono (by decide)) rfl T.m_links_of T.F_links_of.kp (bind0 T.F_links_of fun _ _ _ _ _ _ us uk h1 h2 => match us, h1, uk, h2 with | [_], _, [], _ => rfl) (takes_of rfl rfl rfl rfl) (z_acons (z_make (n := 1) (sel := [.p 0, .p 1]) (dws := []) T.mk_Case (ok_Case_init T) (hr.mono (by decide)) rfl T.m_Case (bind0 T.F_Case_init fun _ _ _ _ _ _ us uk h1 h2 => match us, h1, uk, h2 with | [_, _], _, [], _ => rfl) (takes_of rfl rfl rfl rfl) (z_acons (z_lst (z_acons (z_str) (z_acons (z_str) (z_acons (z_str) (z_acons (z_str) (z_anil)))))) (z_anil))) (z_anil))) (z_tup (z_anil)) (by rfl))))) (zs_one (z_ret (z_bl))) (zs_nil)) (zs_cons (z_for (passes_of rfl) rfl (zi_seq (z_tup (z_acons (z_non) (z_acons (z_lst (z_acons (z_str) (z_acons (z_str) (z_anil)))) (z_acons (z_str) (z_acons (z_int) (z_acons (z_tup (z_anil)) (z_acons (z_lst (z_acons (z_make (n := 1) (sel := [.p 0, .p 1]) (dws := []) T.mk_Case (ok_Case_init T) (hr.mono (by decide)) rfl T.m_Case (bind0 T.F_Case_init fun _ _ _ _ _ _ us uk h1 h2 => match us, h1, uk, h2 with | [_, _], _, [], _ => rfl) (takes_of rfl rfl rfl rfl) (z_acons (z_lst (z_anil)) (z_anil))) (z_anil))) (z_anil))))))))) (zg_name (i := 7) sc_law.nd rfl (by first | exact .inl rfl | exact .inr rfl)) (zs_one (z_if (z_qcmp (w_ne (hr).un) (z_tell (k := 3) (c := T.c_law) (P0 := T.P_law) (q0 := "law.<locals>.<lambda>") (Ng := ["_law_deed", "_law_error", "_law_found", "e"]) (a := "_law_deed") (ok__law_told T 3) rfl T.m__law_told T.F__law_told.kp (takes_of rfl rfl rfl rfl) rfl (Or.inl rfl) TB_law rfl rfl (hr.mono (by decide)) (LamX.lamS_by rfl) rfl (fun _ _ _ _ _ => rfl) (fun A outer s H E f c' hL => z_call (sel := [.p 0]) (dws := []) (ok_links_of T) (hL.mono (by decide)) rfl T.m_links_of T.F_links_of.kp (bind0 T.F_links_of fun _ _ _ _ _ _ us uk h1 h2 => match us, h1, uk, h2 with | [_], _, [], _ => rfl) (takes_of rfl rfl rfl rfl) (z_acons (z_var (i := 7) rfl (by first | exact .inl rfl | exact .inr (.inl rfl) | exact .inr (.inr rfl))) (z_anil)))) (z_tup (z_acons (z_str) (z_acons (z_str) (z_anil)))) (by rfl)) (zs_one (z_ret (z_bl))) (zs_nil)))) (zs_one (z_ret (z_bl)))))))) (pf_law T)
/-! ### the head -/
theorem all_mk {pq : Program} {w : World} {K : PySem.W.Frag} {h : Heap} {mg : Str → Option Value} {fa : Addr} (XI : K.In h) (GG : h.Ns mainGlobals mg) (hfa0 : mg "law" = some (.ref fa)) {t_MOST_SIGNS : Tok} {t_MOST_PIECES : Tok} {C_Case : Addr} {C_BadValue : Addr} {C_NotSo : Addr} {C_Nested : Addr} {C_Spent : Addr} {C_BadVerdict : Addr} {C_Gone : Addr} {f_is_piece : Addr} {od_is_piece an_is_piece : Option Addr} {sl_is_piece : Array (Option Value)} {oc_is_piece kV_is_piece dc_is_piece pm_is_piece cd_is_piece ct_is_piece : Value} {f_Case_init : Addr} {od_Case_init an_Case_init : Option Addr} {sl_Case_init : Array (Option Value)} {oc_Case_init kV_Case_init dc_Case_init pm_Case_init cd_Case_init ct_Case_init : Value} {f__law_class : Addr} {od__law_class an__law_class : Option Addr} {sl__law_class : Array (Option Value)} {oc__law_class kV__law_class dc__law_class pm__law_class cd__law_class ct__law_class : Value} {f__law_told : Addr} {od__law_told an__law_told : Option Addr} {sl__law_told : Array (Option Value)} {oc__law_told kV__law_told dc__law_told pm__law_told cd__law_told ct__law_told : Value} {f_Case_pieces : Addr} {od_Case_pieces an_Case_pieces : Option Addr} {sl_Case_pieces : Array (Option Value)} {oc_Case_pieces kV_Case_pieces dc_Case_pieces pm_Case_pieces cd_Case_pieces ct_Case_pieces : Value} {f_words_of : Addr} {od_words_of an_words_of : Option Addr} {sl_words_of : Array (Option Value)} {oc_words_of kV_words_of dc_words_of pm_words_of cd_words_of ct_words_of : Value} {f_links_of : Addr} {od_links_of an_links_of : Option Addr} {sl_links_of : Array (Option Value)} {oc_links_of kV_links_of dc_links_of pm_links_of cd_links_of ct_links_of : Value} {f__law_due : Addr} {od__law_due an__law_due : Option Addr} {sl__law_due : Array (Option Value)} {oc__law_due kV__law_due dc__law_due pm__law_due cd__law_due ct__law_due : Value} {f_is_whole : Addr} {od_is_whole an_is_whole : Option Addr} {sl_is_whole : Array (Option Value)} {oc_is_whole kV_is_whole dc_is_whole pm_is_whole cd_is_whole ct_is_whole : Value} {f_is_link : Addr} {od_is_link an_is_link : Option Addr} {sl_is_link : Array (Option Value)} {oc_is_link kV_is_link dc_is_link pm_is_link cd_is_link ct_is_link : Value} {f_is_links : Addr} {od_is_links an_is_links : Option Addr} {sl_is_links : Array (Option Value)} {oc_is_links kV_is_links dc_is_links pm_is_links cd_is_links ct_is_links : Value} {D_is_links : Addr} {Doc_is_links : Value} {Dd_is_links : Option Addr} {Dn_is_links : Nat} {Ds_is_links : Array (Option Value)} {u0_is_links : Tok} {f__law_mixed : Addr} {od__law_mixed an__law_mixed : Option Addr} {sl__law_mixed : Array (Option Value)} {oc__law_mixed kV__law_mixed dc__law_mixed pm__law_mixed cd__law_mixed ct__law_mixed : Value} {f__law_draw : Addr} {od__law_draw an__law_draw : Option Addr} {sl__law_draw : Array (Option Value)} {oc__law_draw kV__law_draw dc__law_draw pm__law_draw cd__law_draw ct__law_draw : Value} {f__law_piece : Addr} {od__law_piece an__law_piece : Option Addr} {sl__law_piece : Array (Option Value)} {oc__law_piece kV__law_piece dc__law_piece pm__law_piece cd__law_piece ct__law_piece : Value} {f__law_words : Addr} {od__law_words an__law_words : Option Addr} {sl__law_words : Array (Option Value)} {oc__law_words kV__law_words dc__law_words pm__law_words cd__law_words ct__law_words : Value} {f__law_folded : Addr} {od__law_folded an__law_folded : Option Addr} {sl__law_folded : Array (Option Value)} {oc__law_folded kV__law_folded dc__law_folded pm__law_folded cd__law_folded ct__law_folded : Value} {f__law_begun : Addr} {od__law_begun an__law_begun : Option Addr} {sl__law_begun : Array (Option Value)} {oc__law_begun kV__law_begun dc__law_begun pm__law_begun cd__law_begun ct__law_begun : Value} {f_law : Addr} {od_law an_law : Option Addr} {sl_law : Array (Option Value)} {oc_law kV_law dc_law pm_law cd_law ct_law : Value} {cc_law PP_law : Addr} {q0_law : Value} {q1_law : Option Addr} {q2_law : Array Value} {q3_law : Array (Option Value)} {f_i_BadValue : Addr} {od_i_BadValue an_i_BadValue : Option Addr} {sl_i_BadValue : Array (Option Value)} {oc_i_BadValue kV_i_BadValue dc_i_BadValue pm_i_BadValue cd_i_BadValue ct_i_BadValue : Value} {nm_BadValue qn_BadValue : Str} {N_BadValue : Addr} {bs_BadValue : List Value} {sn_BadValue : List Str} {sub_BadValue : List Value} {ab_BadValue : Bool} {col_BadValue : Option Bool} {dd_BadValue : Option Addr} {m0_BadValue m1_BadValue m2_BadValue m3_BadValue m5_BadValue : Option Value}
    (a_law : PySem.W.nsIn K mainGlobals "law" = some (some (.ref f_law)))
    (z_LookupError : PySem.W.nsIn K mainGlobals "LookupError" = some none)
    (z_OverflowError : PySem.W.nsIn K mainGlobals "OverflowError" = some none)
    (z_RuntimeError : PySem.W.nsIn K mainGlobals "RuntimeError" = some none)
    (z_TypeError : PySem.W.nsIn K mainGlobals "TypeError" = some none)
    (z_ValueError : PySem.W.nsIn K mainGlobals "ValueError" = some none)
    (z_all : PySem.W.nsIn K mainGlobals "all" = some none)
    (z_bool : PySem.W.nsIn K mainGlobals "bool" = some none)
    (z_enumerate : PySem.W.nsIn K mainGlobals "enumerate" = some none)
    (z_int : PySem.W.nsIn K mainGlobals "int" = some none)
    (z_isinstance : PySem.W.nsIn K mainGlobals "isinstance" = some none)
    (z_len : PySem.W.nsIn K mainGlobals "len" = some none)
    (z_list : PySem.W.nsIn K mainGlobals "list" = some none)
    (z_min : PySem.W.nsIn K mainGlobals "min" = some none)
    (z_range : PySem.W.nsIn K mainGlobals "range" = some none)
    (z_set : PySem.W.nsIn K mainGlobals "set" = some none)
    (z_sorted : PySem.W.nsIn K mainGlobals "sorted" = some none)
    (z_str : PySem.W.nsIn K mainGlobals "str" = some none)
    (z_tuple : PySem.W.nsIn K mainGlobals "tuple" = some none)
    (z_zip : PySem.W.nsIn K mainGlobals "zip" = some none)
    (v_MOST_SIGNS : PySem.W.nsIn K mainGlobals "MOST_SIGNS" = some (some (.int 200 t_MOST_SIGNS)))
    (v_MOST_PIECES : PySem.W.nsIn K mainGlobals "MOST_PIECES" = some (some (.int 120 t_MOST_PIECES)))
    (a_Case : PySem.W.nsIn K mainGlobals "Case" = some (some (.ref C_Case)))
    (a_BadValue : PySem.W.nsIn K mainGlobals "BadValue" = some (some (.ref C_BadValue)))
    (a_NotSo : PySem.W.nsIn K mainGlobals "NotSo" = some (some (.ref C_NotSo)))
    (a_Nested : PySem.W.nsIn K mainGlobals "Nested" = some (some (.ref C_Nested)))
    (a_Spent : PySem.W.nsIn K mainGlobals "Spent" = some (some (.ref C_Spent)))
    (a_BadVerdict : PySem.W.nsIn K mainGlobals "BadVerdict" = some (some (.ref C_BadVerdict)))
    (a_Gone : PySem.W.nsIn K mainGlobals "Gone" = some (some (.ref C_Gone)))
    (pg_Case : PySem.W.plainGet K C_Case Str.empty = true)
    (hd_Case : PySem.W.hasDictIn K C_Case = true)
    (po_Case : PySem.W.plainOver K C_Case = true)
    (sa_Case : PySem.W.findIn K (.ref C_Case) "__setattr__" = some (some (.builtin "object.__setattr__")))
    (ha_Case : PySem.W.findIn K (.ref C_Case) "__class__" = some (some (.builtin "object.__class__")))
    (hn_Case : PySem.W.specialIn K (.builtin "object.__class__") "__get__" = some (some (.builtin "getset_descriptor.__get__")))
    (ht_Case : PySem.W.takesIn K (.builtin "object.__class__") = some true)
    (hm_Case : PySem.W.mroIn K C_Case (.type "object") = some true)
    (ko_Case : PySem.W.kitOne K (.ref C_Case) (.ref C_Case) = some true)
    (kit_Case_of_NoneType : PySem.W.kitOne K (.type "NoneType") (.ref C_Case) = some false)
    (kit_Case_of_list : PySem.W.kitOne K (.type "list") (.ref C_Case) = some false)
    (kit_Case_of_str : PySem.W.kitOne K (.type "str") (.ref C_Case) = some false)
    (kit_Case_of_int : PySem.W.kitOne K (.type "int") (.ref C_Case) = some false)
    (kit_Case_of_tuple : PySem.W.kitOne K (.type "tuple") (.ref C_Case) = some false)
    (na_Case_all_pieces : PySem.W.findIn K (.ref C_Case) "all_pieces" = some none)
    (mt_Case_pieces : PySem.W.findIn K (.ref C_Case) "pieces" = some (some (.ref f_Case_pieces)))
    (mf_Case_pieces : PySem.W.isFn K (.ref f_Case_pieces) = true)
    (mi_Case : PySem.W.makesIn K C_Case = true)
    (mt_Case_init : PySem.W.findIn K (.ref C_Case) "__init__" = some (some (.ref f_Case_init)))
    (mf_Case_init : PySem.W.isFn K (.ref f_Case_init) = true)
    (mk_Case : PySem.W.keepIn K (.ref C_Case) = true)
    (a_is_piece : PySem.W.nsIn K mainGlobals "is_piece" = some (some (.ref f_is_piece)))
    (l_is_piece : K.lookup f_is_piece = some ⟨oc_is_piece, od_is_piece, .func (PySem.W.fnOf "is_piece" "is_piece" (defArgs s_is_piece) (defBody s_is_piece) (defScope s_is_piece) .none kV_is_piece dc_is_piece pm_is_piece an_is_piece cd_is_piece ct_is_piece), sl_is_piece⟩)
    (c_is_piece : PySem.W.codeIn K cd_is_piece "is_piece" = true)
    (k_is_piece : PySem.W.keepIn K (.ref f_is_piece) = true)
    (l_Case_init : K.lookup f_Case_init = some ⟨oc_Case_init, od_Case_init, .func (PySem.W.fnOf "__init__" "Case.__init__" (defArgs s_Case_init) (defBody s_Case_init) (defScope s_Case_init) .none kV_Case_init dc_Case_init pm_Case_init an_Case_init cd_Case_init ct_Case_init), sl_Case_init⟩)
    (c_Case_init : PySem.W.codeIn K cd_Case_init "Case.__init__" = true)
    (k_Case_init : PySem.W.keepIn K (.ref f_Case_init) = true)
    (a__law_class : PySem.W.nsIn K mainGlobals "_law_class" = some (some (.ref f__law_class)))
    (l__law_class : K.lookup f__law_class = some ⟨oc__law_class, od__law_class, .func (PySem.W.fnOf "_law_class" "_law_class" (defArgs s__law_class) (defBody s__law_class) (defScope s__law_class) .none kV__law_class dc__law_class pm__law_class an__law_class cd__law_class ct__law_class), sl__law_class⟩)
    (c__law_class : PySem.W.codeIn K cd__law_class "_law_class" = true)
    (k__law_class : PySem.W.keepIn K (.ref f__law_class) = true)
    (a__law_told : PySem.W.nsIn K mainGlobals "_law_told" = some (some (.ref f__law_told)))
    (l__law_told : K.lookup f__law_told = some ⟨oc__law_told, od__law_told, .func (PySem.W.fnOf "_law_told" "_law_told" (defArgs s__law_told) (defBody s__law_told) (defScope s__law_told) .none kV__law_told dc__law_told pm__law_told an__law_told cd__law_told ct__law_told), sl__law_told⟩)
    (c__law_told : PySem.W.codeIn K cd__law_told "_law_told" = true)
    (k__law_told : PySem.W.keepIn K (.ref f__law_told) = true)
    (l_Case_pieces : K.lookup f_Case_pieces = some ⟨oc_Case_pieces, od_Case_pieces, .func (PySem.W.fnOf "pieces" "Case.pieces" (defArgs s_Case_pieces) (defBody s_Case_pieces) (defScope s_Case_pieces) .none kV_Case_pieces dc_Case_pieces pm_Case_pieces an_Case_pieces cd_Case_pieces ct_Case_pieces), sl_Case_pieces⟩)
    (c_Case_pieces : PySem.W.codeIn K cd_Case_pieces "Case.pieces" = true)
    (k_Case_pieces : PySem.W.keepIn K (.ref f_Case_pieces) = true)
    (a_words_of : PySem.W.nsIn K mainGlobals "words_of" = some (some (.ref f_words_of)))
    (l_words_of : K.lookup f_words_of = some ⟨oc_words_of, od_words_of, .func (PySem.W.fnOf "words_of" "words_of" (defArgs s_words_of) (defBody s_words_of) (defScope s_words_of) .none kV_words_of dc_words_of pm_words_of an_words_of cd_words_of ct_words_of), sl_words_of⟩)
    (c_words_of : PySem.W.codeIn K cd_words_of "words_of" = true)
    (k_words_of : PySem.W.keepIn K (.ref f_words_of) = true)
    (a_links_of : PySem.W.nsIn K mainGlobals "links_of" = some (some (.ref f_links_of)))
    (l_links_of : K.lookup f_links_of = some ⟨oc_links_of, od_links_of, .func (PySem.W.fnOf "links_of" "links_of" (defArgs s_links_of) (defBody s_links_of) (defScope s_links_of) .none kV_links_of dc_links_of pm_links_of an_links_of cd_links_of ct_links_of), sl_links_of⟩)
    (c_links_of : PySem.W.codeIn K cd_links_of "links_of" = true)
    (k_links_of : PySem.W.keepIn K (.ref f_links_of) = true)
    (a__law_due : PySem.W.nsIn K mainGlobals "_law_due" = some (some (.ref f__law_due)))
    (l__law_due : K.lookup f__law_due = some ⟨oc__law_due, od__law_due, .func (PySem.W.fnOf "_law_due" "_law_due" (defArgs s__law_due) (defBody s__law_due) (defScope s__law_due) .none kV__law_due dc__law_due pm__law_due an__law_due cd__law_due ct__law_due), sl__law_due⟩)
    (c__law_due : PySem.W.codeIn K cd__law_due "_law_due" = true)
    (k__law_due : PySem.W.keepIn K (.ref f__law_due) = true)
    (a_is_whole : PySem.W.nsIn K mainGlobals "is_whole" = some (some (.ref f_is_whole)))
    (l_is_whole : K.lookup f_is_whole = some ⟨oc_is_whole, od_is_whole, .func (PySem.W.fnOf "is_whole" "is_whole" (defArgs s_is_whole) (defBody s_is_whole) (defScope s_is_whole) .none kV_is_whole dc_is_whole pm_is_whole an_is_whole cd_is_whole ct_is_whole), sl_is_whole⟩)
    (c_is_whole : PySem.W.codeIn K cd_is_whole "is_whole" = true)
    (k_is_whole : PySem.W.keepIn K (.ref f_is_whole) = true)
    (a_is_link : PySem.W.nsIn K mainGlobals "is_link" = some (some (.ref f_is_link)))
    (l_is_link : K.lookup f_is_link = some ⟨oc_is_link, od_is_link, .func (PySem.W.fnOf "is_link" "is_link" (defArgs s_is_link) (defBody s_is_link) (defScope s_is_link) .none kV_is_link dc_is_link pm_is_link an_is_link cd_is_link ct_is_link), sl_is_link⟩)
    (c_is_link : PySem.W.codeIn K cd_is_link "is_link" = true)
    (k_is_link : PySem.W.keepIn K (.ref f_is_link) = true)
    (a_is_links : PySem.W.nsIn K mainGlobals "is_links" = some (some (.ref f_is_links)))
    (l_is_links : K.lookup f_is_links = some ⟨oc_is_links, od_is_links, .func (PySem.W.fnOf "is_links" "is_links" (defArgs s_is_links) (defBody s_is_links) (defScope s_is_links) (.ref D_is_links) kV_is_links dc_is_links pm_is_links an_is_links cd_is_links ct_is_links), sl_is_links⟩)
    (d_is_links : K.lookup D_is_links = some ⟨Doc_is_links, Dd_is_links, .seq #[(Value.int 120 u0_is_links)] Dn_is_links, Ds_is_links⟩)
    (c_is_links : PySem.W.codeIn K cd_is_links "is_links" = true)
    (k_is_links : PySem.W.keepIn K (.ref f_is_links) = true)
    (a__law_mixed : PySem.W.nsIn K mainGlobals "_law_mixed" = some (some (.ref f__law_mixed)))
    (l__law_mixed : K.lookup f__law_mixed = some ⟨oc__law_mixed, od__law_mixed, .func (PySem.W.fnOf "_law_mixed" "_law_mixed" (defArgs s__law_mixed) (defBody s__law_mixed) (defScope s__law_mixed) .none kV__law_mixed dc__law_mixed pm__law_mixed an__law_mixed cd__law_mixed ct__law_mixed), sl__law_mixed⟩)
    (c__law_mixed : PySem.W.codeIn K cd__law_mixed "_law_mixed" = true)
    (k__law_mixed : PySem.W.keepIn K (.ref f__law_mixed) = true)
    (a__law_draw : PySem.W.nsIn K mainGlobals "_law_draw" = some (some (.ref f__law_draw)))
    (l__law_draw : K.lookup f__law_draw = some ⟨oc__law_draw, od__law_draw, .func (PySem.W.fnOf "_law_draw" "_law_draw" (defArgs s__law_draw) (defBody s__law_draw) (defScope s__law_draw) .none kV__law_draw dc__law_draw pm__law_draw an__law_draw cd__law_draw ct__law_draw), sl__law_draw⟩)
    (c__law_draw : PySem.W.codeIn K cd__law_draw "_law_draw" = true)
    (k__law_draw : PySem.W.keepIn K (.ref f__law_draw) = true)
    (a__law_piece : PySem.W.nsIn K mainGlobals "_law_piece" = some (some (.ref f__law_piece)))
    (l__law_piece : K.lookup f__law_piece = some ⟨oc__law_piece, od__law_piece, .func (PySem.W.fnOf "_law_piece" "_law_piece" (defArgs s__law_piece) (defBody s__law_piece) (defScope s__law_piece) .none kV__law_piece dc__law_piece pm__law_piece an__law_piece cd__law_piece ct__law_piece), sl__law_piece⟩)
    (c__law_piece : PySem.W.codeIn K cd__law_piece "_law_piece" = true)
    (k__law_piece : PySem.W.keepIn K (.ref f__law_piece) = true)
    (a__law_words : PySem.W.nsIn K mainGlobals "_law_words" = some (some (.ref f__law_words)))
    (l__law_words : K.lookup f__law_words = some ⟨oc__law_words, od__law_words, .func (PySem.W.fnOf "_law_words" "_law_words" (defArgs s__law_words) (defBody s__law_words) (defScope s__law_words) .none kV__law_words dc__law_words pm__law_words an__law_words cd__law_words ct__law_words), sl__law_words⟩)
    (c__law_words : PySem.W.codeIn K cd__law_words "_law_words" = true)
    (k__law_words : PySem.W.keepIn K (.ref f__law_words) = true)
    (a__law_folded : PySem.W.nsIn K mainGlobals "_law_folded" = some (some (.ref f__law_folded)))
    (l__law_folded : K.lookup f__law_folded = some ⟨oc__law_folded, od__law_folded, .func (PySem.W.fnOf "_law_folded" "_law_folded" (defArgs s__law_folded) (defBody s__law_folded) (defScope s__law_folded) .none kV__law_folded dc__law_folded pm__law_folded an__law_folded cd__law_folded ct__law_folded), sl__law_folded⟩)
    (c__law_folded : PySem.W.codeIn K cd__law_folded "_law_folded" = true)
    (k__law_folded : PySem.W.keepIn K (.ref f__law_folded) = true)
    (a__law_begun : PySem.W.nsIn K mainGlobals "_law_begun" = some (some (.ref f__law_begun)))
    (l__law_begun : K.lookup f__law_begun = some ⟨oc__law_begun, od__law_begun, .func (PySem.W.fnOf "_law_begun" "_law_begun" (defArgs s__law_begun) (defBody s__law_begun) (defScope s__law_begun) .none kV__law_begun dc__law_begun pm__law_begun an__law_begun cd__law_begun ct__law_begun), sl__law_begun⟩)
    (c__law_begun : PySem.W.codeIn K cd__law_begun "_law_begun" = true)
    (k__law_begun : PySem.W.keepIn K (.ref f__law_begun) = true)
    (l_law : K.lookup f_law = some ⟨oc_law, od_law, .func (PySem.W.fnOf "law" "law" (defArgs s_law) (defBody s_law) (defScope s_law) .none kV_law dc_law pm_law an_law cd_law ct_law), sl_law⟩)
    (c_law : PySem.W.codeIn K cd_law "law" = true)
    (k_law : PySem.W.keepIn K (.ref f_law) = true)
    (hc_law : cd_law = .ref cc_law)
    (lc_law : K.lookup cc_law = some ⟨q0_law, q1_law, .fields q2_law, q3_law⟩)
    (vp_law : q2_law[11]? = some (.ref PP_law))
    (tn_law : K.lookup PP_law = none)
    (i_BadValue : PySem.W.findIn K (.ref C_BadValue) "__init__" = some (some (.ref f_i_BadValue)))
    (l_i_BadValue : K.lookup f_i_BadValue = some ⟨oc_i_BadValue, od_i_BadValue, .func (PySem.W.fnOf "__init__" "BadValue.__init__" (defArgs s_i_BadValue) (defBody s_i_BadValue) (defScope s_i_BadValue) .none kV_i_BadValue dc_i_BadValue pm_i_BadValue an_i_BadValue cd_i_BadValue ct_i_BadValue), sl_i_BadValue⟩)
    (c_i_BadValue : PySem.W.codeIn K cd_i_BadValue "BadValue.__init__" = true)
    (k_i_BadValue : PySem.W.keepIn K (.ref f_i_BadValue) = true)
    (ti_BadValue : PySem.W.typeIn K (.ref f_i_BadValue) = some (.type "function"))
    (no_BadValue : PySem.W.findIn K (.ref C_BadValue) "what" = some none)
    (x_BadValue : K.lookup C_BadValue = some (excClassObj nm_BadValue qn_BadValue C_BadValue N_BadValue bs_BadValue [.type "ValueError", .type "Exception", .type "BaseException", .type "object"] true sn_BadValue sub_BadValue ab_BadValue col_BadValue dd_BadValue m0_BadValue m1_BadValue m2_BadValue m3_BadValue m5_BadValue "ValueError.__new__"))
    (sa_BadValue : PySem.W.findIn K (.ref C_BadValue) "__setattr__" = some (some (.builtin "object.__setattr__")))
    (ga_BadValue : PySem.W.findIn K (.ref C_BadValue) "__getattribute__" = some (some (.builtin "BaseException.__getattribute__")))
    (gg_BadValue : PySem.W.findIn K (.ref C_BadValue) "__getattr__" = some none)
    (kc_BadValue : PySem.W.keepIn K (.ref C_BadValue) = true)
    (ec_BadValue : PySem.W.subIn K (.ref C_BadValue) (.type "BaseException") = some true)
    (tc_BadValue : PySem.W.typeIn K (.ref C_BadValue) = some (.type "type"))
    (hd_BadValue : PySem.W.hasDictIn K C_BadValue = true)
    (ha_BadValue : PySem.W.findIn K (.ref C_BadValue) "__class__" = some (some (.builtin "object.__class__")))
    (hn_BadValue : PySem.W.specialIn K (.builtin "object.__class__") "__get__" = some (some (.builtin "getset_descriptor.__get__")))
    (ht_BadValue : PySem.W.takesIn K (.builtin "object.__class__") = some true)
    (hm_BadValue : PySem.W.mroIn K C_BadValue (.type "object") = some true)
    (ko_BadValue : PySem.W.kitOne K (.ref C_BadValue) (.ref C_BadValue) = some true)
    (kb_BadValue : PySem.W.kitOne K (.ref C_BadValue) (.type "ValueError") = some true)
    (xm_BadValue : PySem.W.exmAny K (.ref C_BadValue) [.ref C_BadValue, .ref C_BadVerdict, .ref C_Gone, .ref C_Nested, .ref C_NotSo, .ref C_Spent] = some true)
    (hr_law : ((recsOf pq).find? fun e => e.name == ("law" : Str)).isSome = true)
    : Nonempty (LawW PySem.Challenge.rw_leastfail_k64_links_of_cases pq w K 6 63 "_law_script" mg fa) := by
  have hfa := PySem.W.mg_of XI GG a_law
  cases hfa0.symm.trans hfa
  let T : Txt K mg := {
    n_LookupError := PySem.W.mg_none_of XI GG z_LookupError,
    n_OverflowError := PySem.W.mg_none_of XI GG z_OverflowError,
    n_RuntimeError := PySem.W.mg_none_of XI GG z_RuntimeError,
    n_TypeError := PySem.W.mg_none_of XI GG z_TypeError,
    n_ValueError := PySem.W.mg_none_of XI GG z_ValueError,
    n_all := PySem.W.mg_none_of XI GG z_all,
    n_bool := PySem.W.mg_none_of XI GG z_bool,
    n_enumerate := PySem.W.mg_none_of XI GG z_enumerate,
    n_int := PySem.W.mg_none_of XI GG z_int,
    n_isinstance := PySem.W.mg_none_of XI GG z_isinstance,
    n_len := PySem.W.mg_none_of XI GG z_len,
    n_list := PySem.W.mg_none_of XI GG z_list,
    n_min := PySem.W.mg_none_of XI GG z_min,
    n_range := PySem.W.mg_none_of XI GG z_range,
    n_set := PySem.W.mg_none_of XI GG z_set,
    n_sorted := PySem.W.mg_none_of XI GG z_sorted,
    n_str := PySem.W.mg_none_of XI GG z_str,
    n_tuple := PySem.W.mg_none_of XI GG z_tuple,
    n_zip := PySem.W.mg_none_of XI GG z_zip,
    t_MOST_SIGNS := t_MOST_SIGNS,
    m_MOST_SIGNS := PySem.W.mg_of XI GG v_MOST_SIGNS,
    t_MOST_PIECES := t_MOST_PIECES,
    m_MOST_PIECES := PySem.W.mg_of XI GG v_MOST_PIECES,
    C_Case := C_Case,
    m_Case := PySem.W.mg_of XI GG a_Case,
    C_BadValue := C_BadValue,
    m_BadValue := PySem.W.mg_of XI GG a_BadValue,
    C_NotSo := C_NotSo,
    m_NotSo := PySem.W.mg_of XI GG a_NotSo,
    C_Nested := C_Nested,
    m_Nested := PySem.W.mg_of XI GG a_Nested,
    C_Spent := C_Spent,
    m_Spent := PySem.W.mg_of XI GG a_Spent,
    C_BadVerdict := C_BadVerdict,
    m_BadVerdict := PySem.W.mg_of XI GG a_BadVerdict,
    C_Gone := C_Gone,
    m_Gone := PySem.W.mg_of XI GG a_Gone,
    cl_Case := ⟨pg_Case, hd_Case, po_Case, sa_Case⟩,
    ins_Case := ⟨⟨pg_Case, hd_Case, po_Case, sa_Case⟩, ha_Case, hn_Case, ht_Case, hm_Case⟩,
    ko_Case := ko_Case,
    ki_Case_NoneType := kit_Case_of_NoneType,
    ki_Case_list := kit_Case_of_list,
    ki_Case_str := kit_Case_of_str,
    ki_Case_int := kit_Case_of_int,
    ki_Case_tuple := kit_Case_of_tuple,
    na_Case_all_pieces := na_Case_all_pieces,
    f_is_piece := f_is_piece,
    fd_is_piece := _,
    F_is_piece := ⟨⟨_, _, _, _, _, _, _, _, _, _, rfl, l_is_piece, c_is_piece, .inl ⟨rfl, rfl⟩, .inl rfl⟩, k_is_piece⟩,
    m_is_piece := PySem.W.mg_of XI GG a_is_piece,
    f_Case_init := f_Case_init,
    fd_Case_init := _,
    F_Case_init := ⟨⟨_, _, _, _, _, _, _, _, _, _, rfl, l_Case_init, c_Case_init, .inl ⟨rfl, rfl⟩, .inl rfl⟩, k_Case_init⟩,
    f__law_class := f__law_class,
    fd__law_class := _,
    F__law_class := ⟨⟨_, _, _, _, _, _, _, _, _, _, rfl, l__law_class, c__law_class, .inl ⟨rfl, rfl⟩, .inl rfl⟩, k__law_class⟩,
    m__law_class := PySem.W.mg_of XI GG a__law_class,
    f__law_told := f__law_told,
    fd__law_told := _,
    F__law_told := ⟨⟨_, _, _, _, _, _, _, _, _, _, rfl, l__law_told, c__law_told, .inl ⟨rfl, rfl⟩, .inl rfl⟩, k__law_told⟩,
    m__law_told := PySem.W.mg_of XI GG a__law_told,
    f_Case_pieces := f_Case_pieces,
    fd_Case_pieces := _,
    F_Case_pieces := ⟨⟨_, _, _, _, _, _, _, _, _, _, rfl, l_Case_pieces, c_Case_pieces, .inl ⟨rfl, rfl⟩, .inl rfl⟩, k_Case_pieces⟩,
    f_words_of := f_words_of,
    fd_words_of := _,
    F_words_of := ⟨⟨_, _, _, _, _, _, _, _, _, _, rfl, l_words_of, c_words_of, .inl ⟨rfl, rfl⟩, .inl rfl⟩, k_words_of⟩,
    m_words_of := PySem.W.mg_of XI GG a_words_of,
    f_links_of := f_links_of,
    fd_links_of := _,
    F_links_of := ⟨⟨_, _, _, _, _, _, _, _, _, _, rfl, l_links_of, c_links_of, .inl ⟨rfl, rfl⟩, .inl rfl⟩, k_links_of⟩,
    m_links_of := PySem.W.mg_of XI GG a_links_of,
    f__law_due := f__law_due,
    fd__law_due := _,
    F__law_due := ⟨⟨_, _, _, _, _, _, _, _, _, _, rfl, l__law_due, c__law_due, .inl ⟨rfl, rfl⟩, .inl rfl⟩, k__law_due⟩,
    m__law_due := PySem.W.mg_of XI GG a__law_due,
    f_is_whole := f_is_whole,
    fd_is_whole := _,
    F_is_whole := ⟨⟨_, _, _, _, _, _, _, _, _, _, rfl, l_is_whole, c_is_whole, .inl ⟨rfl, rfl⟩, .inl rfl⟩, k_is_whole⟩,
    m_is_whole := PySem.W.mg_of XI GG a_is_whole,
    f_is_link := f_is_link,
    fd_is_link := _,
    F_is_link := ⟨⟨_, _, _, _, _, _, _, _, _, _, rfl, l_is_link, c_is_link, .inl ⟨rfl, rfl⟩, .inl rfl⟩, k_is_link⟩,
    m_is_link := PySem.W.mg_of XI GG a_is_link,
    f_is_links := f_is_links,
    fd_is_links := _,
    F_is_links := ⟨⟨_, _, _, _, _, _, _, _, _, _, rfl, l_is_links, c_is_links, .inr ⟨(fun z => nomatch z), D_is_links, _, [(Value.int 120 u0_is_links)], _, rfl, d_is_links, rfl, (.cons ⟨_, rfl⟩ .nil)⟩, .inl rfl⟩, k_is_links⟩,
    m_is_links := PySem.W.mg_of XI GG a_is_links,
    f__law_mixed := f__law_mixed,
    fd__law_mixed := _,
    F__law_mixed := ⟨⟨_, _, _, _, _, _, _, _, _, _, rfl, l__law_mixed, c__law_mixed, .inl ⟨rfl, rfl⟩, .inl rfl⟩, k__law_mixed⟩,
    m__law_mixed := PySem.W.mg_of XI GG a__law_mixed,
    f__law_draw := f__law_draw,
    fd__law_draw := _,
    F__law_draw := ⟨⟨_, _, _, _, _, _, _, _, _, _, rfl, l__law_draw, c__law_draw, .inl ⟨rfl, rfl⟩, .inl rfl⟩, k__law_draw⟩,
    m__law_draw := PySem.W.mg_of XI GG a__law_draw,
    f__law_piece := f__law_piece,
    fd__law_piece := _,
    F__law_piece := ⟨⟨_, _, _, _, _, _, _, _, _, _, rfl, l__law_piece, c__law_piece, .inl ⟨rfl, rfl⟩, .inl rfl⟩, k__law_piece⟩,
    m__law_piece := PySem.W.mg_of XI GG a__law_piece,
    f__law_words := f__law_words,
    fd__law_words := _,
    F__law_words := ⟨⟨_, _, _, _, _, _, _, _, _, _, rfl, l__law_words, c__law_words, .inl ⟨rfl, rfl⟩, .inl rfl⟩, k__law_words⟩,
    m__law_words := PySem.W.mg_of XI GG a__law_words,
    f__law_folded := f__law_folded,
    fd__law_folded := _,
    F__law_folded := ⟨⟨_, _, _, _, _, _, _, _, _, _, rfl, l__law_folded, c__law_folded, .inl ⟨rfl, rfl⟩, .inl rfl⟩, k__law_folded⟩,
    m__law_folded := PySem.W.mg_of XI GG a__law_folded,
    f__law_begun := f__law_begun,
    fd__law_begun := _,
    F__law_begun := ⟨⟨_, _, _, _, _, _, _, _, _, _, rfl, l__law_begun, c__law_begun, .inl ⟨rfl, rfl⟩, .inl rfl⟩, k__law_begun⟩,
    m__law_begun := PySem.W.mg_of XI GG a__law_begun,
    f_law := fa,
    fd_law := _,
    F_law := ⟨⟨_, _, _, _, _, _, _, _, _, _, rfl, l_law, c_law, .inl ⟨rfl, rfl⟩, .inl rfl⟩, k_law⟩,
    m_law := hfa0,
    c_law := cc_law,
    P_law := PP_law,
    hc_law := hc_law,
    tb_law := tabIn_mk a_law l_law hc_law lc_law vp_law,
    tn_law := tn_law,
    me_Case_pieces := ⟨mt_Case_pieces, mf_Case_pieces, k_Case_pieces⟩,
    mk_Case := ⟨mi_Case, mt_Case_init, mf_Case_init, mk_Case⟩,
    f_i_BadValue := f_i_BadValue,
    fd_i_BadValue := _,
    F_i_BadValue := ⟨⟨_, _, _, _, _, _, _, _, _, _, rfl, l_i_BadValue, c_i_BadValue, .inl ⟨rfl, rfl⟩, .inl rfl⟩, k_i_BadValue⟩,
    i_BadValue := i_BadValue,
    ti_BadValue := ti_BadValue,
    no_BadValue := no_BadValue,
    ox_BadValue := ⟨⟨_, _, _, _, _, _, _, _, _, _, _, _, _, _, _, x_BadValue, by decide +kernel⟩, sa_BadValue, ec_BadValue, tc_BadValue, kc_BadValue⟩,
    xf_BadValue := ⟨ga_BadValue, gg_BadValue, ec_BadValue, hd_BadValue⟩,
    xc_BadValue := ⟨ga_BadValue, gg_BadValue, ec_BadValue, hd_BadValue, ha_BadValue, hn_BadValue, ht_BadValue, hm_BadValue⟩,
    ko_BadValue := ko_BadValue,
    kb_BadValue := kb_BadValue,
    xm_BadValue := xm_BadValue }
  exact ⟨{ fd := T.fd_law, tb := [(T.c_law, T.P_law, fun _ _ => "law.<locals>.<lambda>")], sp := sp_law T, tab := (by intro p hp; simp only [List.mem_cons, List.not_mem_nil, or_false] at hp; rcases hp with rfl <;> (first | exact ⟨"law", hr_law, T.tb_law⟩)), none := (by intro p hp; simp only [List.mem_cons, List.not_mem_nil, or_false] at hp; rcases hp with rfl <;> (first | exact T.tn_law)), bind := fun s v => .of_eq rfl, ok := fin_law T, run := fun base _ _ hTB => ok_law T (hTB (T.c_law, T.P_law, fun _ _ => "law.<locals>.<lambda>") (by simp)) }⟩
end LawX
open PySem PySem.W PyProof.Rows in
set_option maxRecDepth 100000 in
set_option maxHeartbeats 0 in
theorem PySem.Challenge.cw_leastfail_k64_links_of_cases_holds : PySem.Challenge.rw_leastfail_k64_links_of_cases.Holds := by
  w_on; o_law; k_head; (case hw => w_witness2)
  k_fill
  refine LF.walk_w (l := PySem.Challenge.rw_leastfail_k64_links_of_cases) (k := 6) (n := 63) (x := "_law_script") rfl (by decide) rfl ⟨rfl, by decide, by decide⟩ (fun w h Y => by first | exact PySem.W.kIn_of Y | exact PySem.W.km_in_of Y) ?F
  case F =>
    intro w mg fa h KX GG hmg
    refine' LawX.all_mk KX GG hmg ?a_law ?z_LookupError ?z_OverflowError ?z_RuntimeError ?z_TypeError ?z_ValueError ?z_all ?z_bool ?z_enumerate ?z_int ?z_isinstance ?z_len ?z_list ?z_min ?z_range ?z_set ?z_sorted ?z_str ?z_tuple ?z_zip ?v_MOST_SIGNS ?v_MOST_PIECES ?a_Case ?a_BadValue ?a_NotSo ?a_Nested ?a_Spent ?a_BadVerdict ?a_Gone ?pg_Case ?hd_Case ?po_Case ?sa_Case ?ha_Case ?hn_Case ?ht_Case ?hm_Case ?ko_Case ?kit_Case_of_NoneType ?kit_Case_of_list ?kit_Case_of_str ?kit_Case_of_int ?kit_Case_of_tuple ?na_Case_all_pieces ?mt_Case_pieces ?mf_Case_pieces ?mi_Case ?mt_Case_init ?mf_Case_init ?mk_Case ?a_is_piece ?l_is_piece ?c_is_piece ?k_is_piece ?l_Case_init ?c_Case_init ?k_Case_init ?a__law_class ?l__law_class ?c__law_class ?k__law_class ?a__law_told ?l__law_told ?c__law_told ?k__law_told ?l_Case_pieces ?c_Case_pieces ?k_Case_pieces ?a_words_of ?l_words_of ?c_words_of ?k_words_of ?a_links_of ?l_links_of ?c_links_of ?k_links_of ?a__law_due ?l__law_due ?c__law_due ?k__law_due ?a_is_whole ?l_is_whole ?c_is_whole ?k_is_whole ?a_is_link ?l_is_link ?c_is_link ?k_is_link ?a_is_links ?l_is_links ?d_is_links ?c_is_links ?k_is_links ?a__law_mixed ?l__law_mixed ?c__law_mixed ?k__law_mixed ?a__law_draw ?l__law_draw ?c__law_draw ?k__law_draw ?a__law_piece ?l__law_piece ?c__law_piece ?k__law_piece ?a__law_words ?l__law_words ?c__law_words ?k__law_words ?a__law_folded ?l__law_folded ?c__law_folded ?k__law_folded ?a__law_begun ?l__law_begun ?c__law_begun ?k__law_begun ?l_law ?c_law ?k_law ?hc_law ?lc_law ?vp_law ?tn_law ?i_BadValue ?l_i_BadValue ?c_i_BadValue ?k_i_BadValue ?ti_BadValue ?no_BadValue ?x_BadValue ?sa_BadValue ?ga_BadValue ?gg_BadValue ?kc_BadValue ?ec_BadValue ?tc_BadValue ?hd_BadValue ?ha_BadValue ?hn_BadValue ?ht_BadValue ?hm_BadValue ?ko_BadValue ?kb_BadValue ?xm_BadValue ?hr_law
    (case a_law => k_is)
    (case z_LookupError => k_is)
    (case z_OverflowError => k_is)
    (case z_RuntimeError => k_is)
    (case z_TypeError => k_is)
    (case z_ValueError => k_is)
    (case z_all => k_is)
    (case z_bool => k_is)
    (case z_enumerate => k_is)
    (case z_int => k_is)
    (case z_isinstance => k_is)
    (case z_len => k_is)
    (case z_list => k_is)
    (case z_min => k_is)
    (case z_range => k_is)
    (case z_set => k_is)
    (case z_sorted => k_is)
    (case z_str => k_is)
    (case z_tuple => k_is)
    (case z_zip => k_is)
    (case v_MOST_SIGNS => k_is)
    (case v_MOST_PIECES => k_is)
    (case a_Case => k_is)
    (case a_BadValue => k_is)
    (case a_NotSo => k_is)
    (case a_Nested => k_is)
    (case a_Spent => k_is)
    (case a_BadVerdict => k_is)
    (case a_Gone => k_is)
    (case pg_Case => k_is)
    (case hd_Case => k_is)
    (case po_Case => k_is)
    (case sa_Case => k_is)
    (case ha_Case => k_is)
    (case hn_Case => k_is)
    (case ht_Case => k_is)
    (case hm_Case => k_is)
    (case ko_Case => kit_is)
    (case kit_Case_of_NoneType => kit_is)
    (case kit_Case_of_list => kit_is)
    (case kit_Case_of_str => kit_is)
    (case kit_Case_of_int => kit_is)
    (case kit_Case_of_tuple => kit_is)
    (case na_Case_all_pieces => k_is)
    (case mt_Case_pieces => k_is)
    (case mf_Case_pieces => k_is)
    (case mi_Case => k_is)
    (case mt_Case_init => k_is)
    (case mf_Case_init => k_is)
    (case mk_Case => k_is)
    (case a_is_piece => k_is)
    (case l_is_piece => k_is)
    (case c_is_piece => k_is)
    (case k_is_piece => k_is)
    (case l_Case_init => k_is)
    (case c_Case_init => k_is)
    (case k_Case_init => k_is)
    (case a__law_class => k_is)
    (case l__law_class => k_is)
    (case c__law_class => k_is)
    (case k__law_class => k_is)
    (case a__law_told => k_is)
    (case l__law_told => k_is)
    (case c__law_told => k_is)
    (case k__law_told => k_is)
    (case l_Case_pieces => k_is)
    (case c_Case_pieces => k_is)
    (case k_Case_pieces => k_is)
    (case a_words_of => k_is)
    (case l_words_of => k_is)
    (case c_words_of => k_is)
    (case k_words_of => k_is)
    (case a_links_of => k_is)
    (case l_links_of => k_is)
    (case c_links_of => k_is)
    (case k_links_of => k_is)
    (case a__law_due => k_is)
    (case l__law_due => k_is)
    (case c__law_due => k_is)
    (case k__law_due => k_is)
    (case a_is_whole => k_is)
    (case l_is_whole => k_is)
    (case c_is_whole => k_is)
    (case k_is_whole => k_is)
    (case a_is_link => k_is)
    (case l_is_link => k_is)
    (case c_is_link => k_is)
    (case k_is_link => k_is)
    (case a_is_links => k_is)
    (case l_is_links => k_is)
    (case d_is_links => k_is)
    (case c_is_links => k_is)
    (case k_is_links => k_is)
    (case a__law_mixed => k_is)
    (case l__law_mixed => k_is)
    (case c__law_mixed => k_is)
    (case k__law_mixed => k_is)
    (case a__law_draw => k_is)
    (case l__law_draw => k_is)
    (case c__law_draw => k_is)
    (case k__law_draw => k_is)
    (case a__law_piece => k_is)
    (case l__law_piece => k_is)
    (case c__law_piece => k_is)
    (case k__law_piece => k_is)
    (case a__law_words => k_is)
    (case l__law_words => k_is)
    (case c__law_words => k_is)
    (case k__law_words => k_is)
    (case a__law_folded => k_is)
    (case l__law_folded => k_is)
    (case c__law_folded => k_is)
    (case k__law_folded => k_is)
    (case a__law_begun => k_is)
    (case l__law_begun => k_is)
    (case c__law_begun => k_is)
    (case k__law_begun => k_is)
    (case l_law => k_is)
    (case c_law => k_is)
    (case k_law => k_is)
    (case hc_law => rfl)
    (case lc_law => k_is)
    (case vp_law => rfl)
    (case tn_law => kernel_rfl)
    (case i_BadValue => k_is)
    (case l_i_BadValue => k_is)
    (case c_i_BadValue => k_is)
    (case k_i_BadValue => k_is)
    (case ti_BadValue => k_is)
    (case no_BadValue => k_is)
    (case x_BadValue => k_is)
    (case sa_BadValue => k_is)
    (case ga_BadValue => k_is)
    (case gg_BadValue => k_is)
    (case kc_BadValue => k_is)
    (case ec_BadValue => k_is)
    (case tc_BadValue => k_is)
    (case hd_BadValue => k_is)
    (case ha_BadValue => k_is)
    (case hn_BadValue => k_is)
    (case ht_BadValue => k_is)
    (case hm_BadValue => k_is)
    (case ko_BadValue => kit_is)
    (case kb_BadValue => kit_is)
    (case xm_BadValue => kts_exm)
    (case hr_law => decide +kernel)
