import PyProof.Rows.All
import Wide.All
import OpenK.AllK
import Wide.FinOn
import HandS.ForMost
import HandS.Exc
import HandS.TryMany
import HandS.TryOnly
import HandS.CallSlots
import HandS.TupAny
import HandS.TupMul
import HandS.Defaults
import HandS.IsInst
import HandS.Conv
import HandS.Zip
import HandS.Rev
import HandS.RevRange
import HandS.Style
import HandS.ExcInit
import HandS.Lambda
import HandS.SortInts
import HandS.TupLen
import HandS.RaiseMore
import PyProof.ReprRoads
import KE.KExcIs
import HandS.ExcIs
import HandS.Walk
import HandS.ExcOwn
import KE.KTryMore
import HandS.ExcField
import PyProof.StrOps2
import HandS.EndTab
import HandS.SetFor
import HandS.DictComp
import HandS.MakeKwOnly
import HandS.SortRule
import HandS.Deep
import HandS.Dict
import HandS.TupLe
import HandS.SetKeys
import PySem.Challenge.RW_leastfail_k63_what_hangs_on_what
set_option Elab.async false
set_option linter.all false
set_option maxRecDepth 100000
set_option maxHeartbeats 2000000
/-! LF1: values as trees over the hand layer -/
namespace LF
open PySem PySem.Spec PyProof.Rows L2

/-- a value as a tree: tuples are their items, all that may change is met by its address -/
inductive Wv where
  | non | bl (b : Bool) | int (i : Int) | str (x : Str) | ty (n : String) | ref (a : Addr) | tup (ws : List Wv)
  /-- a lambda at f, made when HL stood -/
  | fn (f : Addr) (HL : Hp)
  /-- the script: a list that is never written -/
  | kls (ws : List Wv)

/-- what is never changed once it stands -/
def Still : HO → Prop
  | .tup _ => True
  | .ext _ => True
  | .xd _ => True
  | .frz _ _ => True
  | _ => False
/-- tuples, made errors, codes stay -/
def TX (K : PySem.W.Frag) (H H' : Hp) : Prop := ∀ a o, Still o → H a = some o → H' a = some o
/-- a list that is known for good -/
def SqF (K : PySem.W.Frag) (H : Hp) (a : Addr) (xs : List V) : Prop := (∃ o, H a = some (.frz o (.lst xs))) ∨ ∃ (o : Obj) (its : Array Value) (n : Nat), K.lookup a = some o ∧ o.cls = .type "list" ∧ o.dict = none ∧ o.data = .seq its n ∧ its.size ≤ sizeLine ∧ Vals xs its.toList
theorem SqF.sq {K : PySem.W.Frag} {H : Hp} {a : Addr} {xs : List V} (h : SqF K H a xs) : SqL K H a xs := h.elim (fun z => .inl (.inr z)) .inr
mutual
inductive RW (K : PySem.W.Frag) (H : Hp) : Wv → V → Prop
  | non : RW K H .non .non
  | bl (b : Bool) : RW K H (.bl b) (.bl b)
  | int (i : Int) : RW K H (.int i) (.int i)
  | str (x : Str) : RW K H (.str x) (.str x)
  | ty (n : String) : RW K H (.ty n) (.ty n)
  | ref (a : Addr) : RW K H (.ref a) (.ref a)
  | tup {a : Addr} {xs : List V} {ws : List Wv} : H a = some (.tup xs) → RWs K H ws xs → RW K H (.tup ws) (.ref a)
  | fn {f : Addr} {HL : Hp} : TX K HL H → RW K H (.fn f HL) (.ref f)
  | kls {a : Addr} {xs : List V} {ws : List Wv} : SqF K H a xs → RWs K H ws xs → RW K H (.kls ws) (.ref a)
inductive RWs (K : PySem.W.Frag) (H : Hp) : List Wv → List V → Prop
  | nil : RWs K H [] []
  | cons {w : Wv} {v : V} {ws : List Wv} {vs : List V} : RW K H w v → RWs K H ws vs → RWs K H (w :: ws) (v :: vs)
end

section
variable {K : PySem.W.Frag} {H H' H1 H2 : Hp}
theorem TX.refl : TX K H H := fun _ _ _ h => h
theorem TX.trans (a : TX K H H1) (b : TX K H1 H2) : TX K H H2 := fun x xs z h => b x xs z (a x xs z h)
theorem TX.new {p : Addr} {u : HO} (h : H p = none) : TX K H (upd H p u) := fun a v _ e => by
  rw [upd_ne (ne_of_none e h)]; exact e
/-- what is no tuple may change -/
def NoTup (u : HO) : Prop := ¬ Still u
theorem TX.put {p : Addr} {u u' : HO} (h : H p = some u) (n : NoTup u) : TX K H (upd H p u') := fun a v st e => by
  have ne : a ≠ p := fun z => by
    subst z
    rw [h] at e
    cases e
    exact n st
  rw [upd_ne ne]; exact e
theorem noTup_lst {xs : List V} : NoTup (.lst xs) := fun z => z
theorem noTup_dK {xs : List (Key × V)} : NoTup (.dK xs) := fun z => z
theorem noTup_dT {xs : List (List Key × V)} : NoTup (.dT xs) := fun z => z
theorem SqF.mono (t : TX K H H') {a : Addr} {xs : List V} (h : SqF K H a xs) : SqF K H' a xs := h.elim (fun ⟨o, e⟩ => .inl ⟨o, t _ _ trivial e⟩) .inr
theorem noTup_ins {C dx : Addr} {fs : List (Str × V)} : NoTup (.ins C dx fs) := fun z => z

mutual
theorem RW.mono (t : TX K H H') : ∀ {w : Wv} {v : V}, RW K H w v → RW K H' w v
  | _, _, .non => .non
  | _, _, .bl b => .bl b
  | _, _, .int i => .int i
  | _, _, .str x => .str x
  | _, _, .ty n => .ty n
  | _, _, .ref a => .ref a
  | _, _, .tup h hs => .tup (t _ _ trivial h) (RWs.mono t hs)
  | _, _, .fn h => .fn (TX.trans h t)
  | _, _, .kls h hs => .kls (h.mono t) (RWs.mono t hs)
theorem RWs.mono (t : TX K H H') : ∀ {ws : List Wv} {vs : List V}, RWs K H ws vs → RWs K H' ws vs
  | _, _, .nil => .nil
  | _, _, .cons h hs => .cons (RW.mono t h) (RWs.mono t hs)
end
theorem RWs.len : ∀ {ws : List Wv} {vs : List V}, RWs K H ws vs → vs.length = ws.length
  | _, _, .nil => rfl
  | _, _, .cons _ hs => congrArg (· + 1) (RWs.len hs)
theorem RWs.get : ∀ {ws : List Wv} {vs : List V} {i : Nat} {w : Wv}, RWs K H ws vs → ws[i]? = some w → ∃ v, vs[i]? = some v ∧ RW K H w v
  | _, _, _, _, .nil, e => by simp at e
  | _, _, 0, _, .cons h _, e => by simp at e; subst e; exact ⟨_, rfl, h⟩
  | _, _, i + 1, w, .cons _ hs, e => by
    obtain ⟨v, a, b⟩ := RWs.get (i := i) (w := w) hs (by simpa using e)
    exact ⟨v, by simpa using a, b⟩
theorem RWs.getV : ∀ {ws : List Wv} {vs : List V} {i : Nat} {v : V}, RWs K H ws vs → vs[i]? = some v → ∃ w, ws[i]? = some w ∧ RW K H w v
  | _, _, _, _, .nil, e => by simp at e
  | _, _, 0, _, .cons h _, e => by simp at e; subst e; exact ⟨_, rfl, h⟩
  | _, _, i + 1, v, .cons _ hs, e => by
    obtain ⟨w, a, b⟩ := RWs.getV (i := i) (v := v) hs (by simpa using e)
    exact ⟨w, by simpa using a, b⟩
theorem RWs.app : ∀ {ws us : List Wv} {vs xs : List V}, RWs K H ws vs → RWs K H us xs → RWs K H (ws ++ us) (vs ++ xs)
  | _, _, _, _, .nil, h => h
  | _, _, _, _, .cons a b, h => .cons a (RWs.app b h)
theorem RWs.take : ∀ {ws : List Wv} {vs : List V} (n : Nat), RWs K H ws vs → RWs K H (ws.take n) (vs.take n)
  | _, _, 0, _ => .nil
  | _, _, _ + 1, .nil => .nil
  | _, _, n + 1, .cons a b => .cons a (RWs.take n b)
theorem RWs.drop : ∀ {ws : List Wv} {vs : List V} (n : Nat), RWs K H ws vs → RWs K H (ws.drop n) (vs.drop n)
  | _, _, 0, h => h
  | _, _, _ + 1, .nil => .nil
  | _, _, n + 1, .cons _ b => RWs.drop n b
theorem RWs.set {w : Wv} {v : V} (h : RW K H w v) : ∀ {ws : List Wv} {vs : List V} (n : Nat), RWs K H ws vs → RWs K H (ws.set n w) (vs.set n v)
  | _, _, _, .nil => .nil
  | _, _, 0, .cons _ b => .cons h b
  | _, _, n + 1, .cons a b => .cons a (RWs.set h n b)
theorem RWs.rev {ws : List Wv} {vs : List V} (h : RWs K H ws vs) : RWs K H ws.reverse vs.reverse := by
  induction ws generalizing vs with
  | nil => cases h; exact .nil
  | cons w ws ih =>
    cases h with
    | cons a b =>
      rw [List.reverse_cons, List.reverse_cons]
      exact RWs.app (ih b) (.cons a .nil)
theorem RWs.rep {ws : List Wv} {vs : List V} (h : RWs K H ws vs) : ∀ n : Nat, RWs K H (List.replicate n ws).flatten (List.replicate n vs).flatten
  | 0 => .nil
  | n + 1 => by
    rw [List.replicate_succ, List.replicate_succ, List.flatten_cons, List.flatten_cons]
    exact RWs.app h (RWs.rep h n)
theorem RWs.dropLast {ws : List Wv} {vs : List V} (h : RWs K H ws vs) : RWs K H ws.dropLast vs.dropLast := by
  rw [List.dropLast_eq_take, List.dropLast_eq_take, h.len]
  exact h.take _
theorem RWs.isEmpty {ws : List Wv} {vs : List V} (h : RWs K H ws vs) : vs.isEmpty = ws.isEmpty := by cases h <;> rfl
theorem RWs.ints {ws : List Int} : ∀ {vs : List V}, RWs K H (ws.map Wv.int) vs → vs = ws.map V.int := by
  induction ws with
  | nil => intro vs h; cases h; rfl
  | cons i ws ih =>
    intro vs h
    cases h with
    | cons a b => cases a; rw [ih b]; rfl
theorem RWs.ofInts : ∀ (ws : List Int), RWs K H (ws.map Wv.int) (ws.map V.int)
  | [] => .nil
  | i :: ws => .cons (.int i) (RWs.ofInts ws)
theorem RWs.bls {ws : List Bool} : ∀ {vs : List V}, RWs K H (ws.map Wv.bl) vs → vs = ws.map V.bl := by
  induction ws with
  | nil => intro vs h; cases h; rfl
  | cons i ws ih =>
    intro vs h
    cases h with
    | cons a b => cases a; rw [ih b]; rfl
theorem RWs.strs {ws : List Str} : ∀ {vs : List V}, RWs K H (ws.map Wv.str) vs → vs = ws.map V.str := by
  induction ws with
  | nil => intro vs h; cases h; rfl
  | cons i ws ih =>
    intro vs h
    cases h with
    | cons a b => cases a; rw [ih b]; rfl
theorem RWs.ofStrs : ∀ (ws : List Str), RWs K H (ws.map Wv.str) (ws.map V.str)
  | [] => .nil
  | i :: ws => .cons (.str i) (RWs.ofStrs ws)
end

/-- what stands at an address -/
inductive O where
  | lst (ws : List Wv) | flst (ws : List Wv) | dct (kvs : List (Key × Wv)) | dtp (kvs : List (List Key × Wv)) | ins (C dx : Addr) (fs : List (Str × Wv)) | raw (u : HO)
  /-- the caught error at a; a table of code objects of the name q -/
  | exc (a : Addr) (cls : Value) (fs : List (Str × Wv)) | tab (q : Str)

/-- fields, entries: names alike, values told -/
abbrev RKs {κ : Type} (K : PySem.W.Frag) (H : Hp) : List (κ × Wv) → List (κ × V) → Prop := Paired fun p q => p.1 = q.1 ∧ RW K H p.2 q.2
/-- an exception's own fields -/
def RX (K : PySem.W.Frag) (H : Hp) : Option Addr → List (Str × Wv) → Prop
  | none, fs => fs = []
  | some d, fs => ∃ vs, H d = some (.xd vs) ∧ RKs K H fs vs
/-- the error at a, of the class cls, its dict d -/
def XcO (a : Addr) (cls : Value) (d : Option Addr) : HO := .ext fun h => ∃ oe vs, h.get? a = some oe ∧ Zc cls d oe ∧ oe.data = .fields vs
def RO (K : PySem.W.Frag) (H : Hp) : O → HO → Prop
  | .lst ws, u => ∃ xs, u = .lst xs ∧ RWs K H ws xs
  | .flst ws, u => ∃ o xs, u = .frz o (.lst xs) ∧ RWs K H ws xs
  | .dct kvs, u => ∃ vs, u = .dK vs ∧ RKs K H kvs vs
  | .dtp kvs, u => ∃ vs, u = .dT vs ∧ RKs K H kvs vs
  | .ins C dx fs, u => ∃ vs, u = .ins C dx vs ∧ RKs K H fs vs
  | .raw x, u => u = x
  | .exc a cls fs, u => ∃ d, u = XcO a cls d ∧ RX K H d fs
  | .tab q, u => ∃ ps : Array Value, u = .tbl ps ∧ TriplesOk ps.toList ∧ ∀ (pos : Pos) (cv : Value), codeAmong pos ps.toList = some cv → ∃ c, cv = .ref c ∧ H c = some (LamX.CodeO c q)
abbrev HW := Addr → Option O
def updO (G : HW) (a : Addr) (o : O) : HW := fun b => if b = a then some o else G b
theorem updO_same {G : HW} {a : Addr} {o : O} : updO G a o a = some o := by unfold updO; rw [if_pos rfl]
theorem updO_ne {G : HW} {a b : Addr} {o : O} (h : b ≠ a) : updO G a o b = G b := by unfold updO; rw [if_neg h]
theorem updO_updO {G : HW} {a : Addr} {o o' : O} : updO (updO G a o) a o' = updO G a o' := by
  funext b; unfold updO; split <;> rfl
def RH (K : PySem.W.Frag) (G : HW) (H : Hp) : Prop := ∀ a o, G a = some o → ∃ u, H a = some u ∧ RO K H o u
section
variable {K : PySem.W.Frag} {G G' : HW} {H H' H1 H2 : Hp}
theorem RKs.mono {κ : Type} (t : TX K H H') {xs : List (κ × Wv)} {ys : List (κ × V)} (h : RKs K H xs ys) : RKs K H' xs ys := L2.Paired.mapP h fun _ _ z => ⟨z.1, z.2.mono t⟩
theorem RX.mono (t : TX K H H') {d : Option Addr} {fs : List (Str × Wv)} (h : RX K H d fs) : RX K H' d fs := by
  cases d with
  | none => exact h
  | some d =>
    obtain ⟨vs, e, q⟩ := h
    exact ⟨vs, t _ _ trivial e, q.mono t⟩
theorem RO.mono (t : TX K H H') {o : O} {u : HO} (h : RO K H o u) : RO K H' o u := by
  cases o with
  | lst ws => obtain ⟨xs, e, r⟩ := h; exact ⟨xs, e, r.mono t⟩
  | flst ws => obtain ⟨ob, xs, e, r⟩ := h; exact ⟨ob, xs, e, r.mono t⟩
  | dct kvs => obtain ⟨xs, e, r⟩ := h; exact ⟨xs, e, r.mono t⟩
  | dtp kvs => obtain ⟨xs, e, r⟩ := h; exact ⟨xs, e, r.mono t⟩
  | ins C dx fs => obtain ⟨xs, e, r⟩ := h; exact ⟨xs, e, r.mono t⟩
  | raw x => exact h
  | exc a cls fs => obtain ⟨d, e, r⟩ := h; exact ⟨d, e, r.mono t⟩
  | tab q =>
    obtain ⟨ps, e, r1, r2⟩ := h
    refine ⟨ps, e, r1, fun pos cv z => ?_⟩
    obtain ⟨c, e1, e2⟩ := r2 pos cv z
    exact ⟨c, e1, t _ _ trivial e2⟩
theorem RH.fresh (r : RH K G H) {p : Addr} (h : H p = none) : G p = none := by
  cases e : G p with
  | none => rfl
  | some o => obtain ⟨u, hu, _⟩ := r p o e; rw [h] at hu; cases hu
/-- laid anew -/
theorem RH.new (r : RH K G H) {p : Addr} {o : O} {u : HO} (h : H p = none) (ro : RO K (upd H p u) o u) : RH K (updO G p o) (upd H p u) := fun a x e => by
  by_cases ha : a = p
  · subst ha
    rw [updO_same] at e; cases e
    exact ⟨u, upd_same, ro⟩
  · rw [updO_ne ha] at e
    obtain ⟨v, hv, rv⟩ := r a x e
    exact ⟨v, by rw [upd_ne ha]; exact hv, rv.mono (TX.new h)⟩
/-- laid, not told -/
theorem RH.kept (r : RH K G H) {p : Addr} {u : HO} (h : H p = none) : RH K G (upd H p u) := fun a x e => by
  obtain ⟨v, hv, rv⟩ := r a x e
  exact ⟨v, by rw [upd_ne (ne_of_none hv h)]; exact hv, rv.mono (TX.new h)⟩
/-- written -/
theorem RH.put (r : RH K G H) {p : Addr} {o : O} {u u0 : HO} (h : H p = some u0) (n : NoTup u0) (ro : RO K (upd H p u) o u) : RH K (updO G p o) (upd H p u) := fun a x e => by
  by_cases ha : a = p
  · subst ha
    rw [updO_same] at e; cases e
    exact ⟨u, upd_same, ro⟩
  · rw [updO_ne ha] at e
    obtain ⟨v, hv, rv⟩ := r a x e
    exact ⟨v, by rw [upd_ne ha]; exact hv, rv.mono (TX.put h n)⟩
theorem RH.lst (r : RH K G H) {a : Addr} {ws : List Wv} (h : G a = some (.lst ws)) : ∃ xs, H a = some (.lst xs) ∧ RWs K H ws xs := by
  obtain ⟨u, hu, xs, rfl, q⟩ := r a _ h
  exact ⟨xs, hu, q⟩
theorem RH.flst (r : RH K G H) {a : Addr} {ws : List Wv} (h : G a = some (.flst ws)) : ∃ o xs, H a = some (.frz o (.lst xs)) ∧ RWs K H ws xs := by
  obtain ⟨u, hu, o, xs, rfl, q⟩ := r a _ h
  exact ⟨o, xs, hu, q⟩
theorem RH.dct (r : RH K G H) {a : Addr} {ws : List (Key × Wv)} (h : G a = some (.dct ws)) : ∃ xs, H a = some (.dK xs) ∧ RKs K H ws xs := by
  obtain ⟨u, hu, xs, rfl, q⟩ := r a _ h
  exact ⟨xs, hu, q⟩
theorem RH.dtp (r : RH K G H) {a : Addr} {ws : List (List Key × Wv)} (h : G a = some (.dtp ws)) : ∃ xs, H a = some (.dT xs) ∧ RKs K H ws xs := by
  obtain ⟨u, hu, xs, rfl, q⟩ := r a _ h
  exact ⟨xs, hu, q⟩
theorem RH.ins (r : RH K G H) {a C dx : Addr} {fs : List (Str × Wv)} (h : G a = some (.ins C dx fs)) : ∃ xs, H a = some (.ins C dx xs) ∧ RKs K H fs xs := by
  obtain ⟨u, hu, xs, rfl, q⟩ := r a _ h
  exact ⟨xs, hu, q⟩
theorem RH.exc (r : RH K G H) {a e : Addr} {cls : Value} {fs : List (Str × Wv)} (h : G a = some (.exc e cls fs)) : ∃ d, H a = some (XcO e cls d) ∧ RX K H d fs := by
  obtain ⟨u, hu, d, rfl, q⟩ := r a _ h
  exact ⟨d, hu, q⟩
theorem RH.raw (r : RH K G H) {a : Addr} {u : HO} (h : G a = some (.raw u)) : H a = some u := by
  obtain ⟨x, hu, q⟩ := r a _ h
  obtain rfl : x = u := q
  exact hu
theorem RH.newL (r : RH K G H) {p : Addr} {ws : List Wv} {xs : List V} (h : H p = none) (q : RWs K H ws xs) : RH K (updO G p (.lst ws)) (upd H p (.lst xs)) := r.new h ⟨xs, rfl, q.mono (TX.new h)⟩
theorem RH.putL (r : RH K G H) {p : Addr} {ws : List Wv} {xs x0 : List V} (h : H p = some (.lst x0)) (q : RWs K H ws xs) : RH K (updO G p (.lst ws)) (upd H p (.lst xs)) := r.put h noTup_lst ⟨xs, rfl, q.mono (TX.put h noTup_lst)⟩
theorem RH.newD (r : RH K G H) {p : Addr} {ws : List (Key × Wv)} {xs : List (Key × V)} (h : H p = none) (q : RKs K H ws xs) : RH K (updO G p (.dct ws)) (upd H p (.dK xs)) := r.new h ⟨xs, rfl, q.mono (TX.new h)⟩
theorem RH.putD (r : RH K G H) {p : Addr} {ws : List (Key × Wv)} {xs x0 : List (Key × V)} (h : H p = some (.dK x0)) (q : RKs K H ws xs) : RH K (updO G p (.dct ws)) (upd H p (.dK xs)) := r.put h noTup_dK ⟨xs, rfl, q.mono (TX.put h noTup_dK)⟩
theorem RH.newT (r : RH K G H) {p : Addr} {ws : List (List Key × Wv)} {xs : List (List Key × V)} (h : H p = none) (q : RKs K H ws xs) : RH K (updO G p (.dtp ws)) (upd H p (.dT xs)) := r.new h ⟨xs, rfl, q.mono (TX.new h)⟩
theorem RH.putT (r : RH K G H) {p : Addr} {ws : List (List Key × Wv)} {xs x0 : List (List Key × V)} (h : H p = some (.dT x0)) (q : RKs K H ws xs) : RH K (updO G p (.dtp ws)) (upd H p (.dT xs)) := r.put h noTup_dT ⟨xs, rfl, q.mono (TX.put h noTup_dT)⟩
theorem RH.putI (r : RH K G H) {p C dx : Addr} {ws : List (Str × Wv)} {xs x0 : List (Str × V)} (h : H p = some (.ins C dx x0)) (q : RKs K H ws xs) : RH K (updO G p (.ins C dx ws)) (upd H p (.ins C dx xs)) := r.put h noTup_ins ⟨xs, rfl, q.mono (TX.put h noTup_ins)⟩
/-- a list that is read -/
def RdL (G : HW) (a : Addr) (ws : List Wv) : Prop := G a = some (.lst ws) ∨ G a = some (.flst ws)
theorem RH.rdl (r : RH K G H) {a : Addr} {ws : List Wv} (h : RdL G a ws) : ∃ xs, SqL K H a xs ∧ RWs K H ws xs := by
  rcases h with h | h
  · obtain ⟨xs, e, q⟩ := r.lst h
    exact ⟨xs, SqL.of e, q⟩
  · obtain ⟨o, xs, e, q⟩ := r.flst h
    exact ⟨xs, .inl (.inr ⟨o, e⟩), q⟩
end

/-! ### slots, wishes -/
abbrev SW := List (Option Wv)
abbrev WK := Wv → HW → Prop
abbrev XW := Value → List (Str × Wv) → SW → HW → Prop
abbrev ET := XW → SW → HW → WK → Prop
abbrev QT := XW → SW → HW → (Bool → HW → Prop) → Prop
abbrev AT := XW → SW → HW → (List Wv → HW → Prop) → Prop
def R1 (K : PySem.W.Frag) (H : Hp) : Option Wv → Option V → Prop
  | none, _ => True
  | some w, some v => RW K H w v
  | some _, none => False
abbrev RS (K : PySem.W.Frag) (H : Hp) : SW → L2.St → Prop := Paired (R1 K H)
section
variable {K : PySem.W.Frag} {G G' : HW} {H H' H1 H2 : Hp}
theorem R1.mono (t : TX K H H') {a : Option Wv} {b : Option V} (h : R1 K H a b) : R1 K H' a b := by
  cases a with
  | none => trivial
  | some w =>
    cases b with
    | none => exact h
    | some v => exact RW.mono t h
theorem RS.mono (t : TX K H H') {a : SW} {b : L2.St} (h : RS K H a b) : RS K H' a b := L2.Paired.mapP h fun _ _ z => R1.mono t z
theorem RS.get : ∀ {a : SW} {b : L2.St} {i : Nat} {w : Wv}, RS K H a b → a[i]? = some (some w) → ∃ v, b[i]? = some (some v) ∧ RW K H w v
  | _, _, _, _, .nil, e => by simp at e
  | _, _, 0, w, .cons (b := b) h _, e => by
    simp at e
    subst e
    cases b with
    | none => exact h.elim
    | some v => exact ⟨v, rfl, h⟩
  | _, _, i + 1, w, .cons _ hs, e => by
    obtain ⟨v, x, y⟩ := RS.get (i := i) (w := w) hs (by simpa using e)
    exact ⟨v, by simpa using x, y⟩
theorem RS.set {w : Wv} {v : V} (h : RW K H w v) : ∀ {a : SW} {b : L2.St} (n : Nat), RS K H a b → RS K H (a.set n (some w)) (b.set n (some v))
  | _, _, _, .nil => .nil
  | _, _, 0, .cons _ b => .cons h b
  | _, _, n + 1, .cons a b => .cons a (RS.set h n b)
def Post (K : PySem.W.Frag) (H : Hp) (Q : VK) (q : WK) : Prop := ∀ w G v H', TX K H H' → RW K H' w v → RH K G H' → q w G → Q v H'
def PostB (K : PySem.W.Frag) (H : Hp) (Q : Bool → Hp → Prop) (q : Bool → HW → Prop) : Prop := ∀ b G H', TX K H H' → RH K G H' → q b G → Q b H'
def PostL (K : PySem.W.Frag) (H : Hp) (Q : List V → Hp → Prop) (q : List Wv → HW → Prop) : Prop := ∀ ws G vs H', TX K H H' → RWs K H' ws vs → RH K G H' → q ws G → Q vs H'
def PostS (K : PySem.W.Frag) (H : Hp) (Q : L2.St → Hp → Prop) (q : SW → HW → Prop) : Prop := ∀ σw G σ H', TX K H H' → RS K H' σw σ → RH K G H' → q σw G → Q σ H'
def PostX (K : PySem.W.Frag) (H : Hp) (Wx : WX) (x : XW) : Prop := ∀ cls d fs σw G σ H', TX K H H' → RX K H' d fs → RS K H' σw σ → RH K G H' → x cls fs σw G → Wx cls d σ H'
theorem Post.mono {Q : VK} {q : WK} (p : Post K H Q q) (t : TX K H H') : Post K H' Q q := fun w G v H2 t2 => p w G v H2 (t.trans t2)
theorem PostB.mono {Q : Bool → Hp → Prop} {q : Bool → HW → Prop} (p : PostB K H Q q) (t : TX K H H') : PostB K H' Q q := fun b G H2 t2 => p b G H2 (t.trans t2)
theorem PostL.mono {Q : List V → Hp → Prop} {q : List Wv → HW → Prop} (p : PostL K H Q q) (t : TX K H H') : PostL K H' Q q := fun w G v H2 t2 => p w G v H2 (t.trans t2)
theorem PostS.mono {Q : L2.St → Hp → Prop} {q : SW → HW → Prop} (p : PostS K H Q q) (t : TX K H H') : PostS K H' Q q := fun w G v H2 t2 => p w G v H2 (t.trans t2)
theorem PostX.mono {Wx : WX} {x : XW} (p : PostX K H Wx x) (t : TX K H H') : PostX K H' Wx x := fun c d fs w G v H2 t2 => p c d fs w G v H2 (t.trans t2)
end
/-! ### readings of trees as readings of the layer -/
def emb (K : PySem.W.Frag) (Wx : WX) (t : ET) : TE := fun σ H Q => ∃ σw G x q, RS K H σw σ ∧ RH K G H ∧ PostX K H Wx x ∧ Post K H Q q ∧ t x σw G q
def embB (K : PySem.W.Frag) (Wx : WX) (t : QT) : TT := fun σ H Q => ∃ σw G x q, RS K H σw σ ∧ RH K G H ∧ PostX K H Wx x ∧ PostB K H Q q ∧ t x σw G q
def embA (K : PySem.W.Frag) (Wx : WX) (t : AT) : TA := fun σ H Q => ∃ σw G x q, RS K H σw σ ∧ RH K G H ∧ PostX K H Wx x ∧ PostL K H Q q ∧ t x σw G q
structure EndsW where
  nx : SW → HW → Prop
  rt : WK
  bk : SW → HW → Prop := fun _ _ => False
  ct : SW → HW → Prop := fun _ _ => False
  ex : XW
abbrev ST := EndsW → SW → HW → Prop
structure Sim (K : PySem.W.Frag) (Wx : WX) (H : Hp) (D : Ends) (d : EndsW) : Prop where
  nx : PostS K H D.nx d.nx
  rt : Post K H D.rt d.rt
  bk : PostS K H D.bk d.bk
  ct : PostS K H D.ct d.ct
  ex : PostX K H Wx d.ex
theorem Sim.mono {K : PySem.W.Frag} {Wx : WX} {H H' : Hp} {D : Ends} {d : EndsW} (s : Sim K Wx H D d) (t : TX K H H') : Sim K Wx H' D d := ⟨s.nx.mono t, s.rt.mono t, s.bk.mono t, s.ct.mono t, s.ex.mono t⟩
def embS (K : PySem.W.Frag) (Wx : WX) (t : ST) : TS := fun D σ H => ∃ σw G d, RS K H σw σ ∧ RH K G H ∧ Sim K Wx H D d ∧ t d σw G
/-- targets -/
abbrev GT := XW → Wv → SW → HW → (SW → HW → Prop) → Prop
def embG (K : PySem.W.Frag) (Wx : WX) (g : GT) : TG := fun v σ H Q => ∃ w σw G x q, RW K H w v ∧ RS K H σw σ ∧ RH K G H ∧ PostX K H Wx x ∧ PostS K H Q q ∧ g x w σw G q

abbrev EW (X : Cx) (Wx : WX) (e : Expr) (t : ET) : Prop := PE X e (emb X.K Wx t)
abbrev QW (X : Cx) (Wx : WX) (e : Expr) (t : QT) : Prop := PT X e (embB X.K Wx t)
abbrev QWw (X : Cx) (Wx : WX) (e : Expr) (t : QT) : Prop := PW X e (embB X.K Wx t)
abbrev AW (X : Cx) (Wx : WX) (es : List Expr) (t : AT) : Prop := PA X es (embA X.K Wx t)
abbrev TW (X : Cx) (Wx : WX) (st : Stmt) (t : ST) : Prop := PS X st (embS X.K Wx t)
abbrev TWs (X : Cx) (Wx : WX) (st : List Stmt) (t : ST) : Prop := PSs X st (embS X.K Wx t)
abbrev GW (X : Cx) (Wx : WX) (e : Expr) (g : GT) : Prop := PG X e (embG X.K Wx g)

theorem pe_imp {X : Cx} {e : Expr} {t t' : TE} (h : PE X e t) (i : ∀ σ H Q, t' σ H Q → t σ H Q) : PE X e t' := ⟨fun pins s σ H Q I q => h.run pins s σ H Q I (i _ _ _ q)⟩
theorem pt_imp {X : Cx} {e : Expr} {t t' : TT} (h : PT X e t) (i : ∀ σ H Q, t' σ H Q → t σ H Q) : PT X e t' := ⟨fun pins s σ H Q I q => h.run pins s σ H Q I (i _ _ _ q)⟩
theorem pw_imp {X : Cx} {e : Expr} {t t' : TT} (h : PW X e t) (i : ∀ σ H Q, t' σ H Q → t σ H Q) : PW X e t' := ⟨fun wh pins s σ H Q I q => h.run wh pins s σ H Q I (i _ _ _ q)⟩
theorem pa_imp {X : Cx} {e : List Expr} {t t' : TA} (h : PA X e t) (i : ∀ σ H Q, t' σ H Q → t σ H Q) : PA X e t' := ⟨fun pos pins s σ H Q I q => h.run pos pins s σ H Q I (i _ _ _ q)⟩
theorem ps_imp {X : Cx} {st : Stmt} {t t' : TS} (h : PS X st t) (i : ∀ D σ H, t' D σ H → t D σ H) : PS X st t' := ⟨fun pins s σ H D I q => h.run pins s σ H D I (i _ _ _ q)⟩
theorem pss_imp {X : Cx} {st : List Stmt} {t t' : TS} (h : PSs X st t) (i : ∀ D σ H, t' D σ H → t D σ H) : PSs X st t' := ⟨fun pins s σ H D I q => h.run pins s σ H D I (i _ _ _ q)⟩
theorem pg_imp {X : Cx} {e : Expr} {t t' : TG} (h : PG X e t) (i : ∀ v σ H Q, t' v σ H Q → t v σ H Q) : PG X e t' := ⟨fun pins s σ H v u Q I r q => h.run pins s σ H v u Q I r (i _ _ _ _ q)⟩

/-! ### names, constants -/
section
variable {X : Cx} {Wx : WX} {pos : Pos} {a b c e : Expr} {es : List Expr} {ta tb tc : ET}
def eV (i : Nat) : ET := fun _ σ G q => match σ[i]? with
  | some (some w) => q w G
  | _ => False
def eC (w : Wv) : ET := fun _ _ G q => q w G
theorem z_var {i : Nat} {x : Str} (hN : X.N[i]? = some x) (hv : Vis X.env.scope x) (hd : (x == ("__debug__" : Str)) = false := by decide) (hcd : (x == ("__classdict__" : Str)) = false := by decide) : EW X Wx (.Name x pos) (eV i) :=
  pe_imp (pe_var hN hv hd hcd) fun σ H Q ⟨σw, G, xw, q, rs, rh, px, po, h⟩ => by
    unfold eV at h
    split at h
    · rename_i w e
      obtain ⟨v, e1, r⟩ := rs.get e
      exact ⟨v, e1, po w G v H TX.refl r rh h⟩
    · exact h.elim
theorem z_cv {w : Wv} {v : V} (h : PE X e (tC v)) (r : ∀ H, RW X.K H w v) : EW X Wx e (eC w) :=
  pe_imp h fun σ H Q ⟨σw, G, xw, q, rs, rh, px, po, h⟩ => po w G v H TX.refl (r H) rh h
theorem z_int {i j} : EW X Wx (.Constant (.int i) j pos) (eC (.int i)) := z_cv pe_int fun _ => .int i
theorem z_bl {i j} : EW X Wx (.Constant (.bool i) j pos) (eC (.bl i)) := z_cv pe_bl fun _ => .bl i
theorem z_non {j} : EW X Wx (.Constant .none j pos) (eC .non) := z_cv pe_non fun _ => .non
theorem z_str {x j} : EW X Wx (.Constant (.str x) j pos) (eC (.str x)) := z_cv pe_str fun _ => .str x
/-- a class, a def, a constant of the module as a value -/
theorem z_glob {x : Str} {w : Wv} {v : V} {u : Value} (hg : Gl X x) (hm : X.mg x = some u) (r : RelV v u) (rw' : ∀ H, RW X.K H w v) (hd : (x == ("__debug__" : Str)) = false := by decide) : EW X Wx (.Name x pos) (eC w) := z_cv (pe_glob hg hm r hd) rw'
theorem z_globI {x : Str} {i : Int} {t : Tok} (hg : Gl X x) (hm : X.mg x = some (.int i t)) (hd : (x == ("__debug__" : Str)) = false := by decide) : EW X Wx (.Name x pos) (eC (.int i)) := z_glob (v := .int i) hg hm ⟨t, rfl⟩ (fun _ => .int i) hd
theorem z_globS {x : Str} {i : Str} {t : Tok} (hg : Gl X x) (hm : X.mg x = some (.str i t)) (hd : (x == ("__debug__" : Str)) = false := by decide) : EW X Wx (.Name x pos) (eC (.str i)) := z_glob (v := .str i) hg hm ⟨t, rfl⟩ (fun _ => .str i) hd
theorem z_globR {x : Str} {p : Addr} (hg : Gl X x) (hm : X.mg x = some (.ref p)) (hd : (x == ("__debug__" : Str)) = false := by decide) : EW X Wx (.Name x pos) (eC (.ref p)) := z_glob (v := .ref p) hg hm rfl (fun _ => .ref p) hd
theorem z_bty {x : Str} {n : String} (hg : Gl X x) (hm : X.mg x = none) (hv : bootBuiltins x = some (.type n)) (hn : x ≠ "__name__" := by decide) (hd : (x == ("__debug__" : Str)) = false := by decide) : EW X Wx (.Name x pos) (eC (.ty n)) :=
  z_cv (v := .ty n) (pe_bltn hg hm hv rfl hn hd) fun _ => .ty n

/-! ### operations -/
abbrev RWop := Wv → Wv → HW → WK → Prop
def embR (K : PySem.W.Frag) (r : RWop) : R2 := fun x y H Q => ∃ w1 w2 G q, RW K H w1 x ∧ RW K H w2 y ∧ RH K G H ∧ Post K H Q q ∧ r w1 w2 G q
def eOp (r : RWop) (ta tb : ET) : ET := fun x σ G q => ta x σ G fun w1 G1 => tb x σ G1 fun w2 G2 => r w1 w2 G2 q
theorem emb_op {K : PySem.W.Frag} {r : RWop} : ∀ σ H Q, emb K Wx (eOp r ta tb) σ H Q → tOp (embR K r) (emb K Wx ta) (emb K Wx tb) σ H Q := by
  rintro σ H Q ⟨σw, G, x, q, rs, rh, px, po, h⟩
  refine ⟨σw, G, x, _, rs, rh, px, fun w1 G1 v1 H1 t1 r1 rh1 h1 => ?_, h⟩
  refine ⟨σw, G1, x, _, rs.mono t1, rh1, px.mono t1, fun w2 G2 v2 H2 t2 r2 rh2 h2 => ?_, h1⟩
  exact ⟨w1, w2, G2, q, r1.mono t2, r2, rh2, po.mono (t1.trans t2), h2⟩
abbrev OW (X : Cx) (f : Value → Value → Sem Value) (r : RWop) : Prop := OpR X f (embR X.K r)
theorem z_bin {op : Operator} {r : RWop} (ho : OW X (binaryOp op) r) (ha : EW X Wx a ta) (hb : EW X Wx b tb) : EW X Wx (.BinOp a op b pos) (eOp r ta tb) := pe_imp (pe_op ho ha hb) emb_op
theorem z_cmp {op : CmpOp} {r : RWop} (ho : OW X (compareOp op) r) (ha : EW X Wx a ta) (hb : EW X Wx b tb) (hm : behindInMarks op b = false) : EW X Wx (.Compare a [op] [b] pos) (eOp r ta tb) := pe_imp (pe_cmpR ho ha hb hm) emb_op
/-- a comparison as a test -/
def qOp (r : RWop) (ta tb : ET) : QT := fun x σ G q => ta x σ G fun w1 G1 => tb x σ G1 fun w2 G2 => r w1 w2 G2 fun w G3 => match w with
  | .bl k => q k G3
  | _ => False
theorem z_qcmp {op : CmpOp} {r : RWop} (ho : OW X (compareOp op) r) (ha : EW X Wx a ta) (hb : EW X Wx b tb) (hm : behindInMarks op b = false) : QW X Wx (.Compare a [op] [b] pos) (qOp r ta tb) :=
  pt_imp (pt_cmpR ho ha hb hm) fun σ H Q ⟨σw, G, x, q, rs, rh, px, po, h⟩ => emb_op σ H _ ⟨σw, G, x, _, rs, rh, px, (fun w G3 v H3 t3 r3 rh3 h3 => by
    cases w <;> try exact h3.elim
    cases r3
    exact ⟨_, rfl, po _ _ _ t3 rh3 h3⟩), h⟩
/-- a < b < c -/
def eChain (r r' : RWop) (ta tb tc : ET) : ET := fun x σ G q => ta x σ G fun w1 G1 => tb x σ G1 fun w2 G2 => r w1 w2 G2 fun w G3 => match w with
  | .bl true => tc x σ G3 fun w3 G4 => r' w2 w3 G4 q
  | .bl false => q (.bl false) G3
  | _ => False
theorem emb_chain {K : PySem.W.Frag} {r r' : RWop} : ∀ σ H Q, emb K Wx (eChain r r' ta tb tc) σ H Q → tChain (embR K r) (embR K r') (emb K Wx ta) (emb K Wx tb) (emb K Wx tc) σ H Q := by
  rintro σ H Q ⟨σw, G, x, q, rs, rh, px, po, h⟩
  refine ⟨σw, G, x, _, rs, rh, px, fun w1 G1 v1 H1 t1 r1 rh1 h1 => ?_, h⟩
  refine ⟨σw, G1, x, _, rs.mono t1, rh1, px.mono t1, fun w2 G2 v2 H2 t2 r2 rh2 h2 => ?_, h1⟩
  refine ⟨w1, w2, G2, _, r1.mono t2, r2, rh2, fun w G3 v H3 t3 r3 rh3 h3 => ?_, h2⟩
  have t := (t1.trans t2).trans t3
  cases w <;> try exact h3.elim
  rename_i k
  cases r3
  refine ⟨k, rfl, ?_⟩
  cases k with
  | false =>
    rw [if_neg Bool.false_ne_true]
    exact po _ _ _ _ t (.bl false) rh3 h3
  | true =>
    rw [if_pos rfl]
    exact ⟨σw, G3, x, _, rs.mono t, rh3, px.mono t, fun w3 G4 v3 H4 t4 r4 rh4 h4 => ⟨w2, w3, G4, q, (r2.mono t3).mono t4, r4, rh4, po.mono (t.trans t4), h4⟩, h3⟩
end
end LF

/-! LF2: operations on trees -/
namespace LF
open PySem PySem.Spec PyProof.Rows L2

/-! ### tables -/
section
variable {κ : Type} [DecidableEq κ]
def lkW (kvs : List (κ × Wv)) (k : κ) : Option Wv := (kvs.find? fun p => decide (p.1 = k)).map (·.2)
def pkW (kvs : List (κ × Wv)) (k : κ) (w : Wv) : List (κ × Wv) :=
  if (kvs.any fun p => decide (p.1 = k)) = true then kvs.map (fun p => if p.1 = k then (p.1, w) else p) else kvs ++ [(k, w)]
variable {K : PySem.W.Frag} {H : Hp}
theorem RKs.len {κ : Type} {kvs : List (κ × Wv)} {vs : List (κ × V)} (r : RKs K H kvs vs) : vs.length = kvs.length := (Paired.length r).symm
theorem RKs.look {kvs : List (κ × Wv)} {vs : List (κ × V)} (r : RKs K H kvs vs) (k : κ) : (lkW kvs k = none ∧ valV vs k = none) ∨ ∃ w v, lkW kvs k = some w ∧ valV vs k = some v ∧ RW K H w v := by
  induction r with
  | nil => exact .inl ⟨rfl, rfl⟩
  | @cons p q ps qs h t ih =>
    obtain ⟨e, rw'⟩ := h
    by_cases hk : p.1 = k
    · refine .inr ⟨p.2, q.2, ?_, valV_pos (e ▸ hk), rw'⟩
      simp [lkW, List.find?_cons, hk]
    · have e1 : lkW (p :: ps) k = lkW ps k := by simp [lkW, List.find?_cons, hk]
      rw [e1, valV_neg (by rw [← e]; exact hk)]
      exact ih
theorem RKs.any {kvs : List (κ × Wv)} {vs : List (κ × V)} (r : RKs K H kvs vs) (k : κ) : (vs.any fun p => decide (p.1 = k)) = kvs.any fun p => decide (p.1 = k) := by
  induction r with
  | nil => rfl
  | @cons p q ps qs h t ih =>
    rw [List.any_cons, List.any_cons, ih, h.1]
theorem RKs.snoc {κ : Type} {kvs : List (κ × Wv)} {vs : List (κ × V)} (r : RKs K H kvs vs) (k : κ) {w : Wv} {v : V} (h : RW K H w v) : RKs K H (kvs ++ [(k, w)]) (vs ++ [(k, v)]) := Paired.snoc r ⟨rfl, h⟩
theorem RKs.repl (k : κ) {w : Wv} {v : V} (h : RW K H w v) {kvs : List (κ × Wv)} {vs : List (κ × V)} (r : RKs K H kvs vs) :
    RKs K H (kvs.map fun p => if p.1 = k then (p.1, w) else p) (vs.map fun p => if p.1 = k then (p.1, v) else p) := by
  induction r with
  | nil => exact .nil
  | @cons p q ps qs h1 t ih =>
    obtain ⟨p1, p2⟩ := p
    obtain ⟨q1, q2⟩ := q
    obtain ⟨e, rr⟩ := h1
    dsimp only at e
    subst e
    rw [List.map_cons, List.map_cons]
    refine .cons ?_ ih
    by_cases hk : p1 = k
    · rw [if_pos hk, if_pos hk]; exact ⟨rfl, h⟩
    · rw [if_neg hk, if_neg hk]; exact ⟨rfl, rr⟩
theorem RKs.put {kvs : List (κ × Wv)} {vs : List (κ × V)} (r : RKs K H kvs vs) (k : κ) {w : Wv} {v : V} (h : RW K H w v) : RKs K H (pkW kvs k w) (putK vs k v) := by
  unfold pkW putK
  rw [r.any k]
  split
  · exact r.repl k h
  · exact r.snoc k h
theorem pkW_len (kvs : List (κ × Wv)) (k : κ) (w : Wv) : (pkW kvs k w).length ≤ kvs.length + 1 := by
  unfold pkW
  split
  · rw [List.length_map]; omega
  · rw [List.length_append]; simp
end

/-! ### arithmetic and such -/
section
variable {X : Cx}
def wAdd : RWop := fun a b G q => match a, b with
  | .int i, .int j => q (.int (i + j)) G
  | .str x, .str y => x.length + y.length ≤ sizeLine ∧ q (.str (x ++ y)) G
  | .tup xs, .tup ys => xs.length + ys.length ≤ sizeLine ∧ q (.tup (xs ++ ys)) G
  | .ref p, .ref r => ∃ xs ys, G p = some (.lst xs) ∧ G r = some (.lst ys) ∧ xs.length + ys.length ≤ sizeLine ∧ ∀ l, G l = none → q (.ref l) (updO G l (.lst (xs ++ ys)))
  | .int i, .bl k => q (.int (i + b2i k)) G
  | _, _ => False
theorem w_add : OW X (binaryOp .Add) wAdd := by
  rintro pins s σ H x y v u Q I rx ry ⟨w1, w2, G, q, r1, r2, rh, po, h⟩
  unfold wAdd at h
  split at h
  · cases r1; cases r2
    exact op_add pins s σ H _ _ v u Q I rx ry ⟨_, _, rfl, rfl, po _ _ _ _ TX.refl (.int _) rh h⟩
  · cases r1; cases r2
    exact op_add_str pins s σ H _ _ v u Q I rx ry ⟨_, _, rfl, rfl, h.1, po _ _ _ _ TX.refl (.str _) rh h.2⟩
  · cases r1 with
    | tup h1 s1 =>
      cases r2 with
      | tup h2 s2 =>
        refine op_catA pins s σ H _ _ v u Q I rx ry ⟨_, _, _, _, rfl, rfl, SqT.of h1, SqT.of h2, by rw [s1.len, s2.len]; exact h.1, fun e => ?_, fun _ e => ?_, fun _ _ p hp => ?_⟩
        · subst e; cases s1
          exact po _ _ _ _ TX.refl (.tup h2 s2) rh h.2
        · subst e; cases s2
          refine po _ _ _ _ TX.refl (.tup h1 s1) rh ?_
          have := h.2
          rw [List.append_nil] at this
          exact this
        · exact po _ _ _ _ (TX.new hp) (.tup upd_same ((s1.mono (TX.new hp)).app (s2.mono (TX.new hp)))) (rh.kept hp) h.2
  · obtain ⟨xs, ys, e1, e2, hz, hq⟩ := h
    cases r1; cases r2
    obtain ⟨vs, f1, s1⟩ := rh.lst e1
    obtain ⟨us, f2, s2⟩ := rh.lst e2
    refine op_cat pins s σ H _ _ v u Q I rx ry ⟨_, _, _, _, rfl, rfl, f1, f2, by rw [s1.len, s2.len]; exact hz, fun p hp => ?_⟩
    exact po _ _ _ _ (TX.new hp) (.ref p) (rh.newL hp (s1.app s2)) (hq p (rh.fresh hp))
  · cases r1; cases r2
    exact op_add_ib pins s σ H _ _ v u Q I rx ry ⟨_, _, rfl, rfl, po _ _ _ _ TX.refl (.int _) rh h⟩
  · exact h.elim
/-- two ints, under C -/
def wI (C : Int → Int → Prop) (g : Int → Int → Wv) : RWop := fun a b G q => match a, b with
  | .int i, .int j => C i j ∧ q (g i j) G
  | _, _ => False
theorem w_int {f : Value → Value → Sem Value} {C : Int → Int → Prop} {g : Int → Int → V} {g' : Int → Int → Wv} (h : OpR X f (rI C g)) (hg : ∀ K H i j, RW K H (g' i j) (g i j)) : OW X f (wI C g') := by
  rintro pins s σ H x y v u Q I rx ry ⟨w1, w2, G, q, r1, r2, rh, po, hq⟩
  unfold wI at hq
  split at hq
  · cases r1; cases r2
    exact h pins s σ H _ _ v u Q I rx ry ⟨_, _, rfl, rfl, hq.1, po _ _ _ _ TX.refl (hg _ _ _ _) rh hq.2⟩
  · exact hq.elim
def wI0 (g : Int → Int → Wv) : RWop := fun a b G q => match a, b with
  | .int i, .int j => q (g i j) G
  | _, _ => False
theorem w_int0 {f : Value → Value → Sem Value} {g : Int → Int → V} {g' : Int → Int → Wv} (h : OpR X f (rI0 g)) (hg : ∀ K H i j, RW K H (g' i j) (g i j)) : OW X f (wI0 g') := by
  rintro pins s σ H x y v u Q I rx ry ⟨w1, w2, G, q, r1, r2, rh, po, hq⟩
  unfold wI0 at hq
  split at hq
  · cases r1; cases r2
    exact h pins s σ H _ _ v u Q I rx ry ⟨_, _, rfl, rfl, po _ _ _ _ TX.refl (hg _ _ _ _) rh hq⟩
  · exact hq.elim
theorem w_sub : OW X (binaryOp .Sub) (wI0 fun i j => .int (i - j)) := w_int0 op_sub fun _ _ _ _ => .int _
theorem w_mod : OW X (binaryOp .Mod) (wI (fun _ j => 0 < j) fun i j => .int (i % j)) := w_int op_mod fun _ _ _ _ => .int _
theorem w_fdiv : OW X (binaryOp .FloorDiv) (wI CDiv fun i j => .int (i / j)) := w_int op_fdiv fun _ _ _ _ => .int _
theorem w_pow : OW X (binaryOp .Pow) (wI CPow fun i j => .int (i ^ j.toNat)) := w_int op_pow fun _ _ _ _ => .int _
theorem w_shl : OW X (binaryOp .LShift) (wI CPow fun i j => .int (i * 2 ^ j.toNat)) := w_int op_shl fun _ _ _ _ => .int _
theorem w_lt : OW X (compareOp .Lt) (wI0 fun i j => .bl (decide (i < j))) := w_int0 op_lt fun _ _ _ _ => .bl _
theorem w_le : OW X (compareOp .LtE) (wI0 fun i j => .bl (decide (i ≤ j))) := w_int0 op_le fun _ _ _ _ => .bl _
theorem w_gt : OW X (compareOp .Gt) (wI0 fun i j => .bl (decide (j < i))) := w_int0 op_gt fun _ _ _ _ => .bl _
theorem w_ge : OW X (compareOp .GtE) (wI0 fun i j => .bl (decide (j ≤ i))) := w_int0 op_ge fun _ _ _ _ => .bl _
/-- * -/
def wMul : RWop := fun a b G q => match a, b with
  | .int i, .int j => CMul i j ∧ q (.int (i * j)) G
  | .ref p, .int k => ∃ xs, G p = some (.lst xs) ∧ -(2 ^ 63) ≤ k ∧ k < 2 ^ 63 ∧ xs.length * k.toNat ≤ sizeLine ∧ ∀ l, G l = none → q (.ref l) (updO G l (.lst (List.replicate k.toNat xs).flatten))
  | .tup xs, .int k => xs ≠ [] ∧ 2 ≤ k ∧ k ≤ 1000 ∧ xs.length ≤ 1000 ∧ q (.tup (List.replicate k.toNat xs).flatten) G
  | _, _ => False
theorem w_mul : OW X (binaryOp .Mult) wMul := by
  rintro pins s σ H x y v u Q I rx ry ⟨w1, w2, G, q, r1, r2, rh, po, h⟩
  unfold wMul at h
  split at h
  · cases r1; cases r2
    exact op_mul pins s σ H _ _ v u Q I rx ry ⟨_, _, rfl, rfl, h.1, po _ _ _ _ TX.refl (.int _) rh h.2⟩
  · obtain ⟨xs, e, h1, h2, h3, hq⟩ := h
    cases r1; cases r2
    obtain ⟨vs, f, s1⟩ := rh.lst e
    exact op_rep pins s σ H _ _ v u Q I rx ry ⟨_, _, _, rfl, rfl, f, h1, h2, by rw [s1.len]; exact h3, fun p hp => po _ _ _ _ (TX.new hp) (.ref p) (rh.newL hp (s1.rep _)) (hq p (rh.fresh hp))⟩
  · obtain ⟨h1, h2, h3, h4, hq⟩ := h
    cases r2
    cases r1 with
    | tup ht s1 =>
      refine op_repT pins s σ H _ _ v u Q I rx ry ⟨_, _, _, rfl, rfl, SqT.of ht, ?_, h2, h3, by rw [s1.len]; exact h4, fun p hp => po _ _ _ _ (TX.new hp) (.tup upd_same ((s1.mono (TX.new hp)).rep _)) (rh.kept hp) hq⟩
      intro z; subst z; cases s1; exact h1 rfl
  · exact h.elim

/-! ### data -/
mutual
inductive Dt (G : HW) : Wv → PyData → Prop
  | non : Dt G .non .none
  | bl (b : Bool) : Dt G (.bl b) (.bool b)
  | int (i : Int) : Dt G (.int i) (.int i)
  | str (x : Str) : Dt G (.str x) (.str x)
  | lst {a : Addr} {ws : List Wv} {ds : List PyData} : RdL G a ws → Dts G ws ds → Dt G (.ref a) (.list ds)
  | tup {ws : List Wv} {ds : List PyData} : Dts G ws ds → Dt G (.tup ws) (.tuple ds)
inductive Dts (G : HW) : List Wv → List PyData → Prop
  | nil : Dts G [] []
  | cons {w : Wv} {d : PyData} {ws : List Wv} {ds : List PyData} : Dt G w d → Dts G ws ds → Dts G (w :: ws) (d :: ds)
end
section
variable {K : PySem.W.Frag} {G : HW} {H : Hp}
mutual
theorem Dt.dp (rh : RH K G H) : ∀ {d : PyData} {w : Wv} {v : V}, Dt G w d → RW K H w v → Dp K H v d
  | .none, _, _, h, r => by cases h; cases r; exact .non
  | .bool b, _, _, h, r => by cases h; cases r; exact .bl b
  | .int i, _, _, h, r => by cases h; cases r; exact .int i
  | .str x, _, _, h, r => by cases h; cases r; exact .str x
  | .list ds, _, _, h, r => by
    cases h with
    | lst hl hs =>
      cases r
      obtain ⟨xs, e, rs⟩ := rh.rdl hl
      exact .lst e (Dts.dp rh hs rs)
  | .tuple ds, _, _, h, r => by
    cases h with
    | tup hs =>
      cases r with
      | tup e rs => exact .tup (SqT.of e) (Dts.dp rh hs rs)
  | .dict _, _, _, h, _ => by cases h
theorem Dts.dp (rh : RH K G H) : ∀ {ds : List PyData} {ws : List Wv} {vs : List V}, Dts G ws ds → RWs K H ws vs → DpAll K H vs ds
  | [], _, _, h, r => by cases h; cases r; exact .nil
  | d :: ds, _, _, h, r => by
    cases h with
    | cons a b =>
      cases r with
      | cons c e => exact .cons (Dt.dp rh a c) (Dts.dp rh b e)
end
end
/-- == , != -/
def wEqD : RWop := fun a b G q => ∃ d e, Dt G a d ∧ Dt G b e ∧ SeqAt.shaped d = true ∧ SeqAt.shaped e = true ∧ q (.bl (PyData.eqv d e)) G
def wNeD : RWop := fun a b G q => ∃ d e, Dt G a d ∧ Dt G b e ∧ SeqAt.shaped d = true ∧ SeqAt.shaped e = true ∧ q (.bl (!PyData.eqv d e)) G
theorem w_eqD (hu : X.A.units + 64 < cLine) : OW X (compareOp .Eq) wEqD := by
  rintro pins s σ H x y v u Q I rx ry ⟨w1, w2, G, q, r1, r2, rh, po, d, e, h1, h2, s1, s2, hq⟩
  exact op_eqD hu pins s σ H _ _ v u Q I rx ry ⟨d, e, h1.dp rh r1, h2.dp rh r2, s1, s2, po _ _ _ _ TX.refl (.bl _) rh hq⟩
theorem w_neD (hu : X.A.units + 64 < cLine) : OW X (compareOp .NotEq) wNeD := by
  rintro pins s σ H x y v u Q I rx ry ⟨w1, w2, G, q, r1, r2, rh, po, d, e, h1, h2, s1, s2, hq⟩
  exact op_neD hu pins s σ H _ _ v u Q I rx ry ⟨d, e, h1.dp rh r1, h2.dp rh r2, s1, s2, po _ _ _ _ TX.refl (.bl _) rh hq⟩
/-- flat ones at once -/
def wEq : RWop := fun a b G q => match a, b with
  | .int i, .int j => q (.bl (decide (i = j))) G
  | .str i, .str j => q (.bl (decide (i = j))) G
  | a, b => wEqD a b G q
def wNe : RWop := fun a b G q => match a, b with
  | .int i, .int j => q (.bl (!decide (i = j))) G
  | .str i, .str j => q (.bl (!decide (i = j))) G
  | a, b => wNeD a b G q
theorem dec_vi {i j : Int} : decide (V.int i = V.int j) = decide (i = j) := by simp
theorem dec_vs {i j : Str} : decide (V.str i = V.str j) = decide (i = j) := by simp
theorem w_eq (hu : X.A.units + 64 < cLine) : OW X (compareOp .Eq) wEq := by
  rintro pins s σ H x y v u Q I rx ry ⟨w1, w2, G, q, r1, r2, rh, po, h⟩
  unfold wEq at h
  split at h
  · cases r1; cases r2
    exact op_eq pins s σ H _ _ v u Q I rx ry ⟨rfl, by rw [dec_vi]; exact po _ _ _ _ TX.refl (.bl _) rh h⟩
  · cases r1; cases r2
    exact op_eq pins s σ H _ _ v u Q I rx ry ⟨rfl, by rw [dec_vs]; exact po _ _ _ _ TX.refl (.bl _) rh h⟩
  · exact w_eqD hu pins s σ H x y v u Q I rx ry ⟨_, _, G, q, r1, r2, rh, po, h⟩
theorem w_ne (hu : X.A.units + 64 < cLine) : OW X (compareOp .NotEq) wNe := by
  rintro pins s σ H x y v u Q I rx ry ⟨w1, w2, G, q, r1, r2, rh, po, h⟩
  unfold wNe at h
  split at h
  · cases r1; cases r2
    exact op_ne pins s σ H _ _ v u Q I rx ry ⟨rfl, by rw [dec_vi]; exact po _ _ _ _ TX.refl (.bl _) rh h⟩
  · cases r1; cases r2
    exact op_ne pins s σ H _ _ v u Q I rx ry ⟨rfl, by rw [dec_vs]; exact po _ _ _ _ TX.refl (.bl _) rh h⟩
  · exact w_neD hu pins s σ H x y v u Q I rx ry ⟨_, _, G, q, r1, r2, rh, po, h⟩
/-- is None; is of truths -/
def isNon : Wv → Bool
  | .non => true
  | _ => false
theorem isNon_dec {K : PySem.W.Frag} {H : Hp} {w : Wv} {v : V} (r : RW K H w v) : decide (v = .non) = isNon w := by cases r <;> rfl
def wIs : RWop := fun a b G q => match a, b with
  | a, .non => q (.bl (isNon a)) G
  | .bl i, .bl j => q (.bl (decide (i = j))) G
  | _, _ => False
def wIsNot : RWop := fun a b G q => match a, b with
  | a, .non => q (.bl (!isNon a)) G
  | .bl i, .bl j => q (.bl (!decide (i = j))) G
  | _, _ => False
theorem w_is : OW X (compareOp .Is) wIs := by
  rintro pins s σ H x y v u Q I rx ry ⟨w1, w2, G, q, r1, r2, rh, po, h⟩
  unfold wIs at h
  split at h
  · cases r2
    exact op_isN pins s σ H _ _ v u Q I rx ry ⟨rfl, by rw [isNon_dec r1]; exact po _ _ _ _ TX.refl (.bl _) rh h⟩
  · cases r1; cases r2
    exact op_isBl pins s σ H _ _ v u Q I rx ry ⟨_, _, rfl, rfl, po _ _ _ _ TX.refl (.bl _) rh h⟩
  · exact h.elim
theorem w_isnot : OW X (compareOp .IsNot) wIsNot := by
  rintro pins s σ H x y v u Q I rx ry ⟨w1, w2, G, q, r1, r2, rh, po, h⟩
  unfold wIsNot at h
  split at h
  · cases r2
    exact op_notN pins s σ H _ _ v u Q I rx ry ⟨rfl, by rw [isNon_dec r1]; exact po _ _ _ _ TX.refl (.bl _) rh h⟩
  · cases r1; cases r2
    exact op_notBl pins s σ H _ _ v u Q I rx ry ⟨_, _, rfl, rfl, po _ _ _ _ TX.refl (.bl _) rh h⟩
  · exact h.elim

/-! ### in -/
def flatW : Wv → Bool
  | .non | .bl _ | .int _ | .str _ => true
  | _ => false
def toV : Wv → V
  | .bl b => .bl b
  | .int i => .int i
  | .str x => .str x
  | .ref a => .ref a
  | .ty n => .ty n
  | _ => .non
theorem flat_toV {K : PySem.W.Frag} {H : Hp} {w : Wv} {v : V} (r : RW K H w v) (f : flatW w = true) : v = toV w ∧ flatV v = true := by cases r <;> first | exact ⟨rfl, rfl⟩ | cases f
theorem flats_toV {K : PySem.W.Frag} {H : Hp} : ∀ {ws : List Wv} {vs : List V}, RWs K H ws vs → ws.all flatW = true → vs = ws.map toV ∧ vs.all flatV = true
  | _, _, .nil, _ => ⟨rfl, rfl⟩
  | _, _, .cons r rs, f => by
    rw [List.all_cons, Bool.and_eq_true] at f
    obtain ⟨e1, f1⟩ := flat_toV r f.1
    obtain ⟨e2, f2⟩ := flats_toV rs f.2
    subst e1 e2
    exact ⟨rfl, by rw [List.all_cons, f1, f2]; rfl⟩
def eqF : Wv → Wv → Bool := fun a b => eqV (toV a) (toV b)
def inF (a : Wv) (ws : List Wv) : Bool := ws.any fun b => eqF b a
theorem inF_eq (a : Wv) (ws : List Wv) : inV (toV a) (ws.map toV) = inF a ws := by
  unfold inV inF eqF
  rw [List.any_map]
  rfl
/-- a key of a table: an int, a text; a tuple of these -/
def kW : Key → Wv
  | .inl i => .int i
  | .inr x => .str x
def keyOf : Wv → Option Key
  | .int i => some (.inl i)
  | .str x => some (.inr x)
  | _ => none
def keysOf : List Wv → Option (List Key)
  | [] => some []
  | w :: ws => match keyOf w, keysOf ws with
    | some k, some ks => some (k :: ks)
    | _, _ => none
theorem keyOf_rel {K : PySem.W.Frag} {H : Hp} {w : Wv} {v : V} {k : Key} (r : RW K H w v) (e : keyOf w = some k) : v = kV k := by
  cases r <;> first | (cases e; rfl) | cases e
theorem keysOf_rel {K : PySem.W.Frag} {H : Hp} : ∀ {ws : List Wv} {vs : List V} {ks : List Key}, RWs K H ws vs → keysOf ws = some ks → vs = ks.map kV
  | _, _, _, .nil, e => by cases e; rfl
  | _, _, _, .cons (ws := ws) r rs, e => by
    unfold keysOf at e
    split at e
    · rename_i k ks h1 h2
      cases e
      rw [keyOf_rel r h1, keysOf_rel rs h2]
      rfl
    · cases e
theorem keysOf_ints : ∀ ns : List Int, keysOf (ns.map Wv.int) = some (ns.map Sum.inl)
  | [] => rfl
  | n :: ns => by
    rw [List.map_cons, List.map_cons]
    unfold keysOf
    rw [keysOf_ints ns]
    rfl
/-- what the dict at p holds at a -/
def DgW (G : HW) (p : Addr) (a : Wv) (o : Option Wv) : Prop := match a with
  | .tup ws => ∃ kvs ks, G p = some (.dtp kvs) ∧ keysOf ws = some ks ∧ o = lkW kvs ks
  | a => ∃ kvs k, G p = some (.dct kvs) ∧ keyOf a = some k ∧ o = lkW kvs k
end
end LF

/-! LF3: subscripts, in, slices, tests, displays, built-in calls -/
namespace LF
open PySem PySem.Spec PyProof.Rows L2
section
variable {X : Cx} {Wx : WX} {K : PySem.W.Frag}

/-! ### tables -/
theorem DgW.get {G : HW} {H : Hp} {p : Addr} {a : Wv} {o : Option Wv} {y : V} (g : DgW G p a o) (rh : RH K G H) (r : RW K H a y) : ∃ o', DGet H p y o' ∧ ((o = none ∧ o' = none) ∨ ∃ w v, o = some w ∧ o' = some v ∧ RW K H w v) := by
  cases a with
  | tup ws =>
    obtain ⟨kvs, ks, e, hk, rfl⟩ := (show ∃ kvs ks, G p = some (.dtp kvs) ∧ keysOf ws = some ks ∧ o = lkW kvs ks from g)
    cases r with
    | tup hb hs =>
    obtain ⟨vs, f, rk⟩ := rh.dtp e
    have ex := keysOf_rel hs hk
    subst ex
    refine ⟨_, DGet.t f hb, ?_⟩
    rcases rk.look ks with ⟨h1, h2⟩ | ⟨w, v, h1, h2, h3⟩
    · exact .inl ⟨h1, h2⟩
    · exact .inr ⟨w, v, h1, h2, h3⟩
  | _ =>
    obtain ⟨kvs, k, e, hk, rfl⟩ := g
    obtain ⟨vs, f, rk⟩ := rh.dct e
    have ey := keyOf_rel r hk
    subst ey
    refine ⟨_, DGet.k f, ?_⟩
    rcases rk.look k with ⟨h1, h2⟩ | ⟨w, v, h1, h2, h3⟩
    · exact .inl ⟨h1, h2⟩
    · exact .inr ⟨w, v, h1, h2, h3⟩
/-- the tables behind p[a] = w -/
def DpW (G : HW) (p : Addr) (a w : Wv) (G' : HW) : Prop := match a with
  | .tup ws => ∃ kvs ks, G p = some (.dtp kvs) ∧ keysOf ws = some ks ∧ kvs.length < sizeLine ∧ G' = updO G p (.dtp (pkW kvs ks w))
  | a => ∃ kvs k, G p = some (.dct kvs) ∧ keyOf a = some k ∧ kvs.length < sizeLine ∧ G' = updO G p (.dct (pkW kvs k w))
theorem DpW.put {G G' : HW} {H : Hp} {p : Addr} {a w : Wv} {y v : V} (g : DpW G p a w G') (rh : RH K G H) (r : RW K H a y) (rv : RW K H w v) : ∃ H', DPut H p y v H' ∧ TX K H H' ∧ RH K G' H' := by
  cases a with
  | tup ws =>
    obtain ⟨kvs, ks, e, hk, hz, rfl⟩ := (show ∃ kvs ks, G p = some (.dtp kvs) ∧ keysOf ws = some ks ∧ kvs.length < sizeLine ∧ G' = updO G p (.dtp (pkW kvs ks w)) from g)
    cases r with
    | tup hb hs =>
    obtain ⟨vs, f, rk⟩ := rh.dtp e
    have ex := keysOf_rel hs hk
    subst ex
    exact ⟨_, DPut.t f hb (by rw [rk.len]; exact hz), TX.put f noTup_dT, rh.putT f (rk.put ks rv)⟩
  | _ =>
    obtain ⟨kvs, k, e, hk, hz, rfl⟩ := g
    obtain ⟨vs, f, rk⟩ := rh.dct e
    have ey := keyOf_rel r hk
    subst ey
    exact ⟨_, DPut.k f (by rw [rk.len]; exact hz), TX.put f noTup_dK, rh.putD f (rk.put k rv)⟩

/-! ### in -/
def wIn (neg : Bool) : RWop := fun a b G q => match b with
  | .tup ws => flatW a = true ∧ ws.all flatW = true ∧ q (.bl (if neg then !inF a ws else inF a ws)) G
  | .str z => match a with
    | .str x => q (.bl (if neg then !(!(Builtin.Str.occurrences z x 0 z.length 1).isEmpty) else !(Builtin.Str.occurrences z x 0 z.length 1).isEmpty)) G
    | _ => False
  | .ref p => (∃ ws, RdL G p ws ∧ flatW a = true ∧ ws.all flatW = true ∧ q (.bl (if neg then !inF a ws else inF a ws)) G) ∨ ∃ o, DgW G p a o ∧ q (.bl (if neg then !o.isSome else o.isSome)) G
  | _ => False
theorem opt_some {o : Option Wv} {o' : Option V} {H : Hp} (h : (o = none ∧ o' = none) ∨ ∃ w v, o = some w ∧ o' = some v ∧ RW K H w v) : o'.isSome = o.isSome := by
  rcases h with ⟨rfl, rfl⟩ | ⟨w, v, rfl, rfl, _⟩ <;> rfl
theorem w_in (hu : X.A.units + 64 < cLine) : OW X (compareOp .In) (wIn false) := by
  rintro pins s σ H x y v u Q I rx ry ⟨w1, w2, G, q, r1, r2, rh, po, h⟩
  unfold wIn at h
  split at h
  · obtain ⟨f1, f2, hq⟩ := h
    cases r2 with
    | tup hb hs =>
      obtain ⟨rfl, g1⟩ := flat_toV r1 f1
      obtain ⟨rfl, g2⟩ := flats_toV hs f2
      refine op_in_seq pins s σ H _ _ v u Q I rx ry ⟨_, _, rfl, .inr (SqT.of hb), g1, g2, ?_⟩
      rw [inF_eq]
      exact po _ _ _ _ TX.refl (.bl _) rh hq
  · split at h
    · cases r1; cases r2
      exact op_in_str pins s σ H _ _ v u Q I rx ry ⟨_, _, rfl, rfl, po _ _ _ _ TX.refl (.bl _) rh h⟩
    · exact h.elim
  · cases r2
    rcases h with ⟨ws, hl, f1, f2, hq⟩ | ⟨o, g, hq⟩
    · obtain ⟨xs, hs, rs⟩ := rh.rdl hl
      obtain ⟨rfl, g1⟩ := flat_toV r1 f1
      obtain ⟨rfl, g2⟩ := flats_toV rs f2
      refine op_in_seq pins s σ H _ _ v u Q I rx ry ⟨_, _, rfl, .inl hs, g1, g2, ?_⟩
      rw [inF_eq]
      exact po _ _ _ _ TX.refl (.bl _) rh hq
    · obtain ⟨o', g', ho⟩ := g.get rh r1
      cases ry
      refine d_in (by omega) I g' rx fun s3 I3 => ⟨.bl o'.isSome, H, I3, rfl, ?_⟩
      rw [opt_some ho]
      exact po _ _ _ _ TX.refl (.bl _) rh hq
  · exact h.elim
theorem w_notin (hu : X.A.units + 64 < cLine) : OW X (compareOp .NotIn) (wIn true) := by
  rintro pins s σ H x y v u Q I rx ry ⟨w1, w2, G, q, r1, r2, rh, po, h⟩
  unfold wIn at h
  split at h
  · obtain ⟨f1, f2, hq⟩ := h
    cases r2 with
    | tup hb hs =>
      obtain ⟨rfl, g1⟩ := flat_toV r1 f1
      obtain ⟨rfl, g2⟩ := flats_toV hs f2
      refine op_notIn_seq pins s σ H _ _ v u Q I rx ry ⟨_, _, rfl, .inr (SqT.of hb), g1, g2, ?_⟩
      rw [inF_eq]
      exact po _ _ _ _ TX.refl (.bl _) rh hq
  · split at h
    · cases r1; cases r2
      exact op_notIn_str pins s σ H _ _ v u Q I rx ry ⟨_, _, rfl, rfl, po _ _ _ _ TX.refl (.bl _) rh h⟩
    · exact h.elim
  · cases r2
    rcases h with ⟨ws, hl, f1, f2, hq⟩ | ⟨o, g, hq⟩
    · obtain ⟨xs, hs, rs⟩ := rh.rdl hl
      obtain ⟨rfl, g1⟩ := flat_toV r1 f1
      obtain ⟨rfl, g2⟩ := flats_toV rs f2
      refine op_notIn_seq pins s σ H _ _ v u Q I rx ry ⟨_, _, rfl, .inl hs, g1, g2, ?_⟩
      rw [inF_eq]
      exact po _ _ _ _ TX.refl (.bl _) rh hq
    · obtain ⟨o', g', ho⟩ := g.get rh r1
      cases ry
      refine d_notIn (by omega) I g' rx fun s3 I3 => ⟨.bl (!o'.isSome), H, I3, rfl, ?_⟩
      rw [opt_some ho]
      exact po _ _ _ _ TX.refl (.bl _) rh hq
  · exact h.elim

/-! ### a[b] -/
theorem atI_rel {H : Hp} {ws : List Wv} {vs : List V} {i : Int} {w : Wv} (r : RWs K H ws vs) (h : atI ws i = some w) : ∃ v, atI vs i = some v ∧ RW K H w v := by
  unfold atI at h ⊢
  rw [r.len]
  obtain ⟨j, h1, h2⟩ := Option.bind_eq_some_iff.mp h
  obtain ⟨v, e, rv⟩ := r.get h2
  exact ⟨v, Option.bind_eq_some_iff.mpr ⟨j, h1, e⟩, rv⟩
def wIx : RWop := fun a b G q => match a with
  | .tup ws => ∃ i w, b = .int i ∧ atI ws i = some w ∧ q w G
  | .str z => ∃ i c, b = .int i ∧ z.length ≤ sizeLine ∧ atI z.cps.toList i = some c ∧ q (.str ⟨#[c]⟩) G
  | .ref p => (∃ ws i w, b = .int i ∧ RdL G p ws ∧ atI ws i = some w ∧ q w G) ∨ ∃ w, DgW G p b (some w) ∧ q w G
  | _ => False
theorem w_ix (hu : X.A.units + 64 < cLine) : IxR X (embR X.K wIx) := by
  rintro value slice pins s σ H x y v u Q I rx ry ⟨w1, w2, G, q, r1, r2, rh, po, h⟩ hs
  unfold wIx at h
  split at h
  · obtain ⟨i, w, rfl, ha, hq⟩ := h
    cases r2
    cases r1 with
    | tup hb rs =>
      obtain ⟨z, hz, rz⟩ := atI_rel rs ha
      exact ix_tup value slice pins s σ H _ _ v u Q I rx ry ⟨_, _, _, _, rfl, rfl, SqT.of hb, hz, po _ _ _ _ TX.refl rz rh hq⟩ hs
  · obtain ⟨i, c, rfl, hz, ha, hq⟩ := h
    cases r1; cases r2
    exact ix_str value slice pins s σ H _ _ v u Q I rx ry ⟨_, _, _, rfl, rfl, hz, ha, po _ _ _ _ TX.refl (.str _) rh hq⟩ hs
  · cases r1
    rcases h with ⟨ws, i, w, rfl, hl, ha, hq⟩ | ⟨w, g, hq⟩
    · cases r2
      obtain ⟨xs, hx, rs⟩ := rh.rdl hl
      obtain ⟨z, hz, rz⟩ := atI_rel rs ha
      exact ix_list value slice pins s σ H _ _ v u Q I rx ry ⟨_, _, _, _, rfl, rfl, hx, hz, po _ _ _ _ TX.refl rz rh hq⟩ hs
    · obtain ⟨o', g', ho⟩ := g.get rh r2
      rcases ho with ⟨e, _⟩ | ⟨w', z, e1, rfl, rz⟩
      · cases e
      · cases e1
        cases rx
        exact tail_any (dict_typeIs I g') PySem.F.slot_dict_getitem.lookup (d_getItem (by omega) I g' ry fun w2 s3 I3 r3 => ⟨z, H, I3, r3, po _ _ _ _ TX.refl rz rh hq⟩) hs
  · exact h.elim
variable {a b c e : Expr} {es : List Expr} {ta tb tc : ET} {pos p2 : Pos}
theorem z_ix (hu : X.A.units + 64 < cLine) (ha : EW X Wx a ta) (hb : EW X Wx b tb) (hs : PlainIx b) : EW X Wx (.Subscript a b pos) (eOp wIx ta tb) := pe_imp (pe_ix (w_ix hu) ha hb hs) emb_op

/-! ### slices -/
abbrev OT := XW → SW → HW → (Option Int → HW → Prop) → Prop
def PostO (K : PySem.W.Frag) (H : Hp) (Q : Option Int → Hp → Prop) (q : Option Int → HW → Prop) : Prop := ∀ b G H', TX K H H' → RH K G H' → q b G → Q b H'
def embO (K : PySem.W.Frag) (Wx : WX) (t : OT) : TO := fun σ H Q => ∃ σw G x q, RS K H σw σ ∧ RH K G H ∧ PostX K H Wx x ∧ PostO K H Q q ∧ t x σw G q
abbrev PW' (X : Cx) (Wx : WX) (e : Option Expr) (t : OT) : Prop := PO X e (embO X.K Wx t)
def oNone : OT := fun _ _ G q => q none G
def oSome (t : ET) : OT := fun x σ G q => t x σ G fun w G1 => match w with
  | .int i => q (some i) G1
  | _ => False
theorem po_imp {e : Option Expr} {t t' : TO} (h : PO X e t) (i : ∀ σ H Q, t' σ H Q → t σ H Q) : PO X e t' := ⟨fun pins s σ H Q I q => h.run pins s σ H Q I (i _ _ _ q)⟩
theorem z_onone : PW' X Wx none oNone := po_imp po_none fun σ H Q ⟨σw, G, x, q, rs, rh, px, po, h⟩ => po none G H TX.refl rh h
theorem z_osome (h : EW X Wx e ta) : PW' X Wx (some e) (oSome ta) := po_imp (po_some h) fun σ H Q ⟨σw, G, x, q, rs, rh, px, po, h⟩ =>
  ⟨σw, G, x, _, rs, rh, px, fun w G1 v H1 t1 r1 rh1 h1 => by
    cases w <;> try exact h1.elim
    cases r1
    exact ⟨_, rfl, po _ _ _ t1 rh1 h1⟩, h⟩
def cutL {α : Type} (xs : List α) (lo hi : Option Int) : List α := (xs.drop (HT.sIx xs.length 0 lo)).take (HT.sIx xs.length xs.length hi - HT.sIx xs.length 0 lo)
theorem cutL_rel {H : Hp} {ws : List Wv} {vs : List V} (r : RWs K H ws vs) (lo hi : Option Int) : RWs K H (cutL ws lo hi) (cutV vs lo hi) := by
  unfold cutL cutV
  rw [r.len]
  exact (r.drop _).take _
theorem cutL_whole {α : Type} (xs : List α) {lo hi : Option Int} (h : HT.sIx xs.length 0 lo = 0 ∧ HT.sIx xs.length xs.length hi = xs.length) : cutL xs lo hi = xs := by
  unfold cutL
  rw [h.1, h.2]
  simp
def wSl : Wv → Option Int → Option Int → HW → WK → Prop := fun a lo hi G q => match a with
  | .tup ws => q (.tup (cutL ws lo hi)) G
  | .str z => z.length ≤ sizeLine ∧ q (.str (cutS z lo hi)) G
  | .ref p => ∃ ws, RdL G p ws ∧ ∀ l, G l = none → q (.ref l) (updO G l (.lst (cutL ws lo hi)))
  | _ => False
def embSl (K : PySem.W.Frag) (r : Wv → Option Int → Option Int → HW → WK → Prop) : V → Option Int → Option Int → Hp → VK → Prop := fun x lo hi H Q => ∃ w G q, RW K H w x ∧ RH K G H ∧ Post K H Q q ∧ r w lo hi G q
theorem w_sl : SlR X (embSl X.K wSl) := by
  rintro pins s σ H x v vl vu lo hi sl Q I rx hs pl pu ⟨w1, G, q, r1, rh, po, h⟩
  unfold wSl at h
  split at h
  · cases r1 with
    | tup hb rs =>
      refine sl_tupA pins s σ H _ v vl vu lo hi sl Q I rx hs pl pu ⟨_, _, rfl, SqT.of hb, fun e => ?_, fun _ p hp => ?_⟩
      · rw [rs.len] at e
        rw [cutL_whole _ e] at h
        exact po _ _ _ _ TX.refl (.tup hb rs) rh h
      · exact po _ _ _ _ (TX.new hp) (.tup upd_same (cutL_rel (rs.mono (TX.new hp)) lo hi)) (rh.kept hp) h
  · cases r1
    exact sl_str pins s σ H _ v vl vu lo hi sl Q I rx hs pl pu ⟨_, rfl, h.1, po _ _ _ _ TX.refl (.str _) rh h.2⟩
  · obtain ⟨ws, hl, hq⟩ := h
    cases r1
    obtain ⟨xs, hx, rs⟩ := rh.rdl hl
    exact sl_list pins s σ H _ v vl vu lo hi sl Q I rx hs pl pu ⟨_, _, rfl, hx, fun p hp => po _ _ _ _ (TX.new hp) (.ref p) (rh.newL hp (cutL_rel rs lo hi)) (hq p (rh.fresh hp))⟩
  · exact h.elim
def eSl (ta : ET) (tl th : OT) : ET := fun x σ G q => ta x σ G fun w G1 => tl x σ G1 fun lo G2 => th x σ G2 fun hi G3 => wSl w lo hi G3 q
theorem z_sl {lo hi : Option Expr} {tl th : OT} (ha : EW X Wx a ta) (hl : PW' X Wx lo tl) (hh : PW' X Wx hi th) : EW X Wx (.Subscript a (.Slice lo hi none p2) pos) (eSl ta tl th) :=
  pe_imp (pe_slice w_sl ha hl hh) fun σ H Q ⟨σw, G, x, q, rs, rh, px, po, h⟩ =>
    ⟨σw, G, x, _, rs, rh, px, fun w1 G1 v1 H1 t1 r1 rh1 h1 => ⟨σw, G1, x, _, rs.mono t1, rh1, px.mono t1, fun lo G2 H2 t2 rh2 h2 =>
      ⟨σw, G2, x, _, rs.mono (t1.trans t2), rh2, px.mono (t1.trans t2), fun hi G3 H3 t3 rh3 h3 => ⟨w1, G3, q, r1.mono (t2.trans t3), rh3, po.mono ((t1.trans t2).trans t3), h3⟩, h2⟩, h1⟩, h⟩

/-! ### tests -/
def wTru : Wv → HW → (Bool → HW → Prop) → Prop := fun w G q => match w with
  | .non => q false G
  | .bl b => q b G
  | .int i => q (i != 0) G
  | .str s => s.length ≤ sizeLine ∧ q ((s.length : Int) != 0) G
  | .tup ws => q (!ws.isEmpty) G
  | .ref p => (∃ ws, RdL G p ws ∧ q (!ws.isEmpty) G) ∨ ∃ kvs, G p = some (.dct kvs) ∧ q (!kvs.isEmpty) G
  | _ => False
def qTru (t : ET) : QT := fun x σ G q => t x σ G fun w G1 => wTru w G1 q
theorem z_q (ha : EW X Wx a ta) (he : ∀ whole, isTrue a X.env whole = (do let v ← whole; standAt a.pos; holding [v] (truthy v)) := by intro _; rfl) : QW X Wx a (qTru ta) :=
  pt_imp (pt_truth ha he) fun σ H Q ⟨σw, G, x, q, rs, rh, px, po, h⟩ => ⟨σw, G, x, _, rs, rh, px, fun w G1 v H1 t1 r1 rh1 h1 => by
    cases r1 with
    | non => exact ⟨_, rfl, po _ _ _ t1 rh1 h1⟩
    | bl b => exact ⟨_, rfl, po _ _ _ t1 rh1 h1⟩
    | int i => exact ⟨_, rfl, po _ _ _ t1 rh1 h1⟩
    | str y => exact ⟨_, ⟨h1.1, rfl⟩, po _ _ _ t1 rh1 h1.2⟩
    | ty n => exact h1.elim
    | fn e => exact h1.elim
    | kls _ _ => exact h1.elim
    | tup hb rs' => exact ⟨_, .inr (.inl ⟨_, SqT.of hb, rfl⟩), po _ _ _ t1 rh1 (by rw [rs'.isEmpty]; exact h1)⟩
    | ref p =>
      rcases h1 with ⟨ws, hl, hq⟩ | ⟨kvs, e, hq⟩
      · obtain ⟨xs, hx, rs'⟩ := rh1.rdl hl
        exact ⟨_, .inl ⟨xs, hx, rfl⟩, po _ _ _ t1 rh1 (by rw [rs'.isEmpty]; exact hq)⟩
      · obtain ⟨vs, f, rk⟩ := rh1.dct e
        refine ⟨_, .inr (.inr ⟨vs, f, rfl⟩), po _ _ _ t1 rh1 ?_⟩
        have e2 : vs.isEmpty = kvs.isEmpty := by cases rk <;> rfl
        rw [e2]
        exact hq, h⟩
variable {A B : QT} {rest : List Expr}
def qAnd (t u : QT) : QT := fun x σ G q => t x σ G fun k G1 => match k with
  | true => u x σ G1 q
  | false => q false G1
def qOr (t u : QT) : QT := fun x σ G q => t x σ G fun k G1 => match k with
  | true => q true G1
  | false => u x σ G1 q
def qNot (t : QT) : QT := fun x σ G q => t x σ G fun k G1 => q (!k) G1
theorem z_and1 (h : QW X Wx a A) : QWw X Wx (.BoolOp .And [a] pos) A := pw_and1 h
theorem z_or1 (h : QW X Wx a A) : QWw X Wx (.BoolOp .Or [a] pos) A := pw_or1 h
theorem z_and (h : QW X Wx a A) (g : QWw X Wx (.BoolOp .And (b :: rest) pos) B) : QWw X Wx (.BoolOp .And (a :: b :: rest) pos) (qAnd A B) :=
  pw_imp (pw_and h g) fun σ H Q ⟨σw, G, x, q, rs, rh, px, po, h⟩ => ⟨σw, G, x, _, rs, rh, px, fun k G1 H1 t1 rh1 h1 => by
    cases k with
    | true => rw [if_pos rfl]; exact ⟨σw, G1, x, q, rs.mono t1, rh1, px.mono t1, po.mono t1, h1⟩
    | false => rw [if_neg Bool.false_ne_true]; exact po _ _ _ t1 rh1 h1, h⟩
theorem z_or (h : QW X Wx a A) (g : QWw X Wx (.BoolOp .Or (b :: rest) pos) B) : QWw X Wx (.BoolOp .Or (a :: b :: rest) pos) (qOr A B) :=
  pw_imp (pw_or h g) fun σ H Q ⟨σw, G, x, q, rs, rh, px, po, h⟩ => ⟨σw, G, x, _, rs, rh, px, fun k G1 H1 t1 rh1 h1 => by
    cases k with
    | false => rw [if_neg Bool.false_ne_true]; exact ⟨σw, G1, x, q, rs.mono t1, rh1, px.mono t1, po.mono t1, h1⟩
    | true => rw [if_pos rfl]; exact po _ _ _ t1 rh1 h1, h⟩
theorem z_bool (h : QWw X Wx a A) : QW X Wx a A := PW.pt h
theorem z_qnot (h : QW X Wx a A) : QW X Wx (.UnaryOp .Not a pos) (qNot A) :=
  pt_imp (pt_not h) fun σ H Q ⟨σw, G, x, q, rs, rh, px, po, h⟩ => ⟨σw, G, x, _, rs, rh, px, fun k G1 H1 t1 rh1 h1 => po _ _ _ t1 rh1 h1, h⟩
/-- as values: bools -/
def eAnd (t u : ET) : ET := fun x σ G q => t x σ G fun w G1 => match w with
  | .bl true => u x σ G1 q
  | .bl false => q (.bl false) G1
  | _ => False
def eOr (t u : ET) : ET := fun x σ G q => t x σ G fun w G1 => match w with
  | .bl true => q (.bl true) G1
  | .bl false => u x σ G1 q
  | _ => False
def eNot (t : ET) : ET := fun x σ G q => t x σ G fun w G1 => match w with
  | .bl k => q (.bl (!k)) G1
  | _ => False
theorem z_vone {op} (h : EW X Wx a ta) : EW X Wx (.BoolOp op [a] pos) ta := pe_one h
theorem z_vand (h : EW X Wx a ta) (g : EW X Wx (.BoolOp .And (b :: rest) pos) tb) : EW X Wx (.BoolOp .And (a :: b :: rest) pos) (eAnd ta tb) :=
  pe_imp (pe_and h g) fun σ H Q ⟨σw, G, x, q, rs, rh, px, po, h⟩ => ⟨σw, G, x, _, rs, rh, px, fun w G1 v H1 t1 r1 rh1 h1 => by
    cases w <;> try exact h1.elim
    rename_i k
    cases r1
    cases k with
    | true => exact ⟨true, rfl, by rw [if_pos rfl]; exact ⟨σw, G1, x, q, rs.mono t1, rh1, px.mono t1, po.mono t1, h1⟩⟩
    | false => exact ⟨false, rfl, by rw [if_neg Bool.false_ne_true]; exact po _ _ _ _ t1 (.bl false) rh1 h1⟩, h⟩
theorem z_vor (h : EW X Wx a ta) (g : EW X Wx (.BoolOp .Or (b :: rest) pos) tb) : EW X Wx (.BoolOp .Or (a :: b :: rest) pos) (eOr ta tb) :=
  pe_imp (pe_or h g) fun σ H Q ⟨σw, G, x, q, rs, rh, px, po, h⟩ => ⟨σw, G, x, _, rs, rh, px, fun w G1 v H1 t1 r1 rh1 h1 => by
    cases w <;> try exact h1.elim
    rename_i k
    cases r1
    cases k with
    | false => exact ⟨false, rfl, by rw [if_neg Bool.false_ne_true]; exact ⟨σw, G1, x, q, rs.mono t1, rh1, px.mono t1, po.mono t1, h1⟩⟩
    | true => exact ⟨true, rfl, by rw [if_pos rfl]; exact po _ _ _ _ t1 (.bl true) rh1 h1⟩, h⟩
theorem z_vnot (h : EW X Wx a ta) : EW X Wx (.UnaryOp .Not a pos) (eNot ta) :=
  pe_imp (pe_not h) fun σ H Q ⟨σw, G, x, q, rs, rh, px, po, h⟩ => ⟨σw, G, x, _, rs, rh, px, fun w G1 v H1 t1 r1 rh1 h1 => by
    cases w <;> try exact h1.elim
    cases r1
    exact ⟨_, rfl, po _ _ _ _ t1 (.bl _) rh1 h1⟩, h⟩
def eIf (t : QT) (ta tb : ET) : ET := fun x σ G q => t x σ G fun k G1 => match k with
  | true => ta x σ G1 q
  | false => tb x σ G1 q
theorem z_ifx (h : QW X Wx c A) (ha : EW X Wx a ta) (hb : EW X Wx b tb) : EW X Wx (.IfExp c a b pos) (eIf A ta tb) :=
  pe_imp (pe_ifExp h ha hb) fun σ H Q ⟨σw, G, x, q, rs, rh, px, po, h⟩ => ⟨σw, G, x, _, rs, rh, px, fun k G1 H1 t1 rh1 h1 => by
    cases k with
    | true => rw [if_pos rfl]; exact ⟨σw, G1, x, q, rs.mono t1, rh1, px.mono t1, po.mono t1, h1⟩
    | false => rw [if_neg Bool.false_ne_true]; exact ⟨σw, G1, x, q, rs.mono t1, rh1, px.mono t1, po.mono t1, h1⟩, h⟩
/-- -a -/
def eNeg (t : ET) : ET := fun x σ G q => t x σ G fun w G1 => match w with
  | .int i => q (.int (-i)) G1
  | _ => False
theorem z_neg (h : EW X Wx a ta) : EW X Wx (.UnaryOp .USub a pos) (eNeg ta) :=
  pe_imp (pe_un un_neg h) fun σ H Q ⟨σw, G, x, q, rs, rh, px, po, h⟩ => ⟨σw, G, x, _, rs, rh, px, fun w G1 v H1 t1 r1 rh1 h1 => by
    cases w <;> try exact h1.elim
    cases r1
    exact ⟨_, rfl, po _ _ _ _ t1 (.int _) rh1 h1⟩, h⟩

/-! ### argument lists, displays -/
variable {tl : AT}
def aNil : AT := fun _ _ G q => q [] G
def aCons (t : ET) (u : AT) : AT := fun x σ G q => t x σ G fun w G1 => u x σ G1 fun ws G2 => q (w :: ws) G2
theorem z_anil : AW X Wx [] aNil := pa_imp pa_nil fun σ H Q ⟨σw, G, x, q, rs, rh, px, po, h⟩ => po _ _ _ _ TX.refl .nil rh h
theorem z_acons (h : EW X Wx e ta) (g : AW X Wx es tl) (hs : starEach (e :: es) X.env = (false, eval e X.env) :: starEach es X.env := by rfl) : AW X Wx (e :: es) (aCons ta tl) :=
  pa_imp (pa_cons h g hs) fun σ H Q ⟨σw, G, x, q, rs, rh, px, po, h⟩ => ⟨σw, G, x, _, rs, rh, px, fun w1 G1 v1 H1 t1 r1 rh1 h1 => ⟨σw, G1, x, _, rs.mono t1, rh1, px.mono t1, fun ws G2 vs H2 t2 r2 rh2 h2 =>
    po _ _ _ _ (t1.trans t2) (.cons (r1.mono t2) r2) rh2 h2, h1⟩, h⟩
def eTup (t : AT) : ET := fun x σ G q => t x σ G fun ws G1 => ws.length ≤ sizeLine ∧ q (.tup ws) G1
def eLst (t : AT) : ET := fun x σ G q => t x σ G fun ws G1 => ws.length ≤ sizeLine ∧ ∀ l, G1 l = none → q (.ref l) (updO G1 l (.lst ws))
theorem z_tup {x1} (h : AW X Wx es tl) : EW X Wx (.Tuple es x1 pos) (eTup tl) :=
  pe_imp (pe_tup h) fun σ H Q ⟨σw, G, x, q, rs, rh, px, po, h⟩ => ⟨σw, G, x, _, rs, rh, px, fun ws G1 vs H1 t1 r1 rh1 h1 => ⟨by rw [r1.len]; exact h1.1, fun p hp =>
    po _ _ _ _ (t1.trans (TX.new hp)) (.tup upd_same (r1.mono (TX.new hp))) (rh1.kept hp) h1.2⟩, h⟩
theorem z_lst (h : AW X Wx es tl) : EW X Wx (.List es pos) (eLst tl) :=
  pe_imp (pe_lst h) fun σ H Q ⟨σw, G, x, q, rs, rh, px, po, h⟩ => ⟨σw, G, x, _, rs, rh, px, fun ws G1 vs H1 t1 r1 rh1 h1 => ⟨by rw [r1.len]; exact h1.1, fun p hp =>
    po _ _ _ _ (t1.trans (TX.new hp)) (.ref p) (rh1.newL hp r1) (h1.2 p (rh1.fresh hp))⟩, h⟩
/-- {} whose keys will be flat | tuples -/
def eDnew : ET := fun _ _ G q => ∀ l, G l = none → q (.ref l) (updO G l (.dct []))
def eTnew : ET := fun _ _ G q => ∀ l, G l = none → q (.ref l) (updO G l (.dtp []))
theorem z_dnew : EW X Wx (.Dict [] [] pos) eDnew := pe_imp pe_dnewK fun σ H Q ⟨σw, G, x, q, rs, rh, px, po, h⟩ p hp => po _ _ _ _ (TX.new hp) (.ref p) (rh.newD hp .nil) (h p (rh.fresh hp))
theorem z_tnew : EW X Wx (.Dict [] [] pos) eTnew := pe_imp pe_dnewT fun σ H Q ⟨σw, G, x, q, rs, rh, px, po, h⟩ p hp => po _ _ _ _ (TX.new hp) (.ref p) (rh.newT hp .nil) (h p (rh.fresh hp))
end
end LF

/-! LF4: calls of built-ins, methods of built-in types -/
namespace LF
open PySem PySem.Spec PyProof.Rows L2
section
variable {X : Cx} {Wx : WX} {K : PySem.W.Frag} {pos p p2 : Pos} {e o : Expr} {es : List Expr} {ta to : ET} {tl : AT} {x : Str}
abbrev RCop := List Wv → HW → WK → Prop
def embC (K : PySem.W.Frag) (r : RCop) : List V → Hp → VK → Prop := fun xs H Q => ∃ ws G q, RWs K H ws xs ∧ RH K G H ∧ Post K H Q q ∧ r ws G q
abbrev CW (X : Cx) (f : Value) (r : RCop) : Prop := CallR X f (embC X.K r)
def eCB (r : RCop) (t : AT) : ET := fun x σ G q => t x σ G fun ws G1 => r ws G1 q
theorem emb_cb {r : RCop} : ∀ σ H Q, emb K Wx (eCB r tl) σ H Q → tCB (embC K r) (embA K Wx tl) σ H Q := fun σ H Q ⟨σw, G, x, q, rs, rh, px, po, h⟩ =>
  ⟨σw, G, x, _, rs, rh, px, fun ws G1 vs H1 t1 r1 rh1 h1 => ⟨ws, G1, q, r1, rh1, po.mono t1, h1⟩, h⟩
theorem z_callB {id : String} {r : RCop} (hc : CW X (.builtin id) r) (hg : Gl X x) (hm : X.mg x = none) (hv : bootBuiltins x = some (.builtin id)) (ha : AW X Wx (e :: es) tl) (hn : x ≠ "__name__" := by decide) (hdb : (x == ("__debug__" : Str)) = false := by decide)
    (he : starEach (e :: es) X.env = (false, eval e X.env) :: starEach es X.env := by rfl) (hpl : (backTo pos (starEach es X.env)).any (·.1) = false := by rfl) : EW X Wx (.Call (.Name x p) (e :: es) [] pos) (eCB r tl) :=
  pe_imp (pe_callB hc hg hm hv ha hn hdb he hpl) emb_cb
theorem z_callT {id : String} {r : RCop} (hc : CW X (.type id) r) (hg : Gl X x) (hm : X.mg x = none) (hv : bootBuiltins x = some (.type id)) (ha : AW X Wx (e :: es) tl) (hn : x ≠ "__name__" := by decide) (hdb : (x == ("__debug__" : Str)) = false := by decide)
    (he : starEach (e :: es) X.env = (false, eval e X.env) :: starEach es X.env := by rfl) (hpl : (backTo pos (starEach es X.env)).any (·.1) = false := by rfl) : EW X Wx (.Call (.Name x p) (e :: es) [] pos) (eCB r tl) :=
  pe_imp (pe_callTy hc hg hm hv ha hn hdb he hpl) emb_cb

theorem rws1 {H : Hp} {w : Wv} {vs : List V} (r : RWs K H [w] vs) : ∃ v, vs = [v] ∧ RW K H w v := by
  cases r with
  | cons a b => cases b; exact ⟨_, rfl, a⟩
theorem rws2 {H : Hp} {w w' : Wv} {vs : List V} (r : RWs K H [w, w'] vs) : ∃ v v', vs = [v, v'] ∧ RW K H w v ∧ RW K H w' v' := by
  cases r with
  | cons a b =>
    cases b with
    | cons c d => cases d; exact ⟨_, _, rfl, a, c⟩
/-- len -/
def wLen : RCop := fun ws G q => match ws with
  | [.tup us] => q (.int us.length) G
  | [.kls us] => q (.int us.length) G
  | [.str z] => z.length ≤ sizeLine ∧ q (.int z.length) G
  | [.ref p] => (∃ us, RdL G p us ∧ q (.int us.length) G) ∨ (∃ kvs, G p = some (.dct kvs) ∧ q (.int kvs.length) G) ∨ ∃ kvs, G p = some (.dtp kvs) ∧ q (.int kvs.length) G
  | _ => False
theorem w_len : CW X (.builtin "len") wLen := by
  rintro pins s σ H xs us Q I r ⟨ws, G, q, rw', rh, po, h⟩
  unfold wLen at h
  split at h
  · obtain ⟨v, rfl, rv⟩ := rws1 rw'
    cases rv with
    | tup hb rs => exact call_len_seq pins s σ H _ us Q I r ⟨_, _, rfl, .inr (SqT.of hb), by rw [rs.len]; exact po _ _ _ _ TX.refl (.int _) rh h⟩
  · obtain ⟨v, rfl, rv⟩ := rws1 rw'
    cases rv with
    | kls hb rs => exact call_len_seq pins s σ H _ us Q I r ⟨_, _, rfl, .inl hb.sq, by rw [rs.len]; exact po _ _ _ _ TX.refl (.int _) rh h⟩
  · obtain ⟨v, rfl, rv⟩ := rws1 rw'
    cases rv
    exact call_len_str pins s σ H _ us Q I r ⟨_, rfl, h.1, po _ _ _ _ TX.refl (.int _) rh h.2⟩
  · obtain ⟨v, rfl, rv⟩ := rws1 rw'
    cases rv
    rcases h with ⟨us', hl, hq⟩ | ⟨kvs, hk, hq⟩ | ⟨kvs, hk, hq⟩
    · obtain ⟨xs, hx, rs⟩ := rh.rdl hl
      exact call_len_seq pins s σ H _ us Q I r ⟨_, _, rfl, .inl hx, by rw [rs.len]; exact po _ _ _ _ TX.refl (.int _) rh hq⟩
    · obtain ⟨vs, f, rk⟩ := rh.dct hk
      exact call_lenD pins s σ H _ us Q I r ⟨_, _, rfl, f, by rw [rk.len]; exact po _ _ _ _ TX.refl (.int _) rh hq⟩
    · obtain ⟨vs, f, rk⟩ := rh.dtp hk
      exact call_len_dT pins s σ H _ us Q I r ⟨_, _, rfl, f, by rw [rk.len]; exact po _ _ _ _ TX.refl (.int _) rh hq⟩
  · exact h.elim

/-! ### isinstance -/
/-- what the written part says of a class whose instances are asked -/
structure InsC (K : PySem.W.Frag) (C : Addr) : Prop where
  cl : Cls K C
  ha : PySem.W.findIn K (.ref C) "__class__" = some (some (.builtin "object.__class__"))
  hn : PySem.W.specialIn K (.builtin "object.__class__") "__get__" = some (some (.builtin "getset_descriptor.__get__"))
  htk : PySem.W.takesIn K (.builtin "object.__class__") = some true
  hm : PySem.W.mroIn K C (.type "object") = some true
/-- an object's type -/
def TyO (K : PySem.W.Frag) (p : Addr) : Option O → Value → Prop
  | some (.lst _), t => t = .type "list"
  | some (.flst _), t => t = .type "list"
  | some (.dct _), t => t = .type "dict"
  | some (.dtp _), t => t = .type "dict"
  | some (.ins C _ _), t => t = .ref C ∧ InsC K C
  | some (.exc a c _), t => a = p ∧ ∃ C, c = .ref C ∧ t = .ref C ∧ ExcC K C
  | _, _ => False
/-- a value's type -/
def TyW (K : PySem.W.Frag) (G : HW) : Wv → Value → Prop
  | .non, t => t = .type "NoneType"
  | .bl _, t => t = .type "bool"
  | .int _, t => t = .type "int"
  | .str _, t => t = .type "str"
  | .tup _, t => t = .type "tuple"
  | .ref p, t => TyO K p (G p) t
  | _, _ => False
theorem kit_at {X : Cx} {pins : List (Addr × Obj)} {σ : L2.St} {H : Hp} {s : Shared} {G : HW} {w : Wv} {v : V} {u t : Value} (I : Inv X pins σ H s) (y : TyW X.K G w t) (rh : RH X.K G H) (r : RW X.K H w v) (rv : L2.RelV v u) :
    ∃ P : Heap → Prop, PySem.W.KitX X.K u t P ∧ P s.heap ∧ u ≠ .builtin "__main__.__loader__#opaque" := by
  have bs : TyX X.K H v t → ∃ P : Heap → Prop, PySem.W.KitX X.K u t P ∧ P s.heap ∧ u ≠ .builtin "__main__.__loader__#opaque" := fun ty => kit_of I rv ty
  cases r with
  | non => cases (show t = _ from y); exact bs (.base .non)
  | bl b => cases (show t = _ from y); exact bs (.base (.bl b))
  | int i => cases (show t = _ from y); exact bs (.base (.int i))
  | str z => cases (show t = _ from y); exact bs (.base (.str z))
  | ty n => exact (show False from y).elim
  | fn _ => exact (show False from y).elim
  | kls _ _ => exact (show False from y).elim
  | tup hb rs => cases (show t = _ from y); exact bs (.base (.tup hb))
  | ref p =>
    replace y : TyO X.K p (G p) t := y
    unfold TyO at y
    split at y
    · rename_i e
      subst y
      obtain ⟨xs, f, _⟩ := rh.lst e
      exact bs (.base (.lst f))
    · rename_i e
      subst y
      obtain ⟨ob, xs, f, _⟩ := rh.flst e
      exact bs (.base (.frz f))
    · rename_i e
      subst y
      obtain ⟨xs, f, _⟩ := rh.dct e
      exact bs (.base (.dK f))
    · rename_i e
      subst y
      obtain ⟨xs, f, _⟩ := rh.dtp e
      exact bs (.base (.dT f))
    · rename_i e
      obtain ⟨rfl, c⟩ := y
      obtain ⟨xs, f, _⟩ := rh.ins e
      exact bs (.base (.ins f c.cl c.ha c.hn c.htk c.hm))
    · rename_i e
      obtain ⟨ea, C, rfl, rfl, c⟩ := y
      obtain ⟨d, f, rx⟩ := rh.exc e
      rw [ea] at f
      obtain ⟨⟨oe, vs, h1, ⟨h2, h3⟩, h4⟩, _, _⟩ := I.hok _ _ f
      obtain ⟨cd, hc, _⟩ := PySem.W.any_some c.hd
      cases (show u = Value.ref p from rv)
      have no : PySem.W.notCls oe = true := by
        unfold PySem.W.notCls
        rw [h4]
      have J : ∃ od, PySem.W.InstAt s.heap p oe C od := by
        cases d with
        | none => exact ⟨none, h1, h2, no, by rw [h3]; trivial⟩
        | some d =>
          obtain ⟨xs, e1, _⟩ := rx
          obtain ⟨mA, hns, _⟩ := (show ObjOk X.prog X.w H s.heap d (.xd xs) from I.hok d _ e1)
          obtain ⟨od, ho, _⟩ := lookIn_ns hns
          exact ⟨some od, h1, h2, no, by rw [h3]; exact ho⟩
      obtain ⟨od, J⟩ := J
      exact ⟨_, PySem.W.kitx_exc (by rw [hc]; rfl) c.hg c.hk c.hs c.ha c.hn c.ht c.hm, J, fun z => nomatch z⟩
    · exact y.elim
/-- a class as a value -/
def ClW : Wv → Value → Prop
  | .ty n, u => u = .type n
  | .ref C, u => u = .ref C
  | _, _ => False
def ClWs : List Wv → List Value → Prop
  | [], us => us = []
  | w :: ws, us => ∃ u r, us = u :: r ∧ ClW w u ∧ ClWs ws r
theorem ClW.is {H : Hp} {w : Wv} {v : V} {u : Value} (y : ClW w u) (r : RW K H w v) : ClsV v u := by
  cases r with
  | ty n => cases (show u = _ from y); exact .ty n
  | ref p => cases (show u = _ from y); exact .own p
  | _ => exact (show False from y).elim
theorem ClWs.is {H : Hp} : ∀ {ws : List Wv} {vs : List V} {us : List Value}, ClWs ws us → RWs K H ws vs → Paired ClsV vs us
  | _, _, _, h, .nil => by cases (show _ = [] from h); exact .nil
  | _, _, _, h, .cons a b => by
    obtain ⟨u, r, rfl, c, d⟩ := h
    exact .cons (c.is a) (ClWs.is d b)
def wIsi (K : PySem.W.Frag) : RCop := fun ws G q => match ws with
  | [w, .tup cs] => ∃ t us b, TyW K G w t ∧ ClWs cs us ∧ PySem.W.kitAny K t us = some b ∧ q (.bl b) G
  | [w, c] => ∃ t u b, TyW K G w t ∧ ClW c u ∧ PySem.W.kitOne K t u = some b ∧ q (.bl b) G
  | _ => False
theorem w_isi : CW X (.builtin "isinstance") (wIsi X.K) := by
  rintro pins s σ H xs us Q I r ⟨ws, G, q, rw', rh, po, h⟩
  unfold wIsi at h
  split at h
  · obtain ⟨t, us', b, ty, cl, e, hq⟩ := h
    obtain ⟨v, v', rfl, rv, rv'⟩ := rws2 rw'
    obtain ⟨u1, u2, rfl, r1, r2⟩ := vals2 r
    obtain ⟨P, Z, p, hx⟩ := kit_at I ty rh rv r1
    cases rv' with
    | @tup tp cs _ hb rs =>
      cases (show u2 = Value.ref tp from r2)
      obtain ⟨_, its, rv2, o, h1, h2, n, h3⟩ := (show ObjOk X.prog X.w H s.heap tp (.tup cs) from I.hok tp _ hb)
      have e3 := ClsV.all (cl.is rs) rv2
      subst e3
      obtain ⟨oc, od, dt, sl⟩ := o
      simp only at h2 h3
      subst h2 h3
      exact PySem.W.kia_tup Z I.kIn p h1 e hx fun tk => ⟨.bl b, H, I.tok tk, rfl, po _ _ _ _ TX.refl (.bl _) rh hq⟩
  · obtain ⟨t, u, b, ty, cl, e, hq⟩ := h
    obtain ⟨v, v', rfl, rv, rv'⟩ := rws2 rw'
    obtain ⟨u1, u2, rfl, r1, r2⟩ := vals2 r
    obtain ⟨P, Z, p, hx⟩ := kit_at I ty rh rv r1
    have e2 := (cl.is rv').eq r2
    subst e2
    exact PySem.W.kia_one Z I.kIn p e hx fun tk => ⟨.bl b, H, I.tok tk, rfl, po _ _ _ _ TX.refl (.bl _) rh hq⟩
  · exact h.elim

/-! ### all, any, max, min, tuple, list, sorted -/
def wAll : RCop := fun ws G q => match ws with
  | [.ref p] => ∃ bs : List Bool, RdL G p (bs.map .bl) ∧ q (.bl (bs.all id)) G
  | _ => False
def wAny : RCop := fun ws G q => match ws with
  | [.ref p] => ∃ bs : List Bool, RdL G p (bs.map .bl) ∧ q (.bl (bs.any id)) G
  | _ => False
theorem w_all (hc : X.calm = true) : CW X (.builtin "all") wAll := by
  rintro pins s σ H xs us Q I r ⟨ws, G, q, rw', rh, po, h⟩
  unfold wAll at h
  split at h
  · obtain ⟨bs, hl, hq⟩ := h
    obtain ⟨v, rfl, rv⟩ := rws1 rw'
    cases rv
    obtain ⟨vs, hx, rs⟩ := rh.rdl hl
    have e := rs.bls
    subst e
    exact cr_all hc pins s σ H _ us Q I r ⟨_, bs, rfl, hx, po _ _ _ _ TX.refl (.bl _) rh hq⟩
  · exact h.elim
theorem w_any (hc : X.calm = true) : CW X (.builtin "any") wAny := by
  rintro pins s σ H xs us Q I r ⟨ws, G, q, rw', rh, po, h⟩
  unfold wAny at h
  split at h
  · obtain ⟨bs, hl, hq⟩ := h
    obtain ⟨v, rfl, rv⟩ := rws1 rw'
    cases rv
    obtain ⟨vs, hx, rs⟩ := rh.rdl hl
    have e := rs.bls
    subst e
    exact cr_any hc pins s σ H _ us Q I r ⟨_, bs, rfl, hx, po _ _ _ _ TX.refl (.bl _) rh hq⟩
  · exact h.elim
def wMax : RCop := fun ws G q => match ws with
  | [.int i, .int j] => q (.int (if j > i then j else i)) G
  | [.ref p] => ∃ ns : List Int, RdL G p (ns.map .int) ∧ 0 < ns.length ∧ ∀ m, m ∈ ns → (∀ y, y ∈ ns → y ≤ m) → q (.int m) G
  | _ => False
def wMin : RCop := fun ws G q => match ws with
  | [.int i, .int j] => q (.int (if j < i then j else i)) G
  | [.ref p] => ∃ ns : List Int, RdL G p (ns.map .int) ∧ 0 < ns.length ∧ ∀ m, m ∈ ns → (∀ y, y ∈ ns → m ≤ y) → q (.int m) G
  | _ => False
theorem w_max (hc : X.calm = true) : CW X (.builtin "max") wMax := by
  rintro pins s σ H xs us Q I r ⟨ws, G, q, rw', rh, po, h⟩
  unfold wMax at h
  split at h
  · obtain ⟨v, v', rfl, rv, rv'⟩ := rws2 rw'
    cases rv; cases rv'
    exact call_max2 hc pins s σ H _ us Q I r ⟨_, _, rfl, po _ _ _ _ TX.refl (.int _) rh h⟩
  · obtain ⟨ns, hl, hn, hq⟩ := h
    obtain ⟨v, rfl, rv⟩ := rws1 rw'
    cases rv
    obtain ⟨vs, hx, rs⟩ := rh.rdl hl
    have e := rs.ints
    subst e
    exact cr_max hc pins s σ H _ us Q I r ⟨_, ns, rfl, hx, hn, fun m h1 h2 => po _ _ _ _ TX.refl (.int _) rh (hq m h1 h2)⟩
  · exact h.elim
theorem w_min (hc : X.calm = true) : CW X (.builtin "min") wMin := by
  rintro pins s σ H xs us Q I r ⟨ws, G, q, rw', rh, po, h⟩
  unfold wMin at h
  split at h
  · obtain ⟨v, v', rfl, rv, rv'⟩ := rws2 rw'
    cases rv; cases rv'
    exact call_min2 hc pins s σ H _ us Q I r ⟨_, _, rfl, po _ _ _ _ TX.refl (.int _) rh h⟩
  · obtain ⟨ns, hl, hn, hq⟩ := h
    obtain ⟨v, rfl, rv⟩ := rws1 rw'
    cases rv
    obtain ⟨vs, hx, rs⟩ := rh.rdl hl
    have e := rs.ints
    subst e
    exact cr_min hc pins s σ H _ us Q I r ⟨_, ns, rfl, hx, hn, fun m h1 h2 => po _ _ _ _ TX.refl (.int _) rh (hq m h1 h2)⟩
  · exact h.elim
def wTuple : RCop := fun ws G q => match ws with
  | [.tup us] => q (.tup us) G
  | [.ref p] => ∃ us, RdL G p us ∧ q (.tup us) G
  | _ => False
theorem w_tuple : CW X (.type "tuple") wTuple := by
  rintro pins s σ H xs us Q I r ⟨ws, G, q, rw', rh, po, h⟩
  unfold wTuple at h
  split at h
  · obtain ⟨v, rfl, rv⟩ := rws1 rw'
    cases rv with
    | tup hb rs => exact call_tuple_of pins s σ H _ us Q I r ⟨_, _, rfl, .inr ⟨SqT.of hb, po _ _ _ _ TX.refl (.tup hb rs) rh h⟩⟩
  · obtain ⟨us', hl, hq⟩ := h
    obtain ⟨v, rfl, rv⟩ := rws1 rw'
    cases rv
    obtain ⟨vs, hx, rs⟩ := rh.rdl hl
    exact call_tuple_of pins s σ H _ us Q I r ⟨_, _, rfl, .inl ⟨hx, fun l hl => po _ _ _ _ (TX.new hl) (.tup upd_same (rs.mono (TX.new hl))) (rh.kept hl) hq⟩⟩
  · exact h.elim
def wList : RCop := fun ws G q => match ws with
  | [.tup us] => ∀ l, G l = none → q (.ref l) (updO G l (.lst us))
  | [.ref p] => ∃ us, RdL G p us ∧ ∀ l, G l = none → q (.ref l) (updO G l (.lst us))
  | _ => False
theorem w_list : CW X (.type "list") wList := by
  rintro pins s σ H xs us Q I r ⟨ws, G, q, rw', rh, po, h⟩
  unfold wList at h
  split at h
  · obtain ⟨v, rfl, rv⟩ := rws1 rw'
    cases rv with
    | tup hb rs => exact call_list_of pins s σ H _ us Q I r ⟨_, _, rfl, .inr (SqT.of hb), fun l hl => po _ _ _ _ (TX.new hl) (.ref l) (rh.newL hl rs) (h l (rh.fresh hl))⟩
  · obtain ⟨us', hl, hq⟩ := h
    obtain ⟨v, rfl, rv⟩ := rws1 rw'
    cases rv
    obtain ⟨vs, hx, rs⟩ := rh.rdl hl
    exact call_list_of pins s σ H _ us Q I r ⟨_, _, rfl, .inl hx, fun l hl => po _ _ _ _ (TX.new hl) (.ref l) (rh.newL hl rs) (hq l (rh.fresh hl))⟩
  · exact h.elim
def wSorted : RCop := fun ws G q => match ws with
  | [.ref p] => ∃ ns : List Int, RdL G p (ns.map .int) ∧ ∀ ns' : List Int, ns'.Perm ns → ns'.Pairwise (· ≤ ·) → ∀ l, G l = none → q (.ref l) (updO G l (.lst (ns'.map .int)))
  | _ => False
theorem w_sorted : CW X (.builtin "sorted") wSorted := by
  rintro pins s σ H xs us Q I r ⟨ws, G, q, rw', rh, po, h⟩
  unfold wSorted at h
  split at h
  · obtain ⟨ns, hl, hq⟩ := h
    obtain ⟨v, rfl, rv⟩ := rws1 rw'
    cases rv
    obtain ⟨vs, hx, rs⟩ := rh.rdl hl
    have e := rs.ints
    subst e
    exact cr_sortedI pins s σ H _ us Q I r ⟨_, ns, rfl, hx, fun ns' l hp hs hl => po _ _ _ _ (TX.new hl) (.ref l) (rh.newL hl (RWs.ofInts ns')) (hq ns' hp hs l (rh.fresh hl))⟩
  · exact h.elim
/-- int(x), bool(x), str(x) -/
def wIntOf : RCop := fun ws G q => match ws with
  | [.int i] => q (.int i) G
  | [.bl k] => q (.int (if k then 1 else 0)) G
  | _ => False
theorem w_intOf : CW X (.type "int") wIntOf := by
  rintro pins s σ H xs us Q I r ⟨ws, G, q, rw', rh, po, h⟩
  unfold wIntOf at h
  split at h
  · obtain ⟨v, rfl, rv⟩ := rws1 rw'
    cases rv
    exact call_int1 pins s σ H _ us Q I r (.inl ⟨_, rfl, po _ _ _ _ TX.refl (.int _) rh h⟩)
  · obtain ⟨v, rfl, rv⟩ := rws1 rw'
    cases rv
    exact call_int1 pins s σ H _ us Q I r (.inr ⟨_, rfl, po _ _ _ _ TX.refl (.int _) rh h⟩)
  · exact h.elim
/-! ### repr -/
def wRepr : RCop := fun ws G q => match ws with
  | [w] => ∃ d, Dt G w d ∧ d.showable = true ∧ d.depth ≤ 20 ∧ d.shown.length ≤ sizeLine ∧ q (.str d.shown) G
  | _ => False
theorem dp_noDict {H : Hp} : ∀ {d : PyData} {v : V}, Dp K H v d → d.hasDict = false
  | .none, _, _ => by simp [PyData.hasDict]
  | .bool _, _, _ => by simp [PyData.hasDict]
  | .int _, _, _ => by simp [PyData.hasDict]
  | .str _, _, _ => by simp [PyData.hasDict]
  | .list ds, _, h => by
    cases h with
    | lst _ hs => rw [PyData.hasDict]; exact all hs
  | .tuple ds, _, h => by
    cases h with
    | tup _ hs => rw [PyData.hasDict]; exact all hs
  | .dict _, _, h => by cases h
where all {H : Hp} : ∀ {ds : List PyData} {vs : List V}, DpAll K H vs ds → PyData.hasDictAll ds = false
  | [], _, _ => by simp [PyData.hasDictAll]
  | d :: ds, _, h => by
    cases h with
    | cons a b => rw [PyData.hasDictAll, dp_noDict a, all b]; rfl
theorem w_repr (hg : X.A.guards = some []) (hu : X.A.units + 64 < cLine) : CW X (.builtin "repr") wRepr := by
  rintro pins s σ H xs us Q I r ⟨ws, G, q, rw', rh, po, h⟩
  unfold wRepr at h
  split at h
  · obtain ⟨d, hd, hs, hz, hl, hq⟩ := h
    obtain ⟨v, rfl, rv⟩ := rws1 rw'
    obtain ⟨u, rfl, ru⟩ := r.one
    have dp := hd.dp rh rv
    have fin : ∀ (h' : Heap) (t : Tok) (tk : Nat), (∀ b ob, s.heap.get? b = some ob → h'.get? b = some ob) → EP X pins σ Q (.str d.shown t) { s with heap := h', toks := tk } := fun h' t tk hk =>
      ⟨.str d.shown, H, I.kept (t' := tk) hk, ⟨t, rfl⟩, po _ _ _ _ TX.refl (.str _) rh hq⟩
    obtain ⟨as, rd⟩ := Dp.reads I d v u dp ru
    cases dp with
    | non =>
      cases ru
      exact PySem.P.repr_of_none (fin _ _ _ fun _ _ z => z)
    | bl b =>
      cases ru
      have z := fin s.heap s.toks (s.toks + 1) fun _ _ z => z
      rw [PyData.shown] at z
      exact PySem.P.repr_of_bool z
    | int i =>
      obtain ⟨t, rfl⟩ := ru
      rw [PyData.showable] at hs
      have z := fin s.heap s.toks (s.toks + 1) fun _ _ z => z
      rw [PyData.shown] at z
      exact PySem.P.repr_of_int (of_decide_eq_true hs) z
    | str y =>
      obtain ⟨t, rfl⟩ := ru
      have z := fin s.heap s.toks (s.toks + 1) fun _ _ z => z
      rw [PyData.shown] at z hl
      exact PySem.P.repr_of_str z hl
    | lst e hs2 =>
      cases ru
      exact repr_of_reads' rd hs (PyData.noDict_hsm (dp_noDict (.lst e hs2))) hg (by omega) (fun _ _ z => z) (fun h' t tk hk => fin h' t tk hk) hl
    | tup e hs2 =>
      cases ru
      exact repr_of_reads' rd hs (PyData.noDict_hsm (dp_noDict (.tup e hs2))) hg (by omega) (fun _ _ z => z) (fun h' t tk hk => fin h' t tk hk) hl
  · exact h.elim

/-! ### methods of built-in types -/
abbrev RMop := Wv → List Wv → HW → WK → Prop
def embM (K : PySem.W.Frag) (r : RMop) : V → List V → Hp → VK → Prop := fun x xs H Q => ∃ w ws G q, RW K H w x ∧ RWs K H ws xs ∧ RH K G H ∧ Post K H Q q ∧ r w ws G q
/-- a value of that built-in type -/
def TyM (T : String) (w : Wv) (G : HW) : Prop := match w with
  | .str _ => T = "str"
  | .ref p => (T = "list" ∧ ∃ ws, RdL G p ws) ∨ (T = "dict" ∧ ((∃ kvs, G p = some (.dct kvs)) ∨ ∃ kvs, G p = some (.dtp kvs)))
  | _ => False
theorem TyM.is {T : String} {w : Wv} {G : HW} {H : Hp} {v : V} (y : TyM T w G) (rh : RH K G H) (r : RW K H w v) : tyV K T v H := by
  cases r with
  | str z => exact y
  | ref p =>
    rcases y with ⟨rfl, ws, hl⟩ | ⟨rfl, ⟨kvs, e⟩ | ⟨kvs, e⟩⟩
    · obtain ⟨xs, hx, _⟩ := rh.rdl hl
      exact .inl ⟨rfl, xs, hx⟩
    · obtain ⟨vs, f, _⟩ := rh.dct e
      exact .inr (.inr (.inl ⟨rfl, .inl ⟨vs, f⟩⟩))
    · obtain ⟨vs, f, _⟩ := rh.dtp e
      exact .inr (.inr (.inl ⟨rfl, .inr ⟨vs, f⟩⟩))
  | _ => exact (show False from y).elim
def eBM0 (T : String) (r : RMop) (to : ET) : ET := fun x σ G q => to x σ G fun w G1 => TyM T w G1 ∧ r w [] G1 q
def eBM (T : String) (r : RMop) (to : ET) (t : AT) : ET := fun x σ G q => to x σ G fun w G1 => TyM T w G1 ∧ t x σ G1 fun ws G2 => r w ws G2 q
variable {T id : String} {name : Str} {apos cpos : Pos} {r : RMop}
theorem z_bm0 (pa : PlainAttrs T) (slot : Slot T name id) (hty : typeOf (.builtin id) = pure (.type "method_descriptor")) (hm : MtR X id (embM X.K r)) (ho : EW X Wx o to)
    (hbase : attributeBase o name X.env (eval o X.env) = eval o X.env := by rfl) (hline : (apos.endLine == cpos.line) = true := by rfl) : EW X Wx (.Call (.Attribute o name apos) [] [] cpos) (eBM0 T r to) :=
  pe_imp (pe_bm0 pa slot hty hm ho hbase hline) fun σ H Q ⟨σw, G, x, q, rs, rh, px, po, h⟩ => ⟨σw, G, x, _, rs, rh, px, fun w G1 v H1 t1 r1 rh1 h1 => ⟨h1.1.is rh1 r1, w, [], G1, q, r1, .nil, rh1, po.mono t1, h1.2⟩, h⟩
theorem z_bm (pa : PlainAttrs T) (slot : Slot T name id) (hty : typeOf (.builtin id) = pure (.type "method_descriptor")) (hm : MtR X id (embM X.K r)) (ho : EW X Wx o to) (ha : AW X Wx (e :: es) tl)
    (hbase : attributeBase o name X.env (eval o X.env) = eval o X.env := by rfl)
    (hfew : ((backTo cpos (starEach (e :: es) X.env)).all (fun x => !x.1) && (backToKw cpos (keywordEach [] X.env)).all (fun x => x.1.isSome)
      && decide ((e :: es).length + ([] : List Keyword).length + (if ([] : List Keyword).isEmpty then 0 else 1) < 30)) = true := by rfl)
    (hline : (apos.endLine == cpos.line) = true := by rfl) (hs : starEach (e :: es) X.env = (false, eval e X.env) :: starEach es X.env := by rfl) (hplain : (backTo cpos (starEach es X.env)).any (·.1) = false := by rfl) :
    EW X Wx (.Call (.Attribute o name apos) (e :: es) [] cpos) (eBM T r to tl) :=
  pe_imp (pe_bm pa slot hty hm ho ha hbase hfew hline hs hplain) fun σ H Q ⟨σw, G, x, q, rs, rh, px, po, h⟩ => ⟨σw, G, x, _, rs, rh, px, fun w G1 v H1 t1 r1 rh1 h1 => ⟨h1.1.is rh1 r1, σw, G1, x, _, rs.mono t1, rh1, px.mono t1,
    fun ws G2 vs H2 t2 r2 rh2 h2 => ⟨w, ws, G2, q, r1.mono t2, r2, rh2, po.mono (t1.trans t2), h2⟩, h1.2⟩, h⟩
/-- xs.append(y) -/
def wAppend : RMop := fun w us G q => match w, us with
  | .ref l, [y] => ∃ ws, G l = some (.lst ws) ∧ ws.length < sizeLine ∧ q .non (updO G l (.lst (ws ++ [y])))
  | _, _ => False
theorem w_append : MtR X "list.append" (embM X.K wAppend) := by
  rintro pins s σ H x xs v us Q I rx rxs ⟨w, ws, G, q, r1, r2, rh, po, h⟩
  unfold wAppend at h
  split at h
  · obtain ⟨ws', e, hz, hq⟩ := h
    cases r1
    obtain ⟨y, rfl, ry⟩ := rws1 r2
    obtain ⟨vs, f, rs⟩ := rh.lst e
    exact mt_append pins s σ H _ _ v us Q I rx rxs ⟨_, _, _, rfl, rfl, f, by rw [rs.len]; exact hz, po _ _ _ _ (TX.put f noTup_lst) .non (rh.putL f (rs.app (.cons ry .nil))) hq⟩
  · exact h.elim
/-- xs.extend(ys), xs.pop(), xs.clear() -/
def wPop : RMop := fun w us G q => match w, us with
  | .ref l, [] => ∃ ws y, G l = some (.lst ws) ∧ ws[ws.length - 1]? = some y ∧ q y (updO G l (.lst ws.dropLast))
  | _, _ => False
theorem w_pop : MtR X "list.pop" (embM X.K wPop) := by
  rintro pins s σ H x xs v us Q I rx rxs ⟨w, ws, G, q, r1, r2, rh, po, h⟩
  unfold wPop at h
  split at h
  · obtain ⟨ws', y, e, hy, hq⟩ := h
    cases r1
    cases r2
    obtain ⟨vs, f, rs⟩ := rh.lst e
    obtain ⟨z, hz, rz⟩ := rs.get hy
    exact mt_pop pins s σ H _ _ v us Q I rx rxs ⟨_, _, z, rfl, rfl, f, by rw [rs.len]; exact hz, po _ _ _ _ (TX.put f noTup_lst) (rz.mono (TX.put f noTup_lst)) (rh.putL f rs.dropLast) hq⟩
  · exact h.elim
def wClear : RMop := fun w us G q => match w, us with
  | .ref l, [] => ∃ ws, G l = some (.lst ws) ∧ q .non (updO G l (.lst []))
  | _, _ => False
theorem w_clear : MtR X "list.clear" (embM X.K wClear) := by
  rintro pins s σ H x xs v us Q I rx rxs ⟨w, ws, G, q, r1, r2, rh, po, h⟩
  unfold wClear at h
  split at h
  · obtain ⟨ws', e, hq⟩ := h
    cases r1
    cases r2
    obtain ⟨vs, f, rs⟩ := rh.lst e
    exact mt_clear pins s σ H _ _ v us Q I rx rxs ⟨_, _, rfl, rfl, f, po _ _ _ _ (TX.put f noTup_lst) .non (rh.putL f .nil) hq⟩
  · exact h.elim
def wExtend : RMop := fun w us G q => match w, us with
  | .ref l, [.ref b] => ∃ ws us, G l = some (.lst ws) ∧ G b = some (.lst us) ∧ ws.length + us.length ≤ sizeLine ∧ q .non (updO G l (.lst (ws ++ us)))
  | _, _ => False
theorem w_extend : MtR X "list.extend" (embM X.K wExtend) := by
  rintro pins s σ H x xs v us Q I rx rxs ⟨w, ws, G, q, r1, r2, rh, po, h⟩
  unfold wExtend at h
  split at h
  · obtain ⟨ws', us', e, e2, hz, hq⟩ := h
    cases r1
    obtain ⟨y, rfl, ry⟩ := rws1 r2
    cases ry
    obtain ⟨vs, f, rs⟩ := rh.lst e
    obtain ⟨vs2, f2, rs2⟩ := rh.lst e2
    exact mt_extend pins s σ H _ _ v us Q I rx rxs ⟨_, _, _, _, rfl, rfl, f, f2, by rw [rs.len, rs2.len]; exact hz, po _ _ _ _ (TX.put f noTup_lst) .non (rh.putL f (rs.app rs2)) hq⟩
  · exact h.elim
end
end LF

/-! LF5: targets, statements, loops, comprehensions -/
namespace LF
open PySem PySem.Spec PyProof.Rows L2
section
variable {X : Cx} {Wx : WX} {K : PySem.W.Frag} {pos p p2 : Pos} {a b c e o : Expr} {es : List Expr} {ta tb to te : ET} {tl : AT} {st : Stmt} {sts : List Stmt} {t u : ST}

/-! ### blocks -/
def sNext : ST := fun D σ G => D.nx σ G
def sSeq (t u : ST) : ST := fun D σ G => t { D with nx := u D } σ G
theorem zs_nil : TWs X Wx [] sNext := pss_imp pss_nil fun D σ H ⟨σw, G, d, rs, rh, sm, h⟩ => sm.nx _ _ _ _ TX.refl rs rh h
theorem zs_cons (h1 : TW X Wx st t) (h2 : TWs X Wx sts u) : TWs X Wx (st :: sts) (sSeq t u) :=
  pss_imp (pss_cons h1 h2) fun D σ H ⟨σw, G, d, rs, rh, sm, h⟩ => ⟨σw, G, { d with nx := u d }, rs, rh,
    { nx := fun σw' G' σ' H' tx rs' rh' h' => ⟨σw', G', d, rs', rh', sm.mono tx, h'⟩, rt := sm.rt, bk := sm.bk, ct := sm.ct, ex := sm.ex }, h⟩
theorem zs_one (h1 : TW X Wx st t) : TWs X Wx [st] t := pss_one h1
theorem z_pass : TW X Wx (.Pass pos) sNext := ps_imp ps_pass fun D σ H ⟨σw, G, d, rs, rh, sm, h⟩ => sm.nx _ _ _ _ TX.refl rs rh h
def sBrk : ST := fun D σ G => D.bk σ G
def sCont : ST := fun D σ G => D.ct σ G
theorem z_break : TW X Wx (.Break pos) sBrk := ps_imp ps_break fun D σ H ⟨σw, G, d, rs, rh, sm, h⟩ => sm.bk _ _ _ _ TX.refl rs rh h
theorem z_continue : TW X Wx (.Continue pos) sCont := ps_imp ps_continue fun D σ H ⟨σw, G, d, rs, rh, sm, h⟩ => sm.ct _ _ _ _ TX.refl rs rh h
def sExpr (te : ET) : ST := fun D σ G => te D.ex σ G fun _ G1 => D.nx σ G1
theorem z_expr (he : EW X Wx e te) (hs : swapsWith e none pos.line X.env = pure false := by rfl) : TW X Wx (.Expr e pos) (sExpr te) :=
  ps_imp (ps_expr he hs) fun D σ H ⟨σw, G, d, rs, rh, sm, h⟩ => ⟨σw, G, d.ex, _, rs, rh, sm.ex, fun w G1 v H1 t1 r1 rh1 h1 => sm.nx _ _ _ _ t1 (rs.mono t1) rh1 h1, h⟩
theorem z_doc {x j pos'} : TW X Wx (.Expr (.Constant (.str x) j pos) pos') sNext := ps_imp ps_doc fun D σ H ⟨σw, G, d, rs, rh, sm, h⟩ => sm.nx _ _ _ _ TX.refl rs rh h
def sRet (te : ET) : ST := fun D σ G => te D.ex σ G D.rt
def sRetN : ST := fun D _ G => D.rt .non G
theorem z_ret (he : EW X Wx e te) : TW X Wx (.Return (some e) pos) (sRet te) :=
  ps_imp (ps_ret he) fun D σ H ⟨σw, G, d, rs, rh, sm, h⟩ => ⟨σw, G, d.ex, _, rs, rh, sm.ex, sm.rt, h⟩
theorem z_retN : TW X Wx (.Return none pos) sRetN := ps_imp ps_retN fun D σ H ⟨σw, G, d, rs, rh, sm, h⟩ => sm.rt _ _ _ _ TX.refl .non rh h
def sIf (q : QT) (t u : ST) : ST := fun D σ G => q D.ex σ G fun k G1 => match k with
  | true => t D σ G1
  | false => u D σ G1
theorem z_if {q : QT} {xs ys : List Stmt} (hc : QW X Wx c q) (ha : TWs X Wx xs t) (hb : TWs X Wx ys u) : TW X Wx (.If c xs ys pos) (sIf q t u) :=
  ps_imp (ps_if hc ha hb) fun D σ H ⟨σw, G, d, rs, rh, sm, h⟩ => ⟨σw, G, d.ex, _, rs, rh, sm.ex, fun k G1 H1 t1 rh1 h1 => by
    cases k with
    | true => rw [if_pos rfl]; exact ⟨σw, G1, d, rs.mono t1, rh1, sm.mono t1, h1⟩
    | false => rw [if_neg Bool.false_ne_true]; exact ⟨σw, G1, d, rs.mono t1, rh1, sm.mono t1, h1⟩, h⟩
/-- what is never come to -/
def sNever : ST := fun _ _ _ => False
theorem z_never : TW X Wx st sNever := ps_imp ps_never fun D σ H ⟨σw, G, d, rs, rh, sm, h⟩ => h
theorem zs_never : TWs X Wx sts sNever := pss_imp pss_never fun D σ H ⟨σw, G, d, rs, rh, sm, h⟩ => h

/-! ### targets -/
def gNm (i : Nat) : GT := fun _ w σ G q => q (σ.set i (some w)) G
theorem zg_name {i : Nat} {x : Str} (hN : X.N.Nodup) (hi : X.N[i]? = some x) (hx : Loc X.env.scope x) (hf : X.fn x = true ∨ X.env.scope.names.lookup x = some .local := by first | exact .inl rfl | exact .inr rfl | assumption) : GW X Wx (.Name x pos) (gNm i) :=
  pg_imp (pg_name hN hi hx hf) fun v σ H Q ⟨w, σw, G, x, q, r, rs, rh, px, po, h⟩ => po _ _ _ _ TX.refl (rs.set r i) rh h
abbrev GTs := XW → List Wv → SW → HW → (SW → HW → Prop) → Prop
def embGs (K : PySem.W.Frag) (Wx : WX) (g : GTs) : TGs := fun vs σ H Q => ∃ ws σw G x q, RWs K H ws vs ∧ RS K H σw σ ∧ RH K G H ∧ PostX K H Wx x ∧ PostS K H Q q ∧ g x ws σw G q
abbrev GWs (X : Cx) (Wx : WX) (es : List Expr) (g : GTs) : Prop := PGs X es (embGs X.K Wx g)
def gNo : GTs := fun _ ws σ G q => ws = [] ∧ q σ G
def gMo (g : GT) (r : GTs) : GTs := fun x ws σ G q => match ws with
  | w :: us => g x w σ G fun σ' G' => r x us σ' G' q
  | [] => False
theorem zg_nil : GWs X Wx [] gNo := ⟨fun pins s σ H vs us Q I r h => pgs_nil.run pins s σ H vs us Q I r (by
  obtain ⟨ws, σw, G, x, q, rw', rs, rh, px, po, rfl, h⟩ := h
  cases rw'
  exact ⟨rfl, po _ _ _ _ TX.refl rs rh h⟩)⟩
theorem zg_cons {g : GT} {r : GTs} (h1 : GW X Wx e g) (h2 : GWs X Wx es r) (hs : (assignEach (e :: es) X.env).map (·.2) = assign e X.env :: (assignEach es X.env).map (·.2) := by rfl) : GWs X Wx (e :: es) (gMo g r) :=
  ⟨fun pins s σ H vs us Q I rv h => (pgs_cons h1 h2 hs).run pins s σ H vs us Q I rv (by
    obtain ⟨ws, σw, G, x, q, rw', rs, rh, px, po, h⟩ := h
    unfold gMo at h
    split at h
    · cases rw' with
      | cons ra rr =>
        exact ⟨_, _, rfl, _, σw, G, x, _, ra, rs, rh, px, fun σw' G' σ' H' tx rs' rh' h' => ⟨_, σw', G', x, q, rr.mono tx, rs', rh', px.mono tx, po.mono tx, h'⟩, h⟩
    · exact h.elim)⟩
def gTu (n : Nat) (g : GTs) : GT := fun x w σ G q => match w with
  | .tup ws => ws.length = n ∧ g x ws σ G q
  | _ => False
theorem zg_tup {k : Nat} {g : GTs} {n : Nat} (hc : X.calm = true) (h : GWs X Wx es g) (hn : (assignEach es X.env).length = n := by rfl) (hst : (assignEach es X.env).findIdx? (·.1) = none := by rfl) : GW X Wx (.Tuple es k pos) (gTu n g) :=
  pg_imp (pg_tup hc h hn hst) fun v σ H Q ⟨w, σw, G, x, q, r, rs, rh, px, po, h⟩ => by
    unfold gTu at h
    split at h
    · cases r with
      | tup hb rr => exact ⟨_, _, rfl, SqT.of hb, by rw [rr.len]; exact h.1, _, σw, G, x, q, rr, rs, rh, px, po, h.2⟩
    · exact h.elim
/-- o[i] = v -/
def wSet : Wv → Wv → Wv → HW → (HW → Prop) → Prop := fun o i v G q => match o with
  | .ref p => (∃ ws k j, i = .int k ∧ G p = some (.lst ws) ∧ ixN ws.length k = some j ∧ q (updO G p (.lst (ws.set j v)))) ∨ ∃ G', DpW G p i v G' ∧ q G'
  | _ => False
def embSet (K : PySem.W.Frag) : V → V → V → Hp → (Hp → Prop) → Prop := fun o i v H Q => ∃ w1 w2 w3 G q, RW K H w1 o ∧ RW K H w2 i ∧ RW K H w3 v ∧ RH K G H ∧ (∀ G' H', TX K H H' → RH K G' H' → q G' → Q H') ∧ wSet w1 w2 w3 G q
theorem w_set (hu : X.A.units + 64 < cLine) : PSet X (embSet X.K) := by
  rintro pins s σ H ov iv vv ov' iv' u Q I ro ri rv ⟨w1, w2, w3, G, q, r1, r2, r3, rh, po, h⟩
  unfold wSet at h
  split at h
  · cases r1
    cases ro
    rcases h with ⟨ws, k, j, rfl, e, hj, hq⟩ | ⟨G', g, hq⟩
    · cases r2
      obtain ⟨vs, f, rs⟩ := rh.lst e
      exact set_list pins s σ H (.ref _) _ _ _ _ u Q I rfl ri rv ⟨_, vs, k, j, rfl, rfl, f, by rw [rs.len]; exact hj, po _ _ (TX.put f noTup_lst) (rh.putL f (rs.set r3 j)) hq⟩
    · obtain ⟨H', g', tx, rh'⟩ := g.put rh r2 r3
      exact d_setItem (by omega) I g' ri rv fun s' I' => ⟨H', I', po _ _ tx rh' hq⟩
  · exact h.elim
def gSb (to ti : ET) : GT := fun x w σ G q => to x σ G fun o G1 => ti x σ G1 fun i G2 => wSet o i w G2 fun G3 => q σ G3
theorem zg_sub {i : Expr} {ti : ET} (hu : X.A.units + 64 < cLine) (ho : EW X Wx o to) (hi : EW X Wx i ti)
    (ha : ∀ v, assign (.Subscript o i pos) X.env v = (do
      let ov ← holding [v] (eval o X.env)
      let iv ← holding [v, ov] (eval i X.env)
      standAt pos
      holding [v, ov, iv] (setItem ov iv v)
      release [v, ov, iv] []) := by intro _; rfl) : GW X Wx (.Subscript o i pos) (gSb to ti) :=
  pg_imp (pg_sub ho hi (w_set hu) ha) fun v σ H Q ⟨w, σw, G, x, q, r, rs, rh, px, po, h⟩ => ⟨σw, G, x, _, rs, rh, px, fun w1 G1 v1 H1 t1 r1 rh1 h1 => ⟨σw, G1, x, _, rs.mono t1, rh1, px.mono t1, fun w2 G2 v2 H2 t2 r2 rh2 h2 =>
    ⟨w1, w2, w, G2, _, r1.mono t2, r2, r.mono (t1.trans t2), rh2, fun G3 H3 t3 rh3 h3 => po _ _ _ _ ((t1.trans t2).trans t3) (rs.mono ((t1.trans t2).trans t3)) rh3 h3, h2⟩, h1⟩, h⟩

/-! ### assignments -/
def sSet (i : Nat) (te : ET) : ST := fun D σ G => te D.ex σ G fun w G1 => D.nx (σ.set i (some w)) G1
theorem z_set {i : Nat} {x : Str} {pos' : Pos} (hN : X.N.Nodup) (hi : X.N[i]? = some x) (hx : Loc X.env.scope x) (he : EW X Wx e te) (hs : swapsWith e (some (.Name x pos')) pos.line X.env = pure false := by rfl)
    (hf : X.fn x = true ∨ X.env.scope.names.lookup x = some .local := by first | exact .inl rfl | exact .inr rfl | assumption) : TW X Wx (.Assign [.Name x pos'] e pos) (sSet i te) :=
  ps_imp (ps_set hN hi hx he hs hf) fun D σ H ⟨σw, G, d, rs, rh, sm, h⟩ => ⟨σw, G, d.ex, _, rs, rh, sm.ex, fun w G1 v H1 t1 r1 rh1 h1 => sm.nx _ _ _ _ t1 ((rs.mono t1).set r1 i) rh1 h1, h⟩
def sAsg (te : ET) (g : GT) : ST := fun D σ G => te D.ex σ G fun w G1 => g D.ex w σ G1 D.nx
theorem z_asg {tg : Expr} {g : GT} (he : EW X Wx e te) (hg : GW X Wx tg g) (hs : swapsWithSole [tg] e pos.line X.env = pure false := by rfl) (hw : swappedStores [tg] e X.env = pure none := by rfl)
    (h1 : (assignEach [tg] X.env).map (·.2) = [assign tg X.env] := by rfl) : TW X Wx (.Assign [tg] e pos) (sAsg te g) :=
  ps_imp (ps_asg he hg hs hw h1) fun D σ H ⟨σw, G, d, rs, rh, sm, h⟩ => ⟨σw, G, d.ex, _, rs, rh, sm.ex, fun w G1 v H1 t1 r1 rh1 h1 => ⟨w, σw, G1, d.ex, _, r1, rs.mono t1, rh1, sm.ex.mono t1, sm.nx.mono t1, h1⟩, h⟩
def sPar (i j : Nat) (tl : AT) : ST := fun D σ G => tl D.ex σ G fun ws G1 => match ws with
  | [v, w] => D.nx ((σ.set i (some v)).set j (some w)) G1
  | _ => False
theorem z_par {i j : Nat} {x y : Str} {px py pt : Pos} {kt k2 pt2} (hc : X.calm = true) (hN : X.N.Nodup) (hi : X.N[i]? = some x) (hj : X.N[j]? = some y) (hij : i ≠ j)
    (hx : X.env.scope.names.lookup x = some .local) (hy : X.env.scope.names.lookup y = some .local) (ha : AW X Wx [a, b] tl)
    (hw : swappedStores [.Tuple [.Name x px, .Name y py] kt pt] (.Tuple [a, b] k2 pt2) X.env = pure (some [x, y]))
    (hs : swapsWithSole [.Tuple [.Name x px, .Name y py] kt pt] (.Tuple [a, b] k2 pt2) pos.line X.env = pure false := by rfl) :
    TW X Wx (.Assign [.Tuple [.Name x px, .Name y py] kt pt] (.Tuple [a, b] k2 pt2) pos) (sPar i j tl) :=
  ps_imp (ps_par hc hN hi hj hij hx hy ha hw hs) fun D σ H ⟨σw, G, d, rs, rh, sm, h⟩ => ⟨σw, G, d.ex, _, rs, rh, sm.ex, fun ws G1 vs H1 t1 r1 rh1 h1 => by
    split at h1
    · obtain ⟨v, v', rfl, ra, rb⟩ := rws2 r1
      exact ⟨_, _, rfl, sm.nx _ _ _ _ t1 (((rs.mono t1).set ra i).set rb j) rh1 h1⟩
    · exact h1.elim, h⟩
def sPar3 (i j l : Nat) (tl : AT) : ST := fun D σ G => tl D.ex σ G fun ws G1 => match ws with
  | [u, v, w] => D.nx (((σ.set i (some u)).set j (some v)).set l (some w)) G1
  | _ => False
theorem z_par3 {i j l : Nat} {x y z : Str} {px py pz pt : Pos} {kt k2 pt2} (hc : X.calm = true) (hN : X.N.Nodup) (hi : X.N[i]? = some x) (hj : X.N[j]? = some y) (hl : X.N[l]? = some z) (hij : i ≠ j) (hil : i ≠ l) (hjl : j ≠ l)
    (hx : X.env.scope.names.lookup x = some .local) (hy : X.env.scope.names.lookup y = some .local) (hz : X.env.scope.names.lookup z = some .local) (ha : AW X Wx [a, b, c] tl)
    (hw : swappedStores [.Tuple [.Name x px, .Name y py, .Name z pz] kt pt] (.Tuple [a, b, c] k2 pt2) X.env = pure (some [x, y, z]))
    (hs : swapsWithSole [.Tuple [.Name x px, .Name y py, .Name z pz] kt pt] (.Tuple [a, b, c] k2 pt2) pos.line X.env = pure false := by rfl) :
    TW X Wx (.Assign [.Tuple [.Name x px, .Name y py, .Name z pz] kt pt] (.Tuple [a, b, c] k2 pt2) pos) (sPar3 i j l tl) :=
  ps_imp (ps_par3 hc hN hi hj hl hij hil hjl hx hy hz ha hw hs) fun D σ H ⟨σw, G, d, rs, rh, sm, h⟩ => ⟨σw, G, d.ex, _, rs, rh, sm.ex, fun ws G1 vs H1 t1 r1 rh1 h1 => by
    split at h1
    · cases r1 with
      | cons ra r1 =>
        obtain ⟨v, v', rfl, rb, rc⟩ := rws2 r1
        exact ⟨_, _, _, rfl, sm.nx _ _ _ _ t1 ((((rs.mono t1).set ra i).set rb j).set rc l) rh1 h1⟩
    · exact h1.elim, h⟩
/-- x op= e -/
def sAug (i : Nat) (te : ET) (r : RWop) : ST := fun D σ G => match σ[i]? with
  | some (some w) => te D.ex σ G fun w2 G1 => r w w2 G1 fun z G2 => D.nx (σ.set i (some z)) G2
  | _ => False
theorem z_aug {i : Nat} {x : Str} {op : Operator} {r : RWop} {pos' : Pos} (hN : X.N.Nodup) (hi : X.N[i]? = some x) (hx : Loc X.env.scope x) (he : EW X Wx e te) (ho : OW X (inplaceOp op) r)
    (hf : X.fn x = true ∨ X.env.scope.names.lookup x = some .local := by first | exact .inl rfl | exact .inr rfl | assumption) : TW X Wx (.AugAssign (.Name x pos') op e pos) (sAug i te r) :=
  ps_imp (ps_aug (ti := embR X.K r) hN hi hx he (fun pins s σ H x y v u Q I rx ry h => ho pins s σ H x y v u Q I rx ry h) hf) fun D σ H ⟨σw, G, d, rs, rh, sm, h⟩ => by
    unfold sAug at h
    split at h
    · rename_i w ew
      obtain ⟨v, ev, rv⟩ := rs.get ew
      exact ⟨v, ev, σw, G, d.ex, _, rs, rh, sm.ex, fun w1 G1 v1 H1 t1 r1 rh1 h1 => ⟨w, w1, G1, _, rv.mono t1, r1, rh1, fun w2 G2 v2 H2 t2 r2 rh2 h2 => sm.nx _ _ _ _ (t1.trans t2) ((rs.mono (t1.trans t2)).set r2 i) rh2 h2, h1⟩, h⟩
    · exact h.elim

/-! ### what is walked -/
/-- the walk J gives the items its, one behind the other, as long as ok holds -/
structure WalkW (K : PySem.W.Frag) (H0 : Hp) (its : List Wv) (ok : HW → Prop) (J : It) : Prop where
  stops : ∀ G H, TX K H0 H → RH K G H → ok G → J.stop its.length H
  goes : ∀ i G H, i < its.length → TX K H0 H → RH K G H → ok G → J.go i H
  yields : ∀ i G H x H', i < its.length → TX K H0 H → RH K G H → ok G → J.yld i H x H' → ∃ w, its[i]? = some w ∧ TX K H H' ∧ RW K H' w x ∧ RH K G H'
abbrev IT := XW → SW → HW → (List Wv → (HW → Prop) → HW → Prop) → Prop
def embI (K : PySem.W.Frag) (Wx : WX) (wi : IT) : TI := fun σ H R => ∃ σw G x q, RS K H σw σ ∧ RH K G H ∧ PostX K H Wx x ∧ (∀ its ok G1 J H1, TX K H H1 → RH K G1 H1 → WalkW K H1 its ok J → q its ok G1 → R J H1) ∧ wi x σw G q
abbrev IW (X : Cx) (Wx : WX) (tg iter : Expr) (wi : IT) : Prop := PI X tg iter (embI X.K Wx wi)
theorem pi_imp {tg iter : Expr} {w w' : TI} (h : PI X tg iter w) (i : ∀ σ H R, w' σ H R → w σ H R) : PI X tg iter w' := ⟨fun pins s σ H R I q => h.run pins s σ H R I (i _ _ _ q)⟩

def sFor (wi : IT) (g : GT) (tb : ST) : ST := fun D σ G => wi D.ex σ G fun its ok G1 => ∃ P : Nat → SW → HW → Prop, P 0 σ G1 ∧ (∀ i σ G, i ≤ its.length → P i σ G → ok G) ∧
  (∀ i w σ G, its[i]? = some w → P i σ G → g D.ex w σ G fun σ2 G2 => tb { D with nx := P (i + 1), ct := P (i + 1), bk := D.nx } σ2 G2) ∧ ∀ σ G, P its.length σ G → D.nx σ G
theorem z_for {tg iter : Expr} {wi : IT} {g : GT} (hp : PassesOwn (model X.prog X.w) X.A X.env X.xe) (hc : X.calm = true) (hi : IW X Wx tg iter wi) (hg : GW X Wx tg g) (hb : TWs X Wx sts t)
    (hs : ∀ x, foldedSetIterable iter X.env x = pure x := by intro _; rfl) : TW X Wx (.For tg iter sts [] pos) (sFor wi g t) :=
  ps_imp (ps_for hp hc hi hg hb hs) fun D σ H ⟨σw, G, d, rs, rh, sm, h⟩ => ⟨σw, G, d.ex, _, rs, rh, sm.ex, fun its ok G1 J H1 t1 rh1 wk h1 => by
    obtain ⟨P, h0, hok, hst, hdn⟩ := h1
    refine ⟨fun i m σ2 H2 => ∃ σw2 G2, m = its.length - i ∧ i ≤ its.length ∧ RS X.K H2 σw2 σ2 ∧ RH X.K G2 H2 ∧ TX X.K H1 H2 ∧ P i σw2 G2, ⟨its.length, σw, G1, by simp, Nat.zero_le _, rs.mono t1, rh1, TX.refl, h0⟩, ?_⟩
    rintro i m σ2 H2 ⟨σw2, G2, rfl, hi, rs2, rh2, t12, p2⟩
    have t2 := t1.trans t12
    have k2 := hok i σw2 G2 hi p2
    by_cases hlt : i < its.length
    · refine .inr ⟨wk.goes i G2 H2 hlt t12 rh2 k2, fun σ3 H3 => ∃ σw3 G3, RS X.K H3 σw3 σ3 ∧ RH X.K G3 H3 ∧ TX X.K H1 H3 ∧ P (i + 1) σw3 G3, fun σ' H' ⟨σw3, G3, r3, h3, t3, q3⟩ => ⟨its.length - (i + 1), by omega, σw3, G3, rfl, hlt, r3, h3, t3, q3⟩, fun x H' y => ?_⟩
      obtain ⟨w, ew, t3, rw3, rh3⟩ := wk.yields i G2 H2 x H' hlt t12 rh2 k2 y
      have t23 := t2.trans t3
      refine ⟨w, σw2, G2, d.ex, _, rw3, rs2.mono t3, rh3, sm.ex.mono t23, fun σw4 G4 σ4 H4 t4 rs4 rh4 h4 => ?_, hst i w σw2 G2 ew p2⟩
      have t24 := t23.trans t4
      have t14 := (t12.trans t3).trans t4
      exact ⟨σw4, G4, { d with nx := P (i + 1), ct := P (i + 1), bk := d.nx }, rs4, rh4, { nx := fun σw5 G5 σ5 H5 t5 rs5 rh5 h5 => ⟨σw5, G5, rs5, rh5, t14.trans t5, h5⟩, rt := sm.rt.mono t24, bk := sm.nx.mono t24, ct := fun σw5 G5 σ5 H5 t5 rs5 rh5 h5 => ⟨σw5, G5, rs5, rh5, t14.trans t5, h5⟩, ex := sm.ex.mono t24 }, h4⟩
    · have e : i = its.length := by omega
      subst e
      exact .inl ⟨wk.stops G2 H2 t12 rh2 k2, sm.nx _ _ _ _ t2 rs2 rh2 (hdn σw2 G2 p2)⟩, h⟩
/-- while -/
def sWhile (q : QT) (tb : ST) : ST := fun D σ G => ∃ P : Nat → SW → HW → Prop, (∃ m, P m σ G) ∧ ∀ m σ G, P m σ G → q D.ex σ G fun k G1 => match k with
  | true => tb { D with nx := fun σ' G' => ∃ m', m' < m ∧ P m' σ' G', ct := fun σ' G' => ∃ m', m' < m ∧ P m' σ' G', bk := D.nx } σ G1
  | false => D.nx σ G1
theorem z_while {q : QT} (hp : PassesOwn (model X.prog X.w) X.A X.env X.xe) (hc : QW X Wx c q) (hb : TWs X Wx sts t) : TW X Wx (.While c sts [] pos) (sWhile q t) :=
  ps_imp (ps_while hp hc hb) fun D σ H ⟨σw, G, d, rs, rh, sm, h⟩ => by
    obtain ⟨P, ⟨m0, h0⟩, hst⟩ := h
    refine ⟨fun m σ2 H2 => ∃ σw2 G2, RS X.K H2 σw2 σ2 ∧ RH X.K G2 H2 ∧ TX X.K H H2 ∧ P m σw2 G2, ⟨m0, σw, G, rs, rh, TX.refl, h0⟩, ?_⟩
    rintro m σ2 H2 ⟨σw2, G2, rs2, rh2, t2, p2⟩
    refine ⟨σw2, G2, d.ex, _, rs2, rh2, sm.ex.mono t2, fun k G3 H3 t3 rh3 h3 => ?_, hst m σw2 G2 p2⟩
    have t23 := t2.trans t3
    cases k with
    | true =>
      refine (if_pos rfl).mpr ?_
      refine ⟨fun σ4 H4 => ∃ σw4 G4, RS X.K H4 σw4 σ4 ∧ RH X.K G4 H4 ∧ TX X.K H H4 ∧ ∃ m', m' < m ∧ P m' σw4 G4, fun σ' H' ⟨σw4, G4, r4, h4, t4, m', hm, p4⟩ => ⟨m', hm, σw4, G4, r4, h4, t4, p4⟩, ?_⟩
      exact ⟨σw2, G3, { d with nx := fun σ' G' => ∃ m', m' < m ∧ P m' σ' G', ct := fun σ' G' => ∃ m', m' < m ∧ P m' σ' G', bk := d.nx }, rs2.mono t3, rh3, { nx := fun σw5 G5 σ5 H5 t5 rs5 rh5 h5 => ⟨σw5, G5, rs5, rh5, t23.trans t5, h5⟩, rt := sm.rt.mono t23, bk := sm.nx.mono t23, ct := fun σw5 G5 σ5 H5 t5 rs5 rh5 h5 => ⟨σw5, G5, rs5, rh5, t23.trans t5, h5⟩, ex := sm.ex.mono t23 }, h3⟩
    | false =>
      refine (if_neg Bool.false_ne_true).mpr ?_
      exact sm.nx _ _ _ _ t23 (rs2.mono t3) rh3 h3
end
end LF

/-! LF6: what is walked, comprehensions -/
namespace LF
open PySem PySem.Spec PyProof.Rows L2 RZ RT
section
variable {X : Cx} {Wx : WX} {K : PySem.W.Frag} {pos p p2 : Pos} {a b c e o tg : Expr} {es : List Expr} {ta tb to te : ET} {tl : AT}
def okT : HW → Prop := fun _ => True
/-! ### the walks -/
theorem walkW_tup {H0 : Hp} {r : Addr} {ws : List Wv} {xs : List V} (h : H0 r = some (.tup xs)) (rs : RWs K H0 ws xs) : WalkW K H0 ws okT (Itt K r) where
  stops := fun G H t _ _ => ⟨xs, SqT.of (t _ _ trivial h), by rw [rs.len]; exact Nat.le_refl _⟩
  goes := fun i G H hi t _ _ => ⟨xs, xs[i]'(by rw [rs.len]; exact hi), SqT.of (t _ _ trivial h), List.getElem?_eq_getElem _⟩
  yields := fun i G H x H' hi t rh _ y => by
    obtain ⟨rfl, y⟩ := y
    obtain ⟨w, ew, rw'⟩ := rs.getV (y xs (SqT.of (t _ _ trivial h)))
    exact ⟨w, ew, TX.refl, rw'.mono t, rh⟩
theorem RWs.inj {H : Hp} : ∀ {ws : List Wv} {vs us : List V}, RWs K H ws vs → RWs K H ws us → vs.length = us.length := fun a b => by rw [a.len, b.len]
theorem walkW_list {H0 : Hp} {r : Addr} {ws : List Wv} : WalkW K H0 ws (fun G => RdL G r ws) (Itl K r) where
  stops := fun G H t rh k => by
    obtain ⟨xs, hx, rs⟩ := rh.rdl k
    exact ⟨xs, hx, by rw [rs.len]; exact Nat.le_refl _⟩
  goes := fun i G H hi t rh k => by
    obtain ⟨xs, hx, rs⟩ := rh.rdl k
    exact ⟨xs, xs[i]'(by rw [rs.len]; exact hi), hx, List.getElem?_eq_getElem _⟩
  yields := fun i G H x H' hi t rh k y => by
    obtain ⟨xs, hx, rs⟩ := rh.rdl k
    obtain ⟨rfl, y⟩ := y
    obtain ⟨w, ew, rw'⟩ := rs.getV (y xs hx)
    exact ⟨w, ew, TX.refl, rw', rh⟩
theorem walkW_kls {H0 : Hp} {r : Addr} {ws : List Wv} {xs : List V} (hx : SqF K H0 r xs) (rs : RWs K H0 ws xs) : WalkW K H0 ws okT (Itl K r) where
  stops := fun G H t rh k => ⟨xs, (hx.mono t).sq, by rw [rs.len]; exact Nat.le_refl _⟩
  goes := fun i G H hi t rh k => ⟨xs, xs[i]'(by rw [rs.len]; exact hi), (hx.mono t).sq, List.getElem?_eq_getElem _⟩
  yields := fun i G H x H' hi t rh k y => by
    obtain ⟨rfl, y⟩ := y
    obtain ⟨w, ew, r2⟩ := rs.getV (y xs (hx.mono t).sq)
    exact ⟨w, ew, TX.refl, r2.mono t, rh⟩
def sgW (z : Str) : List Wv := z.cps.toList.map fun c => .str ⟨#[c]⟩
theorem walkW_str {H0 : Hp} {z : Str} : WalkW K H0 (sgW z) okT (Its z) where
  stops := fun G H t rh k => by
    show z.cps.size ≤ _
    unfold sgW; simp
  goes := fun i G H hi t rh k => by
    show i < z.cps.size
    unfold sgW at hi; simpa using hi
  yields := fun i G H x H' hi t rh k y => by
    obtain ⟨rfl, c, hc, rfl⟩ := y
    refine ⟨.str ⟨#[c]⟩, ?_, TX.refl, .str _, rh⟩
    unfold sgW
    rw [List.getElem?_map, Array.getElem?_toList, hc]
    rfl
def rgW (lo c : Int) (n : Nat) : List Wv := (List.range n).map fun i => .int (lo + (i : Nat) * c)
theorem rgW_len (lo c : Int) (n : Nat) : (rgW lo c n).length = n := by unfold rgW; simp
theorem rgW_at (lo c : Int) {n i : Nat} (h : i < n) : (rgW lo c n)[i]? = some (.int (lo + (i : Nat) * c)) := by
  unfold rgW
  rw [List.getElem?_map, List.getElem?_range h]
  rfl
theorem walkW_range {H0 : Hp} {lo : Int} {n : Nat} : WalkW K H0 (rgW lo 1 n) okT (Itr lo n) where
  stops := fun G H t rh k => by
    rw [rgW_len]
    exact Nat.le_refl _
  goes := fun i G H hi t rh k => by
    rw [rgW_len] at hi
    exact hi
  yields := fun i G H x H' hi t rh k y => by
    rw [rgW_len] at hi
    obtain ⟨rfl, rfl⟩ := y
    exact ⟨_, rgW_at lo 1 hi, TX.refl, by rw [Int.mul_one]; exact .int _, rh⟩
theorem walkW_rangeC {H0 : Hp} {lo c : Int} {n : Nat} : WalkW K H0 (rgW lo c n) okT (Itc lo c n) where
  stops := fun G H t rh k => by
    rw [rgW_len]
    exact Nat.le_refl _
  goes := fun i G H hi t rh k => by
    rw [rgW_len] at hi
    exact hi
  yields := fun i G H x H' hi t rh k y => by
    rw [rgW_len] at hi
    obtain ⟨rfl, rfl⟩ := y
    exact ⟨_, rgW_at lo c hi, TX.refl, .int _, rh⟩
theorem rev_at {α : Type} (ws : List α) {i : Nat} (h : i < ws.length) : ws.reverse[i]? = ws[ws.length - 1 - i]? := List.getElem?_reverse h
theorem walkW_rev {H0 : Hp} {r : Addr} {ws : List Wv} : WalkW K H0 ws.reverse (fun G => RdL G r ws) (Itv K r ws.length) where
  stops := fun G H t rh k => by
    show ws.length ≤ _
    simp
  goes := fun i G H hi t rh k => by
    obtain ⟨xs, hx, rs⟩ := rh.rdl k
    rw [List.length_reverse] at hi
    exact ⟨hi, xs, xs[ws.length - 1 - i]'(by rw [rs.len]; omega), hx, List.getElem?_eq_getElem _⟩
  yields := fun i G H x H' hi t rh k y => by
    obtain ⟨xs, hx, rs⟩ := rh.rdl k
    rw [List.length_reverse] at hi
    obtain ⟨rfl, y⟩ := y
    obtain ⟨w, ew, rw'⟩ := rs.getV (y xs hx)
    exact ⟨w, by rw [rev_at _ hi]; exact ew, TX.refl, rw', rh⟩
theorem walkW_revT {H0 : Hp} {r : Addr} {ws : List Wv} {xs : List V} (h : H0 r = some (.tup xs)) (rs : RWs K H0 ws xs) : WalkW K H0 ws.reverse okT (ItvT K r ws.length) where
  stops := fun G H t rh k => by
    show ws.length ≤ _
    simp
  goes := fun i G H hi t rh k => by
    rw [List.length_reverse] at hi
    exact ⟨hi, xs, xs[ws.length - 1 - i]'(by rw [rs.len]; omega), SqT.of (t _ _ trivial h), List.getElem?_eq_getElem _⟩
  yields := fun i G H x H' hi t rh k y => by
    rw [List.length_reverse] at hi
    obtain ⟨rfl, y⟩ := y
    obtain ⟨w, ew, rw'⟩ := rs.getV (y xs (SqT.of (t _ _ trivial h)))
    exact ⟨w, by rw [rev_at _ hi]; exact ew, TX.refl, rw'.mono t, rh⟩
def enW (ws : List Wv) : List Wv := ws.mapIdx fun i w => .tup [.int (i : Nat), w]
theorem walkW_enum {H0 : Hp} {r : Addr} {ws : List Wv} : WalkW K H0 (enW ws) (fun G => RdL G r ws) (Ite K r) where
  stops := fun G H t rh k => by
    obtain ⟨xs, hx, rs⟩ := rh.rdl k
    exact ⟨xs, hx, by unfold enW; rw [rs.len]; simp⟩
  goes := fun i G H hi t rh k => by
    obtain ⟨xs, hx, rs⟩ := rh.rdl k
    have hi : i < ws.length := by unfold enW at hi; simpa using hi
    exact ⟨xs, xs[i]'(by rw [rs.len]; exact hi), hx, List.getElem?_eq_getElem _⟩
  yields := fun i G H x H' hi t rh k y => by
    obtain ⟨xs, hx, rs⟩ := rh.rdl k
    obtain ⟨T, z, rfl, hT, rfl, y⟩ := y
    obtain ⟨w, ew, rw'⟩ := rs.getV (y xs hx)
    refine ⟨.tup [.int (i : Nat), w], ?_, TX.new hT, .tup upd_same (.cons (.int _) (.cons (rw'.mono (TX.new hT)) .nil)), rh.kept hT⟩
    unfold enW
    rw [List.getElem?_mapIdx, ew]
    rfl
theorem walkW_enumK {H0 : Hp} {r : Addr} {ws : List Wv} {xs : List V} (hx : SqF K H0 r xs) (rs : RWs K H0 ws xs) : WalkW K H0 (enW ws) okT (Ite K r) where
  stops := fun G H t rh k => ⟨xs, (hx.mono t).sq, by unfold enW; rw [rs.len]; simp⟩
  goes := fun i G H hi t rh k => by
    have hi : i < ws.length := by unfold enW at hi; simpa using hi
    exact ⟨xs, xs[i]'(by rw [rs.len]; exact hi), (hx.mono t).sq, List.getElem?_eq_getElem _⟩
  yields := fun i G H x H' hi t rh k y => by
    obtain ⟨T, z, rfl, hT, rfl, y⟩ := y
    obtain ⟨w, ew, r2⟩ := rs.getV (y xs (hx.mono t).sq)
    refine ⟨.tup [.int (i : Nat), w], ?_, TX.new hT, .tup upd_same (.cons (.int _) (.cons ((r2.mono t).mono (TX.new hT)) .nil)), rh.kept hT⟩
    unfold enW
    rw [List.getElem?_mapIdx, ew]
    rfl
def zpW (ws us : List Wv) : List Wv := List.zipWith (fun a b => .tup [a, b]) ws us
theorem zpW_len (ws us : List Wv) : (zpW ws us).length = min ws.length us.length := by unfold zpW; simp
theorem walkW_zip {H0 : Hp} {r1 r2 : Addr} {ws us : List Wv} : WalkW K H0 (zpW ws us) (fun G => RdL G r1 ws ∧ RdL G r2 us) (Itz K r1 r2) where
  stops := fun G H t rh k => by
    obtain ⟨xs, hx, rs⟩ := rh.rdl k.1
    obtain ⟨ys, hy, rt⟩ := rh.rdl k.2
    exact ⟨xs, ys, hx, hy, by rw [zpW_len, rs.len, rt.len]; omega⟩
  goes := fun i G H hi t rh k => by
    obtain ⟨xs, hx, rs⟩ := rh.rdl k.1
    obtain ⟨ys, hy, rt⟩ := rh.rdl k.2
    rw [zpW_len] at hi
    exact ⟨xs, ys, xs[i]'(by rw [rs.len]; omega), ys[i]'(by rw [rt.len]; omega), hx, hy, List.getElem?_eq_getElem _, List.getElem?_eq_getElem _⟩
  yields := fun i G H x H' hi t rh k y => by
    obtain ⟨xs, hx, rs⟩ := rh.rdl k.1
    obtain ⟨ys, hy, rt⟩ := rh.rdl k.2
    obtain ⟨T, z, z2, rfl, hT, rfl, y1, y2⟩ := y
    obtain ⟨w, ew, rw'⟩ := rs.getV (y1 xs hx)
    obtain ⟨w2, ew2, rw2⟩ := rt.getV (y2 ys hy)
    refine ⟨.tup [w, w2], ?_, TX.new hT, .tup upd_same (.cons (rw'.mono (TX.new hT)) (.cons (rw2.mono (TX.new hT)) .nil)), rh.kept hT⟩
    unfold zpW
    rw [List.getElem?_zipWith, ew, ew2]
theorem walkW_zipT {H0 : Hp} {r1 r2 : Addr} {ws us : List Wv} {xs ys : List V} (h1 : H0 r1 = some (.tup xs)) (h2 : H0 r2 = some (.tup ys)) (rs : RWs K H0 ws xs) (rt : RWs K H0 us ys) : WalkW K H0 (zpW ws us) okT (ItzT K r1 r2) where
  stops := fun G H t rh k => ⟨xs, ys, SqT.of (t _ _ trivial h1), SqT.of (t _ _ trivial h2), by rw [zpW_len, rs.len, rt.len]; omega⟩
  goes := fun i G H hi t rh k => by
    rw [zpW_len] at hi
    exact ⟨xs, ys, xs[i]'(by rw [rs.len]; omega), ys[i]'(by rw [rt.len]; omega), SqT.of (t _ _ trivial h1), SqT.of (t _ _ trivial h2), List.getElem?_eq_getElem _, List.getElem?_eq_getElem _⟩
  yields := fun i G H x H' hi t rh k y => by
    obtain ⟨T, z, z2, rfl, hT, rfl, y1, y2⟩ := y
    obtain ⟨w, ew, rw'⟩ := rs.getV (y1 xs (SqT.of (t _ _ trivial h1)))
    obtain ⟨w2, ew2, rw2⟩ := rt.getV (y2 ys (SqT.of (t _ _ trivial h2)))
    refine ⟨.tup [w, w2], ?_, TX.new hT, .tup upd_same (.cons ((rw'.mono t).mono (TX.new hT)) (.cons ((rw2.mono t).mono (TX.new hT)) .nil)), rh.kept hT⟩
    unfold zpW
    rw [List.getElem?_zipWith, ew, ew2]

/-! ### iterables -/
abbrev IK := List Wv → (HW → Prop) → HW → Prop
/-- a value that is walked -/
def wIt (w : Wv) (G : HW) (q : IK) : Prop := match w with
  | .tup ws => q ws okT G
  | .ref r => ∃ ws, RdL G r ws ∧ q ws (fun G => RdL G r ws) G
  | .str z => q (sgW z) okT G
  | .kls ws => q ws okT G
  | _ => False
def iSeq (te : ET) : IT := fun x σ G q => te x σ G fun w G1 => wIt w G1 q
theorem zi_seq (he : EW X Wx e te) : IW X Wx tg e (iSeq te) := by
  refine ⟨fun pins s σ H R I h => ?_⟩
  obtain ⟨σw, G, x, q, rs, rh, px, hq, h⟩ := h
  refine thn (he.run pins s σ H (fun v H1 => ∃ w G1, TX X.K H H1 ∧ RW X.K H1 w v ∧ RH X.K G1 H1 ∧ wIt w G1 q) I ⟨σw, G, x, _, rs, rh, px, fun w G1 v H1 t1 r1 rh1 h1 => ⟨w, G1, t1, r1, rh1, h1⟩, h⟩) ?_
  rintro v s1 ⟨y, H1, I1, ry, w, G1, t1, r1, rh1, h1⟩
  unfold wIt at h1
  split at h1
  · cases r1 with
    | @tup r xs ws hb rr =>
      cases ry
      obtain ⟨its, rv, pt, hz⟩ := I1.tuple (SqT.of hb)
      exact wpAny_pyIter_tuple (show s1.heap.IsTuple r its.toArray from pt) (pi_one (tk := s1.toks) I1 _ (turn_tuple r _) ⟨_, Heap.get?_push_size _ rfl, rfl, rfl⟩ (hq _ _ G1 _ H1 t1 rh1 (walkW_tup hb rr) h1))
  · rename_i r
    obtain ⟨ws, hl, hk⟩ := h1
    cases r1
    cases ry
    obtain ⟨xs, hx, rr⟩ := rh1.rdl hl
    obtain ⟨its, rv, pl, hz⟩ := I1.list hx
    exact wpAny_pyIter_list pl.isList (pi_one (tk := s1.toks) I1 _ (turn_list r _) ⟨_, Heap.get?_push_size _ rfl, rfl, rfl⟩ (hq _ _ G1 _ H1 t1 rh1 walkW_list hk))
  · rename_i z
    cases r1
    obtain ⟨t, rfl⟩ := ry
    have fin := hq _ _ G1 _ H1 t1 rh1 (walkW_str (z := z)) h1
    cases ha : z.cps.all (· < 128)
    · exact wpAny_pyIter_wide ha (pi_one (tk := s1.toks) I1 _ (turn_str _ z t "str_iterator" (.inr rfl)) ⟨_, Heap.get?_push_size _ rfl, rfl, rfl⟩ fin)
    · exact wpAny_pyIter_ascii ha (pi_one (tk := s1.toks) I1 _ (turn_str _ z t "str_ascii_iterator" (.inl rfl)) ⟨_, Heap.get?_push_size _ rfl, rfl, rfl⟩ fin)
  · cases r1 with
    | @kls r xs ws hb rr =>
      cases ry
      obtain ⟨its, rv, pl, hz⟩ := I1.list hb.sq
      exact wpAny_pyIter_list pl.isList (pi_one (tk := s1.toks) I1 _ (turn_list r _) ⟨_, Heap.get?_push_size _ rfl, rfl, rfl⟩ (hq _ _ G1 _ H1 t1 rh1 (walkW_kls hb rr) h1))
  · exact h1.elim
def iRg1 (tl : AT) : IT := fun x σ G q => tl x σ G fun ws G1 => match ws with
  | [.int j] => -(2 ^ 62) ≤ j ∧ j < 2 ^ 62 ∧ q (rgW 0 1 j.toNat) okT G1
  | _ => False
theorem zi_range1 (hg : Gl X "range") (hm : X.mg "range" = none) (ha : AW X Wx [a] tl) (hs : starEach [a] X.env = [(false, eval a X.env)] := by rfl) : IW X Wx tg (.Call (.Name "range" p) [a] [] pos) (iRg1 tl) :=
  pi_imp (pi_range1 hg hm ha hs) fun σ H R ⟨σw, G, x, q, rs, rh, px, hq, h⟩ => ⟨σw, G, x, _, rs, rh, px, fun ws G1 vs H1 t1 r1 rh1 h1 => by
    split at h1
    · obtain ⟨v, rfl, rv⟩ := rws1 r1
      cases rv
      exact ⟨_, rfl, h1.1, h1.2.1, hq _ _ G1 _ H1 t1 rh1 walkW_range h1.2.2⟩
    · exact h1.elim, h⟩
def iRg2 (tl : AT) : IT := fun x σ G q => tl x σ G fun ws G1 => match ws with
  | [.int i, .int j] => (-(2 ^ 62) ≤ i ∧ i < 2 ^ 62 ∧ -(2 ^ 62) ≤ j ∧ j < 2 ^ 62) ∧ q (rgW i 1 (j - i).toNat) okT G1
  | _ => False
theorem zi_range2 (hg : Gl X "range") (hm : X.mg "range" = none) (ha : AW X Wx [a, b] tl) (hs : starEach [a, b] X.env = [(false, eval a X.env), (false, eval b X.env)] := by rfl) (hs2 : starEach [b] X.env = [(false, eval b X.env)] := by rfl) :
    IW X Wx tg (.Call (.Name "range" p) [a, b] [] pos) (iRg2 tl) :=
  pi_imp (pi_range2 hg hm ha hs hs2) fun σ H R ⟨σw, G, x, q, rs, rh, px, hq, h⟩ => ⟨σw, G, x, _, rs, rh, px, fun ws G1 vs H1 t1 r1 rh1 h1 => by
    split at h1
    · obtain ⟨v, v', rfl, rv, rv'⟩ := rws2 r1
      cases rv; cases rv'
      exact ⟨_, _, rfl, h1.1, hq _ _ G1 _ H1 t1 rh1 walkW_range h1.2⟩
    · exact h1.elim, h⟩
def iEnu (tl : AT) : IT := fun x σ G q => tl x σ G fun ws G1 => match ws with
  | [.ref r] => ∃ us, RdL G1 r us ∧ q (enW us) (fun G => RdL G r us) G1
  | [.kls us] => q (enW us) okT G1
  | _ => False
theorem zi_enum {tpos : Pos} {elts : List Expr} {kk : Nat} (hg : Gl X "enumerate") (hm : X.mg "enumerate" = none) (ha : AW X Wx [e] tl) (hs : starEach [e] X.env = [(false, eval e X.env)] := by rfl) :
    IW X Wx (.Tuple elts kk tpos) (.Call (.Name "enumerate" p) [e] [] pos) (iEnu tl) :=
  pi_imp (pi_enum hg hm ha hs) fun σ H R ⟨σw, G, x, q, rs, rh, px, hq, h⟩ => ⟨σw, G, x, _, rs, rh, px, fun ws G1 vs H1 t1 r1 rh1 h1 => by
    split at h1
    · obtain ⟨us, hl, hk⟩ := h1
      obtain ⟨v, rfl, rv⟩ := rws1 r1
      cases rv
      obtain ⟨xs, hx, _⟩ := rh1.rdl hl
      exact ⟨_, xs, rfl, hx, hq _ _ G1 _ H1 t1 rh1 walkW_enum hk⟩
    · obtain ⟨v, rfl, rv⟩ := rws1 r1
      cases rv with
      | kls hb rs => exact ⟨_, _, rfl, hb.sq, hq _ _ G1 _ H1 t1 rh1 (walkW_enumK hb rs) h1⟩
    · exact h1.elim, h⟩
def iZp (tl : AT) : IT := fun x σ G q => tl x σ G fun ws G1 => match ws with
  | [.ref r, .ref r'] => ∃ us vs, RdL G1 r us ∧ RdL G1 r' vs ∧ q (zpW us vs) (fun G => RdL G r us ∧ RdL G r' vs) G1
  | [.tup us, .tup vs] => q (zpW us vs) okT G1
  | _ => False
theorem zi_zip {e2 : Expr} {tpos : Pos} {elts : List Expr} {kk : Nat} (hg : Gl X "zip") (hm : X.mg "zip" = none) (ha : AW X Wx [e, e2] tl)
    (hs : starEach [e, e2] X.env = (false, eval e X.env) :: starEach [e2] X.env := by rfl) (hpl : (backTo pos (starEach [e2] X.env)).any (·.1) = false := by rfl) :
    IW X Wx (.Tuple elts kk tpos) (.Call (.Name "zip" p) [e, e2] [] pos) (iZp tl) :=
  pi_imp (pi_zipA hg hm ha hs hpl) fun σ H R ⟨σw, G, x, q, rs, rh, px, hq, h⟩ => ⟨σw, G, x, _, rs, rh, px, fun ws G1 vs H1 t1 r1 rh1 h1 => by
    split at h1
    · obtain ⟨us, vs, hl, hl2, hk⟩ := h1
      obtain ⟨v, v', rfl, rv, rv'⟩ := rws2 r1
      cases rv; cases rv'
      obtain ⟨xs, hx, _⟩ := rh1.rdl hl
      obtain ⟨ys, hy, _⟩ := rh1.rdl hl2
      exact ⟨_, _, xs, ys, rfl, .inl ⟨hx, hy, hq _ _ G1 _ H1 t1 rh1 walkW_zip hk⟩⟩
    · obtain ⟨v, v', rfl, rv, rv'⟩ := rws2 r1
      cases rv with
      | tup hb rb =>
        cases rv' with
        | tup hc rc => exact ⟨_, _, _, _, rfl, .inr ⟨SqT.of hb, SqT.of hc, hq _ _ G1 _ H1 t1 rh1 (walkW_zipT hb hc rb rc) h1⟩⟩
    · exact h1.elim, h⟩
def iRv (te : ET) : IT := fun x σ G q => te x σ G fun w G1 => match w with
  | .tup ws => q ws.reverse okT G1
  | .ref r => ∃ ws, RdL G1 r ws ∧ q ws.reverse (fun G => RdL G r ws) G1
  | _ => False
theorem zi_rev (hg : Gl X "reversed") (hm : X.mg "reversed" = none) (he : EW X Wx e te) (hs : starEach [e] X.env = (false, eval e X.env) :: starEach [] X.env := by rfl) : IW X Wx tg (.Call (.Name "reversed" p) [e] [] pos) (iRv te) :=
  pi_imp (pi_revA hg hm he hs) fun σ H R ⟨σw, G, x, q, rs, rh, px, hq, h⟩ => ⟨σw, G, x, _, rs, rh, px, fun w G1 v H1 t1 r1 rh1 h1 => by
    split at h1
    · cases r1 with
      | tup hb rb => exact ⟨_, _, rfl, .inr ⟨SqT.of hb, by rw [rb.len]; exact hq _ _ G1 _ H1 t1 rh1 (walkW_revT hb rb) h1⟩⟩
    · obtain ⟨us, hl, hk⟩ := h1
      cases r1
      obtain ⟨xs, hx, rr⟩ := rh1.rdl hl
      exact ⟨_, xs, rfl, .inl ⟨hx, by rw [rr.len]; exact hq _ _ G1 _ H1 t1 rh1 walkW_rev hk⟩⟩
    · exact h1.elim, h⟩
/-- range(..) as an argument -/
abbrev RGt := XW → SW → HW → (Int → Int → HW → Prop) → Prop
def embRg (K : PySem.W.Frag) (Wx : WX) (t : RGt) : L2.St → Hp → (Int → Int → Hp → Prop) → Prop := fun σ H Q => ∃ σw G x q, RS K H σw σ ∧ RH K G H ∧ PostX K H Wx x ∧ (∀ i j G' H', TX K H H' → RH K G' H' → q i j G' → Q i j H') ∧ t x σw G q
abbrev RgW (X : Cx) (Wx : WX) (e : Expr) (t : RGt) : Prop := PRg X e (embRg X.K Wx t)
theorem prg_imp {t t' : L2.St → Hp → (Int → Int → Hp → Prop) → Prop} (h : PRg X e t) (i : ∀ σ H Q, t' σ H Q → t σ H Q) : PRg X e t' := fun pins s σ H Q I q => h pins s σ H Q I (i _ _ _ q)
def rg1 (te : ET) : RGt := fun x σ G q => te x σ G fun w G1 => match w with
  | .int n => q 0 n G1
  | _ => False
theorem zr_1 (hg : Gl X "range") (hm : X.mg "range" = none) (ha : EW X Wx a ta) (na : starEach [a] X.env = (false, eval a X.env) :: starEach [] X.env := by rfl) : RgW X Wx (.Call (.Name "range" p) [a] [] pos) (rg1 ta) :=
  prg_imp (prg_1 hg hm ha na) fun σ H Q ⟨σw, G, x, q, rs, rh, px, po, h⟩ => ⟨σw, G, x, _, rs, rh, px, fun w G1 v H1 t1 r1 rh1 h1 => by
    split at h1
    · cases r1
      exact ⟨_, rfl, po _ _ _ _ t1 rh1 h1⟩
    · exact h1.elim, h⟩
def iRvR (t : RGt) : IT := fun x σ G q => t x σ G fun i j G1 => -(2 ^ 62) ≤ i ∧ i < 2 ^ 62 ∧ -(2 ^ 62) ≤ j ∧ j < 2 ^ 62 ∧ q (rgW (i + (((j - i).toNat : Nat) : Int) - 1) (-1) (j - i).toNat) okT G1
theorem zi_revR {t : RGt} (hg : Gl X "reversed") (hm : X.mg "reversed" = none) (he : RgW X Wx e t) (hs : starEach [e] X.env = (false, eval e X.env) :: starEach [] X.env := by rfl) : IW X Wx tg (.Call (.Name "reversed" p) [e] [] pos) (iRvR t) :=
  pi_imp (pi_revR hg hm he hs) fun σ H R ⟨σw, G, x, q, rs, rh, px, hq, h⟩ => ⟨σw, G, x, _, rs, rh, px, fun i j G1 H1 t1 rh1 h1 => ⟨h1.1, h1.2.1, h1.2.2.1, h1.2.2.2.1, hq _ _ G1 _ H1 t1 rh1 walkW_rangeC h1.2.2.2.2⟩, h⟩
theorem rws_rg {H : Hp} {a b : Int} : RWs K H (rgW a 1 (b - a).toNat) (rgV a b) := by
  unfold rgW rgV
  have z : ∀ l : List Nat, RWs K H (l.map fun i => Wv.int (a + (i : Nat) * 1)) (l.map fun i => V.int (a + (i : Nat))) := fun l => by
    induction l with
    | nil => exact .nil
    | cons n l ih => exact .cons (by show RW K H (.int (a + (n : Int) * 1)) (.int (a + (n : Int))); rw [Int.mul_one]; exact .int _) ih
  exact z _
def eTupRg (t : RGt) : ET := fun x σ G q => t x σ G fun i j G1 => RgOk i j ∧ q (.tup (rgW i 1 (j - i).toNat)) G1
def eLstRg (t : RGt) : ET := fun x σ G q => t x σ G fun i j G1 => RgOk i j ∧ ∀ l, G1 l = none → q (.ref l) (updO G1 l (.lst (rgW i 1 (j - i).toNat)))
theorem z_tupRg {t : RGt} (hc : X.calm = true) (hg : Gl X "tuple") (hm : X.mg "tuple" = none) (he : RgW X Wx e t) (na : starEach [e] X.env = (false, eval e X.env) :: starEach [] X.env := by rfl) : EW X Wx (.Call (.Name "tuple" p) [e] [] pos) (eTupRg t) :=
  pe_imp (pe_tupRg hc hg hm he na) fun σ H Q ⟨σw, G, x, q, rs, rh, px, po, h⟩ => ⟨σw, G, x, _, rs, rh, px, fun i j G1 H1 t1 rh1 h1 => ⟨h1.1, fun l hl => po _ _ _ _ (t1.trans (TX.new hl)) (.tup upd_same rws_rg) (rh1.kept hl) h1.2⟩, h⟩
theorem z_lstRg {t : RGt} (hc : X.calm = true) (hg : Gl X "list") (hm : X.mg "list" = none) (he : RgW X Wx e t) (na : starEach [e] X.env = (false, eval e X.env) :: starEach [] X.env := by rfl) : EW X Wx (.Call (.Name "list" p) [e] [] pos) (eLstRg t) :=
  pe_imp (pe_listRg hc hg hm he na) fun σ H Q ⟨σw, G, x, q, rs, rh, px, po, h⟩ => ⟨σw, G, x, _, rs, rh, px, fun i j G1 H1 t1 rh1 h1 => ⟨h1.1, fun l hl => po _ _ _ _ (t1.trans (TX.new hl)) (.ref l) (rh1.newL hl rws_rg) (h1.2 l (rh1.fresh hl))⟩, h⟩

/-! ### comprehensions -/
/-- no exception leaves -/
def x0 : XW := fun _ _ _ _ => False
def W0 : WX := fun _ _ _ _ => False
def wipeW (σ : SW) : List Nat → SW
  | [] => σ
  | v :: vs => (wipeW σ vs).set v none
theorem RS.none {H : Hp} : ∀ {σw : SW} {σ : L2.St} (n : Nat), RS K H σw σ → RS K H (σw.set n Option.none) (σ.set n Option.none)
  | _, _, _, .nil => .nil
  | _, _, 0, .cons _ b => .cons trivial b
  | _, _, n + 1, .cons a b => .cons a (RS.none n b)
theorem RS.wipe {H : Hp} {σw : SW} {σ : L2.St} (r : RS K H σw σ) : ∀ vs : List Nat, RS K H (wipeW σw vs) (L2.wipe σ vs)
  | [] => r
  | v :: vs => RS.none v (RS.wipe r vs)
theorem wipe_at {σ : L2.St} : ∀ (vs : List Nat) (j : Nat), (L2.wipe σ vs)[j]? = if j ∈ vs ∧ j < σ.length then some none else σ[j]?
  | [], j => by simp [L2.wipe]
  | v :: vs, j => by
    unfold L2.wipe
    rw [List.getElem?_set, wipe_at vs j, L2.wipe_length]
    by_cases h : v = j
    · subst h
      by_cases h2 : v < σ.length
      · simp [h2]
      · simp [h2, List.getElem?_eq_none (by omega : σ.length ≤ v)]
    · by_cases h3 : j ∈ vs
      · simp [h, h3]
      · have h4 : ¬ j = v := fun z => h z.symm
        simp [h, h3, h4]
theorem wipe_set {σ : L2.St} {vs : List Nat} {i : Nat} {o : Option V} (h : i ∈ vs) : L2.wipe (σ.set i o) vs = L2.wipe σ vs := by
  apply List.ext_getElem?
  intro j
  rw [wipe_at, wipe_at, List.length_set]
  by_cases hj : i = j
  · subst hj
    by_cases h2 : i < σ.length
    · simp [h, h2]
    · simp [h2]
  · rw [List.getElem?_set_ne hj]
theorem wipe_wipe {σ : L2.St} {vs : List Nat} : L2.wipe (L2.wipe σ vs) vs = L2.wipe σ vs := by
  apply List.ext_getElem?
  intro j
  rw [wipe_at, wipe_at, L2.wipe_length]
  split <;> rfl
/-- the target of a comprehension: names of its own -/
inductive Tgt (vs : List Nat) : TG → (Wv → SW → HW → (SW → HW → Prop) → Prop) → Prop where
  | nm {i : Nat} (h : i ∈ vs) : Tgt vs (gName i) (fun w σ G q => q (σ.set i (some w)) G)
def gTup2 (K : PySem.W.Frag) (i j : Nat) : TG := gTup K 2 (gCons (gName i) (gCons (gName j) gNil))
abbrev QsW (X : Cx) (Wx : WX) (es : List Expr) (t : QT) : Prop := PTs X es (embB X.K Wx t)
def qYes : QT := fun _ _ G q => q true G
theorem zq_nil : QsW X Wx [] qYes := ⟨fun pins s σ H Q I h => pts_nil.run pins s σ H Q I (by
  obtain ⟨σw, G, x, q, rs, rh, px, po, h⟩ := h
  exact po _ _ _ TX.refl rh h)⟩
theorem zq_one {t : QT} (h : QW X Wx c t) : QsW X Wx [c] t := pts_one h
/-- how an item goes into the block's own slots -/
def inTo (is : List Nat) (w : Wv) (σ : SW) : Option SW := match is, w with
  | [i], w => some (σ.set i (some w))
  | [i, j], .tup [a, b] => some ((σ.set i (some a)).set j (some b))
  | [i, j, k], .tup [a, b, c] => some (((σ.set i (some a)).set j (some b)).set k (some c))
  | _, _ => none
def gIn (K : PySem.W.Frag) (is : List Nat) : TG := match is with
  | [i] => gName i
  | [i, j] => gTup K 2 (gCons (gName i) (gCons (gName j) gNil))
  | [i, j, k] => gTup K 3 (gCons (gName i) (gCons (gName j) (gCons (gName k) gNil)))
  | _ => fun _ _ _ _ => False
theorem gIn_ok {is vs : List Nat} {w : Wv} {v : V} {σw σw' : SW} {σ : L2.St} {H : Hp} {Q : L2.St → Hp → Prop} (hv : ∀ i ∈ is, i ∈ vs) (r : RW K H w v) (rs : RS K H σw σ) (h : inTo is w σw = some σw')
    (hq : ∀ σ', RS K H σw' σ' → L2.wipe σ' vs = L2.wipe σ vs → Q σ' H) : gIn K is v σ H Q := by
  unfold inTo at h
  split at h
  · rename_i i
    cases h
    exact hq _ (rs.set r i) (wipe_set (hv i (by simp)))
  · rename_i i j a b
    cases h
    cases r with
    | tup hb rr =>
      obtain ⟨va, vb, rfl, ra, rb⟩ := rws2 rr
      refine ⟨_, _, rfl, SqT.of hb, rfl, _, _, rfl, _, _, rfl, rfl, hq _ ((rs.set ra i).set rb j) ?_⟩
      rw [wipe_set (hv j (by simp)), wipe_set (hv i (by simp))]
  · rename_i i j k a b c
    cases h
    cases r with
    | tup hb rr =>
      cases rr with
      | cons ra rr =>
        obtain ⟨vb, vc, rfl, rb, rc⟩ := rws2 rr
        refine ⟨_, _, rfl, SqT.of hb, rfl, _, _, rfl, _, _, rfl, _, _, rfl, rfl, hq _ (((rs.set ra i).set rb j).set rc k) ?_⟩
        rw [wipe_set (hv k (by simp)), wipe_set (hv j (by simp)), wipe_set (hv i (by simp))]
  · cases h
/-- [elt for .. in iter if ..]: the items go into the slots is, among vs -/
def eLc (wi : IT) (is vs : List Nat) (tt : QT) (te : ET) : ET := fun x σ G q => wi x σ G fun its ok G1 => ∀ D, G1 D = none → ∃ P : Nat → HW → Prop, P 0 (updO G1 D (.lst [])) ∧ (∀ i G, i ≤ its.length → P i G → ok G) ∧
  (∀ i w G, its[i]? = some w → P i G → ∃ σ2, inTo is w (wipeW σ vs) = some σ2 ∧ tt x0 σ2 G fun k G3 => match k with
    | true => te x0 σ2 G3 fun y G4 => ∃ acc, G4 D = some (.lst acc) ∧ acc.length < sizeLine ∧ P (i + 1) (updO G4 D (.lst (acc ++ [y])))
    | false => P (i + 1) G3) ∧ ∀ G, P its.length G → q (.ref D) G
theorem emb_lc {wi : IT} {is vs : List Nat} {tt : QT} (hv : ∀ i ∈ is, i ∈ vs) : ∀ σ H Q, emb K Wx (eLc wi is vs tt te) σ H Q → tLc (embI K Wx wi) (gIn K is) (embB K W0 tt) (emb K W0 te) vs σ H Q := by
  rintro σ H Q ⟨σw, G, x, q, rs, rh, px, po, h⟩
  refine ⟨σw, G, x, _, rs, rh, px, fun its ok G1 J H1 t1 rh1 wk h1 => ?_, h⟩
  intro D hD
  obtain ⟨P, h0, hok, hst, hdn⟩ := h1 D (rh1.fresh hD)
  have tD : TX K H1 (upd H1 D (.lst [])) := TX.new hD
  have pw : ∀ H : Hp, PostX K H W0 x0 := fun H cls d fs σw G σ H' _ _ _ _ z => z
  refine ⟨fun i m H2 => ∃ G2, m = its.length - i ∧ i ≤ its.length ∧ RH K G2 H2 ∧ TX K H1 H2 ∧ P i G2, ⟨its.length, _, by simp, Nat.zero_le _, rh1.newL hD .nil, tD, h0⟩, ?_⟩
  rintro i m H2 ⟨G2, rfl, hi, rh2, t2, p2⟩
  have k2 := hok i G2 hi p2
  by_cases hlt : i < its.length
  · refine .inr ⟨wk.goes i G2 H2 hlt t2 rh2 k2, fun H3 => ∃ G3, RH K G3 H3 ∧ TX K H1 H3 ∧ P (i + 1) G3, fun H' ⟨G3, h3, t3, q3⟩ => ⟨its.length - (i + 1), by omega, G3, rfl, hlt, h3, t3, q3⟩, fun v H' y => ?_⟩
    obtain ⟨w, ew, t3, rw3, rh3⟩ := wk.yields i G2 H2 v H' hlt t2 rh2 k2 y
    obtain ⟨σ2, es, hq⟩ := hst i w G2 ew p2
    have t23 := t2.trans t3
    have rsw : RS K H' (wipeW σw vs) (L2.wipe σ vs) := (rs.mono (t1.trans t23)).wipe vs
    refine gIn_ok hv rw3 rsw es fun σ' rs' ez => ⟨by rw [ez, wipe_wipe], σ2, G2, x0, _, rs', rh3, pw _, fun k G4 H4 t4 rh4 h4 => ?_, hq⟩
    cases k with
    | true =>
      refine (if_pos rfl).mpr ⟨σ2, G4, x0, _, rs'.mono t4, rh4, pw _, fun w5 G5 v5 H5 t5 r5 rh5 h5 => ?_, h4⟩
      obtain ⟨acc, ea, hz, p5⟩ := h5
      obtain ⟨xs, f, rx⟩ := rh5.lst ea
      exact ⟨xs, f, by rw [rx.len]; exact hz, _, rh5.putL f (rx.app (.cons r5 .nil)), ((t23.trans t4).trans t5).trans (TX.put f noTup_lst), p5⟩
    | false => exact (if_neg Bool.false_ne_true).mpr ⟨G4, rh4, t23.trans t4, h4⟩
  · have e : i = its.length := by omega
    subst e
    exact .inl ⟨wk.stops G2 H2 t2 rh2 k2, po _ _ _ _ (t1.trans t2) (.ref D) rh2 (hdn G2 p2)⟩
theorem z_lc {elt iter : Expr} {ifs : List Expr} {scope : Scope} {own : List (Str × Nat)} {wi : IT} {is : List Nat} {tt : QT} (hc : X.calm = true) (hN : X.N.Nodup) (hi : IW X Wx tg iter wi) (ok : BlkOk X.N X.env.scope scope own)
    (hg : ∀ (s : Shared) (H : Hp) (C : Addr) (cl : List (Str × Addr)) (fp : List Addr), PG (X.blk s H scope (compEnvC scope cl C X.env) fp) tg (gIn X.K is)) (ht : ∀ (s : Shared) (H : Hp) (C : Addr) (cl : List (Str × Addr)) (fp : List Addr), QsW (X.blk s H scope (compEnvC scope cl C X.env) fp) W0 ifs tt)
    (he : ∀ (s : Shared) (H : Hp) (C : Addr) (cl : List (Str × Addr)) (fp : List Addr), EW (X.blk s H scope (compEnvC scope cl C X.env) fp) W0 elt te) (hv : ∀ i ∈ is, i ∈ own.map (·.2)) (hs : ∀ x, foldedSetIterable iter X.env x = pure x := by intro _; rfl) :
    EW X Wx (.ListComp elt [⟨tg, iter, ifs, 0⟩] scope pos) (eLc wi is (own.map (·.2)) tt te) := pe_imp (pe_lc hc hN hi ok hg ht he hs) (emb_lc hv)
theorem z_setLc {i : Nat} {y : Str} {py spos : Pos} {elt iter : Expr} {ifs : List Expr} {scope : Scope} {own : List (Str × Nat)} {wi : IT} {is : List Nat} {tt : QT} (hc : X.calm = true) (hN : X.N.Nodup) (hy : X.N[i]? = some y) (hyl : X.env.scope.names.lookup y = some .local)
    (hsw : swapsWith (.ListComp elt [⟨tg, iter, ifs, 0⟩] scope pos) (some (.Name y py)) spos.line X.env = pure true) (hi : IW X Wx tg iter wi) (ok : BlkOk X.N X.env.scope scope own)
    (hg : ∀ (s : Shared) (H : Hp) (C : Addr) (cl : List (Str × Addr)) (fp : List Addr), PG (X.blk s H scope (compEnvC scope cl C X.env) fp) tg (gIn X.K is)) (ht : ∀ (s : Shared) (H : Hp) (C : Addr) (cl : List (Str × Addr)) (fp : List Addr), QsW (X.blk s H scope (compEnvC scope cl C X.env) fp) W0 ifs tt)
    (he : ∀ (s : Shared) (H : Hp) (C : Addr) (cl : List (Str × Addr)) (fp : List Addr), EW (X.blk s H scope (compEnvC scope cl C X.env) fp) W0 elt te) (hv : ∀ i ∈ is, i ∈ own.map (·.2)) (hs : ∀ x, foldedSetIterable iter X.env x = pure x := by intro _; rfl) :
    TW X Wx (.Assign [.Name y py] (.ListComp elt [⟨tg, iter, ifs, 0⟩] scope pos) spos) (sSet i (eLc wi is (own.map (·.2)) tt te)) :=
  ps_imp (ps_setLc hc hN hy hyl hsw hi ok hg ht he hs) fun D σ H ⟨σw, G, d, rs, rh, sm, h⟩ => emb_lc hv σ H (fun x H1 => gName i x σ H1 D.nx) ⟨σw, G, d.ex, _, rs, rh, sm.ex, fun w G1 v H1 t1 r1 rh1 h1 => sm.nx _ _ _ _ t1 ((rs.mono t1).set r1 i) rh1 h1, h⟩
end
end LF

/-! LF7: defs, their promises, calls; raising -/
namespace LF
open PySem PySem.Spec PyProof.Rows L2

/-! ### room, and nothing being shown -/
structure Rm (k : Nat) (A : Around) : Prop where
  room : Room k A
  gd : A.guards = some []
theorem Rm.mono {j k : Nat} {A : Around} (r : Rm k A) (h : j ≤ k) : Rm j A := ⟨r.room.mono h, r.gd⟩
theorem Rm.un {k : Nat} {A : Around} (r : Rm k A) : A.units + 64 < cLine := r.room.units
theorem Rm.deeper {k : Nat} {A : Around} (r : Rm (k + 1) A) (env : Env) : Rm k (A.deeper env) := ⟨r.room.deeper env, r.gd⟩
theorem Rm.make {k : Nat} {A : Around} (r : Rm (k + 1) A) (C : Addr) (us : List Value) (kw : List (Str × Value)) : Rm k (A.under (.builtin "type.__call__" ⟨.ref C :: us, kw⟩)) :=
  ⟨r.room.make C us kw, by have := r.gd; first | exact this | simpa [Around.under, Code.isGuard, pushGuards, Code.guards, guardIds] using this⟩

/-! ### promises over trees -/
/-- what is wanted of an exception that leaves a def -/
abbrev XE := Value → List (Str × Wv) → HW → Prop
abbrev SpW := List Wv → HW → WK → XE → Prop
def PostE (K : PySem.W.Frag) (H : Hp) (E : XK) (x : XE) : Prop := ∀ cls d fs G H', TX K H H' → RX K H' d fs → RH K G H' → x cls fs G → E cls d H'
def embSp (K : PySem.W.Frag) (sp : SpW) : Sp := fun vs H Q E => ∃ ws G q x, RWs K H ws vs ∧ RH K G H ∧ Post K H Q q ∧ PostE K H E x ∧ sp ws G q x
structure FnW (P : Program) (w : World) (K : PySem.W.Frag) (mg : Str → Option Value) (base : Heap) (k : Nat) (f : Addr) (fd : FuncData) (ps : List Str) (sp : SpW) : Prop where
  len : ∀ ws G q x, sp ws G q x → ws.length = ps.length
  run : ∀ (A : Around) (outer : List Env) (s : Shared) (H : Hp) (args : Args) (us : List Value) (vs : List V) (Q : VK) (E : XK), Rm k A → Env0 P w K mg base A outer s H → BindsTo s fd args (ps.zip us) → Vals vs us → embSp K sp vs H Q E →
    codeAny (model P w) A (.call (.ref f) args) (CR (L2.CX P w) outer P w H s Q E) s
section
variable {P : Program} {w : World} {K : PySem.W.Frag} {mg : Str → Option Value} {base : Heap} {k : Nat} {f : Addr} {fd : FuncData} {ps : List Str} {sp : SpW}
theorem FnW.mono {j : Nat} (F : FnW P w K mg base j f fd ps sp) (h : j ≤ k) : FnW P w K mg base k f fd ps sp := ⟨F.len, fun A outer s H args us vs Q E hr => F.run A outer s H args us vs Q E (hr.mono h)⟩
def startW (N : List Str) (ws : List Wv) : SW := ws.map some ++ List.replicate (N.length - ws.length) none
theorem rs_start {H : Hp} {N : List Str} {ws : List Wv} {vs : List V} (r : RWs K H ws vs) : RS K H (startW N ws) (L2.start N vs) := by
  unfold startW L2.start
  rw [r.len]
  have e : ∀ {ws : List Wv} {vs : List V}, RWs K H ws vs → ∀ n, RS K H (ws.map some ++ List.replicate n none) (vs.map some ++ List.replicate n none) := by
    intro ws
    induction ws with
    | nil =>
      intro vs r n
      cases r
      have z : ∀ n, RS K H (List.replicate n none) (List.replicate n none) := fun n => by
        induction n with
        | zero => exact .nil
        | succ n ih => rw [List.replicate_succ, List.replicate_succ]; exact .cons trivial ih
      exact z n
    | cons a ws ih =>
      intro vs r n
      cases r with
      | cons ra rr => exact .cons ra (ih rr n)
  exact e r _
/-- the wishes of a def's body, from those of its caller -/
def endsW (q : WK) (x : XE) : EndsW := { nx := fun _ G => q .non G, rt := q, ex := fun cls fs _ G => x cls fs G }
/-- exceptions of a def's body -/
def WxE (E : XK) : WX := fun cls d _ H => E cls d H
variable {x qual : Str} {params : Arguments} {body : List Stmt} {scope : Scope} {dvs : List V} {kws : List (Str × V)}
/-- THE RULE: a def by its body -/
theorem fnW_of {N : List Str} {t : ST} (F : FunD K x qual params body scope dvs kws f fd) (S : FnScope N ps scope) (len : ∀ ws G q x, sp ws G q x → ws.length = ps.length)
    (hbody : ∀ (cdv : Value) (A : Around) (outer : List Env) (s : Shared) (H : Hp) (E : XK), Rm k (A.deeper (envOfC qual scope s.heap.objs.size f cdv)) → TWs (cxOf (L2.CX P w) P w K mg base N qual scope f cdv A outer s H E) (WxE E) body t)
    (hsp : ∀ ws G q x, sp ws G q x → t (endsW q x) (startW N ws) G) : FnW P w K mg base (k + 1) f fd ps sp := by
  obtain ⟨oc, od, dV, kV, doc, pm, an, cdv, ct, osl, rfl, lk, hcd, _, _⟩ := F.ex
  refine ⟨len, fun A outer s H args us vs Q E hr e0 hb r h => ?_⟩
  obtain ⟨ws, G, q, xe, rw', rh, po, pe, h⟩ := h
  have hl : vs.length = ps.length := by rw [rw'.len]; exact len _ _ _ _ h
  refine LamX.run_ofS lk hcd S hr.room e0 hb r hl fun hr2 => ⟨_, hbody cdv A outer s H E ⟨hr2, hr.gd⟩, ?_⟩
  refine ⟨startW N ws, G, endsW q xe, rs_start rw', rh, { nx := ?_, rt := po, bk := fun _ _ _ _ _ _ _ z => z.elim, ct := fun _ _ _ _ _ _ _ z => z.elim, ex := ?_ }, hsp ws G q xe h⟩
  · exact fun σw G' σ H' tx _ rh' hq => po .non G' .non H' tx .non rh' hq
  · exact fun cls d fs σw G' σ H' tx rx _ rh' hq => pe cls d fs G' H' tx rx rh' hq
end

/-! ### binding -/
inductive Sel where
  | p (i : Nat) | k (i : Nat) | d (i : Nat)
def pick {α : Type} (sel : List Sel) (us ks ds : List α) : List α := sel.filterMap fun s => match s with
  | .p i => us[i]?
  | .k i => ks[i]?
  | .d i => ds[i]?
section
variable {K : PySem.W.Frag} {H : Hp}
theorem pick_vals {us ks ds : List V} {us' ks' ds' : List Value} (a : Vals us us') (b : Vals ks ks') (c : Vals ds ds') : ∀ sel : List Sel, Vals (pick sel us ks ds) (pick sel us' ks' ds')
  | [] => .nil
  | s :: sel => by
    have one : ∀ {l : List V} {l' : List Value} (r : Vals l l') (i : Nat), (l[i]? = none ∧ l'[i]? = none) ∨ ∃ v u, l[i]? = some v ∧ l'[i]? = some u ∧ RelV v u := fun {l l'} r i => by
      cases e : l[i]? with
      | none => exact .inl ⟨rfl, r.none_of e⟩
      | some v => obtain ⟨u, h1, h2⟩ := r.get e; exact .inr ⟨v, u, rfl, h1, h2⟩
    have ih := pick_vals a b c sel
    unfold pick at ih ⊢
    cases s with
    | p i => rcases one a i with ⟨h1, h2⟩ | ⟨v, u, h1, h2, h3⟩ <;> simp only [List.filterMap_cons, h1, h2] <;> first | exact ih | exact .cons h3 ih
    | k i => rcases one b i with ⟨h1, h2⟩ | ⟨v, u, h1, h2, h3⟩ <;> simp only [List.filterMap_cons, h1, h2] <;> first | exact ih | exact .cons h3 ih
    | d i => rcases one c i with ⟨h1, h2⟩ | ⟨v, u, h1, h2, h3⟩ <;> simp only [List.filterMap_cons, h1, h2] <;> first | exact ih | exact .cons h3 ih
theorem pick_rws {us ks ds : List Wv} {us' ks' ds' : List V} (a : RWs K H us us') (b : RWs K H ks ks') (c : RWs K H ds ds') : ∀ sel : List Sel, RWs K H (pick sel us ks ds) (pick sel us' ks' ds')
  | [] => .nil
  | s :: sel => by
    have one : ∀ {l : List Wv} {l' : List V} (r : RWs K H l l') (i : Nat), (l[i]? = none ∧ l'[i]? = none) ∨ ∃ v u, l[i]? = some v ∧ l'[i]? = some u ∧ RW K H v u := fun {l l'} r i => by
      cases e : l[i]? with
      | none => exact .inl ⟨rfl, by rw [List.getElem?_eq_none_iff] at e ⊢; rw [r.len]; exact e⟩
      | some v => obtain ⟨u, h1, h2⟩ := r.get e; exact .inr ⟨v, u, rfl, h1, h2⟩
    have ih := pick_rws a b c sel
    unfold pick at ih ⊢
    cases s with
    | p i => rcases one a i with ⟨h1, h2⟩ | ⟨v, u, h1, h2, h3⟩ <;> simp only [List.filterMap_cons, h1, h2] <;> first | exact ih | exact .cons h3 ih
    | k i => rcases one b i with ⟨h1, h2⟩ | ⟨v, u, h1, h2, h3⟩ <;> simp only [List.filterMap_cons, h1, h2] <;> first | exact ih | exact .cons h3 ih
    | d i => rcases one c i with ⟨h1, h2⟩ | ⟨v, u, h1, h2, h3⟩ <;> simp only [List.filterMap_cons, h1, h2] <;> first | exact ih | exact .cons h3 ih
end
/-- how a call binds: n values by place, the keywords ks, the defaults ds -/
structure BindW (K : PySem.W.Frag) (fd : FuncData) (ps : List Str) (n : Nat) (ks : List Str) (sel : List Sel) (dws : List Wv) : Prop where
  dv : ∃ (dvs : List V) (ds : List Value), Vals dvs ds ∧ (∀ H, RWs K H dws dvs) ∧
    ∀ (s : Shared) (us uk : List Value), K.In s.heap → us.length = n → uk.length = ks.length → BindsTo s fd ⟨us, ks.zip uk⟩ (ps.zip (pick sel us uk ds))
section
variable {K : PySem.W.Frag} {x qual : Str} {params : Arguments} {body : List Stmt} {scope : Scope} {dvs : List V} {kws : List (Str × V)} {f : Addr} {fd : FuncData} {ps ks : List Str} {n : Nat} {sel : List Sel} {dws : List Wv}
/-- no defaults -/
theorem bind0 (F : FunD K x qual params body scope [] kws f fd)
    (h : ∀ (kV doc pm : Value) (an : Option Addr) (cdv ct : Value) (us uk : List Value), us.length = n → uk.length = ks.length → bindArgs (PySem.W.fnOf x qual params body scope .none kV doc pm an cdv ct) ⟨us, ks.zip uk⟩ = pure (ps.zip (pick sel us uk []))) : BindW K fd ps n ks sel [] := by
  obtain ⟨oc, od, dV, kV, doc, pm, an, cdv, ct, osl, rfl, lk, hcd, hD, hK⟩ := F.ex
  rcases hD with ⟨_, rfl⟩ | ⟨e, _⟩
  · exact ⟨[], [], .nil, fun _ => .nil, fun s us uk _ h1 h2 => .of_eq (h kV doc pm an cdv ct us uk h1 h2)⟩
  · exact absurd rfl e
/-- with defaults by place -/
theorem bindD (F : FunD K x qual params body scope dvs kws f fd) (hd : dvs ≠ []) (hr : ∀ H, RWs K H dws dvs)
    (h : ∀ (T : Addr) (kV doc pm : Value) (an : Option Addr) (cdv ct : Value) (us uk its : List Value), us.length = n → uk.length = ks.length → its.length = dvs.length →
      ∃ k, bindArgs (PySem.W.fnOf x qual params body scope (.ref T) kV doc pm an cdv ct) ⟨us, ks.zip uk⟩ = seqItems? (.ref T) >>= k ∧ k (some its.toArray) = pure (ps.zip (pick sel us uk its))) : BindW K fd ps n ks sel dws := by
  obtain ⟨oc, od, dV, kV, doc, pm, an, cdv, ct, osl, rfl, lk, hcd, hD, hK⟩ := F.ex
  rcases hD with ⟨e, _⟩ | ⟨_, T, o, its, m, rfl, lT, oT, rT⟩
  · exact absurd e hd
  · refine ⟨dvs, its, rT, hr, fun s us uk X h1 h2 => BindsTo.of_looks fun M => ?_⟩
    obtain ⟨k, e1, e2⟩ := h T kV doc pm an cdv ct us uk its h1 h2 rT.length.symm
    rw [e1]
    exact looks_items X lT oT (.of_pure e2)
end

/-! ### calls -/
section
variable {X : Cx} {Wx : WX} {k n : Nat} {f : Addr} {fd : FuncData} {ps ks : List Str} {sp : SpW} {x : Str} {p pos kpos : Pos} {e : Expr} {es : List Expr} {kws : List Keyword} {tl tk : AT} {sel : List Sel} {dws : List Wv} {te : ET}
abbrev FnX (X : Cx) (k : Nat) (f : Addr) (fd : FuncData) (ps : List Str) (sp : SpW) : Prop := FnW X.prog X.w X.K X.mg X.base k f fd ps sp
theorem run_w {pins : List (Addr × Obj)} {σ : L2.St} {H : Hp} {s : Shared} {Q : VK} {σw : SW} {G : HW} {x : XW} {q : WK} {us uk : List Value} {vu vk : List V} {wu wk : List Wv} (F : FnX X k f fd ps sp) (hr : Rm k X.A) (hb : BindW X.K fd ps n ks sel dws) (tk : Takes X Wx)
    (I : Inv X pins σ H s) (r : Vals vu us) (rk : Vals vk uk) (wr : RWs X.K H wu vu) (wk' : RWs X.K H wk vk) (hn : wu.length = n) (hk : wk.length = ks.length) (rs : RS X.K H σw σ) (rh : RH X.K G H) (px : PostX X.K H Wx x) (po : Post X.K H Q q)
    (h : sp (pick sel wu wk dws) G q fun cls fs G2 => x cls fs σw G2) : wpAny (model X.prog X.w) X.A (call (.ref f) us (ks.zip uk)) (EP X pins σ Q) X.xe s := by
  obtain ⟨dvs, ds, hv, hw, to⟩ := hb.dv
  have r2 := pick_vals r rk hv sel
  have w2 := pick_rws wr wk' (hw H) sel
  refine wpAny_call (codeAny_mono (F.run X.A X.stack s H ⟨us, ks.zip uk⟩ _ _ Q (fun cls d H' => Wx cls d σ H' ∧ True) hr I.env0 (to s us uk I.kIn (by rw [← r.length, wr.len]; exact hn) (by rw [← rk.length, wk'.len]; exact hk)) r2
    ⟨_, G, q, _, w2, rh, po, fun cls d fs G' H' tx rx rh' hx => ⟨px cls d fs σw G' σ H' tx rx (rs.mono tx) rh' hx, trivial⟩, h⟩) fun rr s' hq => ?_)
  cases rr with
  | error er => exact tk er s' (XE.of_call I (fun cls d H' z => z.1) hq)
  | ok fl =>
    cases fl with
    | ret u => exact I.after hq
    | next => exact False.elim hq
    | brk => exact False.elim hq
    | cont => exact False.elim hq
/-- f(..): sp of the arguments picked -/
def eCall (n m : Nat) (sel : List Sel) (dws : List Wv) (sp : SpW) (tl tk : AT) : ET := fun x σ G q => tl x σ G fun ws G1 => tk x σ G1 fun zs G2 => ws.length = n ∧ zs.length = m ∧ sp (pick sel ws zs dws) G2 q fun cls fs G3 => x cls fs σ G3
theorem z_call (F : FnX X k f fd ps sp) (hr : Rm k X.A) (hg : Gl X x) (hm : X.mg x = some (.ref f)) (hk : PySem.W.keepIn X.K (.ref f) = true) (hb : BindW X.K fd ps n [] sel dws) (tk : Takes X Wx) (ha : AW X Wx (e :: es) tl)
    (hdb : (x == ("__debug__" : Str)) = false := by decide) (he : starEach (e :: es) X.env = (false, eval e X.env) :: starEach es X.env := by rfl) (hpl : (backTo pos (starEach es X.env)).any (·.1) = false := by rfl) :
    EW X Wx (.Call (.Name x p) (e :: es) [] pos) (eCall n 0 sel dws sp tl aNil) := ⟨fun pins s σ H Q I h => by
  obtain ⟨σw, G, xw, q, rs, rh, px, po, h⟩ := h
  refine wpAny_Call_Name_kw (ld_glob I hg hm ?_ hdb)
  refine PySem.W.callWith_K (h₀ := X.base) I.ok.mod.kin hk (thn (ha.run pos pins s σ H (fun vs H1 => ∃ ws G1, TX X.K H H1 ∧ RWs X.K H1 ws vs ∧ RH X.K G1 H1 ∧ ws.length = n ∧ sp (pick sel ws [] dws) G1 q fun cls fs G3 => xw cls fs σw G3) I
    ⟨σw, G, xw, _, rs, rh, px, fun ws G1 vs H1 t1 r1 rh1 h1 => ⟨ws, G1, t1, r1, rh1, h1.1, h1.2.2⟩, h⟩) fun us s1 ⟨vs, H1, I1, r, ws, G1, t1, r1, rh1, hn, h1⟩ => ⟨I1.kIn, ?_⟩) he hpl
  exact run_w (uk := []) (wk := []) F hr hb tk I1 r .nil r1 .nil hn rfl (rs.mono t1) rh1 (px.mono t1) (po.mono t1) h1⟩
theorem z_call0 (F : FnX X k f fd ps sp) (hr : Rm k X.A) (hg : Gl X x) (hm : X.mg x = some (.ref f)) (hk : PySem.W.keepIn X.K (.ref f) = true) (hb : BindW X.K fd ps 0 [] sel dws) (tk : Takes X Wx) (hdb : (x == ("__debug__" : Str)) = false := by decide) :
    EW X Wx (.Call (.Name x p) [] [] pos) (eCall 0 0 sel dws sp aNil aNil) := ⟨fun pins s σ H Q I h => by
  obtain ⟨σw, G, xw, q, rs, rh, px, po, h⟩ := h
  refine wpAny_Call_Name_kw (ld_glob I hg hm ?_ hdb)
  exact PySem.W.callWith_K0 I.kIn hk (run_w (us := []) (uk := []) (wu := []) (wk := []) F hr hb tk I .nil .nil .nil .nil rfl rfl rs rh px po h.2.2)⟩
/-- keywords' values -/
abbrev KWs (X : Cx) (Wx : WX) (kws : List Keyword) (t : AT) : Prop := PK X kws (embA X.K Wx t)
theorem pk_imp {t t' : TA} (h : PK X kws t) (i : ∀ σ H Q, t' σ H Q → t σ H Q) : PK X kws t' := ⟨fun pos pins s σ H Q I q => h.run pos pins s σ H Q I (i _ _ _ q)⟩
theorem z_knil : KWs X Wx [] aNil := pk_imp pk_nil fun σ H Q ⟨σw, G, x, q, rs, rh, px, po, h⟩ => po _ _ _ _ TX.refl .nil rh h
theorem z_kcons {nm : Option Str} (h : EW X Wx e te) (g : KWs X Wx kws tl) : KWs X Wx (⟨nm, e, kpos⟩ :: kws) (aCons te tl) :=
  pk_imp (pk_cons h g) fun σ H Q ⟨σw, G, x, q, rs, rh, px, po, h⟩ => ⟨σw, G, x, _, rs, rh, px, fun w1 G1 v1 H1 t1 r1 rh1 h1 => ⟨σw, G1, x, _, rs.mono t1, rh1, px.mono t1, fun ws G2 vs H2 t2 r2 rh2 h2 =>
    po _ _ _ _ (t1.trans t2) (.cons (r1.mono t2) r2) rh2 h2, h1⟩, h⟩
theorem z_callN (F : FnX X k f fd ps sp) (hr : Rm k X.A) (hg : Gl X x) (hm : X.mg x = some (.ref f)) (hk : PySem.W.keepIn X.K (.ref f) = true) (hb : BindW X.K fd ps n ks sel dws) (tx : Takes X Wx) (ha : AW X Wx (e :: es) tl) (hkw : KWs X Wx kws tk)
    (hall : (backToKw pos (keywordEach kws X.env)).all (·.1.isSome) = true := by rfl) (hks : (backToKw pos (keywordEach kws X.env)).filterMap (·.1) = ks := by rfl) (hdb : (x == ("__debug__" : Str)) = false := by decide)
    (he : starEach (e :: es) X.env = (false, eval e X.env) :: starEach es X.env := by rfl) (hpl : ((backTo pos (starEach (e :: es) X.env)).any (·.1) || (backToKw pos (keywordEach kws X.env)).any (·.1.isNone)) = false := by rfl) :
    EW X Wx (.Call (.Name x p) (e :: es) kws pos) (eCall n ks.length sel dws sp tl tk) := ⟨fun pins s σ H Q I h => by
  obtain ⟨σw, G, xw, q, rs, rh, px, po, h⟩ := h
  refine wpAny_Call_Name_kw (ld_glob I hg hm ?_ hdb)
  refine PySem.W.callWith_KW (h₀ := X.base) I.ok.mod.kin hk hall (thn (ha.run pos pins s σ H (fun vs H1 => ∃ ws G1, TX X.K H H1 ∧ RWs X.K H1 ws vs ∧ RH X.K G1 H1 ∧ tk xw σw G1 fun zs G2 => ws.length = n ∧ zs.length = ks.length ∧ sp (pick sel ws zs dws) G2 q fun cls fs G3 => xw cls fs σw G3) I
    ⟨σw, G, xw, _, rs, rh, px, fun ws G1 vs H1 t1 r1 rh1 h1 => ⟨ws, G1, t1, r1, rh1, h1⟩, h⟩) fun us s1 ⟨vs, H1, I1, r, ws, G1, t1, r1, rh1, h1⟩ => ?_) hpl he
  refine thn (hkw.run pos pins s1 σ H1 (fun zs H2 => ∃ wz G2, TX X.K H1 H2 ∧ RWs X.K H2 wz zs ∧ RH X.K G2 H2 ∧ ws.length = n ∧ wz.length = ks.length ∧ sp (pick sel ws wz dws) G2 q fun cls fs G3 => xw cls fs σw G3) I1
    ⟨σw, G1, xw, _, rs.mono t1, rh1, px.mono t1, fun wz G2 zs H2 t2 r2 rh2 h2 => ⟨wz, G2, t2, r2, rh2, h2⟩, h1⟩) fun uz s2 ⟨zs, H2, I2, rz, wz, G2, t2, r2, rh2, hn, hl, h2⟩ => ⟨I2.kIn, ?_⟩
  rw [hks]
  exact run_w F hr hb tx I2 r rz (r1.mono t2) r2 hn hl (rs.mono (t1.trans t2)) rh2 (px.mono (t1.trans t2)) (po.mono (t1.trans t2)) h2⟩
theorem z_callK (F : FnX X k f fd ps sp) (hr : Rm k X.A) (hg : Gl X x) (hm : X.mg x = some (.ref f)) (hk : PySem.W.keepIn X.K (.ref f) = true) (hb : BindW X.K fd ps 0 ks sel dws) (tx : Takes X Wx) (hkw : KWs X Wx kws tk)
    (hall : (backToKw pos (keywordEach kws X.env)).all (·.1.isSome) = true := by rfl) (hks : (backToKw pos (keywordEach kws X.env)).filterMap (·.1) = ks := by rfl) (hdb : (x == ("__debug__" : Str)) = false := by decide)
    (hpl : ((backTo pos (starEach [] X.env)).any (·.1) || (backToKw pos (keywordEach kws X.env)).any (·.1.isNone)) = false := by rfl) :
    EW X Wx (.Call (.Name x p) [] kws pos) (eCall 0 ks.length sel dws sp aNil tk) := ⟨fun pins s σ H Q I h => by
  obtain ⟨σw, G, xw, q, rs, rh, px, po, h⟩ := h
  refine wpAny_Call_Name_kw (ld_glob I hg hm ?_ hdb)
  refine PySem.W.callWith_KW0 (h₀ := X.base) I.ok.mod.kin hk hall ?_ hpl
  refine thn (hkw.run pos pins s σ H (fun zs H2 => ∃ wz G2, TX X.K H H2 ∧ RWs X.K H2 wz zs ∧ RH X.K G2 H2 ∧ wz.length = ks.length ∧ sp (pick sel [] wz dws) G2 q fun cls fs G3 => xw cls fs σw G3) I
    ⟨σw, G, xw, _, rs, rh, px, fun wz G2 zs H2 t2 r2 rh2 h2 => ⟨wz, G2, t2, r2, rh2, h2.2.1, h2.2.2⟩, h⟩) fun uz s2 ⟨zs, H2, I2, rz, wz, G2, t2, r2, rh2, hl, h2⟩ => ⟨I2.kIn, ?_⟩
  rw [hks]
  exact run_w (us := []) (wu := []) F hr hb tx I2 .nil rz .nil r2 rfl hl (rs.mono t2) rh2 (px.mono t2) (po.mono t2) h2⟩

/-! ### raise C(..), C an own class -/
/-- an exception's making: its class, its fields -/
abbrev MT := XW → SW → HW → (Value → List (Str × Wv) → HW → Prop) → Prop
def embMk (K : PySem.W.Frag) (Wx : WX) (t : MT) : L2.St → Hp → XK → Prop := fun σ H Q => ∃ σw G x q, RS K H σw σ ∧ RH K G H ∧ PostX K H Wx x ∧ (∀ cls d fs G' H', TX K H H' → RX K H' d fs → RH K G' H' → q cls fs G' → Q cls d H') ∧ t x σw G q
abbrev MkW (X : Cx) (Wx : WX) (e : Expr) (t : MT) : Prop := PMk X e (embMk X.K Wx t)
def sRaise (t : MT) : ST := fun D σ G => t D.ex σ G fun cls fs G1 => D.ex cls fs σ G1
theorem z_raise {t : MT} (hc : X.calm = true) (tk : Takes X Wx) (he : MkW X Wx e t) : TW X Wx (.Raise (some e) none pos) (sRaise t) :=
  ps_imp (ps_raise hc tk he) fun D σ H ⟨σw, G, d, rs, rh, sm, h⟩ => ⟨σw, G, d.ex, _, rs, rh, sm.ex, fun cls dd fs G' H' tx rx rh' hx => sm.ex cls dd fs σw G' σ H' tx rx (rs.mono tx) rh' hx, h⟩
end
end LF

/-! LF8: own errors made, caught, kept; lambdas -/
namespace LF
open PySem PySem.Spec PyProof.Rows L2

/-! ### a tuple of classes as a clause -/
section
variable {M : Model} {K : PySem.W.Frag}
theorem exc_loop1 {h : Heap} {cls : Value} (XI : K.In h) : ∀ {cs : List Value} {b : Bool}, PySem.W.exmAny K cls cs = some b → ∀ c ∈ cs, PySem.W.Looks M h (isExcClass c) true
  | [], _, _, c, hc => nomatch hc
  | c0 :: r, b, h0, c, hc => by
    obtain ⟨b1, d1, x1, y1, _⟩ := PySem.W.exmAny_cons h0
    rcases List.mem_cons.mp hc with e | e
    · rw [e]; exact (PySem.W.exm_cls XI x1).1
    · exact exc_loop1 XI y1 c e
/-- except (C1, C2, ..): the tuple's classes are asked one after the other -/
theorem exm_tupN {cls : Value} {tp e : Addr} {b : Bool} {h : Heap} {cs : List Value} (XI : K.In h) (LT : PySem.W.Looks M h (typeOf (.ref e)) cls) (hp : h.get? tp = some { cls := .type "tuple", data := .seq cs.toArray }) (hx : PySem.W.exmAny K cls cs = some b) :
    PySem.W.Looks M h (excMatches (.ref e) (.ref tp)) b := by
  intro A Q E s k₀ q
  obtain ⟨hh, g, d, tk, os⟩ := s
  have kk : ∀ b o, h.get? b = some o → hh.get? b = some o := k₀
  have T0 : PySem.W.Looks M h (isInstance (.ref tp) (.type "tuple")) true := ((PySem.W.Looks.ld hp).andThen .now).andThen (PySem.W.Looks.of_pure isSubtype_tuple_tuple)
  have hp' := kk _ _ hp
  unfold excMatches
  refine wpAny_bind ((T0.keeps kk).at ?_)
  dsimp only
  rw [if_pos rfl]
  first
    | refine wpAny_bind (wpAny_seqItems hp' rfl ?_)
    | refine wpAny_bind (wpAny_bind (wpAny_seqItems hp' rfl (wpAny_pure ?_)))
  dsimp only [Option.getD_some, Option.getD]
  have L1 := fun c hc => (exc_loop1 (M := M) XI hx c hc).keeps kk
  have one : ∀ (l : List Value) {Q : PUnit → Shared → Prop} {f : Value → PUnit → Sem (ForInStep PUnit)}, (∀ c ∈ l, ∀ {Q' : ForInStep PUnit → Shared → Prop}, Q' (.yield ⟨⟩) ⟨hh, g, d, tk, os⟩ → wpAny M A (f c ⟨⟩) Q' E ⟨hh, g, d, tk, os⟩) → Q ⟨⟩ ⟨hh, g, d, tk, os⟩ →
      wpAny M A (forIn l (⟨⟩ : PUnit) f) Q E ⟨hh, g, d, tk, os⟩ := by
    intro l
    induction l with
    | nil => intro Q f _ hq; rw [List.forIn_nil]; exact wpAny_pure hq
    | cons c l ih =>
      intro Q f hf hq
      rw [List.forIn_cons]
      exact wpAny_bind (hf c List.mem_cons_self (ih (fun c' hc' => hf c' (List.mem_cons_of_mem _ hc')) hq))
  refine wpAny_bind (wpAny_pure (wpAny_bind (one cs (fun c hc Q' hq => wpAny_bind ((L1 c hc).at ?_)) (wpAny_bind ((LT.keeps kk).at ?_))))) 
  · exact wpAny_pure hq
  have two : ∀ (l : List Value) (b : Bool) {Q : Option Bool × Unit → Shared → Prop} {f : Value → Option Bool × Unit → Sem (ForInStep (Option Bool × Unit))}, PySem.W.exmAny K cls l = some b →
      (∀ c v, PySem.W.exmOne K cls c = some v → ∀ z {Q' : ForInStep (Option Bool × Unit) → Shared → Prop}, Q' (if v = true then .done (some true, ()) else .yield (none, ())) ⟨hh, g, d, tk, os⟩ → wpAny M A (f c z) Q' E ⟨hh, g, d, tk, os⟩) →
      Q (if b = true then some true else none, ()) ⟨hh, g, d, tk, os⟩ → wpAny M A (forIn l ((none, ()) : Option Bool × Unit) f) Q E ⟨hh, g, d, tk, os⟩ := by
    intro l
    induction l with
    | nil =>
      intro b Q f h0 _ hq
      cases (show some false = some b from h0)
      rw [List.forIn_nil]
      exact wpAny_pure hq
    | cons c l ih =>
      intro b Q f h0 hf hq
      obtain ⟨b1, d1, x1, y1, z1⟩ := PySem.W.exmAny_cons h0
      subst z1
      rw [List.forIn_cons]
      refine wpAny_bind (hf c b1 x1 _ ?_)
      cases b1 with
      | true => exact wpAny_pure hq
      | false => exact ih d1 y1 hf hq
  refine wpAny_bind (two cs b hx (fun c v hv z Q' hq => wpAny_bind ((((PySem.W.exm_cls (M := M) XI hv).2).keeps kk).at ?_)) ?_)
  · cases v <;> exact wpAny_pure hq
  · cases b <;> exact wpAny_pure q
end

/-! ### the caught error is kept -/
section
variable {X : Cx} {pins : List (Addr × Obj)} {σ : L2.St} {H : Hp} {s : Shared}
theorem xc_ok {P : Program} {w : World} {H : Hp} {h : Heap} {a : Addr} {cls : Value} {d : Option Addr} {oe : Obj} {vs : Array Value} (e : h.get? a = some oe) (z : Zc cls d oe) (hd : oe.data = .fields vs) : ObjOk P w H h a (XcO a cls d) :=
  ⟨⟨oe, vs, e, z, hd⟩, ⟨oe, e⟩, fun h1 h2 ⟨o1, v1, e1, z1, d1⟩ st => ⟨o1, v1, st _ e1, z1, d1⟩⟩
/-- from now on it is known what stands at a -/
theorem inv_adopt {a : Addr} {o : HO} (I : Inv X pins σ H s) (na : H a = none) (new : ∀ ob, X.s_0.heap.get? a ≠ some ob) (nL : a ≠ X.env.locals) (nC : ∀ x, X.env.cells.lookup x ≠ some a) (nP : ∀ p ∈ X.pn ++ pins, p.1 ≠ a)
    (ho : ∀ H' : Hp, ObjOk X.prog X.w H' s.heap a o) : Inv X pins σ (upd H a o) s := by
  have nH : ∀ b u, H b = some u → b ≠ a := fun b u e => ne_of_none e na
  refine ⟨I.ok, I.os, I.bare, ⟨I.base.keep, I.base.slot, fun b ob e n hx => ?_, I.base.there, fun b xs e => ?_, fun b ob xs e => ?_, fun b ps e => ?_⟩, I.loc, I.cell, ?_, fun x c e => ?_, fun p hp => ?_, fun b u e => ?_, I.len⟩
  · have hb : b ≠ a := fun z => new ob (by rw [← z]; exact e)
    rw [upd_ne hb]; exact I.base.free b ob e n hx
  · have z := I.base.tups b xs e
    rw [upd_ne (nH _ _ z)]; exact z
  · have z := I.base.frzs b ob xs e
    rw [upd_ne (nH _ _ z)]; exact z
  · obtain ⟨more, z⟩ := I.base.tbls b ps e
    exact ⟨more, by rw [upd_ne (nH _ _ z)]; exact z⟩
  · rw [upd_ne (Ne.symm nL)]; exact I.free
  · have hb : c ≠ a := fun z => nC x (by rw [← z]; exact e)
    rw [upd_ne hb]; exact I.freeC x c e
  · obtain ⟨e1, e2, e3, e4, e5⟩ := I.pin p hp
    exact ⟨e1, by rw [upd_ne (nP p hp)]; exact e2, e3, e4, e5⟩
  · by_cases hb : b = a
    · rw [hb, upd_same] at e
      cases e
      rw [hb]
      exact ho _
    · rw [upd_ne hb] at e
      exact (I.hok b u e).stay (fun _ _ _ q => q) (fun c q => by rw [upd_ne (nH _ _ q)]; exact q) fun c xs q => by rw [upd_ne (nH _ _ q)]; exact q
end
theorem fly_kept {B h h' : Heap} {l : List Env} {e : Addr} {Z : Obj → Prop} (x : HandSPX.FlyingZ B l e Z h) (k : ∀ b o, h.get? b = some o → h'.get? b = some o) : HandSPX.FlyingZ B l e Z h' := by
  obtain ⟨x1, x2, x3, oe, vs, T, oT, ts, y1, y2, y3, y4, y5, y6, y7, y8, y9⟩ := x
  exact ⟨fun b o q => k b o (x1 b o q), x2, Heap.FunFrames.of_keeps (fun b o q _ => ⟨o, k b o q, rfl⟩) x3, oe, vs, T, oT, ts, k _ _ y1, y2, y3, y4, y5, y6, k _ _ y7, y8, y9⟩
/-- names of classes -/
inductive NamesT (X : Cx) : List Expr → List Value → Prop
  | nil : NamesT X [] []
  | cons {x : Str} {p : Pos} {c : Value} {es : List Expr} {cs : List Value} (h : Names X x c) (r : NamesT X es cs) : NamesT X (.Name x p :: es) (c :: cs)
theorem names_run {X Y : Cx} {pins : List (Addr × Obj)} {σ : L2.St} {H : Hp} {s : Shared} {E : Value → Shared → Prop} (hp : Y.prog = X.prog) (hw : Y.w = X.w) (hm : Y.mg = X.mg) (he : Y.env = X.env) (I : Inv Y pins σ H s) {pos : Pos} : ∀ {es : List Expr} {cs : List Value}, NamesT X es cs →
    ∀ {Q : List Value → Shared → Prop}, Q cs s → wpAny (model X.prog X.w) Y.A (spliced (backTo pos (starEach es X.env))) Q E s
  | _, _, .nil, Q, q => Calls.spliced_nil q
  | _, _, .cons (x := x) (p := p) (c := c) (es := es) h r, Q, q => by
    refine args_cons ?_
    have goal : wpAny (model Y.prog Y.w) Y.A (eval (.Name x p) Y.env) (fun v s₁ => wpAny (model X.prog X.w) Y.A (spliced (backTo pos (starEach es X.env))) (fun vs s₂ => Q (v :: vs) s₂) E s₁) E s := by
      obtain ⟨hg, hdbg, h1 | ⟨h1, hv, hnn⟩⟩ := h
      · exact ld_glob I (by unfold Gl at hg ⊢; rw [he]; exact hg) (by rw [hm]; exact h1) (names_run hp hw hm he I r q) hdbg
      · exact ld_blt I (by unfold Gl at hg ⊢; rw [he]; exact hg) (by rw [hm]; exact h1) hv (names_run hp hw hm he I r q) hnn hdbg
    rw [hp, hw, he] at goal
    exact goal
end LF

/-! LF9: try: body / except (C1, C2, ..) as n: suite, the error kept -/
namespace LF
open PySem PySem.Spec PyProof.Rows L2
/-- slot i is n's -/
def dAs (i : Nat) (a : Addr) (cls : Value) (d : Option Addr) (D : Ends) : Ends := { nx := fun σ' H' => H' a = none → D.nx (σ'.set i none) (upd H' a (XcO a cls d)), rt := D.rt, bk := fun σ' H' => D.bk (σ'.set i none) H', ct := fun σ' H' => D.ct (σ'.set i none) H' }
def wTup (K : PySem.W.Frag) (cs : List Value) (i : Nat) (ts : Addr → Value → Option Addr → TS) (Wout : WX) (D : Ends) : WX := fun cls d σ H =>
  ∃ b, PySem.W.exmAny K cls cs = some b ∧ (b = true → ∀ a, H a = none → ts a cls d (dAs i a cls d D) (σ.set i (some (.ref a))) H) ∧ (b = false → Wout cls d σ H)
section
variable {X : Cx} {n : Str} {cs : List Value} {es : List Expr} {i : Nat} {body suite : List Stmt} {b₀ : Stmt} {x1 : Nat} {np pos pos' : Pos} {tb : WX → TS} {ts : Addr → Value → Option Addr → TS} {Wout : WX}
theorem ps_try_tup (hs : X.stack = X.env :: X.outer) (hf : X.env.frame = some X.env.locals) (hex : X.ex = []) (hN : X.N.Nodup) (hi : X.N[i]? = some n) (hln : X.env.kindOf n = some .local) (hc : NamesT X es cs) (hsz : cs.length ≤ sizeLine) (tk : Takes X Wout)
    (hb : ∀ (W : WX) (pn : List (Addr × Obj)) (xe : Value → Shared → Prop), Takes (X.tr pn xe) W → PassesOwn (model X.prog X.w) X.A X.env xe → PSs (X.tr pn xe) body (tb W))
    (hsu : ∀ (a : Addr) (oe : Obj) (cls : Value) (d : Option Addr) (pn : List (Addr × Obj)), PSs (X.suite a ((a, oe) :: pn)) (b₀ :: suite) (ts a cls d)) :
    PS X (.Try body [.ExceptHandler (some (.Tuple es x1 np)) (some n) (b₀ :: suite) pos'] [] [] pos) (fun D σ H => tb (wTup X.K cs i ts Wout D) D σ H) := by
  refine ⟨fun pins s σ H D I hq0 => ?_⟩
  have OK := I.ok
  have FR : X.A.frames = some (X.env :: X.outer) := by rw [OK.frames, hs]
  have locn : Loc X.env.scope n := .inl hln
  have lenT : ∀ {l : List Expr} {c : List Value}, NamesT X l c → True := fun _ => trivial
  refine wpAny_Try_except ?_
  refine wpAny_mono ((hb (wTup X.K cs i ts Wout D) (X.pn ++ pins) (fun e u1 => wpAny (model X.prog X.w) X.A (noteFrame e X.env) (fun _ u2 => wpAny (model X.prog X.w) X.A (setFlight e none) (fun _ u3 =>
    wpAny (model X.prog X.w) X.A (handleBy e X.env [.ExceptHandler (some (.Tuple es x1 np)) (some n) (b₀ :: suite) pos']) (SP X pins D) X.xe u3) X.xe u2) X.xe u1) (fun u s' xx => ?_) PassesOwn.looking).run [] s σ H D (I.toTry _) hq0) (fun f s1 hsp => ?_) (fun e s1 he => he)
  · obtain ⟨a, B, sI, pinsT, σ', H', cls, d, rfl, JT, nb, up, sky, na, os, ag, b, hb1, hyes, hno⟩ := xx
    have J0 : Inv X pins σ' H' sI := JT.ofTry OK
    have skyE : Sky B (X.env :: X.outer) a (Zc cls d) X.env.locals s'.heap := by rw [← hs]; exact sky
    show wpAny (model X.prog X.w) X.A (noteFrame (.ref a) X.env) _ _ _
    refine Sky.land Zc.steady FR hf skyE fun h3 fl3 up3 => ?_
    have J3 : Inv X pins σ' H' { s' with heap := h3 } := J0.landed nb fl3.1 (up.trans up3) os ag
    obtain ⟨oe3, vs3, he3, hz3, hd3⟩ := fl3.there
    have nofr : ∀ {h : Heap} {o : Obj} {vs : Array Value}, h.FunFrames B (X.env :: X.outer) → h.get? a = some o → o.data = .fields vs → a ∉ frs (X.env :: X.outer) := fun {h o vs} ff e dd hm => by
      obtain ⟨_, o', e', hnf⟩ := ff.mem hm
      rw [e] at e'; cases e'; exact hnf _ dd
    have nfa := nofr fl3.2.2.1 he3 hd3
    have nL : a ≠ X.env.locals := fun z => nfa (List.mem_filterMap.mpr ⟨X.env, List.mem_cons_self, by rw [hf, z]⟩)
    have nF : a ∉ X.fs := fun hm => by
      obtain ⟨e, he, q⟩ := List.mem_filterMap.mp hm
      exact nfa (List.mem_filterMap.mpr ⟨e, List.mem_cons_of_mem _ he, q⟩)
    have notB : B.get? a = none := fl3.2.1
    have notI : ∀ ob, sI.heap.get? a ≠ some ob := fun ob z => by
      have z2 := nb a ob z (by rw [hs]; exact nfa)
      rw [notB] at z2; cases z2
    have new0 : ∀ ob, X.s_0.heap.get? a ≠ some ob := fun ob z => by
      obtain ⟨o', e1⟩ := J0.base.there a ob z (by rw [hex]; exact fun m => nomatch m)
      exact notI o' e1
    have nPin : ∀ p ∈ X.pn ++ pins, p.1 ≠ a := fun p hp z => by
      obtain ⟨e1, _⟩ := J0.pin p hp
      rw [z] at e1
      exact notI _ e1
    have nCell : ∀ x, X.env.cells.lookup x ≠ some a := fun x z => by
      obtain ⟨v, o, e1, _⟩ := J0.cell x a z
      exact notI o e1
    have S3 := J3.suite he3 hd3 na nL nF
    refine wpAny_handleBy_cons (codeAny_handlers_test ?_) (by intro q; cases q)
    refine wpAny_Tuple_spliced (names_run (X := X) (Y := X.suite a ((a, oe3) :: (X.pn ++ pins))) rfl rfl rfl rfl S3 hc ⟨hsz, ?_⟩)
    have keep5 : ∀ b o, h3.get? b = some o → (h3.push { cls := .type "tuple", data := .seq cs.toArray }).get? b = some o := fun b o e => Heap.get?_push_of_some _ e
    have fl5 := fly_kept fl3 keep5
    have J5 : Inv X pins σ' H' { s' with heap := h3.push { cls := .type "tuple", data := .seq cs.toArray } } := J3.kept (t' := s'.toks) keep5
    have he5 := keep5 _ _ he3
    have LT : PySem.W.Looks (model X.prog X.w) (h3.push { cls := .type "tuple", data := .seq cs.toArray }) (typeOf (.ref a)) cls := fun A Q E s k q => wpAny_typeOf_ref (k _ _ he5) (by rw [hz3.1]; exact q)
    refine (exm_tupN (M := model X.prog X.w) J5.kIn LT (Heap.get?_push_size _ rfl) hb1).here ?_
    cases b with
    | true =>
      refine codeAny_handlers_suite_as ?_
      refine HandSPX.lands_againZ fl5 fun h4 fl4 up4 => ?_
      have J4 : Inv X pins σ' H' { s' with heap := h4 } := J0.landed nb fl4.1 ((up.trans up3).trans ((Heap.UpToSlots.of_keeps keep5).trans up4)) os ag
      obtain ⟨oe4, vs4, he4, hz4, hd4⟩ := fl4.there
      have S4 := J4.suite he4 hd4 na nL nF
      refine store_ok (X := X.suite a ((a, oe4) :: (X.pn ++ pins))) (v := .ref a) S4 hN hi locn rfl (fun s5 S5 => ?_) (.inr hln)
      refine wpAny_mono ((hsu a oe4 cls d (X.pn ++ pins)).run [] s5 _ H' _ S5 (hyes rfl a na)) (fun f s6 hsp => ?_) (fun _ _ z => False.elim z)
      have fin : ∀ {σ6 : L2.St} {H6 : Hp} {Q : Shared → Prop}, Inv (X.suite a ((a, oe4) :: (X.pn ++ pins))) [] σ6 H6 s6 → (∀ s7, Inv X pins (σ6.set i none) H6 s7 → Q s7) →
          wpAny (model X.prog X.w) X.A (do bindName X.env n .none; unbindBehindTheSuite X.env n pos') (fun _ s7 => Q s7) X.xe s6 := fun {σ6 H6 Q} S6 hq => gone_ok (S6.unsuite OK) hN hi hln hq
      cases f with
      | next =>
        obtain ⟨σ6, H6, S6, q6⟩ := hsp
        obtain ⟨e1, e2, _⟩ := S6.pin (a, oe4) (List.mem_append_left _ List.mem_cons_self)
        have J6 : Inv X pins σ6 (upd H6 a (XcO a cls d)) s6 := inv_adopt (S6.unsuite OK) e2 new0 nL nCell nPin fun _ => xc_ok e1 hz4 hd4
        exact gone_ok J6 hN hi hln fun s7 J7 => ⟨_, _, J7, q6 e2⟩
      | brk =>
        obtain ⟨σ6, H6, S6, q6⟩ := hsp
        exact fin S6 fun s7 J7 => ⟨_, _, J7, q6⟩
      | cont =>
        obtain ⟨σ6, H6, S6, q6⟩ := hsp
        exact fin S6 fun s7 J7 => ⟨_, _, J7, q6⟩
      | ret u =>
        obtain ⟨v6, σ6, H6, S6, r6, q6⟩ := hsp
        exact fin S6 fun s7 J7 => ⟨_, _, _, J7, r6, q6⟩
    | false =>
      show wpAny _ X.A (handleBy (.ref a) X.env []) _ _ _
      refine wpAny_handleBy_nil ?_
      obtain ⟨k1, k2, k3, oe, vs, T, oT, ts', he, hz, hd, h1, hr⟩ := id fl5
      unfold PySem.passOn
      refine wpAny_bind (wpAny_field he hd h1 ?_)
      rw [if_neg (show ¬ ((Value.ref T == Value.none) = true) from by simp)]
      have fin : wpAny (model X.prog X.w) X.A (setFlight (.ref a) X.env.frame) (fun _ s4 => wpAny (model X.prog X.w) X.A (throw (.ref a) : Sem Flow) (SP X pins D) X.xe s4) X.xe { s' with heap := h3.push { cls := .type "tuple", data := .seq cs.toArray } } := by
        rw [hf]
        refine HandSPX.setFlight_upZ fl5 fun h4 hh4 up4 => wpAny_throw (tk _ _ ?_)
        exact ⟨a, B, sI, pins, σ', H', cls, d, rfl, J0, nb, (up.trans up3).trans ((Heap.UpToSlots.of_keeps keep5).trans up4), .inr (.inr (by rw [hs]; exact hh4)), na, os, ag, hno rfl⟩
      first
        | exact wpAny_bind (wpAny_pure (wpAny_bind fin))
        | exact wpAny_bind fin
  · cases f with
    | next =>
      obtain ⟨σ', H', J', q⟩ := hsp
      exact wpAny_execs_nil ⟨σ', H', J'.ofTry OK, q⟩
    | brk =>
      obtain ⟨σ', H', J', q⟩ := hsp
      exact ⟨σ', H', J'.ofTry OK, q⟩
    | cont =>
      obtain ⟨σ', H', J', q⟩ := hsp
      exact ⟨σ', H', J'.ofTry OK, q⟩
    | ret u =>
      obtain ⟨v, σ', H', J', r, q⟩ := hsp
      exact ⟨v, σ', H', J'.ofTry OK, r, q⟩
end

/-! ### the same over trees -/
theorem RS.unset {K : PySem.W.Frag} {H : Hp} : ∀ {a : SW} {b : L2.St} (n : Nat), RS K H a b → RS K H (a.set n Option.none) (b.set n Option.none)
  | _, _, _, .nil => .nil
  | _, _, 0, .cons _ b => .cons trivial b
  | _, _, n + 1, .cons a b => .cons a (RS.unset n b)
/-- try: tb / except one of cs as slot i: ts; the error stands kept -/
def sTry (K : PySem.W.Frag) (cs : List Value) (i : Nat) (tb ts : ST) : ST := fun D σ G => tb { D with ex := fun cls fs σ1 G1 => ∃ b, PySem.W.exmAny K cls cs = some b ∧
  (b = true → ∀ a, G1 a = none → ts { nx := fun σ2 G2 => D.nx (σ2.set i none) (updO G2 a (.exc a cls fs)), rt := D.rt, bk := fun σ2 G2 => D.bk (σ2.set i none) G2, ct := fun σ2 G2 => D.ct (σ2.set i none) G2, ex := fun _ _ _ _ => False } (σ1.set i (some (.ref a))) G1) ∧
  (b = false → D.ex cls fs σ1 G1) } σ G
section
variable {X : Cx} {Wx : WX} {n : Str} {cs : List Value} {es : List Expr} {i : Nat} {body suite : List Stmt} {b₀ : Stmt} {x1 : Nat} {np pos pos' : Pos} {tb ts : ST}
theorem z_try (hs : X.stack = X.env :: X.outer) (hf : X.env.frame = some X.env.locals) (hex : X.ex = []) (hN : X.N.Nodup) (hi : X.N[i]? = some n) (hln : X.env.kindOf n = some .local) (hc : NamesT X es cs) (hsz : cs.length ≤ sizeLine) (tk : Takes X Wx)
    (hb : ∀ (W : WX) (pn : List (Addr × Obj)) (xe : Value → Shared → Prop), Takes (X.tr pn xe) W → PassesOwn (model X.prog X.w) X.A X.env xe → TWs (X.tr pn xe) W body tb)
    (hsu : ∀ (a : Addr) (pn : List (Addr × Obj)), TWs (X.suite a pn) W0 (b₀ :: suite) ts) : TW X Wx (.Try body [.ExceptHandler (some (.Tuple es x1 np)) (some n) (b₀ :: suite) pos'] [] [] pos) (sTry X.K cs i tb ts) :=
  ps_imp (ps_try_tup (tb := fun W => embS X.K W tb) (ts := fun _ _ _ => embS X.K W0 ts) hs hf hex hN hi hln hc hsz tk (fun W pn xe => hb W pn xe) fun a oe cls d pn => hsu a _) fun D σ H ⟨σw, G, d, rs, rh, sm, h⟩ => by
    unfold sTry at h
    refine ⟨σw, G, _, rs, rh, ?_, h⟩
    refine { nx := sm.nx, rt := sm.rt, bk := sm.bk, ct := sm.ct, ex := ?_ }
    intro cls dd fs σw1 G1 σ1 H1 tx rx rs1 rh1 ⟨b, e, hy, hn⟩
    refine ⟨b, e, fun hb a na => ⟨_, G1, _, rs1.set (w := .ref a) (.ref a) i, rh1, ?_, hy hb a (rh1.fresh na)⟩, fun hb => sm.ex cls dd fs σw1 G1 σ1 H1 tx rx rs1 rh1 (hn hb)⟩
    have st := sm.mono tx
    refine { nx := fun σw2 G2 σ2 H2 t2 rs2 rh2 q2 n2 => ?_, rt := st.rt, bk := fun σw2 G2 σ2 H2 t2 rs2 rh2 q2 => st.bk _ _ _ _ t2 (rs2.unset i) rh2 q2, ct := fun σw2 G2 σ2 H2 t2 rs2 rh2 q2 => st.ct _ _ _ _ t2 (rs2.unset i) rh2 q2, ex := fun _ _ _ _ _ _ _ _ _ _ _ z => z.elim }
    have tn : TX X.K H2 (upd H2 a (XcO a cls dd)) := TX.new n2
    exact st.nx _ _ _ _ (t2.trans tn) ((rs2.unset i).mono tn) (rh2.new (o := .exc a cls fs) n2 ⟨dd, rfl, (rx.mono t2).mono tn⟩) q2
end
end LF

/-! LF10: a kept error's field; own errors with one field made -/
namespace LF
open PySem PySem.Spec PyProof.Rows L2
theorem RKs.lkp {K : PySem.W.Frag} {H : Hp} {f : Str} : ∀ {xs : List (Str × Wv)} {ys : List (Str × V)} {w : Wv}, RKs K H xs ys → xs.lookup f = some w → ∃ v, ys.lookup f = some v ∧ RW K H w v
  | _, _, _, .nil, e => nomatch e
  | (g, w0) :: xs, (g', v0) :: ys, w, .cons h t, e => by
    obtain ⟨h1, h2⟩ := h
    cases (show g = g' from h1)
    by_cases q : f = g
    · subst q
      simp [List.lookup] at e
      subst e
      exact ⟨v0, by simp [List.lookup], h2⟩
    · have z : (f == g) = false := by simpa using q
      simp [List.lookup, z] at e ⊢
      exact RKs.lkp t e
section
variable {X : Cx} {Wx : WX} {e o : Expr} {te : ET} {f : Str} {pos : Pos}
/-- e.f, e a kept error -/
def eXf (K : PySem.W.Frag) (f : Str) (te : ET) : ET := fun x σ G q => te x σ G fun w G1 => match w with
  | .ref a => ∃ (C : Addr) (fs : List (Str × Wv)) (y : Wv), G1 a = some (.exc a (.ref C) fs) ∧ XfC K C ∧ PySem.W.findIn K (.ref C) f = some none ∧ fs.lookup f = some y ∧ q y G1
  | _ => False
theorem z_xf (he : EW X Wx e te) (hb : attributeBase e f X.env (eval e X.env) = eval e X.env := by rfl) : EW X Wx (.Attribute e f pos) (eXf X.K f te) := ⟨fun pins s σ H Q I h => by
  obtain ⟨σw, G, x, q, rs, rh, px, po, h⟩ := h
  refine attr_of hb (thn (he.run pins s σ H (fun v H1 => ∃ w G1, TX X.K H H1 ∧ RW X.K H1 w v ∧ RH X.K G1 H1 ∧ ∃ (a C : Addr) (fs : List (Str × Wv)) (y : Wv), w = .ref a ∧ G1 a = some (.exc a (.ref C) fs) ∧ XfC X.K C ∧ PySem.W.findIn X.K (.ref C) f = some none ∧ fs.lookup f = some y ∧ q y G1) I
    ⟨σw, G, x, _, rs, rh, px, fun w G1 v H1 t1 r1 rh1 h1 => ⟨w, G1, t1, r1, rh1, ?_⟩, h⟩) fun u s1 hh => ?_)
  · cases w <;> first | exact h1.elim | exact ⟨_, h1.choose, h1.choose_spec.choose, h1.choose_spec.choose_spec.choose, rfl, h1.choose_spec.choose_spec.choose_spec⟩
  · obtain ⟨v, H1, I1, rv, w, G1, t1, r1, rh1, a, C, fs, y, rfl, ea, T, hno, l, hq⟩ := hh
    cases r1
    cases (show u = Value.ref a from rv)
    obtain ⟨d, e1, rx⟩ := rh1.exc ea
    obtain ⟨⟨oe, vs, h1, ⟨h2, h3⟩, h4⟩, _, _⟩ := I1.hok _ _ e1
    cases d with
    | none =>
      cases (show fs = [] from rx)
      cases l
    | some d =>
      obtain ⟨xs, e2, rk⟩ := rx
      obtain ⟨mA, hns, hr⟩ := (show ObjOk X.prog X.w H1 s1.heap d (.xd xs) from I1.hok d _ e2)
      obtain ⟨od, ho, hl⟩ := lookIn_ns hns
      obtain ⟨v, l2, ry⟩ := rk.lkp l
      obtain ⟨u, hu, ru⟩ := RelO.some_of (v := v) (o := mA f) (by rw [← l2]; exact hr f)
      have J : PySem.W.InstAt s1.heap a oe C (some od) := ⟨h1, h2, by unfold PySem.W.notCls; rw [h4], by rw [h3]; exact ho⟩
      exact HandSPX.exc_get I1.kIn J T.ga T.gg T.exC (PySem.W.findObj_own T.hdC hno rfl (by rw [hl, hu])) (handed_of ru) ⟨v, H1, I1.tok _, ru, po _ _ _ _ t1 ry rh1 hq⟩⟩
end

/-! ### an error's making -/
/-- def __init__(self, y): self.f = y -/
def SpI (K : PySem.W.Frag) (f : Str) : Sp := fun vs H Q _ => ∃ (a C : Addr) (y : V), vs = [.ref a, y] ∧ OexC K C ∧ PySem.W.findIn K (.ref C) f = some none ∧ H a = some (exo a C none) ∧
  ∀ dx, H dx = none → dx ≠ a → Q .non (upd (upd H dx (exd dx [(f, y)])) a (exo a C (some dx)))
theorem init1 {P : Program} {w : World} {K : PySem.W.Frag} {mg : Str → Option Value} {base : Heap} {x qual f sf y : Str} {params : Arguments} {scope : Scope} {fI : Addr} {fd : FuncData} {p1 p2 p3 p4 : Pos} {kws : List (Str × V)} {dvs : List V} {k : Nat}
    (F : FunD K x qual params [.Assign [.Attribute (.Name sf p1) f p2] (.Name y p3) p4] scope dvs kws fI fd) (S : FnScope [sf, y] [sf, y] scope) (v1 : Vis scope sf) (v2 : Vis scope y)
    (d1 : (sf == ("__debug__" : Str)) = false) (d2 : (sf == ("__classdict__" : Str)) = false) (d3 : (y == ("__debug__" : Str)) = false) (d4 : (y == ("__classdict__" : Str)) = false)
    (hsw : ∀ env : Env, swapsWith (.Name y p3) (some (.Attribute (.Name sf p1) f p2)) p4.line env = pure false) : FnOk P w K mg base (L2.CX P w) (k + 1) fI fd [sf, y] (SpI K f) :=
  F.ok S (fun vs H Q E ⟨a, C, v, e, _⟩ => by rw [e]; rfl) fun cdv A outer s H vs Q E hr ⟨a, C, v, e, T, hno, ea, q⟩ =>
    ⟨_, pss_one (ps_ost (pe_var (i := 0) (x := sf) rfl v1 d1 d2) (pe_var (i := 1) (x := y) rfl v2 d3 d4) (hsw _)), by
      subst e
      exact ⟨v, rfl, .ref a, rfl, a, C, rfl, T, hno, .inl ⟨ea, q⟩⟩⟩
section
variable {X : Cx} {Wx : WX} {x f : Str} {C fI : Addr} {k : Nat} {fd : FuncData} {ps : List Str} {e : Expr} {te : ET} {p pos : Pos}
def mk1 (C : Addr) (f : Str) (te : ET) : MT := fun x σ G q => te x σ G fun w G1 => q (.ref C) [(f, w)] G1
theorem z_mk1 (T : OexC X.K C) (iC : PySem.W.findIn X.K (.ref C) "__init__" = some (some (.ref fI))) (tI : PySem.W.typeIn X.K (.ref fI) = some (.type "function")) (hno : PySem.W.findIn X.K (.ref C) f = some none)
    (F1 : FnOk X.prog X.w X.K X.mg X.base (L2.CX X.prog X.w) k fI fd ps (SpI X.K f)) (hr : Room (k + 1) X.A) (hb : Binds X.K fd ps []) (tk : Takes X Wx) (hg : Gl X x) (hm : X.mg x = some (.ref C)) (he : EW X Wx e te)
    (hdb : (x == ("__debug__" : Str)) = false := by decide) (hs : starEach [e] X.env = (false, eval e X.env) :: starEach [] X.env := by rfl) (hpl : (backTo pos (starEach [] X.env)).any (·.1) = false := by rfl) :
    MkW X Wx (.Call (.Name x p) [e] [] pos) (mk1 C f te) := by
  intro pins s σ H Q I ⟨σw, G, xw, q, rs, rh, px, po, h⟩
  refine pmk_oex T iC tI F1 hr hb .nil (passes_call (E := fun _ _ _ => False) tk fun _ _ _ _ z => z.elim) hg hm (pa_cons he pa_nil hs) hdb hs hpl pins s σ H Q I ?_
  refine ⟨σw, G, xw, _, rs, rh, px, fun w G1 v H1 t1 r1 rh1 h1 => ?_, h⟩
  refine ⟨by simp, fun a na => ⟨a, C, v, by simp, T, hno, upd_same, fun dx n1 n2 => ⟨rfl, dx, [(f, v)], upd_same, ?_, ?_, ?_⟩⟩⟩
  · rw [upd_ne n2, upd_same]
  · rw [upd_ne n2] at n1; exact n1
  · have n3 : H1 dx = none := by rw [upd_ne n2] at n1; exact n1
    have eH : upd (del (upd (upd (upd H1 a (exo a C none)) dx (exd dx [(f, v)])) a (exo a C (some dx))) a) dx (.xd [(f, v)]) = upd H1 dx (.xd [(f, v)]) := by
      funext b
      by_cases hb : b = dx
      · subst hb; rw [upd_same, upd_same]
      · rw [upd_ne hb, upd_ne hb]
        by_cases ha : b = a
        · subst ha; rw [del_same, na]
        · rw [del_ne ha, upd_ne ha, upd_ne hb, upd_ne ha]
    rw [eH]
    have tn : TX X.K H1 (upd H1 dx (.xd [(f, v)])) := TX.new n3
    exact po (.ref C) (some dx) [(f, w)] G1 _ (t1.trans tn) ⟨[(f, v)], upd_same, .cons ⟨rfl, r1.mono tn⟩ .nil⟩ (rh1.kept n3) h1
end
end LF

/-! LF11: lambdas without parameters, handed to a def -/
namespace LF
open PySem PySem.Spec PyProof.Rows L2 LamX
section
variable {X : Cx} {pins : List (Addr × Obj)} {σ : L2.St} {H : Hp} {s : Shared}
/-- a lambda is made: all that is tracked stays but the table at P, which goes on telling codes of the name q -/
theorem lam_made {c P : Addr} {params : Arguments} {body : Expr} {scope : Scope} {pos : Pos} {E : Value → Shared → Prop} {Q : Value → Shared → Prop} {q : Str} {ps : Array Value} (eq : X.env.qual ++ "<lambda>" = q) (I : Inv X pins σ H s) (TB : TabB X.base X.mg c P) (hcode : X.env.code = .ref c)
    (hP : H P = some (.tbl ps)) (ht : TriplesOk ps.toList) (ha : ∀ (pos : Pos) (cv : Value), codeAmong pos ps.toList = some cv → ∃ c, cv = .ref c ∧ H c = some (CodeO c q)) (hdef : defaultsOf params X.env = ([], [])) (hfree : ∀ y ∈ scope.names, y.2 = .free → ∃ c, X.env.cells.lookup y.1 = some c)
    (h : ∀ (f c' : Addr) (pm ctv : Value) (H1 : Hp) (s' : Shared), Inv X pins σ H1 s' → (∀ b o, b ≠ P → H b = some o → H1 b = some o) → (∃ u, H1 P = some u ∧ RO X.K H1 (.tab q) u) →
      s'.heap.get? f = some (PySem.W.kla_obj "<lambda>" q params body scope (cloFrom X.env.cells scope.names []) pm c' ctv) → H1 f = none → f ∉ frs X.stack → H1 c' = some (CodeO c' q) → Q (.ref f) s') : wpAny (model X.prog X.w) X.A (eval (.Lambda params body scope pos) X.env) Q E s := by
  subst eq
  refine PySem.W.kla_eval hdef ?_
  have bP := TB.bm.keeps I.bk
  have gP : s.heap.get? P = some { cls := .none, data := .fields ps } := I.hok P _ hP
  have nofr : ∀ f, s.heap.objs.size ≤ f → f ∉ frs X.stack := fun f hf z => (List.mem_cons.mp (I.stkSub _ z)).elim (fun e => by
    have h1 := I.lt
    rw [← e] at h1
    exact Nat.lt_irrefl _ (Nat.lt_of_lt_of_le h1 hf)) fun e => I.nofs hf e
  cases hc : codeAmong pos ps.toList with
  | some cv =>
    obtain ⟨c', e, hco⟩ := ha pos cv hc
    subst e
    refine PySem.W.kla_makeFunctionHit (mg := X.mg) (c := c) (P := P) (ps := ps) (closure_ok hfree) I.ok.glob (I.mod.glob.keeps I.bk) hcode (TB.code.keeps I.bk) gP ht hc bP fun ctv h' tk hx hsz => ?_
    have I1 := I.kept (t' := tk) (h' := h'.push (PySem.W.kla_obj "<lambda>" (X.env.qual ++ "<lambda>") params body scope (cloFrom X.env.cells scope.names []) ((X.mg "__name__").getD .none) c' ctv)) fun b o e => Heap.get?_push_of_some _ (hx b o e)
    exact h h'.objs.size c' _ ctv H _ I1 (fun _ _ _ z => z) ⟨_, hP, ps, rfl, ht, ha⟩ (Heap.get?_push_size _ rfl) (I.hok.fresh hsz) (nofr _ hsz) hco
  | none =>
    refine PySem.W.kla_makeFunction (mg := X.mg) (c := c) (P := P) (ps := ps) (closure_ok hfree) I.ok.glob (I.mod.glob.keeps I.bk) hcode (TB.code.keeps I.bk) gP ht hc TB.gP bP fun c' ctv h' tk hx hge hlt hrec htb => ?_
    obtain ⟨c2, oc, vs, t, e2, hoc, hd, hv⟩ := hrec
    cases e2
    have hsz := Nat.le_trans hge (Nat.le_of_lt hlt)
    have nC : H c' = none := I.hok.fresh hge
    have nPc := ne_of_none hP nC
    have I1 := inv_table (t' := tk) (more := #[rawInt pos.line, rawInt pos.col, .ref c']) (h' := h'.push (PySem.W.kla_obj "<lambda>" (X.env.qual ++ "<lambda>") params body scope (cloFrom X.env.cells scope.names []) ((X.mg "__name__").getD .none) c' ctv)) I hP
      (fun b o hb e => Heap.get?_push_of_some _ (hx b o hb e)) (Heap.get?_push_of_some _ htb) hge ⟨oc, vs, t, Heap.get?_push_of_some _ hoc, hd, hv⟩
    have kept : ∀ b o, b ≠ P → H b = some o → upd (upd H P (.tbl (ps ++ #[rawInt pos.line, rawInt pos.col, .ref c']))) c' (CodeO c' (X.env.qual ++ "<lambda>")) b = some o := fun b o hb e => by rw [upd_ne (ne_of_none e nC), upd_ne hb]; exact e
    refine h h'.objs.size c' _ ctv _ _ I1 kept ⟨_, by rw [upd_ne nPc, upd_same], ps ++ #[rawInt pos.line, rawInt pos.col, .ref c'], rfl, ?_, fun p' cv hcv => ?_⟩ (Heap.get?_push_size _ rfl) ?_ (nofr _ hsz) upd_same
    · rw [show (ps ++ #[rawInt pos.line, rawInt pos.col, .ref c']).toList = ps.toList ++ [rawInt pos.line, rawInt pos.col, .ref c'] from by simp]; exact PySem.TriplesOk_snoc _ _ _ _ ht
    · rw [show (ps ++ #[rawInt pos.line, rawInt pos.col, .ref c']).toList = ps.toList ++ [rawInt pos.line, rawInt pos.col, .ref c'] from by simp] at hcv
      rcases among_app _ ht hcv with z | z
      · obtain ⟨c0, e1, e2⟩ := ha p' cv z
        exact ⟨c0, e1, kept _ _ (fun z => by rw [z, hP] at e2; exact codeO_ne _ (Option.some.inj e2).symm) e2⟩
      · exact ⟨c', z, upd_same⟩
    · rw [upd_ne (Nat.ne_of_gt hlt), upd_ne (Nat.ne_of_gt (Nat.lt_of_lt_of_le (Heap.lt_size gP) hsz))]
      exact I.hok.fresh hsz
end

/-! ### what a lambda does, told to the def that gets it -/
abbrev TlT := XE → HW → WK → Prop
abbrev SpT := TlT → HW → WK → XE → Prop
/-- a(), slot i holding the lambda f -/
def eDeed (i : Nat) (f : Addr) (HL : Hp) (tl : TlT) : ET := fun x σ G q => σ[i]? = some (some (.fn f HL)) ∧ tl (fun cls fs G1 => x cls fs σ G1) G q
/-- the reading of a lambda's body, at its maker's slots -/
def tlOf (tb : ET) (σ : SW) : TlT := fun xe G q => tb (fun cls fs _ G1 => xe cls fs G1) σ G q
section
variable {X : Cx} {pins : List (Addr × Obj)} {σ : L2.St} {H : Hp} {s : Shared}
theorem act_w {CXg : CXT} {Eg : XK} {Ng : List Str} {qg : Str} {sg : Scope} {g f c' : Addr} {cdg pm ctv : Value} {params : Arguments} {body : Expr} {scope : Scope} {k i : Nat} {a : Str} {pn : List (Addr × Obj)} {xe : Value → Shared → Prop} {W : WX} {tb : ET} {p1 p2 : Pos} {σw : SW} {q : Str} (eq : X.env.qual ++ "<lambda>" = q)
    (I : Inv X pins σ H s) (rs : RS X.K H σw σ) (L : LamS X.env.scope scope) (hf : s.heap.get? f = some (PySem.W.kla_obj "<lambda>" q params body scope (cloFrom X.env.cells scope.names []) pm c' ctv)) (hfn : H f = none) (hfr : f ∉ frs X.stack) (hco : H c' = some (CodeO c' q))
    (hbind : bindArgs (PySem.W.kla_fn "<lambda>" q params body scope (cloFrom X.env.cells scope.names []) pm (.ref c') ctv) ⟨[], []⟩ = pure [])
    (tk : Takes ((cxOf CXg X.prog X.w X.K X.mg X.base Ng qg sg g cdg X.A X.stack s H Eg).tr pn xe) W) (hr : Rm (k + 1) (X.A.deeper (envOfC qg sg s.heap.objs.size g cdg)))
    (hbody : ∀ (A : Around) (outer : List Env) (s : Shared) (H : Hp) (E : XK), Rm k (A.deeper (lamEnv X scope s.heap.objs.size f c')) → EW (lamCx X A outer s H E scope f c') (WxE E) body tb)
    (hN : Ng[i]? = some a) (hv : Vis sg a) (hd : (a == ("__debug__" : Str)) = false) (hcd : (a == ("__classdict__" : Str)) = false) :
    EW ((cxOf CXg X.prog X.w X.K X.mg X.base Ng qg sg g cdg X.A X.stack s H Eg).tr pn xe) W (.Call (.Name a p1) [] [] p2) (eDeed i f H (tlOf tb σw)) := by
  subst eq
  refine ⟨fun pinsZ sZ σZ HZ Q IZ h => ?_⟩
  obtain ⟨σZw, G, xw, qw, rsZ, rhZ, px, po, hslot, ht⟩ := h
  obtain ⟨v0, hs0, rv0⟩ := rsZ.get hslot
  have tx : TX X.K H HZ := by cases rv0 with | fn z => exact z
  have ev0 : v0 = .ref f := by cases rv0; rfl
  subst ev0
  refine wpAny_Call_Name_kw (thn ((pe_var (pos := p1) (i := i) hN hv hd hcd).run pinsZ sZ σZ HZ (fun v H1 => v = .ref f ∧ H1 = HZ) IZ ⟨.ref f, hs0, rfl, rfl⟩) fun u s1 ⟨v, H1, I1, r1, q1⟩ => ?_)
  obtain ⟨ev, eH⟩ := q1
  subst ev
  rw [eH] at I1
  cases (show u = Value.ref f from r1)
  have of1 := I1.base.keep f _ hf hfn hfr (fun z => nomatch (show f ∈ ([] : List Addr) from z))
  refine PySem.W.callWith_F0 ⟨_, _, _, _, of1⟩ ?_
  have un : Un (frs X.stack) [] H HZ s.heap s1.heap := I1.base
  obtain ⟨⟨oc, vs, t, hoc, hdc, hvc⟩, _, _⟩ := (show ObjOk X.prog X.w HZ s1.heap c' (CodeO c' (X.env.qual ++ "<lambda>")) from I1.hok c' _ (tx c' (CodeO c' (X.env.qual ++ "<lambda>")) (show True from trivial) hco))
  have px2 : PostE X.K HZ (fun cls d H' => W cls d σZ H') (fun cls fs G1 => xw cls fs σZw G1) := fun cls d fs G1 H1 t1 r1 rh1 h1 => px cls d fs σZw G1 σZ H1 t1 r1 (rsZ.mono t1) rh1 h1
  have rc : codeAny (model X.prog X.w) (X.A.deeper (envOfC qg sg s.heap.objs.size g cdg)) (.call (.ref f) ⟨[], []⟩) (CR (L2.CX X.prog X.w) (envOfC qg sg s.heap.objs.size g cdg :: X.stack) X.prog X.w HZ s1 Q (fun cls d H' => W cls d σZ H')) s1 := by
    refine PySem.W.kla_callFunE hr.room.depth of1 rfl L.co L.gen rfl ⟨c', oc, vs, t, rfl, hoc, hdc, hvc⟩ ?_
    rw [hbind]
    refine wpAny_pure (wpAny_newFunctionEnv (fun y hy => (L.own y hy).2) (fun y hy => absurd hy (by simp)) (fun h₁ hns hsb => ⟨I1.nolimit.fresh _ hsb, ?_⟩) L.kind)
    show codeAny _ _ (.expr body (lamEnv X scope s1.heap.objs.size f c')) _ _
    have kp : ∀ b o, s1.heap.get? b = some o → h₁.get? b = some o := fun b o e => hsb.extBut b o (Nat.ne_of_lt (Heap.lt_size e)) (Heap.get?_push_of_some _ e)
    have J := lam_start2 (tk := s1.toks + ([] : List (Str × Value)).length) (E := fun cls d H' => W cls d σZ H') (A := X.A.deeper (envOfC qg sg s.heap.objs.size g cdg)) (outer := envOfC qg sg s.heap.objs.size g cdg :: X.stack) (f := f) (c' := c') I L I1.env0 hr.room.hd un hns kp
    refine PySem.W.kla_codeExpr (wpAny_mono ((hbody _ _ s1 HZ (fun cls d H' => W cls d σZ H') (hr.deeper _)).run [] _ _ HZ Q J ⟨σw, G, _, qw, rs.mono tx, rhZ, fun cls d fs σ1 G1 σ2 H1 t1 r1 rs1 rh1 h1 => px2 cls d fs G1 H1 t1 r1 rh1 h1, po, ht⟩) (fun v s' hq => ?_) fun e s' hq => hq)
    obtain ⟨w', H', J', rv, q⟩ := hq
    exact ⟨w', H', J'.os, J'.bare, J'.base, J'.hok, rv, q⟩
  refine wpAny_call (codeAny_mono rc fun r s' hq => ?_)
  cases r with
  | error e => exact tk e s' (XE.of_call I1 (fun cls d H' z => z) hq)
  | ok fl =>
    cases fl with
    | ret u => exact I1.after hq
    | next => exact hq.elim
    | brk => exact hq.elim
    | cont => exact hq.elim
end

/-- what is known of the deed in the def that got it: for every def's context Z and every wish -/
def ActW (Z : Cx) (p : Addr) (HL : Hp) (a : Str) (tl : TlT) : Prop := ∀ (W : WX) (pn : List (Addr × Obj)) (xe : Value → Shared → Prop) (p1 p2 : Pos), Takes (Z.tr pn xe) W → EW (Z.tr pn xe) W (.Call (.Name a p1) [] [] p2) (eDeed 0 p HL tl)
/-- the promise of a def g(a) that calls a() -/
structure TellW (P : Program) (w : World) (K : PySem.W.Frag) (mg : Str → Option Value) (base : Heap) (k : Nat) (g : Addr) (Ng : List Str) (qg : Str) (sg : Scope) (a : Str) (sp : SpT) : Prop where
  run : ∀ (A : Around) (outer : List Env) (s : Shared) (H : Hp) (f : Addr) (tl : TlT) (G : HW) (q : WK) (x : XE) (Q : VK) (E : XK), Rm (k + 1) A → Env0 P w K mg base A outer s H → RH K G H → Post K H Q q → PostE K H E x → sp tl G q x →
    (∀ cdv : Value, Rm k (A.deeper (envOfC qg sg s.heap.objs.size g cdv)) → ActW (cxOf (L2.CX P w) P w K mg base Ng qg sg g cdv A outer s H E) f H a tl) →
    codeAny (model P w) A (.call (.ref g) ⟨[.ref f], []⟩) (CR (L2.CX P w) outer P w H s Q E) s
section
variable {P : Program} {w : World} {K : PySem.W.Frag} {mg : Str → Option Value} {base : Heap} {k : Nat} {g : Addr} {fd : FuncData} {Ng : List Str} {x qual a : Str} {params : Arguments} {body : List Stmt} {scope : Scope} {sp : SpT} {sel : List Sel}
theorem tellW_of {t : TlT → Addr → Hp → ST} (F : FunD K x qual params body scope [] [] g fd) (hb : BindW K fd [a] 1 [] [.p 0] []) (S : FnScope Ng [a] scope)
    (hbody : ∀ (cdv : Value) (A : Around) (outer : List Env) (s : Shared) (H : Hp) (E : XK) (f : Addr) (tl : TlT), Rm k (A.deeper (envOfC qual scope s.heap.objs.size g cdv)) → ActW (cxOf (L2.CX P w) P w K mg base Ng qual scope g cdv A outer s H E) f H a tl →
      TWs (cxOf (L2.CX P w) P w K mg base Ng qual scope g cdv A outer s H E) (WxE E) body (t tl f H))
    (hsp : ∀ tl f HL G q x, sp tl G q x → t tl f HL (endsW q x) (startW Ng [.fn f HL]) G) : TellW P w K mg base k g Ng qual scope a sp := by
  obtain ⟨oc, od, dV, kV, doc, pm, an, cdv, ct, osl, rfl, lk, hcd, _, _⟩ := F.ex
  refine ⟨fun A outer s H f tl G q xe Q E hr e0 rh po pe h act => ?_⟩
  obtain ⟨dvs, ds, hv, hw, to⟩ := hb.dv
  have b := to s [.ref f] [] (e0.mod.kin.keeps fun b o e => (e0.bs b o e).1) rfl rfl
  refine run_ofS lk hcd S hr.room e0 b (us := [.ref f]) (vs := [.ref f]) (.cons rfl .nil) rfl fun hr2 => ⟨_, hbody cdv A outer s H E f tl ⟨hr2, hr.gd⟩ (act cdv ⟨hr2, hr.gd⟩), ?_⟩
  refine ⟨startW Ng [.fn f H], G, endsW q xe, rs_start (.cons (.fn TX.refl) .nil), rh, { nx := ?_, rt := po, bk := fun _ _ _ _ _ _ _ z => z.elim, ct := fun _ _ _ _ _ _ _ z => z.elim, ex := ?_ }, hsp tl f H G q xe h⟩
  · exact fun σw G' σ H' tx _ rh' hq => po .non G' .non H' tx .non rh' hq
  · exact fun cls d fs σw G' σ H' tx rx _ rh' hq => pe cls d fs G' H' tx rx rh' hq
end
section
variable {X : Cx} {Wx : WX} {k : Nat} {g c P0 : Addr} {Ng : List Str} {x qg a q0 : Str} {sg : Scope} {sp : SpT} {params : Arguments} {body : Expr} {scope : Scope} {p lpos pos : Pos} {tb : ET}
/-- x(lambda: body) -/
def eTell (P0 : Addr) (q0 : Str) (sp : SpT) (tb : ET) : ET := fun x σ G q => G P0 = some (.tab q0) ∧ sp (tlOf tb σ) G q fun cls fs G1 => x cls fs σ G1
theorem z_tell (F : TellW X.prog X.w X.K X.mg X.base (k + 1) g Ng qg sg a sp) (hg : Gl X x) (hm : X.mg x = some (.ref g)) (hk : PySem.W.keepIn X.K (.ref g) = true) (tk : Takes X Wx) (hN : Ng[0]? = some a) (hva : Vis sg a)
    (TB : TabB X.base X.mg c P0) (hcode : X.env.code = .ref c) (eq : X.env.qual ++ "<lambda>" = q0) (hr : Rm (k + 2) X.A) (L : LamS X.env.scope scope) (hdef : defaultsOf params X.env = ([], []))
    (hbind : ∀ (q : Str) (cl : List (Str × Addr)) (pm cv ctv : Value), bindArgs (PySem.W.kla_fn "<lambda>" q params body scope cl pm cv ctv) ⟨[], []⟩ = pure [])
    (hbody : ∀ (A : Around) (outer : List Env) (s : Shared) (H : Hp) (E : XK) (f c' : Addr), Rm k (A.deeper (lamEnv X scope s.heap.objs.size f c')) → EW (lamCx X A outer s H E scope f c') (WxE E) body tb)
    (hdb : (x == ("__debug__" : Str)) = false := by decide) (hd : (a == ("__debug__" : Str)) = false := by decide) (hcd : (a == ("__classdict__" : Str)) = false := by decide) :
    EW X Wx (.Call (.Name x p) [.Lambda params body scope lpos] [] pos) (eTell P0 q0 sp tb) := by
  refine ⟨fun pins s σ H Q I h => ?_⟩
  obtain ⟨σw, G, xw, q, rs, rh, px, po, hP, h⟩ := h
  refine wpAny_Call_Name_kw (ld_glob I hg hm ?_ hdb)
  refine PySem.W.callWith_K (h₀ := X.base) I.ok.mod.kin hk ?_ (by rfl) (by rfl)
  show wpAny _ _ (spliced ((false, eval (.Lambda params body scope lpos) X.env) :: backTo pos (starEach [] X.env))) _ _ s
  obtain ⟨u, hu, ps, rfl, ht, ha⟩ := rh P0 _ hP
  refine Calls.spliced_cons (lam_made eq I TB hcode hu ht ha hdef (L.has I.ok) fun f c' pm ctv H1 s1 I1 k1 t1 hf hfn hfr hco => Calls.spliced_nil ⟨I1.kIn, ?_⟩)
  have tx : TX X.K H H1 := fun b o st e => k1 b o (fun z => by
    rw [z, hu] at e
    cases e
    exact st) e
  have rh1 : RH X.K G H1 := fun b o e => by
    by_cases hb : b = P0
    · rw [hb, hP] at e
      cases e
      rw [hb]
      exact t1
    · obtain ⟨u, e1, r1⟩ := rh b o e
      exact ⟨u, k1 b u hb e1, r1.mono tx⟩
  have rc : codeAny (model X.prog X.w) X.A (.call (.ref g) ⟨[.ref f], []⟩) (CR (L2.CX X.prog X.w) X.stack X.prog X.w H1 s1 Q (fun cls d H' => Wx cls d σ H')) s1 := by
    refine F.run X.A X.stack s1 H1 f (tlOf tb σw) G q (fun cls fs G1 => xw cls fs σw G1) Q _ hr I1.env0 rh1 (po.mono tx) (fun cls d fs G2 H2 t2 r2 rh2 h2 => px cls d fs σw G2 σ H2 (tx.trans t2) r2 (rs.mono (tx.trans t2)) rh2 h2) h fun cdv hr2 W pn xe p1 p2 tkZ => ?_
    exact act_w eq I1 (rs.mono tx) L hf hfn hfr hco (hbind _ _ _ _ _) tkZ hr2 (fun A outer s H E hr3 => hbody A outer s H E f c' hr3) hN hva hd hcd
  refine wpAny_call (codeAny_mono rc fun r s2 hq => ?_)
  cases r with
  | error e => exact tk e s2 (XE.of_call I1 (fun cls d H' z => z) hq)
  | ok fl =>
    cases fl with
    | ret u => exact I1.after hq
    | next => exact hq.elim
    | brk => exact hq.elim
    | cont => exact hq.elim
end
end LF

/-! LF12: chains, displays of named fields, long repetitions -/
namespace LF
open PySem PySem.Spec PyProof.Rows L2
section
variable {X : Cx} {Wx : WX} {pos : Pos} {a b c : Expr} {ta tb tc : ET} {op op' : CmpOp} {r r' : RWop}
theorem z_chain (ho : OW X (compareOp op) r) (ho' : OW X (compareOp op') r') (ha : EW X Wx a ta) (hb : EW X Wx b tb) (hc : EW X Wx c tc) (hm : lastMarks [op, op'] [b, c] = false := by with_unfolding_all rfl) : EW X Wx (.Compare a [op, op'] [b, c] pos) (eChain r r' ta tb tc) := pe_imp (pe_chain ho ho' ha hb hc hm) emb_chain
def qChain (r r' : RWop) (ta tb tc : ET) : QT := fun x σ G q => eChain r r' ta tb tc x σ G fun w G1 => match w with
  | .bl k => q k G1
  | _ => False
theorem z_qchain (ho : OW X (compareOp op) r) (ho' : OW X (compareOp op') r') (ha : EW X Wx a ta) (hb : EW X Wx b tb) (hc : EW X Wx c tc) (hm : lastMarks [op, op'] [b, c] = false := by with_unfolding_all rfl) : QW X Wx (.Compare a [op, op'] [b, c] pos) (qChain r r' ta tb tc) :=
  pt_imp (pt_chain ho ho' ha hb hc hm) fun σ H Q ⟨σw, G, x, q, rs, rh, px, po, h⟩ => emb_chain σ H _ ⟨σw, G, x, _, rs, rh, px, (fun w G3 v H3 t3 r3 rh3 h3 => by
    cases w <;> try exact h3.elim
    cases r3
    exact ⟨_, rfl, po _ _ _ t3 rh3 h3⟩), h⟩
/-! ### {"k": v, ..} -/
def mergeW (kvs : List (Key × Wv)) (more : List (Key × Wv)) : List (Key × Wv) := more.foldl (fun acc kv => pkW acc kv.1 kv.2) kvs
theorem RKs.merge {K : PySem.W.Frag} {H : Hp} {more : List (Key × Wv)} {ms : List (Key × V)} (r : RKs K H more ms) : ∀ {kvs : List (Key × Wv)} {vs : List (Key × V)}, RKs K H kvs vs → RKs K H (mergeW kvs more) (mergeK vs ms) := by
  induction r with
  | nil => exact fun q => q
  | @cons p p' ps ps' h t ih =>
    intro kvs vs q
    have e := q.put p.1 h.2
    rw [h.1] at e
    have z := ih e
    show RKs K H (mergeW (pkW kvs p.1 p.2) ps) _
    rw [h.1]
    exact z
/-- the pairs, keys texts -/
def ePairs : List (Str × ET) → XW → SW → HW → (List (Key × Wv) → HW → Prop) → Prop
  | [], _, _, G, q => q [] G
  | p :: r, x, σ, G, q => p.2 x σ G fun w G1 => ePairs r x σ G1 fun ws G2 => q ((.inr p.1, w) :: ws) G2
def eDisp (ks : List (Str × ET)) : ET := fun x σ G q => ∀ p, G p = none → ePairs ks x σ (updO G p (.dct [])) fun ws G2 => G2 p = some (.dct []) ∧ q (.ref p) (updO G2 p (.dct (mergeW [] ws)))
abbrev embPr (K : PySem.W.Frag) (Wx : WX) (ks : List (Str × ET)) : List (TE × TE) := ks.map fun p => (emb K Wx (eC (.str p.1)), emb K Wx p.2)
/-- pairs -/
def PpW (X : Cx) (Wx : WX) (pos : Pos) (keys : List (Option Expr)) (values : List Expr) (ks : List (Str × ET)) : Prop := PPs X pos keys values (embPr X.K Wx ks)
theorem zp_nil : PpW X Wx pos [] [] [] := pps_nil
theorem zp_cons {k : Str} {j : Nat} {p1 : Pos} {v : Expr} {tv : ET} {ks : List (Option Expr)} {vs : List Expr} {r : List (Str × ET)} (hv : EW X Wx v tv) (hr : PpW X Wx pos ks vs r) : PpW X Wx pos (some (.Constant (.str k) j p1) :: ks) (v :: vs) ((k, tv) :: r) := pps_cons (tk := emb X.K Wx (eC (.str k))) z_str hv hr
theorem emb_pairs {K : PySem.W.Frag} : ∀ {ks : List (Str × ET)} {σ : L2.St} {H : Hp} {Q : List (V × V) → Hp → Prop} {σw : SW} {G : HW} {x : XW} {q : List (Key × Wv) → HW → Prop}, RS K H σw σ → RH K G H → PostX K H Wx x → (∀ ws G' kvs H', TX K H H' → RKs K H' ws kvs → RH K G' H' → ws.length = ks.length → q ws G' → Q (kvs.map fun kv => (kV kv.1, kv.2)) H') →
    ePairs ks x σw G q → tPairs (embPr K Wx ks) σ H Q
  | [], σ, H, Q, σw, G, x, q, rs, rh, px, hq, h => hq [] G [] H TX.refl .nil rh rfl h
  | p :: r, σ, H, Q, σw, G, x, q, rs, rh, px, hq, h => by
    refine ⟨σw, G, x, _, rs, rh, px, fun w0 G0 v0 H0 t0 r0 rh0 h0 => ?_, show eC (.str p.1) x σw G (fun w G' => w = .str p.1 ∧ G' = G) from ⟨rfl, rfl⟩⟩
    obtain ⟨rfl, rfl⟩ := h0
    cases r0
    refine ⟨σw, G0, x, _, rs.mono t0, rh0, px.mono t0, fun w1 G1 v1 H1 t1 r1 rh1 h1 => ?_, h⟩
    refine emb_pairs (rs.mono (t0.trans t1)) rh1 (px.mono (t0.trans t1)) (fun ws G' kvs H' t2 rk rh2 hl h2 => ?_) h1
    exact hq ((.inr p.1, w1) :: ws) G' ((.inr p.1, v1) :: kvs) H' ((t0.trans t1).trans t2) (.cons ⟨rfl, r1.mono t2⟩ rk) rh2 (congrArg (· + 1) hl) h2
theorem z_disp {keys : List (Option Expr)} {values : List Expr} {ks : List (Str × ET)} (h : PpW X Wx pos keys values ks) (hall : keys.all (·.isSome) = true := by rfl) (hl : keys.length = values.length := by rfl) (h0 : keys ≠ [] := by exact fun z => nomatch z) (h15 : keys.length ≤ 15 := by exact Nat.le_of_ble_eq_true rfl) (hk : ks.length ≤ 15 := by exact Nat.le_of_ble_eq_true rfl) :
    EW X Wx (.Dict keys values pos) (eDisp ks) := pe_imp (pe_disp h hall hl h0 h15) fun σ H Q ⟨σw, G, x, q, rs, rh, px, po, h⟩ p hp => by
  have tn : TX X.K H (upd H p (.dK [])) := TX.new hp
  refine emb_pairs (rs.mono tn) (rh.newD hp .nil) (px.mono tn) (fun ws G' kvs H' t1 rk rh1 hl2 h1 => ?_) (h p (rh.fresh hp))
  obtain ⟨e, hq⟩ := h1
  obtain ⟨vs, f, r0⟩ := rh1.dct e
  cases r0
  exact ⟨f, kvs, rfl, by rw [rk.len, hl2]; exact hk, po _ _ _ _ ((tn.trans t1).trans (TX.put f noTup_dK)) (.ref p) (rh1.putD f (rk.merge .nil)) hq⟩
end

/-! ### long repetitions -/
def repS (x : Str) (n : Nat) : Str := ⟨(List.replicate n x.cps).foldl (· ++ ·) #[]⟩
section
variable {X : Cx}
/-- (c,) * n, x * n with n large -/
def wRepL : RWop := fun a b G q => match a, b with
  | .tup [w], .int k => 2 ≤ k ∧ k ≤ 1000000 ∧ q (.tup (List.replicate k.toNat w)) G
  | .str z, .int k => 2 ≤ k ∧ k ≤ 1000000 ∧ z.length = 1 ∧ (repS z k.toNat).length ≤ 1000000 ∧ q (.str (repS z k.toNat)) G
  | _, _ => False
theorem w_repL : OW X (binaryOp .Mult) wRepL := by
  rintro pins s σ H x y v u Q I rx ry ⟨w1, w2, G, q, r1, r2, rh, po, h⟩
  unfold wRepL at h
  split at h
  · rename_i w k
    obtain ⟨h1, h2, hq⟩ := h
    cases r2
    cases r1 with
    | @tup l xs _ ht s1 =>
      cases s1 with
      | @cons _ v0 _ _ r0 rn =>
        cases rn
        cases rx
        obtain ⟨t, rfl⟩ := ry
        obtain ⟨its, rI, ⟨⟨cls, dd, data, sl⟩, ho, hc, n, hd⟩, hs⟩ := I.tuple (SqT.of ht)
        simp only at hc hd
        subst hc hd
        obtain ⟨i0, rfl⟩ : ∃ i0, its = [i0] := by
          cases rI with
          | cons a b => cases b; exact ⟨_, rfl⟩
        have c0 : (decide (k < -(2 ^ 63)) || decide (k ≥ 2 ^ 63)) = false := by
          rw [decide_eq_false (show ¬ k < -(2 ^ 63) from by omega), decide_eq_false (show ¬ k ≥ 2 ^ 63 from by omega)] <;> rfl
        have c1 : (([i0] : List Value).toArray.isEmpty || k == 1) = false := by
          show (false || k == 1) = false
          rw [Bool.false_or]
          exact beq_eq_false_iff_ne.mpr (by omega)
        have c2 : (decide (k ≤ 0) || ([i0] : List Value).toArray.isEmpty) = false := by
          show (decide (k ≤ 0) || false) = false
          rw [Bool.or_false]; exact decide_eq_false (by omega)
        have sz : ((([i0] : List Value).toArray.size : Nat) : Int) * k = k := by show ((1 : Nat) : Int) * k = k; omega
        have c4 : Builtin.Tuple.tupleTooMany (((([i0] : List Value).toArray.size : Nat) : Int) * k) = false := by
          rw [sz]; unfold Builtin.Tuple.tupleTooMany; rw [sizeLine_eq]; exact decide_eq_false (by omega)
        have flat : ∀ {α : Type} (a : α) (m : Nat), (List.replicate m [a]).flatten = List.replicate m a := fun a m => by
          induction m with
          | zero => rfl
          | succ m ih => rw [List.replicate_succ, List.flatten_cons, ih, List.replicate_succ]; rfl
        have zz : k.toNat ≤ sizeLine := by rw [sizeLine_eq]; omega
        refine wpAny_binaryOp_repeat_ref (T := "tuple") (U := "int") (by decide) ⟨_, ho, rfl⟩ (fun s' => typeIs_int s' k t) noFill_tuple_mul F.fills_int_mul F.slot_int_rmul repeat_tuple F.slot_int_index.lookup
          (call_meets F.slot_int_rmul (typeIs_int s k t) F.entry_int_rmul (F.args_int_rmul_2 _ _) (int_rmul_tuple k t l ([i0] : List Value).toArray n dd sl)
            ⟨ho, rfl, ⟨_, ho, rfl⟩, call_meets F.slot_tuple_mul ⟨_, ho, rfl⟩ F.entry_tuple_mul (F.args_tuple_mul_2 _ _) (tuple_mulW l ([i0] : List Value).toArray n dd sl k t c0 c1 c2 (by rw [sz]; omega) c4 (by rw [size_rep, List.size_toArray, flat, List.length_replicate]; exact zz)) ⟨ho, ?_⟩⟩)
        rw [size_rep, flat]
        have fr : H s.heap.objs.size = none := I.hok.fresh (Nat.le_refl _)
        have vr : ∀ m : Nat, Vals (List.replicate m v0) (List.replicate m i0) := fun m => by
          induction m with
          | zero => exact .nil
          | succ m ih => rw [List.replicate_succ, List.replicate_succ]; exact .cons (by cases rI with | cons a b => exact a) ih
        refine ⟨.ref s.heap.objs.size, _, I.laid (t' := s.toks) (o := .tup (List.replicate k.toNat v0)) (fun b ob q => Heap.get?_push_of_some _ q) (Nat.le_refl _) ⟨by rw [List.length_replicate]; exact zz, _, vr _, IsTup.new _ _⟩, rfl, ?_⟩
        have tn : TX X.K H (upd H s.heap.objs.size (.tup (List.replicate k.toNat v0))) := TX.new fr
        have wr : ∀ m : Nat, RWs X.K (upd H s.heap.objs.size (.tup (List.replicate k.toNat v0))) (List.replicate m w) (List.replicate m v0) := fun m => by
          induction m with
          | zero => exact .nil
          | succ m ih => rw [List.replicate_succ, List.replicate_succ]; exact .cons (r0.mono tn) ih
        exact po _ _ _ _ tn (.tup upd_same (wr _)) (rh.kept fr) hq
  · rename_i z k
    obtain ⟨h1, h2, hz, hl, hq⟩ := h
    cases r1; cases r2
    obtain ⟨t1, rfl⟩ := rx
    obtain ⟨t2, rfl⟩ := ry
    have n1 : ¬ k < 1 := by omega
    have e1 : (k == 1 || z.length == 0) = false := by rw [hz, show (k == 1) = false from beq_eq_false_iff_ne.mpr (by omega)]; rfl
    refine PySem.P.mul_str (by rw [decide_eq_false (show ¬ k < -(2 ^ 63) from by omega), decide_eq_false (show ¬ k ≥ 2 ^ 63 from by omega)]; rfl) (fun _ _ => ?_) (fun _ _ => ?_) ?_
    · rw [hz]
      have : (1 : Int) ≤ (2 ^ 63 - 1) / k := Int.le_ediv_of_mul_le (by omega) (by omega)
      show ¬ ((1 : Nat) : Int) > (2 ^ 63 - 1) / k
      omega
    · rw [hz]
      unfold Builtin.Str.tooLong
      rw [sizeLine_eq]
      exact decide_eq_false (by omega)
    · rw [if_neg n1, e1, if_neg Bool.false_ne_true]
      exact ⟨Nat.le_trans hl (by rw [sizeLine_eq]; omega), ⟨V.str (repS z k.toNat), H, I.tok _, ⟨_, rfl⟩, po _ _ _ _ TX.refl (.str _) rh hq⟩⟩
  · exact h.elim
end
end LF

/-! LF13: the end of a law -/
namespace LF
open PySem PySem.Spec PyProof.Rows L2
theorem tkN {X : Cx} : Takes X W0 := fun _ _ ⟨_, _, _, _, _, _, _, _, _, _, _, _, _, _, _, _, z⟩ => z.elim
abbrev oLt : RWop := wI0 fun i j => .bl (decide (i < j))
abbrev oLe : RWop := wI0 fun i j => .bl (decide (i ≤ j))
abbrev oGt : RWop := wI0 fun i j => .bl (decide (j < i))
abbrev oGe : RWop := wI0 fun i j => .bl (decide (j ≤ i))
abbrev oSub : RWop := wI0 fun i j => .int (i - j)
abbrev oMod : RWop := wI (fun _ j => 0 < j) fun i j => .int (i % j)
abbrev oDiv : RWop := wI CDiv fun i j => .int (i / j)
abbrev oPow : RWop := wI CPow fun i j => .int (i ^ j.toNat)
abbrev oShl : RWop := wI CPow fun i j => .int (i * 2 ^ j.toNat)
section
variable {P : Program} {w : World} {K : PySem.W.Frag} {mg : Str → Option Value} {base : Heap} {k : Nat} {f : Addr} {fd : FuncData} {ps : List Str} {sp : SpW}
variable {x qual : Str} {params : Arguments} {body : List Stmt} {scope : Scope} {dvs : List V} {kws : List (Str × V)}
/-- a def by its body, its code object known: it makes lambdas -/
theorem fnW_ofL {N : List Str} {t : ST} {c : Addr} (F : FunD K x qual params body scope dvs kws f fd) (hcode : fd.code = .ref c) (S : FnScope N ps scope) (len : ∀ ws G q x, sp ws G q x → ws.length = ps.length)
    (hbody : ∀ (A : Around) (outer : List Env) (s : Shared) (H : Hp) (E : XK), Rm k (A.deeper (envOfC qual scope s.heap.objs.size f (.ref c))) → TWs (cxOf (L2.CX P w) P w K mg base N qual scope f (.ref c) A outer s H E) (WxE E) body t)
    (hsp : ∀ ws G q x, sp ws G q x → t (endsW q x) (startW N ws) G) : FnW P w K mg base (k + 1) f fd ps sp := by
  obtain ⟨oc, od, dV, kV, doc, pm, an, cdv, ct, osl, rfl, lk, hcd, _, _⟩ := F.ex
  cases (show cdv = .ref c from hcode)
  refine ⟨len, fun A outer s H args us vs Q E hr e0 hb r h => ?_⟩
  obtain ⟨ws, G, q, xe, rw', rh, po, pe, h⟩ := h
  have hl : vs.length = ps.length := by rw [rw'.len]; exact len _ _ _ _ h
  exact LamX.run_ofS lk hcd S hr.room e0 hb r hl fun hr2 => ⟨_, hbody A outer s H E ⟨hr2, hr.gd⟩, startW N ws, G, endsW q xe, rs_start rw', rh,
    { nx := fun σw G' σ H' tx _ rh' hq => po .non G' .non H' tx .non rh' hq, rt := po, bk := fun _ _ _ _ _ _ _ z => z.elim, ct := fun _ _ _ _ _ _ _ z => z.elim, ex := fun cls d fs σw G' σ H' tx rx _ rh' hq => pe cls d fs G' H' tx rx rh' hq }, hsp ws G q xe h⟩
end

/-! ### the law called -/
/-- the tables of code objects: code object, table, the name of what is made -/
abbrev Tb := Addr × Addr × Str
/-- what is tracked at first: the script, unless the written part knows it; the tables -/
def H0 (K : PySem.W.Frag) (tb : List Tb) (a : Addr) (o : Obj) (ns : List Int) : Hp := fun b => if b = a ∧ K.lookup a = none then some (.frz o (.lst (ns.map V.int))) else if (tb.any fun p => p.2.1 == b) = true then some (.tbl #[]) else none
def G0 (tb : List Tb) : HW := fun b => match tb.find? fun p => p.2.1 == b with
  | some p => some (.tab p.2.2)
  | none => none
section
variable {K : PySem.W.Frag} {tb : List Tb} {a : Addr} {o : Obj} {ns : List Int}
theorem h0_cases {b : Addr} {u : HO} (h : H0 K tb a o ns b = some u) : (b = a ∧ K.lookup a = none ∧ u = .frz o (.lst (ns.map V.int))) ∨ ((∃ p ∈ tb, p.2.1 = b) ∧ u = .tbl #[]) := by
  unfold H0 at h
  split at h
  · rename_i z; exact .inl ⟨z.1, z.2, (Option.some.inj h).symm⟩
  · split at h
    · rename_i z
      obtain ⟨p, hp, e⟩ := List.any_eq_true.mp z
      exact .inr ⟨⟨p, hp, beq_iff_eq.mp e⟩, (Option.some.inj h).symm⟩
    · cases h
theorem h0_tab {p : Tb} (hp : p ∈ tb) (ne : p.2.1 ≠ a) : H0 K tb a o ns p.2.1 = some (.tbl #[]) := by
  unfold H0
  rw [if_neg (fun z => ne z.1), if_pos (List.any_eq_true (p := fun q : Tb => q.2.1 == p.2.1).mpr ⟨p, hp, beq_self_eq_true _⟩)]
theorem g0_at {b : Addr} {u : O} (h : G0 tb b = some u) : ∃ p ∈ tb, p.2.1 = b ∧ u = .tab p.2.2 := by
  unfold G0 at h
  split at h
  · rename_i p e
    exact ⟨p, List.mem_of_find?_eq_some e, by simpa using List.find?_some e, (Option.some.inj h).symm⟩
  · cases h
end
theorem law_run {P : Program} {w : World} {K : PySem.W.Frag} {mg mb : Str → Option Value} {k : Nat} {fa a : Addr} {tb : List Tb} {fd : FuncData} {x : Str} {sp : SpW} {s₁ : Shared} {vs : List Value} {ns : List Int}
    (KX : K.In s₁.heap) (hns : s₁.heap.Ns mainGlobals mg) (hb : s₁.heap.Ns builtinsNs mb) (hbb : ∀ x : Str, x ≠ "__name__" → mb x = bootBuiltins x) (hlim : s₁.heap.NoLimit) (hg : s₁.gens = #[])
    (hT : ∀ p ∈ tb, s₁.heap.get? p.2.1 = some { cls := .none, data := .fields #[] }) (nT : ∀ p ∈ tb, K.lookup p.2.1 = none) (hC : ∀ p ∈ tb, PySem.W.CodeHd s₁.heap p.1 p.2.1)
    (hbm : ∃ (bm : Addr) (ob : Obj), mg "__builtins__" = some (.ref bm) ∧ bm ≠ builtinsNs ∧ s₁.heap.get? bm = some ob ∧ ob.cls = .type "module" ∧ ob.dict = some builtinsNs ∧ ob.data = .plain)
    (ha : s₁.heap.get? a = some { cls := .type "list", data := .seq vs.toArray }) (hi : IntsAre vs ns) (hl : ns.length ≤ sizeLine) (hr : Rm k callerA)
    (F : ∀ base : Heap, K.In base → base.Ns mainGlobals mg → (∀ p ∈ tb, LamX.TabB base mg p.1 p.2.1) → FnW P w K mg base k fa fd [x] sp) (hbind : ∀ (s : Shared) (u : Value), BindsTo s fd ⟨[u], []⟩ [(x, u)])
    (hsp : sp [.kls (ns.map Wv.int)] (G0 tb) (fun v _ => v = .bl true) fun _ _ _ => False) :
    codeAny (model P w) callerA (.call (.ref fa) ⟨[.ref a], []⟩) (fun r s' => r = .ok (.ret (.bool true)) ∧ OldK s₁.heap s'.heap ∧ s'.os = s₁.os ∧ AllBare s'.gens) s₁ := by
  have lenV := hi.length
  have neT : ∀ p ∈ tb, p.2.1 ≠ a := fun p hp z => by
    have q := hT p hp
    rw [z, ha] at q
    have z' : Data.seq vs.toArray _ = Data.fields #[] := congrArg Obj.data (Option.some.inj q)
    cases z'
  generalize hH : H0 K tb a { cls := .type "list", data := .seq vs.toArray } ns = H
  have hc : ∀ {b : Addr} {u : HO}, H b = some u → _ := fun {b u} h => h0_cases (by rw [hH]; exact h)
  have hTab : ∀ p ∈ tb, H p.2.1 = some (.tbl #[]) := fun p hp => by rw [← hH]; exact h0_tab hp (neT p hp)
  -- what is not tracked
  have un : ∀ {b : Addr} {ob : Obj}, s₁.heap.get? b = some ob → ob.data ≠ .seq vs.toArray → ob.data ≠ .fields #[] → H b = none := fun {b ob} e h1 h2 => by
    cases q : H b with
    | none => rfl
    | some u =>
      rcases hc q with ⟨rfl, _, _⟩ | ⟨⟨p, hp, rfl⟩, _⟩
      · rw [ha] at e; cases e; exact absurd rfl h1
      · rw [hT p hp] at e; cases e; exact absurd rfl h2
  have unD : ∀ {b : Addr} {ob : Obj} {es : Array DictEntry} {ep : Nat}, s₁.heap.get? b = some ob → ob.data = .dict es ep → H b = none := fun {b ob es ep} e d => un e (fun z => by rw [d] at z; cases z) fun z => by rw [d] at z; cases z
  have nsB : ∀ {b : Addr} {m : Str → Option Value}, s₁.heap.Ns b m → (hidT s₁.heap H).Ns b m := fun {b m} ⟨o, es, ep, e, d, r⟩ => ⟨o, es, ep, hidT_get e (unD e d), d, r⟩
  have kB : K.In (hidT s₁.heap H) := fun b ob e => hidT_get (KX b ob e) (by
    cases q : H b with
    | none => rfl
    | some u =>
      rcases hc q with ⟨rfl, n, _⟩ | ⟨⟨p, hp, rfl⟩, _⟩
      · rw [n] at e; cases e
      · rw [nT p hp] at e; cases e)
  have MB : L2.Mod K mg (hidT s₁.heap H) := ⟨kB, nsB hns, ⟨mb, nsB hb, hbb⟩, let ⟨mc, h1, h2⟩ := hlim; ⟨mc, nsB h1, h2⟩⟩
  have TB : ∀ p ∈ tb, LamX.TabB (hidT s₁.heap H) mg p.1 p.2.1 := fun p hp => by
    have tp := hT p hp
    refine ⟨?_, ?_, fun z => ?_⟩
    · obtain ⟨ob, us, file, tf, flags, tg, inF, text, tt, e1, r1, r2, r3, rr⟩ := hC p hp
      exact ⟨ob, us, file, tf, flags, tg, inF, text, tt, hidT_get e1 (un e1 (fun z => by rw [r2] at z; cases z) fun z => by rw [r2] at z; cases z; simp at r3), r1, r2, r3, rr⟩
    · obtain ⟨bm, ob, b1, b2, b3, b4, b5, b6⟩ := hbm
      refine ⟨bm, ob, b1, b2, fun q => ?_, fun q => ?_, hidT_get b3 (un b3 (fun z => by rw [b6] at z; cases z) fun z => by rw [b6] at z; cases z), b4, b5, b6⟩
      · obtain ⟨o', es, ep, e, hd, _⟩ := hns
        rw [q, e] at b3; cases b3; rw [hd] at b6; cases b6
      · rw [q, tp] at b3; cases b3; cases b6
    · obtain ⟨o', es, ep, e, hd, _⟩ := hns
      rw [z, tp] at e; cases e; cases hd
  have okH : HOk P w H s₁.heap := fun b u q => by
    rcases hc q with ⟨rfl, n, rfl⟩ | ⟨⟨p, hp, rfl⟩, rfl⟩
    · exact ⟨ha, by rw [List.length_map]; exact hl, vs, _, vals_ints hi, ha⟩
    · exact hT p hp
  have sF : SqF K H a (ns.map V.int) := by
    cases hk : K.lookup a with
    | none => exact .inl ⟨{ cls := .type "list", data := .seq vs.toArray }, by rw [← hH]; unfold H0; rw [if_pos ⟨rfl, hk⟩]⟩
    | some ob =>
      have e := KX a ob hk
      rw [ha] at e; cases e
      exact .inr ⟨_, vs.toArray, _, hk, rfl, rfl, rfl, by rw [List.size_toArray, lenV]; exact hl, by simpa using vals_ints hi⟩
  have rh : RH K (G0 tb) H := fun b u e => by
    obtain ⟨p, hp, rfl, rfl⟩ := g0_at e
    refine ⟨_, hTab p hp, #[], rfl, trivial, fun pos cv z => ?_⟩
    have z' : codeAmong pos [] = some cv := z
    simp [codeAmong] at z'
  have E0 : Env0 P w K mg (hidT s₁.heap H) callerA [] s₁ H := ⟨rfl, MB, fun b o e => of_hidT e, Nat.le_of_eq (hidT_size _ _), trivial, fun b hb => absurd (show b ∈ ([] : List Addr) from hb) (by simp), okH, .of_eq hg⟩
  refine codeAny_mono ((F _ kB (nsB hns) TB).run callerA [] s₁ H ⟨[.ref a], []⟩ [.ref a] [.ref a] (fun v _ => v = .bl true) (fun _ _ _ => False) hr E0 (hbind s₁ (.ref a)) (.cons rfl .nil)
    ⟨[.kls (ns.map Wv.int)], G0 tb, _, _, .cons (.kls sF (RWs.ofInts ns)) .nil, rh, fun v G u H' _ r1 _ e => by subst e; cases r1; rfl, fun _ _ _ _ _ _ _ _ z => z.elim, hsp⟩) fun r s' h => ?_
  cases r with
  | error e =>
    obtain ⟨_, _, _, _, _, _, _, _, _, _, _, _, z⟩ := h
    exact z.elim
  | ok fl =>
  cases fl with
  | next => exact h.elim
  | brk => exact h.elim
  | cont => exact h.elim
  | ret u =>
    obtain ⟨v, H', os, bare, un2, ok2, r', q⟩ := h
    cases (show v = .bl true from q)
    cases (show u = Value.bool true from r')
    have key : ∀ b ob, (∀ p ∈ tb, p.2.1 ≠ b) → s₁.heap.get? b = some ob → s'.heap.get? b = some ob := fun b ob nb e => by
      cases q : H b with
      | none => exact un2.keep b ob e q (fun z => absurd (show b ∈ ([] : List Addr) from z) (by simp)) (by simp)
      | some u =>
        rcases hc q with ⟨rfl, n, rfl⟩ | ⟨⟨p, hp, rfl⟩, _⟩
        · obtain ⟨e2, _⟩ := ok2 _ _ (un2.frzs _ _ _ q)
          rw [ha] at e; cases e; exact e2
        · exact absurd rfl (nb p hp)
    have more : ∀ p ∈ tb, ∃ ps : Array Value, s'.heap.get? p.2.1 = some { cls := .none, data := .fields ps } := fun p hp => by
      obtain ⟨ps, z⟩ := un2.tbls p.2.1 #[] (hTab p hp)
      exact ⟨_, ok2 p.2.1 _ z⟩
    have old : ∀ b ob, s₁.heap.get? b = some ob → (s'.heap.get? b = some ob) ∨ ∃ p ∈ tb, p.2.1 = b := fun b ob e => by
      by_cases hb : ∃ p ∈ tb, p.2.1 = b
      · exact .inr hb
      · exact .inl (key b ob (fun p hp z => hb ⟨p, hp, z⟩) e)
    refine ⟨rfl, ⟨fun b ob e => ?_, fun b ob e => ?_⟩, os, bare⟩
    · rcases old b ob e with z | ⟨p, hp, rfl⟩
      · exact .inl z
      · obtain ⟨ps, hm⟩ := more p hp
        rw [hT p hp] at e
        cases e
        exact .inr (.inl ⟨((hC p hp).tab (hT p hp)).isCodeTable, rfl, #[], ps, rfl, by rw [Array.empty_append]; exact hm⟩)
    · rcases old b ob e with z | ⟨p, hp, rfl⟩
      · exact ⟨_, z⟩
      · obtain ⟨ps, hm⟩ := more p hp
        exact ⟨_, hm⟩

/-- what is known of the law -/
structure LawW (l : PySem.W.OpenLaw) (q : Program) (w : World) (K : PySem.W.Frag) (k n : Nat) (x : Str) (mg : Str → Option Value) (fa : Addr) where
  fd : FuncData
  tb : List Tb
  sp : SpW
  tab : ∀ p ∈ tb, ∃ y : Str, ((recsOf q).find? fun e => e.name == y).isSome = true ∧ PySem.W.tabIn K y = some (p.1, p.2.1)
  none : ∀ p ∈ tb, K.lookup p.2.1 = Option.none
  bind : ∀ (s : Shared) (u : Value), BindsTo s fd ⟨[u], []⟩ [(x, u)]
  ok : ∀ ns : List Int, ns.length ≤ n → (∀ z ∈ ns, Builtin.Int.intBits z ≤ 1048576) → sp [.kls (ns.map Wv.int)] (G0 tb) (fun v _ => v = .bl true) fun _ _ _ => False
  run : ∀ base : Heap, K.In base → base.Ns mainGlobals mg → (∀ p ∈ tb, LamX.TabB base mg p.1 p.2.1) → FnW l.prog w K mg base k fa fd [x] sp
theorem walk_w {l : PySem.W.OpenLaw} {n k : Nat} {q : Program} {loose : List Str} {XP : (Str → Option Value) → Heap → Prop} {YP : World → Heap → Prop} {d : DefRec} {K : Params → PySem.W.Frag} {x : Str}
    (hn : l.most = some n) (hn2 : n ≤ sizeLine) (hdf : d.params.defaults = []) (hr : Room k callerA) (hY : ∀ (w : World) (h : Heap), YP w h → (K w.params).In h)
    (F : ∀ (w : World) (mg : Str → Option Value) (fa : Addr) (h : Heap), (K w.params).In h → h.Ns mainGlobals mg → mg d.name = some (.ref fa) → Nonempty (LawW l q w (K w.params) k n x mg fa)) :
    PySem.W.WalkO q loose XP YP l.row.toRowW d [] (fun f vs => PySem.call f vs) := by
  refine Att.attach_callB hn hdf fun w s₀ s₁ mg mb fa o pm cd doc a vs ns G Y ho hd hcd hmg hobj hints hlen hbits hg => ?_
  have KX := hY w _ Y
  obtain ⟨L⟩ := F w mg fa _ KX G.T.g hmg
  have tabs : ∀ p ∈ L.tb, PySem.W.CodeHd s₁.heap p.1 p.2.1 ∧ s₁.heap.get? p.2.1 = some { cls := .none, data := .fields #[] } := fun p hp => by
    obtain ⟨y, h1, h2⟩ := L.tab p hp
    obtain ⟨d', h3⟩ := Option.isSome_iff_exists.mp h1
    exact PySem.W.tab_of G.T KX h3 h2
  exact law_run KX G.T.g G.T.b G.T.builtins G.T.nolimit hg (fun p hp => (tabs p hp).2) L.none (fun p hp => (tabs p hp).1) G.T.bmain hobj hints (Nat.le_trans hlen hn2) ⟨hr, rfl⟩ L.run L.bind (L.ok ns hlen hbits)
/-- a def's code object and its table, by what is written -/
theorem tabIn_mk {K : PySem.W.Frag} {x : Str} {f c P : Addr} {oc o2 : Value} {od d2 : Option Addr} {fd : FuncData} {sl s2 : Array (Option Value)} {vs : Array Value} (a : PySem.W.nsIn K mainGlobals x = some (some (.ref f))) (l : K.lookup f = some ⟨oc, od, .func fd, sl⟩) (e : fd.code = .ref c)
    (lc : K.lookup c = some ⟨o2, d2, .fields vs, s2⟩) (v : vs[11]? = some (.ref P)) : PySem.W.tabIn K x = some (c, P) := by
  unfold PySem.W.tabIn
  rw [a]
  dsimp only
  rw [l]
  dsimp only
  rw [e]
  dsimp only
  rw [lc]
  dsimp only
  rw [v]
end LF

/-! LF14: readings run step by step; what is behind is named, so that nothing is run ahead of its turn -/
namespace LF
open PySem PySem.Spec PyProof.Rows L2
section
variable {ta tb tc t u : ET} {tl tk : AT} {A B : QT} {x : XW} {σ : SW} {G : HW} {q : WK} {r r' : RWop} {D : EndsW}
def kV (o : Option (Option Wv)) (q : WK) (G : HW) : Prop := match o with
  | some (some w) => q w G
  | _ => False
theorem m_V {i : Nat} : eV i x σ G q = kV (σ[i]?) q G := rfl
theorem m_kV {w : Wv} : kV (some (some w)) q G = q w G := rfl
theorem m_C {w : Wv} : eC w x σ G q = q w G := rfl
def kOp2 (r : RWop) (w : Wv) (q : WK) : WK := fun w2 G2 => r w w2 G2 q
def kOp (r : RWop) (tb : ET) (x : XW) (σ : SW) (q : WK) : WK := fun w G1 => tb x σ G1 (kOp2 r w q)
theorem m_Op : eOp r ta tb x σ G q = ta x σ G (kOp r tb x σ q) := rfl
theorem m_kOp {w : Wv} : kOp r tb x σ q w G = tb x σ G (kOp2 r w q) := rfl
theorem m_kOp2 {w w2 : Wv} : kOp2 r w q w2 G = r w w2 G q := rfl
def kBl (q : Bool → HW → Prop) : WK := fun w G => match w with
  | .bl k => q k G
  | _ => False
variable {b : Bool → HW → Prop}
theorem m_kBl {k : Bool} : kBl b (.bl k) G = b k G := rfl
def kqOp (r : RWop) (tb : ET) (x : XW) (σ : SW) (b : Bool → HW → Prop) : WK := fun w G1 => tb x σ G1 (kOp2 r w (kBl b))
theorem m_qOp : qOp r ta tb x σ G b = ta x σ G (kOp r tb x σ (kBl b)) := rfl
def kCh3 (r' : RWop) (w2 : Wv) (q : WK) : WK := fun w3 G => r' w2 w3 G q
def kCh2 (r' : RWop) (tc : ET) (w2 : Wv) (x : XW) (σ : SW) (q : WK) : WK := fun w G => match w with
  | .bl true => tc x σ G (kCh3 r' w2 q)
  | .bl false => q (.bl false) G
  | _ => False
theorem m_kCh2 {w2 : Wv} : kCh2 r' tc w2 x σ q (.bl true) G = tc x σ G (kCh3 r' w2 q) := rfl
theorem m_kCh2f {w2 : Wv} : kCh2 r' tc w2 x σ q (.bl false) G = q (.bl false) G := rfl
theorem m_kCh3 {w2 w3 : Wv} : kCh3 r' w2 q w3 G = r' w2 w3 G q := rfl
def kCh1 (r r' : RWop) (tc : ET) (w1 : Wv) (x : XW) (σ : SW) (q : WK) : WK := fun w2 G => r w1 w2 G (kCh2 r' tc w2 x σ q)
theorem m_kCh1 {w1 w2 : Wv} : kCh1 r r' tc w1 x σ q w2 G = r w1 w2 G (kCh2 r' tc w2 x σ q) := rfl
def kCh (r r' : RWop) (tb tc : ET) (x : XW) (σ : SW) (q : WK) : WK := fun w1 G => tb x σ G (kCh1 r r' tc w1 x σ q)
theorem m_kCh {w1 : Wv} : kCh r r' tb tc x σ q w1 G = tb x σ G (kCh1 r r' tc w1 x σ q) := rfl
theorem m_Ch : eChain r r' ta tb tc x σ G q = ta x σ G (kCh r r' tb tc x σ q) := rfl
theorem m_qCh : qChain r r' ta tb tc x σ G b = ta x σ G (kCh r r' tb tc x σ (kBl b)) := rfl
/-! #### slices, tests -/
def kO (q : Option Int → HW → Prop) : WK := fun w G => match w with
  | .int i => q (some i) G
  | _ => False
variable {o : Option Int → HW → Prop}
theorem m_oNone : oNone x σ G o = o none G := rfl
theorem m_oSome : oSome ta x σ G o = ta x σ G (kO o) := rfl
theorem m_kO {i : Int} : kO o (.int i) G = o (some i) G := rfl
def kSl2 (w : Wv) (lo : Option Int) (q : WK) : Option Int → HW → Prop := fun hi G => wSl w lo hi G q
def kSl1 (w : Wv) (th : OT) (x : XW) (σ : SW) (q : WK) : Option Int → HW → Prop := fun lo G => th x σ G (kSl2 w lo q)
def kSl (tl th : OT) (x : XW) (σ : SW) (q : WK) : WK := fun w G => tl x σ G (kSl1 w th x σ q)
variable {ol oh : OT} {lo hi : Option Int}
theorem m_Sl : eSl ta ol oh x σ G q = ta x σ G (kSl ol oh x σ q) := rfl
theorem m_kSl {w : Wv} : kSl ol oh x σ q w G = ol x σ G (kSl1 w oh x σ q) := rfl
theorem m_kSl1 {w : Wv} : kSl1 w oh x σ q lo G = oh x σ G (kSl2 w lo q) := rfl
theorem m_kSl2 {w : Wv} : kSl2 w lo q hi G = wSl w lo hi G q := rfl
theorem m_slT {ws : List Wv} : wSl (.tup ws) lo hi G q = q (.tup (cutL ws lo hi)) G := rfl
def kTru (b : Bool → HW → Prop) : WK := fun w G => wTru w G b
theorem m_qT : qTru ta x σ G b = ta x σ G (kTru b) := rfl
theorem m_kTru {w : Wv} : kTru b w G = wTru w G b := rfl
theorem m_tB {k : Bool} : wTru (.bl k) G b = b k G := rfl
theorem m_tN : wTru .non G b = b false G := rfl
theorem m_tI {i : Int} : wTru (.int i) G b = b (i != 0) G := rfl
theorem m_tT {ws : List Wv} : wTru (.tup ws) G b = b (!ws.isEmpty) G := rfl
def kqA (B : QT) (x : XW) (σ : SW) (b : Bool → HW → Prop) : Bool → HW → Prop := fun k G => match k with
  | true => B x σ G b
  | false => b false G
def kqO (B : QT) (x : XW) (σ : SW) (b : Bool → HW → Prop) : Bool → HW → Prop := fun k G => match k with
  | true => b true G
  | false => B x σ G b
def kqN (b : Bool → HW → Prop) : Bool → HW → Prop := fun k G => b (!k) G
theorem m_qA : qAnd A B x σ G b = A x σ G (kqA B x σ b) := rfl
theorem m_qO : qOr A B x σ G b = A x σ G (kqO B x σ b) := rfl
theorem m_qN : qNot A x σ G b = A x σ G (kqN b) := rfl
theorem m_kqAt : kqA B x σ b true G = B x σ G b := rfl
theorem m_kqAf : kqA B x σ b false G = b false G := rfl
theorem m_kqOt : kqO B x σ b true G = b true G := rfl
theorem m_kqOf : kqO B x σ b false G = B x σ G b := rfl
theorem m_kqN {k : Bool} : kqN b k G = b (!k) G := rfl
theorem m_qYes : qYes x σ G b = b true G := rfl
def kA (u : ET) (x : XW) (σ : SW) (q : WK) : WK := fun w G => match w with
  | .bl true => u x σ G q
  | .bl false => q (.bl false) G
  | _ => False
def kOr (u : ET) (x : XW) (σ : SW) (q : WK) : WK := fun w G => match w with
  | .bl true => q (.bl true) G
  | .bl false => u x σ G q
  | _ => False
def kN (q : WK) : WK := fun w G => match w with
  | .bl k => q (.bl (!k)) G
  | _ => False
def kNeg (q : WK) : WK := fun w G => match w with
  | .int i => q (.int (-i)) G
  | _ => False
theorem m_A : eAnd t u x σ G q = t x σ G (kA u x σ q) := rfl
theorem m_Or : eOr t u x σ G q = t x σ G (kOr u x σ q) := rfl
theorem m_N : eNot t x σ G q = t x σ G (kN q) := rfl
theorem m_Neg : eNeg t x σ G q = t x σ G (kNeg q) := rfl
theorem m_kAt : kA u x σ q (.bl true) G = u x σ G q := rfl
theorem m_kAf : kA u x σ q (.bl false) G = q (.bl false) G := rfl
theorem m_kOrt : kOr u x σ q (.bl true) G = q (.bl true) G := rfl
theorem m_kOrf : kOr u x σ q (.bl false) G = u x σ G q := rfl
theorem m_kN {k : Bool} : kN q (.bl k) G = q (.bl (!k)) G := rfl
theorem m_kNeg {i : Int} : kNeg q (.int i) G = q (.int (-i)) G := rfl
def kIf (ta tb : ET) (x : XW) (σ : SW) (q : WK) : Bool → HW → Prop := fun k G => match k with
  | true => ta x σ G q
  | false => tb x σ G q
theorem m_If : eIf A ta tb x σ G q = A x σ G (kIf ta tb x σ q) := rfl
theorem m_kIft : kIf ta tb x σ q true G = ta x σ G q := rfl
theorem m_kIff : kIf ta tb x σ q false G = tb x σ G q := rfl
/-! #### lists of arguments, displays, calls -/
variable {l : List Wv → HW → Prop} {w : Wv} {ws zs : List Wv}
def kAc2 (w : Wv) (l : List Wv → HW → Prop) : List Wv → HW → Prop := fun ws G => l (w :: ws) G
def kAc (tk : AT) (x : XW) (σ : SW) (l : List Wv → HW → Prop) : WK := fun w G => tk x σ G (kAc2 w l)
theorem m_an : aNil x σ G l = l [] G := rfl
theorem m_ac : aCons t tk x σ G l = t x σ G (kAc tk x σ l) := rfl
theorem m_kac : kAc tk x σ l w G = tk x σ G (kAc2 w l) := rfl
theorem m_kac2 : kAc2 w l ws G = l (w :: ws) G := rfl
def kTup (q : WK) : List Wv → HW → Prop := fun ws G => ws.length ≤ sizeLine ∧ q (.tup ws) G
def kLst (q : WK) : List Wv → HW → Prop := fun ws G => ws.length ≤ sizeLine ∧ ∀ l, G l = none → q (.ref l) (updO G l (.lst ws))
theorem m_Tup : eTup tl x σ G q = tl x σ G (kTup q) := rfl
theorem m_Lst : eLst tl x σ G q = tl x σ G (kLst q) := rfl
theorem m_kTup (h : ws.length ≤ 64) : kTup q ws G = q (.tup ws) G := propext ⟨fun z => z.2, fun z => ⟨by rw [sizeLine_eq]; omega, z⟩⟩
theorem r_lst (h : ws.length ≤ sizeLine) (z : ∀ l, G l = none → q (.ref l) (updO G l (.lst ws))) : kLst q ws G := ⟨h, z⟩
theorem r_lst' (z : ∀ l, G l = none → q (.ref l) (updO G l (.lst ws))) (h : ws.length ≤ 64 := by exact Nat.le_of_ble_eq_true rfl) : kLst q ws G := ⟨by rw [sizeLine_eq]; omega, z⟩
theorem r_dnew (z : ∀ l, G l = none → q (.ref l) (updO G l (.dct []))) : eDnew x σ G q := z
theorem r_tnew (z : ∀ l, G l = none → q (.ref l) (updO G l (.dtp []))) : eTnew x σ G q := z
def kCB (r : RCop) (q : WK) : List Wv → HW → Prop := fun ws G => r ws G q
variable {rc : RCop}
theorem m_CB : eCB rc tl x σ G q = tl x σ G (kCB rc q) := rfl
theorem m_kCB : kCB rc q ws G = rc ws G q := rfl
def pk1 {α : Type} : Option α → List α → List α
  | some v, l => v :: l
  | none, l => l
theorem m_pk1 {α : Type} {v : α} {l : List α} : pk1 (some v) l = v :: l := rfl
theorem m_pp {α : Type} {i : Nat} {sel : List Sel} {us ks ds : List α} : pick (.p i :: sel) us ks ds = pk1 us[i]? (pick sel us ks ds) := by
  unfold pick
  rw [List.filterMap_cons]
  cases h : us[i]? <;> simp [pk1, h]
theorem m_pkk {α : Type} {i : Nat} {sel : List Sel} {us ks ds : List α} : pick (.k i :: sel) us ks ds = pk1 ks[i]? (pick sel us ks ds) := by
  unfold pick
  rw [List.filterMap_cons]
  cases h : ks[i]? <;> simp [pk1, h]
theorem m_pd {α : Type} {i : Nat} {sel : List Sel} {us ks ds : List α} : pick (.d i :: sel) us ks ds = pk1 ds[i]? (pick sel us ks ds) := by
  unfold pick
  rw [List.filterMap_cons]
  cases h : ds[i]? <;> simp [pk1, h]
theorem m_pn {α : Type} {us ks ds : List α} : pick [] us ks ds = [] := rfl
def kX (x : XW) (σ : SW) : XE := fun cls fs G => x cls fs σ G
theorem m_kX {cls : Value} {fs : List (Str × Wv)} : kX x σ cls fs G = x cls fs σ G := rfl
def kC2 (n m : Nat) (sel : List Sel) (dws : List Wv) (sp : SpW) (ws : List Wv) (x : XW) (σ : SW) (q : WK) : List Wv → HW → Prop := fun zs G => ws.length = n ∧ zs.length = m ∧ sp (pick sel ws zs dws) G q (kX x σ)
def kC1 (n m : Nat) (sel : List Sel) (dws : List Wv) (sp : SpW) (tk : AT) (x : XW) (σ : SW) (q : WK) : List Wv → HW → Prop := fun ws G => tk x σ G (kC2 n m sel dws sp ws x σ q)
variable {n m : Nat} {sel : List Sel} {dws : List Wv} {sp : SpW}
theorem m_Call : eCall n m sel dws sp tl tk x σ G q = tl x σ G (kC1 n m sel dws sp tk x σ q) := rfl
theorem m_kC1 : kC1 n m sel dws sp tk x σ q ws G = tk x σ G (kC2 n m sel dws sp ws x σ q) := rfl
theorem m_kC2 (h1 : ws.length = n) (h2 : zs.length = m) : kC2 n m sel dws sp ws x σ q zs G = sp (pick sel ws zs dws) G q (kX x σ) := propext ⟨fun z => z.2.2, fun z => ⟨h1, h2, z⟩⟩
/-! #### methods -/
variable {to : ET} {rm : RMop} {T : String}
def kM1 (rm : RMop) (w : Wv) (q : WK) : List Wv → HW → Prop := fun ws G => rm w ws G q
def kM (T : String) (rm : RMop) (tl : AT) (x : XW) (σ : SW) (q : WK) : WK := fun w G => TyM T w G ∧ tl x σ G (kM1 rm w q)
def kM0 (T : String) (rm : RMop) (q : WK) : WK := fun w G => TyM T w G ∧ rm w [] G q
theorem m_BM : eBM T rm to tl x σ G q = to x σ G (kM T rm tl x σ q) := rfl
theorem m_BM0 : eBM0 T rm to x σ G q = to x σ G (kM0 T rm q) := rfl
theorem m_kM1 : kM1 rm w q ws G = rm w ws G q := rfl
theorem r_M (h : TyM T w G) (z : tl x σ G (kM1 rm w q)) : kM T rm tl x σ q w G := ⟨h, z⟩
theorem r_M0 (h : TyM T w G) (z : rm w [] G q) : kM0 T rm q w G := ⟨h, z⟩
/-! #### statements -/
def kSeq (u : ST) (D : EndsW) : EndsW := { D with nx := u D }
variable {S U : ST}
theorem m_Seq : sSeq S U D σ G = S (kSeq U D) σ G := rfl
theorem m_Seq_nx : (kSeq U D).nx σ G = U D σ G := rfl
theorem m_Seq_rt : (kSeq U D).rt = D.rt := rfl
theorem m_Seq_bk : (kSeq U D).bk = D.bk := rfl
theorem m_Seq_ct : (kSeq U D).ct = D.ct := rfl
theorem m_Seq_ex : (kSeq U D).ex = D.ex := rfl
theorem m_Next : sNext D σ G = D.nx σ G := rfl
theorem m_Brk : sBrk D σ G = D.bk σ G := rfl
theorem m_Cont : sCont D σ G = D.ct σ G := rfl
def kEx (D : EndsW) (σ : SW) : WK := fun _ G => D.nx σ G
theorem m_Expr : sExpr ta D σ G = ta D.ex σ G (kEx D σ) := rfl
theorem m_kEx : kEx D σ w G = D.nx σ G := rfl
theorem m_Ret : sRet ta D σ G = ta D.ex σ G D.rt := rfl
theorem m_RetN : sRetN D σ G = D.rt .non G := rfl
def kSIf (S U : ST) (D : EndsW) (σ : SW) : Bool → HW → Prop := fun k G => match k with
  | true => S D σ G
  | false => U D σ G
theorem m_SIf : sIf A S U D σ G = A D.ex σ G (kSIf S U D σ) := rfl
theorem m_kSIft : kSIf S U D σ true G = S D σ G := rfl
theorem m_kSIff : kSIf S U D σ false G = U D σ G := rfl
def kSet (i : Nat) (D : EndsW) (σ : SW) : WK := fun w G => D.nx (σ.set i (some w)) G
theorem m_Set {i : Nat} : sSet i ta D σ G = ta D.ex σ G (kSet i D σ) := rfl
theorem m_kSet {i : Nat} : kSet i D σ w G = D.nx (σ.set i (some w)) G := rfl
def kPar (i j : Nat) (D : EndsW) (σ : SW) : List Wv → HW → Prop := fun ws G => match ws with
  | [v, w] => D.nx ((σ.set i (some v)).set j (some w)) G
  | _ => False
theorem m_Par {i j : Nat} : sPar i j tl D σ G = tl D.ex σ G (kPar i j D σ) := rfl
theorem m_kPar {i j : Nat} {v w : Wv} : kPar i j D σ [v, w] G = D.nx ((σ.set i (some v)).set j (some w)) G := rfl
def kPar3 (i j k : Nat) (D : EndsW) (σ : SW) : List Wv → HW → Prop := fun ws G => match ws with
  | [u, v, w] => D.nx (((σ.set i (some u)).set j (some v)).set k (some w)) G
  | _ => False
theorem m_Par3 {i j k : Nat} : sPar3 i j k tl D σ G = tl D.ex σ G (kPar3 i j k D σ) := rfl
theorem m_kPar3 {i j k : Nat} {u v w : Wv} : kPar3 i j k D σ [u, v, w] G = D.nx (((σ.set i (some u)).set j (some v)).set k (some w)) G := rfl
variable {g : GT} {gs : GTs} {s : SW → HW → Prop}
def kAsg (g : GT) (D : EndsW) (σ : SW) : WK := fun w G => g D.ex w σ G D.nx
theorem m_Asg : sAsg ta g D σ G = ta D.ex σ G (kAsg g D σ) := rfl
theorem m_kAsg : kAsg g D σ w G = g D.ex w σ G D.nx := rfl
theorem m_gNm {i : Nat} : gNm i x w σ G s = s (σ.set i (some w)) G := rfl
def kG (gs : GTs) (x : XW) (ws : List Wv) (s : SW → HW → Prop) : SW → HW → Prop := fun σ G => gs x ws σ G s
theorem m_kG : kG gs x ws s σ G = gs x ws σ G s := rfl
theorem m_gNo : gNo x [] σ G s = s σ G := propext ⟨fun z => z.2, fun z => ⟨rfl, z⟩⟩
theorem m_gMo : gMo g gs x (w :: ws) σ G s = g x w σ G (kG gs x ws s) := rfl
theorem m_gTu (h : ws.length = n) : gTu n gs x (.tup ws) σ G s = gs x ws σ G s := propext ⟨fun z => z.2, fun z => ⟨h, z⟩⟩
def kW2 (o i : Wv) (σ : SW) (s : SW → HW → Prop) : HW → Prop := fun G => s σ G
def kGs2 (o w : Wv) (σ : SW) (s : SW → HW → Prop) : WK := fun i G => wSet o i w G (kW2 o i σ s)
def kGs (ta : ET) (x : XW) (w : Wv) (σ : SW) (s : SW → HW → Prop) : WK := fun o G => ta x σ G (kGs2 o w σ s)
theorem m_gSb : gSb to ta x w σ G s = to x σ G (kGs ta x w σ s) := rfl
theorem m_kGs {o : Wv} : kGs ta x w σ s o G = ta x σ G (kGs2 o w σ s) := rfl
theorem m_kGs2 {o i : Wv} : kGs2 o w σ s i G = wSet o i w G (kW2 o i σ s) := rfl
theorem m_kW2 {o i : Wv} : kW2 o i σ s G = s σ G := rfl
def kAu2 (i : Nat) (D : EndsW) (σ : SW) : WK := fun z G => D.nx (σ.set i (some z)) G
def kAu (i : Nat) (r : RWop) (w : Wv) (D : EndsW) (σ : SW) : WK := fun w2 G => r w w2 G (kAu2 i D σ)
def kAug (i : Nat) (ta : ET) (r : RWop) (D : EndsW) (σ : SW) : WK := fun w G => ta D.ex σ G (kAu i r w D σ)
theorem m_Aug {i : Nat} : sAug i ta r D σ G = kV (σ[i]?) (kAug i ta r D σ) G := rfl
theorem m_kAug {i : Nat} : kAug i ta r D σ w G = ta D.ex σ G (kAu i r w D σ) := rfl
theorem m_kAu {i : Nat} {w2 : Wv} : kAu i r w D σ w2 G = r w w2 G (kAu2 i D σ) := rfl
theorem m_kAu2 {i : Nat} : kAu2 i D σ w G = D.nx (σ.set i (some w)) G := rfl
/-! #### raising -/
def kMk (C : Addr) (f : Str) (q : Value → List (Str × Wv) → HW → Prop) : WK := fun w G => q (.ref C) [(f, w)] G
variable {mk : MT} {rq : Value → List (Str × Wv) → HW → Prop}
theorem m_mk1 {C : Addr} {f : Str} : mk1 C f ta x σ G rq = ta x σ G (kMk C f rq) := rfl
theorem m_kMk {C : Addr} {f : Str} : kMk C f rq w G = rq (.ref C) [(f, w)] G := rfl
theorem m_Raise : sRaise mk D σ G = mk D.ex σ G (kX D.ex σ) := rfl
theorem m_ends_rt {xe : XE} : (endsW q xe).rt = q := rfl
theorem m_ends_ex {xe : XE} {cls : Value} {fs : List (Str × Wv)} : (endsW q xe).ex cls fs σ G = xe cls fs G := rfl
theorem m_ends_nx {xe : XE} : (endsW q xe).nx σ G = q .non G := rfl
/-! #### ops on plain values -/
theorem m_add {i j : Int} : wAdd (.int i) (.int j) G q = q (.int (i + j)) G := rfl
theorem m_addB {i : Int} {k : Bool} : wAdd (.int i) (.bl k) G q = q (.int (i + b2i k)) G := rfl
theorem m_sub {f : Int → Int → Wv} {i j : Int} : wI0 f (.int i) (.int j) G q = q (f i j) G := rfl
theorem r_int {C : Int → Int → Prop} {f : Int → Int → Wv} {i j : Int} (h : C i j) (z : q (f i j) G) : wI C f (.int i) (.int j) G q := ⟨h, z⟩
theorem r_mul {i j : Int} (h : CMul i j) (z : q (.int (i * j)) G) : wMul (.int i) (.int j) G q := ⟨h, z⟩
theorem m_eqI {i j : Int} : wEq (.int i) (.int j) G q = q (.bl (decide (i = j))) G := rfl
theorem m_eqS {i j : Str} : wEq (.str i) (.str j) G q = q (.bl (decide (i = j))) G := rfl
theorem m_neI {i j : Int} : wNe (.int i) (.int j) G q = q (.bl (!decide (i = j))) G := rfl
theorem m_neS {i j : Str} : wNe (.str i) (.str j) G q = q (.bl (!decide (i = j))) G := rfl
theorem m_isB {i j : Bool} : wIs (.bl i) (.bl j) G q = q (.bl (decide (i = j))) G := rfl
theorem m_isN {w : Wv} : wIs w .non G q = q (.bl (isNon w)) G := by cases w <;> rfl
theorem m_isNotN {w : Wv} : wIsNot w .non G q = q (.bl (!isNon w)) G := by cases w <;> rfl
theorem m_nonN : isNon .non = true := rfl
theorem m_nonR {a : Addr} : isNon (.ref a) = false := rfl
theorem m_nonT {us : List Wv} : isNon (.tup us) = false := rfl
theorem m_nonI {i : Int} : isNon (.int i) = false := rfl
theorem m_nonS {i : Str} : isNon (.str i) = false := rfl
theorem m_nonB {i : Bool} : isNon (.bl i) = false := rfl
theorem m_lenT {us : List Wv} : wLen [.tup us] G q = q (.int us.length) G := rfl
theorem m_lenK {us : List Wv} : wLen [.kls us] G q = q (.int us.length) G := rfl
theorem m_tupT {us : List Wv} : wTuple [.tup us] G q = q (.tup us) G := rfl
theorem m_max {i j : Int} : wMax [.int i, .int j] G q = q (.int (if j > i then j else i)) G := rfl
theorem m_min {i j : Int} : wMin [.int i, .int j] G q = q (.int (if j < i then j else i)) G := rfl
theorem m_intI {i : Int} : wIntOf [.int i] G q = q (.int i) G := rfl
theorem m_intB {k : Bool} : wIntOf [.bl k] G q = q (.int (if k then 1 else 0)) G := rfl
theorem r_isi {K : PySem.W.Frag} {c : Wv} {t u : Value} {k : Bool} (y : TyW K G w t) (c' : ClW c u) (e : PySem.W.kitOne K t u = some k) (z : q (.bl k) G) : wIsi K [w, c] G q := by
  unfold wIsi
  cases c <;> first | exact ⟨t, u, k, y, c', e, z⟩ | exact c'.elim
theorem r_isiT {K : PySem.W.Frag} {cs : List Wv} {t : Value} {us : List Value} {k : Bool} (y : TyW K G w t) (c' : ClWs cs us) (e : PySem.W.kitAny K t us = some k) (z : q (.bl k) G) : wIsi K [w, .tup cs] G q := ⟨t, us, k, y, c', e, z⟩
theorem r_len {p : Addr} {us : List Wv} (h : RdL G p us) (z : q (.int us.length) G) : wLen [.ref p] G q := .inl ⟨us, h, z⟩
theorem r_lenD {p : Addr} {kvs : List (Key × Wv)} (h : G p = some (.dct kvs)) (z : q (.int kvs.length) G) : wLen [.ref p] G q := .inr (.inl ⟨kvs, h, z⟩)
theorem r_lenDT {p : Addr} {kvs : List (List Key × Wv)} (h : G p = some (.dtp kvs)) (z : q (.int kvs.length) G) : wLen [.ref p] G q := .inr (.inr ⟨kvs, h, z⟩)
theorem r_ixT {i : Int} {us : List Wv} {y : Wv} (h : atI us i = some y) (z : q y G) : wIx (.tup us) (.int i) G q := ⟨i, y, rfl, h, z⟩
theorem r_ixL {p : Addr} {i : Int} {us : List Wv} {y : Wv} (hl : RdL G p us) (h : atI us i = some y) (z : q y G) : wIx (.ref p) (.int i) G q := .inl ⟨us, i, y, rfl, hl, h, z⟩
theorem r_ixD {p : Addr} {k : Wv} {key : Key} {kvs : List (Key × Wv)} {y : Wv} (hl : G p = some (.dct kvs)) (hk : keyOf k = some key) (h : lkW kvs key = some y) (z : q y G) : wIx (.ref p) k G q := by
  refine .inr ⟨y, ?_, z⟩
  cases k <;> cases hk <;> exact ⟨kvs, _, hl, rfl, h.symm⟩
theorem r_ixDT {p : Addr} {ks : List Wv} {key : List Key} {kvs : List (List Key × Wv)} {y : Wv} (hl : G p = some (.dtp kvs)) (hk : keysOf ks = some key) (h : lkW kvs key = some y) (z : q y G) : wIx (.ref p) (.tup ks) G q := .inr ⟨y, ⟨kvs, key, hl, hk, h.symm⟩, z⟩
variable {hq : HW → Prop}
theorem r_setL {p : Addr} {us : List Wv} {i : Int} {j : Nat} {v : Wv} (hl : G p = some (.lst us)) (hj : ixN us.length i = some j) (z : hq (updO G p (.lst (us.set j v)))) : wSet (.ref p) (.int i) v G hq := .inl ⟨us, i, j, rfl, hl, hj, z⟩
theorem r_setD {p : Addr} {k v : Wv} {key : Key} {kvs kvs' : List (Key × Wv)} (hl : G p = some (.dct kvs)) (hk : keyOf k = some key) (hz : kvs.length < sizeLine) (e : pkW kvs key v = kvs') (z : hq (updO G p (.dct kvs'))) : wSet (.ref p) k v G hq := by
  subst e
  refine .inr ⟨_, ?_, z⟩
  cases k <;> cases hk <;> exact ⟨kvs, _, hl, rfl, hz, rfl⟩
theorem r_setDT {p : Addr} {ks : List Wv} {v : Wv} {key : List Key} {kvs kvs' : List (List Key × Wv)} (hl : G p = some (.dtp kvs)) (hk : keysOf ks = some key) (hz : kvs.length < sizeLine) (e : pkW kvs key v = kvs') (z : hq (updO G p (.dtp kvs'))) : wSet (.ref p) (.tup ks) v G hq := by
  subst e
  exact .inr ⟨_, ⟨kvs, key, hl, hk, hz, rfl⟩, z⟩
theorem r_addL {p r : Addr} {xs ys : List Wv} (h1 : G p = some (.lst xs)) (h2 : G r = some (.lst ys)) (hz : xs.length + ys.length ≤ sizeLine) (z : ∀ l, G l = none → q (.ref l) (updO G l (.lst (xs ++ ys)))) : wAdd (.ref p) (.ref r) G q := ⟨xs, ys, h1, h2, hz, z⟩
theorem r_addT {xs ys : List Wv} (hz : xs.length + ys.length ≤ sizeLine) (z : q (.tup (xs ++ ys)) G) : wAdd (.tup xs) (.tup ys) G q := ⟨hz, z⟩
theorem r_addS {xs ys : Str} (hz : xs.length + ys.length ≤ sizeLine) (z : q (.str (xs ++ ys)) G) : wAdd (.str xs) (.str ys) G q := ⟨hz, z⟩
theorem r_slL {p : Addr} {us : List Wv} (h : RdL G p us) (z : ∀ l, G l = none → q (.ref l) (updO G l (.lst (cutL us lo hi)))) : wSl (.ref p) lo hi G q := ⟨us, h, z⟩
theorem r_slS {y : Str} (h : y.length ≤ sizeLine) (z : q (.str (cutS y lo hi)) G) : wSl (.str y) lo hi G q := ⟨h, z⟩
theorem r_all {p : Addr} {bs : List Bool} (h : RdL G p (bs.map .bl)) (z : q (.bl (bs.all id)) G) : wAll [.ref p] G q := ⟨bs, h, z⟩
theorem r_any {p : Addr} {bs : List Bool} (h : RdL G p (bs.map .bl)) (z : q (.bl (bs.any id)) G) : wAny [.ref p] G q := ⟨bs, h, z⟩
theorem r_tupL {p : Addr} {us : List Wv} (h : RdL G p us) (z : q (.tup us) G) : wTuple [.ref p] G q := ⟨us, h, z⟩
theorem r_listT {us : List Wv} (z : ∀ l, G l = none → q (.ref l) (updO G l (.lst us))) : wList [.tup us] G q := z
theorem r_listL {p : Addr} {us : List Wv} (h : RdL G p us) (z : ∀ l, G l = none → q (.ref l) (updO G l (.lst us))) : wList [.ref p] G q := ⟨us, h, z⟩
theorem r_app {p : Addr} {us : List Wv} {y : Wv} (h : G p = some (.lst us)) (hz : us.length < sizeLine) (z : q .non (updO G p (.lst (us ++ [y])))) : wAppend (.ref p) [y] G q := ⟨us, h, hz, z⟩
theorem r_repr {d : PyData} (h : Dt G w d) (h1 : d.showable = true) (h2 : d.depth ≤ 20) (h3 : d.shown.length ≤ sizeLine) (z : q (.str d.shown) G) : wRepr [w] G q := ⟨d, h, h1, h2, h3, z⟩
end

/-! ### displays, errors, tries, long repetitions -/
section
variable {x : XW} {σ : SW} {G : HW} {q : WK} {D : EndsW} {ta t : ET} {K : PySem.W.Frag} {w : Wv}
abbrev PrK := List (Key × Wv) → HW → Prop
def kPr2 (k : Str) (w : Wv) (l : PrK) : PrK := fun ws G => l ((.inr k, w) :: ws) G
def kPr (r : List (Str × ET)) (k : Str) (x : XW) (σ : SW) (l : PrK) : WK := fun w G => ePairs r x σ G (kPr2 k w l)
theorem m_pr0 {l : PrK} : ePairs [] x σ G l = l [] G := rfl
theorem m_pr {k : Str} {r : List (Str × ET)} {l : PrK} : ePairs ((k, t) :: r) x σ G l = t x σ G (kPr r k x σ l) := rfl
theorem m_kpr {k : Str} {r : List (Str × ET)} {l : PrK} : kPr r k x σ l w G = ePairs r x σ G (kPr2 k w l) := rfl
theorem m_kpr2 {k : Str} {l : PrK} {ws : List (Key × Wv)} : kPr2 k w l ws G = l ((.inr k, w) :: ws) G := rfl
def kDisp (p : Addr) (q : WK) : PrK := fun ws G2 => G2 p = some (.dct []) ∧ q (.ref p) (updO G2 p (.dct (mergeW [] ws)))
theorem r_disp {ks : List (Str × ET)} (z : ∀ p, G p = none → ePairs ks x σ (updO G p (.dct [])) (kDisp p q)) : eDisp ks x σ G q := z
theorem r_kdisp {p : Addr} {ws kvs : List (Key × Wv)} (h : G p = some (.dct [])) (e : mergeW [] ws = kvs) (z : q (.ref p) (updO G p (.dct kvs))) : kDisp p q ws G := ⟨h, by rw [e]; exact z⟩
def kXf (K : PySem.W.Frag) (f : Str) (q : WK) : WK := fun w G1 => match w with
  | .ref a => ∃ (C : Addr) (fs : List (Str × Wv)) (y : Wv), G1 a = some (.exc a (.ref C) fs) ∧ XfC K C ∧ PySem.W.findIn K (.ref C) f = some none ∧ fs.lookup f = some y ∧ q y G1
  | _ => False
theorem m_Xf {f : Str} : eXf K f ta x σ G q = ta x σ G (kXf K f q) := rfl
theorem r_xf {f : Str} {a C : Addr} {fs : List (Str × Wv)} {y : Wv} (h : G a = some (.exc a (.ref C) fs)) (c : XfC K C) (n : PySem.W.findIn K (.ref C) f = some none) (l : fs.lookup f = some y) (z : q y G) : kXf K f q (.ref a) G := ⟨C, fs, y, h, c, n, l, z⟩
def kSuite (i : Nat) (a : Addr) (cls : Value) (fs : List (Str × Wv)) (D : EndsW) : EndsW := { nx := fun σ2 G2 => D.nx (σ2.set i none) (updO G2 a (.exc a cls fs)), rt := D.rt, bk := fun σ2 G2 => D.bk (σ2.set i none) G2, ct := fun σ2 G2 => D.ct (σ2.set i none) G2, ex := fun _ _ _ _ => False }
def kTryX (K : PySem.W.Frag) (cs : List Value) (i : Nat) (ts : ST) (D : EndsW) : XW := fun cls fs σ1 G1 => ∃ b, PySem.W.exmAny K cls cs = some b ∧ (b = true → ∀ a, G1 a = none → ts (kSuite i a cls fs D) (σ1.set i (some (.ref a))) G1) ∧ (b = false → D.ex cls fs σ1 G1)
def kTry (K : PySem.W.Frag) (cs : List Value) (i : Nat) (ts : ST) (D : EndsW) : EndsW := { D with ex := kTryX K cs i ts D }
variable {cs : List Value} {i : Nat} {tb ts : ST} {cls : Value} {fs : List (Str × Wv)} {a : Addr}
theorem m_Try : sTry K cs i tb ts D σ G = tb (kTry K cs i ts D) σ G := rfl
theorem m_Try_nx : (kTry K cs i ts D).nx σ G = D.nx σ G := rfl
theorem m_Try_rt : (kTry K cs i ts D).rt = D.rt := rfl
theorem m_Try_bk : (kTry K cs i ts D).bk σ G = D.bk σ G := rfl
theorem m_Try_ct : (kTry K cs i ts D).ct σ G = D.ct σ G := rfl
theorem m_Try_ex : (kTry K cs i ts D).ex = kTryX K cs i ts D := rfl
theorem r_caught (h : PySem.W.exmAny K cls cs = some true) (z : ∀ a, G a = none → ts (kSuite i a cls fs D) (σ.set i (some (.ref a))) G) : kTryX K cs i ts D cls fs σ G := ⟨true, h, (fun _ => z), (fun e => Bool.noConfusion e)⟩
theorem r_uncaught (h : PySem.W.exmAny K cls cs = some false) (z : D.ex cls fs σ G) : kTryX K cs i ts D cls fs σ G := ⟨false, h, (fun e => Bool.noConfusion e), fun _ => z⟩
theorem m_Suite_nx : (kSuite i a cls fs D).nx σ G = D.nx (σ.set i none) (updO G a (.exc a cls fs)) := rfl
theorem m_Suite_rt : (kSuite i a cls fs D).rt = D.rt := rfl
theorem m_Suite_bk : (kSuite i a cls fs D).bk σ G = D.bk (σ.set i none) G := rfl
theorem m_Suite_ct : (kSuite i a cls fs D).ct σ G = D.ct (σ.set i none) G := rfl
theorem r_repT {k : Int} (h1 : 2 ≤ k) (h2 : k ≤ 1000000) (z : q (.tup (List.replicate k.toNat w)) G) : wRepL (.tup [w]) (.int k) G q := ⟨h1, h2, z⟩
theorem repS_len (y : Str) (n : Nat) : (repS y n).length = n * y.length := by
  have e : ∀ (n : Nat) (acc : Array Nat), ((List.replicate n y.cps).foldl (· ++ ·) acc).size = acc.size + n * y.length := by
    intro n
    induction n with
    | zero => intro acc; simp
    | succ n ih =>
      intro acc
      rw [List.replicate_succ, List.foldl_cons, ih, Array.size_append, Nat.add_mul, Nat.one_mul]
      show acc.size + y.length + n * y.length = _
      omega
  have := e n #[]
  simpa [repS, Str.length] using this
theorem r_repS {y : Str} {k : Int} (h1 : 2 ≤ k) (h2 : k ≤ 1000000) (h3 : y.length = 1) (z : q (.str (repS y k.toNat)) G) : wRepL (.str y) (.int k) G q := ⟨h1, h2, h3, by rw [repS_len, h3]; omega, z⟩
variable {tl : TlT} {f : Addr} {HL : Hp} {P0 : Addr} {q0 : Str} {sp : SpT}
def kXe (x : XW) (σ : SW) : XE := fun cls fs G => x cls fs σ G
theorem m_kXe : kXe x σ cls fs G = x cls fs σ G := rfl
theorem r_deed (h : σ[i]? = some (some (.fn f HL))) (z : tl (kXe x σ) G q) : eDeed i f HL tl x σ G q := ⟨h, z⟩
theorem r_tell (h : G P0 = some (.tab q0)) (z : sp (tlOf ta σ) G q (kXe x σ)) : eTell P0 q0 sp ta x σ G q := ⟨h, z⟩
def kXo (xe : XE) : XW := fun cls fs _ G => xe cls fs G
theorem m_kXo {xe : XE} : kXo xe cls fs σ G = xe cls fs G := rfl
theorem m_tlOf {xe : XE} : tlOf ta σ xe G q = ta (kXo xe) σ G q := rfl
end

/-! ### heaps that grow -/
def Ext (G G' : HW) : Prop := ∀ a o, G a = some o → G' a = some o
/-- all but those of S stay -/
def Kp (S : List Addr) (G G' : HW) : Prop := ∀ a o, a ∉ S → G a = some o → G' a = some o
section
variable {G G' G1 G2 : HW} {a p : Addr} {o : O} {S : List Addr}
theorem Ext.refl : Ext G G := fun _ _ h => h
theorem Ext.trans (h : Ext G G1) (k : Ext G1 G2) : Ext G G2 := fun a o z => k a o (h a o z)
theorem Ext.new (h : G p = none) : Ext G (updO G p o) := fun a o' z => by
  rw [updO_ne]
  · exact z
  · intro e; rw [e, h] at z; cases z
/-- what was laid behind G may be written -/
theorem Ext.put (h : Ext G G1) (n : G p = none) : Ext G (updO G1 p o) := fun a o' z => by
  rw [updO_ne]
  · exact h a o' z
  · intro e; rw [e, n] at z; cases z
theorem Ext.none (h : Ext G G') (n : G' p = none) : G p = none := by
  cases e : G p with
  | none => rfl
  | some o => rw [h p o e] at n; cases n
theorem Ext.kp (h : Ext G G') : Kp S G G' := fun a o _ z => h a o z
theorem Kp.refl : Kp S G G := fun _ _ _ z => z
theorem Kp.trans (h : Kp S G G1) (k : Kp S G1 G2) : Kp S G G2 := fun a o n z => k a o n (h a o n z)
theorem Kp.put (h : Kp S G G1) (m : p ∈ S) : Kp S G (updO G1 p o) := fun a o' n z => by
  rw [updO_ne]
  · exact h a o' n z
  · intro e; exact n (e ▸ m)
theorem Kp.new (h : Kp S G G1) (m : G p = none) : Kp S G (updO G1 p o) := fun a o' n z => by
  rw [updO_ne]
  · exact h a o' n z
  · intro e; rw [e, m] at z; cases z
theorem Kp.sub {S' : List Addr} (h : Kp S G G') (k : ∀ a ∈ S, a ∈ S') : Kp S' G G' := fun a o n z => h a o (fun q => n (k a q)) z
theorem RdL.ext (h : Ext G G') {ws : List Wv} (r : RdL G a ws) : RdL G' a ws := r.elim (fun z => .inl (h _ _ z)) fun z => .inr (h _ _ z)
theorem ne_of_new {p q : Addr} {o : O} (h : G p = some o) (n : G q = none) : p ≠ q := fun e => by rw [e, n] at h; cases h
end

/-! ### loops and comprehensions -/
section
variable {x : XW} {σ : SW} {G : HW} {q : WK} {D : EndsW} {S : ST} {wi : IT} {g : GT} {te : ET} {tt : QT} {is vs : List Nat} {its : List Wv} {ok : HW → Prop}
def kFor (g : GT) (S : ST) (D : EndsW) (σ : SW) : IK := fun its ok G1 => ∃ P : Nat → SW → HW → Prop, P 0 σ G1 ∧ (∀ i σ G, i ≤ its.length → P i σ G → ok G) ∧
  (∀ i w σ G, its[i]? = some w → P i σ G → g D.ex w σ G fun σ2 G2 => S { D with nx := P (i + 1), ct := P (i + 1), bk := D.nx } σ2 G2) ∧ ∀ σ G, P its.length σ G → D.nx σ G
theorem m_For : sFor wi g S D σ G = wi D.ex σ G (kFor g S D σ) := rfl
def kLoop (D : EndsW) (P : SW → HW → Prop) : EndsW := { D with nx := P, ct := P, bk := D.nx }
theorem m_Loop_nx {P : SW → HW → Prop} : (kLoop D P).nx = P := rfl
theorem m_Loop_ct {P : SW → HW → Prop} : (kLoop D P).ct = P := rfl
theorem m_Loop_bk {P : SW → HW → Prop} : (kLoop D P).bk = D.nx := rfl
theorem m_Loop_rt {P : SW → HW → Prop} : (kLoop D P).rt = D.rt := rfl
theorem m_Loop_ex {P : SW → HW → Prop} : (kLoop D P).ex = D.ex := rfl
def kB (S : ST) (D : EndsW) : SW → HW → Prop := fun σ G => S D σ G
theorem m_kB : kB S D σ G = S D σ G := rfl
theorem r_for (P : Nat → SW → HW → Prop) (h0 : P 0 σ G) (hk : ∀ i σ G, i ≤ its.length → P i σ G → ok G) (hs : ∀ i w σ G, its[i]? = some w → P i σ G → g D.ex w σ G (kB S (kLoop D (P (i + 1))))) (hd : ∀ σ G, P its.length σ G → D.nx σ G) : kFor g S D σ its ok G := ⟨P, h0, hk, hs, hd⟩
/-- what is walked -/
def kIt (q : IK) : WK := fun w G => wIt w G q
theorem m_iSeq {q : IK} : iSeq te x σ G q = te x σ G (kIt q) := rfl
theorem m_kItT {q : IK} {ws : List Wv} : kIt q (.tup ws) G = q ws okT G := rfl
theorem m_kItK {q : IK} {ws : List Wv} : kIt q (.kls ws) G = q ws okT G := rfl
theorem m_kItS {q : IK} {z : Str} : kIt q (.str z) G = q (sgW z) okT G := rfl
theorem r_itL {q : IK} {p : Addr} {ws : List Wv} (h : RdL G p ws) (z : q ws (fun G => RdL G p ws) G) : kIt q (.ref p) G := ⟨ws, h, z⟩
def kRg1 (q : IK) : List Wv → HW → Prop := fun ws G => match ws with
  | [.int j] => -(2 ^ 62) ≤ j ∧ j < 2 ^ 62 ∧ q (rgW 0 1 j.toNat) okT G
  | _ => False
def kRg2 (q : IK) : List Wv → HW → Prop := fun ws G => match ws with
  | [.int i, .int j] => (-(2 ^ 62) ≤ i ∧ i < 2 ^ 62 ∧ -(2 ^ 62) ≤ j ∧ j < 2 ^ 62) ∧ q (rgW i 1 (j - i).toNat) okT G
  | _ => False
variable {tl : AT}
theorem m_iRg1 {q : IK} : iRg1 tl x σ G q = tl x σ G (kRg1 q) := rfl
theorem m_iRg2 {q : IK} : iRg2 tl x σ G q = tl x σ G (kRg2 q) := rfl
theorem r_rg1 {q : IK} {j : Int} (h1 : -(2 ^ 62) ≤ j) (h2 : j < 2 ^ 62) (z : q (rgW 0 1 j.toNat) okT G) : kRg1 q [.int j] G := ⟨h1, h2, z⟩
theorem r_rg2 {q : IK} {i j : Int} (h1 : -(2 ^ 62) ≤ i ∧ i < 2 ^ 62 ∧ -(2 ^ 62) ≤ j ∧ j < 2 ^ 62) (z : q (rgW i 1 (j - i).toNat) okT G) : kRg2 q [.int i, .int j] G := ⟨h1, z⟩
def kEnu (q : IK) : List Wv → HW → Prop := fun ws G => match ws with
  | [.ref r] => ∃ us, RdL G r us ∧ q (enW us) (fun G => RdL G r us) G
  | [.kls us] => q (enW us) okT G
  | _ => False
theorem m_iEnu {q : IK} : iEnu tl x σ G q = tl x σ G (kEnu q) := rfl
theorem m_kEnuK {q : IK} {us : List Wv} : kEnu q [.kls us] G = q (enW us) okT G := rfl
theorem r_enu {q : IK} {r : Addr} {us : List Wv} (h : RdL G r us) (z : q (enW us) (fun G => RdL G r us) G) : kEnu q [.ref r] G := ⟨us, h, z⟩
def kZp (q : IK) : List Wv → HW → Prop := fun ws G => match ws with
  | [.ref r, .ref r'] => ∃ us vs, RdL G r us ∧ RdL G r' vs ∧ q (zpW us vs) (fun G => RdL G r us ∧ RdL G r' vs) G
  | [.tup us, .tup vs] => q (zpW us vs) okT G
  | _ => False
theorem m_iZp {q : IK} : iZp tl x σ G q = tl x σ G (kZp q) := rfl
theorem m_kZpT {q : IK} {us vs : List Wv} : kZp q [.tup us, .tup vs] G = q (zpW us vs) okT G := rfl
theorem r_zp {q : IK} {r r' : Addr} {us vs : List Wv} (h1 : RdL G r us) (h2 : RdL G r' vs) (z : q (zpW us vs) (fun G => RdL G r us ∧ RdL G r' vs) G) : kZp q [.ref r, .ref r'] G := ⟨us, vs, h1, h2, z⟩
def kRv (q : IK) : WK := fun w G => match w with
  | .tup ws => q ws.reverse okT G
  | .ref r => ∃ ws, RdL G r ws ∧ q ws.reverse (fun G => RdL G r ws) G
  | _ => False
theorem m_iRv {q : IK} : iRv te x σ G q = te x σ G (kRv q) := rfl
theorem m_kRvT {q : IK} {ws : List Wv} : kRv q (.tup ws) G = q ws.reverse okT G := rfl
theorem r_rv {q : IK} {r : Addr} {ws : List Wv} (h : RdL G r ws) (z : q ws.reverse (fun G => RdL G r ws) G) : kRv q (.ref r) G := ⟨ws, h, z⟩

def kLc (is vs : List Nat) (tt : QT) (te : ET) (x : XW) (σ : SW) (q : WK) : IK := fun its ok G1 => ∀ D, G1 D = none → ∃ P : Nat → HW → Prop, P 0 (updO G1 D (.lst [])) ∧ (∀ i G, i ≤ its.length → P i G → ok G) ∧
  (∀ i w G, its[i]? = some w → P i G → ∃ σ2, inTo is w (wipeW σ vs) = some σ2 ∧ tt x0 σ2 G fun k G3 => match k with
    | true => te x0 σ2 G3 fun y G4 => ∃ acc, G4 D = some (.lst acc) ∧ acc.length < sizeLine ∧ P (i + 1) (updO G4 D (.lst (acc ++ [y])))
    | false => P (i + 1) G3) ∧ ∀ G, P its.length G → q (.ref D) G
theorem m_Lc : eLc wi is vs tt te x σ G q = wi x σ G (kLc is vs tt te x σ q) := rfl
/-- what a turn of a comprehension gives -/
def kCell (k : Option Wv → HW → Prop) : WK := fun y G => k (some y) G
def kTurn (te : ET) (σ2 : SW) (k : Option Wv → HW → Prop) : Bool → HW → Prop := fun b G => match b with
  | true => te x0 σ2 G (kCell k)
  | false => k none G
theorem m_kCell {k : Option Wv → HW → Prop} {w : Wv} : kCell k w G = k (some w) G := rfl
theorem m_kTurnT {k : Option Wv → HW → Prop} {σ2 : SW} : kTurn te σ2 k true G = te x0 σ2 G (kCell k) := rfl
theorem m_kTurnF {k : Option Wv → HW → Prop} {σ2 : SW} : kTurn te σ2 k false G = k none G := rfl
/-- a comprehension by a word of the items gathered so far -/
theorem r_lcI (P : Nat → List Wv → HW → Prop) (hl : its.length ≤ sizeLine)
    (h0 : ∀ D, G D = none → P 0 [] (updO G D (.lst [])))
    (hk : ∀ i acc G', i ≤ its.length → P i acc G' → ok G')
    (hp : ∀ i acc G' D ys, G D = none → P i acc G' → P i acc (updO G' D (.lst ys)))
    (hs : ∀ i w acc G' (k : Option Wv → HW → Prop), its[i]? = some w → P i acc G' → (∀ y G2, P (i + 1) (match y with | some z => acc ++ [z] | none => acc) G2 → (∀ D ys, G D = none → G' D = some (.lst ys) → G2 D = some (.lst ys)) → k y G2) → ∃ σ2, inTo is w (wipeW σ vs) = some σ2 ∧ tt x0 σ2 G' (kTurn te σ2 k))
    (hd : ∀ D acc G', G D = none → P its.length acc G' → G' D = some (.lst acc) → q (.ref D) G') : kLc is vs tt te x σ q its ok G := by
  intro D hD
  refine ⟨fun i G' => ∃ acc, acc.length ≤ i ∧ P i acc G' ∧ G' D = some (.lst acc), ⟨[], Nat.le_refl _, h0 D hD, updO_same⟩, fun i G' hi ⟨acc, _, z, _⟩ => hk i acc G' hi z, fun i w G' ew ⟨acc, hl2, z, e⟩ => ?_, fun G' ⟨acc, _, z, e⟩ => hd D acc G' hD z e⟩
  have hi : i < its.length := by
    rcases Nat.lt_or_ge i its.length with h | h
    · exact h
    · rw [List.getElem?_eq_none h] at ew; cases ew
  obtain ⟨σ2, e2, hq⟩ := hs i w acc G' (fun y G2 => match y with
    | some y => ∃ acc, G2 D = some (.lst acc) ∧ acc.length < sizeLine ∧ ∃ acc', acc'.length ≤ i + 1 ∧ P (i + 1) acc' (updO G2 D (.lst (acc ++ [y]))) ∧ (updO G2 D (.lst (acc ++ [y]))) D = some (.lst acc')
    | none => ∃ acc', acc'.length ≤ i + 1 ∧ P (i + 1) acc' G2 ∧ G2 D = some (.lst acc')) ew z (fun y G2 z2 hD2 => by
      cases y with
      | some y => exact ⟨acc, hD2 D acc hD e, by omega, acc ++ [y], by simp; omega, hp _ _ _ _ _ hD z2, updO_same⟩
      | none => exact ⟨acc, by omega, z2, hD2 D acc hD e⟩)
  refine ⟨σ2, e2, ?_⟩
  have eqk : (kTurn te σ2 (fun y G2 => match y with
    | some y => ∃ acc, G2 D = some (.lst acc) ∧ acc.length < sizeLine ∧ ∃ acc', acc'.length ≤ i + 1 ∧ P (i + 1) acc' (updO G2 D (.lst (acc ++ [y]))) ∧ (updO G2 D (.lst (acc ++ [y]))) D = some (.lst acc')
    | none => ∃ acc', acc'.length ≤ i + 1 ∧ P (i + 1) acc' G2 ∧ G2 D = some (.lst acc'))) = (fun k G3 => match k with
    | true => te x0 σ2 G3 fun y G4 => ∃ acc, G4 D = some (.lst acc) ∧ acc.length < sizeLine ∧ ∃ acc', acc'.length ≤ i + 1 ∧ P (i + 1) acc' (updO G4 D (.lst (acc ++ [y]))) ∧ (updO G4 D (.lst (acc ++ [y]))) D = some (.lst acc')
    | false => ∃ acc', acc'.length ≤ i + 1 ∧ P (i + 1) acc' G3 ∧ G3 D = some (.lst acc')) := by
    funext k G3
    cases k <;> rfl
  rw [← eqk]
  exact hq
/-- what is gathered -/
def gath (f : Nat → Wv → Option Wv) : Nat → List Wv → List Wv
  | _, [] => []
  | i, w :: ws => pk1 (f i w) (gath f (i + 1) ws)
theorem gath_take {f : Nat → Wv → Option Wv} {w : Wv} : ∀ {ws : List Wv} {i j : Nat}, ws[i]? = some w → gath f j (ws.take (i + 1)) = gath f j (ws.take i) ++ (f (j + i) w).toList
  | [], i, j, e => by simp at e
  | a :: ws, 0, j, e => by
    simp at e
    subst e
    simp only [List.take_succ_cons, List.take_zero, gath, Nat.add_zero]
    cases f j a <;> rfl
  | a :: ws, i + 1, j, e => by
    have ih := gath_take (f := f) (j := j + 1) (i := i) (ws := ws) (by simpa using e)
    rw [List.take_succ_cons, List.take_succ_cons]
    show pk1 (f j a) (gath f (j + 1) (ws.take (i + 1))) = pk1 (f j a) (gath f (j + 1) (ws.take i)) ++ _
    rw [ih, show j + 1 + i = j + (i + 1) from by omega]
    cases f j a <;> rfl
/-- a comprehension whose turns only lay anew -/
theorem r_lc (f : Nat → Wv → Option Wv) (hl : its.length ≤ sizeLine) (hk : ∀ G', Ext G G' → ok G')
    (hs : ∀ i w G' (k : Option Wv → HW → Prop), its[i]? = some w → Ext G G' → (∀ G2, Ext G' G2 → k (f i w) G2) → ∃ σ2, inTo is w (wipeW σ vs) = some σ2 ∧ tt x0 σ2 G' (kTurn te σ2 k))
    (hd : ∀ D G', G D = none → Ext G G' → G' D = some (.lst (gath f 0 its)) → q (.ref D) G') : kLc is vs tt te x σ q its ok G := by
  refine r_lcI (fun i acc G' => Ext G G' ∧ acc = gath f 0 (its.take i)) hl (fun D hD => ⟨Ext.new hD, by simp [gath]⟩) (fun i acc G' _ z => hk G' z.1) (fun i acc G' D ys hD z => ⟨z.1.put hD, z.2⟩)
    (fun i w acc G' k ew ⟨z1, z2⟩ hq => hs i w G' k ew z1 fun G2 e2 => hq _ G2 ⟨z1.trans e2, ?_⟩ fun D ys _ h => e2 _ _ h)
    (fun D acc G' hD z e => hd D G' hD z.1 (by rw [e, z.2, List.take_length]))
  rw [gath_take ew, Nat.zero_add, z2]
  cases f i w <;> simp
end
end LF

/-! LF15: kinds of values, data, what is equal -/
namespace LF
open PySem PySem.Spec PyProof.Rows L2
section
variable {K : PySem.W.Frag} {G G' : HW} {w : Wv}
/-! ### kinds -/
def TyIs (K : PySem.W.Frag) (G : HW) (w : Wv) (n : String) (b : Bool) : Prop := ∃ t, TyW K G w t ∧ PySem.W.kitOne K t (.type n) = some b
theorem TyW.ext (h : Ext G G') {t : Value} (y : TyW K G w t) : TyW K G' w t := by
  cases w with
  | ref p =>
    show TyO K p (G' p) t
    have y : TyO K p (G p) t := y
    cases e : G p with
    | none => rw [e] at y; exact y.elim
    | some o => rw [h p o e]; rw [e] at y; exact y
  | _ => exact y
theorem TyIs.ext (h : Ext G G') {n : String} {b : Bool} (y : TyIs K G w n b) : TyIs K G' w n b := let ⟨t, a, e⟩ := y; ⟨t, a.ext h, e⟩
def isI : Wv → Bool
  | .int _ => true
  | .bl _ => true
  | _ => false
def isBl : Wv → Bool
  | .bl _ => true
  | _ => false
def isSt : Wv → Bool
  | .str _ => true
  | _ => false
def isTp : Wv → Bool
  | .tup _ => true
  | _ => false
def isLs (G : HW) : Wv → Bool
  | .ref p => match G p with
    | some (.lst _) => true
    | some (.flst _) => true
    | _ => false
  | _ => false
def isDc (G : HW) : Wv → Bool
  | .ref p => match G p with
    | some (.dct _) => true
    | some (.dtp _) => true
    | _ => false
  | _ => false
/-- what is asked of a value's kind is known -/
structure Kn (K : PySem.W.Frag) (G : HW) (w : Wv) : Prop where
  i : TyIs K G w "int" (isI w)
  b : TyIs K G w "bool" (isBl w)
  s : TyIs K G w "str" (isSt w)
  t : TyIs K G w "tuple" (isTp w)
  l : TyIs K G w "list" (isLs G w)
  d : TyIs K G w "dict" (isDc G w)
theorem Kn.has {p : Addr} (h : Kn K G (.ref p)) : ∃ o, G p = some o := by
  obtain ⟨t, y, _⟩ := h.i
  have y : TyO K p (G p) t := y
  cases e : G p with
  | none => rw [e] at y; exact y.elim
  | some o => exact ⟨o, rfl⟩
theorem Kn.ext (h : Ext G G') (k : Kn K G w) : Kn K G' w := by
  have e : isLs G' w = isLs G w ∧ isDc G' w = isDc G w := by
    cases w with
    | ref p =>
      obtain ⟨o, e⟩ := k.has
      unfold isLs isDc
      dsimp only
      rw [e, h p o e]
      exact ⟨rfl, rfl⟩
    | _ => exact ⟨rfl, rfl⟩
  exact ⟨k.i.ext h, k.b.ext h, k.s.ext h, k.t.ext h, by rw [e.1]; exact k.l.ext h, by rw [e.2]; exact k.d.ext h⟩
theorem kn_non : Kn K G .non := ⟨⟨_, rfl, rfl⟩, ⟨_, rfl, rfl⟩, ⟨_, rfl, rfl⟩, ⟨_, rfl, rfl⟩, ⟨_, rfl, rfl⟩, ⟨_, rfl, rfl⟩⟩
theorem kn_bl {b : Bool} : Kn K G (.bl b) := ⟨⟨_, rfl, rfl⟩, ⟨_, rfl, rfl⟩, ⟨_, rfl, rfl⟩, ⟨_, rfl, rfl⟩, ⟨_, rfl, rfl⟩, ⟨_, rfl, rfl⟩⟩
theorem kn_int {i : Int} : Kn K G (.int i) := ⟨⟨_, rfl, rfl⟩, ⟨_, rfl, rfl⟩, ⟨_, rfl, rfl⟩, ⟨_, rfl, rfl⟩, ⟨_, rfl, rfl⟩, ⟨_, rfl, rfl⟩⟩
theorem kn_str {i : Str} : Kn K G (.str i) := ⟨⟨_, rfl, rfl⟩, ⟨_, rfl, rfl⟩, ⟨_, rfl, rfl⟩, ⟨_, rfl, rfl⟩, ⟨_, rfl, rfl⟩, ⟨_, rfl, rfl⟩⟩
theorem kn_tup {ws : List Wv} : Kn K G (.tup ws) := ⟨⟨_, rfl, rfl⟩, ⟨_, rfl, rfl⟩, ⟨_, rfl, rfl⟩, ⟨_, rfl, rfl⟩, ⟨_, rfl, rfl⟩, ⟨_, rfl, rfl⟩⟩
theorem kn_of {p : Addr} {o : O} {n : String} (e : G p = some o) (y : TyO K p (some o) (.type n)) (h1 : PySem.W.kitOne K (.type n) (.type "int") = some false) (h2 : PySem.W.kitOne K (.type n) (.type "bool") = some false) (h3 : PySem.W.kitOne K (.type n) (.type "str") = some false) (h4 : PySem.W.kitOne K (.type n) (.type "tuple") = some false)
    (h5 : PySem.W.kitOne K (.type n) (.type "list") = some (isLs G (.ref p))) (h6 : PySem.W.kitOne K (.type n) (.type "dict") = some (isDc G (.ref p))) : Kn K G (.ref p) := by
  have y : TyW K G (.ref p) (.type n) := show TyO K p (G p) _ by rw [e]; exact y
  exact ⟨⟨_, y, h1⟩, ⟨_, y, h2⟩, ⟨_, y, h3⟩, ⟨_, y, h4⟩, ⟨_, y, h5⟩, ⟨_, y, h6⟩⟩
theorem kn_lst {p : Addr} {ws : List Wv} (e : G p = some (.lst ws)) : Kn K G (.ref p) := kn_of e (n := "list") rfl rfl rfl rfl rfl (by unfold isLs; dsimp only; rw [e]; rfl) (by unfold isDc; dsimp only; rw [e]; rfl)
theorem kn_dct {p : Addr} {ws : List (Key × Wv)} (e : G p = some (.dct ws)) : Kn K G (.ref p) := kn_of e (n := "dict") rfl rfl rfl rfl rfl (by unfold isLs; dsimp only; rw [e]; rfl) (by unfold isDc; dsimp only; rw [e]; rfl)
theorem kn_dtp {p : Addr} {ws : List (List Key × Wv)} (e : G p = some (.dtp ws)) : Kn K G (.ref p) := kn_of e (n := "dict") rfl rfl rfl rfl rfl (by unfold isLs; dsimp only; rw [e]; rfl) (by unfold isDc; dsimp only; rw [e]; rfl)
variable {q : WK}
theorem r_ty {n : String} {b : Bool} (y : TyIs K G w n b) (z : q (.bl b) G) : wIsi K [w, .ty n] G q := let ⟨t, a, e⟩ := y; r_isi a rfl e z

/-! ### whole numbers, configurations -/
def isWh (w : Wv) (lo hi : Int) : Bool := match w with
  | .int i => decide (lo ≤ i) && decide (i ≤ hi)
  | _ => false
def SpWhole (K : PySem.W.Frag) : SpW := fun ws G q _ => ∃ w lo hi, ws = [w, .int lo, .int hi] ∧ Kn K G w ∧ q (.bl (isWh w lo hi)) G
def pairLt : Wv → Bool
  | .tup [.int a, .int b] => decide (a < b)
  | _ => false
def rises (ws : List Wv) : Bool := (zpW ws (ws.drop 1)).all pairLt
def isConf (w : Wv) (n : Int) : Bool := match w with
  | .tup ws => decide ((ws.length : Int) ≤ n) && (ws.all (isWh · 0 (n - 1)) && rises ws)
  | _ => false
/-- what a check of w looks into is known -/
def KnD (K : PySem.W.Frag) (G : HW) (n : Int) (w : Wv) : Prop := Kn K G w ∧ ∀ ws, w = .tup ws → (ws.length : Int) ≤ n → ∀ y ∈ ws, Kn K G y
theorem KnD.ext (h : Ext G G') {n : Int} (k : KnD K G n w) : KnD K G' n w := ⟨k.1.ext h, fun ws e l y m => (k.2 ws e l y m).ext h⟩
theorem knD_no {n : Int} (h : Kn K G w) (e : isTp w = false) : KnD K G n w := ⟨h, fun ws z => by subst z; cases e⟩
theorem knD_tup {n : Int} {ws : List Wv} (h : ∀ y ∈ ws, Kn K G y) : KnD K G n (.tup ws) := ⟨kn_tup, fun ws' e _ => by cases e; exact h⟩
theorem knD_long {n : Int} {ws : List Wv} (h : ¬ (ws.length : Int) ≤ n) : KnD K G n (.tup ws) := ⟨kn_tup, fun ws' e l => by cases e; exact absurd l h⟩
theorem knD_ints {n : Int} {ns : List Int} : KnD K G n (.tup (ns.map .int)) := knD_tup fun y hy => by
  obtain ⟨i, _, rfl⟩ := List.mem_map.mp hy
  exact kn_int
def SpConf (K : PySem.W.Frag) : SpW := fun ws G q _ => ∃ w n, ws = [w, .int n] ∧ n ≤ 1000000 ∧ KnD K G n w ∧ ∀ G', Ext G G' → q (.bl (isConf w n)) G'
def SpNeed (K : PySem.W.Frag) (C : Addr) : SpW := fun ws G q x => ∃ w y n, ws = [w, y, .int n] ∧ n ≤ 1000000 ∧ KnD K G n w ∧ (isConf w n = true → ∀ G', Ext G G' → q .non G') ∧ (isConf w n = false → ∀ G', Ext G G' → x (.ref C) [("what", y)] G')
/-- a configuration is a rising tuple of ints in range -/
def Cfg (ns : List Int) (n : Int) : Prop := (ns.length : Int) ≤ n ∧ (∀ i ∈ ns, 0 ≤ i ∧ i < n) ∧ ns.Pairwise (· < ·)
theorem rises_ints : ∀ ns : List Int, rises (ns.map .int) = true ↔ ns.Pairwise (· < ·)
  | [] => by simp [rises, zpW]
  | [a] => by simp [rises, zpW]
  | a :: b :: ns => by
    have ih := rises_ints (b :: ns)
    have e : rises ((a :: b :: ns).map .int) = (decide (a < b) && rises ((b :: ns).map .int)) := by
      simp [rises, zpW, pairLt]
    rw [e, Bool.and_eq_true, ih, List.pairwise_cons (a := a), decide_eq_true_iff]
    constructor
    · rintro ⟨h1, h2⟩
      refine ⟨fun c hc => ?_, h2⟩
      rcases List.mem_cons.mp hc with rfl | hc
      · exact h1
      · exact Int.lt_trans h1 ((List.pairwise_cons.mp h2).1 c hc)
    · rintro ⟨h1, h2⟩
      exact ⟨h1 b (by simp), h2⟩
theorem conf_ints {ns : List Int} {n : Int} : isConf (.tup (ns.map .int)) n = true ↔ Cfg ns n := by
  unfold isConf Cfg
  rw [Bool.and_eq_true, Bool.and_eq_true, rises_ints, decide_eq_true_iff, List.length_map, List.all_map, List.all_eq_true]
  refine and_congr_right fun _ => and_congr_left fun _ => forall_congr' fun i => forall_congr' fun _ => ?_
  simp only [Function.comp, isWh, Bool.and_eq_true, decide_eq_true_iff]
  omega
theorem conf_of {w : Wv} {n : Int} (h : isConf w n = true) : ∃ ns : List Int, w = .tup (ns.map .int) ∧ Cfg ns n := by
  cases w with
  | tup ws =>
    have h' := h
    unfold isConf at h'
    rw [Bool.and_eq_true, Bool.and_eq_true, List.all_eq_true] at h'
    have e : ∀ ws : List Wv, (∀ y ∈ ws, isWh y 0 (n - 1) = true) → ∃ ns : List Int, ws = ns.map .int := by
      intro ws
      induction ws with
      | nil => exact fun _ => ⟨[], rfl⟩
      | cons y ws ih =>
        intro hh
        obtain ⟨ns, rfl⟩ := ih fun z hz => hh z (List.mem_cons_of_mem _ hz)
        have hy := hh y List.mem_cons_self
        cases y <;> first | cases hy | exact ⟨_ :: ns, rfl⟩
    obtain ⟨ns, rfl⟩ := e ws h'.2.1
    exact ⟨ns, rfl, conf_ints.mp h⟩
  | _ => cases h

/-! ### comprehensions of truths -/
theorem gath_map (f : Wv → Wv) : ∀ (ws : List Wv) (i : Nat), gath (fun _ w => some (f w)) i ws = ws.map f
  | [], _ => rfl
  | w :: ws, i => congrArg (f w :: ·) (gath_map f ws (i + 1))
theorem gath_filter (p : Wv → Bool) (f : Wv → Wv) : ∀ (ws : List Wv) (i : Nat), gath (fun _ w => if p w then some (f w) else none) i ws = (ws.filter p).map f
  | [], _ => rfl
  | w :: ws, i => by
    have ih := gath_filter p f ws (i + 1)
    unfold gath
    rw [ih, List.filter_cons]
    cases p w <;> rfl
variable {x : XW} {σ : SW} {te : ET} {tt : QT} {is vs : List Nat} {its : List Wv} {ok : HW → Prop}
theorem r_lcM (f : Wv → Wv) (hl : its.length ≤ sizeLine) (hk : ∀ G', Ext G G' → ok G')
    (hs : ∀ (i : Nat) w G' (k : Option Wv → HW → Prop), its[i]? = some w → Ext G G' → (∀ G2, Ext G' G2 → k (some (f w)) G2) → ∃ σ2, inTo is w (wipeW σ vs) = some σ2 ∧ tt x0 σ2 G' (kTurn te σ2 k))
    (hd : ∀ D G', G D = none → Ext G G' → G' D = some (.lst (its.map f)) → q (.ref D) G') : kLc is vs tt te x σ q its ok G :=
  r_lc (fun _ w => some (f w)) hl hk hs fun D G' n e h => hd D G' n e (by rw [h, gath_map])
theorem r_lcB (f : Wv → Bool) (hl : its.length ≤ sizeLine) (hk : ∀ G', Ext G G' → ok G')
    (hs : ∀ (i : Nat) w G' (k : Option Wv → HW → Prop), its[i]? = some w → Ext G G' → (∀ G2, Ext G' G2 → k (some (.bl (f w))) G2) → ∃ σ2, inTo is w (wipeW σ vs) = some σ2 ∧ tt x0 σ2 G' (kTurn te σ2 k))
    (hd : ∀ D G', G D = none → Ext G G' → G' D = some (.lst ((its.map f).map .bl)) → q (.ref D) G') : kLc is vs tt te x σ q its ok G :=
  r_lcM (fun w => .bl (f w)) hl hk hs fun D G' n e h => hd D G' n e (by rw [h, List.map_map]; rfl)
theorem all_id (f : Wv → Bool) (ws : List Wv) : (ws.map f).all id = ws.all f := by rw [List.all_map]; rfl
theorem any_id (f : Wv → Bool) (ws : List Wv) : (ws.map f).any id = ws.any f := by rw [List.any_map]; rfl

/-! ### data -/
mutual
theorem Dt.ext (h : Ext G G') : ∀ {d : PyData} {w : Wv}, Dt G w d → Dt G' w d
  | .none, _, z => by cases z; exact .non
  | .bool b, _, z => by cases z; exact .bl b
  | .int i, _, z => by cases z; exact .int i
  | .str y, _, z => by cases z; exact .str y
  | .list ds, _, z => by
    cases z with
    | lst a b => exact .lst (a.ext h) (Dts.ext h b)
  | .tuple ds, _, z => by
    cases z with
    | tup b => exact .tup (Dts.ext h b)
  | .dict _, _, z => by cases z
theorem Dts.ext (h : Ext G G') : ∀ {ds : List PyData} {ws : List Wv}, Dts G ws ds → Dts G' ws ds
  | [], _, z => by cases z; exact .nil
  | d :: ds, _, z => by
    cases z with
    | cons a b => exact .cons (Dt.ext h a) (Dts.ext h b)
end
theorem dts_ints : ∀ ns : List Int, Dts G (ns.map .int) (ns.map .int)
  | [] => .nil
  | n :: ns => .cons (.int n) (dts_ints ns)
theorem dts_strs : ∀ ns : List Str, Dts G (ns.map .str) (ns.map .str)
  | [] => .nil
  | n :: ns => .cons (.str n) (dts_strs ns)
theorem dt_ints (ns : List Int) : Dt G (.tup (ns.map .int)) (.tuple (ns.map .int)) := .tup (dts_ints ns)
theorem dts_map {α : Type} {f : α → Wv} {g : α → PyData} (h : ∀ a, Dt G (f a) (g a)) : ∀ l : List α, Dts G (l.map f) (l.map g)
  | [] => .nil
  | a :: l => .cons (h a) (dts_map h l)
theorem lay_ints : ∀ ns : List Int, PyData.canLayAll0 (ns.map .int) = true
  | [] => by simp [PyData.canLayAll0]
  | n :: ns => by rw [List.map_cons, PyData.canLayAll0, lay_ints ns]; simp [PyData.canLay0]
theorem depth_ints : ∀ ns : List Int, PyData.depthAll (ns.map .int) = 0
  | [] => by simp [PyData.depthAll]
  | n :: ns => by rw [List.map_cons, PyData.depthAll, depth_ints ns]; simp [PyData.depth]
theorem shaped_ints (ns : List Int) : SeqAt.shaped (.tuple (ns.map .int)) = true := by
  unfold SeqAt.shaped
  rw [PyData.canLay0, lay_ints, PyData.depth, depth_ints]
  rfl
theorem shaped_intsL (ns : List Int) : SeqAt.shaped (.list (ns.map .int)) = true := by
  unfold SeqAt.shaped
  rw [PyData.canLay0, lay_ints, PyData.depth, depth_ints]
  rfl
theorem eqvAll_ints : ∀ ns ms : List Int, PyData.eqvAll (ns.map .int) (ms.map .int) = decide (ns = ms)
  | [], [] => by simp [PyData.eqvAll]
  | [], m :: ms => by simp [PyData.eqvAll]
  | n :: ns, [] => by simp [PyData.eqvAll]
  | n :: ns, m :: ms => by
    rw [List.map_cons, List.map_cons, PyData.eqvAll, eqvAll_ints ns ms, PyData.eqv]
    by_cases h1 : n = m <;> by_cases h2 : ns = ms <;> simp [h1, h2]
theorem r_ne {a b : Wv} {d e : PyData} {k : Bool} (h1 : Dt G a d) (h2 : Dt G b e) (s1 : SeqAt.shaped d = true) (s2 : SeqAt.shaped e = true) (e' : PyData.eqv d e = k) (z : q (.bl (!k)) G) : wNe a b G q := by
  have nd : wNeD a b G q := ⟨d, e, h1, h2, s1, s2, by rw [e']; exact z⟩
  unfold wNe
  split
  · cases h1; cases h2
    subst e'
    rw [PyData.eqv] at z
    rename_i i j
    rw [show decide (i = j) = (i == j) from by by_cases h : i = j <;> simp [h]]
    exact z
  · cases h1; cases h2
    subst e'
    rw [PyData.eqv] at z
    rename_i i j
    rw [show decide (i = j) = (i == j) from by by_cases h : i = j <;> simp [h]]
    exact z
  · exact nd
theorem r_eq {a b : Wv} {d e : PyData} {k : Bool} (h1 : Dt G a d) (h2 : Dt G b e) (s1 : SeqAt.shaped d = true) (s2 : SeqAt.shaped e = true) (e' : PyData.eqv d e = k) (z : q (.bl k) G) : wEq a b G q := by
  have nd : wEqD a b G q := ⟨d, e, h1, h2, s1, s2, by rw [e']; exact z⟩
  unfold wEq
  split
  · cases h1; cases h2
    subst e'
    rw [PyData.eqv] at z
    rename_i i j
    rw [show decide (i = j) = (i == j) from by by_cases h : i = j <;> simp [h]]
    exact z
  · cases h1; cases h2
    subst e'
    rw [PyData.eqv] at z
    rename_i i j
    rw [show decide (i = j) = (i == j) from by by_cases h : i = j <;> simp [h]]
    exact z
  · exact nd
end
end LF

/-! LF16: what the laws' own small functions keep -/
namespace LF
open PySem PySem.Spec PyProof.Rows L2
theorem m_wip0 {σ : SW} : wipeW σ [] = σ := rfl
theorem m_wip1 {σ : SW} {v : Nat} {vs : List Nat} : wipeW σ (v :: vs) = (wipeW σ vs).set v none := rfl
section
variable {K : PySem.W.Frag} {G G' : HW} {w : Wv}
/-! ### places -/
theorem atI_n {α : Type} {ws : List α} {i : Nat} {w : α} (h : ws[i]? = some w) : atI ws (i : Int) = some w := by
  have hi : i < ws.length := by
    rcases Nat.lt_or_ge i ws.length with z | z
    · exact z
    · rw [List.getElem?_eq_none z] at h; cases h
  unfold atI ixN
  rw [if_pos (by omega), if_pos (by omega)]
  simpa using h
theorem atI_int {α : Type} {ws : List α} {i : Int} {w : α} (h0 : 0 ≤ i) (h : ws[i.toNat]? = some w) : atI ws i = some w := by
  have e : i = (i.toNat : Int) := by omega
  rw [e]
  exact atI_n h
theorem ixN_int {n : Nat} {i : Int} (h0 : 0 ≤ i) (h1 : i < n) : ixN n i = some i.toNat := by
  unfold ixN
  rw [if_pos h0, if_pos h1]
theorem at_map {ns : List Int} {i : Nat} (h : i < ns.length) : (ns.map Wv.int)[i]? = some (.int ns[i]) := by
  rw [List.getElem?_map, List.getElem?_eq_getElem h]
  rfl
theorem setI {ns : List Int} {i : Nat} {v : Int} : (ns.map Wv.int).set i (.int v) = (ns.set i v).map Wv.int := by rw [List.map_set]
theorem rg_at {lo c : Int} {n i : Nat} {w : Wv} (h : (rgW lo c n)[i]? = some w) : i < n ∧ w = .int (lo + (i : Nat) * c) := by
  unfold rgW at h
  rw [List.getElem?_map] at h
  rcases Nat.lt_or_ge i n with z | z
  · rw [List.getElem?_range z] at h
    exact ⟨z, (Option.some.inj h).symm⟩
  · rw [List.getElem?_eq_none (by simpa using z)] at h; cases h
theorem few {α : Type} {l : List α} (h : l.length ≤ 64 := by exact Nat.le_of_ble_eq_true rfl) : l.length < sizeLine := by rw [sizeLine_eq]; omega
/-- cuts -/
def cutN {α : Type} (xs : List α) (a b : Nat) : List α := (xs.drop a).take (b - a)
theorem cut_nat {α : Type} (xs : List α) (a b : Int) (h1 : 0 ≤ a) (h2 : a ≤ b) (h3 : b ≤ xs.length) : cutL xs (some a) (some b) = cutN xs a.toNat b.toNat := by
  have e : ∀ z : Int, ∀ d : Nat, 0 ≤ z → z ≤ xs.length → HT.sIx xs.length d (some z) = z.toNat := fun z d y1 y2 => by
    show (if z < 0 then (z + (xs.length : Int)).toNat else min z.toNat xs.length) = z.toNat
    rw [if_neg (by omega)]
    omega
  unfold cutL cutN
  rw [e a 0 h1 (by omega), e b _ (by omega) h3]
theorem cutN_map {α β : Type} (f : α → β) (xs : List α) (a b : Nat) : cutN (xs.map f) a b = (cutN xs a b).map f := by
  unfold cutN
  rw [List.map_take, List.map_drop]
theorem cutN_len {α : Type} (xs : List α) {a b : Nat} (h : b ≤ xs.length) : (cutN xs a b).length = b - a := by
  unfold cutN
  rw [List.length_take, List.length_drop]
  omega
theorem cutN_app {α : Type} (xs : List α) {a b : Nat} (h : a ≤ b) : xs.take a ++ cutN xs a b = xs.take b := by
  unfold cutN
  have := List.take_add (l := xs) (i := a) (j := b - a)
  rw [show a + (b - a) = b from by omega] at this
  exact this.symm

/-! ### parts -/
def cutAt (n m i : Nat) : Nat := i * n / m
def partN (ns : List Int) (m i : Nat) : List Int := cutN ns (cutAt ns.length m i) (cutAt ns.length m (i + 1))
def partsW (ns : List Int) (m : Nat) : List Wv := (List.range m).map fun i => .tup ((partN ns m i).map .int)
theorem cutAt_le (n m i : Nat) (h : i ≤ m) (hm : 0 < m) : cutAt n m i ≤ n := by
  unfold cutAt
  calc i * n / m ≤ m * n / m := Nat.div_le_div_right (Nat.mul_le_mul_right n h)
    _ = n := Nat.mul_div_cancel_left n hm
theorem cutAt_mono (n m i : Nat) : cutAt n m i ≤ cutAt n m (i + 1) := Nat.div_le_div_right (Nat.mul_le_mul_right n (Nat.le_succ i))
theorem cutAt_end (n m : Nat) (hm : 0 < m) : cutAt n m m = n := Nat.mul_div_cancel_left n hm
theorem cutAt_zero (n m : Nat) : cutAt n m 0 = 0 := by unfold cutAt; simp
theorem part_len (ns : List Int) (m i : Nat) (h : i < m) : (partN ns m i).length = cutAt ns.length m (i + 1) - cutAt ns.length m i := cutN_len ns (cutAt_le _ m _ h (by omega))
/-- a part has as many as the least one, or one more -/
theorem part_size (ns : List Int) (m i : Nat) (h : i < m) : ns.length / m ≤ (partN ns m i).length ∧ (partN ns m i).length ≤ ns.length / m + 1 := by
  rw [part_len ns m i h]
  unfold cutAt
  have hm : 0 < m := by omega
  generalize ns.length = n
  have h1 : (i + 1) * n = i * n + n := by rw [Nat.add_mul, Nat.one_mul]
  rw [h1]
  have e1 := Nat.div_add_mod (i * n) m
  have e2 := Nat.div_add_mod n m
  have l1 := Nat.mod_lt (i * n) hm
  have l2 := Nat.mod_lt n hm
  have e3 := Nat.div_add_mod (i * n + n) m
  have l3 := Nat.mod_lt (i * n + n) hm
  generalize i * n / m = A at *
  generalize n / m = B at *
  generalize (i * n + n) / m = C at *
  have c1 : m * (A + B) ≤ m * C + (m - 1) := by rw [Nat.mul_add]; omega
  have c2 : m * C ≤ m * (A + B + 1) + (m - 1) := by rw [Nat.mul_add, Nat.mul_add]; omega
  have d1 : A + B ≤ C := by
    rcases Nat.lt_or_ge C (A + B) with z | z
    · have := Nat.mul_le_mul_left m z
      rw [Nat.succ_eq_add_one, Nat.mul_add] at this
      omega
    · exact z
  have d2 : C ≤ A + B + 1 := by
    rcases Nat.lt_or_ge (A + B + 1) C with z | z
    · have := Nat.mul_le_mul_left m z
      rw [Nat.succ_eq_add_one, Nat.mul_add m (A + B + 1)] at this
      omega
    · exact z
  omega
theorem cut_part {ns : List Int} {m i : Nat} (h : i < m) : cutL (ns.map Wv.int) (some ((i : Int) * (ns.length : Int) / (m : Int))) (some (((i : Int) + 1) * (ns.length : Int) / (m : Int))) = (partN ns m i).map .int := by
  have e1 : (i : Int) * (ns.length : Int) / (m : Int) = ((cutAt ns.length m i : Nat) : Int) := by unfold cutAt; push_cast; rfl
  have e2 : ((i : Int) + 1) * (ns.length : Int) / (m : Int) = ((cutAt ns.length m (i + 1) : Nat) : Int) := by unfold cutAt; push_cast; rfl
  rw [e1, e2, cut_nat _ _ _ (by omega) (by have := cutAt_mono ns.length m i; omega) (by rw [List.length_map]; have := cutAt_le ns.length m (i + 1) h (by omega); omega), cutN_map]
  rfl
theorem rg_nat {n i : Nat} {w : Wv} (h : (rgW 0 1 n)[i]? = some w) : i < n ∧ w = .int i := by
  obtain ⟨h1, rfl⟩ := rg_at h
  exact ⟨h1, by rw [Int.zero_add, Int.mul_one]⟩
def partF (ns : List Int) (m : Nat) (w : Wv) : Wv := match w with
  | .int i => .tup ((partN ns m i.toNat).map .int)
  | w => w
theorem partF_all (ns : List Int) (m : Nat) : (rgW 0 1 m).map (partF ns m) = partsW ns m := by
  unfold rgW partsW
  rw [List.map_map]
  apply List.map_congr_left
  intro i _
  show partF ns m (.int (0 + (i : Int) * 1)) = _
  rw [Int.zero_add, Int.mul_one]
  unfold partF; dsimp only
  rw [Int.toNat_natCast]
def SpParted (K : PySem.W.Frag) (C : Addr) : SpW := fun ws G q x => ∃ w y, ws = [w, y] ∧ KnD K G 120 w ∧ Kn K G y ∧ (isConf w 120 = false → ∀ G', Ext G G' → x (.ref C) [("what", .str "parts")] G') ∧
  ∀ ns : List Int, w = .tup (ns.map .int) → Cfg ns 120 → (isWh y 1 ns.length = false → ∀ G', Ext G G' → x (.ref C) [("what", .str "many")] G') ∧
    ∀ m : Nat, y = .int m → 1 ≤ m → m ≤ ns.length → ∀ l G', G l = none → Ext G G' → G' l = some (.lst (partsW ns m)) → q (.ref l) G'

section
variable {C : Addr} {q : WK} {x : XE}
theorem ints_inj {ns ms : List Int} (e : Wv.tup (ns.map .int) = .tup (ms.map .int)) : ns = ms := by
  have e := congrArg (fun w => match w with | Wv.tup ws => ws | _ => []) e
  dsimp only at e
  exact (List.map_inj_right (fun a b h => by cases h; rfl)).mp e
theorem parted_many {ns : List Int} {y : Wv} (cf : Cfg ns 120) (ky : Kn K G y) (e : isWh y 1 ns.length = false) (h : ∀ G', Ext G G' → x (.ref C) [("what", .str "many")] G') : SpParted K C [.tup (ns.map .int), y] G q x :=
  ⟨_, _, rfl, knD_ints, ky, (fun z => by rw [conf_ints.mpr cf] at z; cases z), fun ns' e' _ => by
    obtain rfl := ints_inj e'
    exact ⟨fun _ => h, fun m em m1 m2 => by
      subst em
      simp only [isWh, Bool.and_eq_false_iff, decide_eq_false_iff_not] at e
      omega⟩⟩
theorem parted_parts {w y : Wv} (kw : KnD K G 120 w) (ky : Kn K G y) (e : isConf w 120 = false) (h : ∀ G', Ext G G' → x (.ref C) [("what", .str "parts")] G') : SpParted K C [w, y] G q x :=
  ⟨_, _, rfl, kw, ky, (fun _ => h), fun ns e' cf => by
    subst e'
    rw [conf_ints.mpr cf] at e
    cases e⟩
theorem parted_ok {ns : List Int} {m : Nat} (cf : Cfg ns 120) (m1 : 1 ≤ m) (m2 : m ≤ ns.length) (h : ∀ l G', G l = none → Ext G G' → G' l = some (.lst (partsW ns m)) → q (.ref l) G') : SpParted K C [.tup (ns.map .int), .int m] G q x :=
  ⟨_, _, rfl, knD_ints, kn_int, (fun z => by rw [conf_ints.mpr cf] at z; cases z), fun ns' e' _ => by
    obtain rfl := ints_inj e'
    refine ⟨fun z => ?_, fun m' em _ _ => ?_⟩
    · simp only [isWh, Bool.and_eq_false_iff, decide_eq_false_iff_not] at z
      omega
    · obtain rfl : m = m' := by cases em; rfl
      exact h⟩
end

/-! ### numbers drawn from the script -/
def SpMixed : SpW := fun ws G q _ => ∃ c k, ws = [.int c, .int k] ∧ 0 ≤ k ∧ k < 2 ^ 50 ∧ ∀ r, 0 ≤ r → q (.int r) G
/-- the state of drawing: at m, its lists at a, b; n more may be drawn -/
def DSt (G : HW) (m a b : Addr) (n : Nat) : Prop := ∃ (k : Int) (cells left : List Int), G m = some (.dct [(.inr "cells", .ref a), (.inr "left", .ref b), (.inr "spot", .int k)]) ∧ G a = some (.lst (cells.map .int)) ∧ cells.length = 64 ∧ G b = some (.lst (left.map .int)) ∧ left.length ≤ 63 ∧ 0 ≤ k ∧ k + n ≤ 2 ^ 40 ∧ a ≠ b
theorem DSt.ext {m a b : Addr} {n : Nat} (h : DSt G m a b n) (e : Ext G G') : DSt G' m a b n := let ⟨k, c, l, h1, h2, h3, h4, h5⟩ := h; ⟨k, c, l, e _ _ h1, e _ _ h2, h3, e _ _ h4, h5⟩
theorem DSt.mono {m a b : Addr} {n n' : Nat} (h : DSt G m a b n) (e : n' ≤ n) : DSt G m a b n' := let ⟨k, c, l, h1, h2, h3, h4, h5, h6, h7, h8⟩ := h; ⟨k, c, l, h1, h2, h3, h4, h5, h6, by omega, h8⟩
theorem DSt.put {m a b p : Addr} {n : Nat} {o : O} (h : DSt G m a b n) (h1 : p ≠ m) (h2 : p ≠ a) (h3 : p ≠ b) : DSt (updO G p o) m a b n := let ⟨k, c, l, e1, e2, r3, e4, r5⟩ := h; ⟨k, c, l, by rw [updO_ne h1.symm]; exact e1, by rw [updO_ne h2.symm]; exact e2, r3, by rw [updO_ne h3.symm]; exact e4, r5⟩
def SpDraw : SpW := fun ws G q _ => ∃ m a b top n, ws = [.ref m, .int top] ∧ 0 < top ∧ top < 2 ^ 30 ∧ DSt G m a b (n + 1) ∧ ∀ r G', 0 ≤ r → r < top → Kp [m, b] G G' → DSt G' m a b n → q (.int r) G'
def SpFolded : SpW := fun ws G q _ => ∃ ns : List Int, ws = [.kls (ns.map .int)] ∧ ns.length ≤ 63 ∧ ∀ (l : Addr) (cells : List Int) (G' : HW), G l = none → Ext G G' → G' l = some (.lst (cells.map .int)) → cells.length = 64 → q (.ref l) G'
def SpBegun : SpW := fun ws G q _ => ∃ ns : List Int, ws = [.kls (ns.map .int)] ∧ ns.length ≤ 63 ∧ ∀ m a b G', G m = none → G a = none → G b = none → Ext G G' → DSt G' m a b (2 ^ 40) → q (.ref m) G'
def SpSome : SpW := fun ws G q _ => ∃ m a b, ∃ size n : Nat, ws = [.ref m, .int size] ∧ size ≤ 1000000 ∧ DSt G m a b (n + size + 2) ∧ ∀ (ns : List Int) (G' : HW), Cfg ns size → Kp [m, b] G G' → DSt G' m a b n → q (.tup (ns.map .int)) G'

theorem Cfg.mono {ns : List Int} {n n' : Int} (h : Cfg ns n) (e : n ≤ n') : Cfg ns n' := ⟨by have := h.1; omega, fun i hi => ⟨(h.2.1 i hi).1, by have := (h.2.1 i hi).2; omega⟩, h.2.2⟩
theorem cfg_nil {n : Int} (h : 0 ≤ n) : Cfg [] n := ⟨by simpa using h, (fun i hi => by cases hi), List.Pairwise.nil⟩
theorem Cfg.snoc {ns : List Int} {i : Nat} (h : Cfg ns i) : Cfg (ns ++ [(i : Int)]) ((i + 1 : Nat) : Int) := by
  obtain ⟨h1, h2, h3⟩ := h
  refine ⟨by simp; omega, fun j hj => ?_, List.pairwise_append.mpr ⟨h3, List.pairwise_singleton _ _, fun a ha b hb => ?_⟩⟩
  · rcases List.mem_append.mp hj with z | z
    · have := h2 j z; omega
    · cases List.mem_singleton.mp z; omega
  · cases List.mem_singleton.mp hb
    exact (h2 a ha).2

/-! ### deeds and what is told of them -/
def SpClass (C : Addr) : SpW := fun ws G q _ => ∃ a y, ws = [.ref a] ∧ G a = some (.exc a (.ref C) [(("what" : Str), y)]) ∧ q (.tup [.str "value", y]) G
/-- E, R: how the deed ends -/
def SpTold (C : Addr) : SpT := fun tl G q _ => ∃ (E : Value → List (Str × Wv) → HW → Prop) (R : Wv → HW → Prop), (∀ G0 xe qe, Ext G G0 → (∀ cls fs G1, E cls fs G1 → xe cls fs G1) → (∀ w G1, R w G1 → qe w G1) → tl xe G0 qe) ∧
  (∀ cls fs G1, E cls fs G1 → cls = .ref C ∧ ∃ y, fs = [(("what" : Str), y)] ∧ ∀ G2, Ext G1 G2 → q (.tup [.str "value", y]) G2) ∧ (∀ w G1, R w G1 → ∀ l G2, G1 l = none → Ext G1 G2 → G2 l = some (.lst [w]) → q (.ref l) G2)
/-- a deed that is refused -/
theorem told_bad {C : Addr} {tl : TlT} {q : WK} {x : XE} (y : Wv) (h : ∀ G0 xe qe, Ext G G0 → (∀ G1, Ext G G1 → xe (.ref C) [(("what" : Str), y)] G1) → tl xe G0 qe) (z : ∀ G2, Ext G G2 → q (.tup [.str "value", y]) G2) : SpTold C tl G q x :=
  ⟨fun cls fs G1 => cls = .ref C ∧ fs = [(("what" : Str), y)] ∧ Ext G G1, fun _ _ => False, fun G0 xe qe ex he _ => h G0 xe qe ex fun G1 e => he _ _ _ ⟨rfl, rfl, e⟩,
    fun cls fs G1 ⟨e1, e2, e3⟩ => ⟨e1, y, e2, fun G2 e4 => z G2 (e3.trans e4)⟩, fun _ _ z => z.elim⟩

/-! ### far things -/
def deepN : Nat → Wv
  | 0 => .int 1
  | n + 1 => .tup [deepN n]
def twiceN : Nat → Wv
  | 0 => .tup [.int 1, .int 1]
  | n + 1 => .tup [twiceN n, twiceN n]
def farW (l1 l2 : Addr) : List Wv := [.tup [deepN 2999], .tup [twiceN 59, twiceN 59], .tup (List.replicate 5000 (.int 1)), .str (repS "a" 5000), .ref l1, .ref l2, .non, .bl true, .int 5, .int (10 ^ 30)]
theorem kn_deep {n : Nat} : Kn K G (deepN n) := by cases n <;> first | exact kn_int | exact kn_tup
theorem kn_twice {n : Nat} : Kn K G (twiceN n) := by cases n <;> exact kn_tup
/-- none of the far things is a configuration -/
theorem far_conf {l1 l2 : Addr} (h1 : G l1 = some (.lst [.str "a"])) (h2 : G l2 = some (.dct [])) : ∀ w ∈ farW l1 l2, KnD K G 120 w ∧ isConf w 120 = false := by
  intro w hw
  unfold farW at hw
  simp only [List.mem_cons, List.not_mem_nil, or_false] at hw
  rcases hw with rfl | rfl | rfl | rfl | rfl | rfl | rfl | rfl | rfl | rfl
  · refine ⟨knD_tup fun y hy => ?_, ?_⟩
    · cases List.mem_singleton.mp hy
      exact kn_deep
    · show isConf (.tup [.tup [deepN 2998]]) 120 = false
      simp [isConf, isWh]
  · refine ⟨knD_tup fun y hy => ?_, ?_⟩
    · simp only [List.mem_cons, List.not_mem_nil, or_false, or_self] at hy
      subst hy
      exact kn_twice
    · show isConf (.tup [.tup [twiceN 58, twiceN 58], .tup [twiceN 58, twiceN 58]]) 120 = false
      simp [isConf, isWh]
  · refine ⟨knD_long (by rw [List.length_replicate]; omega), ?_⟩
    unfold isConf; dsimp only
    rw [List.length_replicate]
    rfl
  · exact ⟨knD_no kn_str rfl, rfl⟩
  · exact ⟨knD_no (kn_lst h1) rfl, rfl⟩
  · exact ⟨knD_no (kn_dct h2) rfl, rfl⟩
  · exact ⟨knD_no kn_non rfl, rfl⟩
  · exact ⟨knD_no kn_bl rfl, rfl⟩
  · exact ⟨knD_no kn_int rfl, rfl⟩
  · exact ⟨knD_no kn_int rfl, rfl⟩
theorem far_whole {l1 l2 : Addr} {lo hi : Int} : ∀ w ∈ (farW l1 l2).take 8, isWh w lo hi = false := by
  intro w hw
  simp only [farW, List.take_succ_cons, List.take_zero, List.mem_cons, List.not_mem_nil, or_false] at hw
  rcases hw with rfl | rfl | rfl | rfl | rfl | rfl | rfl | rfl <;> rfl
def SpFar : SpW := fun ws G q _ => ws = [] ∧ ∀ l l1 l2 G', G l = none → G l1 = none → G l2 = none → Ext G G' → G' l = some (.lst (farW l1 l2)) → G' l1 = some (.lst [.str "a"]) → G' l2 = some (.dct []) → q (.ref l) G'
end
end LF

/-! LF17: data that is shown and compared -/
namespace LF
open PySem PySem.Spec PyProof.Rows L2
/-- no deeper than D, no wider than W, its ints short -/
structure Fit (D W : Nat) (d : PyData) : Prop where
  ly : d.canLay0 = true
  sh : d.showable = true
  dp : d.depth ≤ D
  wt : d.weight ≤ W
  sm : d.intsShort 13 = true
structure Fits (D W : Nat) (ds : List PyData) : Prop where
  ly : PyData.canLayAll0 ds = true
  sh : PyData.showableAll ds = true
  dp : PyData.depthAll ds ≤ D
  wt : PyData.weightAll ds ≤ W
  sm : PyData.intsShortAll 13 ds = true
theorem fits_of {D W : Nat} : ∀ {ds : List PyData}, (∀ d ∈ ds, Fit D W d) → Fits D ((W + 1) * ds.length) ds
  | [], _ => ⟨by simp [PyData.canLayAll0], by simp [PyData.showableAll], by simp [PyData.depthAll], by simp [PyData.weightAll], by simp [PyData.intsShortAll]⟩
  | d :: ds, h => by
    have a := h d List.mem_cons_self
    have b := fits_of (ds := ds) fun x hx => h x (List.mem_cons_of_mem _ hx)
    have e : (W + 1) * (ds.length + 1) = (W + 1) * ds.length + (W + 1) := by rw [Nat.mul_add, Nat.mul_one]
    refine ⟨by rw [PyData.canLayAll0, a.ly, b.ly]; rfl, by rw [PyData.showableAll, a.sh, b.sh]; rfl, by rw [PyData.depthAll]; exact Nat.max_le.mpr ⟨a.dp, b.dp⟩, ?_, by rw [PyData.intsShortAll, a.sm, b.sm]; rfl⟩
    rw [PyData.weightAll, List.length_cons, e]
    have := a.wt
    have := b.wt
    omega
theorem Fit.mono {D W D' W' : Nat} {d : PyData} (h : Fit D W d) (h1 : D ≤ D') (h2 : W ≤ W') : Fit D' W' d := ⟨h.ly, h.sh, Nat.le_trans h.dp h1, Nat.le_trans h.wt h2, h.sm⟩
theorem fit_tup {D W W' : Nat} {ds : List PyData} (h : ∀ d ∈ ds, Fit D W d) (e : (W + 1) * ds.length ≤ W') : Fit (D + 1) W' (.tuple ds) := by
  have f := fits_of h
  exact ⟨by rw [PyData.canLay0]; exact f.ly, by rw [PyData.showable]; exact f.sh, by rw [PyData.depth]; exact Nat.succ_le_succ f.dp, by rw [PyData.weight]; exact Nat.le_trans f.wt e, by rw [PyData.intsShort]; exact f.sm⟩
theorem fit_lst {D W W' : Nat} {ds : List PyData} (h : ∀ d ∈ ds, Fit D W d) (e : (W + 1) * ds.length ≤ W') : Fit (D + 1) W' (.list ds) := by
  have f := fits_of h
  exact ⟨by rw [PyData.canLay0]; exact f.ly, by rw [PyData.showable]; exact f.sh, by rw [PyData.depth]; exact Nat.succ_le_succ f.dp, by rw [PyData.weight]; exact Nat.le_trans f.wt e, by rw [PyData.intsShort]; exact f.sm⟩
theorem log2_lt {n k : Nat} (h : n < 2 ^ k) (hk : 0 < k) : n.log2 < k := by
  by_cases z : n = 0
  · subst z; simpa using hk
  · exact (Nat.log2_lt z).mpr h
theorem fit_int {i : Int} (h1 : -(10 ^ 12) < i) (h2 : i < 10 ^ 12) : Fit 0 40 (.int i) := by
  have hn : i.natAbs < 10 ^ 12 := by omega
  have hl := log2_lt (n := i.natAbs) (k := 40) (by omega) (by decide)
  refine ⟨by simp [PyData.canLay0], ?_, by simp [PyData.depth], ?_, ?_⟩
  · rw [PyData.showable]; exact decide_eq_true (by omega)
  · rw [PyData.weight]
    split <;> omega
  · rw [PyData.intsShort]; exact decide_eq_true (PyData.shown_int_le hn)
theorem fit_non : Fit 0 0 .none := ⟨by simp [PyData.canLay0], by simp [PyData.showable], by simp [PyData.depth], by simp [PyData.weight], by simp [PyData.intsShort]⟩
theorem fit_bl {b : Bool} : Fit 0 0 (.bool b) := ⟨by simp [PyData.canLay0], by simp [PyData.showable], by simp [PyData.depth], by simp [PyData.weight], by simp [PyData.intsShort]⟩
theorem fit_str {x : Str} (h : PyData.strOk x = true) : Fit 0 x.length (.str x) := ⟨by rw [PyData.canLay0]; exact h, by simp [PyData.showable], by simp [PyData.depth], by rw [PyData.weight]; exact Nat.le_refl _, by simp [PyData.intsShort]⟩
theorem fit_ints {ns : List Int} {W : Nat} (h : ∀ i ∈ ns, -(10 ^ 12) < i ∧ i < 10 ^ 12) (e : 41 * ns.length ≤ W) : Fit 1 W (.tuple (ns.map .int)) := fit_tup (fun d hd => by
  obtain ⟨i, hi, rfl⟩ := List.mem_map.mp hd
  exact fit_int (h i hi).1 (h i hi).2) (by rw [List.length_map]; exact e)
theorem Fit.len {D W : Nat} {d : PyData} (h : Fit D W d) (h1 : D ≤ 20) (h2 : W ≤ 2 ^ 20) : d.shown.length ≤ sizeLine := by
  have hl : d.layable0 = true := by
    unfold PyData.layable0
    rw [h.ly, decide_eq_true (show d.depth ≤ 64 from by have := h.dp; omega), decide_eq_true (Nat.le_trans h.wt h2)]
    rfl
  have := shown_le13 hl h.sm
  rw [sizeLine_eq]
  omega
theorem Fit.shaped {D W : Nat} {d : PyData} (h : Fit D W d) (h1 : D ≤ 20) : SeqAt.shaped d = true := by
  unfold SeqAt.shaped
  rw [h.ly, decide_eq_true (show d.depth ≤ 64 from by have := h.dp; omega)]
  rfl
section
variable {G : HW} {q : WK} {w a b : Wv} {D W : Nat} {d e : PyData}
theorem r_show (h : Dt G w d) (f : Fit D W d) (z : q (.str d.shown) G) (h1 : D ≤ 20 := by decide) (h2 : W ≤ 2 ^ 20 := by decide) : wRepr [w] G q := r_repr h f.sh (Nat.le_trans f.dp h1) (f.len h1 h2) z
/-- alike: told so -/
theorem r_eqSame (h1 : Dt G a d) (h2 : Dt G b d) (f : Fit D W d) (z : q (.bl true) G) (hD : D ≤ 20 := by decide) : wEq a b G q := r_eq (k := true) h1 h2 (f.shaped hD) (f.shaped hD) (SeqAt.eqv_refl d f.ly) z
theorem r_neSame (h1 : Dt G a d) (h2 : Dt G b d) (f : Fit D W d) (z : q (.bl false) G) (hD : D ≤ 20 := by decide) : wNe a b G q := r_ne (k := true) h1 h2 (f.shaped hD) (f.shaped hD) (SeqAt.eqv_refl d f.ly) z
end
end LF

/-! LF18: t[::-1]; more of the laws' own -/
namespace LF
open PySem PySem.Spec PyProof.Rows L2 HT
section
variable {prog : Program} {w : World} {A : Around} {E : Value → Shared → Prop} {s : Shared}
theorem back_applied {sl : Addr} {t : Tok} {n : Nat} {Q : Int × Int × Nat → Shared → Prop} (hs : s.heap.IsSliceOf sl .none .none (.int (-1) t)) (h : Q ((n : Int) - 1, -1, n) s) : wpAny (model prog w) A (Builtin.Slice.sliceApplied (.ref sl) (pure (n : Int))) Q E s := by
  obtain ⟨os, hos, hcs, hds⟩ := id hs
  unfold Builtin.Slice.sliceApplied Builtin.Slice.sliceFields
  refine wpAny_bind (wpAny_bind (wpAny_field hos hds (x := .none) rfl (wpAny_bind (wpAny_field hos hds (x := .none) rfl (wpAny_bind (wpAny_field hos hds (x := .int (-1) t) rfl (wpAny_pure ?_)))))))
  refine wpAny_bind (slicePart_int ?_)
  show wpAny _ _ (if ((-1 : Int) == 0) = true then _ else _) _ _ s
  rw [if_neg (by decide)]
  refine wpAny_bind (slicePart_none (wpAny_bind (slicePart_none (wpAny_bind (wpAny_pure ?_)))))
  show wpAny _ _ (pure ((n : Int) - 1, (-1 : Int), Builtin.Slice.slicePlaces ((n : Int) - 1) (-1) (-1))) _ _ s
  have e : Builtin.Slice.slicePlaces ((n : Int) - 1) (-1) (-1) = n := by
    unfold Builtin.Slice.slicePlaces
    have h1 : ¬ ((-1 : Int) > 0) := by decide
    simp only [h1, if_false]
    by_cases hn : (n : Int) - 1 > -1
    · simp only [hn, if_true]
      rw [show (- -1 : Int) = 1 from rfl, Int.ediv_one]
      omega
    · simp only [hn, if_false]
      omega
  rw [e]
  exact wpAny_pure h
theorem fm_congr {α β : Type} {f g : α → Option β} : ∀ {l : List α}, (∀ a ∈ l, f a = g a) → l.filterMap f = l.filterMap g
  | [], _ => rfl
  | a :: l, h => by
    rw [List.filterMap_cons, List.filterMap_cons, h a List.mem_cons_self, fm_congr fun b hb => h b (List.mem_cons_of_mem _ hb)]
theorem back_pick (xs : Array Value) : ((List.range xs.size).filterMap fun (m : Nat) => xs[((xs.size : Int) - 1 + (m : Int) * (-1)).toNat]?).toArray = xs.toList.reverse.toArray := by
  have e : (List.range xs.size).filterMap (fun (m : Nat) => xs[((xs.size : Int) - 1 + (m : Int) * (-1)).toNat]?) = ((List.range xs.size).map fun k => xs.size - 1 - k).filterMap (xs[·]?) := by
    rw [List.filterMap_map]
    refine fm_congr fun m hm => ?_
    have := List.mem_range.mp hm
    show xs[((xs.size : Int) - 1 + (m : Int) * (-1)).toNat]? = xs[xs.size - 1 - m]?
    rw [show ((xs.size : Int) - 1 + (m : Int) * (-1)).toNat = xs.size - 1 - m from by omega]
  rw [e, PySem.W.krv_range, List.filterMap_reverse, PySem.W.krv_all]
theorem back_tuple {t sl : Addr} {items : Array Value} {tk : Tok} {Q : Value → Shared → Prop} (ht : IsTup s.heap t items) (hs : s.heap.IsSliceOf sl .none .none (.int (-1) tk))
    (h : Q (.ref s.heap.objs.size) { s with heap := s.heap.push { cls := .type "tuple", data := .seq items.toList.reverse.toArray } }) (hsz : items.size ≤ sizeLine) : wpAny (model prog w) A (getItem (.ref t) (.ref sl)) Q E s := by
  have hok : sizeOk (.seq items.toList.reverse.toArray) := by
    show items.toList.reverse.toArray.size ≤ sizeLine
    rw [List.size_toArray, List.length_reverse, Array.length_toList]
    exact hsz
  obtain ⟨os, hos, hcs, hds⟩ := id hs
  have hTs : s.TypeIs (.ref sl) "slice" := ⟨os, hos, hcs⟩
  unfold getItem
  try with_reducible refine wpAny_holding ?_
  first | refine wpAny_bind (wpAny_pure ?_) | skip
  refine wpAny_bind (wpAny_sequenceKey ht.typeIs (by decide) ?_)
  refine wpAny_bind (wpAny_callSpecial?_slot (name := Str.ofString "__getitem__") ht.typeIs PyProof.Rows.slot_tuple_getitem (wpAny_call_entry PyProof.Rows.slot_tuple_getitem ht.typeIs entry_tuple_getitem ?_ (args_tuple_getitem _ _)))
  show wpAny _ _ (Builtin.Tuple.tupleItemsOf (.ref t) >>= _) _ _ s
  refine wpAny_bind (tupleItemsOf_ ht (wpAny_bind (wpAny_typeOf hTs ?_)))
  rw [if_pos (by decide)]
  refine wpAny_bind (back_applied hs ?_)
  have hno : ¬ ((((items.size : Int) - 1) == 0 && (-1 : Int) == 1 && items.size == items.size) = true) := by
    intro q
    rw [Bool.and_eq_true, Bool.and_eq_true] at q
    exact absurd (eq_of_beq q.1.2) (by decide)
  show wpAny _ _ (if (((items.size : Int) - 1) == 0 && (-1 : Int) == 1 && items.size == items.size) = true then _ else _) _ _ s
  rw [if_neg hno, back_pick]
  first
    | exact wpAny_bind (m := Builtin.Tuple.tupleExact _) (wpAny_newObj_type (wpAny_pure ⟨_, rfl, wpAny_pure h⟩) hok)
    | exact wpAny_bind (m := Builtin.Tuple.tupleExact _) (wpAny_newObj_type (wpAny_bind (wpAny_pure (wpAny_pure ⟨_, rfl, wpAny_pure h⟩))) hok)
    | exact wpAny_bind (wpAny_bind (m := Builtin.Tuple.tupleExact _) (wpAny_newObj_type (wpAny_pure (wpAny_pure ⟨_, rfl, wpAny_pure h⟩)) hok))
    | exact wpAny_bind (wpAny_bind (m := Builtin.Tuple.tupleExact _) (wpAny_newObj_type (wpAny_pure ⟨_, rfl, wpAny_pure h⟩) hok))
end
section
variable {X : Cx} {Wx : WX} {e : Expr} {te : ET} {k : Nat} {p1 p2 p3 pos : Pos}
def wBack : Wv → HW → WK → Prop := fun w G q => match w with
  | .tup ws => q (.tup ws.reverse) G
  | .ref p => ∃ ws, RdL G p ws ∧ ∀ l, G l = none → q (.ref l) (updO G l (.lst ws.reverse))
  | _ => False
def eBack (te : ET) : ET := fun x σ G q => te x σ G fun w G1 => wBack w G1 q
theorem z_back (he : EW X Wx e te) : EW X Wx (.Subscript e (.Slice none none (some (.UnaryOp .USub (.Constant (.int 1) k p1) p2)) p3) pos) (eBack te) := by
  refine ⟨fun pins s σ H Q I h => ?_⟩
  obtain ⟨σw, G, xw, q, rs, rh, px, po, h⟩ := h
  refine Subscript_ (thn (he.run pins s σ H (fun v H1 => ∃ w G1, TX X.K H H1 ∧ RW X.K H1 w v ∧ RH X.K G1 H1 ∧ wBack w G1 q) I ⟨σw, G, xw, _, rs, rh, px, fun w G1 v H1 t1 r1 rh1 h1 => ⟨w, G1, t1, r1, rh1, h1⟩, h⟩) fun v s1 ⟨y, H1, I1, ry, w1, G1, t1, r1, rh1, h1⟩ => ?_)
  have hst : PO X (some (.UnaryOp .USub (.Constant (.int 1) k p1) p2)) (tPart (tUn (rU fun i => .int (-i)) (tC (.int 1)))) := po_some (pe_un un_neg pe_int)
  refine wpAny_Slice (thn (po_none.run pins s1 σ H1 (fun o H2 => o = none ∧ H2 = H1) I1 ⟨rfl, rfl⟩) fun vl s2 ⟨l, H2, I2, pl, el, e2⟩ => ?_)
  subst el e2
  refine thn (po_none.run pins s2 σ H2 (fun o H3 => o = none ∧ H3 = H2) I2 ⟨rfl, rfl⟩) fun vu s3 ⟨u, H3, I3, pu, eu, e3⟩ => ?_
  subst eu e3
  refine thn (hst.run pins s3 σ H3 (fun o H4 => o = some (-1) ∧ H4 = H3) I3 ⟨1, rfl, -1, rfl, rfl, rfl⟩) fun vs s4 ⟨o, H4, I4, ps, eo, e4⟩ => ?_
  subst eo e4
  have I5 : Inv X pins σ H4 { s4 with heap := s4.heap.push { cls := .type "slice", data := .fields #[vl, vu, vs] } } := I4.kept (t' := s4.toks) fun b ob z => Heap.get?_push_of_some _ z
  unfold wBack at h1
  split at h1
  · cases r1 with
    | @tup a xs ws hb rr =>
      cases ry
      obtain ⟨its, r, ht, hz⟩ := I5.tuple (SqT.of hb)
      have hlen := r.length
      show wpAny (model X.prog X.w) X.A (subscriptTail e (.Slice none none (some (.UnaryOp .USub (.Constant (.int 1) k p1) p2)) p3) (.ref a) (.ref s4.heap.objs.size)) (EP X pins σ Q) X.xe { s4 with heap := s4.heap.push { cls := .type "slice", data := .fields #[vl, vu, vs] } }
      refine tail_any (ops := [.ref a, .ref s4.heap.objs.size]) ht.typeIs PyProof.Rows.slot_tuple_getitem.lookup ?_ (by with_unfolding_all rfl)
      cases pl
      cases pu
      cases ps with
      | int i tk =>
        refine back_tuple ht (Heap.IsSliceOf.new _ _ _ _) ?_ (by rw [List.size_toArray]; omega)
        have hp := I5.hok.fresh (Nat.le_refl _)
        refine ⟨.ref _, _, I5.laid (t' := s4.toks) (o := .tup xs.reverse) (fun b ob z => Heap.get?_push_of_some _ z) (Nat.le_refl _) ?_, rfl, po _ _ _ _ (t1.trans (TX.new hp)) (.tup upd_same ((rr.mono (TX.new hp)).rev)) (rh1.kept hp) h1⟩
        exact ⟨by rw [List.length_reverse]; exact hz, _, r.reverse, IsTup.new _ _⟩
  · obtain ⟨ws, hl, hq⟩ := h1
    cases r1
    rename_i a
    cases ry
    obtain ⟨xs, hx, rr⟩ := rh1.rdl hl
    obtain ⟨its, r, ht, hz⟩ := I5.list hx
    have hlen := r.length
    show wpAny (model X.prog X.w) X.A (subscriptTail e (.Slice none none (some (.UnaryOp .USub (.Constant (.int 1) k p1) p2)) p3) (.ref a) (.ref s4.heap.objs.size)) (EP X pins σ Q) X.xe { s4 with heap := s4.heap.push { cls := .type "slice", data := .fields #[vl, vu, vs] } }
    refine tail_any (ops := [.ref a, .ref s4.heap.objs.size]) ht.isList.typeIs (PySem.slot_list_getitem.lookup) ?_ (by with_unfolding_all rfl)
    refine wpAny_getItem_list_slice ht.isList (Heap.IsSliceOf.new _ vl vu vs) pl pu ps (by decide) ?_ (by rw [List.size_toArray]; omega)
    rw [PySem.W.krv_pick]
    have hp := I5.hok.fresh (Nat.le_refl _)
    refine ⟨.ref _, _, I5.laid (t' := s4.toks) (o := .lst xs.reverse) (fun b ob z => Heap.get?_push_of_some _ z) (Nat.le_refl _) ?_, rfl, po _ _ _ _ (t1.trans (TX.new hp)) (.ref _) (rh1.newL hp rr.rev) (hq _ (rh1.fresh hp))⟩
    exact ⟨by rw [List.length_reverse]; exact hz, _, 0, r.reverse, Heap.get?_push_size _ rfl⟩
  · exact h1.elim
variable {x : XW} {σ : SW} {G : HW} {q : WK}
def kBack (q : WK) : WK := fun w G => wBack w G q
theorem m_Back : eBack te x σ G q = te x σ G (kBack q) := rfl
theorem m_kBackT {ws : List Wv} : kBack q (.tup ws) G = q (.tup ws.reverse) G := rfl
theorem r_back {p : Addr} {ws : List Wv} (h : RdL G p ws) (z : ∀ l, G l = none → q (.ref l) (updO G l (.lst ws.reverse))) : kBack q (.ref p) G := ⟨ws, h, z⟩
end
/-! ### ranges as arguments -/
section
variable {x : XW} {σ : SW} {G : HW} {q : WK} {te : ET}
abbrev RgK := Int → Int → HW → Prop
def kRgA (r : RgK) : WK := fun w G => match w with
  | .int n => r 0 n G
  | _ => False
theorem m_rg1 {r : RgK} : rg1 te x σ G r = te x σ G (kRgA r) := rfl
theorem m_kRgA {r : RgK} {n : Int} : kRgA r (.int n) G = r 0 n G := rfl
def kTupRg (q : WK) : RgK := fun i j G1 => RgOk i j ∧ q (.tup (rgW i 1 (j - i).toNat)) G1
def kLstRg (q : WK) : RgK := fun i j G1 => RgOk i j ∧ ∀ l, G1 l = none → q (.ref l) (updO G1 l (.lst (rgW i 1 (j - i).toNat)))
variable {t : RGt}
theorem m_TupRg : eTupRg t x σ G q = t x σ G (kTupRg q) := rfl
theorem m_LstRg : eLstRg t x σ G q = t x σ G (kLstRg q) := rfl
theorem r_tupRg {n : Nat} (h : n ≤ 1000000) (z : q (.tup (rgW 0 1 n)) G) : kTupRg q 0 (n : Int) G := ⟨RgOk.of_le (by omega) (by omega) (by omega) (by omega), by rw [Int.sub_zero, Int.toNat_natCast]; exact z⟩
theorem r_lstRg {n : Nat} (h : n ≤ 1000000) (z : ∀ l, G l = none → q (.ref l) (updO G l (.lst (rgW 0 1 n)))) : kLstRg q 0 (n : Int) G := ⟨RgOk.of_le (by omega) (by omega) (by omega) (by omega), by rw [Int.sub_zero, Int.toNat_natCast]; exact z⟩
end
section
variable {K : PySem.W.Frag} {G G' : HW}
theorem cutL_sub {α : Type} {xs : List α} {lo hi : Option Int} {y : α} (h : y ∈ cutL xs lo hi) : y ∈ xs := List.mem_of_mem_drop (List.mem_of_mem_take h)
theorem cutL_len {α : Type} (xs : List α) (lo hi : Option Int) : (cutL xs lo hi).length ≤ xs.length := by
  unfold cutL
  rw [List.length_take, List.length_drop]
  omega
theorem KnD.mono {n n' : Int} {w : Wv} (h : KnD K G n w) (e : n' ≤ n) : KnD K G n' w := ⟨h.1, fun ws ew hl => h.2 ws ew (by omega)⟩
/-- as _law_fits goes -/
def fitsB (n : Int) : Int → List Wv → Bool
  | _, [] => true
  | a, .int k :: r => decide (a < k) && decide (k < n) && fitsB n k r
  | _, _ => false
theorem fitsB_ints {n : Int} : ∀ {ns : List Int} {a : Int}, fitsB n a (ns.map .int) = true ↔ (∀ i ∈ ns, a < i ∧ i < n) ∧ ns.Pairwise (· < ·)
  | [], a => by simp [fitsB]
  | k :: ns, a => by
    rw [List.map_cons, fitsB, Bool.and_eq_true, Bool.and_eq_true, fitsB_ints, List.pairwise_cons]
    simp only [decide_eq_true_iff, List.mem_cons]
    constructor
    · rintro ⟨⟨h1, h2⟩, h3, h4⟩
      refine ⟨fun i hi => ?_, fun i hi => (h3 i hi).1, h4⟩
      rcases hi with rfl | hi
      · exact ⟨h1, h2⟩
      · have := h3 i hi; omega
    · rintro ⟨h1, h2, h3⟩
      have := h1 k (.inl rfl)
      exact ⟨this, fun i hi => ⟨h2 i hi, (h1 i (.inr hi)).2⟩, h3⟩
theorem fitsB_of {n : Int} : ∀ {ws : List Wv} {a : Int}, fitsB n a ws = true → ∃ ns : List Int, ws = ns.map .int
  | [], _, _ => ⟨[], rfl⟩
  | w :: ws, a, h => by
    cases w <;> first | cases h | skip
    rename_i k
    rw [fitsB, Bool.and_eq_true] at h
    obtain ⟨ns, rfl⟩ := fitsB_of h.2
    exact ⟨k :: ns, rfl⟩
theorem fits_conf {ws : List Wv} {n : Int} (h : (ws.length : Int) ≤ n) : isConf (.tup ws) n = fitsB n (-1) ws := by
  rw [Bool.eq_iff_iff]
  constructor
  · intro z
    obtain ⟨ns, e, cf⟩ := conf_of z
    cases e
    exact fitsB_ints.mpr ⟨fun i hi => by have := cf.2.1 i hi; omega, cf.2.2⟩
  · intro z
    obtain ⟨ns, rfl⟩ := fitsB_of z
    rw [List.length_map] at h
    have := fitsB_ints.mp z
    exact conf_ints.mpr ⟨h, fun i hi => by have := this.1 i hi; omega, this.2⟩
theorem told_good {C : Addr} {tl : TlT} {q : WK} {x : XE} (R : Wv → HW → Prop) (h : ∀ G0 xe qe, Ext G G0 → (∀ w G1, R w G1 → qe w G1) → tl xe G0 qe) (z : ∀ w G1, R w G1 → ∀ l G2, G1 l = none → Ext G1 G2 → G2 l = some (.lst [w]) → q (.ref l) G2) : SpTold C tl G q x :=
  ⟨fun _ _ _ => False, R, fun G0 xe qe ex _ hr => h G0 xe qe ex hr, (fun _ _ _ z => z.elim), z⟩
def SpFull (K : PySem.W.Frag) (C : Addr) : SpW := fun ws G q x => ∃ w, ws = [w] ∧ Kn K G w ∧ (isWh w 0 120 = false → x (.ref C) [("what", .str "count")] G) ∧ ∀ n : Nat, w = .int n → n ≤ 120 → q (.tup (rgW 0 1 n)) G
end
/-- kinds known whatever stands -/
def Sure (K : PySem.W.Frag) (w : Wv) : Prop := ∀ G, Kn K G w
theorem sure_ints {K : PySem.W.Frag} {ns : List Int} : ∀ y ∈ ns.map Wv.int, Sure K y := fun y hy G => by
  obtain ⟨i, _, rfl⟩ := List.mem_map.mp hy
  exact kn_int
theorem sure_app {K : PySem.W.Frag} {us vs : List Wv} (h1 : ∀ y ∈ us, Sure K y) (h2 : ∀ y ∈ vs, Sure K y) : ∀ y ∈ us ++ vs, Sure K y := fun y hy => (List.mem_append.mp hy).elim (h1 y) (h2 y)
theorem sure_cut {K : PySem.W.Frag} {us : List Wv} {lo hi : Option Int} (h1 : ∀ y ∈ us, Sure K y) : ∀ y ∈ cutL us lo hi, Sure K y := fun y hy => h1 y (cutL_sub hy)
theorem sure_one {K : PySem.W.Frag} {w : Wv} (h : Sure K w) : ∀ y ∈ [w], Sure K y := fun y hy => by cases List.mem_singleton.mp hy; exact h
def SpBent (K : PySem.W.Frag) : SpW := fun ws G q _ => ∃ m a b, ∃ ns : List Int, ∃ n : Nat, ws = [.ref m, .tup (ns.map .int)] ∧ Cfg ns 120 ∧ DSt G m a b (n + 3) ∧
  ∀ w G', Kp [m, b] G G' → DSt G' m a b n → ((∃ us, w = .tup us ∧ us.length ≤ 300 ∧ ∀ y ∈ us, Sure K y) ∨ ∃ l us, w = .ref l ∧ G l = none ∧ G' l = some (.lst us)) → q w G'
end LF

/-! LF19: tables made by comprehensions; sorted(set(t)) -/
namespace LF
open PySem PySem.Spec PyProof.Rows L2
/-! ### {k: v for .. in .. if ..}, keys flat -/
section
variable {X : Cx} {Wx : WX} {K : PySem.W.Frag} {pos : Pos} {tg : Expr} {tk tv : ET}
def eDc (wi : IT) (is vs : List Nat) (tt : QT) (tk tv : ET) : ET := fun x σ G q => wi x σ G fun its ok G1 => ∀ D, G1 D = none → ∃ P : Nat → HW → Prop, P 0 (updO G1 D (.dct [])) ∧ (∀ i G, i ≤ its.length → P i G → ok G) ∧
  (∀ i w G, its[i]? = some w → P i G → ∃ σ2, inTo is w (wipeW σ vs) = some σ2 ∧ tt x0 σ2 G fun k G3 => match k with
    | true => tk x0 σ2 G3 fun y G4 => tv x0 σ2 G4 fun z G5 => ∃ kvs key, keyOf y = some key ∧ G5 D = some (.dct kvs) ∧ kvs.length < sizeLine ∧ P (i + 1) (updO G5 D (.dct (pkW kvs key z)))
    | false => P (i + 1) G3) ∧ ∀ G, P its.length G → q (.ref D) G
theorem emb_dc {wi : IT} {is vs : List Nat} {tt : QT} (hv : ∀ i ∈ is, i ∈ vs) : ∀ σ H Q, emb K Wx (eDc wi is vs tt tk tv) σ H Q → tDc (embI K Wx wi) (gIn K is) (embB K W0 tt) (emb K W0 tk) (emb K W0 tv) vs σ H Q := by
  rintro σ H Q ⟨σw, G, x, q, rs, rh, px, po, h⟩
  refine ⟨σw, G, x, _, rs, rh, px, fun its ok G1 J H1 t1 rh1 wk h1 => ?_, h⟩
  intro D hD
  obtain ⟨P, h0, hok, hst, hdn⟩ := h1 D (rh1.fresh hD)
  have tD : TX K H1 (upd H1 D (.dK [])) := TX.new hD
  have pw : ∀ H : Hp, PostX K H W0 x0 := fun H cls d fs σw G σ H' _ _ _ _ z => z
  refine ⟨fun i m H2 => ∃ G2, m = its.length - i ∧ i ≤ its.length ∧ RH K G2 H2 ∧ TX K H1 H2 ∧ P i G2, ⟨its.length, _, by simp, Nat.zero_le _, rh1.newD hD .nil, tD, h0⟩, ?_⟩
  rintro i m H2 ⟨G2, rfl, hi, rh2, t2, p2⟩
  have k2 := hok i G2 hi p2
  by_cases hlt : i < its.length
  · refine .inr ⟨wk.goes i G2 H2 hlt t2 rh2 k2, fun H3 => ∃ G3, RH K G3 H3 ∧ TX K H1 H3 ∧ P (i + 1) G3, fun H' ⟨G3, h3, t3, q3⟩ => ⟨its.length - (i + 1), by omega, G3, rfl, hlt, h3, t3, q3⟩, fun v H' y => ?_⟩
    obtain ⟨w, ew, t3, rw3, rh3⟩ := wk.yields i G2 H2 v H' hlt t2 rh2 k2 y
    obtain ⟨σ2, es, hq⟩ := hst i w G2 ew p2
    have t23 := t2.trans t3
    have rsw : RS K H' (wipeW σw vs) (L2.wipe σ vs) := (rs.mono (t1.trans t23)).wipe vs
    refine gIn_ok hv rw3 rsw es fun σ' rs' ez => ⟨by rw [ez, wipe_wipe], σ2, G2, x0, _, rs', rh3, pw _, fun k G4 H4 t4 rh4 h4 => ?_, hq⟩
    cases k with
    | true =>
      refine (if_pos rfl).mpr ⟨σ2, G4, x0, _, rs'.mono t4, rh4, pw _, fun w5 G5 v5 H5 t5 r5 rh5 h5 => ?_, h4⟩
      refine ⟨σ2, G5, x0, _, (rs'.mono t4).mono t5, rh5, pw _, fun w6 G6 v6 H6 t6 r6 rh6 h6 => ?_, h5⟩
      obtain ⟨kvs, key, ek, ea, hz, p6⟩ := h6
      obtain ⟨xs, f, rx⟩ := rh6.dct ea
      exact ⟨xs, key, keyOf_rel r5 ek, f, by rw [rx.len]; exact hz, _, rh6.putD f (rx.put key r6), (((t23.trans t4).trans t5).trans t6).trans (TX.put f noTup_dK), p6⟩
    | false => exact (if_neg Bool.false_ne_true).mpr ⟨G4, rh4, t23.trans t4, h4⟩
  · have e : i = its.length := by omega
    subst e
    exact .inl ⟨wk.stops G2 H2 t2 rh2 k2, po _ _ _ _ (t1.trans t2) (.ref D) rh2 (hdn G2 p2)⟩
theorem z_dc {kx vx iter : Expr} {ifs : List Expr} {scope : Scope} {own : List (Str × Nat)} {wi : IT} {is : List Nat} {tt : QT} (hc : X.calm = true) (hN : X.N.Nodup) (hi : IW X Wx tg iter wi) (ok : BlkOk X.N X.env.scope scope own)
    (hg : ∀ (s : Shared) (H : Hp) (C : Addr) (cl : List (Str × Addr)) (fp : List Addr), PG (X.blk s H scope (compEnvC scope cl C X.env) fp) tg (gIn X.K is)) (ht : ∀ (s : Shared) (H : Hp) (C : Addr) (cl : List (Str × Addr)) (fp : List Addr), QsW (X.blk s H scope (compEnvC scope cl C X.env) fp) W0 ifs tt)
    (hk : ∀ (s : Shared) (H : Hp) (C : Addr) (cl : List (Str × Addr)) (fp : List Addr), EW (X.blk s H scope (compEnvC scope cl C X.env) fp) W0 kx tk)
    (he : ∀ (s : Shared) (H : Hp) (C : Addr) (cl : List (Str × Addr)) (fp : List Addr), EW (X.blk s H scope (compEnvC scope cl C X.env) fp) W0 vx tv) (hv : ∀ i ∈ is, i ∈ own.map (·.2)) (hs : ∀ x, foldedSetIterable iter X.env x = pure x := by intro _; rfl) :
    EW X Wx (.DictComp kx vx [⟨tg, iter, ifs, 0⟩] scope pos) (eDc wi is (own.map (·.2)) tt tk tv) := pe_imp (pe_dc hc hN hi ok hg ht hk he hs) (emb_dc hv)
end
section
variable {x : XW} {σ : SW} {G : HW} {q : WK} {wi : IT} {tk tv : ET} {tt : QT} {is vs : List Nat} {its : List Wv} {ok : HW → Prop}
def kDc (is vs : List Nat) (tt : QT) (tk tv : ET) (x : XW) (σ : SW) (q : WK) : IK := fun its ok G1 => ∀ D, G1 D = none → ∃ P : Nat → HW → Prop, P 0 (updO G1 D (.dct [])) ∧ (∀ i G, i ≤ its.length → P i G → ok G) ∧
  (∀ i w G, its[i]? = some w → P i G → ∃ σ2, inTo is w (wipeW σ vs) = some σ2 ∧ tt x0 σ2 G fun k G3 => match k with
    | true => tk x0 σ2 G3 fun y G4 => tv x0 σ2 G4 fun z G5 => ∃ kvs key, keyOf y = some key ∧ G5 D = some (.dct kvs) ∧ kvs.length < sizeLine ∧ P (i + 1) (updO G5 D (.dct (pkW kvs key z)))
    | false => P (i + 1) G3) ∧ ∀ G, P its.length G → q (.ref D) G
theorem m_Dc : eDc wi is vs tt tk tv x σ G q = wi x σ G (kDc is vs tt tk tv x σ q) := rfl
/-- entries one behind the other -/
def entW (f : Wv → Option (Key × Wv)) : List Wv → List (Key × Wv) → List (Key × Wv)
  | [], acc => acc
  | w :: ws, acc => entW f ws (match f w with
    | some p => pkW acc p.1 p.2
    | none => acc)
def kDv (y : Wv) (k : Option (Wv × Wv) → HW → Prop) : WK := fun z G => k (some (y, z)) G
def kDk (tv : ET) (σ2 : SW) (k : Option (Wv × Wv) → HW → Prop) : WK := fun y G => tv x0 σ2 G (kDv y k)
def kDturn (tk tv : ET) (σ2 : SW) (k : Option (Wv × Wv) → HW → Prop) : Bool → HW → Prop := fun b G => match b with
  | true => tk x0 σ2 G (kDk tv σ2 k)
  | false => k none G
variable {σ2 : SW} {kk : Option (Wv × Wv) → HW → Prop} {y z : Wv}
theorem m_DturnT : kDturn tk tv σ2 kk true G = tk x0 σ2 G (kDk tv σ2 kk) := rfl
theorem m_DturnF : kDturn tk tv σ2 kk false G = kk none G := rfl
theorem m_kDk : kDk tv σ2 kk y G = tv x0 σ2 G (kDv y kk) := rfl
theorem m_kDv : kDv y kk z G = kk (some (y, z)) G := rfl
theorem entW_take {f : Wv → Option (Key × Wv)} {w : Wv} : ∀ {ws : List Wv} {i : Nat} {acc : List (Key × Wv)}, ws[i]? = some w → entW f (ws.take (i + 1)) acc = (match f w with
    | some p => pkW (entW f (ws.take i) acc) p.1 p.2
    | none => entW f (ws.take i) acc)
  | [], i, acc, e => by simp at e
  | a :: ws, 0, acc, e => by
    simp at e
    subst e
    simp [entW]
  | a :: ws, i + 1, acc, e => by
    rw [List.take_succ_cons, List.take_succ_cons]
    exact entW_take (ws := ws) (by simpa using e)
theorem entW_len {f : Wv → Option (Key × Wv)} : ∀ (ws : List Wv) (acc : List (Key × Wv)), (entW f ws acc).length ≤ acc.length + ws.length
  | [], acc => Nat.le_refl _
  | w :: ws, acc => by
    refine Nat.le_trans (entW_len ws _) ?_
    rw [List.length_cons]
    cases f w with
    | none => dsimp only; omega
    | some p => dsimp only; have := pkW_len acc p.1 p.2; omega
/-- turns that only lay anew -/
theorem r_dc (f : Wv → Option (Key × Wv)) (hl : its.length < sizeLine) (hk : ∀ G', Ext G G' → ok G')
    (hs : ∀ (i : Nat) w G' (k : Option (Wv × Wv) → HW → Prop), its[i]? = some w → Ext G G' → (∀ G2 y, Ext G' G2 → (f w = none → y = none) → (∀ p, f w = some p → ∃ u, y = some (u, p.2) ∧ keyOf u = some p.1) → k y G2) → ∃ σ2, inTo is w (wipeW σ vs) = some σ2 ∧ tt x0 σ2 G' (kDturn tk tv σ2 k))
    (hd : ∀ D G', G D = none → Ext G G' → G' D = some (.dct (entW f its [])) → q (.ref D) G') : kDc is vs tt tk tv x σ q its ok G := by
  intro D hD
  refine ⟨fun i G' => Ext G G' ∧ G' D = some (.dct (entW f (its.take i) [])), ⟨Ext.new hD, by simp [entW]; exact updO_same⟩, fun i G' _ z => hk G' z.1, fun i w G' ew ⟨z1, z2⟩ => ?_, fun G' ⟨z1, z2⟩ => hd D G' hD z1 (by rw [List.take_length] at z2; exact z2)⟩
  obtain ⟨σ2, e2, hq⟩ := hs i w G' (fun y G2 => match y with
    | some y => ∃ kvs key, keyOf y.1 = some key ∧ G2 D = some (.dct kvs) ∧ kvs.length < sizeLine ∧ Ext G (updO G2 D (.dct (pkW kvs key y.2))) ∧ (updO G2 D (.dct (pkW kvs key y.2))) D = some (.dct (entW f (its.take (i + 1)) []))
    | none => Ext G G2 ∧ G2 D = some (.dct (entW f (its.take (i + 1)) []))) ew z1 (fun G2 y e hn hp => by
      have et := entW_take (f := f) (acc := []) ew
      cases ef : f w with
      | none =>
        rw [ef] at et
        rw [hn ef]
        exact ⟨z1.trans e, by rw [et]; exact e _ _ z2⟩
      | some p =>
        rw [ef] at et
        obtain ⟨u, eu, ku⟩ := hp p ef
        rw [eu]
        refine ⟨_, p.1, ku, e _ _ z2, ?_, (z1.trans e).put hD, by rw [updO_same, et]⟩
        have h1 := entW_len (f := f) (its.take i) []
        have h2 : (its.take i).length ≤ its.length := by rw [List.length_take]; omega
        simp only [List.length_nil] at h1
        omega)
  refine ⟨σ2, e2, ?_⟩
  have eqk : (kDturn tk tv σ2 (fun y G2 => match y with
    | some y => ∃ kvs key, keyOf y.1 = some key ∧ G2 D = some (.dct kvs) ∧ kvs.length < sizeLine ∧ Ext G (updO G2 D (.dct (pkW kvs key y.2))) ∧ (updO G2 D (.dct (pkW kvs key y.2))) D = some (.dct (entW f (its.take (i + 1)) []))
    | none => Ext G G2 ∧ G2 D = some (.dct (entW f (its.take (i + 1)) [])))) = (fun k G3 => match k with
    | true => tk x0 σ2 G3 fun y G4 => tv x0 σ2 G4 fun z G5 => ∃ kvs key, keyOf y = some key ∧ G5 D = some (.dct kvs) ∧ kvs.length < sizeLine ∧ Ext G (updO G5 D (.dct (pkW kvs key z))) ∧ (updO G5 D (.dct (pkW kvs key z))) D = some (.dct (entW f (its.take (i + 1)) []))
    | false => Ext G G3 ∧ G3 D = some (.dct (entW f (its.take (i + 1)) []))) := by
    funext k G3
    cases k <;> rfl
  rw [← eqk]
  exact hq
end

/-! ### sorted(set(t)), ints -/
section
variable {P : Program} {w : World} {A : Around} {s : Shared} {E : Value → Shared → Prop} {a : Addr}
theorem set_sorted {S : Int → Bool} {n : Nat} {Q : Value → Shared → Prop} (R : SetR w s.heap a S n) (hh : A.handled = none) (hn : n ≤ sizeLine)
    (hQ : ∀ s' p (out : Array Value) (c : Nat) (ns : List Int), (∀ b o, s.heap.get? b = some o → s'.heap.get? b = some o) → s'.gens = s.gens → s'.os = s.os → s.heap.objs.size ≤ p →
      s'.heap.get? p = some (seqObj "list" out c) → IntsAre out.toList ns → ns.Pairwise (· < ·) → (∀ k, k ∈ ns ↔ S k = true) → ns.length = n → Q (.ref p) s') : wpAny (model P w) A (call (.builtin "sorted") [.ref a]) Q E s := by
  obtain ⟨o, es, ep, t, ho, hex, hd, g, nd, hm, hb, hf, hn', hr, hl⟩ := R
  refine Calls.call_function_entry kind_sorted plain_sorted entry_sorted (args_sorted1 _) ?_
  unfold Builtin.«sorted»
  refine wpAny_bind (m := checkCount "sorted" 1 1 _) (wpAny_pure (wpAny_bind (collect_set (A := A.in1) hh ⟨o, ho, hex.1, hd⟩ hf hb hr hl fun s1 vs k1 hz g1 o1 pm => ?_)))
  have hvl : vs.length = n := by rw [pm.length_eq, List.length_map, Array.length_toList]; exact hn'
  have hI : IntsAre vs (vs.map Builtin.Re.reRawOf) := ints_of vs fun v hv => by
    obtain ⟨e, he, q⟩ := List.mem_map.mp (pm.mem_iff.mp hv)
    obtain ⟨k, tk, h1, _⟩ := g e he
    exact ⟨k, tk, by rw [← q]; exact h1⟩
  have pk : (vs.map Builtin.Re.reRawOf).Perm (es.toList.map L2.keyOf) := by
    have q := pm.map Builtin.Re.reRawOf
    rw [List.map_map] at q
    exact q
  have hvz : vs.length ≤ sizeLine := by rw [hvl]; exact hn
  refine wpAny_bind (wpAny_newList ?_ hvz)
  have hoL : (s1.heap.push (seqObj "list" vs.toArray 0)).get? s1.heap.objs.size = some (seqObj "list" vs.toArray 0) := Heap.get?_push_size _ rfl
  refine wpAny_bind (wpAny_holding (wpAny_call_entry slot_list_sort ⟨_, hoL, rfl⟩ entry_list_sort (SrtO.list_sort_ord SrtO.swo_int hoL hvz (fun h2 => SrtO.ints_sortable hI h2) fun out h1 h2 => ⟨_, rfl, ?_⟩) (args_list_sort _)))
  obtain ⟨a1, a2, a3⟩ := SrtO.ints_out hI h1 h2
  obtain ⟨c, hc⟩ := sortedHeap_at (vs := vs) (out := out.toArray) hoL
  have pn := a2.trans pk
  refine wpAny_pure ⟨_, rfl, hQ _ s1.heap.objs.size out.toArray c _ (fun b u e => ?_) g1 o1 hz hc a1 (lt_of_le_nodup _ a3 (pn.nodup_iff.mpr nd)) (fun k => by rw [pn.mem_iff, ← hm k]) (by rw [pn.length_eq, List.length_map, Array.length_toList]; exact hn')⟩
  have q := k1 b u e
  have hlt := Heap.lt_size q
  show (sortedHeap (s1.heap.push (seqObj "list" vs.toArray 0)) s1.heap.objs.size vs out.toArray).get? b = some u
  rw [sortedHeap_old (Nat.ne_of_lt hlt) (by rw [size_push']; exact Nat.lt_succ_of_lt hlt)]
  exact Heap.get?_push_of_some _ q
end
section
variable {X : Cx} {Wx : WX} {e : Expr} {te : ET} {p p2 pos pos2 : Pos}
def wSSet : Wv → HW → WK → Prop := fun w G q => match w with
  | .tup ws => ∃ ns : List Int, ws = ns.map .int ∧ ns.length ≤ 1000 ∧ ∀ out : List Int, out.Pairwise (· < ·) → (∀ k, k ∈ out ↔ k ∈ ns) → ∀ l, G l = none → q (.ref l) (updO G l (.lst (out.map .int)))
  | _ => False
def eSSet (te : ET) : ET := fun x σ G q => te x σ G fun w G1 => wSSet w G1 q
theorem z_sset (hc : X.calm = true) (hg : Gl X "sorted") (hm : X.mg "sorted" = none) (hg2 : Gl X "set") (hm2 : X.mg "set" = none) (he : EW X Wx e te) (na : starEach [e] X.env = (false, eval e X.env) :: starEach [] X.env := by rfl) :
    EW X Wx (.Call (.Name "sorted" p) [.Call (.Name "set" p2) [e] [] pos2] [] pos) (eSSet te) := by
  refine ⟨fun pins s σ H Q I h => ?_⟩
  obtain ⟨σw, G, xw, q, rs, rh, px, po, h⟩ := h
  refine Call_ (ld_blt I hg hm boot_sorted ?_)
  refine PyProof.Rows.callWith_builtin1 (PyProof.Rows.args_cons ?_ rfl) rfl rfl
  refine Call_ (ld_blt I hg2 hm2 boot_set ?_)
  refine PyProof.Rows.callWith_type1 (PyProof.Rows.args_cons (thn (he.run pins s σ H (fun v H1 => ∃ w G1, TX X.K H H1 ∧ RW X.K H1 w v ∧ RH X.K G1 H1 ∧ wSSet w G1 q) I ⟨σw, G, xw, _, rs, rh, px, fun w G1 v H1 t1 r1 rh1 h1 => ⟨w, G1, t1, r1, rh1, h1⟩, h⟩) fun v s1 ⟨x, H1, I1, rx, w, G1, t1, r1, rh1, h1⟩ => PyProof.Rows.args_nil ?_) na) na rfl
  unfold wSSet at h1
  split at h1
  · obtain ⟨ns, rfl, hl, hq⟩ := h1
    cases r1 with
    | @tup p0 xs ws hb rr =>
      have ex := rr.ints
      subst ex
      cases rx
      obtain ⟨its, rv, pt, hz⟩ := I1.tuple (SqT.of hb)
      have hi : IntsAre its.toArray.toList ns := by simpa using ints_of_vals rv
      have hd := I1.ok.hd hc
      refine call_set_tupI ns hd (show s1.heap.IsTuple p0 its.toArray from pt) hi (by unfold scanBound; omega) fun h' tk c R1 hcn k => PyProof.Rows.args_nil ?_
      have I2 : Inv X pins σ H1 { s1 with heap := h', toks := tk } := I1.kept fun b o z => k b o z
      refine set_sorted (s := { s1 with heap := h', toks := tk }) R1 hd (by rw [sizeLine_eq]; omega) fun s' p out c2 ns2 k2 g2 o2 hp ho hi2 hs hm3 hlen => ?_
      have hn : H1 p = none := I2.hok.fresh hp
      have hsz : (ns2.map V.int).length ≤ sizeLine := by rw [List.length_map, hlen, sizeLine_eq]; omega
      have J : Inv X pins σ (upd H1 p (.lst (ns2.map V.int))) { ({ s1 with heap := h', toks := tk } : Shared) with heap := s'.heap, gens := s'.gens, drawn := s'.drawn, toks := s'.toks } :=
        I2.call (ch := []) (Un.laid k2 hp hn) (I2.hok.laid k2 hp ⟨hsz, out.toList, c2, vals_of_ints hi2, ho⟩) (by rw [g2]; exact I2.bare) (fun _ z => nomatch z)
      have es : s' = { ({ s1 with heap := h', toks := tk } : Shared) with heap := s'.heap, gens := s'.gens, drawn := s'.drawn, toks := s'.toks } := by
        cases s'
        cases o2
        rfl
      rw [es]
      exact ⟨.ref p, _, J, rfl, po _ _ _ _ (t1.trans (TX.new hn)) (.ref p) (rh1.newL hn (RWs.ofInts ns2)) (hq ns2 hs (fun j => by rw [hm3 j, decide_eq_true_eq]) p (rh1.fresh hn))⟩
  · exact h1.elim
variable {x : XW} {σ : SW} {G : HW} {q : WK}
def kSSet (q : WK) : WK := fun w G => wSSet w G q
theorem m_SSet : eSSet te x σ G q = te x σ G (kSSet q) := rfl
theorem r_sset {ns : List Int} (h : ns.length ≤ 1000) (z : ∀ out : List Int, out.Pairwise (· < ·) → (∀ k, k ∈ out ↔ k ∈ ns) → ∀ l, G l = none → q (.ref l) (updO G l (.lst (out.map .int)))) : kSSet q (.tup (ns.map .int)) G := ⟨ns, rfl, h, z⟩
end
end LF

/-! LF20: numbers of two configurations -/
namespace LF
open PySem PySem.Spec PyProof.Rows L2
section
variable {x : XW} {σ : SW} {G G' : HW} {q : WK} {te : ET} {tt : QT} {is vs : List Nat} {its : List Wv} {ok : HW → Prop}
/-! ### more rules -/
/-- a comprehension with a test -/
theorem r_lcF (p : Wv → Bool) (f : Wv → Wv) (hl : its.length ≤ sizeLine) (hk : ∀ G', Ext G G' → ok G')
    (hs : ∀ (i : Nat) w G' (k : Option Wv → HW → Prop), its[i]? = some w → Ext G G' → (∀ G2, Ext G' G2 → k (if p w then some (f w) else none) G2) → ∃ σ2, inTo is w (wipeW σ vs) = some σ2 ∧ tt x0 σ2 G' (kTurn te σ2 k))
    (hd : ∀ D G', G D = none → Ext G G' → G' D = some (.lst ((its.filter p).map f)) → q (.ref D) G') : kLc is vs tt te x σ q its ok G :=
  r_lc (fun _ w => if p w then some (f w) else none) hl hk hs fun D G' n e h => hd D G' n e (by rw [h, gath_filter])
theorem r_inD0 {neg : Bool} {p : Addr} {a : Wv} {key : Key} {kvs : List (Key × Wv)} (h : G p = some (.dct kvs)) (hk : keyOf a = some key) (z : q (.bl (if neg then !(lkW kvs key).isSome else (lkW kvs key).isSome)) G) : wIn neg a (.ref p) G q := by
  refine .inr ⟨lkW kvs key, ?_, z⟩
  cases a <;> cases hk <;> exact ⟨kvs, _, h, rfl, rfl⟩
theorem r_inDT0 {neg : Bool} {p : Addr} {ks : List Wv} {key : List Key} {kvs : List (List Key × Wv)} (h : G p = some (.dtp kvs)) (hk : keysOf ks = some key) (z : q (.bl (if neg then !(lkW kvs key).isSome else (lkW kvs key).isSome)) G) : wIn neg (.tup ks) (.ref p) G q := .inr ⟨lkW kvs key, ⟨kvs, key, h, hk, rfl⟩, z⟩
theorem r_inL0 {neg : Bool} {p : Addr} {a : Wv} {us : List Wv} (h : RdL G p us) (h1 : flatW a = true) (h2 : us.all flatW = true) (z : q (.bl (if neg then !inF a us else inF a us)) G) : wIn neg a (.ref p) G q := .inl ⟨us, h, h1, h2, z⟩
theorem r_inT0 {neg : Bool} {a : Wv} {us : List Wv} (h1 : flatW a = true) (h2 : us.all flatW = true) (z : q (.bl (if neg then !inF a us else inF a us)) G) : wIn neg a (.tup us) G q := ⟨h1, h2, z⟩
def kRvR (q : IK) : RgK := fun i j G1 => -(2 ^ 62) ≤ i ∧ i < 2 ^ 62 ∧ -(2 ^ 62) ≤ j ∧ j < 2 ^ 62 ∧ q (rgW (i + (((j - i).toNat : Nat) : Int) - 1) (-1) (j - i).toNat) okT G1
variable {t : RGt}
theorem m_iRvR {q : IK} : iRvR t x σ G q = t x σ G (kRvR q) := rfl
theorem r_rvR {q : IK} {n : Nat} (h : n ≤ 1000000) (z : q (rgW ((n : Int) - 1) (-1) n) okT G) : kRvR q 0 (n : Int) G := ⟨by omega, by omega, by omega, by omega, by
  rw [Int.sub_zero, Int.toNat_natCast, Int.zero_add]
  exact z⟩
theorem r_sorted0 {p : Addr} {ns : List Int} (h : RdL G p (ns.map .int)) (z : ∀ ns' : List Int, ns'.Perm ns → ns'.Pairwise (· ≤ ·) → ∀ l, G l = none → q (.ref l) (updO G l (.lst (ns'.map .int)))) : wSorted [.ref p] G q := ⟨ns, h, z⟩
theorem r_mulL {p : Addr} {us : List Wv} {k : Int} (h : G p = some (.lst us)) (h1 : -(2 ^ 63) ≤ k) (h2 : k < 2 ^ 63) (h3 : us.length * k.toNat ≤ sizeLine) (z : ∀ l, G l = none → q (.ref l) (updO G l (.lst (List.replicate k.toNat us).flatten))) : wMul (.ref p) (.int k) G q := ⟨us, h, h1, h2, h3, z⟩
end
/-! ### tables -/
section
variable {κ : Type} [DecidableEq κ]
theorem lk_pk (kvs : List (κ × Wv)) (k k' : κ) (w : Wv) : lkW (pkW kvs k w) k' = if k' = k then some w else lkW kvs k' := by
  unfold pkW
  split
  · rename_i h
    unfold lkW
    induction kvs with
    | nil => cases h
    | cons p ps ih =>
      rw [List.map_cons, List.find?_cons, List.find?_cons]
      by_cases e : p.1 = k
      · rw [if_pos e]
        by_cases e2 : k' = k
        · subst e2
          simp [e]
        · have e3 : ¬ p.1 = k' := fun z => e2 (z.symm.trans e)
          rw [if_neg e2]
          simp only [e3, decide_false]
          by_cases h2 : (ps.any fun p => decide (p.1 = k)) = true
          · have := ih h2
            rw [if_neg e2] at this
            exact this
          · have : ps.map (fun p => if p.1 = k then (p.1, w) else p) = ps := by
              have h3 : ∀ a ∈ ps, ¬ a.1 = k := fun a ha z => h2 (List.any_eq_true.mpr ⟨a, ha, decide_eq_true z⟩)
              clear ih h h2
              induction ps with
              | nil => rfl
              | cons a ps ih2 =>
                rw [List.map_cons, if_neg (h3 a List.mem_cons_self), ih2 fun b hb => h3 b (List.mem_cons_of_mem _ hb)]
            rw [this]
      · rw [if_neg e]
        have h2 : (ps.any fun p => decide (p.1 = k)) = true := by
          rw [List.any_cons, decide_eq_false e, Bool.false_or] at h
          exact h
        by_cases e4 : p.1 = k'
        · have e5 : ¬ k' = k := fun z => e (e4.trans z)
          rw [if_neg e5]
          simp [e4]
        · simp only [e4, decide_false]
          exact ih h2
  · rename_i h
    have h3 : ∀ a ∈ kvs, ¬ a.1 = k := fun a ha z => h (List.any_eq_true.mpr ⟨a, ha, decide_eq_true z⟩)
    clear h
    unfold lkW
    induction kvs with
    | nil =>
      by_cases e2 : k' = k
      · rw [if_pos e2]; simp [e2]
      · have e3 : ¬ k = k' := fun z => e2 z.symm
        rw [if_neg e2]; simp [e3]
    | cons p ps ih =>
      have ih := ih fun a ha => h3 a (List.mem_cons_of_mem _ ha)
      have e := h3 p List.mem_cons_self
      rw [List.cons_append, List.find?_cons, List.find?_cons]
      by_cases e4 : p.1 = k'
      · have e5 : ¬ k' = k := fun z => e (e4.trans z)
        rw [if_neg e5]
        simp [e4]
      · simp only [e4, decide_false]
        exact ih
theorem lk_nil (k : κ) : lkW ([] : List (κ × Wv)) k = none := rfl
end
/-! ### rising lists -/
theorem rise_ext : ∀ {a b : List Int}, a.Pairwise (· < ·) → b.Pairwise (· < ·) → (∀ k, k ∈ a ↔ k ∈ b) → a = b
  | [], [], _, _, _ => rfl
  | [], y :: b, _, _, h => by have := (h y).mpr List.mem_cons_self; cases this
  | x :: a, [], _, _, h => by have := (h x).mp List.mem_cons_self; cases this
  | x :: a, y :: b, ha, hb, h => by
    obtain ⟨a1, a2⟩ := List.pairwise_cons.mp ha
    obtain ⟨b1, b2⟩ := List.pairwise_cons.mp hb
    have e : x = y := by
      rcases List.mem_cons.mp ((h x).mp List.mem_cons_self) with z | z
      · exact z
      · rcases List.mem_cons.mp ((h y).mpr List.mem_cons_self) with u | u
        · exact u.symm
        · have := a1 y u; have := b1 x z; omega
    subst e
    rw [rise_ext a2 b2 fun k => ⟨fun hk => ?_, fun hk => ?_⟩]
    · rcases List.mem_cons.mp ((h k).mp (List.mem_cons_of_mem _ hk)) with z | z
      · have := a1 k hk; omega
      · exact z
    · rcases List.mem_cons.mp ((h k).mpr (List.mem_cons_of_mem _ hk)) with z | z
      · have := b1 k hk; omega
      · exact z
theorem rise_len : ∀ {ns : List Int} {a n : Int}, ns.Pairwise (· < ·) → (∀ i ∈ ns, a ≤ i ∧ i < n) → a ≤ n → (ns.length : Int) ≤ n - a
  | [], a, n, _, _, h => by simp; omega
  | x :: ns, a, n, hp, hr, h => by
    obtain ⟨h1, h2⟩ := List.pairwise_cons.mp hp
    have hx := hr x List.mem_cons_self
    have := rise_len (a := x + 1) (n := n) h2 (fun i hi => by have := h1 i hi; have := hr i (List.mem_cons_of_mem _ hi); omega) (by omega)
    rw [List.length_cons]
    push_cast
    omega
theorem cfg_of {ns : List Int} {n : Int} (h0 : 0 ≤ n) (h1 : ∀ i ∈ ns, 0 ≤ i ∧ i < n) (h2 : ns.Pairwise (· < ·)) : Cfg ns n := ⟨by have := rise_len h2 h1 h0; omega, h1, h2⟩
theorem Cfg.nodup {ns : List Int} {n : Int} (h : Cfg ns n) : ns.Nodup := h.2.2.imp fun {a b} z => by omega
def lessL (ns ms : List Int) : List Int := ns.filter fun i => decide (i ∉ ms)
theorem less_mem {ns ms : List Int} {k : Int} : k ∈ lessL ns ms ↔ k ∈ ns ∧ k ∉ ms := by simp [lessL]
theorem Cfg.less {ns ms : List Int} {n : Int} (h : Cfg ns n) : Cfg (lessL ns ms) n := by
  refine ⟨?_, fun i hi => h.2.1 i (less_mem.mp hi).1, h.2.2.filter _⟩
  have : (lessL ns ms).length ≤ ns.length := List.length_filter_le _ _
  have := h.1
  omega
/-- out: the numbers of both, rising -/
def BothL (ns ms out : List Int) : Prop := out.Pairwise (· < ·) ∧ ∀ k, k ∈ out ↔ k ∈ ns ∨ k ∈ ms
theorem BothL.cfg {ns ms out : List Int} {n : Int} (h : BothL ns ms out) (h1 : Cfg ns n) (h2 : Cfg ms n) (h0 : 0 ≤ n) : Cfg out n := cfg_of h0 (fun i hi => ((h.2 i).mp hi).elim (h1.2.1 i) (h2.2.1 i)) h.1
theorem BothL.eq {ns ms a b : List Int} (h : BothL ns ms a) (k : BothL ns ms b) : a = b := rise_ext h.1 k.1 fun j => by rw [h.2, k.2]
/-- numbers asked of a tuple -/
theorem inF_ints (i : Int) : ∀ ms : List Int, inF (.int i) (ms.map .int) = decide (i ∈ ms)
  | [] => rfl
  | m :: ms => by
    have ih := inF_ints i ms
    unfold inF at ih ⊢
    rw [List.map_cons, List.any_cons, ih]
    have e : eqF (.int m) (.int i) = decide (m = i) := by
      unfold eqF toV eqV
      by_cases h : m = i <;> simp [h]
    rw [e]
    by_cases h : m = i
    · subst h; simp
    · have h' : ¬ i = m := fun z => h z.symm
      simp [h, h']
theorem flat_ints (ms : List Int) : (ms.map Wv.int).all flatW = true := List.all_eq_true.mpr fun w hw => by
  obtain ⟨i, _, rfl⟩ := List.mem_map.mp hw
  rfl
/-- the table of numbers that are there -/
def oneF : Wv → Option (Key × Wv)
  | .int i => some (.inl i, .bl true)
  | _ => none
theorem ent_in : ∀ (ms : List Int) (acc : List (Key × Wv)) (i : Int), (lkW (entW oneF (ms.map .int) acc) (.inl i)).isSome = (decide (i ∈ ms) || (lkW acc (.inl i)).isSome)
  | [], acc, i => by simp [entW]
  | m :: ms, acc, i => by
    rw [List.map_cons]
    show (lkW (entW oneF (ms.map .int) (pkW acc (.inl m) (.bl true))) (.inl i)).isSome = _
    rw [ent_in ms _ i, lk_pk]
    by_cases e : (Sum.inl i : Key) = .inl m
    · cases e
      simp
    · have e2 : ¬ i = m := fun z => e (by rw [z])
      rw [if_neg e]
      simp [e2]
def notB (ms : List Int) : Wv → Bool
  | .int i => decide (i ∉ ms)
  | _ => false
theorem filt_ints (p : Int → Bool) (pw : Wv → Bool) (h : ∀ i, pw (.int i) = p i) (ns : List Int) : ((ns.map Wv.int).filter pw).map (fun w => w) = (ns.filter p).map .int := by
  rw [List.map_id', List.filter_map]
  congr 1
  apply List.filter_congr
  intro i _
  exact h i
/-! ### specs -/
section
variable {K : PySem.W.Frag} {C : Addr}
/-- the first that is none is refused -/
def Need2 (K : PySem.W.Frag) (C : Addr) (w y : Wv) (G : HW) (x : XE) (ok : List Int → List Int → Prop) : Prop := KnD K G 120 w ∧ KnD K G 120 y ∧ (isConf w 120 = false → ∀ G', Ext G G' → x (.ref C) [("what", .str "parts")] G') ∧
  (isConf w 120 = true → isConf y 120 = false → ∀ G', Ext G G' → x (.ref C) [("what", .str "others")] G') ∧ ∀ ns ms : List Int, w = .tup (ns.map .int) → y = .tup (ms.map .int) → Cfg ns 120 → Cfg ms 120 → ok ns ms
def SpTwo (K : PySem.W.Frag) (C : Addr) : SpW := fun ws G q x => ∃ w y, ws = [w, y] ∧ Need2 K C w y G x fun _ _ => ∀ G', Ext G G' → q .non G'
def SpWithout (K : PySem.W.Frag) (C : Addr) : SpW := fun ws G q x => ∃ w y, ws = [w, y] ∧ Need2 K C w y G x fun ns ms => ∀ G', Ext G G' → q (.tup ((lessL ns ms).map .int)) G'
def SpTogether (K : PySem.W.Frag) (C : Addr) : SpW := fun ws G q x => ∃ w y, ws = [w, y] ∧ Need2 K C w y G x fun ns ms => ∀ out G', BothL ns ms out → Ext G G' → q (.tup (out.map .int)) G'
def SpWithin (K : PySem.W.Frag) (C : Addr) : SpW := fun ws G q x => ∃ w y, ws = [w, y] ∧ Need2 K C w y G x fun ns ms => ∀ G', Ext G G' → q (.bl (decide (lessL ns ms = []))) G'
theorem Need2.use {w y : Wv} {G G1 : HW} {x : XE} {ok : List Int → List Int → Prop} {q : WK} {x' : XE} (h : Need2 K C w y G x ok) (e : Ext G G1) (hx : ∀ cls fs G', x cls fs G' → x' cls fs G') (hok : ∀ ns ms, w = .tup (ns.map .int) → y = .tup (ms.map .int) → Cfg ns 120 → Cfg ms 120 → ok ns ms → ∀ G', Ext G1 G' → q .non G') : SpTwo K C [w, y] G1 q x' := by
  obtain ⟨h1, h2, h3, h4, h5⟩ := h
  exact ⟨w, y, rfl, h1.ext e, h2.ext e, fun a G' e' => hx _ _ _ (h3 a G' (e.trans e')), fun a b G' e' => hx _ _ _ (h4 a b G' (e.trans e')), fun ns ms a b c d => hok ns ms a b c d (h5 ns ms a b c d)⟩
theorem need2_ok {ns ms : List Int} {G : HW} {x : XE} {ok : List Int → List Int → Prop} (h1 : Cfg ns 120) (h2 : Cfg ms 120) (z : ok ns ms) : Need2 K C (.tup (ns.map .int)) (.tup (ms.map .int)) G x ok :=
  ⟨knD_ints, knD_ints, (fun e => by rw [conf_ints.mpr h1] at e; cases e), (fun _ e => by rw [conf_ints.mpr h2] at e; cases e), fun ns' ms' e1 e2 _ _ => by
    obtain rfl := ints_inj e1
    obtain rfl := ints_inj e2
    exact z⟩
theorem need2_first {w y : Wv} {G : HW} {x : XE} {ok : List Int → List Int → Prop} (h1 : KnD K G 120 w) (h2 : KnD K G 120 y) (e : isConf w 120 = false) (z : ∀ G', Ext G G' → x (.ref C) [("what", .str "parts")] G') : Need2 K C w y G x ok :=
  ⟨h1, h2, fun _ => z, (fun a => by rw [e] at a; cases a), fun ns ms e1 _ c _ => by
    subst e1
    rw [conf_ints.mpr c] at e
    cases e⟩
theorem need2_second {ns : List Int} {y : Wv} {G : HW} {x : XE} {ok : List Int → List Int → Prop} (h1 : Cfg ns 120) (h2 : KnD K G 120 y) (e : isConf y 120 = false) (z : ∀ G', Ext G G' → x (.ref C) [("what", .str "others")] G') : Need2 K C (.tup (ns.map .int)) y G x ok :=
  ⟨knD_ints, h2, (fun a => by rw [conf_ints.mpr h1] at a; cases a), fun _ _ => z, fun ns ms _ e2 _ c => by
    subst e2
    rw [conf_ints.mpr c] at e
    cases e⟩
/-- all with one less -/
def oneLess (ns : List Int) : List (List Int) := (List.range ns.length).map fun i => ns.eraseIdx (ns.length - 1 - i)
def SpOneLess (K : PySem.W.Frag) (C : Addr) : SpW := fun ws G q x => ∃ w, ws = [w] ∧ KnD K G 120 w ∧ (isConf w 120 = false → ∀ G', Ext G G' → x (.ref C) [("what", .str "parts")] G') ∧
  ∀ ns : List Int, w = .tup (ns.map .int) → Cfg ns 120 → ∀ l G', G l = none → Ext G G' → G' l = some (.lst ((oneLess ns).map fun a => .tup (a.map .int))) → q (.ref l) G'
end
theorem cut_to {α : Type} (xs : List α) (b : Int) (h1 : 0 ≤ b) (h2 : b ≤ xs.length) : cutL xs none (some b) = xs.take b.toNat := by
  have : cutL xs none (some b) = cutL xs (some 0) (some b) := rfl
  rw [this, cut_nat xs 0 b (by omega) h1 h2]
  rfl
theorem cut_from {α : Type} (xs : List α) (a : Int) (h1 : 0 ≤ a) (h2 : a ≤ xs.length) : cutL xs (some a) none = xs.drop a.toNat := by
  have : cutL xs (some a) none = cutL xs (some a) (some (xs.length : Int)) := by
    unfold cutL HT.sIx
    simp only
    rw [if_neg (show ¬ ((xs.length : Int) < 0) from by omega), Int.toNat_natCast, Nat.min_self]
  rw [this, cut_nat xs a _ h1 h2 (by omega)]
  unfold cutN
  rw [Int.toNat_natCast, List.take_of_length_le (by rw [List.length_drop]; exact Nat.le_refl _)]
theorem cut_erase {ns : List Int} {j : Nat} (h : j < ns.length) : cutL (ns.map Wv.int) none (some (j : Int)) ++ cutL (ns.map Wv.int) (some ((j : Int) + 1)) none = (ns.eraseIdx j).map .int := by
  rw [cut_to _ _ (by omega) (by rw [List.length_map]; omega), cut_from _ _ (by omega) (by rw [List.length_map]; omega), Int.toNat_natCast, show ((j : Int) + 1).toNat = j + 1 from by omega, ← List.map_take, ← List.map_drop, ← List.map_append, List.eraseIdx_eq_take_drop_succ]
/-- without the number at j: of a rising list -/
theorem filt_erase : ∀ {ns : List Int} {j : Nat} {v : Int}, ns.Nodup → ns[j]? = some v → ns.filter (fun i => !decide (i = v)) = ns.eraseIdx j
  | [], _, _, _, e => by simp at e
  | n :: ns, 0, v, hn, e => by
    simp at e
    subst e
    obtain ⟨h1, h2⟩ := List.nodup_cons.mp hn
    rw [List.filter_cons, List.eraseIdx_cons_zero]
    simp only [decide_true, Bool.not_true, Bool.false_eq_true, if_false]
    exact List.filter_eq_self.mpr fun a ha => by
      have : ¬ a = n := fun z => h1 (z ▸ ha)
      simp [this]
  | n :: ns, j + 1, v, hn, e => by
    obtain ⟨h1, h2⟩ := List.nodup_cons.mp hn
    have e : ns[j]? = some v := by simpa using e
    have : ¬ n = v := fun z => h1 (z ▸ List.mem_of_getElem? e)
    rw [List.filter_cons, List.eraseIdx_cons_succ, filt_erase h2 e]
    simp [this]
end LF

/-! LF21: instances: fields, methods, making -/
namespace LF
open PySem PySem.Spec PyProof.Rows L2
def putW (f : Str) (w : Wv) : List (Str × Wv) → List (Str × Wv)
  | [] => [(f, w)]
  | (g, y) :: r => if g = f then (g, w) :: r else (g, y) :: putW f w r
section
variable {K : PySem.W.Frag} {H : Hp}
theorem RKs.putF (f : Str) {w : Wv} {v : V} (h : RW K H w v) : ∀ {xs : List (Str × Wv)} {ys : List (Str × V)}, RKs K H xs ys → RKs K H (putW f w xs) (L2.putF f v ys)
  | _, _, .nil => .cons ⟨rfl, h⟩ .nil
  | (g, y) :: xs, (g', y') :: ys, .cons a b => by
    obtain ⟨e, r⟩ := a
    cases (show g = g' from e)
    show RKs K H (if g = f then (g, w) :: xs else (g, y) :: putW f w xs) (if g = f then (g, v) :: ys else (g, y') :: L2.putF f v ys)
    by_cases z : g = f
    · rw [if_pos z, if_pos z]; exact .cons ⟨rfl, h⟩ b
    · rw [if_neg z, if_neg z]; exact .cons ⟨rfl, r⟩ (RKs.putF f h b)
theorem RKs.nolk {f : Str} : ∀ {xs : List (Str × Wv)} {ys : List (Str × V)}, RKs K H xs ys → xs.lookup f = none → ys.lookup f = none
  | _, _, .nil, _ => rfl
  | (g, y) :: xs, (g', y') :: ys, .cons a b, e => by
    obtain ⟨e1, r⟩ := a
    cases (show g = g' from e1)
    by_cases q : f = g
    · subst q
      simp [List.lookup] at e
    · have z : (f == g) = false := by simpa using q
      simp only [List.lookup, z] at e ⊢
      exact RKs.nolk b e
end
section
variable {X : Cx} {Wx : WX} {e o : Expr} {es : List Expr} {te to : ET} {tl tk : AT} {f m x : Str} {pos pos' apos p : Pos}
/-! ### o.f -/
/-- a field of a kept error, of an instance -/
def wAt (K : PySem.W.Frag) (f : Str) : Wv → HW → WK → Prop := fun w G1 q => match w with
  | .ref a => (∃ (C : Addr) (fs : List (Str × Wv)) (y : Wv), G1 a = some (.exc a (.ref C) fs) ∧ XfC K C ∧ PySem.W.findIn K (.ref C) f = some none ∧ fs.lookup f = some y ∧ q y G1) ∨
    ∃ (C dx : Addr) (fs : List (Str × Wv)) (y : Wv), G1 a = some (.ins C dx fs) ∧ Cls K C ∧ NoAttr K C f ∧ fs.lookup f = some y ∧ q y G1
  | _ => False
def eAt (K : PySem.W.Frag) (f : Str) (te : ET) : ET := fun x σ G q => te x σ G fun w G1 => wAt K f w G1 q
theorem z_at (he : EW X Wx e te) (hb : attributeBase e f X.env (eval e X.env) = eval e X.env := by rfl) : EW X Wx (.Attribute e f pos) (eAt X.K f te) := ⟨fun pins s σ H Q I h => by
  obtain ⟨σw, G, x, q, rs, rh, px, po, h⟩ := h
  refine attr_of hb (thn (he.run pins s σ H (fun v H1 => ∃ w G1, TX X.K H H1 ∧ RW X.K H1 w v ∧ RH X.K G1 H1 ∧ wAt X.K f w G1 q) I ⟨σw, G, x, _, rs, rh, px, fun w G1 v H1 t1 r1 rh1 h1 => ⟨w, G1, t1, r1, rh1, h1⟩, h⟩) fun u s1 hh => ?_)
  obtain ⟨v, H1, I1, rv, w, G1, t1, r1, rh1, h1⟩ := hh
  unfold wAt at h1
  split at h1
  · rename_i a
    cases r1
    cases (show u = Value.ref a from rv)
    rcases h1 with ⟨C, fs, y, ea, T, hno, l, hq⟩ | ⟨C, dx, fs, y, ea, c, n, l, hq⟩
    · obtain ⟨d, e1, rx⟩ := rh1.exc ea
      obtain ⟨⟨oe, vs, h1, ⟨h2, h3⟩, h4⟩, _, _⟩ := I1.hok _ _ e1
      cases d with
      | none =>
        cases (show fs = [] from rx)
        cases l
      | some d =>
        obtain ⟨xs, e2, rk⟩ := rx
        obtain ⟨mA, hns, hr⟩ := (show ObjOk X.prog X.w H1 s1.heap d (.xd xs) from I1.hok d _ e2)
        obtain ⟨od, ho, hl⟩ := lookIn_ns hns
        obtain ⟨v, l2, ry⟩ := rk.lkp l
        obtain ⟨u, hu, ru⟩ := RelO.some_of (v := v) (o := mA f) (by rw [← l2]; exact hr f)
        have J : PySem.W.InstAt s1.heap a oe C (some od) := ⟨h1, h2, by unfold PySem.W.notCls; rw [h4], by rw [h3]; exact ho⟩
        exact HandSPX.exc_get I1.kIn J T.ga T.gg T.exC (PySem.W.findObj_own T.hdC hno rfl (by rw [hl, hu])) (handed_of ru) ⟨v, H1, I1.tok _, ru, po _ _ _ _ t1 ry rh1 hq⟩
    · obtain ⟨xs, e1, rk⟩ := rh1.ins ea
      obtain ⟨v, l2, ry⟩ := rk.lkp l
      exact getattr_ok I1 e1 c n l2 fun u' s2 I2 ru => ⟨v, H1, I2, ru, po _ _ _ _ t1 ry rh1 hq⟩
  · exact h1.elim⟩
/-- o.f = e -/
def wFst (K : PySem.W.Frag) (f : Str) (w o : Wv) (G : HW) (k : HW → Prop) : Prop := match o with
  | .ref a => ∃ C dx fs, G a = some (.ins C dx fs) ∧ Cls K C ∧ NoAttr K C f ∧ fs.length < 1000 ∧ k (updO G a (.ins C dx (putW f w fs)))
  | _ => False
def sFst (K : PySem.W.Frag) (f : Str) (te to : ET) : ST := fun D σ G => te D.ex σ G fun w G1 => to D.ex σ G1 fun o G2 => wFst K f w o G2 fun G3 => D.nx σ G3
theorem z_fst (he : EW X Wx e te) (ho : EW X Wx o to) (hs : swapsWith e (some (.Attribute o f pos')) pos.line X.env = pure false := by rfl) : TW X Wx (.Assign [.Attribute o f pos'] e pos) (sFst X.K f te to) :=
  ps_imp (ps_fld ho he hs) fun D σ H ⟨σw, G, d, rs, rh, sm, h⟩ => ⟨σw, G, d.ex, _, rs, rh, sm.ex, fun w G1 v H1 t1 r1 rh1 h1 => ⟨σw, G1, d.ex, _, rs.mono t1, rh1, sm.ex.mono t1, fun o G2 vo H2 t2 r2 rh2 h2 => by
    unfold wFst at h2
    split at h2
    · rename_i a
      obtain ⟨C, dx, fs, ea, c, n, hl, hk⟩ := h2
      cases r2
      obtain ⟨xs, e1, rk⟩ := rh2.ins ea
      have t3 : TX X.K H2 (upd H2 a (.ins C dx (L2.putF f v xs))) := TX.put e1 noTup_ins
      exact ⟨a, C, dx, xs, rfl, e1, c, n, by rw [rk.len]; exact hl, sm.nx _ _ _ _ ((t1.trans t2).trans t3) (rs.mono ((t1.trans t2).trans t3)) (rh2.putI e1 (rk.putF f (r1.mono t2))) hk⟩
    · exact h2.elim, h1⟩, h⟩

/-! ### o.m(..) -/
/-- a class that may stand ahead of .m: its method, how the call binds, its promise -/
structure Cand where
  C : Addr
  sel : List Sel
  dws : List Wv
  sp : SpW
structure CandOk (X : Cx) (k : Nat) (m : Str) (n : Nat) (ks : List Str) (c : Cand) : Prop where
  cl : Cls X.K c.C
  ok : ∃ (f : Addr) (fd : FuncData) (ps : List Str), Meth X.K c.C m f ∧ FnX X k f fd ps c.sp ∧ BindW X.K fd ps (n + 1) ks c.sel c.dws
def Cands (X : Cx) (k : Nat) (m : Str) (n : Nat) (ks : List Str) : List Cand → Prop
  | [] => True
  | c :: cs => CandOk X k m n ks c ∧ Cands X k m n ks cs
theorem Cands.at {k : Nat} {n : Nat} {ks : List Str} : ∀ {cs : List Cand} {c : Cand}, Cands X k m n ks cs → c ∈ cs → CandOk X k m n ks c
  | _ :: _, _, h, hc => (List.mem_cons.mp hc).elim (fun e => e ▸ h.1) fun z => Cands.at h.2 z
def wMeth (m : Str) (n l : Nat) (cs : List Cand) (tl tk : AT) (x : XW) (σ : SW) (q : WK) (w : Wv) (G1 : HW) : Prop := match w with
  | .ref a => ∃ c ∈ cs, ∃ dx fs, G1 a = some (.ins c.C dx fs) ∧ fs.lookup m = none ∧ tl x σ G1 fun ws G2 => tk x σ G2 fun zs G3 => ws.length = n ∧ zs.length = l ∧ c.sp (pick c.sel (.ref a :: ws) zs c.dws) G3 q fun cls fs G4 => x cls fs σ G4
  | _ => False
def eMeth (m : Str) (n l : Nat) (cs : List Cand) (to : ET) (tl tk : AT) : ET := fun x σ G q => to x σ G fun w G1 => wMeth m n l cs tl tk x σ q w G1
section
variable {k n : Nat} {ks : List Str} {kws : List Keyword} {cs : List Cand} {pl : Sem Bool}
theorem z_meth (ho : EW X Wx o to) (hcs : Cands X k m n [] cs) (hr : Rm k X.A) (tx : Takes X Wx) (ha : AW X Wx (e :: es) tl)
    (ht : eval (.Call (.Attribute o m apos) (e :: es) [] pos) X.env = (do
      let ov ← eval o X.env
      standAt apos.atName
      let (f, first) ← holding [ov] (getMethod ov m pl)
      callWith pos f first (backTo pos (starEach (e :: es) X.env)) (backToKw pos (keywordEach [] X.env))) := by rfl)
    (hst : starEach (e :: es) X.env = (false, eval e X.env) :: starEach es X.env := by rfl) (hpl : (backTo pos (starEach es X.env)).any (·.1) = false := by rfl) : EW X Wx (.Call (.Attribute o m apos) (e :: es) [] pos) (eMeth m n 0 cs to tl aNil) := ⟨fun pins s σ H Q I h => by
  obtain ⟨σw, G, xw, q, rs, rh, px, po, h⟩ := h
  refine PySem.W.methodCall_KW (pl := pl) (thn (ho.run pins s σ H (fun v H1 => ∃ w G1, TX X.K H H1 ∧ RW X.K H1 w v ∧ RH X.K G1 H1 ∧ wMeth m n 0 cs tl aNil xw σw q w G1) I ⟨σw, G, xw, _, rs, rh, px, fun w G1 v H1 t1 r1 rh1 h1 => ⟨w, G1, t1, r1, rh1, h1⟩, h⟩) fun u s1 ⟨v, H1, I1, rv, w, G1, t1, r1, rh1, h1⟩ => ?_) ht
  unfold wMeth at h1
  split at h1
  · rename_i a
    obtain ⟨c, hc, dx, fs, ea, hm, h1⟩ := h1
    cases r1
    cases (show u = Value.ref a from rv)
    obtain ⟨cl, f, fd, ps, hmeth, F, hb⟩ := hcs.at hc
    obtain ⟨xs, e1, rk⟩ := rh1.ins ea
    refine getmeth_ok I1 e1 cl hmeth (rk.nolk hm) ?_
    refine PySem.W.callWith_K (first := [.ref a]) (h₀ := X.base) I.ok.mod.kin hmeth.kp (thn (ha.run pos pins s1 σ H1 (fun vs H2 => ∃ ws G2, TX X.K H1 H2 ∧ RWs X.K H2 ws vs ∧ RH X.K G2 H2 ∧ ws.length = n ∧ c.sp (pick c.sel (.ref a :: ws) [] c.dws) G2 q fun cls fs G4 => xw cls fs σw G4) I1
      ⟨σw, G1, xw, _, rs.mono t1, rh1, px.mono t1, fun ws G2 vs H2 t2 r2 rh2 h2 => ⟨ws, G2, t2, r2, rh2, h2.1, h2.2.2⟩, h1⟩) fun us s2 ⟨vs, H2, I2, r, ws, G2, t2, r2, rh2, hn, h2⟩ => ⟨I2.kIn, ?_⟩) hst hpl
    exact run_w (us := .ref a :: us) (uk := []) (wk := []) F hr hb tx I2 (.cons (show RelV (.ref a) (.ref a) from rfl) r) .nil (.cons (.ref a) r2) .nil (by rw [List.length_cons, hn]) rfl (rs.mono (t1.trans t2)) rh2 (px.mono (t1.trans t2)) (po.mono (t1.trans t2)) h2
  · exact h1.elim⟩
theorem z_meth0 (ho : EW X Wx o to) (hcs : Cands X k m 0 [] cs) (hr : Rm k X.A) (tx : Takes X Wx)
    (ht : eval (.Call (.Attribute o m apos) [] [] pos) X.env = (do
      let ov ← eval o X.env
      standAt apos.atName
      let (f, first) ← holding [ov] (getMethod ov m pl)
      callWith pos f first (backTo pos (starEach [] X.env)) (backToKw pos (keywordEach [] X.env))) := by rfl) : EW X Wx (.Call (.Attribute o m apos) [] [] pos) (eMeth m 0 0 cs to aNil aNil) := ⟨fun pins s σ H Q I h => by
  obtain ⟨σw, G, xw, q, rs, rh, px, po, h⟩ := h
  refine PySem.W.methodCall_KW (pl := pl) (thn (ho.run pins s σ H (fun v H1 => ∃ w G1, TX X.K H H1 ∧ RW X.K H1 w v ∧ RH X.K G1 H1 ∧ wMeth m 0 0 cs aNil aNil xw σw q w G1) I ⟨σw, G, xw, _, rs, rh, px, fun w G1 v H1 t1 r1 rh1 h1 => ⟨w, G1, t1, r1, rh1, h1⟩, h⟩) fun u s1 ⟨v, H1, I1, rv, w, G1, t1, r1, rh1, h1⟩ => ?_) ht
  unfold wMeth at h1
  split at h1
  · rename_i a
    obtain ⟨c, hc, dx, fs, ea, hm, h1⟩ := h1
    cases r1
    cases (show u = Value.ref a from rv)
    obtain ⟨cl, f, fd, ps, hmeth, F, hb⟩ := hcs.at hc
    obtain ⟨xs, e1, rk⟩ := rh1.ins ea
    refine getmeth_ok I1 e1 cl hmeth (rk.nolk hm) ?_
    exact PySem.W.callWith_K0 (first := [.ref a]) I1.kIn hmeth.kp (run_w (us := [.ref a]) (uk := []) (wu := [.ref a]) (wk := []) F hr hb tx I1 (.cons (show RelV (.ref a) (.ref a) from rfl) .nil) .nil (.cons (.ref a) .nil) .nil rfl rfl (rs.mono t1) rh1 (px.mono t1) (po.mono t1) h1.2.2)
  · exact h1.elim⟩
theorem z_methK (ho : EW X Wx o to) (hcs : Cands X k m 0 ks cs) (hr : Rm k X.A) (tx : Takes X Wx) (hkw : KWs X Wx kws tk)
    (hall : (backToKw pos (keywordEach kws X.env)).all (·.1.isSome) = true := by rfl) (hks : (backToKw pos (keywordEach kws X.env)).filterMap (·.1) = ks := by rfl)
    (ht : eval (.Call (.Attribute o m apos) [] kws pos) X.env = (do
      let ov ← eval o X.env
      standAt apos.atName
      let (f, first) ← holding [ov] (getMethod ov m pl)
      callWith pos f first (backTo pos (starEach [] X.env)) (backToKw pos (keywordEach kws X.env))) := by rfl)
    (hpl : ((backTo pos (starEach [] X.env)).any (·.1) || (backToKw pos (keywordEach kws X.env)).any (·.1.isNone)) = false := by rfl) : EW X Wx (.Call (.Attribute o m apos) [] kws pos) (eMeth m 0 ks.length cs to aNil tk) := ⟨fun pins s σ H Q I h => by
  obtain ⟨σw, G, xw, q, rs, rh, px, po, h⟩ := h
  refine PySem.W.methodCall_KW (pl := pl) (thn (ho.run pins s σ H (fun v H1 => ∃ w G1, TX X.K H H1 ∧ RW X.K H1 w v ∧ RH X.K G1 H1 ∧ wMeth m 0 ks.length cs aNil tk xw σw q w G1) I ⟨σw, G, xw, _, rs, rh, px, fun w G1 v H1 t1 r1 rh1 h1 => ⟨w, G1, t1, r1, rh1, h1⟩, h⟩) fun u s1 ⟨v, H1, I1, rv, w, G1, t1, r1, rh1, h1⟩ => ?_) ht
  unfold wMeth at h1
  split at h1
  · rename_i a
    obtain ⟨c, hc, dx, fs, ea, hm, h1⟩ := h1
    cases r1
    cases (show u = Value.ref a from rv)
    obtain ⟨cl, f, fd, ps, hmeth, F, hb⟩ := hcs.at hc
    obtain ⟨xs, e1, rk⟩ := rh1.ins ea
    refine getmeth_ok I1 e1 cl hmeth (rk.nolk hm) ?_
    refine PySem.W.callWith_KW0 (first := [.ref a]) (h₀ := X.base) I.ok.mod.kin hmeth.kp hall ?_ hpl
    refine thn (hkw.run pos pins s1 σ H1 (fun zs H2 => ∃ wz G2, TX X.K H1 H2 ∧ RWs X.K H2 wz zs ∧ RH X.K G2 H2 ∧ wz.length = ks.length ∧ c.sp (pick c.sel [.ref a] wz c.dws) G2 q fun cls fs G3 => xw cls fs σw G3) I1
      ⟨σw, G1, xw, _, rs.mono t1, rh1, px.mono t1, fun wz G2 zs H2 t2 r2 rh2 h2 => ⟨wz, G2, t2, r2, rh2, h2.2.1, h2.2.2⟩, h1⟩) fun uz s2 ⟨zs, H2, I2, rz, wz, G2, t2, r2, rh2, hl, h2⟩ => ⟨I2.kIn, ?_⟩
    rw [hks]
    exact run_w (us := [.ref a]) (wu := [.ref a]) F hr hb tx I2 (.cons (show RelV (.ref a) (.ref a) from rfl) .nil) rz (.cons (.ref a) .nil) r2 rfl hl (rs.mono (t1.trans t2)) rh2 (px.mono (t1.trans t2)) (po.mono (t1.trans t2)) h2
  · exact h1.elim⟩
end

/-! ### C(..) -/
section
variable {k n : Nat} {g C : Addr} {fd : FuncData} {ps ks : List Str} {sp : SpW} {sel : List Sel} {dws : List Wv} {kws : List Keyword}
theorem run_mk {pins : List (Addr × Obj)} {σ : L2.St} {H : Hp} {s : Shared} {Q : VK} {σw : SW} {G : HW} {x : XW} {q : WK} {us uk : List Value} {vu vk : List V} {wu wk : List Wv} (M : Mk X.K C g) (F : FnX X k g fd ps sp) (hr : Rm (k + 1) X.A) (hb : BindW X.K fd ps (n + 1) ks sel dws) (tk : Takes X Wx)
    (I : Inv X pins σ H s) (r : Vals vu us) (rk : Vals vk uk) (wr : RWs X.K H wu vu) (wk' : RWs X.K H wk vk) (hn : wu.length = n) (hk : wk.length = ks.length) (rs : RS X.K H σw σ) (rh : RH X.K G H) (px : PostX X.K H Wx x) (po : Post X.K H Q q)
    (h : ∀ p dx, G p = none → sp (pick sel (.ref p :: wu) wk dws) (updO G p (.ins C dx [])) (fun v G' => v = .non ∧ q (.ref p) G') fun cls fs G2 => x cls fs σw G2) : wpAny (model X.prog X.w) X.A (call (.ref C) us (ks.zip uk)) (EP X pins σ Q) X.xe s := by
  obtain ⟨dvs, ds, hv, hw, to⟩ := hb.dv
  have n1 : H s.heap.objs.size = none := I.hok.fresh (Nat.le_refl _)
  have n2 : H (s.heap.objs.size + 1) = none := I.hok.fresh (Nat.le_succ _)
  have n3 : upd H s.heap.objs.size (.own (s.heap.objs.size + 1)) (s.heap.objs.size + 1) = none := by rw [upd_ne (Nat.succ_ne_self _)]; exact n2
  have hq := h (s.heap.objs.size + 1) s.heap.objs.size (rh.fresh n2)
  have I2 := Inv.made (C := C) I
  have tx : TX X.K H (upd (upd H s.heap.objs.size (.own (s.heap.objs.size + 1))) (s.heap.objs.size + 1) (.ins C s.heap.objs.size [])) := (TX.new n1).trans (TX.new n3)
  have rh2 : RH X.K (updO G (s.heap.objs.size + 1) (.ins C s.heap.objs.size [])) (upd (upd H s.heap.objs.size (.own (s.heap.objs.size + 1))) (s.heap.objs.size + 1) (.ins C s.heap.objs.size [])) := (rh.kept n1).new n3 ⟨[], rfl, .nil⟩
  have r2 := pick_vals (.cons (show RelV (.ref (s.heap.objs.size + 1)) (.ref (s.heap.objs.size + 1)) from rfl) r) rk hv sel
  have w2 := pick_rws (RWs.cons (.ref (s.heap.objs.size + 1)) (wr.mono tx)) (wk'.mono tx) (hw _) sel
  have lu : us.length = n := by rw [← r.length, wr.len]; exact hn
  refine wpAny_call (make_map (f := g) I.kIn M.makes M.init (beq_iff_eq.mp M.fn) (codeAny_mono (F.run _ X.stack _ _ ⟨.ref (s.heap.objs.size + 1) :: us, ks.zip uk⟩ _ _ (fun v H2 => v = .non ∧ Q (.ref (s.heap.objs.size + 1)) H2) (fun cls d H' => Wx cls d σ H' ∧ True) (hr.make C us (ks.zip uk))
    (I2.env0.make C us (ks.zip uk)) (to _ (.ref (s.heap.objs.size + 1) :: us) uk I2.kIn (by rw [List.length_cons, lu]) (by rw [← rk.length, wk'.len]; exact hk)) r2
    ⟨_, _, _, _, w2, rh2, fun w G' v H' t r1 rh' hh => ?_, fun cls d fs G' H' t rx rh' hx => ⟨px cls d fs σw G' σ H' (tx.trans t) rx (rs.mono (tx.trans t)) rh' hx, trivial⟩, hq⟩) fun rr s' hq' => ?_))
  · obtain ⟨e, hh⟩ := hh
    subst e
    cases r1
    exact ⟨rfl, po _ _ _ _ (tx.trans t) (.ref _) rh' hh⟩
  · cases rr with
    | error er => exact tk er s' (XE.of_call I2 (fun cls d H' z => z.1) hq')
    | ok fl =>
      cases fl with
      | ret u =>
        obtain ⟨v, H', I3, rv, ev, q3⟩ := I2.after hq'
        subst ev
        exact ⟨rv, ⟨V.ref (s.heap.objs.size + 1), H', I3, rfl, q3⟩⟩
      | next => exact False.elim hq'
      | brk => exact False.elim hq'
      | cont => exact False.elim hq'
def wMake (C : Addr) (n l : Nat) (sel : List Sel) (dws : List Wv) (sp : SpW) (x : XW) (σ : SW) (q : WK) (ws zs : List Wv) (G : HW) : Prop := ws.length = n ∧ zs.length = l ∧ ∀ p dx, G p = none → sp (pick sel (.ref p :: ws) zs dws) (updO G p (.ins C dx [])) (fun v G' => v = .non ∧ q (.ref p) G') fun cls fs G2 => x cls fs σ G2
def eMake (C : Addr) (n l : Nat) (sel : List Sel) (dws : List Wv) (sp : SpW) (tl tk : AT) : ET := fun x σ G q => tl x σ G fun ws G1 => tk x σ G1 fun zs G2 => wMake C n l sel dws sp x σ q ws zs G2
theorem z_make (M : Mk X.K C g) (F : FnX X k g fd ps sp) (hr : Rm (k + 1) X.A) (hg : Gl X x) (hm : X.mg x = some (.ref C)) (hb : BindW X.K fd ps (n + 1) [] sel dws) (tx : Takes X Wx) (ha : AW X Wx (e :: es) tl)
    (hdb : (x == ("__debug__" : Str)) = false := by decide) (he : starEach (e :: es) X.env = (false, eval e X.env) :: starEach es X.env := by rfl) (hpl : (backTo pos (starEach es X.env)).any (·.1) = false := by rfl) :
    EW X Wx (.Call (.Name x p) (e :: es) [] pos) (eMake C n 0 sel dws sp tl aNil) := ⟨fun pins s σ H Q I h => by
  obtain ⟨σw, G, xw, q, rs, rh, px, po, h⟩ := h
  refine wpAny_Call_Name_kw (ld_glob I hg hm ?_ hdb)
  refine PySem.W.callWith_K (h₀ := X.base) I.ok.mod.kin M.kp (thn (ha.run pos pins s σ H (fun vs H1 => ∃ ws G1, TX X.K H H1 ∧ RWs X.K H1 ws vs ∧ RH X.K G1 H1 ∧ wMake C n 0 sel dws sp xw σw q ws [] G1) I
    ⟨σw, G, xw, _, rs, rh, px, fun ws G1 vs H1 t1 r1 rh1 h1 => ⟨ws, G1, t1, r1, rh1, h1⟩, h⟩) fun us s1 ⟨vs, H1, I1, r, ws, G1, t1, r1, rh1, h1⟩ => ⟨I1.kIn, ?_⟩) he hpl
  exact run_mk (uk := []) (wk := []) M F hr hb tx I1 r .nil r1 .nil h1.1 rfl (rs.mono t1) rh1 (px.mono t1) (po.mono t1) h1.2.2⟩
theorem z_makeN (M : Mk X.K C g) (F : FnX X k g fd ps sp) (hr : Rm (k + 1) X.A) (hg : Gl X x) (hm : X.mg x = some (.ref C)) (hb : BindW X.K fd ps (n + 1) ks sel dws) (tx : Takes X Wx) (ha : AW X Wx (e :: es) tl) (hkw : KWs X Wx kws tk)
    (hall : (backToKw pos (keywordEach kws X.env)).all (·.1.isSome) = true := by rfl) (hks : (backToKw pos (keywordEach kws X.env)).filterMap (·.1) = ks := by rfl) (hdb : (x == ("__debug__" : Str)) = false := by decide)
    (he : starEach (e :: es) X.env = (false, eval e X.env) :: starEach es X.env := by rfl) (hpl : ((backTo pos (starEach (e :: es) X.env)).any (·.1) || (backToKw pos (keywordEach kws X.env)).any (·.1.isNone)) = false := by rfl) :
    EW X Wx (.Call (.Name x p) (e :: es) kws pos) (eMake C n ks.length sel dws sp tl tk) := ⟨fun pins s σ H Q I h => by
  obtain ⟨σw, G, xw, q, rs, rh, px, po, h⟩ := h
  refine wpAny_Call_Name_kw (ld_glob I hg hm ?_ hdb)
  refine PySem.W.callWith_KW (h₀ := X.base) I.ok.mod.kin M.kp hall (thn (ha.run pos pins s σ H (fun vs H1 => ∃ ws G1, TX X.K H H1 ∧ RWs X.K H1 ws vs ∧ RH X.K G1 H1 ∧ tk xw σw G1 fun zs G2 => wMake C n ks.length sel dws sp xw σw q ws zs G2) I
    ⟨σw, G, xw, _, rs, rh, px, fun ws G1 vs H1 t1 r1 rh1 h1 => ⟨ws, G1, t1, r1, rh1, h1⟩, h⟩) fun us s1 ⟨vs, H1, I1, r, ws, G1, t1, r1, rh1, h1⟩ => ?_) hpl he
  refine thn (hkw.run pos pins s1 σ H1 (fun zs H2 => ∃ wz G2, TX X.K H1 H2 ∧ RWs X.K H2 wz zs ∧ RH X.K G2 H2 ∧ wMake C n ks.length sel dws sp xw σw q ws wz G2) I1
    ⟨σw, G1, xw, _, rs.mono t1, rh1, px.mono t1, fun wz G2 zs H2 t2 r2 rh2 h2 => ⟨wz, G2, t2, r2, rh2, h2⟩, h1⟩) fun uz s2 ⟨zs, H2, I2, rz, wz, G2, t2, r2, rh2, h2⟩ => ⟨I2.kIn, ?_⟩
  rw [hks]
  exact run_mk M F hr hb tx I2 r rz (r1.mono t2) r2 h2.1 h2.2.1 (rs.mono (t1.trans t2)) rh2 (px.mono (t1.trans t2)) (po.mono (t1.trans t2)) h2.2.2⟩
theorem z_makeK (M : Mk X.K C g) (F : FnX X k g fd ps sp) (hr : Rm (k + 1) X.A) (hg : Gl X x) (hm : X.mg x = some (.ref C)) (hb : BindW X.K fd ps 1 ks sel dws) (tx : Takes X Wx) (hkw : KWs X Wx kws tk)
    (hall : (backToKw pos (keywordEach kws X.env)).all (·.1.isSome) = true := by rfl) (hks : (backToKw pos (keywordEach kws X.env)).filterMap (·.1) = ks := by rfl) (hdb : (x == ("__debug__" : Str)) = false := by decide)
    (hpl : ((backTo pos (starEach [] X.env)).any (·.1) || (backToKw pos (keywordEach kws X.env)).any (·.1.isNone)) = false := by rfl) :
    EW X Wx (.Call (.Name x p) [] kws pos) (eMake C 0 ks.length sel dws sp aNil tk) := ⟨fun pins s σ H Q I h => by
  obtain ⟨σw, G, xw, q, rs, rh, px, po, h⟩ := h
  refine wpAny_Call_Name_kw (ld_glob I hg hm ?_ hdb)
  refine PySem.W.callWith_KW0 (h₀ := X.base) I.ok.mod.kin M.kp hall ?_ hpl
  refine thn (hkw.run pos pins s σ H (fun zs H2 => ∃ wz G2, TX X.K H H2 ∧ RWs X.K H2 wz zs ∧ RH X.K G2 H2 ∧ wMake C 0 ks.length sel dws sp xw σw q [] wz G2) I
    ⟨σw, G, xw, _, rs, rh, px, fun wz G2 zs H2 t2 r2 rh2 h2 => ⟨wz, G2, t2, r2, rh2, h2⟩, h⟩) fun uz s2 ⟨zs, H2, I2, rz, wz, G2, t2, r2, rh2, h2⟩ => ⟨I2.kIn, ?_⟩
  rw [hks]
  exact run_mk (us := []) (wu := []) (n := 0) M F hr hb tx I2 .nil rz .nil r2 rfl h2.2.1 (rs.mono t2) rh2 (px.mono t2) (po.mono t2) h2.2.2⟩
end
end

/-! ### the readings run -/
section
variable {x : XW} {σ : SW} {G : HW} {q : WK} {K : PySem.W.Frag} {te to : ET} {tl tk : AT} {f m : Str} {w : Wv} {ws zs : List Wv} {D : EndsW} {n l : Nat} {cs : List Cand}
def kAt (K : PySem.W.Frag) (f : Str) (q : WK) : WK := fun w G => wAt K f w G q
theorem m_At : eAt K f te x σ G q = te x σ G (kAt K f q) := rfl
theorem r_err {a C : Addr} {fs : List (Str × Wv)} {y : Wv} (h : G a = some (.exc a (.ref C) fs)) (c : XfC K C) (n : PySem.W.findIn K (.ref C) f = some none) (l : fs.lookup f = some y) (z : q y G) : kAt K f q (.ref a) G := .inl ⟨C, fs, y, h, c, n, l, z⟩
theorem r_fld {a C dx : Addr} {fs : List (Str × Wv)} {y : Wv} (h : G a = some (.ins C dx fs)) (c : Cls K C) (n : NoAttr K C f) (l : fs.lookup f = some y) (z : q y G) : kAt K f q (.ref a) G := .inr ⟨C, dx, fs, y, h, c, n, l, z⟩
def kFs2 (K : PySem.W.Frag) (f : Str) (w : Wv) (D : EndsW) (σ : SW) : WK := fun o G => wFst K f w o G fun G3 => D.nx σ G3
def kFs (K : PySem.W.Frag) (f : Str) (to : ET) (D : EndsW) (σ : SW) : WK := fun w G => to D.ex σ G (kFs2 K f w D σ)
theorem m_Fst : sFst K f te to D σ G = te D.ex σ G (kFs K f to D σ) := rfl
theorem m_kFs : kFs K f to D σ w G = to D.ex σ G (kFs2 K f w D σ) := rfl
theorem r_fst {a C dx : Addr} {fs fs' : List (Str × Wv)} (h : G a = some (.ins C dx fs)) (c : Cls K C) (n : NoAttr K C f) (hl : fs.length < 1000) (e : putW f w fs = fs') (z : D.nx σ (updO G a (.ins C dx fs'))) : kFs2 K f w D σ (.ref a) G := ⟨C, dx, fs, h, c, n, hl, by rw [e]; exact z⟩
def kMe (m : Str) (n l : Nat) (cs : List Cand) (tl tk : AT) (x : XW) (σ : SW) (q : WK) : WK := fun w G => wMeth m n l cs tl tk x σ q w G
theorem m_Meth : eMeth m n l cs to tl tk x σ G q = to x σ G (kMe m n l cs tl tk x σ q) := rfl
def kMe3 (n l : Nat) (c : Cand) (a : Addr) (ws : List Wv) (x : XW) (σ : SW) (q : WK) : List Wv → HW → Prop := fun zs G => ws.length = n ∧ zs.length = l ∧ c.sp (pick c.sel (.ref a :: ws) zs c.dws) G q (kX x σ)
def kMe2 (n l : Nat) (c : Cand) (a : Addr) (tk : AT) (x : XW) (σ : SW) (q : WK) : List Wv → HW → Prop := fun ws G => tk x σ G (kMe3 n l c a ws x σ q)
variable {c : Cand} {a : Addr}
theorem m_kMe2 : kMe2 n l c a tk x σ q ws G = tk x σ G (kMe3 n l c a ws x σ q) := rfl
theorem m_kMe3 (h1 : ws.length = n) (h2 : zs.length = l) : kMe3 n l c a ws x σ q zs G = c.sp (pick c.sel (.ref a :: ws) zs c.dws) G q (kX x σ) := propext ⟨fun z => z.2.2, fun z => ⟨h1, h2, z⟩⟩
theorem r_meth {dx : Addr} {fs : List (Str × Wv)} (hc : c ∈ cs) (h : G a = some (.ins c.C dx fs)) (hm : fs.lookup m = none) (z : tl x σ G (kMe2 n l c a tk x σ q)) : kMe m n l cs tl tk x σ q (.ref a) G := ⟨c, hc, dx, fs, h, hm, z⟩
/-- the one class whose method it may be -/
theorem r_meth1 {dx C : Addr} {sel : List Sel} {dws : List Wv} {sp : SpW} {fs : List (Str × Wv)} (h : G a = some (.ins C dx fs)) (hm : fs.lookup m = none) (z : tl x σ G (kMe2 n l ⟨C, sel, dws, sp⟩ a tk x σ q)) : kMe m n l [⟨C, sel, dws, sp⟩] tl tk x σ q (.ref a) G := ⟨_, List.mem_cons_self, dx, fs, h, hm, z⟩
variable {C : Addr} {sel : List Sel} {dws : List Wv} {sp : SpW}
def kMk2 (C : Addr) (n l : Nat) (sel : List Sel) (dws : List Wv) (sp : SpW) (ws : List Wv) (x : XW) (σ : SW) (q : WK) : List Wv → HW → Prop := fun zs G => wMake C n l sel dws sp x σ q ws zs G
def kMk1 (C : Addr) (n l : Nat) (sel : List Sel) (dws : List Wv) (sp : SpW) (tk : AT) (x : XW) (σ : SW) (q : WK) : List Wv → HW → Prop := fun ws G => tk x σ G (kMk2 C n l sel dws sp ws x σ q)
theorem m_Make : eMake C n l sel dws sp tl tk x σ G q = tl x σ G (kMk1 C n l sel dws sp tk x σ q) := rfl
theorem m_kMk1 : kMk1 C n l sel dws sp tk x σ q ws G = tk x σ G (kMk2 C n l sel dws sp ws x σ q) := rfl
def kMade (p : Addr) (q : WK) : WK := fun v G => v = .non ∧ q (.ref p) G
theorem m_kMade {p : Addr} : kMade p q .non G = q (.ref p) G := propext ⟨fun z => z.2, fun z => ⟨rfl, z⟩⟩
theorem r_make (z : ∀ p dx, G p = none → sp (pick sel (.ref p :: ws) zs dws) (updO G p (.ins C dx [])) (kMade p q) (kX x σ)) (h1 : ws.length = n := by rfl) (h2 : zs.length = l := by rfl) : kMk2 C n l sel dws sp ws x σ q zs G := ⟨h1, h2, z⟩
end
end LF

/-! LF22: sorted of lists, tuples, tables; more of tables -/
namespace LF
open PySem PySem.Spec PyProof.Rows L2
section
variable {P : Program} {w : World} {A : Around} {s : Shared} {E : Value → Shared → Prop} {r : Addr}
/-- what is walked at r gives vs -/
def Gathers (P : Program) (w : World) (A : Around) (s : Shared) (r : Addr) (Pv : List Value → Prop) : Prop := ∀ (R : List Value → Shared → Prop) (E : Value → Shared → Prop),
  (∀ (h' : Heap) (tk : Nat) (vs : List Value), (∀ b o, s.heap.get? b = some o → h'.get? b = some o) → Pv vs → R vs { s with heap := h', toks := tk }) → wpAny (model P w) A (collect (.ref r)) R E s
theorem grown_old {h : Heap} {vs : List Value} {b : Addr} {o : Obj} (e : h.get? b = some o) : ((h.push (seqObj "list" #[] 0)).update h.objs.size (Obj.mapSeq (· ++ vs.toArray))).get? b = some o := by
  rw [Heap.get?_update_ne _ _ _ _ (Nat.ne_of_lt (Heap.lt_size e))]
  exact Heap.get?_push_of_some _ e
theorem gathers_list {vs : List Value} (hl : s.heap.IsList r vs.toArray) (hz : vs.length ≤ sizeLine) : Gathers P w A s r (· = vs) := fun R E h => collect_list hl (h _ s.toks vs (fun b o e => grown_old e) rfl) hz
theorem gathers_tup {vs : List Value} (hl : IsTup s.heap r vs.toArray) (hz : vs.length ≤ sizeLine) : Gathers P w A s r (· = vs) := fun R E h => by
  obtain ⟨o, ho, hc, n, hd⟩ := id hl
  unfold collect
  refine wpAny_bind (wpAny_runValue (codeAny_builtin entry_proto_collect' ?_))
  show wpAny _ _ (do again (.builtin "list.__iadd__" ⟨[← newList [], .ref r], []⟩)) _ _ s
  refine wpAny_bind (wpAny_newList (wpAny_pure ⟨Code.quiet_builtin _ (by decide +kernel), codeAny_builtin entry_list_iadd' ?_⟩))
  show wpAny _ _ (Builtin.List.listExtendWith (.ref s.heap.objs.size) (.ref r) (.ref s.heap.objs.size)) _ _ { s with heap := s.heap.push (seqObj "list" #[] 0) }
  unfold Builtin.List.listExtendWith
  have ho' : (s.heap.push (seqObj "list" #[] 0)).get? r = some o := Heap.get?_push_of_some _ ho
  refine wpAny_bind (wpAny_typeOf (T := "tuple") ⟨o, ho', hc⟩ ?_)
  have ht : (Value.type "tuple" == Value.type "tuple") = true := by rfl
  rw [if_pos (by rw [ht]; simp)]
  refine wpAny_bind (listItems_at ho' hd (wpAny_bind (listItems_at (xs := #[]) (n := 0) (Heap.get?_push_size _ rfl) rfl ?_)))
  rw [if_neg (by simp)]
  refine wpAny_bind (listUpdate_at (xs := #[]) (n := 0) (Heap.get?_push_size _ rfl) rfl ?_ (Nat.zero_le _) (by show (#[] ++ vs.toArray).size ≤ sizeLine + 1; simp only [Array.size_append, List.size_toArray, List.length_nil]; omega))
  refine wpAny_pure ?_
  show wpAny (model P w) A (do
      let o ← load s.heap.objs.size
      match o.data with
      | .seq xs _ => pure xs.toList
      | _ => unsupported "internal:collect") R E { s with heap := (s.heap.push (seqObj "list" #[] 0)).update s.heap.objs.size (Obj.mapSeq (· ++ vs.toArray)) }
  refine wpAny_bind (wpAny_load (get?_update_seq (Heap.get?_push_size _ rfl) _) ?_)
  show wpAny _ _ (pure ((#[] : Array Value) ++ vs.toArray).toList) R E _
  rw [show ((#[] : Array Value) ++ vs.toArray).toList = vs by simp]
  exact wpAny_pure (h _ s.toks vs (fun b o e => grown_old e) rfl)
theorem sorted_from {Pv : List Value → Prop} {ltv : Value → Value → Bool} {Q : Value → Shared → Prop} (G : Gathers P w A.in1 s r Pv) (O : SrtO.Swo ltv) (hz : ∀ vs, Pv vs → vs.length ≤ sizeLine)
    (hS : ∀ (vs : List Value) (h₁ : Heap) (tk : Nat) (a : Addr) (A' : Around), Pv vs → 2 ≤ vs.length → h₁.get? a = some (seqObj "list" vs.toArray 0) → (∀ b o, s.heap.get? b = some o → b ≠ a ∧ h₁.get? b = some o) → SrtO.SortableO P w A' { s with heap := h₁, toks := tk } a vs ltv)
    (hQ : ∀ (h1 h' : Heap) (tk : Nat) (p : Addr) (out vs : List Value) (c : Nat), (∀ b o, s.heap.get? b = some o → h1.get? b = some o) → (∀ b o, h1.get? b = some o → h'.get? b = some o) → h1.objs.size ≤ p → h'.get? p = some (seqObj "list" out.toArray c) → Pv vs → SrtO.Srtd ltv out → SrtO.Stb ltv out vs → Q (.ref p) { s with heap := h', toks := tk }) :
    wpAny (model P w) A (call (.builtin "sorted") [.ref r]) Q E s := by
  refine Calls.call_function_entry kind_sorted plain_sorted entry_sorted (args_sorted1 _) ?_
  unfold Builtin.«sorted»
  refine wpAny_bind (m := checkCount "sorted" 1 1 _) (wpAny_pure (wpAny_bind (G _ _ fun h1 tk vs k1 pv => ?_)))
  have hvz := hz vs pv
  refine wpAny_bind (wpAny_newList ?_ hvz)
  have hoL : (h1.push (seqObj "list" vs.toArray 0)).get? h1.objs.size = some (seqObj "list" vs.toArray 0) := Heap.get?_push_size _ rfl
  have keep : ∀ b o, s.heap.get? b = some o → b ≠ h1.objs.size ∧ (h1.push (seqObj "list" vs.toArray 0)).get? b = some o := fun b o e => ⟨Nat.ne_of_lt (Heap.lt_size (k1 b o e)), Heap.get?_push_of_some _ (k1 b o e)⟩
  show wpAny _ _ _ _ _ { s with heap := h1.push (seqObj "list" vs.toArray 0), toks := tk }
  refine wpAny_bind (wpAny_holding (wpAny_call_entry slot_list_sort ⟨_, hoL, rfl⟩ entry_list_sort (SrtO.list_sort_ord O hoL hvz (fun h2 => hS vs _ tk _ _ pv h2 hoL keep) fun out a1 a2 => ⟨_, rfl, ?_⟩) (args_list_sort _)))
  obtain ⟨c, hc⟩ := sortedHeap_at (vs := vs) (out := out.toArray) hoL
  refine wpAny_pure ⟨_, rfl, hQ h1 (sortedHeap (h1.push (seqObj "list" vs.toArray 0)) h1.objs.size vs out.toArray) tk h1.objs.size out vs c k1 (fun b o e => ?_) (Nat.le_refl _) hc pv a1 a2⟩
  rw [sortedHeap_old (Nat.ne_of_lt (Heap.lt_size e)) (by rw [size_push']; exact Nat.lt_succ_of_lt (Heap.lt_size e))]
  exact Heap.get?_push_of_some _ e
end

/-! ### over trees -/
section
variable {K : PySem.W.Frag} {H : Hp}
def tup2 (p : Int × Int) : Wv := .tup [.int p.1, .int p.2]
def pairAt (H : Hp) : V → Int × Int
  | .ref t => match H t with
    | some (.tup [.int i, .int j]) => (i, j)
    | _ => (0, 0)
  | _ => (0, 0)
theorem rw_pair {p : Int × Int} {v : V} (r : RW K H (tup2 p) v) : ∃ t, v = .ref t ∧ H t = some (.tup [.int p.1, .int p.2]) ∧ pairAt H v = p := by
  cases r with
  | @tup a xs ws hb rr =>
    obtain ⟨v1, v2, rfl, r1, r2⟩ := rws2 rr
    cases r1; cases r2
    refine ⟨a, rfl, hb, ?_⟩
    unfold pairAt
    dsimp only
    rw [hb]
theorem rws_pairs : ∀ {ps : List (Int × Int)} {vs : List V}, RWs K H (ps.map tup2) vs → vs.map (pairAt H) = ps
  | [], _, .nil => rfl
  | p :: ps, _, .cons r rs => by
    obtain ⟨_, _, _, e⟩ := rw_pair r
    rw [List.map_cons, e, rws_pairs rs]
theorem RKs.keysEq {κ : Type} {kvs : List (κ × Wv)} {vs : List (κ × V)} (r : RKs K H kvs vs) : vs.map (·.1) = kvs.map (·.1) := by
  induction r with
  | nil => rfl
  | cons h t ih => rw [List.map_cons, List.map_cons, ih, h.1]
theorem rws_mem : ∀ {ws : List Wv} {vs : List V} {v : V}, RWs K H ws vs → v ∈ vs → ∃ w ∈ ws, RW K H w v
  | _, _, v, .nil, h => nomatch h
  | _, _, v, .cons r rs, h => by
    rcases List.mem_cons.mp h with rfl | z
    · exact ⟨_, List.mem_cons_self, r⟩
    · obtain ⟨w, a, b⟩ := rws_mem rs z
      exact ⟨w, List.mem_cons_of_mem _ a, b⟩
theorem rws_of_pairs : ∀ {vs : List V}, (∀ v ∈ vs, ∃ p, RW K H (tup2 p) v) → RWs K H ((vs.map (pairAt H)).map tup2) vs
  | [], _ => .nil
  | v :: vs, h => by
    obtain ⟨p, r⟩ := h v List.mem_cons_self
    obtain ⟨_, _, _, e⟩ := rw_pair r
    refine .cons ?_ (rws_of_pairs fun u hu => h u (List.mem_cons_of_mem _ hu))
    rw [e]
    exact r
end
/-- rising pairs: what stands behind is not below -/
def RiseP (ps : List (Int × Int)) : Prop := ps.Pairwise fun a b => SrtO.lexB b a = false
section
variable {X : Cx}
/-- sorted(x): a list or a tuple of ints, of pairs; a table whose keys are ints -/
def wSrt : RCop := fun ws G q => match ws with
  | [w] => ((∃ ns : List Int, (w = .tup (ns.map .int) ∨ (∃ p, w = .ref p ∧ RdL G p (ns.map .int)) ∨ ∃ p kvs, w = .ref p ∧ G p = some (.dct kvs) ∧ kvs.map (·.1) = ns.map Sum.inl ∧ kvs.length ≤ sizeLine) ∧
      ∀ ns' : List Int, ns'.Perm ns → ns'.Pairwise (· ≤ ·) → ∀ l, G l = none → q (.ref l) (updO G l (.lst (ns'.map .int)))) ∨
    ∃ ps : List (Int × Int), (w = .tup (ps.map tup2) ∨ ∃ p, w = .ref p ∧ RdL G p (ps.map tup2)) ∧ ∀ ps' : List (Int × Int), ps'.Perm ps → RiseP ps' → ∀ l, G l = none → q (.ref l) (updO G l (.lst (ps'.map tup2))))
  | _ => False
theorem w_srt (hc : X.calm = true) : CW X (.builtin "sorted") wSrt := by
  rintro pins s σ H xs us Q I r ⟨ws, G, q, rw', rh, po, h⟩
  unfold wSrt at h
  split at h
  · rename_i w
    obtain ⟨v, rfl, rv⟩ := rws1 rw'
    have hd := I.ok.hd hc
    obtain ⟨u0, rfl, ru0⟩ : ∃ u, us = [u] ∧ RelV v u := r.one
    have fin : ∀ {r : Addr} {vs0 : List V} {ws0 : List Wv} {Pv : List Value → Prop}, Gathers X.prog X.w X.A.in1 s r Pv → (∀ vs, Pv vs → Vals vs0 vs) → RWs X.K H ws0 vs0 → vs0.length ≤ sizeLine →
        ((∃ ns : List Int, ws0 = ns.map .int ∧ ∀ ns' : List Int, ns'.Perm ns → ns'.Pairwise (· ≤ ·) → ∀ l, G l = none → q (.ref l) (updO G l (.lst (ns'.map .int)))) ∨
          ∃ ps : List (Int × Int), ws0 = ps.map tup2 ∧ ∀ ps' : List (Int × Int), ps'.Perm ps → RiseP ps' → ∀ l, G l = none → q (.ref l) (updO G l (.lst (ps'.map tup2)))) →
        wpAny (model X.prog X.w) X.A (call (.builtin "sorted") [.ref r]) (EP X pins σ Q) X.xe s := fun {r vs0 ws0 Pv} Gt hv rr hz hh => by
      rcases hh with ⟨ns, rfl, hq⟩ | ⟨ps, rfl, hq⟩
      · have e0 := rr.ints
        subst e0
        have hi : ∀ vs, Pv vs → IntsAre vs ns := fun vs pv => by simpa using ints_of_vals (hv vs pv)
        refine sorted_from Gt SrtO.swo_int (fun vs pv => by rw [← (hv vs pv).length]; exact hz) (fun vs h₁ tk a A' pv h2 _ _ => SrtO.ints_sortable (hi vs pv) h2) fun h1 h' tk p out vs c k1 k2 hp ho pv a1 a2 => ?_
        obtain ⟨b1, b2, b3⟩ := SrtO.ints_out (hi vs pv) a1 a2
        have I1 : Inv X pins σ H { s with heap := h1, toks := tk } := I.kept k1
        have hn : H p = none := I1.hok.fresh hp
        have hl : ((out.map SrtO.iv).map V.int).length ≤ sizeLine := by
          rw [List.length_map, b2.length_eq]
          rw [List.length_map] at hz
          exact hz
        exact ⟨.ref p, upd H p (.lst ((out.map SrtO.iv).map V.int)), I1.laid (t' := tk) k2 hp ⟨hl, out, c, vals_of_ints b1, ho⟩, rfl, po _ _ _ _ (TX.new hn) (.ref p) (rh.newL hn (RWs.ofInts _)) (hq _ b2 b3 p (rh.fresh hn))⟩
      · have hrp : ∀ v ∈ vs0, ∃ p, RW X.K H (tup2 p) v := fun v hm => by
          obtain ⟨w, hw, r⟩ := rws_mem rr hm
          obtain ⟨p, _, rfl⟩ := List.mem_map.mp hw
          exact ⟨p, r⟩
        have back : ∀ vs, Pv vs → vs0 = vs.map backV ∧ ∀ u ∈ vs, ∃ a, u = Value.ref a := fun vs pv => refs_back (hv vs pv) fun x m => by
          obtain ⟨p, r⟩ := hrp x m
          obtain ⟨t, e, _⟩ := rw_pair r
          exact ⟨t, e⟩
        refine sorted_from Gt (SrtO.swo_lex fun u => pairAt H (backV u)) (fun vs pv => by rw [← (hv vs pv).length]; exact hz) (fun vs h₁ tk a A' pv h2 ha kk => ?_) fun h1 h' tk p out vs c k1 k2 hp ho pv a1 a2 => ?_
        · obtain ⟨e1, e2⟩ := back vs pv
          refine SrtO.pairs_sortableO (s := { s with heap := h₁, toks := tk }) (k := fun u => pairAt H (backV u)) (by omega) (fun v hv => ?_) fun o e => ?_
          · obtain ⟨t, rfl⟩ := e2 v hv
            have hm : V.ref t ∈ vs0 := by rw [e1]; exact List.mem_map.mpr ⟨_, hv, rfl⟩
            obtain ⟨p, r⟩ := hrp _ hm
            obtain ⟨t', et, ht, ep⟩ := rw_pair r
            cases et
            obtain ⟨_, its2, r2, o, ho, hcl, n, hd2⟩ := I.hok _ _ ht
            obtain ⟨u1, u2, rfl, ri, rj⟩ := vals2 r2
            obtain ⟨t1, rfl⟩ := ri
            obtain ⟨t2, rfl⟩ := rj
            have ep' : pairAt H (backV (.ref t)) = p := ep
            rw [ep']
            exact ⟨t, o, t1, t2, n, rfl, (kk _ _ ho).2, hcl, hd2⟩
          · have e' : some o = some (seqObj "list" vs.toArray 0) := e.symm.trans ha
            cases e'
            intro cc
            exact absurd (Value.type.inj cc) (by decide)
        · obtain ⟨e1, e2⟩ := back vs pv
          have h3 : ∀ u ∈ out, ∃ a, u = Value.ref a := fun u hu => e2 u (a2.perm.mem_iff.mp hu)
          have pm : (out.map backV).Perm vs0 := by rw [e1]; exact a2.perm.map backV
          have I1 : Inv X pins σ H { s with heap := h1, toks := tk } := I.kept k1
          have hn : H p = none := I1.hok.fresh hp
          have hrp2 : ∀ v ∈ out.map backV, ∃ p, RW X.K H (tup2 p) v := fun v hm => hrp v (pm.mem_iff.mp hm)
          have hl : (out.map backV).length ≤ sizeLine := by rw [pm.length_eq]; exact hz
          have pp : ((out.map backV).map (pairAt H)).Perm ps := by
            have z := pm.map (pairAt H)
            rw [rws_pairs rr] at z
            exact z
          have ris : RiseP ((out.map backV).map (pairAt H)) := by
            unfold RiseP
            rw [List.pairwise_map, List.pairwise_map]
            exact a1
          exact ⟨.ref p, upd H p (.lst (out.map backV)), I1.laid (t' := tk) k2 hp ⟨hl, out, c, vals_back h3, ho⟩, rfl, po _ _ _ _ (TX.new hn) (.ref p) (rh.newL hn (rws_of_pairs hrp2)) (hq _ pp ris p (rh.fresh hn))⟩
    have seqs : ∀ {ws0 : List Wv}, (w = .tup ws0 ∨ ∃ p, w = .ref p ∧ RdL G p ws0) →
        ((∃ ns : List Int, ws0 = ns.map .int ∧ ∀ ns' : List Int, ns'.Perm ns → ns'.Pairwise (· ≤ ·) → ∀ l, G l = none → q (.ref l) (updO G l (.lst (ns'.map .int)))) ∨
          ∃ ps : List (Int × Int), ws0 = ps.map tup2 ∧ ∀ ps' : List (Int × Int), ps'.Perm ps → RiseP ps' → ∀ l, G l = none → q (.ref l) (updO G l (.lst (ps'.map tup2)))) →
        wpAny (model X.prog X.w) X.A (call (.builtin "sorted") [u0]) (EP X pins σ Q) X.xe s := fun {ws0} hw hh => by
      rcases hw with rfl | ⟨p, rfl, hl⟩
      · cases rv with
        | @tup p xs _ hb rr =>
          cases ru0
          obtain ⟨its, rv, pt, hz⟩ := I.tuple (SqT.of hb)
          exact fin (gathers_tup pt (by rw [← rv.length]; exact hz)) (fun vs e => by subst e; exact rv) rr hz hh
      · cases rv
        cases ru0
        obtain ⟨xs, hx, rr⟩ := rh.rdl hl
        obtain ⟨its, rv, pl, hz⟩ := I.list hx
        exact fin (gathers_list pl.isList (by rw [← rv.length]; exact hz)) (fun vs e => by subst e; exact rv) rr hz hh
    rcases h with ⟨ns, hw, hq⟩ | ⟨ps, hw, hq⟩
    · rcases hw with h1 | h1 | ⟨p, kvs, rfl, ek, hks, hz⟩
      · exact seqs (.inl h1) (.inl ⟨ns, rfl, hq⟩)
      · exact seqs (.inr h1) (.inl ⟨ns, rfl, hq⟩)
      · cases rv
        cases ru0
        obtain ⟨kv, f, rk⟩ := rh.dct ek
        obtain ⟨z, lo, vs, rel, dd⟩ := dk_rd I.hok (Rd.of f)
        obtain ⟨ep, hat⟩ := dd.dictAt
        have hk2 : kv.map (·.1) = ns.map Sum.inl := by
          rw [← hks]
          clear hks rel dd hat
          exact rk.keysEq
        have hkeys : vs.map (·.1) = ns.map Sum.inl := rel.keys.symm.trans hk2
        have hl : vs.length = ns.length := by
          have e := congrArg List.length hkeys
          rw [List.length_map, List.length_map] at e
          exact e
        have hnz : ns.length ≤ sizeLine := by
          have e := congrArg List.length hks
          rw [List.length_map, List.length_map] at e
          omega
        refine fin (Pv := fun vs => IntsAre vs ns) (vs0 := ns.map V.int) (fun R E hR => PySem.W.kdu_collect (A := X.A.in1) (PySem.W.kdl_dict (knd := mixKind X.prog X.w) (kvs := vs) (ep := ep) lo) hd hat (by rw [hl]; exact hnz) fun h' tk acc hk hacc => hR h' tk acc.toList hk ?_) (fun vs hi => vals_of_ints hi) (RWs.ofInts ns) (by rw [List.length_map]; exact hnz) (.inl ⟨ns, rfl, hq⟩)
        refine ints_each (by rw [Array.length_toList, hacc.1, hl]) fun j v e => ?_
        obtain ⟨k, x, e1, e2⟩ := hacc.2 j v (by rw [← Array.getElem?_toList]; exact e)
        have e3 : (vs.map (·.1))[j]? = some k := by rw [List.getElem?_map, e1]; rfl
        rw [hkeys, List.getElem?_map] at e3
        cases e4 : ns[j]? with
        | none => rw [e4] at e3; cases e3
        | some y =>
          rw [e4] at e3
          have e5 : Sum.inl y = k := Option.some.inj e3
          subst e5
          rcases keyIs_shape (show keyIs (Sum.inl y) v = true from e2) with ⟨i, t, ek, ev⟩ | ⟨z, t, ek, ev⟩
          · cases ek
            exact ⟨y, t, rfl, ev⟩
          · cases ek
    · rcases hw with h1 | h1
      · exact seqs (.inl h1) (.inr ⟨ps, rfl, hq⟩)
      · exact seqs (.inr h1) (.inr ⟨ps, rfl, hq⟩)
  · exact h.elim
end
end LF

/-! LF23: tuples compared, data in lists, .get, .setdefault -/
namespace LF
open PySem PySem.Spec PyProof.Rows L2
section
variable {X : Cx} {Wx : WX}
/-! ### < , >= -/
def wLtA : RWop := fun a b G q => match a, b with
  | .int i, .int j => q (.bl (decide (i < j))) G
  | .tup xs, .tup ys => ∃ ns ms : List Int, xs = ns.map .int ∧ ys = ms.map .int ∧ q (.bl (HT.lexLt ns ms)) G
  | _, _ => False
theorem w_ltA (hu : X.A.units + 64 < cLine) : OW X (compareOp .Lt) wLtA := by
  rintro pins s σ H x y v u Q I rx ry ⟨w1, w2, G, q, r1, r2, rh, po, h⟩
  unfold wLtA at h
  split at h
  · exact w_lt pins s σ H x y v u Q I rx ry ⟨_, _, G, q, r1, r2, rh, po, h⟩
  · obtain ⟨ns, ms, rfl, rfl, hq⟩ := h
    cases r1 with
    | tup h1 s1 =>
      cases r2 with
      | tup h2 s2 =>
        have e1 := s1.ints
        have e2 := s2.ints
        subst e1 e2
        exact op_ltT (by omega) pins s σ H _ _ v u Q I rx ry ⟨_, _, ns, ms, rfl, rfl, SqT.of h1, SqT.of h2, po _ _ _ _ TX.refl (.bl _) rh hq⟩
  · exact h.elim
def gePair (a b : Int × Int) : Bool := if a.1 = b.1 then decide (b.2 ≤ a.2) else decide (b.1 ≤ a.1)
def wGeA : RWop := fun a b G q => match a, b with
  | .int i, .int j => q (.bl (decide (j ≤ i))) G
  | .tup [.int a, .int b], .tup [.int c, .int d] => q (.bl (gePair (a, b) (c, d))) G
  | _, _ => False
theorem w_geA (hu : X.A.units + 64 < cLine) : OW X (compareOp .GtE) wGeA := by
  rintro pins s σ H x y v u Q I rx ry ⟨w1, w2, G, q, r1, r2, rh, po, h⟩
  unfold wGeA at h
  split at h
  · exact w_ge pins s σ H x y v u Q I rx ry ⟨_, _, G, q, r1, r2, rh, po, h⟩
  · rename_i a b c d
    cases r1 with
    | tup h1 s1 =>
      cases r2 with
      | tup h2 s2 =>
        obtain ⟨v1, v2, rfl, q1, q2⟩ := rws2 s1
        obtain ⟨v3, v4, rfl, q3, q4⟩ := rws2 s2
        cases q1; cases q2; cases q3; cases q4
        cases rx; cases ry
        obtain ⟨its, k1, p1, _⟩ := I.tuple (SqT.of h1)
        obtain ⟨its2, k2, p2, _⟩ := I.tuple (SqT.of h2)
        obtain ⟨u1, u2, rfl, ra, rb⟩ := vals2 k1
        obtain ⟨u3, u4, rfl, rc, rd⟩ := vals2 k2
        obtain ⟨t1, rfl⟩ := ra
        obtain ⟨t2, rfl⟩ := rb
        obtain ⟨t3, rfl⟩ := rc
        obtain ⟨t4, rfl⟩ := rd
        have bd : ∀ i j : Int, (i == j) = decide (i = j) := fun i j => by by_cases z : i = j <;> simp [z]
        have R := Ob.RcOp.tuples_ge (A := X.A) (s := s) (e := fun j => match j with | 0 => decide (a = c) | _ => decide (b = d)) (r := fun j => match j with | 0 => decide (c ≤ a) | _ => decide (d ≤ b)) p1 p2 (by omega) (fun j g1 g2 => by
          match j, g1, g2 with
          | 0, _, _ => exact (bd a c) ▸ SeqAt.EqAt.int_int _ _ _ _
          | 1, _, _ => exact (bd b d) ▸ SeqAt.EqAt.int_int _ _ _ _
          | j + 2, g1, _ => exact absurd g1 (by simp)) (fun j g1 g2 _ => by
          match j, g1, g2 with
          | 0, _, _ => exact Ob.RcOp.ge_int _ _ _ _
          | 1, _, _ => exact Ob.RcOp.ge_int _ _ _ _
          | j + 2, g1, _ => exact absurd g1 (by simp))
        refine R X.prog X.w X.xe (EP X pins σ Q) ⟨.bl _, H, I, rfl, po _ _ _ _ TX.refl (.bl _) rh ?_⟩
        have ee : Ob.lexAt (fun j => match j with | 0 => decide (a = c) | _ => decide (b = d)) (fun j => match j with | 0 => decide (c ≤ a) | _ => decide (d ≤ b)) (decide ([Value.int a t1, Value.int b t2].toArray.size ≥ [Value.int c t3, Value.int d t4].toArray.size)) 0 (min [Value.int a t1, Value.int b t2].toArray.size [Value.int c t3, Value.int d t4].toArray.size) = gePair (a, b) (c, d) := by
          show Ob.lexAt _ _ true 0 2 = _
          unfold gePair
          by_cases z1 : a = c <;> by_cases z2 : b = d <;> simp [Ob.lexAt, z1, z2]
        rw [ee]
        exact h
  · exact h.elim
theorem Rm.un65 {k : Nat} {A : Around} (r : Rm k A) : A.units + 65 < cLine := by have := r.room.un; omega
/-! ### in, of data -/
def wInA (neg : Bool) : RWop := fun a b G q => wIn neg a b G q ∨ ∃ d ds, Dt G a d ∧ Dt G b (.list ds) ∧ SeqAt.shaped d = true ∧ SeqAt.shaped (.list ds) = true ∧ q (.bl (if neg then !ds.any (fun z => PyData.eqv z d) else ds.any fun z => PyData.eqv z d)) G
theorem w_inA (hu : X.A.units + 65 < cLine) : OW X (compareOp .In) (wInA false) := by
  rintro pins s σ H x y v u Q I rx ry ⟨w1, w2, G, q, r1, r2, rh, po, h | ⟨d, ds, h1, h2, s1, s2, hq⟩⟩
  · exact w_in (by omega) pins s σ H x y v u Q I rx ry ⟨_, _, G, q, r1, r2, rh, po, h⟩
  · exact op_inD hu pins s σ H x y v u Q I rx ry ⟨d, ds, h1.dp rh r1, h2.dp rh r2, s1, s2, po _ _ _ _ TX.refl (.bl _) rh hq⟩
theorem w_notinA (hu : X.A.units + 65 < cLine) : OW X (compareOp .NotIn) (wInA true) := by
  rintro pins s σ H x y v u Q I rx ry ⟨w1, w2, G, q, r1, r2, rh, po, h | ⟨d, ds, h1, h2, s1, s2, hq⟩⟩
  · exact w_notin (by omega) pins s σ H x y v u Q I rx ry ⟨_, _, G, q, r1, r2, rh, po, h⟩
  · exact op_notInD hu pins s σ H x y v u Q I rx ry ⟨d, ds, h1.dp rh r1, h2.dp rh r2, s1, s2, po _ _ _ _ TX.refl (.bl _) rh hq⟩

/-! ### .get, .setdefault -/
variable {o e f : Expr} {to te tf : ET} {apos cpos : Pos}
def IsDW (G : HW) (a : Addr) : Prop := (∃ kvs, G a = some (.dct kvs)) ∨ ∃ kvs, G a = some (.dtp kvs)
theorem IsDW.is {K : PySem.W.Frag} {G : HW} {H : Hp} {a : Addr} (h : IsDW G a) (rh : RH K G H) : IsD H a := by
  rcases h with ⟨kvs, e⟩ | ⟨kvs, e⟩
  · obtain ⟨xs, f, _⟩ := rh.dct e; exact .inl ⟨xs, Rd.of f⟩
  · obtain ⟨xs, f, _⟩ := rh.dtp e; exact .inr ⟨xs, Rd.of f⟩
def wGet (w k d : Wv) (G : HW) (q : WK) : Prop := match w with
  | .ref a => ∃ r, DgW G a k r ∧ q (r.getD d) G
  | _ => False
def eGet1 (to te : ET) : ET := fun x σ G q => to x σ G fun w G1 => (match w with | .ref a => IsDW G1 a | _ => False) ∧ te x σ G1 fun k G2 => wGet w k .non G2 q
def eGet2 (to te tf : ET) : ET := fun x σ G q => to x σ G fun w G1 => (match w with | .ref a => IsDW G1 a | _ => False) ∧ te x σ G1 fun k G2 => tf x σ G2 fun d G3 => wGet w k d G3 q
theorem z_get1 (hu : X.A.units + 64 < cLine) (ho : EW X Wx o to) (he : EW X Wx e te) (m : M1 X o "get" apos e cpos) : EW X Wx (.Call (.Attribute o "get" apos) [e] [] cpos) (eGet1 to te) :=
  pe_imp (pe_dget1 (by omega) ho he m) fun σ H Q ⟨σw, G, x, q, rs, rh, px, po, h⟩ => ⟨σw, G, x, _, rs, rh, px, fun w G1 v H1 t1 r1 rh1 h1 => by
    obtain ⟨hd, h1⟩ := h1
    cases w <;> try exact hd.elim
    cases r1
    refine ⟨_, rfl, hd.is rh1, σw, G1, x, _, rs.mono t1, rh1, px.mono t1, fun k G2 vk H2 t2 r2 rh2 h2 => ?_, h1⟩
    obtain ⟨r, g, hq⟩ := h2
    obtain ⟨o', g', ho⟩ := g.get rh2 r2
    refine ⟨o', g', ?_⟩
    rcases ho with ⟨rfl, rfl⟩ | ⟨w', v', rfl, rfl, rz⟩
    · exact po _ _ _ _ (t1.trans t2) .non rh2 hq
    · exact po _ _ _ _ (t1.trans t2) rz rh2 hq, h⟩
theorem z_get2 (hu : X.A.units + 64 < cLine) (ho : EW X Wx o to) (he : EW X Wx e te) (hf : EW X Wx f tf) (m : M2 X o "get" apos e f cpos) : EW X Wx (.Call (.Attribute o "get" apos) [e, f] [] cpos) (eGet2 to te tf) :=
  pe_imp (pe_dget2 (by omega) ho he hf m) fun σ H Q ⟨σw, G, x, q, rs, rh, px, po, h⟩ => ⟨σw, G, x, _, rs, rh, px, fun w G1 v H1 t1 r1 rh1 h1 => by
    obtain ⟨hd, h1⟩ := h1
    cases w <;> try exact hd.elim
    cases r1
    refine ⟨_, rfl, hd.is rh1, σw, G1, x, _, rs.mono t1, rh1, px.mono t1, fun k G2 vk H2 t2 r2 rh2 h2 => ⟨σw, G2, x, _, rs.mono (t1.trans t2), rh2, px.mono (t1.trans t2), fun d G3 vd H3 t3 r3 rh3 h3 => ?_, h2⟩, h1⟩
    obtain ⟨r, g, hq⟩ := h3
    obtain ⟨o', g', ho⟩ := g.get rh3 (r2.mono t3)
    refine ⟨o', g', ?_⟩
    rcases ho with ⟨rfl, rfl⟩ | ⟨w', v', rfl, rfl, rz⟩
    · exact po _ _ _ _ ((t1.trans t2).trans t3) r3 rh3 hq
    · exact po _ _ _ _ ((t1.trans t2).trans t3) rz rh3 hq, h⟩
def wSetd (w k d : Wv) (G : HW) (q : WK) : Prop := match w with
  | .ref a => ∃ kvs key, G a = some (.dct kvs) ∧ keyOf k = some key ∧ kvs.length < sizeLine ∧ (∀ y, lkW kvs key = some y → q y G) ∧ (lkW kvs key = none → q d (updO G a (.dct (pkW kvs key d))))
  | _ => False
def eSetd (to te tf : ET) : ET := fun x σ G q => to x σ G fun w G1 => (match w with | .ref a => IsDW G1 a | _ => False) ∧ te x σ G1 fun k G2 => tf x σ G2 fun d G3 => wSetd w k d G3 q
theorem z_setd (ho : EW X Wx o to) (he : EW X Wx e te) (hf : EW X Wx f tf) (m : M2 X o "setdefault" apos e f cpos) : EW X Wx (.Call (.Attribute o "setdefault" apos) [e, f] [] cpos) (eSetd to te tf) :=
  pe_imp (pe_dsetd ho he hf m) fun σ H Q ⟨σw, G, x, q, rs, rh, px, po, h⟩ => ⟨σw, G, x, _, rs, rh, px, fun w G1 v H1 t1 r1 rh1 h1 => by
    obtain ⟨hd, h1⟩ := h1
    cases w <;> try exact hd.elim
    cases r1
    refine ⟨_, rfl, hd.is rh1, σw, G1, x, _, rs.mono t1, rh1, px.mono t1, fun k G2 vk H2 t2 r2 rh2 h2 => ⟨σw, G2, x, _, rs.mono (t1.trans t2), rh2, px.mono (t1.trans t2), fun d G3 vd H3 t3 r3 rh3 h3 => ?_, h2⟩, h1⟩
    obtain ⟨kvs, key, ea, ek, hz, hy, hn⟩ := h3
    obtain ⟨xs, f, rk⟩ := rh3.dct ea
    have t := (t1.trans t2).trans t3
    refine ⟨xs, key, f, keyOf_rel (r2.mono t3) ek, by rw [rk.len]; exact hz, fun v hv => ?_, fun hv => ?_⟩
    · rcases rk.look key with ⟨_, e2⟩ | ⟨w', v', e1, e2, rz⟩
      · rw [e2] at hv; cases hv
      · rw [e2] at hv
        cases hv
        exact po _ _ _ _ t rz rh3 (hy w' e1)
    · rcases rk.look key with ⟨e1, _⟩ | ⟨w', v', e1, e2, rz⟩
      · exact po _ _ _ _ (t.trans (TX.put f noTup_dK)) (r3.mono (TX.put f noTup_dK)) (rh3.putD f (rk.put key r3)) (hn e1)
      · rw [e2] at hv; exact (nomatch hv), h⟩
/-! ### range(a, b) as an argument -/
def rg2 (te tf : ET) : RGt := fun x σ G q => te x σ G fun w G1 => tf x σ G1 fun u G2 => match w, u with
  | .int a, .int b => q a b G2
  | _, _ => False
theorem zr_2 {p pos : Pos} (hg : Gl X "range") (hm : X.mg "range" = none) (ha : EW X Wx e te) (hb : EW X Wx f tf) (na : starEach [e, f] X.env = (false, eval e X.env) :: starEach [f] X.env := by rfl)
    (nb : starEach [f] X.env = (false, eval f X.env) :: starEach [] X.env := by rfl) (hp : (backTo pos (starEach [f] X.env)).any (·.1) = false := by rfl) : RgW X Wx (.Call (.Name "range" p) [e, f] [] pos) (rg2 te tf) :=
  prg_imp (prg_2 hg hm ha hb na nb hp) fun σ H Q ⟨σw, G, x, q, rs, rh, px, po, h⟩ => ⟨σw, G, x, _, rs, rh, px, fun w G1 v H1 t1 r1 rh1 h1 => ⟨σw, G1, x, _, rs.mono t1, rh1, px.mono t1, fun u G2 vu H2 t2 r2 rh2 h2 => by
    split at h2
    · cases r1; cases r2
      exact ⟨_, _, rfl, rfl, po _ _ _ _ (t1.trans t2) rh2 h2⟩
    · exact h2.elim, h1⟩, h⟩
end
section
variable {x : XW} {σ : SW} {G : HW} {q : WK} {to te tf : ET} {w k d : Wv} {a : Addr}
theorem m_ltI {i j : Int} : wLtA (.int i) (.int j) G q = q (.bl (decide (i < j))) G := rfl
theorem m_geI {i j : Int} : wGeA (.int i) (.int j) G q = q (.bl (decide (j ≤ i))) G := rfl
theorem r_ltT {ns ms : List Int} (z : q (.bl (HT.lexLt ns ms)) G) : wLtA (.tup (ns.map .int)) (.tup (ms.map .int)) G q := ⟨ns, ms, rfl, rfl, z⟩
theorem m_geP {a b c d : Int} : wGeA (.tup [.int a, .int b]) (.tup [.int c, .int d]) G q = q (.bl (gePair (a, b) (c, d))) G := rfl
theorem m_isNotB {i j : Bool} : wIsNot (.bl i) (.bl j) G q = q (.bl (!decide (i = j))) G := rfl
theorem r_inDt {neg : Bool} {a b : Wv} {d : PyData} {ds : List PyData} (h1 : Dt G a d) (h2 : Dt G b (.list ds)) (s1 : SeqAt.shaped d = true) (s2 : SeqAt.shaped (.list ds) = true) (z : q (.bl (if neg then !ds.any (fun z => PyData.eqv z d) else ds.any fun z => PyData.eqv z d)) G) : wInA neg a b G q := .inr ⟨d, ds, h1, h2, s1, s2, z⟩
theorem r_inD {neg : Bool} {p : Addr} {a : Wv} {key : Key} {kvs : List (Key × Wv)} (h : G p = some (.dct kvs)) (hk : keyOf a = some key) (z : q (.bl (if neg then !(lkW kvs key).isSome else (lkW kvs key).isSome)) G) : wInA neg a (.ref p) G q := .inl (r_inD0 h hk z)
theorem r_inDT {neg : Bool} {p : Addr} {ks : List Wv} {key : List Key} {kvs : List (List Key × Wv)} (h : G p = some (.dtp kvs)) (hk : keysOf ks = some key) (z : q (.bl (if neg then !(lkW kvs key).isSome else (lkW kvs key).isSome)) G) : wInA neg (.tup ks) (.ref p) G q := .inl (r_inDT0 h hk z)
theorem r_inL {neg : Bool} {p : Addr} {a : Wv} {us : List Wv} (h : RdL G p us) (h1 : flatW a = true) (h2 : us.all flatW = true) (z : q (.bl (if neg then !inF a us else inF a us)) G) : wInA neg a (.ref p) G q := .inl (r_inL0 h h1 h2 z)
theorem r_inT {neg : Bool} {a : Wv} {us : List Wv} (h1 : flatW a = true) (h2 : us.all flatW = true) (z : q (.bl (if neg then !inF a us else inF a us)) G) : wInA neg a (.tup us) G q := .inl (r_inT0 h1 h2 z)
def kGet3 (w k : Wv) (q : WK) : WK := fun d G => wGet w k d G q
def kGet2 (w : Wv) (tf : ET) (x : XW) (σ : SW) (q : WK) : WK := fun k G => tf x σ G (kGet3 w k q)
def kGet1 (w : Wv) (q : WK) : WK := fun k G => wGet w k .non G q
def kGetA (te : ET) (x : XW) (σ : SW) (q : WK) : WK := fun w G => (match w with | .ref a => IsDW G a | _ => False) ∧ te x σ G (kGet1 w q)
def kGetB (te tf : ET) (x : XW) (σ : SW) (q : WK) : WK := fun w G => (match w with | .ref a => IsDW G a | _ => False) ∧ te x σ G (kGet2 w tf x σ q)
theorem m_Get1 : eGet1 to te x σ G q = to x σ G (kGetA te x σ q) := rfl
theorem m_Get2 : eGet2 to te tf x σ G q = to x σ G (kGetB te tf x σ q) := rfl
theorem r_getA (h : IsDW G a) (z : te x σ G (kGet1 (.ref a) q)) : kGetA te x σ q (.ref a) G := ⟨h, z⟩
theorem r_getB (h : IsDW G a) (z : te x σ G (kGet2 (.ref a) tf x σ q)) : kGetB te tf x σ q (.ref a) G := ⟨h, z⟩
theorem m_kGet2 : kGet2 w tf x σ q k G = tf x σ G (kGet3 w k q) := rfl
theorem r_get1 {key : Key} {kvs : List (Key × Wv)} (h : G a = some (.dct kvs)) (hk : keyOf k = some key) (z : q ((lkW kvs key).getD .non) G) : kGet1 (.ref a) q k G := ⟨_, by cases k <;> cases hk <;> exact ⟨kvs, _, h, rfl, rfl⟩, z⟩
theorem r_get2 {key : Key} {kvs : List (Key × Wv)} (h : G a = some (.dct kvs)) (hk : keyOf k = some key) (z : q ((lkW kvs key).getD d) G) : kGet3 (.ref a) k q d G := ⟨_, by cases k <;> cases hk <;> exact ⟨kvs, _, h, rfl, rfl⟩, z⟩
theorem r_get1T {ks : List Wv} {key : List Key} {kvs : List (List Key × Wv)} (h : G a = some (.dtp kvs)) (hk : keysOf ks = some key) (z : q ((lkW kvs key).getD .non) G) : kGet1 (.ref a) q (.tup ks) G := ⟨_, ⟨kvs, key, h, hk, rfl⟩, z⟩
def kSd3 (w k : Wv) (q : WK) : WK := fun d G => wSetd w k d G q
def kSd2 (w : Wv) (tf : ET) (x : XW) (σ : SW) (q : WK) : WK := fun k G => tf x σ G (kSd3 w k q)
def kSd (te tf : ET) (x : XW) (σ : SW) (q : WK) : WK := fun w G => (match w with | .ref a => IsDW G a | _ => False) ∧ te x σ G (kSd2 w tf x σ q)
theorem m_Setd : eSetd to te tf x σ G q = to x σ G (kSd te tf x σ q) := rfl
theorem m_kSd2 : kSd2 w tf x σ q k G = tf x σ G (kSd3 w k q) := rfl
theorem r_sd (h : IsDW G a) (z : te x σ G (kSd2 (.ref a) tf x σ q)) : kSd te tf x σ q (.ref a) G := ⟨h, z⟩
theorem r_setd {key : Key} {kvs : List (Key × Wv)} (h : G a = some (.dct kvs)) (hk : keyOf k = some key) (hz : kvs.length < sizeLine) (z1 : ∀ y, lkW kvs key = some y → q y G) (z2 : lkW kvs key = none → q d (updO G a (.dct (pkW kvs key d)))) : kSd3 (.ref a) k q d G := ⟨kvs, key, h, hk, hz, z1, z2⟩
def kRg2b (a : Wv) (r : RgK) : WK := fun u G2 => match a, u with
  | .int a, .int b => r a b G2
  | _, _ => False
def kRg2a (tf : ET) (x : XW) (σ : SW) (r : RgK) : WK := fun w G1 => tf x σ G1 (kRg2b w r)
theorem m_rg2 {r : RgK} : rg2 te tf x σ G r = te x σ G (kRg2a tf x σ r) := rfl
theorem m_kRg2a {r : RgK} : kRg2a tf x σ r w G = tf x σ G (kRg2b w r) := rfl
theorem m_kRg2b {r : RgK} {i j : Int} : kRg2b (.int i) r (.int j) G = r i j G := rfl
theorem r_tupRg2 {i j : Int} (h : RgOk i j) (z : q (.tup (rgW i 1 (j - i).toNat)) G) : kTupRg q i j G := ⟨h, z⟩
/-! sorted -/
theorem r_sorted {p : Addr} {ns : List Int} (h : RdL G p (ns.map .int)) (z : ∀ ns' : List Int, ns'.Perm ns → ns'.Pairwise (· ≤ ·) → ∀ l, G l = none → q (.ref l) (updO G l (.lst (ns'.map .int)))) : wSrt [.ref p] G q := .inl ⟨ns, .inr (.inl ⟨p, rfl, h⟩), z⟩
theorem r_sortedT {ns : List Int} (z : ∀ ns' : List Int, ns'.Perm ns → ns'.Pairwise (· ≤ ·) → ∀ l, G l = none → q (.ref l) (updO G l (.lst (ns'.map .int)))) : wSrt [.tup (ns.map .int)] G q := .inl ⟨ns, .inl rfl, z⟩
theorem r_sortedD {p : Addr} {ns : List Int} {kvs : List (Key × Wv)} (h : G p = some (.dct kvs)) (hk : kvs.map (·.1) = ns.map Sum.inl) (hz : kvs.length ≤ sizeLine) (z : ∀ ns' : List Int, ns'.Perm ns → ns'.Pairwise (· ≤ ·) → ∀ l, G l = none → q (.ref l) (updO G l (.lst (ns'.map .int)))) : wSrt [.ref p] G q := .inl ⟨ns, .inr (.inr ⟨p, kvs, rfl, h, hk, hz⟩), z⟩
theorem r_sortedP {p : Addr} {ps : List (Int × Int)} (h : RdL G p (ps.map tup2)) (z : ∀ ps' : List (Int × Int), ps'.Perm ps → RiseP ps' → ∀ l, G l = none → q (.ref l) (updO G l (.lst (ps'.map tup2)))) : wSrt [.ref p] G q := .inr ⟨ps, .inr ⟨p, rfl, h⟩, z⟩
theorem r_sortedPT {ps : List (Int × Int)} (z : ∀ ps' : List (Int × Int), ps'.Perm ps → RiseP ps' → ∀ l, G l = none → q (.ref l) (updO G l (.lst (ps'.map tup2)))) : wSrt [.tup (ps.map tup2)] G q := .inr ⟨ps, .inl rfl, z⟩
end
end LF

/-! LF24: links of pieces -/
namespace LF
open PySem PySem.Spec PyProof.Rows L2
abbrev Lk := List (Int × Int)
/-! ### counting -/
theorem nodup_sub : ∀ {l m : List Int}, l.Nodup → (∀ k ∈ l, k ∈ m) → l.length ≤ m.length
  | [], _, _, _ => Nat.zero_le _
  | a :: l, m, h, s => by
    obtain ⟨h1, h2⟩ := List.nodup_cons.mp h
    have ha := s a List.mem_cons_self
    have := nodup_sub (l := l) (m := m.erase a) h2 fun k hk => (List.mem_erase_of_ne (fun e : k = a => h1 (by rw [← e]; exact hk))).mpr (s k (List.mem_cons_of_mem _ hk))
    rw [List.length_erase_of_mem ha] at this
    have := List.length_pos_of_mem ha
    rw [List.length_cons]
    omega
theorem nodup_range {l : List Int} {n : Nat} (h : l.Nodup) (r : ∀ k ∈ l, 0 ≤ k ∧ k < n) : l.length ≤ n := by
  have := nodup_sub (m := (List.range n).map fun i : Nat => (i : Int)) h fun k hk => by
    obtain ⟨a, b⟩ := r k hk
    exact List.mem_map.mpr ⟨k.toNat, List.mem_range.mpr (by omega), by omega⟩
  rwa [List.length_map, List.length_range] at this
/-! ### what is reached -/
/-- from one to another: up along the links, or down -/
def Step (L : Lk) (up : Bool) (a b : Int) : Prop := if up then (a, b) ∈ L else (b, a) ∈ L
inductive Reach (L : Lk) (up : Bool) (ns : List Int) : Int → Prop
  | at {k : Int} (h : k ∈ ns) : Reach L up ns k
  | go {a b : Int} (h : Reach L up ns a) (s : Step L up a b) : Reach L up ns b
/-- the numbers of the links are below n -/
def LkIn (L : Lk) (n : Int) : Prop := ∀ p ∈ L, 0 ≤ p.1 ∧ p.1 < n ∧ 0 ≤ p.2 ∧ p.2 < n
theorem LkIn.step {L : Lk} {n : Int} {up : Bool} {a b : Int} (h : LkIn L n) (s : Step L up a b) : (0 ≤ a ∧ a < n) ∧ 0 ≤ b ∧ b < n := by
  unfold Step at s
  cases up with
  | true => have := h _ s; dsimp only at this; omega
  | false => have := h _ s; dsimp only at this; omega
theorem Reach.inR {L : Lk} {n : Int} {up : Bool} {ns : List Int} (h : LkIn L n) (hn : ∀ k ∈ ns, 0 ≤ k ∧ k < n) {k : Int} (r : Reach L up ns k) : 0 ≤ k ∧ k < n := by
  induction r with
  | «at» z => exact hn _ z
  | go _ s _ => exact (h.step s).2
theorem Reach.mono {L : Lk} {up : Bool} {ns ms : List Int} (h : ∀ k ∈ ns, Reach L up ms k) {k : Int} (r : Reach L up ns k) : Reach L up ms k := by
  induction r with
  | «at» z => exact h _ z
  | go _ s ih => exact .go ih s
/-- a set that is closed has what is reached from within -/
theorem Reach.closed {L : Lk} {up : Bool} {ns : List Int} {S : Int → Prop} (h : ∀ k ∈ ns, S k) (c : ∀ a b, S a → Step L up a b → S b) {k : Int} (r : Reach L up ns k) : S k := by
  induction r with
  | «at» z => exact h _ z
  | go _ s ih => exact c _ _ ih s
/-- out: what is reached, rising -/
def ReachL (L : Lk) (up : Bool) (ns out : List Int) : Prop := out.Pairwise (· < ·) ∧ ∀ k, k ∈ out ↔ Reach L up ns k
theorem ReachL.eq {L : Lk} {up : Bool} {ns a b : List Int} (h : ReachL L up ns a) (k : ReachL L up ns b) : a = b := rise_ext h.1 k.1 fun j => by rw [h.2, k.2]
theorem ReachL.cfg {L : Lk} {n : Int} {up : Bool} {ns out : List Int} (h : ReachL L up ns out) (hl : LkIn L n) (hn : ∀ k ∈ ns, 0 ≤ k ∧ k < n) (h0 : 0 ≤ n) : Cfg out n := cfg_of h0 (fun i hi => Reach.inR hl hn ((h.2 i).mp hi)) h.1
theorem ReachL.idem {L : Lk} {up : Bool} {ns out : List Int} (h : ReachL L up ns out) : ReachL L up out out := ⟨h.1, fun k => ⟨.at, fun r => (h.2 k).mpr (r.mono fun j hj => (h.2 j).mp hj)⟩⟩
/-! ### what is told of links -/
def isLk (w : Wv) (n : Int) : Bool := match w with
  | .tup [a, b] => isWh a 0 (n - 1) && (isWh b 0 (n - 1) && (match a, b with
    | .int i, .int j => !decide (i = j)
    | _, _ => false))
  | _ => false
def pairLtT : Wv → Bool
  | .tup [.tup [.int a, .int b], .tup [.int c, .int d]] => HT.lexLt [a, b] [c, d]
  | _ => false
def risesT (ws : List Wv) : Bool := (zpW ws (ws.drop 1)).all pairLtT
def isLks (w : Wv) (n : Int) : Bool := match w with
  | .tup ws => ws.all (isLk · n) && risesT ws
  | _ => false
theorem lk_of {w : Wv} {n : Int} (h : isLk w n = true) : ∃ i j : Int, w = .tup [.int i, .int j] ∧ 0 ≤ i ∧ i < n ∧ 0 ≤ j ∧ j < n ∧ i ≠ j := by
  unfold isLk at h
  split at h
  · rename_i a b
    rw [Bool.and_eq_true, Bool.and_eq_true] at h
    obtain ⟨h1, h2, h3⟩ := h
    split at h3
    · rename_i i j
      simp only [isWh, Bool.and_eq_true, decide_eq_true_iff] at h1 h2
      refine ⟨i, j, rfl, by omega, by omega, by omega, by omega, ?_⟩
      simpa using h3
    · cases h3
  · cases h
theorem lk_is {i j n : Int} : isLk (.tup [.int i, .int j]) n = true ↔ 0 ≤ i ∧ i < n ∧ 0 ≤ j ∧ j < n ∧ i ≠ j := by
  simp only [isLk, isWh, Bool.and_eq_true, decide_eq_true_iff, Bool.not_eq_true', decide_eq_false_iff_not]
  omega
theorem lks_pairs : ∀ {ws : List Wv} {n : Int}, (∀ w ∈ ws, isLk w n = true) → ∃ L : Lk, ws = L.map tup2 ∧ ∀ p ∈ L, (0 ≤ p.1 ∧ p.1 < n ∧ 0 ≤ p.2 ∧ p.2 < n) ∧ p.1 ≠ p.2
  | [], _, _ => ⟨[], rfl, fun p hp => nomatch hp⟩
  | w :: ws, n, h => by
    obtain ⟨L, rfl, hL⟩ := lks_pairs (ws := ws) fun y hy => h y (List.mem_cons_of_mem _ hy)
    obtain ⟨i, j, rfl, a, b, c, d, e⟩ := lk_of (h w List.mem_cons_self)
    exact ⟨(i, j) :: L, rfl, fun p hp => by
      rcases List.mem_cons.mp hp with rfl | hp
      · exact ⟨⟨a, b, c, d⟩, e⟩
      · exact hL p hp⟩
theorem lks_of {w : Wv} {n : Int} (h : isLks w n = true) : ∃ L : Lk, w = .tup (L.map tup2) ∧ LkIn L n := by
  unfold isLks at h
  split at h
  · rw [Bool.and_eq_true, List.all_eq_true] at h
    obtain ⟨L, e, hL⟩ := lks_pairs h.1
    exact ⟨L, by rw [e], fun p hp => (hL p hp).1⟩
  · cases h
def ltPr (p q : Int × Int) : Prop := p.1 < q.1 ∨ (p.1 = q.1 ∧ p.2 < q.2)
theorem lexLt_pair {a b c d : Int} : HT.lexLt [a, b] [c, d] = true ↔ ltPr (a, b) (c, d) := by
  unfold ltPr
  dsimp only
  by_cases h1 : a = c
  · by_cases h2 : b = d
    · simp [HT.lexLt, h1, h2]
    · simp [HT.lexLt, h1, h2]
  · simp [HT.lexLt, h1]
theorem risesT_pairs : ∀ L : Lk, risesT (L.map tup2) = true ↔ L.Pairwise ltPr
  | [] => by simp [risesT, zpW]
  | [a] => by simp [risesT, zpW]
  | a :: b :: L => by
    have ih := risesT_pairs (b :: L)
    have e : risesT ((a :: b :: L).map tup2) = (HT.lexLt [a.1, a.2] [b.1, b.2] && risesT ((b :: L).map tup2)) := by
      simp [risesT, zpW, pairLtT, tup2]
    rw [e, Bool.and_eq_true, ih, List.pairwise_cons (a := a), lexLt_pair]
    have tr : ∀ {p q r : Int × Int}, ltPr p q → ltPr q r → ltPr p r := fun {p q r} h1 h2 => by unfold ltPr at *; omega
    constructor
    · rintro ⟨h1, h2⟩
      refine ⟨fun c hc => ?_, h2⟩
      rcases List.mem_cons.mp hc with rfl | hc
      · exact h1
      · exact tr h1 ((List.pairwise_cons.mp h2).1 c hc)
    · rintro ⟨h1, h2⟩
      exact ⟨h1 b (by simp), h2⟩
theorem lks_is {L : Lk} {n : Int} : isLks (.tup (L.map tup2)) n = true ↔ (∀ p ∈ L, (0 ≤ p.1 ∧ p.1 < n ∧ 0 ≤ p.2 ∧ p.2 < n) ∧ p.1 ≠ p.2) ∧ L.Pairwise ltPr := by
  unfold isLks
  rw [Bool.and_eq_true, risesT_pairs, List.all_map, List.all_eq_true]
  refine and_congr_left fun _ => forall_congr' fun p => forall_congr' fun _ => ?_
  show isLk (.tup [.int p.1, .int p.2]) n = true ↔ _
  rw [lk_is]
  exact ⟨fun ⟨a, b, c, d, e⟩ => ⟨⟨a, b, c, d⟩, e⟩, fun ⟨⟨a, b, c, d⟩, e⟩ => ⟨a, b, c, d, e⟩⟩
theorem tup2_inj {L M : Lk} (e : Wv.tup (L.map tup2) = .tup (M.map tup2)) : L = M := by
  have e := congrArg (fun w => match w with | Wv.tup ws => ws | _ => []) e
  dsimp only at e
  exact (List.map_inj_right (fun a b h => by
    obtain ⟨a1, a2⟩ := a
    obtain ⟨b1, b2⟩ := b
    unfold tup2 at h
    simp at h
    rw [h.1, h.2])).mp e
/-- rising pairs that are there but once stand strictly -/
theorem rise_strict {ps : Lk} (h : RiseP ps) (d : ps.Nodup) : ps.Pairwise ltPr := by
  unfold RiseP at h
  have : ps.Pairwise fun a b => SrtO.lexB b a = false ∧ a ≠ b := List.Pairwise.and h d
  refine this.imp fun {a b} ⟨h1, h2⟩ => ?_
  have h1 := SrtO.lexB_no.mp h1
  have h3 : ¬ (a.1 = b.1 ∧ a.2 = b.2) := fun z => h2 (Prod.ext z.1 z.2)
  unfold ltPr
  omega
/-! ### specs -/
section
variable {K : PySem.W.Frag} {C : Addr} {G G' : HW}
/-- what a look at links goes into is known -/
def KnL (K : PySem.W.Frag) (G : HW) (w : Wv) : Prop := Kn K G w ∧ ∀ ws, w = .tup ws → ws.length ≤ 100000 ∧ ∀ y ∈ ws, KnD K G 2 y
theorem KnL.ext {w : Wv} (h : Ext G G') (k : KnL K G w) : KnL K G' w := ⟨k.1.ext h, fun ws e => ⟨(k.2 ws e).1, fun y hy => ((k.2 ws e).2 y hy).ext h⟩⟩
theorem knL_pairs {L : Lk} (h : L.length ≤ 100000) : KnL K G (.tup (L.map tup2)) := ⟨kn_tup, fun ws e => by
  cases e
  refine ⟨by rw [List.length_map]; exact h, fun y hy => ?_⟩
  obtain ⟨p, _, rfl⟩ := List.mem_map.mp hy
  exact knD_tup fun z hz => by
    simp only [List.mem_cons, List.not_mem_nil, or_false] at hz
    rcases hz with rfl | rfl <;> exact kn_int⟩
theorem knL_no {w : Wv} (h : Kn K G w) (e : isTp w = false) : KnL K G w := ⟨h, fun ws z => by subst z; cases e⟩
def SpLink (K : PySem.W.Frag) : SpW := fun ws G q _ => ∃ w n, ws = [w, .int n] ∧ KnD K G 2 w ∧ ∀ G', Ext G G' → q (.bl (isLk w n)) G'
def SpLinks (K : PySem.W.Frag) : SpW := fun ws G q _ => ∃ w n, ws = [w, .int n] ∧ KnL K G w ∧ ∀ G', Ext G G' → q (.bl (isLks w n)) G'
def SpNeedLinks (K : PySem.W.Frag) (C : Addr) : SpW := fun ws G q x => ∃ w n, ws = [w, .int n] ∧ KnL K G w ∧ (isLks w n = true → ∀ G', Ext G G' → q .non G') ∧ (isLks w n = false → ∀ G', Ext G G' → x (.ref C) [("what", .str "links")] G')
def SpNumber (K : PySem.W.Frag) (C : Addr) : SpW := fun ws G q x => ∃ w, ws = [w] ∧ Kn K G w ∧ (isWh w 0 119 = true → q .non G) ∧ (isWh w 0 119 = false → x (.ref C) [("what", .str "number")] G)
/-- where one goes from k -/
def nextL (L : Lk) (up : Bool) (k : Int) : List Int := L.filterMap fun p => if up then (if p.1 = k then some p.2 else none) else if p.2 = k then some p.1 else none
theorem next_mem {L : Lk} {up : Bool} {k j : Int} : j ∈ nextL L up k ↔ Step L up k j := by
  unfold nextL Step
  rw [List.mem_filterMap]
  cases up with
  | true =>
    simp only [if_true]
    constructor
    · rintro ⟨p, hp, e⟩
      split at e
      · rename_i h; cases e; rw [← h]; exact hp
      · cases e
    · exact fun h => ⟨_, h, by simp⟩
  | false =>
    simp only [Bool.false_eq_true, if_false]
    constructor
    · rintro ⟨p, hp, e⟩
      split at e
      · rename_i h; cases e; rw [← h]; exact hp
      · cases e
    · exact fun h => ⟨_, h, by simp⟩
theorem next_len (L : Lk) (up : Bool) (k : Int) : (nextL L up k).length ≤ L.length := List.length_filterMap_le _ _
/-- the table of ways at D -/
def Ways (G : HW) (D : Addr) (L : Lk) (up : Bool) : Prop := ∃ kvs : List (Key × Wv), G D = some (.dct kvs) ∧ kvs.length ≤ L.length ∧ ∀ k : Int, (lkW kvs (.inl k) = none ∧ nextL L up k = []) ∨ ∃ l, lkW kvs (.inl k) = some (.ref l) ∧ G l = some (.lst ((nextL L up k).map .int))
def SpWays : SpW := fun ws G q _ => ∃ (L : Lk) (up : Bool), ws = [.tup (L.map tup2), .bl up] ∧ L.length ≤ 100000 ∧ ∀ D G', G D = none → Ext G G' → Ways G' D L up → q (.ref D) G'
/-- firsts: a list, a tuple of numbers -/
def SpReached : SpW := fun ws G q _ => ∃ (D : Addr) (L : Lk) (up : Bool) (f : Wv) (ns : List Int), ws = [.ref D, f] ∧ (f = .tup (ns.map .int) ∨ ∃ p, f = .ref p ∧ G p = some (.lst (ns.map .int))) ∧ ns.length ≤ 120 ∧ (∀ k ∈ ns, 0 ≤ k ∧ k < 120) ∧ LkIn L 120 ∧ L.length ≤ 100000 ∧ Ways G D L up ∧
  ∀ F (ks : List Int) G', G F = none → Ext G G' → ks.Nodup → (∀ k, k ∈ ks ↔ Reach L up ns k) → G' F = some (.dct (ks.map fun k => (.inl k, .bl true))) → q (.ref F) G'
/-- links, then numbers: the first that is none is refused -/
def NeedLP (K : PySem.W.Frag) (C : Addr) (w y : Wv) (G : HW) (x : XE) (ok : Lk → List Int → Prop) : Prop := KnL K G w ∧ KnD K G 120 y ∧ (isLks w 120 = false → ∀ G', Ext G G' → x (.ref C) [("what", .str "links")] G') ∧
  (isLks w 120 = true → isConf y 120 = false → ∀ G', Ext G G' → x (.ref C) [("what", .str "parts")] G') ∧ ∀ (L : Lk) (ns : List Int), w = .tup (L.map tup2) → y = .tup (ns.map .int) → isLks w 120 = true → LkIn L 120 → Cfg ns 120 → ok L ns
def SpClosure (K : PySem.W.Frag) (C : Addr) : SpW := fun ws G q x => ∃ w y, ws = [w, y] ∧ NeedLP K C w y G x fun L ns => ∀ out G', ReachL L true ns out → Ext G G' → q (.tup (out.map .int)) G'
def SpClosed (K : PySem.W.Frag) (C : Addr) : SpW := fun ws G q x => ∃ w y, ws = [w, y] ∧ NeedLP K C w y G x fun L ns => ∀ out G', ReachL L true ns out → Ext G G' → q (.bl (decide (out = ns))) G'
def SpFall (K : PySem.W.Frag) (C : Addr) : SpW := fun ws G q x => ∃ w y, ws = [w, y] ∧ KnL K G w ∧ Kn K G y ∧ (isLks w 120 = false → ∀ G', Ext G G' → x (.ref C) [("what", .str "links")] G') ∧
  (isLks w 120 = true → isWh y 0 119 = false → ∀ G', Ext G G' → x (.ref C) [("what", .str "number")] G') ∧ ∀ (L : Lk) (k : Int), w = .tup (L.map tup2) → y = .int k → isLks w 120 = true → LkIn L 120 → 0 ≤ k → k < 120 → ∀ out G', ReachL L false [k] out → Ext G G' → q (.tup (out.map .int)) G'
def SpWithoutFall (K : PySem.W.Frag) (C : Addr) : SpW := fun ws G q x => ∃ w y z, ws = [w, y, z] ∧ KnL K G w ∧ KnD K G 120 y ∧ Kn K G z ∧ (isLks w 120 = false → ∀ G', Ext G G' → x (.ref C) [("what", .str "links")] G') ∧
  (isLks w 120 = true → isConf y 120 = false → ∀ G', Ext G G' → x (.ref C) [("what", .str "parts")] G') ∧ (isLks w 120 = true → isConf y 120 = true → isWh z 0 119 = false → ∀ G', Ext G G' → x (.ref C) [("what", .str "number")] G') ∧
  ∀ (L : Lk) (ns : List Int) (k : Int), w = .tup (L.map tup2) → y = .tup (ns.map .int) → z = .int k → isLks w 120 = true → LkIn L 120 → Cfg ns 120 → 0 ≤ k → k < 120 → ∀ out G', ReachL L false [k] out → Ext G G' → q (.tup ((lessL ns out).map .int)) G'
end
theorem keys_look (ks : List Int) (i : Int) : (lkW (ks.map fun k => ((Sum.inl k : Key), Wv.bl true)) (.inl i)).isSome = decide (i ∈ ks) := by
  induction ks with
  | nil => rfl
  | cons k ks ih =>
    unfold lkW at ih ⊢
    rw [List.map_cons, List.find?_cons]
    by_cases h : k = i
    · subst h; simp
    · have h' : ¬ i = k := fun z => h z.symm
      simp only [Sum.inl.injEq, h, decide_false]
      rw [ih]
      simp [h']
theorem keys_put {ks : List Int} {i : Int} (h : i ∉ ks) : pkW (ks.map fun k => ((Sum.inl k : Key), Wv.bl true)) (.inl i) (.bl true) = (ks ++ [i]).map fun k => ((Sum.inl k : Key), Wv.bl true) := by
  unfold pkW
  have : ¬ ((ks.map fun k => ((Sum.inl k : Key), Wv.bl true)).any fun p => decide (p.1 = Sum.inl i)) = true := fun z => by
    obtain ⟨p, hp, e⟩ := List.any_eq_true.mp z
    obtain ⟨k, hk, rfl⟩ := List.mem_map.mp hp
    have e := of_decide_eq_true e
    exact h (Sum.inl.inj e ▸ hk)
  rw [if_neg this, List.map_append]
  rfl
theorem keys_ints (ks : List Int) : (ks.map fun k => ((Sum.inl k : Key), Wv.bl true)).map (·.1) = ks.map Sum.inl := by rw [List.map_map]; rfl
theorem reach_sorted {L : Lk} {up : Bool} {ns ks out : List Int} (nd : ks.Nodup) (m : ∀ k, k ∈ ks ↔ Reach L up ns k) (hp : out.Perm ks) (hs : out.Pairwise (· ≤ ·)) : ReachL L up ns out := ⟨lt_of_le_nodup out hs (hp.nodup_iff.mpr nd), fun k => by rw [hp.mem_iff, m]⟩
theorem reach_len {L : Lk} {up : Bool} {ns ks : List Int} (nd : ks.Nodup) (m : ∀ k, k ∈ ks ↔ Reach L up ns k) (hL : LkIn L 120) (hn : ∀ k ∈ ns, 0 ≤ k ∧ k < 120) : ks.length ≤ 120 := nodup_range nd fun k hk => Reach.inR hL hn ((m k).mp hk)
theorem wh_119 {y : Wv} (h : isWh y 0 119 = true) : ∃ k : Int, y = .int k ∧ 0 ≤ k ∧ k < 120 := by
  cases y with
  | int i =>
    simp only [isWh, Bool.and_eq_true, decide_eq_true_iff] at h
    exact ⟨i, rfl, by omega, by omega⟩
  | _ => cases h
theorem less_ext {ns a b : List Int} (h : ∀ k, k ∈ a ↔ k ∈ b) : lessL ns a = lessL ns b := List.filter_congr fun k _ => by simp [h k]
theorem reach_rise {L : Lk} {up : Bool} {ns ks : List Int} (nd : ks.Nodup) (m : ∀ k, k ∈ ks ↔ Reach L up ns k) : ∃ out, ReachL L up ns out ∧ ∀ k, k ∈ out ↔ k ∈ ks := by
  have : ∃ out : List Int, out.Perm ks ∧ out.Pairwise (· < ·) := by
    clear m
    induction ks with
    | nil => exact ⟨[], .nil, .nil⟩
    | cons a ks ih =>
      obtain ⟨h1, h2⟩ := List.nodup_cons.mp nd
      obtain ⟨out, p, s⟩ := ih h2
      have ins : ∀ {out : List Int}, out.Pairwise (· < ·) → a ∉ out → ∃ o : List Int, o.Perm (a :: out) ∧ o.Pairwise (· < ·) := by
        intro out
        induction out with
        | nil => exact fun _ _ => ⟨[a], .refl _, List.pairwise_singleton _ _⟩
        | cons b out ihb =>
          intro s n
          obtain ⟨s1, s2⟩ := List.pairwise_cons.mp s
          have nb : a ≠ b := fun e => n (by simp [e])
          by_cases hab : a < b
          · exact ⟨a :: b :: out, .refl _, List.pairwise_cons.mpr ⟨fun c hc => by
              rcases List.mem_cons.mp hc with rfl | hc
              · exact hab
              · have := s1 c hc; omega, s⟩⟩
          · obtain ⟨o, po, so⟩ := ihb s2 fun m => n (List.mem_cons_of_mem _ m)
            refine ⟨b :: o, (List.Perm.cons b po).trans (.swap a b out), List.pairwise_cons.mpr ⟨fun c hc => ?_, so⟩⟩
            rcases List.mem_cons.mp (po.mem_iff.mp hc) with rfl | hc
            · omega
            · exact s1 c hc
      obtain ⟨o, po, so⟩ := ins s fun m => h1 (p.mem_iff.mp m)
      exact ⟨o, po.trans (.cons a p), so⟩
  obtain ⟨out, p, s⟩ := this
  exact ⟨out, ⟨s, fun k => by rw [p.mem_iff, m]⟩, fun k => p.mem_iff⟩

end LF

/-! LF25: links as data; what is reached by going through all links again and again -/
namespace LF
open PySem PySem.Spec PyProof.Rows L2
/-- links of pieces below n, rising -/
def GoodL (L : Lk) (n : Int) : Prop := (∀ p ∈ L, (0 ≤ p.1 ∧ p.1 < n ∧ 0 ≤ p.2 ∧ p.2 < n) ∧ p.1 ≠ p.2) ∧ L.Pairwise ltPr ∧ L.length ≤ 400
def prD (p : Int × Int) : PyData := .tuple [.int p.1, .int p.2]
theorem dt_pair {G : HW} (p : Int × Int) : Dt G (tup2 p) (prD p) := .tup (.cons (.int _) (.cons (.int _) .nil))
theorem dts_pairs {G : HW} (ps : Lk) : Dts G (ps.map tup2) (ps.map prD) := dts_map (fun p => dt_pair p) ps
theorem pair_fit {p : Int × Int} (h1 : -(10 ^ 12) < p.1 ∧ p.1 < 10 ^ 12) (h2 : -(10 ^ 12) < p.2 ∧ p.2 < 10 ^ 12) : Fit 1 82 (prD p) := fit_tup (W := 40) (fun d hd => by
  simp only [List.mem_cons, List.not_mem_nil, or_false] at hd
  rcases hd with rfl | rfl
  · exact fit_int h1.1 h1.2
  · exact fit_int h2.1 h2.2) (Nat.le_of_ble_eq_true rfl)
theorem pairs_fit {ps : Lk} (h : ∀ p ∈ ps, (-(10 ^ 12) < p.1 ∧ p.1 < 10 ^ 12) ∧ (-(10 ^ 12) < p.2 ∧ p.2 < 10 ^ 12)) : Fit 2 (83 * ps.length) (.list (ps.map prD)) := fit_lst (W := 82) (fun d hd => by
  obtain ⟨p, hp, rfl⟩ := List.mem_map.mp hd
  exact pair_fit (h p hp).1 (h p hp).2) (by rw [List.length_map]; exact Nat.le_refl _)
theorem pair_eqv (a b : Int × Int) : PyData.eqv (prD a) (prD b) = decide (a = b) := by
  unfold prD
  rw [PyData.eqv, PyData.eqvAll, PyData.eqvAll, PyData.eqvAll, PyData.eqv, PyData.eqv, Bool.and_true]
  obtain ⟨a1, a2⟩ := a
  obtain ⟨b1, b2⟩ := b
  by_cases h1 : a1 = b1 <;> by_cases h2 : a2 = b2 <;> simp [h1, h2]
theorem pair_any (ps : Lk) (p : Int × Int) : (ps.map prD).any (fun z => PyData.eqv z (prD p)) = decide (p ∈ ps) := by
  induction ps with
  | nil => rfl
  | cons a ps ih =>
    rw [List.map_cons, List.any_cons, ih, pair_eqv]
    by_cases h : a = p
    · subst h; simp
    · have h' : ¬ p = a := fun z => h z.symm
      simp [h, h']
/-- closed under the links -/
def ClosedL (L : Lk) (fs : List Int) : Prop := ∀ p ∈ L, p.1 ∈ fs → p.2 ∈ fs
theorem reach_up_in {L : Lk} {ns : List Int} {k : Int} (r : Reach L true ns k) : k ∈ ns ++ L.map (·.2) := by
  induction r with
  | «at» h => exact List.mem_append_left _ h
  | go _ s _ => exact List.mem_append_right _ (List.mem_map.mpr ⟨_, s, rfl⟩)
theorem closed_reach {L : Lk} {ns fs : List Int} (c : ClosedL L fs) (h : ∀ k ∈ ns, k ∈ fs) (r : ∀ k ∈ fs, Reach L true ns k) (k : Int) : k ∈ fs ↔ Reach L true ns k :=
  ⟨r k, fun z => Reach.closed (S := fun k => k ∈ fs) h (fun a b ha s => c (a, b) (by unfold Step at s; simpa using s) ha) z⟩
/-- where the walk stands -/
def UpAt (L : Lk) (ns : List Int) (t : Nat) (fs : List Int) : Prop := fs.Nodup ∧ (∀ k ∈ ns, k ∈ fs) ∧ (∀ k ∈ fs, Reach L true ns k) ∧ (ClosedL L fs ∨ ns.length + t ≤ fs.length)
theorem UpAt.len {L : Lk} {ns fs : List Int} {t : Nat} (h : UpAt L ns t fs) : fs.length ≤ ns.length + L.length := by
  have := nodup_sub (m := ns ++ L.map (·.2)) h.1 fun k hk => reach_up_in (h.2.2.1 k hk)
  rwa [List.length_append, List.length_map] at this
theorem UpAt.fin {L : Lk} {ns fs : List Int} (h : UpAt L ns (L.length + 1) fs) (k : Int) : k ∈ fs ↔ Reach L true ns k := by
  have l := h.len
  obtain ⟨_, h2, h3, h4⟩ := h
  rcases h4 with c | c
  · exact closed_reach c h2 h3 k
  · omega
/-- amid a turn that began with gs -/
def UpIn (L : Lk) (ns : List Int) (t : Nat) (gs : List Int) (j : Nat) (fs : List Int) : Prop := fs.Nodup ∧ (∀ k ∈ ns, k ∈ fs) ∧ (∀ k ∈ fs, Reach L true ns k) ∧ ((fs = gs ∧ ∀ p ∈ L.take j, p.1 ∈ fs → p.2 ∈ fs) ∨ (gs.length + 1 ≤ fs.length ∧ ¬ ClosedL L gs))
theorem UpIn.len {L : Lk} {ns gs fs : List Int} {t j : Nat} (h : UpIn L ns t gs j fs) : fs.length ≤ ns.length + L.length := by
  have := nodup_sub (m := ns ++ L.map (·.2)) h.1 fun k hk => reach_up_in (h.2.2.1 k hk)
  rwa [List.length_append, List.length_map] at this
theorem UpAt.into {L : Lk} {ns fs : List Int} {t : Nat} (h : UpAt L ns t fs) : UpIn L ns t fs 0 fs := ⟨h.1, h.2.1, h.2.2.1, .inl ⟨rfl, fun p hp => by simp at hp⟩⟩
theorem UpIn.out {L : Lk} {ns gs fs : List Int} {t : Nat} (h0 : UpAt L ns t gs) (h : UpIn L ns t gs L.length fs) : UpAt L ns (t + 1) fs := by
  obtain ⟨h1, h2, h3, h4⟩ := h
  refine ⟨h1, h2, h3, ?_⟩
  rcases h4 with ⟨rfl, c⟩ | ⟨l, n⟩
  · rw [List.take_length] at c
    exact .inl c
  · rcases h0.2.2.2 with c | c
    · exact absurd c n
    · right; omega
theorem UpIn.stay {L : Lk} {ns gs fs : List Int} {t j : Nat} {p : Int × Int} (h : UpIn L ns t gs j fs) (hp : L[j]? = some p) (c : p.1 ∈ fs → p.2 ∈ fs) : UpIn L ns t gs (j + 1) fs := by
  obtain ⟨h1, h2, h3, h4⟩ := h
  refine ⟨h1, h2, h3, h4.imp (fun ⟨e, z⟩ => ⟨e, fun r hr => ?_⟩) id⟩
  rw [List.take_succ, hp] at hr
  rcases List.mem_append.mp hr with y | y
  · exact z r y
  · cases Option.mem_toList.mp y; exact c
theorem UpIn.more {L : Lk} {ns gs fs : List Int} {t j : Nat} {p : Int × Int} (h : UpIn L ns t gs j fs) (hp : L[j]? = some p) (c : p.1 ∈ fs) (d : p.2 ∉ fs) : UpIn L ns t gs (j + 1) (fs ++ [p.2]) := by
  obtain ⟨h1, h2, h3, h4⟩ := h
  have hm := List.mem_of_getElem? hp
  refine ⟨List.nodup_append.mpr ⟨h1, by simp, fun x hx y hy e => d (by cases List.mem_singleton.mp hy; exact e ▸ hx)⟩, fun k hk => List.mem_append_left _ (h2 k hk), fun k hk => ?_, .inr ?_⟩
  · rcases List.mem_append.mp hk with z | z
    · exact h3 k z
    · cases List.mem_singleton.mp z
      exact .go (h3 _ c) hm
  · rw [List.length_append]
    rcases h4 with ⟨rfl, _⟩ | ⟨l, n⟩
    · exact ⟨Nat.le_refl _, fun z => d (z p hm c)⟩
    · exact ⟨by omega, n⟩
def LinksAt (G : HW) (w : Wv) (L : Lk) : Prop := w = .tup (L.map tup2) ∨ ∃ p, w = .ref p ∧ G p = some (.lst (L.map tup2))
theorem LinksAt.ext {G G' : HW} {w : Wv} {L : Lk} (h : LinksAt G w L) (e : Ext G G') : LinksAt G' w L := h.imp id fun ⟨p, a, b⟩ => ⟨p, a, e _ _ b⟩
theorem r_lenAt {G : HW} {w : Wv} {L : Lk} {q : WK} (h : LinksAt G w L) (z : q (.int L.length) G) : wLen [w] G q := by
  rcases h with rfl | ⟨p, rfl, hp⟩
  · rw [m_lenT, List.length_map]; exact z
  · exact r_len (.inl hp) (by rw [List.length_map]; exact z)
theorem r_itAt {G G2 : HW} {w : Wv} {L : Lk} {q : IK} (h : LinksAt G w L) (x : Ext G G2) (z : ∀ ok : HW → Prop, (∀ G', Ext G G' → ok G') → q (L.map tup2) ok G2) : kIt q w G2 := by
  rcases h with rfl | ⟨p, rfl, hp⟩
  · exact z okT fun _ _ => trivial
  · exact r_itL (.inl (x _ _ hp)) (z _ fun G' e => .inl (e _ _ hp))
def swP : Wv → Wv
  | .tup [a, b] => .tup [b, a]
  | w => w
theorem sw_tup2 (p : Int × Int) : swP (tup2 p) = tup2 (p.2, p.1) := rfl
def swL (L : Lk) : Lk := L.map fun p => (p.2, p.1)
theorem sw_map (L : Lk) : (L.map tup2).map swP = (swL L).map tup2 := by
  unfold swL
  rw [List.map_map, List.map_map]
  rfl
theorem reach_sw {L : Lk} {ns : List Int} {k : Int} : Reach (swL L) true ns k ↔ Reach L false ns k := by
  have e : ∀ a b, Step (swL L) true a b ↔ Step L false a b := fun a b => by
    unfold Step swL
    simp only [if_true, Bool.false_eq_true, if_false, List.mem_map, Prod.mk.injEq]
    constructor
    · rintro ⟨p, hp, rfl, rfl⟩; exact hp
    · exact fun h => ⟨_, h, rfl, rfl⟩
  constructor
  · intro r
    induction r with
    | «at» h => exact .at h
    | go _ s ih => exact .go ih ((e _ _).mp s)
  · intro r
    induction r with
    | «at» h => exact .at h
    | go _ s ih => exact .go ih ((e _ _).mpr s)
def openP (ns : List Int) : Wv → Bool
  | .tup [.int a, .int b] => decide (a ∈ ns) && decide (b ∉ ns)
  | _ => false
theorem open_none {L : Lk} {ns : List Int} : (L.map tup2).filter (openP ns) = [] ↔ ClosedL L ns := by
  rw [List.filter_eq_nil_iff]
  unfold ClosedL
  constructor
  · intro h p hp h1
    have := h _ (List.mem_map.mpr ⟨p, hp, rfl⟩)
    simp [openP, tup2, h1] at this
    exact this
  · rintro h w hw
    obtain ⟨p, hp, rfl⟩ := List.mem_map.mp hw
    simp [openP, tup2]
    exact fun h1 => h p hp h1
theorem pairs_none (ps : Lk) : PyData.eqv (.list (ps.map prD)) (.list []) = decide (ps = []) := by
  rw [PyData.eqv]
  cases ps with
  | nil => rfl
  | cons a ps => rfl
theorem open_pairs (L : Lk) (ns : List Int) : (L.map tup2).filter (openP ns) = (L.filter fun p => openP ns (tup2 p)).map tup2 := by
  rw [List.filter_map]; rfl
/-! ### calls with what is due -/
theorem GoodL.mono {L : Lk} {n n' : Int} (h : GoodL L n) (e : n ≤ n') : GoodL L n' := ⟨fun p hp => by have := h.1 p hp; refine ⟨by omega, this.2⟩, h.2.1, h.2.2⟩
theorem GoodL.lkIn {L : Lk} {n : Int} (h : GoodL L n) : LkIn L n := fun p hp => (h.1 p hp).1
theorem GoodL.is {L : Lk} {n : Int} (h : GoodL L n) : isLks (.tup (L.map tup2)) n = true := lks_is.mpr ⟨h.1, h.2.1⟩
section
variable {K : PySem.W.Frag} {C : Addr} {G : HW} {x : XE} {q : WK}
theorem GoodL.kn {L : Lk} {n : Int} (h : GoodL L n) : KnL K G (.tup (L.map tup2)) := knL_pairs (Nat.le_trans h.2.2 (by decide))
theorem lp_ok {L : Lk} {ns : List Int} {ok : Lk → List Int → Prop} (h1 : GoodL L 120) (h2 : Cfg ns 120) (z : ok L ns) : NeedLP K C (.tup (L.map tup2)) (.tup (ns.map .int)) G x ok :=
  ⟨h1.kn, knD_ints, (fun e => by rw [h1.is] at e; cases e), (fun _ e => by rw [conf_ints.mpr h2] at e; cases e), fun L' ns' e1 e2 _ _ _ => by
    obtain rfl := tup2_inj e1
    obtain rfl := ints_inj e2
    exact z⟩
theorem lp_first {w y : Wv} {ok : Lk → List Int → Prop} (h1 : KnL K G w) (h2 : KnD K G 120 y) (e : isLks w 120 = false) (z : ∀ G', Ext G G' → x (.ref C) [("what", .str "links")] G') : NeedLP K C w y G x ok :=
  ⟨h1, h2, (fun _ => z), (fun a => by rw [e] at a; cases a), fun L' ns' _ _ z _ _ => by rw [e] at z; cases z⟩
theorem lp_second {L : Lk} {y : Wv} {ok : Lk → List Int → Prop} (h1 : GoodL L 120) (h2 : KnD K G 120 y) (e : isConf y 120 = false) (z : ∀ G', Ext G G' → x (.ref C) [("what", .str "parts")] G') : NeedLP K C (.tup (L.map tup2)) y G x ok :=
  ⟨h1.kn, h2, (fun a => by rw [h1.is] at a; cases a), (fun _ _ => z), fun L' ns' _ e2 _ _ c => by
    subst e2
    rw [conf_ints.mpr c] at e
    cases e⟩
end
section
variable {G : HW} {q : WK}
theorem r_eqIs {a b : List Int} (z : q (.bl (decide (a = b))) G) : wEq (.tup (a.map .int)) (.tup (b.map .int)) G q := r_eq (k := decide (a = b)) (dt_ints _) (dt_ints _) (shaped_ints _) (shaped_ints _) (by rw [PyData.eqv]; exact eqvAll_ints _ _) z
theorem r_neIs {a b : List Int} (z : q (.bl (!decide (a = b))) G) : wNe (.tup (a.map .int)) (.tup (b.map .int)) G q := r_ne (k := decide (a = b)) (dt_ints _) (dt_ints _) (shaped_ints _) (shaped_ints _) (by rw [PyData.eqv]; exact eqvAll_ints _ _) z
theorem r_neBl {a b : Bool} (z : q (.bl (!decide (a = b))) G) : wNe (.bl a) (.bl b) G q := r_ne (k := decide (a = b)) (.bl a) (.bl b) (fit_bl.shaped (by decide)) (fit_bl.shaped (by decide)) (by rw [PyData.eqv]; cases a <;> cases b <;> rfl) z
theorem r_eqBl {a b : Bool} (z : q (.bl (decide (a = b))) G) : wEq (.bl a) (.bl b) G q := r_eq (k := decide (a = b)) (.bl a) (.bl b) (fit_bl.shaped (by decide)) (fit_bl.shaped (by decide)) (by rw [PyData.eqv]; cases a <;> cases b <;> rfl) z
end
theorem at_some {α : Type} {us : List α} {r : Int} (h0 : 0 ≤ r) (h1 : r < us.length) : ∃ w ∈ us, atI us r = some w := by
  have hi : r.toNat < us.length := by omega
  refine ⟨us[r.toNat], List.getElem_mem hi, ?_⟩
  have := atI_n (List.getElem?_eq_getElem hi)
  rwa [Int.toNat_of_nonneg h0] at this
end LF

namespace LawX
open PySem PySem.Spec PyProof.Rows L2 LF
def top (i : Nat) : Stmt := PySem.Challenge.pw_leastfail_k63_what_hangs_on_what.main.body.getD i (.Pass ⟨0, 0, 0, 0⟩)
abbrev s_reached : Stmt := top 16
abbrev s_ways_of_links : Stmt := top 17
abbrev s_is_whole : Stmt := top 9
abbrev s_is_configuration : Stmt := top 10
abbrev s_need_parts : Stmt := top 11
abbrev s_is_link : Stmt := top 13
abbrev s_is_links : Stmt := top 14
abbrev s_need_links : Stmt := top 15
abbrev s_closure : Stmt := top 18
abbrev s_need_number : Stmt := top 20
abbrev s_without_fall : Stmt := top 22
abbrev s_fall : Stmt := top 21
abbrev s__law_mixed : Stmt := top 24
abbrev s__law_draw : Stmt := top 26
abbrev s__law_closed : Stmt := top 34
abbrev s_is_closed : Stmt := top 19
abbrev s__law_inside : Stmt := top 30
abbrev s__law_some : Stmt := top 28
abbrev s__law_less : Stmt := top 29
abbrev s__law_up : Stmt := top 32
abbrev s__law_fall : Stmt := top 33
abbrev s__law_one_right : Stmt := top 37
abbrev s__law_class : Stmt := top 35
abbrev s__law_told : Stmt := top 36
abbrev s__law_are_links : Stmt := top 38
abbrev s__law_spoilt : Stmt := top 39
abbrev s__law_refused_right : Stmt := top 40
abbrev s__law_links : Stmt := top 31
abbrev s__law_folded : Stmt := top 25
abbrev s__law_begun : Stmt := top 27
abbrev s_law : Stmt := top 41
abbrev s_i_BadValue : Stmt := inClass (top 1) 0
theorem boot_LookupError : bootBuiltins "LookupError" = some (.type "LookupError") := by decide +kernel
theorem boot_OverflowError : bootBuiltins "OverflowError" = some (.type "OverflowError") := by decide +kernel
theorem boot_RuntimeError : bootBuiltins "RuntimeError" = some (.type "RuntimeError") := by decide +kernel
theorem boot_TypeError : bootBuiltins "TypeError" = some (.type "TypeError") := by decide +kernel
theorem boot_ValueError : bootBuiltins "ValueError" = some (.type "ValueError") := by decide +kernel
theorem boot_all : bootBuiltins "all" = some (.builtin "all") := by decide +kernel
theorem boot_bool : bootBuiltins "bool" = some (.type "bool") := by decide +kernel
theorem boot_enumerate : bootBuiltins "enumerate" = some (.type "enumerate") := by decide +kernel
theorem boot_int : bootBuiltins "int" = some (.type "int") := by decide +kernel
theorem boot_isinstance : bootBuiltins "isinstance" = some (.builtin "isinstance") := by decide +kernel
theorem boot_len : bootBuiltins "len" = some (.builtin "len") := by decide +kernel
theorem boot_list : bootBuiltins "list" = some (.type "list") := by decide +kernel
theorem boot_max : bootBuiltins "max" = some (.builtin "max") := by decide +kernel
theorem boot_min : bootBuiltins "min" = some (.builtin "min") := by decide +kernel
theorem boot_range : bootBuiltins "range" = some (.type "range") := by decide +kernel
theorem boot_repr : bootBuiltins "repr" = some (.builtin "repr") := by decide +kernel
theorem boot_set : bootBuiltins "set" = some (.type "set") := by decide +kernel
theorem boot_sorted : bootBuiltins "sorted" = some (.builtin "sorted") := by decide +kernel
theorem boot_tuple : bootBuiltins "tuple" = some (.type "tuple") := by decide +kernel
theorem boot_zip : bootBuiltins "zip" = some (.type "zip") := by decide +kernel
structure Txt (K : PySem.W.Frag) (mg : Str → Option Value) where
  n_LookupError : mg "LookupError" = none
  n_OverflowError : mg "OverflowError" = none
  n_RuntimeError : mg "RuntimeError" = none
  n_TypeError : mg "TypeError" = none
  n_ValueError : mg "ValueError" = none
  n_all : mg "all" = none
  n_bool : mg "bool" = none
  n_enumerate : mg "enumerate" = none
  n_int : mg "int" = none
  n_isinstance : mg "isinstance" = none
  n_len : mg "len" = none
  n_list : mg "list" = none
  n_max : mg "max" = none
  n_min : mg "min" = none
  n_range : mg "range" = none
  n_repr : mg "repr" = none
  n_set : mg "set" = none
  n_sorted : mg "sorted" = none
  n_tuple : mg "tuple" = none
  n_zip : mg "zip" = none
  t_MOST_PIECES : Tok
  m_MOST_PIECES : mg "MOST_PIECES" = some (.int 120 t_MOST_PIECES)
  C_BadValue : Addr
  m_BadValue : mg "BadValue" = some (.ref C_BadValue)
  C_NotSo : Addr
  m_NotSo : mg "NotSo" = some (.ref C_NotSo)
  C_Nested : Addr
  m_Nested : mg "Nested" = some (.ref C_Nested)
  C_Spent : Addr
  m_Spent : mg "Spent" = some (.ref C_Spent)
  C_BadVerdict : Addr
  m_BadVerdict : mg "BadVerdict" = some (.ref C_BadVerdict)
  C_Gone : Addr
  m_Gone : mg "Gone" = some (.ref C_Gone)
  f_reached : Addr
  fd_reached : FuncData
  F_reached : FunD K "reached" "reached" (defArgs s_reached) (defBody s_reached) (defScope s_reached) [] [] f_reached fd_reached
  m_reached : mg "reached" = some (.ref f_reached)
  f_ways_of_links : Addr
  fd_ways_of_links : FuncData
  F_ways_of_links : FunD K "ways_of_links" "ways_of_links" (defArgs s_ways_of_links) (defBody s_ways_of_links) (defScope s_ways_of_links) [] [] f_ways_of_links fd_ways_of_links
  m_ways_of_links : mg "ways_of_links" = some (.ref f_ways_of_links)
  f_is_whole : Addr
  fd_is_whole : FuncData
  F_is_whole : FunD K "is_whole" "is_whole" (defArgs s_is_whole) (defBody s_is_whole) (defScope s_is_whole) [] [] f_is_whole fd_is_whole
  m_is_whole : mg "is_whole" = some (.ref f_is_whole)
  f_is_configuration : Addr
  fd_is_configuration : FuncData
  F_is_configuration : FunD K "is_configuration" "is_configuration" (defArgs s_is_configuration) (defBody s_is_configuration) (defScope s_is_configuration) [.int 120] [] f_is_configuration fd_is_configuration
  m_is_configuration : mg "is_configuration" = some (.ref f_is_configuration)
  f_need_parts : Addr
  fd_need_parts : FuncData
  F_need_parts : FunD K "need_parts" "need_parts" (defArgs s_need_parts) (defBody s_need_parts) (defScope s_need_parts) [.str "parts", .int 120] [] f_need_parts fd_need_parts
  m_need_parts : mg "need_parts" = some (.ref f_need_parts)
  f_is_link : Addr
  fd_is_link : FuncData
  F_is_link : FunD K "is_link" "is_link" (defArgs s_is_link) (defBody s_is_link) (defScope s_is_link) [] [] f_is_link fd_is_link
  m_is_link : mg "is_link" = some (.ref f_is_link)
  f_is_links : Addr
  fd_is_links : FuncData
  F_is_links : FunD K "is_links" "is_links" (defArgs s_is_links) (defBody s_is_links) (defScope s_is_links) [.int 120] [] f_is_links fd_is_links
  m_is_links : mg "is_links" = some (.ref f_is_links)
  f_need_links : Addr
  fd_need_links : FuncData
  F_need_links : FunD K "need_links" "need_links" (defArgs s_need_links) (defBody s_need_links) (defScope s_need_links) [.int 120] [] f_need_links fd_need_links
  m_need_links : mg "need_links" = some (.ref f_need_links)
  f_closure : Addr
  fd_closure : FuncData
  F_closure : FunD K "closure" "closure" (defArgs s_closure) (defBody s_closure) (defScope s_closure) [] [] f_closure fd_closure
  m_closure : mg "closure" = some (.ref f_closure)
  f_need_number : Addr
  fd_need_number : FuncData
  F_need_number : FunD K "need_number" "need_number" (defArgs s_need_number) (defBody s_need_number) (defScope s_need_number) [] [] f_need_number fd_need_number
  m_need_number : mg "need_number" = some (.ref f_need_number)
  f_without_fall : Addr
  fd_without_fall : FuncData
  F_without_fall : FunD K "without_fall" "without_fall" (defArgs s_without_fall) (defBody s_without_fall) (defScope s_without_fall) [] [] f_without_fall fd_without_fall
  m_without_fall : mg "without_fall" = some (.ref f_without_fall)
  f_fall : Addr
  fd_fall : FuncData
  F_fall : FunD K "fall" "fall" (defArgs s_fall) (defBody s_fall) (defScope s_fall) [] [] f_fall fd_fall
  m_fall : mg "fall" = some (.ref f_fall)
  f__law_mixed : Addr
  fd__law_mixed : FuncData
  F__law_mixed : FunD K "_law_mixed" "_law_mixed" (defArgs s__law_mixed) (defBody s__law_mixed) (defScope s__law_mixed) [] [] f__law_mixed fd__law_mixed
  m__law_mixed : mg "_law_mixed" = some (.ref f__law_mixed)
  f__law_draw : Addr
  fd__law_draw : FuncData
  F__law_draw : FunD K "_law_draw" "_law_draw" (defArgs s__law_draw) (defBody s__law_draw) (defScope s__law_draw) [] [] f__law_draw fd__law_draw
  m__law_draw : mg "_law_draw" = some (.ref f__law_draw)
  f__law_closed : Addr
  fd__law_closed : FuncData
  F__law_closed : FunD K "_law_closed" "_law_closed" (defArgs s__law_closed) (defBody s__law_closed) (defScope s__law_closed) [] [] f__law_closed fd__law_closed
  m__law_closed : mg "_law_closed" = some (.ref f__law_closed)
  f_is_closed : Addr
  fd_is_closed : FuncData
  F_is_closed : FunD K "is_closed" "is_closed" (defArgs s_is_closed) (defBody s_is_closed) (defScope s_is_closed) [] [] f_is_closed fd_is_closed
  m_is_closed : mg "is_closed" = some (.ref f_is_closed)
  f__law_inside : Addr
  fd__law_inside : FuncData
  F__law_inside : FunD K "_law_inside" "_law_inside" (defArgs s__law_inside) (defBody s__law_inside) (defScope s__law_inside) [] [] f__law_inside fd__law_inside
  m__law_inside : mg "_law_inside" = some (.ref f__law_inside)
  f__law_some : Addr
  fd__law_some : FuncData
  F__law_some : FunD K "_law_some" "_law_some" (defArgs s__law_some) (defBody s__law_some) (defScope s__law_some) [] [] f__law_some fd__law_some
  m__law_some : mg "_law_some" = some (.ref f__law_some)
  f__law_less : Addr
  fd__law_less : FuncData
  F__law_less : FunD K "_law_less" "_law_less" (defArgs s__law_less) (defBody s__law_less) (defScope s__law_less) [] [] f__law_less fd__law_less
  m__law_less : mg "_law_less" = some (.ref f__law_less)
  f__law_up : Addr
  fd__law_up : FuncData
  F__law_up : FunD K "_law_up" "_law_up" (defArgs s__law_up) (defBody s__law_up) (defScope s__law_up) [] [] f__law_up fd__law_up
  m__law_up : mg "_law_up" = some (.ref f__law_up)
  f__law_fall : Addr
  fd__law_fall : FuncData
  F__law_fall : FunD K "_law_fall" "_law_fall" (defArgs s__law_fall) (defBody s__law_fall) (defScope s__law_fall) [] [] f__law_fall fd__law_fall
  m__law_fall : mg "_law_fall" = some (.ref f__law_fall)
  f__law_one_right : Addr
  fd__law_one_right : FuncData
  F__law_one_right : FunD K "_law_one_right" "_law_one_right" (defArgs s__law_one_right) (defBody s__law_one_right) (defScope s__law_one_right) [] [] f__law_one_right fd__law_one_right
  m__law_one_right : mg "_law_one_right" = some (.ref f__law_one_right)
  f__law_class : Addr
  fd__law_class : FuncData
  F__law_class : FunD K "_law_class" "_law_class" (defArgs s__law_class) (defBody s__law_class) (defScope s__law_class) [] [] f__law_class fd__law_class
  m__law_class : mg "_law_class" = some (.ref f__law_class)
  f__law_told : Addr
  fd__law_told : FuncData
  F__law_told : FunD K "_law_told" "_law_told" (defArgs s__law_told) (defBody s__law_told) (defScope s__law_told) [] [] f__law_told fd__law_told
  m__law_told : mg "_law_told" = some (.ref f__law_told)
  f__law_are_links : Addr
  fd__law_are_links : FuncData
  F__law_are_links : FunD K "_law_are_links" "_law_are_links" (defArgs s__law_are_links) (defBody s__law_are_links) (defScope s__law_are_links) [] [] f__law_are_links fd__law_are_links
  m__law_are_links : mg "_law_are_links" = some (.ref f__law_are_links)
  f__law_spoilt : Addr
  fd__law_spoilt : FuncData
  F__law_spoilt : FunD K "_law_spoilt" "_law_spoilt" (defArgs s__law_spoilt) (defBody s__law_spoilt) (defScope s__law_spoilt) [] [] f__law_spoilt fd__law_spoilt
  m__law_spoilt : mg "_law_spoilt" = some (.ref f__law_spoilt)
  f__law_refused_right : Addr
  fd__law_refused_right : FuncData
  F__law_refused_right : FunD K "_law_refused_right" "_law_refused_right" (defArgs s__law_refused_right) (defBody s__law_refused_right) (defScope s__law_refused_right) [] [] f__law_refused_right fd__law_refused_right
  m__law_refused_right : mg "_law_refused_right" = some (.ref f__law_refused_right)
  c__law_refused_right : Addr
  P__law_refused_right : Addr
  hc__law_refused_right : fd__law_refused_right.code = .ref c__law_refused_right
  tb__law_refused_right : PySem.W.tabIn K "_law_refused_right" = some (c__law_refused_right, P__law_refused_right)
  tn__law_refused_right : K.lookup P__law_refused_right = none
  f__law_links : Addr
  fd__law_links : FuncData
  F__law_links : FunD K "_law_links" "_law_links" (defArgs s__law_links) (defBody s__law_links) (defScope s__law_links) [] [] f__law_links fd__law_links
  m__law_links : mg "_law_links" = some (.ref f__law_links)
  f__law_folded : Addr
  fd__law_folded : FuncData
  F__law_folded : FunD K "_law_folded" "_law_folded" (defArgs s__law_folded) (defBody s__law_folded) (defScope s__law_folded) [] [] f__law_folded fd__law_folded
  m__law_folded : mg "_law_folded" = some (.ref f__law_folded)
  f__law_begun : Addr
  fd__law_begun : FuncData
  F__law_begun : FunD K "_law_begun" "_law_begun" (defArgs s__law_begun) (defBody s__law_begun) (defScope s__law_begun) [] [] f__law_begun fd__law_begun
  m__law_begun : mg "_law_begun" = some (.ref f__law_begun)
  f_law : Addr
  fd_law : FuncData
  F_law : FunD K "law" "law" (defArgs s_law) (defBody s_law) (defScope s_law) [] [] f_law fd_law
  m_law : mg "law" = some (.ref f_law)
  f_i_BadValue : Addr
  fd_i_BadValue : FuncData
  F_i_BadValue : FunD K "__init__" "BadValue.__init__" (defArgs s_i_BadValue) (defBody s_i_BadValue) (defScope s_i_BadValue) [] [] f_i_BadValue fd_i_BadValue
  i_BadValue : PySem.W.findIn K (.ref C_BadValue) "__init__" = some (some (.ref f_i_BadValue))
  ti_BadValue : PySem.W.typeIn K (.ref f_i_BadValue) = some (.type "function")
  no_BadValue : PySem.W.findIn K (.ref C_BadValue) "what" = some none
  ox_BadValue : OexC K C_BadValue
  xf_BadValue : XfC K C_BadValue
  xc_BadValue : ExcC K C_BadValue
  ko_BadValue : PySem.W.kitOne K (.ref C_BadValue) (.ref C_BadValue) = some true
  kb_BadValue : PySem.W.kitOne K (.ref C_BadValue) (.type "ValueError") = some true
  xm_BadValue : PySem.W.exmAny K (.ref C_BadValue) [.ref C_BadValue, .ref C_BadVerdict, .ref C_Gone, .ref C_Nested, .ref C_NotSo, .ref C_Spent] = some true
theorem sci_BadValue : FnScope ["self", "what"] ["self", "what"] (defScope s_i_BadValue) := ⟨rfl, rfl, rfl, by decide +kernel, rfl, by decide +kernel, by decide +kernel⟩
theorem init_BadValue {P : Program} {w : World} {K : PySem.W.Frag} {mg : Str → Option Value} {base : Heap} (T : Txt K mg) : FnOk P w K mg base (L2.CX P w) 1 T.f_i_BadValue T.fd_i_BadValue ["self", "what"] (SpI K "what") := init1 T.F_i_BadValue sci_BadValue (.inl rfl) (.inl rfl) (by decide) (by decide) (by decide) (by decide) (fun _ => rfl)
theorem bI_BadValue {K : PySem.W.Frag} {mg : Str → Option Value} (T : Txt K mg) : L2.Binds K T.fd_i_BadValue ["self", "what"] [] := by
  obtain ⟨oc, od, dV, kV, doc, pm, an, cdv, ct, osl, e, lk, hcd, hD, hK⟩ := T.F_i_BadValue.ex
  rcases hD with ⟨_, rfl⟩ | ⟨z, _⟩
  · rw [e]; exact Binds.all fun us hl => match us, hl with | [_, _], _ => rfl
  · exact absurd rfl z

/-! ### reached -/
theorem sc_reached : FnScope ["ways", "firsts", "found", "todo", "one"] ["ways", "firsts"] (defScope s_reached) := ⟨rfl, rfl, rfl, by decide +kernel, rfl, by decide +kernel, by decide +kernel⟩
def sp_reached {K : PySem.W.Frag} {mg : Str → Option Value} (T : Txt K mg) : SpW := SpReached
theorem len_reached {K : PySem.W.Frag} {mg : Str → Option Value} (T : Txt K mg) (ws : List Wv) (G : HW) (q : WK) (x : XE) (h : sp_reached T ws G q x) : ws.length = 2 := by
  obtain ⟨D, L, up, f, ns, rfl, _⟩ := h
  rfl
def b_reached_7 {K : PySem.W.Frag} {mg : Str → Option Value} (T : Txt K mg) : ST := sRet (eV 2)
theorem mb_reached_7 {K : PySem.W.Frag} {mg : Str → Option Value} (T : Txt K mg) (D : EndsW) (σ : SW) (G : HW) : b_reached_7 T D σ G = (sRet (eV 2)) D σ G := rfl
def b_reached_6 {K : PySem.W.Frag} {mg : Str → Option Value} (T : Txt K mg) : ST := sExpr (eBM "list" wExtend (eV 3) (aCons (eGet2 (eV 0) (eV 4) (eLst (aNil))) (aNil)))
theorem mb_reached_6 {K : PySem.W.Frag} {mg : Str → Option Value} (T : Txt K mg) (D : EndsW) (σ : SW) (G : HW) : b_reached_6 T D σ G = (sExpr (eBM "list" wExtend (eV 3) (aCons (eGet2 (eV 0) (eV 4) (eLst (aNil))) (aNil)))) D σ G := rfl
def b_reached_5 {K : PySem.W.Frag} {mg : Str → Option Value} (T : Txt K mg) : ST := sSeq (sAsg (eC (.bl true)) (gSb (eV 2) (eV 4))) (b_reached_6 T)
theorem mb_reached_5 {K : PySem.W.Frag} {mg : Str → Option Value} (T : Txt K mg) (D : EndsW) (σ : SW) (G : HW) : b_reached_5 T D σ G = (sSeq (sAsg (eC (.bl true)) (gSb (eV 2) (eV 4))) (b_reached_6 T)) D σ G := rfl
def b_reached_4 {K : PySem.W.Frag} {mg : Str → Option Value} (T : Txt K mg) : ST := sIf (qOp (wInA true) (eV 4) (eV 2)) (b_reached_5 T) (sNext)
theorem mb_reached_4 {K : PySem.W.Frag} {mg : Str → Option Value} (T : Txt K mg) (D : EndsW) (σ : SW) (G : HW) : b_reached_4 T D σ G = (sIf (qOp (wInA true) (eV 4) (eV 2)) (b_reached_5 T) (sNext)) D σ G := rfl
def b_reached_3 {K : PySem.W.Frag} {mg : Str → Option Value} (T : Txt K mg) : ST := sSeq (sSet 4 (eBM0 "list" wPop (eV 3))) (b_reached_4 T)
theorem mb_reached_3 {K : PySem.W.Frag} {mg : Str → Option Value} (T : Txt K mg) (D : EndsW) (σ : SW) (G : HW) : b_reached_3 T D σ G = (sSeq (sSet 4 (eBM0 "list" wPop (eV 3))) (b_reached_4 T)) D σ G := rfl
def b_reached_2 {K : PySem.W.Frag} {mg : Str → Option Value} (T : Txt K mg) : ST := sSeq (sWhile (qOp wNe (eV 3) (eLst (aNil))) (b_reached_3 T)) (b_reached_7 T)
theorem mb_reached_2 {K : PySem.W.Frag} {mg : Str → Option Value} (T : Txt K mg) (D : EndsW) (σ : SW) (G : HW) : b_reached_2 T D σ G = (sSeq (sWhile (qOp wNe (eV 3) (eLst (aNil))) (b_reached_3 T)) (b_reached_7 T)) D σ G := rfl
def t_reached {K : PySem.W.Frag} {mg : Str → Option Value} (T : Txt K mg) : ST := sSeq (sPar 2 3 (aCons (eDnew) (aCons (eCB wList (aCons (eV 1) (aNil))) (aNil)))) (b_reached_2 T)
local macro_rules | `(tactic| walk_at "m_reached") => `(tactic| simp only [m_V, m_kV, m_C, m_Op, m_kOp, m_kOp2, m_kBl, m_qOp, m_kCh2, m_kCh2f, m_kCh3, m_kCh1, m_kCh, m_Ch, m_qCh, m_oNone, m_oSome, m_kO, m_Sl, m_kSl, m_kSl1, m_kSl2, m_slT, m_qT, m_kTru, m_tB, m_tN, m_tI, m_tT, m_qA, m_qO, m_qN, m_kqAt, m_kqAf, m_kqOt, m_kqOf, m_kqN, m_qYes, m_A, m_Or, m_N, m_Neg, m_kAt, m_kAf, m_kOrt, m_kOrf, m_kN, m_kNeg, m_If, m_kIft, m_kIff, m_an, m_ac, m_kac, m_kac2, m_Tup, m_Lst, m_kTup, m_CB, m_kCB, m_pk1, m_pp, m_pkk, m_pd, m_pn, m_kX, m_Call, m_kC1, m_kC2, m_BM, m_BM0, m_kM1, m_Seq, m_Seq_nx, m_Seq_rt, m_Seq_bk, m_Seq_ct, m_Seq_ex, m_Next, m_Brk, m_Cont, m_Expr, m_kEx, m_Ret, m_RetN, m_SIf, m_kSIft, m_kSIff, m_Set, m_kSet, m_Par, m_kPar, m_Par3, m_kPar3, m_Asg, m_kAsg, m_gNm, m_kG, m_gNo, m_gMo, m_gTu, m_gSb, m_kGs, m_kGs2, m_kW2, m_Aug, m_kAug, m_kAu, m_kAu2, m_mk1, m_kMk, m_Raise, m_ends_rt, m_ends_ex, m_ends_nx, m_add, m_addB, m_sub, m_eqI, m_eqS, m_neI, m_neS, m_isB, m_isN, m_isNotN, m_nonN, m_nonR, m_nonT, m_nonI, m_nonS, m_nonB, m_lenT, m_lenK, m_tupT, m_max, m_min, m_intI, m_intB, m_pr0, m_pr, m_kpr, m_kpr2, m_Xf, m_Try, m_Try_nx, m_Try_rt, m_Try_bk, m_Try_ct, m_Try_ex, m_Suite_nx, m_Suite_rt, m_Suite_bk, m_Suite_ct, m_kXe, m_kXo, m_tlOf, m_For, m_Loop_nx, m_Loop_ct, m_Loop_bk, m_Loop_rt, m_Loop_ex, m_kB, m_iSeq, m_kItT, m_kItK, m_kItS, m_iRg1, m_iRg2, m_iEnu, m_kEnuK, m_iZp, m_kZpT, m_iRv, m_kRvT, m_Lc, m_kCell, m_kTurnT, m_kTurnF, m_wip0, m_wip1, m_Back, m_kBackT, m_rg1, m_kRgA, m_TupRg, m_LstRg, m_Dc, m_DturnT, m_DturnF, m_kDk, m_kDv, m_SSet, m_iRvR, m_At, m_Fst, m_kFs, m_Meth, m_kMe2, m_kMe3, m_Make, m_kMk1, m_kMade, m_ltI, m_geI, m_geP, m_isNotB, m_Get1, m_Get2, m_kGet2, m_Setd, m_kSd2, m_rg2, m_kRg2a, m_kRg2b, List.getElem?_cons_zero, List.getElem?_cons_succ, List.set_cons_zero, List.set_cons_succ, List.length_cons, List.length_nil, Nat.zero_add, Nat.reduceAdd, Nat.reduceLeDiff, Bool.not_true, Bool.not_false, mb_reached_7, mb_reached_6, mb_reached_5, mb_reached_4, mb_reached_3, mb_reached_2])
theorem pf_reached {K : PySem.W.Frag} {mg : Str → Option Value} (T : Txt K mg) (ws : List Wv) (G : HW) (q : WK) (x : XE) (h : sp_reached T ws G q x) : t_reached T (endsW q x) (startW ["ways", "firsts", "found", "todo", "one"] ws) G := by
  obtain ⟨D, L, up, f, ns, rfl, hf, hnl, hn, hL, hLl, wy, hq⟩ := h
  show t_reached T (endsW q x) [some (.ref D), some (f), none, none, none] G
  unfold t_reached
  walk_at "m_reached"
  refine r_dnew fun F hF => ?_
  have xF := Ext.new (o := .dct []) hF
  have start : ∀ Tp G1, G F = none → G Tp = none → Tp ≠ F → Ext G G1 → G1 F = some (.dct []) → G1 Tp = some (.lst (ns.map .int)) → b_reached_2 T (endsW q x) [some (.ref D), some f, some (.ref F), some (.ref Tp), none] G1 := fun Tp G1 nF nT nTF ex eF eT => by
    rw [mb_reached_2]
    refine ⟨fun m σ G2 => ∃ (o4 : Option Wv) (ks ts : List Int), σ = [some (.ref D), some f, some (.ref F), some (.ref Tp), o4] ∧ Ext G G2 ∧ G2 F = some (.dct (ks.map fun k => (.inl k, .bl true))) ∧ G2 Tp = some (.lst (ts.map .int)) ∧ ks.Nodup ∧ (∀ k ∈ ks, Reach L up ns k) ∧ (∀ k ∈ ts, Reach L up ns k) ∧ (∀ k ∈ ns, k ∈ ks ∨ k ∈ ts) ∧
      (∀ a b, a ∈ ks → Step L up a b → b ∈ ks ∨ b ∈ ts) ∧ m = (121 - ks.length) * (L.length + 1) + ts.length ∧ m ≤ 121 * (L.length + 1) + 120,
      ⟨_, _, [], ns, rfl, ex, eF, eT, List.nodup_nil, (fun k hk => nomatch hk), (fun k hk => .at hk), (fun k hk => .inr hk), (fun a b ha => nomatch ha), rfl, by simp; omega⟩, ?_⟩
    rintro m σ G2 ⟨o4, ks, ts, rfl, ex2, eF2, eT2, nd, i1, i2, i3, i4, em, hm⟩
    have hkl : ks.length ≤ 120 := nodup_range nd fun k hk => Reach.inR hL hn (i1 k hk)
    have hm2 : m ≤ 121 * 100001 + 120 := by
      have := Nat.mul_le_mul_left 121 (show L.length + 1 ≤ 100001 from by omega)
      omega
    have htl : ts.length ≤ m := by rw [em]; exact Nat.le_add_left _ _
    walk_at "m_reached"
    refine r_lst' fun l0 hl0 => ?_
    have x0 := Ext.new (o := .lst []) hl0
    refine r_ne (k := decide (ts = [])) (.lst (.inl (x0 _ _ eT2)) (dts_ints ts)) (.lst (.inl updO_same) .nil) (shaped_intsL _) (shaped_intsL []) (by rw [PyData.eqv]; exact eqvAll_ints ts []) ?_
    cases e1 : decide (ts = []) with
    | true =>
      have e1 := of_decide_eq_true e1
      subst e1
      walk_at "m_reached"
      refine hq F ks _ nF (ex2.trans x0) nd (fun k => ⟨i1 k, fun r => r.closed (S := fun k => k ∈ ks) (fun k hk => (i3 k hk).elim id fun z => nomatch z) fun a b ha s => (i4 a b ha s).elim id fun z => nomatch z⟩) (x0 _ _ eF2)
    | false =>
      have ne := of_decide_eq_false e1
      obtain ⟨ts', k, rfl⟩ : ∃ ts' k, ts = ts' ++ [k] := ⟨ts.dropLast, ts.getLast ne, (List.dropLast_concat_getLast ne).symm⟩
      walk_at "m_reached"
      refine r_M0 (.inl ⟨rfl, _, .inl (x0 _ _ eT2)⟩) ?_
      have eT3 := x0 _ _ eT2
      refine ⟨_, .int k, eT3, by rw [List.map_append]; simp, ?_⟩
      have ed : ((ts' ++ [k]).map Wv.int).dropLast = ts'.map .int := by rw [List.map_append]; exact List.dropLast_concat
      rw [ed]
      walk_at "m_reached"
      generalize hG3 : updO (updO G2 l0 (.lst [])) Tp (.lst (ts'.map .int)) = G3
      have ex3 : Ext G G3 := by rw [← hG3]; exact (ex2.trans x0).put nT
      have eF3 : G3 F = some (.dct (ks.map fun k => (.inl k, .bl true))) := by rw [← hG3, updO_ne nTF.symm]; exact x0 _ _ eF2
      have eT3 : G3 Tp = some (.lst (ts'.map .int)) := by rw [← hG3]; exact updO_same
      have rk : Reach L up ns k := i2 k (by simp)
      refine r_inD eF3 rfl ?_
      rw [keys_look]
      cases e2 : decide (k ∈ ks) with
      | true =>
        have hk := of_decide_eq_true e2
        simp only [m_V, m_kV, m_C, m_Op, m_kOp, m_kOp2, m_kBl, m_qOp, m_kCh2, m_kCh2f, m_kCh3, m_kCh1, m_kCh, m_Ch, m_qCh, m_oNone, m_oSome, m_kO, m_Sl, m_kSl, m_kSl1, m_kSl2, m_slT, m_qT, m_kTru, m_tB, m_tN, m_tI, m_tT, m_qA, m_qO, m_qN, m_kqAt, m_kqAf, m_kqOt, m_kqOf, m_kqN, m_qYes, m_A, m_Or, m_N, m_Neg, m_kAt, m_kAf, m_kOrt, m_kOrf, m_kN, m_kNeg, m_If, m_kIft, m_kIff, m_an, m_ac, m_kac, m_kac2, m_Tup, m_Lst, m_kTup, m_CB, m_kCB, m_pk1, m_pp, m_pkk, m_pd, m_pn, m_kX, m_Call, m_kC1, m_kC2, m_BM, m_BM0, m_kM1, m_Seq, m_Seq_nx, m_Seq_rt, m_Seq_bk, m_Seq_ct, m_Seq_ex, m_Next, m_Brk, m_Cont, m_Expr, m_kEx, m_Ret, m_RetN, m_SIf, m_kSIft, m_kSIff, m_Set, m_kSet, m_Par, m_kPar, m_Par3, m_kPar3, m_Asg, m_kAsg, m_gNm, m_kG, m_gNo, m_gMo, m_gTu, m_gSb, m_kGs, m_kGs2, m_kW2, m_Aug, m_kAug, m_kAu, m_kAu2, m_mk1, m_kMk, m_Raise, m_ends_rt, m_ends_ex, m_ends_nx, m_add, m_addB, m_sub, m_eqI, m_eqS, m_neI, m_neS, m_isB, m_isN, m_isNotN, m_nonN, m_nonR, m_nonT, m_nonI, m_nonS, m_nonB, m_lenT, m_lenK, m_tupT, m_max, m_min, m_intI, m_intB, m_pr0, m_pr, m_kpr, m_kpr2, m_Xf, m_Try, m_Try_nx, m_Try_rt, m_Try_bk, m_Try_ct, m_Try_ex, m_Suite_nx, m_Suite_rt, m_Suite_bk, m_Suite_ct, m_kXe, m_kXo, m_tlOf, m_For, m_Loop_nx, m_Loop_ct, m_Loop_bk, m_Loop_rt, m_Loop_ex, m_kB, m_iSeq, m_kItT, m_kItK, m_kItS, m_iRg1, m_iRg2, m_iEnu, m_kEnuK, m_iZp, m_kZpT, m_iRv, m_kRvT, m_Lc, m_kCell, m_kTurnT, m_kTurnF, m_wip0, m_wip1, m_Back, m_kBackT, m_rg1, m_kRgA, m_TupRg, m_LstRg, m_Dc, m_DturnT, m_DturnF, m_kDk, m_kDv, m_SSet, m_iRvR, m_At, m_Fst, m_kFs, m_Meth, m_kMe2, m_kMe3, m_Make, m_kMk1, m_kMade, m_ltI, m_geI, m_geP, m_isNotB, m_Get1, m_Get2, m_kGet2, m_Setd, m_kSd2, m_rg2, m_kRg2a, m_kRg2b, List.getElem?_cons_zero, List.getElem?_cons_succ, List.set_cons_zero, List.set_cons_succ, List.length_cons, List.length_nil, Nat.zero_add, Nat.reduceAdd, Nat.reduceLeDiff, Bool.not_true, Bool.not_false, mb_reached_7, mb_reached_6, mb_reached_5, mb_reached_4, mb_reached_3, mb_reached_2, if_true]
        have lt : (ts' ++ [k]).length = ts'.length + 1 := by simp
        refine ⟨(121 - ks.length) * (L.length + 1) + ts'.length, by rw [em, lt]; omega, _, ks, ts', rfl, ex3, eF3, eT3, nd, i1, (fun j hj => i2 j (by simp [hj])), (fun j hj => ?_), (fun a b ha s => ?_), rfl, by rw [em, lt] at hm; omega⟩
        · rcases i3 j hj with z | z
          · exact .inl z
          · rcases List.mem_append.mp z with z | z
            · exact .inr z
            · cases List.mem_singleton.mp z; exact .inl hk
        · rcases i4 a b ha s with z | z
          · exact .inl z
          · rcases List.mem_append.mp z with z | z
            · exact .inr z
            · cases List.mem_singleton.mp z; exact .inl hk
      | false =>
        have hk := of_decide_eq_false e2
        simp only [m_V, m_kV, m_C, m_Op, m_kOp, m_kOp2, m_kBl, m_qOp, m_kCh2, m_kCh2f, m_kCh3, m_kCh1, m_kCh, m_Ch, m_qCh, m_oNone, m_oSome, m_kO, m_Sl, m_kSl, m_kSl1, m_kSl2, m_slT, m_qT, m_kTru, m_tB, m_tN, m_tI, m_tT, m_qA, m_qO, m_qN, m_kqAt, m_kqAf, m_kqOt, m_kqOf, m_kqN, m_qYes, m_A, m_Or, m_N, m_Neg, m_kAt, m_kAf, m_kOrt, m_kOrf, m_kN, m_kNeg, m_If, m_kIft, m_kIff, m_an, m_ac, m_kac, m_kac2, m_Tup, m_Lst, m_kTup, m_CB, m_kCB, m_pk1, m_pp, m_pkk, m_pd, m_pn, m_kX, m_Call, m_kC1, m_kC2, m_BM, m_BM0, m_kM1, m_Seq, m_Seq_nx, m_Seq_rt, m_Seq_bk, m_Seq_ct, m_Seq_ex, m_Next, m_Brk, m_Cont, m_Expr, m_kEx, m_Ret, m_RetN, m_SIf, m_kSIft, m_kSIff, m_Set, m_kSet, m_Par, m_kPar, m_Par3, m_kPar3, m_Asg, m_kAsg, m_gNm, m_kG, m_gNo, m_gMo, m_gTu, m_gSb, m_kGs, m_kGs2, m_kW2, m_Aug, m_kAug, m_kAu, m_kAu2, m_mk1, m_kMk, m_Raise, m_ends_rt, m_ends_ex, m_ends_nx, m_add, m_addB, m_sub, m_eqI, m_eqS, m_neI, m_neS, m_isB, m_isN, m_isNotN, m_nonN, m_nonR, m_nonT, m_nonI, m_nonS, m_nonB, m_lenT, m_lenK, m_tupT, m_max, m_min, m_intI, m_intB, m_pr0, m_pr, m_kpr, m_kpr2, m_Xf, m_Try, m_Try_nx, m_Try_rt, m_Try_bk, m_Try_ct, m_Try_ex, m_Suite_nx, m_Suite_rt, m_Suite_bk, m_Suite_ct, m_kXe, m_kXo, m_tlOf, m_For, m_Loop_nx, m_Loop_ct, m_Loop_bk, m_Loop_rt, m_Loop_ex, m_kB, m_iSeq, m_kItT, m_kItK, m_kItS, m_iRg1, m_iRg2, m_iEnu, m_kEnuK, m_iZp, m_kZpT, m_iRv, m_kRvT, m_Lc, m_kCell, m_kTurnT, m_kTurnF, m_wip0, m_wip1, m_Back, m_kBackT, m_rg1, m_kRgA, m_TupRg, m_LstRg, m_Dc, m_DturnT, m_DturnF, m_kDk, m_kDv, m_SSet, m_iRvR, m_At, m_Fst, m_kFs, m_Meth, m_kMe2, m_kMe3, m_Make, m_kMk1, m_kMade, m_ltI, m_geI, m_geP, m_isNotB, m_Get1, m_Get2, m_kGet2, m_Setd, m_kSd2, m_rg2, m_kRg2a, m_kRg2b, List.getElem?_cons_zero, List.getElem?_cons_succ, List.set_cons_zero, List.set_cons_succ, List.length_cons, List.length_nil, Nat.zero_add, Nat.reduceAdd, Nat.reduceLeDiff, Bool.not_true, Bool.not_false, mb_reached_7, mb_reached_6, mb_reached_5, mb_reached_4, mb_reached_3, mb_reached_2, if_true]
        refine r_setD eF3 rfl (by rw [List.length_map, sizeLine_eq]; omega) (keys_put hk) ?_
        walk_at "m_reached"
        generalize hG4 : updO G3 F (.dct ((ks ++ [k]).map fun k => ((Sum.inl k : Key), Wv.bl true))) = G4
        have ex4 : Ext G G4 := by rw [← hG4]; exact ex3.put nF
        have eF4 : G4 F = some (.dct ((ks ++ [k]).map fun k => (.inl k, .bl true))) := by rw [← hG4]; exact updO_same
        have eT4 : G4 Tp = some (.lst (ts'.map .int)) := by rw [← hG4, updO_ne nTF]; exact eT3
        obtain ⟨kvs, w1, w2, w3⟩ := wy
        have nd2 : (ks ++ [k]).Nodup := List.nodup_append.mpr ⟨nd, by simp, fun a ha b hb e => by cases List.mem_singleton.mp hb; exact hk (e ▸ ha)⟩
        have hkl2 : ks.length + 1 ≤ 120 := by
          have := nodup_range (n := 120) nd2 fun j hj => by
            rcases List.mem_append.mp hj with z | z
            · exact Reach.inR hL hn (i1 j z)
            · cases List.mem_singleton.mp z; exact Reach.inR hL hn rk
          simpa using this
        have fin : ∀ (l : Addr) (G5 : HW), Ext G4 G5 → G5 l = some (.lst ((nextL L up k).map .int)) → wExtend (.ref Tp) [.ref l] G5 (kEx (kLoop (endsW q x) (fun σ' G' => ∃ m', m' < m ∧ ∃ (o4 : Option Wv) (ks ts : List Int), σ' = [some (.ref D), some f, some (.ref F), some (.ref Tp), o4] ∧ Ext G G' ∧ G' F = some (.dct (ks.map fun k => (.inl k, .bl true))) ∧ G' Tp = some (.lst (ts.map .int)) ∧ ks.Nodup ∧ (∀ k ∈ ks, Reach L up ns k) ∧ (∀ k ∈ ts, Reach L up ns k) ∧ (∀ k ∈ ns, k ∈ ks ∨ k ∈ ts) ∧
            (∀ a b, a ∈ ks → Step L up a b → b ∈ ks ∨ b ∈ ts) ∧ m' = (121 - ks.length) * (L.length + 1) + ts.length ∧ m' ≤ 121 * (L.length + 1) + 120)) [some (.ref D), some f, some (.ref F), some (.ref Tp), some (.int k)]) := fun l G5 ex5 el => by
          have nlen := next_len L up k
          have lt : (ts' ++ [k]).length = ts'.length + 1 := by simp
          have mul : (121 - ks.length) * (L.length + 1) = (121 - (ks.length + 1)) * (L.length + 1) + (L.length + 1) := by
            rw [show 121 - ks.length = (121 - (ks.length + 1)) + 1 from by omega, Nat.add_mul, Nat.one_mul]
          refine ⟨_, _, ex5 _ _ eT4, el, by rw [List.length_map, List.length_map, sizeLine_eq]; rw [lt] at htl; omega, ?_⟩
          rw [← List.map_append]
          have lk : (ks ++ [k]).length = ks.length + 1 := by simp
          refine ⟨(121 - (ks ++ [k]).length) * (L.length + 1) + (ts' ++ nextL L up k).length, ?_, _, ks ++ [k], ts' ++ nextL L up k, rfl, (ex4.trans ex5).put nT, by rw [updO_ne nTF.symm]; exact ex5 _ _ eF4, updO_same, nd2, fun j hj => ?_, fun j hj => ?_, fun j hj => ?_, fun a b ha s => ?_, rfl, ?_⟩
          · rw [em, lk, List.length_append, lt, mul]; omega
          · rcases List.mem_append.mp hj with z | z
            · exact i1 j z
            · cases List.mem_singleton.mp z; exact rk
          · rcases List.mem_append.mp hj with z | z
            · exact i2 j (by simp [z])
            · exact .go rk (next_mem.mp z)
          · rcases i3 j hj with z | z
            · exact .inl (by simp [z])
            · rcases List.mem_append.mp z with z | z
              · exact .inr (by simp [z])
              · cases List.mem_singleton.mp z; exact .inl (by simp)
          · rcases List.mem_append.mp ha with z | z
            · rcases i4 a b z s with u | u
              · exact .inl (by simp [u])
              · rcases List.mem_append.mp u with u | u
                · exact .inr (by simp [u])
                · cases List.mem_singleton.mp u; exact .inl (by simp)
            · cases List.mem_singleton.mp z
              exact .inr (List.mem_append_right _ (next_mem.mpr s))
          · rw [em, lt, mul] at hm
            rw [lk, List.length_append]
            omega
        have eD4 : G4 D = some (.dct kvs) := ex4 _ _ w1
        refine r_M (.inl ⟨rfl, _, .inl eT4⟩) ?_
        walk_at "m_reached"
        refine r_getB (.inl ⟨kvs, eD4⟩) ?_
        walk_at "m_reached"
        refine r_lst' fun l1 hl1 => ?_
        have x1 := Ext.new (o := .lst []) hl1
        refine r_get2 (x1 _ _ eD4) rfl ?_
        rcases w3 k with ⟨z, nx⟩ | ⟨l, e1, e2⟩
        · rw [z]
          have := fin l1 _ x1 (by rw [nx]; exact updO_same)
          walk_at "m_reached"
          exact this
        · rw [e1]
          have := fin l _ x1 (x1 _ _ (ex4 _ _ e2))
          walk_at "m_reached"
          exact this
  rcases hf with rfl | ⟨p, rfl, ep⟩
  · walk_at "m_reached"
    refine r_listT fun Tp hT => ?_
    have nTF : Tp ≠ F := (ne_of_new (G := updO G F (.dct [])) updO_same hT).symm
    have := start Tp _ hF (xF.none hT) nTF (xF.trans (Ext.new hT)) (by rw [updO_ne nTF.symm]; exact updO_same) updO_same
    rw [mb_reached_2] at this
    walk_at "m_reached"
    simp only [m_V, m_kV, m_C, m_Op, m_kOp, m_kOp2, m_kBl, m_qOp, m_kCh2, m_kCh2f, m_kCh3, m_kCh1, m_kCh, m_Ch, m_qCh, m_oNone, m_oSome, m_kO, m_Sl, m_kSl, m_kSl1, m_kSl2, m_slT, m_qT, m_kTru, m_tB, m_tN, m_tI, m_tT, m_qA, m_qO, m_qN, m_kqAt, m_kqAf, m_kqOt, m_kqOf, m_kqN, m_qYes, m_A, m_Or, m_N, m_Neg, m_kAt, m_kAf, m_kOrt, m_kOrf, m_kN, m_kNeg, m_If, m_kIft, m_kIff, m_an, m_ac, m_kac, m_kac2, m_Tup, m_Lst, m_kTup, m_CB, m_kCB, m_pk1, m_pp, m_pkk, m_pd, m_pn, m_kX, m_Call, m_kC1, m_kC2, m_BM, m_BM0, m_kM1, m_Seq, m_Seq_nx, m_Seq_rt, m_Seq_bk, m_Seq_ct, m_Seq_ex, m_Next, m_Brk, m_Cont, m_Expr, m_kEx, m_Ret, m_RetN, m_SIf, m_kSIft, m_kSIff, m_Set, m_kSet, m_Par, m_kPar, m_Par3, m_kPar3, m_Asg, m_kAsg, m_gNm, m_kG, m_gNo, m_gMo, m_gTu, m_gSb, m_kGs, m_kGs2, m_kW2, m_Aug, m_kAug, m_kAu, m_kAu2, m_mk1, m_kMk, m_Raise, m_ends_rt, m_ends_ex, m_ends_nx, m_add, m_addB, m_sub, m_eqI, m_eqS, m_neI, m_neS, m_isB, m_isN, m_isNotN, m_nonN, m_nonR, m_nonT, m_nonI, m_nonS, m_nonB, m_lenT, m_lenK, m_tupT, m_max, m_min, m_intI, m_intB, m_pr0, m_pr, m_kpr, m_kpr2, m_Xf, m_Try, m_Try_nx, m_Try_rt, m_Try_bk, m_Try_ct, m_Try_ex, m_Suite_nx, m_Suite_rt, m_Suite_bk, m_Suite_ct, m_kXe, m_kXo, m_tlOf, m_For, m_Loop_nx, m_Loop_ct, m_Loop_bk, m_Loop_rt, m_Loop_ex, m_kB, m_iSeq, m_kItT, m_kItK, m_kItS, m_iRg1, m_iRg2, m_iEnu, m_kEnuK, m_iZp, m_kZpT, m_iRv, m_kRvT, m_Lc, m_kCell, m_kTurnT, m_kTurnF, m_wip0, m_wip1, m_Back, m_kBackT, m_rg1, m_kRgA, m_TupRg, m_LstRg, m_Dc, m_DturnT, m_DturnF, m_kDk, m_kDv, m_SSet, m_iRvR, m_At, m_Fst, m_kFs, m_Meth, m_kMe2, m_kMe3, m_Make, m_kMk1, m_kMade, m_ltI, m_geI, m_geP, m_isNotB, m_Get1, m_Get2, m_kGet2, m_Setd, m_kSd2, m_rg2, m_kRg2a, m_kRg2b, List.getElem?_cons_zero, List.getElem?_cons_succ, List.set_cons_zero, List.set_cons_succ, List.length_cons, List.length_nil, Nat.zero_add, Nat.reduceAdd, Nat.reduceLeDiff, Bool.not_true, Bool.not_false, mb_reached_7, mb_reached_6, mb_reached_5, mb_reached_4, mb_reached_3, mb_reached_2] at this
    exact this
  · walk_at "m_reached"
    refine r_listL (.inl (xF _ _ ep)) fun Tp hT => ?_
    have nTF : Tp ≠ F := (ne_of_new (G := updO G F (.dct [])) updO_same hT).symm
    have := start Tp _ hF (xF.none hT) nTF (xF.trans (Ext.new hT)) (by rw [updO_ne nTF.symm]; exact updO_same) updO_same
    rw [mb_reached_2] at this
    walk_at "m_reached"
    simp only [m_V, m_kV, m_C, m_Op, m_kOp, m_kOp2, m_kBl, m_qOp, m_kCh2, m_kCh2f, m_kCh3, m_kCh1, m_kCh, m_Ch, m_qCh, m_oNone, m_oSome, m_kO, m_Sl, m_kSl, m_kSl1, m_kSl2, m_slT, m_qT, m_kTru, m_tB, m_tN, m_tI, m_tT, m_qA, m_qO, m_qN, m_kqAt, m_kqAf, m_kqOt, m_kqOf, m_kqN, m_qYes, m_A, m_Or, m_N, m_Neg, m_kAt, m_kAf, m_kOrt, m_kOrf, m_kN, m_kNeg, m_If, m_kIft, m_kIff, m_an, m_ac, m_kac, m_kac2, m_Tup, m_Lst, m_kTup, m_CB, m_kCB, m_pk1, m_pp, m_pkk, m_pd, m_pn, m_kX, m_Call, m_kC1, m_kC2, m_BM, m_BM0, m_kM1, m_Seq, m_Seq_nx, m_Seq_rt, m_Seq_bk, m_Seq_ct, m_Seq_ex, m_Next, m_Brk, m_Cont, m_Expr, m_kEx, m_Ret, m_RetN, m_SIf, m_kSIft, m_kSIff, m_Set, m_kSet, m_Par, m_kPar, m_Par3, m_kPar3, m_Asg, m_kAsg, m_gNm, m_kG, m_gNo, m_gMo, m_gTu, m_gSb, m_kGs, m_kGs2, m_kW2, m_Aug, m_kAug, m_kAu, m_kAu2, m_mk1, m_kMk, m_Raise, m_ends_rt, m_ends_ex, m_ends_nx, m_add, m_addB, m_sub, m_eqI, m_eqS, m_neI, m_neS, m_isB, m_isN, m_isNotN, m_nonN, m_nonR, m_nonT, m_nonI, m_nonS, m_nonB, m_lenT, m_lenK, m_tupT, m_max, m_min, m_intI, m_intB, m_pr0, m_pr, m_kpr, m_kpr2, m_Xf, m_Try, m_Try_nx, m_Try_rt, m_Try_bk, m_Try_ct, m_Try_ex, m_Suite_nx, m_Suite_rt, m_Suite_bk, m_Suite_ct, m_kXe, m_kXo, m_tlOf, m_For, m_Loop_nx, m_Loop_ct, m_Loop_bk, m_Loop_rt, m_Loop_ex, m_kB, m_iSeq, m_kItT, m_kItK, m_kItS, m_iRg1, m_iRg2, m_iEnu, m_kEnuK, m_iZp, m_kZpT, m_iRv, m_kRvT, m_Lc, m_kCell, m_kTurnT, m_kTurnF, m_wip0, m_wip1, m_Back, m_kBackT, m_rg1, m_kRgA, m_TupRg, m_LstRg, m_Dc, m_DturnT, m_DturnF, m_kDk, m_kDv, m_SSet, m_iRvR, m_At, m_Fst, m_kFs, m_Meth, m_kMe2, m_kMe3, m_Make, m_kMk1, m_kMade, m_ltI, m_geI, m_geP, m_isNotB, m_Get1, m_Get2, m_kGet2, m_Setd, m_kSd2, m_rg2, m_kRg2a, m_kRg2b, List.getElem?_cons_zero, List.getElem?_cons_succ, List.set_cons_zero, List.set_cons_succ, List.length_cons, List.length_nil, Nat.zero_add, Nat.reduceAdd, Nat.reduceLeDiff, Bool.not_true, Bool.not_false, mb_reached_7, mb_reached_6, mb_reached_5, mb_reached_4, mb_reached_3, mb_reached_2] at this
    exact this
set_option maxHeartbeats 0 in
theorem ok_reached {P : Program} {w : World} {K : PySem.W.Frag} {mg : Str → Option Value} {base : Heap} (T : Txt K mg) : FnW P w K mg base 1 T.f_reached T.fd_reached ["ways", "firsts"] (sp_reached T) :=
  fnW_of (t := t_reached T) T.F_reached sc_reached (len_reached T) (fun cdv A outer s H E hr => (zs_cons (z_par (i := 2) (j := 3) rfl sc_reached.nd rfl rfl (by decide) rfl rfl (z_acons (z_dnew) (z_acons (z_callT w_list rfl T.n_list boot_list (z_acons (z_var (i := 1) rfl (by first | exact .inl rfl | exact .inr (.inl rfl) | exact .inr (.inr rfl))) (z_anil))) (z_anil))) rfl) (zs_cons (z_while (passes_of rfl) (z_qcmp (w_ne (hr).un) (z_var (i := 3) rfl (by first | exact .inl rfl | exact .inr (.inl rfl) | exact .inr (.inr rfl))) (z_lst (z_anil)) (by rfl)) (zs_cons (z_set (i := 4) sc_reached.nd rfl (by first | exact .inl rfl | exact .inr rfl) (z_bm0 PySem.F.plainAttrs_list PySem.F.slot_list_pop PySem.F.type_list_pop w_pop (z_var (i := 3) rfl (by first | exact .inl rfl | exact .inr (.inl rfl) | exact .inr (.inr rfl))))) (zs_one (z_if (z_qcmp (w_notinA (hr).un65) (z_var (i := 4) rfl (by first | exact .inl rfl | exact .inr (.inl rfl) | exact .inr (.inr rfl))) (z_var (i := 2) rfl (by first | exact .inl rfl | exact .inr (.inl rfl) | exact .inr (.inr rfl))) (by rfl)) (zs_cons (z_asg (z_bl) (zg_sub (hr).un (z_var (i := 2) rfl (by first | exact .inl rfl | exact .inr (.inl rfl) | exact .inr (.inr rfl))) (z_var (i := 4) rfl (by first | exact .inl rfl | exact .inr (.inl rfl) | exact .inr (.inr rfl))) (fun _ => rfl))) (zs_one (z_expr (z_bm PySem.F.plainAttrs_list PySem.F.slot_list_extend PySem.F.type_list_extend w_extend (z_var (i := 3) rfl (by first | exact .inl rfl | exact .inr (.inl rfl) | exact .inr (.inr rfl))) (z_acons (z_get2 (hr).un (z_var (i := 0) rfl (by first | exact .inl rfl | exact .inr (.inl rfl) | exact .inr (.inr rfl))) (z_var (i := 4) rfl (by first | exact .inl rfl | exact .inr (.inl rfl) | exact .inr (.inr rfl))) (z_lst (z_anil)) ⟨rfl, rfl, rfl, rfl⟩) (z_anil)))))) (zs_nil))))) (zs_one (z_ret (z_var (i := 2) rfl (by first | exact .inl rfl | exact .inr (.inl rfl) | exact .inr (.inr rfl)))))))) (pf_reached T)

/-! ### ways_of_links -/
theorem sc_ways_of_links : FnScope ["links", "up", "found", "one", "other", "start", "end"] ["links", "up"] (defScope s_ways_of_links) := ⟨rfl, rfl, rfl, by decide +kernel, rfl, by decide +kernel, by decide +kernel⟩
def sp_ways_of_links {K : PySem.W.Frag} {mg : Str → Option Value} (T : Txt K mg) : SpW := SpWays
theorem len_ways_of_links {K : PySem.W.Frag} {mg : Str → Option Value} (T : Txt K mg) (ws : List Wv) (G : HW) (q : WK) (x : XE) (h : sp_ways_of_links T ws G q x) : ws.length = 2 := by
  obtain ⟨L, up, rfl, _⟩ := h
  rfl
/-- the table of ways under way: its lists stand apart -/
def WaysG (G0 G : HW) (D : Addr) (L : Lk) (up : Bool) : Prop := ∃ kvs : List (Key × Wv), G D = some (.dct kvs) ∧ kvs.length ≤ L.length ∧ (∀ k : Int, (lkW kvs (.inl k) = none ∧ nextL L up k = []) ∨ ∃ l, lkW kvs (.inl k) = some (.ref l) ∧ G0 l = none ∧ l ≠ D ∧ G l = some (.lst ((nextL L up k).map .int))) ∧
  ∀ k j : Int, k ≠ j → ∀ l m, lkW kvs (.inl k) = some (.ref l) → lkW kvs (.inl j) = some (.ref m) → l ≠ m
theorem WaysG.ways {G0 G : HW} {D : Addr} {L : Lk} {up : Bool} (h : WaysG G0 G D L up) : Ways G D L up := by
  obtain ⟨kvs, h1, h2, h3, _⟩ := h
  exact ⟨kvs, h1, h2, fun k => (h3 k).imp (fun z => z) fun ⟨l, a, _, _, b⟩ => ⟨l, a, b⟩⟩
theorem next_snoc {L : Lk} {up : Bool} {p : Int × Int} {k : Int} : nextL (L ++ [p]) up k = nextL L up k ++ (if (if up then p.1 else p.2) = k then [if up then p.2 else p.1] else []) := by
  unfold nextL
  rw [List.filterMap_append]
  congr 1
  cases up <;> simp only [if_true, Bool.false_eq_true, if_false, List.filterMap_cons, List.filterMap_nil]
  · by_cases h : p.2 = k <;> simp [h]
  · by_cases h : p.1 = k <;> simp [h]
/-- one link more -/
theorem WaysG.next {G0 G G2 : HW} {D : Addr} {L : Lk} {up : Bool} {p : Int × Int} {l : Addr} {us : List Wv} {kvs kvs' : List (Key × Wv)} (s e : Int) (hs : s = if up then p.1 else p.2) (he : e = if up then p.2 else p.1) (h1 : G D = some (.dct kvs)) (h2 : kvs.length ≤ L.length)
    (h3 : ∀ k : Int, (lkW kvs (.inl k) = none ∧ nextL L up k = []) ∨ ∃ l, lkW kvs (.inl k) = some (.ref l) ∧ G0 l = none ∧ l ≠ D ∧ G l = some (.lst ((nextL L up k).map .int)))
    (h4 : ∀ k j : Int, k ≠ j → ∀ l m, lkW kvs (.inl k) = some (.ref l) → lkW kvs (.inl j) = some (.ref m) → l ≠ m)
    (hl : lkW kvs' (.inl s) = some (.ref l)) (ho : ∀ k : Int, k ≠ s → lkW kvs' (.inl k) = lkW kvs (.inl k)) (hz : kvs'.length ≤ L.length + 1) (hd : ∀ k m, k ≠ s → lkW kvs (.inl k) = some (.ref m) → m ≠ l) (n0 : G0 l = none) (nD : l ≠ D) (hu : us = (nextL L up s).map .int)
    (hG : G2 = updO (updO G D (.dct kvs')) l (.lst (us ++ [.int e]))) : WaysG G0 G2 D (L ++ [p]) up := by
  subst hG
  refine ⟨kvs', by rw [updO_ne nD.symm]; exact updO_same, by rw [List.length_append]; exact hz, fun k => ?_, fun k j hkj a b ha hb => ?_⟩
  · rw [next_snoc, ← hs, ← he]
    by_cases hk : s = k
    · subst hk
      rw [if_pos rfl]
      refine .inr ⟨l, hl, n0, nD, ?_⟩
      rw [updO_same, hu, List.map_append]
      rfl
    · rw [if_neg hk, List.append_nil]
      have hk' : k ≠ s := fun z => hk z.symm
      rw [ho k hk']
      rcases h3 k with z | ⟨m, e1, e2, e3, e4⟩
      · exact .inl z
      · refine .inr ⟨m, e1, e2, e3, ?_⟩
        rw [updO_ne (hd k m hk' e1), updO_ne e3]
        exact e4
  · by_cases hk : k = s
    · subst hk
      have hj : j ≠ k := fun z => hkj z.symm
      rw [hl] at ha
      rw [ho j hj] at hb
      have := hd j b hj hb
      cases ha
      exact fun z => this z.symm
    · rw [ho k hk] at ha
      by_cases hj : j = s
      · subst hj
        rw [hl] at hb
        cases hb
        exact hd k a hk ha
      · rw [ho j hj] at hb
        exact h4 k j hkj a b ha hb
def b_ways_of_links_5 {K : PySem.W.Frag} {mg : Str → Option Value} (T : Txt K mg) : ST := sRet (eV 2)
theorem mb_ways_of_links_5 {K : PySem.W.Frag} {mg : Str → Option Value} (T : Txt K mg) (D : EndsW) (σ : SW) (G : HW) : b_ways_of_links_5 T D σ G = (sRet (eV 2)) D σ G := rfl
def b_ways_of_links_4 {K : PySem.W.Frag} {mg : Str → Option Value} (T : Txt K mg) : ST := sExpr (eBM "list" wAppend (eSetd (eV 2) (eV 5) (eLst (aNil))) (aCons (eV 6) (aNil)))
theorem mb_ways_of_links_4 {K : PySem.W.Frag} {mg : Str → Option Value} (T : Txt K mg) (D : EndsW) (σ : SW) (G : HW) : b_ways_of_links_4 T D σ G = (sExpr (eBM "list" wAppend (eSetd (eV 2) (eV 5) (eLst (aNil))) (aCons (eV 6) (aNil)))) D σ G := rfl
def b_ways_of_links_3 {K : PySem.W.Frag} {mg : Str → Option Value} (T : Txt K mg) : ST := sSeq (sAsg (eIf (qTru (eV 1)) (eTup (aCons (eV 3) (aCons (eV 4) (aNil)))) (eTup (aCons (eV 4) (aCons (eV 3) (aNil))))) (gTu 2 (gMo (gNm 5) (gMo (gNm 6) (gNo))))) (b_ways_of_links_4 T)
theorem mb_ways_of_links_3 {K : PySem.W.Frag} {mg : Str → Option Value} (T : Txt K mg) (D : EndsW) (σ : SW) (G : HW) : b_ways_of_links_3 T D σ G = (sSeq (sAsg (eIf (qTru (eV 1)) (eTup (aCons (eV 3) (aCons (eV 4) (aNil)))) (eTup (aCons (eV 4) (aCons (eV 3) (aNil))))) (gTu 2 (gMo (gNm 5) (gMo (gNm 6) (gNo))))) (b_ways_of_links_4 T)) D σ G := rfl
def b_ways_of_links_2 {K : PySem.W.Frag} {mg : Str → Option Value} (T : Txt K mg) : ST := sSeq (sFor (iSeq (eV 0)) (gTu 2 (gMo (gNm 3) (gMo (gNm 4) (gNo)))) (b_ways_of_links_3 T)) (b_ways_of_links_5 T)
theorem mb_ways_of_links_2 {K : PySem.W.Frag} {mg : Str → Option Value} (T : Txt K mg) (D : EndsW) (σ : SW) (G : HW) : b_ways_of_links_2 T D σ G = (sSeq (sFor (iSeq (eV 0)) (gTu 2 (gMo (gNm 3) (gMo (gNm 4) (gNo)))) (b_ways_of_links_3 T)) (b_ways_of_links_5 T)) D σ G := rfl
def t_ways_of_links {K : PySem.W.Frag} {mg : Str → Option Value} (T : Txt K mg) : ST := sSeq (sSet 2 (eDnew)) (b_ways_of_links_2 T)
local macro_rules | `(tactic| walk_at "m_ways_of_links") => `(tactic| simp only [m_V, m_kV, m_C, m_Op, m_kOp, m_kOp2, m_kBl, m_qOp, m_kCh2, m_kCh2f, m_kCh3, m_kCh1, m_kCh, m_Ch, m_qCh, m_oNone, m_oSome, m_kO, m_Sl, m_kSl, m_kSl1, m_kSl2, m_slT, m_qT, m_kTru, m_tB, m_tN, m_tI, m_tT, m_qA, m_qO, m_qN, m_kqAt, m_kqAf, m_kqOt, m_kqOf, m_kqN, m_qYes, m_A, m_Or, m_N, m_Neg, m_kAt, m_kAf, m_kOrt, m_kOrf, m_kN, m_kNeg, m_If, m_kIft, m_kIff, m_an, m_ac, m_kac, m_kac2, m_Tup, m_Lst, m_kTup, m_CB, m_kCB, m_pk1, m_pp, m_pkk, m_pd, m_pn, m_kX, m_Call, m_kC1, m_kC2, m_BM, m_BM0, m_kM1, m_Seq, m_Seq_nx, m_Seq_rt, m_Seq_bk, m_Seq_ct, m_Seq_ex, m_Next, m_Brk, m_Cont, m_Expr, m_kEx, m_Ret, m_RetN, m_SIf, m_kSIft, m_kSIff, m_Set, m_kSet, m_Par, m_kPar, m_Par3, m_kPar3, m_Asg, m_kAsg, m_gNm, m_kG, m_gNo, m_gMo, m_gTu, m_gSb, m_kGs, m_kGs2, m_kW2, m_Aug, m_kAug, m_kAu, m_kAu2, m_mk1, m_kMk, m_Raise, m_ends_rt, m_ends_ex, m_ends_nx, m_add, m_addB, m_sub, m_eqI, m_eqS, m_neI, m_neS, m_isB, m_isN, m_isNotN, m_nonN, m_nonR, m_nonT, m_nonI, m_nonS, m_nonB, m_lenT, m_lenK, m_tupT, m_max, m_min, m_intI, m_intB, m_pr0, m_pr, m_kpr, m_kpr2, m_Xf, m_Try, m_Try_nx, m_Try_rt, m_Try_bk, m_Try_ct, m_Try_ex, m_Suite_nx, m_Suite_rt, m_Suite_bk, m_Suite_ct, m_kXe, m_kXo, m_tlOf, m_For, m_Loop_nx, m_Loop_ct, m_Loop_bk, m_Loop_rt, m_Loop_ex, m_kB, m_iSeq, m_kItT, m_kItK, m_kItS, m_iRg1, m_iRg2, m_iEnu, m_kEnuK, m_iZp, m_kZpT, m_iRv, m_kRvT, m_Lc, m_kCell, m_kTurnT, m_kTurnF, m_wip0, m_wip1, m_Back, m_kBackT, m_rg1, m_kRgA, m_TupRg, m_LstRg, m_Dc, m_DturnT, m_DturnF, m_kDk, m_kDv, m_SSet, m_iRvR, m_At, m_Fst, m_kFs, m_Meth, m_kMe2, m_kMe3, m_Make, m_kMk1, m_kMade, m_ltI, m_geI, m_geP, m_isNotB, m_Get1, m_Get2, m_kGet2, m_Setd, m_kSd2, m_rg2, m_kRg2a, m_kRg2b, List.getElem?_cons_zero, List.getElem?_cons_succ, List.set_cons_zero, List.set_cons_succ, List.length_cons, List.length_nil, Nat.zero_add, Nat.reduceAdd, Nat.reduceLeDiff, Bool.not_true, Bool.not_false, mb_ways_of_links_5, mb_ways_of_links_4, mb_ways_of_links_3, mb_ways_of_links_2])
theorem pf_ways_of_links {K : PySem.W.Frag} {mg : Str → Option Value} (T : Txt K mg) (ws : List Wv) (G : HW) (q : WK) (x : XE) (h : sp_ways_of_links T ws G q x) : t_ways_of_links T (endsW q x) (startW ["links", "up", "found", "one", "other", "start", "end"] ws) G := by
  obtain ⟨L, up, rfl, hl, hq⟩ := h
  show t_ways_of_links T (endsW q x) [some (.tup (L.map tup2)), some (.bl up), none, none, none, none, none] G
  unfold t_ways_of_links
  walk_at "m_ways_of_links"
  refine r_dnew fun D hD => ?_
  walk_at "m_ways_of_links"
  refine r_for (fun i σ G2 => ∃ o3 o4 o5 o6 : Option Wv, σ = [some (.tup (L.map tup2)), some (.bl up), some (.ref D), o3, o4, o5, o6] ∧ Ext G G2 ∧ WaysG G G2 D (L.take i) up)
    ⟨_, _, _, _, rfl, Ext.new hD, [], updO_same, Nat.le_refl _, fun k => .inl ⟨rfl, by simp [nextL]⟩, fun k j _ l m z => nomatch z⟩ (fun _ _ _ _ _ => trivial) ?_ ?_
  · rintro i w σ2 G2 ew ⟨o3, o4, o5, o6, rfl, ex, kvs, h1, h2, h3, h4⟩
    rw [List.getElem?_map] at ew
    cases ep : L[i]? with
    | none => rw [ep] at ew; cases ew
    | some p =>
    rw [ep] at ew
    cases ew
    have hi : i < L.length := by
      rcases Nat.lt_or_ge i L.length with z | z
      · exact z
      · rw [List.getElem?_eq_none z] at ep; cases ep
    have ht : L.take (i + 1) = L.take i ++ [p] := by
      rw [List.take_succ_eq_append_getElem hi]
      rw [List.getElem?_eq_getElem hi] at ep
      rw [Option.some.inj ep]
    have hlen : (L.take i).length = i := by rw [List.length_take]; omega
    rw [hlen] at h2
    have fin : ∀ s e : Int, s = (if up then p.1 else p.2) → e = (if up then p.2 else p.1) → ∀ o3 o4, b_ways_of_links_4 T (kLoop (kSeq (b_ways_of_links_5 T) (endsW q x)) (fun σ G2 => ∃ o3 o4 o5 o6 : Option Wv, σ = [some (.tup (L.map tup2)), some (.bl up), some (.ref D), o3, o4, o5, o6] ∧ Ext G G2 ∧ WaysG G G2 D (L.take (i + 1)) up)) [some (.tup (L.map tup2)), some (.bl up), some (.ref D), o3, o4, some (.int s), some (.int e)] G2 := fun s e hs he o3 o4 => by
      rw [mb_ways_of_links_4]
      walk_at "m_ways_of_links"
      refine r_sd (.inl ⟨kvs, h1⟩) ?_
      walk_at "m_ways_of_links"
      refine r_lst' fun l0 hl0 => ?_
      have x0 := Ext.new (o := .lst []) hl0
      have n0D : l0 ≠ D := (ne_of_new h1 hl0).symm
      refine r_setd (x0 _ _ h1) rfl (by rw [sizeLine_eq]; omega) (fun y hy => ?_) fun hn => ?_
      · rcases h3 s with ⟨z, _⟩ | ⟨l, e1, e2, e3, e4⟩
        · rw [z] at hy; cases hy
        · rw [e1] at hy
          cases hy
          refine r_M (.inl ⟨rfl, _, .inl (x0 _ _ e4)⟩) ?_
          walk_at "m_ways_of_links"
          refine r_app (x0 _ _ e4) (by rw [List.length_map, sizeLine_eq]; have := next_len (L.take i) up s; omega) ?_
          walk_at "m_ways_of_links"
          refine ⟨_, _, _, _, rfl, (ex.trans x0).put e2, ?_⟩
          rw [ht]
          have eG : updO (updO G2 l0 (.lst [])) D (.dct kvs) = updO G2 l0 (.lst []) := by
            funext b
            by_cases hb : b = D
            · subst hb; rw [updO_same, x0 _ _ h1]
            · rw [updO_ne hb]
          refine WaysG.next s e hs he (x0 _ _ h1) (by omega) (fun k => (h3 k).imp (fun z => z) fun ⟨m, a1, a2, a3, a4⟩ => ⟨m, a1, a2, a3, x0 _ _ a4⟩) h4 e1 (fun _ _ => rfl) (by omega) (fun k m hk hm => fun z => h4 k s hk m l hm e1 z) e2 e3 rfl ?_
          rw [eG]
      · rcases h3 s with ⟨_, z⟩ | ⟨l, e1, _⟩
        · have x1 : updO (updO G2 l0 (.lst [])) D (.dct (pkW kvs (.inl s) (.ref l0))) l0 = some (.lst []) := by rw [updO_ne n0D]; exact updO_same
          refine r_M (.inl ⟨rfl, _, .inl x1⟩) ?_
          walk_at "m_ways_of_links"
          refine r_app x1 few ?_
          walk_at "m_ways_of_links"
          refine ⟨_, _, _, _, rfl, ((ex.trans x0).put hD).put (ex.none hl0), ?_⟩
          rw [ht]
          have nl : ∀ k m, lkW kvs (.inl k) = some (.ref m) → m ≠ l0 := fun k m hm => by
            rcases h3 k with ⟨z, _⟩ | ⟨m', a1, _, _, a4⟩
            · rw [z] at hm; cases hm
            · rw [a1] at hm
              cases hm
              exact ne_of_new a4 hl0
          refine WaysG.next s e hs he (x0 _ _ h1) (by omega) (fun k => (h3 k).imp (fun z => z) fun ⟨m, a1, a2, a3, a4⟩ => ⟨m, a1, a2, a3, x0 _ _ a4⟩) h4 (by rw [lk_pk, if_pos rfl]) (fun k hk => by rw [lk_pk, if_neg (fun z => hk (Sum.inl.inj z))]) (by have := pkW_len kvs (.inl s) (.ref l0); omega) (fun k m _ hm => nl k m hm) (ex.none hl0) n0D (by rw [z]; rfl) rfl
        · rw [e1] at hn; cases hn
    unfold tup2
    walk_at "m_ways_of_links"
    cases up with
    | true =>
      walk_at "m_ways_of_links"
      have := fin p.1 p.2 rfl rfl (some (.int p.1)) (some (.int p.2))
      simp only [m_V, m_kV, m_C, m_Op, m_kOp, m_kOp2, m_kBl, m_qOp, m_kCh2, m_kCh2f, m_kCh3, m_kCh1, m_kCh, m_Ch, m_qCh, m_oNone, m_oSome, m_kO, m_Sl, m_kSl, m_kSl1, m_kSl2, m_slT, m_qT, m_kTru, m_tB, m_tN, m_tI, m_tT, m_qA, m_qO, m_qN, m_kqAt, m_kqAf, m_kqOt, m_kqOf, m_kqN, m_qYes, m_A, m_Or, m_N, m_Neg, m_kAt, m_kAf, m_kOrt, m_kOrf, m_kN, m_kNeg, m_If, m_kIft, m_kIff, m_an, m_ac, m_kac, m_kac2, m_Tup, m_Lst, m_kTup, m_CB, m_kCB, m_pk1, m_pp, m_pkk, m_pd, m_pn, m_kX, m_Call, m_kC1, m_kC2, m_BM, m_BM0, m_kM1, m_Seq, m_Seq_nx, m_Seq_rt, m_Seq_bk, m_Seq_ct, m_Seq_ex, m_Next, m_Brk, m_Cont, m_Expr, m_kEx, m_Ret, m_RetN, m_SIf, m_kSIft, m_kSIff, m_Set, m_kSet, m_Par, m_kPar, m_Par3, m_kPar3, m_Asg, m_kAsg, m_gNm, m_kG, m_gNo, m_gMo, m_gTu, m_gSb, m_kGs, m_kGs2, m_kW2, m_Aug, m_kAug, m_kAu, m_kAu2, m_mk1, m_kMk, m_Raise, m_ends_rt, m_ends_ex, m_ends_nx, m_add, m_addB, m_sub, m_eqI, m_eqS, m_neI, m_neS, m_isB, m_isN, m_isNotN, m_nonN, m_nonR, m_nonT, m_nonI, m_nonS, m_nonB, m_lenT, m_lenK, m_tupT, m_max, m_min, m_intI, m_intB, m_pr0, m_pr, m_kpr, m_kpr2, m_Xf, m_Try, m_Try_nx, m_Try_rt, m_Try_bk, m_Try_ct, m_Try_ex, m_Suite_nx, m_Suite_rt, m_Suite_bk, m_Suite_ct, m_kXe, m_kXo, m_tlOf, m_For, m_Loop_nx, m_Loop_ct, m_Loop_bk, m_Loop_rt, m_Loop_ex, m_kB, m_iSeq, m_kItT, m_kItK, m_kItS, m_iRg1, m_iRg2, m_iEnu, m_kEnuK, m_iZp, m_kZpT, m_iRv, m_kRvT, m_Lc, m_kCell, m_kTurnT, m_kTurnF, m_wip0, m_wip1, m_Back, m_kBackT, m_rg1, m_kRgA, m_TupRg, m_LstRg, m_Dc, m_DturnT, m_DturnF, m_kDk, m_kDv, m_SSet, m_iRvR, m_At, m_Fst, m_kFs, m_Meth, m_kMe2, m_kMe3, m_Make, m_kMk1, m_kMade, m_ltI, m_geI, m_geP, m_isNotB, m_Get1, m_Get2, m_kGet2, m_Setd, m_kSd2, m_rg2, m_kRg2a, m_kRg2b, List.getElem?_cons_zero, List.getElem?_cons_succ, List.set_cons_zero, List.set_cons_succ, List.length_cons, List.length_nil, Nat.zero_add, Nat.reduceAdd, Nat.reduceLeDiff, Bool.not_true, Bool.not_false, mb_ways_of_links_5, mb_ways_of_links_4, mb_ways_of_links_3, mb_ways_of_links_2] at this
      exact this
    | false =>
      walk_at "m_ways_of_links"
      have := fin p.2 p.1 rfl rfl (some (.int p.1)) (some (.int p.2))
      simp only [m_V, m_kV, m_C, m_Op, m_kOp, m_kOp2, m_kBl, m_qOp, m_kCh2, m_kCh2f, m_kCh3, m_kCh1, m_kCh, m_Ch, m_qCh, m_oNone, m_oSome, m_kO, m_Sl, m_kSl, m_kSl1, m_kSl2, m_slT, m_qT, m_kTru, m_tB, m_tN, m_tI, m_tT, m_qA, m_qO, m_qN, m_kqAt, m_kqAf, m_kqOt, m_kqOf, m_kqN, m_qYes, m_A, m_Or, m_N, m_Neg, m_kAt, m_kAf, m_kOrt, m_kOrf, m_kN, m_kNeg, m_If, m_kIft, m_kIff, m_an, m_ac, m_kac, m_kac2, m_Tup, m_Lst, m_kTup, m_CB, m_kCB, m_pk1, m_pp, m_pkk, m_pd, m_pn, m_kX, m_Call, m_kC1, m_kC2, m_BM, m_BM0, m_kM1, m_Seq, m_Seq_nx, m_Seq_rt, m_Seq_bk, m_Seq_ct, m_Seq_ex, m_Next, m_Brk, m_Cont, m_Expr, m_kEx, m_Ret, m_RetN, m_SIf, m_kSIft, m_kSIff, m_Set, m_kSet, m_Par, m_kPar, m_Par3, m_kPar3, m_Asg, m_kAsg, m_gNm, m_kG, m_gNo, m_gMo, m_gTu, m_gSb, m_kGs, m_kGs2, m_kW2, m_Aug, m_kAug, m_kAu, m_kAu2, m_mk1, m_kMk, m_Raise, m_ends_rt, m_ends_ex, m_ends_nx, m_add, m_addB, m_sub, m_eqI, m_eqS, m_neI, m_neS, m_isB, m_isN, m_isNotN, m_nonN, m_nonR, m_nonT, m_nonI, m_nonS, m_nonB, m_lenT, m_lenK, m_tupT, m_max, m_min, m_intI, m_intB, m_pr0, m_pr, m_kpr, m_kpr2, m_Xf, m_Try, m_Try_nx, m_Try_rt, m_Try_bk, m_Try_ct, m_Try_ex, m_Suite_nx, m_Suite_rt, m_Suite_bk, m_Suite_ct, m_kXe, m_kXo, m_tlOf, m_For, m_Loop_nx, m_Loop_ct, m_Loop_bk, m_Loop_rt, m_Loop_ex, m_kB, m_iSeq, m_kItT, m_kItK, m_kItS, m_iRg1, m_iRg2, m_iEnu, m_kEnuK, m_iZp, m_kZpT, m_iRv, m_kRvT, m_Lc, m_kCell, m_kTurnT, m_kTurnF, m_wip0, m_wip1, m_Back, m_kBackT, m_rg1, m_kRgA, m_TupRg, m_LstRg, m_Dc, m_DturnT, m_DturnF, m_kDk, m_kDv, m_SSet, m_iRvR, m_At, m_Fst, m_kFs, m_Meth, m_kMe2, m_kMe3, m_Make, m_kMk1, m_kMade, m_ltI, m_geI, m_geP, m_isNotB, m_Get1, m_Get2, m_kGet2, m_Setd, m_kSd2, m_rg2, m_kRg2a, m_kRg2b, List.getElem?_cons_zero, List.getElem?_cons_succ, List.set_cons_zero, List.set_cons_succ, List.length_cons, List.length_nil, Nat.zero_add, Nat.reduceAdd, Nat.reduceLeDiff, Bool.not_true, Bool.not_false, mb_ways_of_links_5, mb_ways_of_links_4, mb_ways_of_links_3, mb_ways_of_links_2] at this
      exact this
  · rintro σ2 G2 ⟨o3, o4, o5, o6, rfl, ex, wy⟩
    rw [List.length_map, List.take_length] at wy
    walk_at "m_ways_of_links"
    exact hq D G2 hD ex wy.ways
set_option maxHeartbeats 0 in
theorem ok_ways_of_links {P : Program} {w : World} {K : PySem.W.Frag} {mg : Str → Option Value} {base : Heap} (T : Txt K mg) : FnW P w K mg base 1 T.f_ways_of_links T.fd_ways_of_links ["links", "up"] (sp_ways_of_links T) :=
  fnW_of (t := t_ways_of_links T) T.F_ways_of_links sc_ways_of_links (len_ways_of_links T) (fun cdv A outer s H E hr => (zs_cons (z_set (i := 2) sc_ways_of_links.nd rfl (by first | exact .inl rfl | exact .inr rfl) (z_dnew)) (zs_cons (z_for (passes_of rfl) rfl (zi_seq (z_var (i := 0) rfl (by first | exact .inl rfl | exact .inr (.inl rfl) | exact .inr (.inr rfl)))) (zg_tup rfl (zg_cons (zg_name (i := 3) sc_ways_of_links.nd rfl (by first | exact .inl rfl | exact .inr rfl)) (zg_cons (zg_name (i := 4) sc_ways_of_links.nd rfl (by first | exact .inl rfl | exact .inr rfl)) (zg_nil)))) (zs_cons (z_asg (z_ifx (z_q (z_var (i := 1) rfl (by first | exact .inl rfl | exact .inr (.inl rfl) | exact .inr (.inr rfl)))) (z_tup (z_acons (z_var (i := 3) rfl (by first | exact .inl rfl | exact .inr (.inl rfl) | exact .inr (.inr rfl))) (z_acons (z_var (i := 4) rfl (by first | exact .inl rfl | exact .inr (.inl rfl) | exact .inr (.inr rfl))) (z_anil)))) (z_tup (z_acons (z_var (i := 4) rfl (by first | exact .inl rfl | exact .inr (.inl rfl) | exact .inr (.inr rfl))) (z_acons (z_var (i := 3) rfl (by first | exact .inl rfl | exact .inr (.inl rfl) | exact .inr (.inr rfl))) (z_anil))))) (zg_tup rfl (zg_cons (zg_name (i := 5) sc_ways_of_links.nd rfl (by first | exact .inl rfl | exact .inr rfl)) (zg_cons (zg_name (i := 6) sc_ways_of_links.nd rfl (by first | exact .inl rfl | exact .inr rfl)) (zg_nil))))) (zs_one (z_expr (z_bm PySem.F.plainAttrs_list PySem.F.slot_list_append PySem.F.type_list_append w_append (z_setd (z_var (i := 2) rfl (by first | exact .inl rfl | exact .inr (.inl rfl) | exact .inr (.inr rfl))) (z_var (i := 5) rfl (by first | exact .inl rfl | exact .inr (.inl rfl) | exact .inr (.inr rfl))) (z_lst (z_anil)) ⟨rfl, rfl, rfl, rfl⟩) (z_acons (z_var (i := 6) rfl (by first | exact .inl rfl | exact .inr (.inl rfl) | exact .inr (.inr rfl))) (z_anil))))))) (zs_one (z_ret (z_var (i := 2) rfl (by first | exact .inl rfl | exact .inr (.inl rfl) | exact .inr (.inr rfl)))))))) (pf_ways_of_links T)

/-! ### is_whole -/
theorem sc_is_whole : FnScope ["thing", "least", "most"] ["thing", "least", "most"] (defScope s_is_whole) := ⟨rfl, rfl, rfl, by decide +kernel, rfl, by decide +kernel, by decide +kernel⟩
def sp_is_whole {K : PySem.W.Frag} {mg : Str → Option Value} (T : Txt K mg) : SpW := SpWhole K
theorem len_is_whole {K : PySem.W.Frag} {mg : Str → Option Value} (T : Txt K mg) (ws : List Wv) (G : HW) (q : WK) (x : XE) (h : sp_is_whole T ws G q x) : ws.length = 3 := by
  obtain ⟨w, lo, hi, rfl, _⟩ := h
  rfl
def t_is_whole {K : PySem.W.Frag} {mg : Str → Option Value} (T : Txt K mg) : ST := sRet (eAnd (eCB (wIsi K) (aCons (eV 0) (aCons (eC (.ty "int")) (aNil)))) (eAnd (eNot (eCB (wIsi K) (aCons (eV 0) (aCons (eC (.ty "bool")) (aNil))))) (eChain oLe oLe (eV 1) (eV 0) (eV 2))))
local macro_rules | `(tactic| walk_at "m_is_whole") => `(tactic| simp only [m_V, m_kV, m_C, m_Op, m_kOp, m_kOp2, m_kBl, m_qOp, m_kCh2, m_kCh2f, m_kCh3, m_kCh1, m_kCh, m_Ch, m_qCh, m_oNone, m_oSome, m_kO, m_Sl, m_kSl, m_kSl1, m_kSl2, m_slT, m_qT, m_kTru, m_tB, m_tN, m_tI, m_tT, m_qA, m_qO, m_qN, m_kqAt, m_kqAf, m_kqOt, m_kqOf, m_kqN, m_qYes, m_A, m_Or, m_N, m_Neg, m_kAt, m_kAf, m_kOrt, m_kOrf, m_kN, m_kNeg, m_If, m_kIft, m_kIff, m_an, m_ac, m_kac, m_kac2, m_Tup, m_Lst, m_kTup, m_CB, m_kCB, m_pk1, m_pp, m_pkk, m_pd, m_pn, m_kX, m_Call, m_kC1, m_kC2, m_BM, m_BM0, m_kM1, m_Seq, m_Seq_nx, m_Seq_rt, m_Seq_bk, m_Seq_ct, m_Seq_ex, m_Next, m_Brk, m_Cont, m_Expr, m_kEx, m_Ret, m_RetN, m_SIf, m_kSIft, m_kSIff, m_Set, m_kSet, m_Par, m_kPar, m_Par3, m_kPar3, m_Asg, m_kAsg, m_gNm, m_kG, m_gNo, m_gMo, m_gTu, m_gSb, m_kGs, m_kGs2, m_kW2, m_Aug, m_kAug, m_kAu, m_kAu2, m_mk1, m_kMk, m_Raise, m_ends_rt, m_ends_ex, m_ends_nx, m_add, m_addB, m_sub, m_eqI, m_eqS, m_neI, m_neS, m_isB, m_isN, m_isNotN, m_nonN, m_nonR, m_nonT, m_nonI, m_nonS, m_nonB, m_lenT, m_lenK, m_tupT, m_max, m_min, m_intI, m_intB, m_pr0, m_pr, m_kpr, m_kpr2, m_Xf, m_Try, m_Try_nx, m_Try_rt, m_Try_bk, m_Try_ct, m_Try_ex, m_Suite_nx, m_Suite_rt, m_Suite_bk, m_Suite_ct, m_kXe, m_kXo, m_tlOf, m_For, m_Loop_nx, m_Loop_ct, m_Loop_bk, m_Loop_rt, m_Loop_ex, m_kB, m_iSeq, m_kItT, m_kItK, m_kItS, m_iRg1, m_iRg2, m_iEnu, m_kEnuK, m_iZp, m_kZpT, m_iRv, m_kRvT, m_Lc, m_kCell, m_kTurnT, m_kTurnF, m_wip0, m_wip1, m_Back, m_kBackT, m_rg1, m_kRgA, m_TupRg, m_LstRg, m_Dc, m_DturnT, m_DturnF, m_kDk, m_kDv, m_SSet, m_iRvR, m_At, m_Fst, m_kFs, m_Meth, m_kMe2, m_kMe3, m_Make, m_kMk1, m_kMade, m_ltI, m_geI, m_geP, m_isNotB, m_Get1, m_Get2, m_kGet2, m_Setd, m_kSd2, m_rg2, m_kRg2a, m_kRg2b, List.getElem?_cons_zero, List.getElem?_cons_succ, List.set_cons_zero, List.set_cons_succ, List.length_cons, List.length_nil, Nat.zero_add, Nat.reduceAdd, Nat.reduceLeDiff, Bool.not_true, Bool.not_false])
theorem pf_is_whole {K : PySem.W.Frag} {mg : Str → Option Value} (T : Txt K mg) (ws : List Wv) (G : HW) (q : WK) (x : XE) (h : sp_is_whole T ws G q x) : t_is_whole T (endsW q x) (startW ["thing", "least", "most"] ws) G := by
  obtain ⟨w, lo, hi, rfl, kw, hq⟩ := h
  show t_is_whole T (endsW q x) [some (w), some (.int lo), some (.int hi)] G
  unfold t_is_whole
  walk_at "m_is_whole"
  refine r_ty kw.i ?_
  cases w <;> simp only [isI] <;> walk_at "m_is_whole" <;> try exact hq
  · refine r_ty kw.b ?_
    simp only [isBl]
    walk_at "m_is_whole"
    exact hq
  · refine r_ty kw.b ?_
    rename_i i
    simp only [isBl]
    walk_at "m_is_whole"
    simp only [isWh] at hq
    cases e1 : decide (lo ≤ i) <;> rw [e1] at hq <;> walk_at "m_is_whole" <;> exact hq
set_option maxHeartbeats 0 in
theorem ok_is_whole {P : Program} {w : World} {K : PySem.W.Frag} {mg : Str → Option Value} {base : Heap} (T : Txt K mg) : FnW P w K mg base 1 T.f_is_whole T.fd_is_whole ["thing", "least", "most"] (sp_is_whole T) :=
  fnW_of (t := t_is_whole T) T.F_is_whole sc_is_whole (len_is_whole T) (fun cdv A outer s H E hr => (zs_one (z_ret (z_vand (z_callB w_isi rfl T.n_isinstance boot_isinstance (z_acons (z_var (i := 0) rfl (by first | exact .inl rfl | exact .inr (.inl rfl) | exact .inr (.inr rfl))) (z_acons (z_bty rfl T.n_int boot_int) (z_anil)))) (z_vand (z_vnot (z_callB w_isi rfl T.n_isinstance boot_isinstance (z_acons (z_var (i := 0) rfl (by first | exact .inl rfl | exact .inr (.inl rfl) | exact .inr (.inr rfl))) (z_acons (z_bty rfl T.n_bool boot_bool) (z_anil))))) (z_vone (z_chain w_le w_le (z_var (i := 1) rfl (by first | exact .inl rfl | exact .inr (.inl rfl) | exact .inr (.inr rfl))) (z_var (i := 0) rfl (by first | exact .inl rfl | exact .inr (.inl rfl) | exact .inr (.inr rfl))) (z_var (i := 2) rfl (by first | exact .inl rfl | exact .inr (.inl rfl) | exact .inr (.inr rfl)))))))))) (pf_is_whole T)

/-! ### is_configuration -/
theorem sc_is_configuration : FnScope ["thing", "count", "one", "other"] ["thing", "count"] (defScope s_is_configuration) := ⟨rfl, rfl, rfl, by decide +kernel, rfl, by decide +kernel, by decide +kernel⟩
def sp_is_configuration {K : PySem.W.Frag} {mg : Str → Option Value} (T : Txt K mg) : SpW := SpConf K
theorem len_is_configuration {K : PySem.W.Frag} {mg : Str → Option Value} (T : Txt K mg) (ws : List Wv) (G : HW) (q : WK) (x : XE) (h : sp_is_configuration T ws G q x) : ws.length = 2 := by
  obtain ⟨w, n, rfl, _⟩ := h
  rfl
def b_is_configuration_3 {K : PySem.W.Frag} {mg : Str → Option Value} (T : Txt K mg) : ST := sRet (eCB wAll (aCons (eLc (iZp (aCons (eV 0) (aCons (eSl (eV 0) (oSome (eC (.int 1))) (oNone)) (aNil)))) [2, 3] [2, 3] (qYes) (eOp wLtA (eV 2) (eV 3))) (aNil)))
theorem mb_is_configuration_3 {K : PySem.W.Frag} {mg : Str → Option Value} (T : Txt K mg) (D : EndsW) (σ : SW) (G : HW) : b_is_configuration_3 T D σ G = (sRet (eCB wAll (aCons (eLc (iZp (aCons (eV 0) (aCons (eSl (eV 0) (oSome (eC (.int 1))) (oNone)) (aNil)))) [2, 3] [2, 3] (qYes) (eOp wLtA (eV 2) (eV 3))) (aNil)))) D σ G := rfl
def t_is_configuration {K : PySem.W.Frag} {mg : Str → Option Value} (T : Txt K mg) : ST := sSeq (sIf (qOr (qNot (qTru (eCB (wIsi K) (aCons (eV 0) (aCons (eC (.ty "tuple")) (aNil)))))) (qOr (qOp oGt (eCB wLen (aCons (eV 0) (aNil))) (eV 1)) (qNot (qTru (eCB wAll (aCons (eLc (iSeq (eV 0)) [2] [2] (qYes) (eCall 3 0 [.p 0, .p 1, .p 2] [] (sp_is_whole T) (aCons (eV 2) (aCons (eC (.int 0)) (aCons (eOp oSub (eV 1) (eC (.int 1))) (aNil)))) aNil)) (aNil))))))) (sRet (eC (.bl false))) (sNext)) (b_is_configuration_3 T)
local macro_rules | `(tactic| walk_at "m_is_configuration") => `(tactic| simp only [m_V, m_kV, m_C, m_Op, m_kOp, m_kOp2, m_kBl, m_qOp, m_kCh2, m_kCh2f, m_kCh3, m_kCh1, m_kCh, m_Ch, m_qCh, m_oNone, m_oSome, m_kO, m_Sl, m_kSl, m_kSl1, m_kSl2, m_slT, m_qT, m_kTru, m_tB, m_tN, m_tI, m_tT, m_qA, m_qO, m_qN, m_kqAt, m_kqAf, m_kqOt, m_kqOf, m_kqN, m_qYes, m_A, m_Or, m_N, m_Neg, m_kAt, m_kAf, m_kOrt, m_kOrf, m_kN, m_kNeg, m_If, m_kIft, m_kIff, m_an, m_ac, m_kac, m_kac2, m_Tup, m_Lst, m_kTup, m_CB, m_kCB, m_pk1, m_pp, m_pkk, m_pd, m_pn, m_kX, m_Call, m_kC1, m_kC2, m_BM, m_BM0, m_kM1, m_Seq, m_Seq_nx, m_Seq_rt, m_Seq_bk, m_Seq_ct, m_Seq_ex, m_Next, m_Brk, m_Cont, m_Expr, m_kEx, m_Ret, m_RetN, m_SIf, m_kSIft, m_kSIff, m_Set, m_kSet, m_Par, m_kPar, m_Par3, m_kPar3, m_Asg, m_kAsg, m_gNm, m_kG, m_gNo, m_gMo, m_gTu, m_gSb, m_kGs, m_kGs2, m_kW2, m_Aug, m_kAug, m_kAu, m_kAu2, m_mk1, m_kMk, m_Raise, m_ends_rt, m_ends_ex, m_ends_nx, m_add, m_addB, m_sub, m_eqI, m_eqS, m_neI, m_neS, m_isB, m_isN, m_isNotN, m_nonN, m_nonR, m_nonT, m_nonI, m_nonS, m_nonB, m_lenT, m_lenK, m_tupT, m_max, m_min, m_intI, m_intB, m_pr0, m_pr, m_kpr, m_kpr2, m_Xf, m_Try, m_Try_nx, m_Try_rt, m_Try_bk, m_Try_ct, m_Try_ex, m_Suite_nx, m_Suite_rt, m_Suite_bk, m_Suite_ct, m_kXe, m_kXo, m_tlOf, m_For, m_Loop_nx, m_Loop_ct, m_Loop_bk, m_Loop_rt, m_Loop_ex, m_kB, m_iSeq, m_kItT, m_kItK, m_kItS, m_iRg1, m_iRg2, m_iEnu, m_kEnuK, m_iZp, m_kZpT, m_iRv, m_kRvT, m_Lc, m_kCell, m_kTurnT, m_kTurnF, m_wip0, m_wip1, m_Back, m_kBackT, m_rg1, m_kRgA, m_TupRg, m_LstRg, m_Dc, m_DturnT, m_DturnF, m_kDk, m_kDv, m_SSet, m_iRvR, m_At, m_Fst, m_kFs, m_Meth, m_kMe2, m_kMe3, m_Make, m_kMk1, m_kMade, m_ltI, m_geI, m_geP, m_isNotB, m_Get1, m_Get2, m_kGet2, m_Setd, m_kSd2, m_rg2, m_kRg2a, m_kRg2b, List.getElem?_cons_zero, List.getElem?_cons_succ, List.set_cons_zero, List.set_cons_succ, List.length_cons, List.length_nil, Nat.zero_add, Nat.reduceAdd, Nat.reduceLeDiff, Bool.not_true, Bool.not_false, mb_is_configuration_3])
theorem pf_is_configuration {K : PySem.W.Frag} {mg : Str → Option Value} (T : Txt K mg) (ws : List Wv) (G : HW) (q : WK) (x : XE) (h : sp_is_configuration T ws G q x) : t_is_configuration T (endsW q x) (startW ["thing", "count", "one", "other"] ws) G := by
  obtain ⟨w, n, rfl, hn, kw, hq⟩ := h
  show t_is_configuration T (endsW q x) [some (w), some (.int n), none, none] G
  unfold t_is_configuration
  walk_at "m_is_configuration"
  refine r_ty kw.1.t ?_
  cases w with
  | tup ws =>
    simp only [isTp]
    walk_at "m_is_configuration"
    cases e1 : decide (n < (ws.length : Int)) with
    | true =>
      walk_at "m_is_configuration"
      have : isConf (.tup ws) n = false := by
        unfold isConf; dsimp only
        have := of_decide_eq_true e1
        rw [decide_eq_false (by omega)]
        rfl
      have := hq G Ext.refl
      simp_all
    | false =>
      have hl : (ws.length : Int) ≤ n := by have := of_decide_eq_false e1; omega
      have hz : ws.length ≤ sizeLine := by rw [sizeLine_eq]; omega
      walk_at "m_is_configuration"
      refine r_lcB (fun w => isWh w 0 (n - 1)) hz (fun _ _ => trivial) (fun i w G' k ew ex hk => ⟨_, rfl, ?_⟩) fun D G1 hD ex eD => ?_
      · walk_at "m_is_configuration"
        exact ⟨w, 0, n - 1, rfl, (kw.2 ws rfl hl w (List.mem_of_getElem? ew)).ext ex, by walk_at "m_is_configuration"; exact hk G' Ext.refl⟩
      walk_at "m_is_configuration"
      refine r_all (.inl eD) ?_
      rw [all_id]
      walk_at "m_is_configuration"
      have hc : isConf (.tup ws) n = ((ws.all fun w => isWh w 0 (n - 1)) && rises ws) := by
        unfold isConf; dsimp only
        rw [decide_eq_true hl]
        rfl
      cases e2 : ws.all fun w => isWh w 0 (n - 1) with
      | false =>
        walk_at "m_is_configuration"
        rw [hc, e2] at hq
        exact hq G1 ex
      | true =>
        walk_at "m_is_configuration"
        have ed : cutL ws (some 1) none = ws.drop 1 := by
          unfold cutL HT.sIx
          cases ws with
          | nil => rfl
          | cons a ws => simp
        rw [ed]
        have all : ∀ y ∈ ws, isWh y 0 (n - 1) = true := List.all_eq_true.mp e2
        refine r_lcB pairLt (by rw [zpW_len]; omega) (fun _ _ => trivial) (fun i w G' k ew ex hk => ?_) fun D G2 hD ex2 eD => ?_
        · obtain ⟨a, b, rfl, ha, hb⟩ : ∃ a b, w = .tup [a, b] ∧ a ∈ ws ∧ b ∈ ws := by
            unfold zpW at ew
            rw [List.getElem?_zipWith] at ew
            cases h1 : ws[i]? with
            | none => rw [h1] at ew; cases ew
            | some a =>
              cases h2 : (ws.drop 1)[i]? with
              | none => rw [h1, h2] at ew; cases ew
              | some b =>
                rw [h1, h2] at ew
                cases ew
                exact ⟨a, b, rfl, List.mem_of_getElem? h1, List.mem_of_mem_drop (List.mem_of_getElem? h2)⟩
          have ha := all a ha
          have hb := all b hb
          cases a <;> try (cases ha)
          cases b <;> try (cases hb)
          refine ⟨_, rfl, ?_⟩
          walk_at "m_is_configuration"
          exact hk G' Ext.refl
        walk_at "m_is_configuration"
        refine r_all (.inl eD) ?_
        rw [all_id]
        rw [hc, e2] at hq
        exact hq G2 (ex.trans ex2)
  | _ =>
    simp only [isTp]
    walk_at "m_is_configuration"
    exact hq G Ext.refl
set_option maxHeartbeats 0 in
theorem ok_is_configuration {P : Program} {w : World} {K : PySem.W.Frag} {mg : Str → Option Value} {base : Heap} (T : Txt K mg) : FnW P w K mg base 2 T.f_is_configuration T.fd_is_configuration ["thing", "count"] (sp_is_configuration T) :=
  fnW_of (t := t_is_configuration T) T.F_is_configuration sc_is_configuration (len_is_configuration T) (fun cdv A outer s H E hr => (zs_cons (z_if (z_bool (z_or (z_qnot (z_q (z_callB w_isi rfl T.n_isinstance boot_isinstance (z_acons (z_var (i := 0) rfl (by first | exact .inl rfl | exact .inr (.inl rfl) | exact .inr (.inr rfl))) (z_acons (z_bty rfl T.n_tuple boot_tuple) (z_anil)))))) (z_or (z_qcmp w_gt (z_callB w_len rfl T.n_len boot_len (z_acons (z_var (i := 0) rfl (by first | exact .inl rfl | exact .inr (.inl rfl) | exact .inr (.inr rfl))) (z_anil))) (z_var (i := 1) rfl (by first | exact .inl rfl | exact .inr (.inl rfl) | exact .inr (.inr rfl))) (by rfl)) (z_or1 (z_qnot (z_q (z_callB (w_all rfl) rfl T.n_all boot_all (z_acons (z_lc (is := [2]) (own := [("one", 2)]) rfl sc_is_configuration.nd (zi_seq (z_var (i := 0) rfl (by first | exact .inl rfl | exact .inr (.inl rfl) | exact .inr (.inr rfl)))) (blkOk_by rfl) (fun _ _ _ _ _ => pg_name sc_is_configuration.nd rfl (by first | exact .inl rfl | exact .inr rfl)) (fun _ _ _ _ _ => zq_nil) (fun _ _ _ _ _ => z_call (sel := [.p 0, .p 1, .p 2]) (dws := []) (ok_is_whole T) (hr.mono (by decide)) rfl T.m_is_whole T.F_is_whole.kp (bind0 T.F_is_whole fun _ _ _ _ _ _ us uk h1 h2 => match us, h1, uk, h2 with | [_, _, _], _, [], _ => rfl) tkN (z_acons (z_var (i := 2) rfl (by first | exact .inl rfl | exact .inr (.inl rfl) | exact .inr (.inr rfl))) (z_acons (z_int) (z_acons (z_bin w_sub (z_var (i := 1) rfl (by first | exact .inl rfl | exact .inr (.inl rfl) | exact .inr (.inr rfl))) (z_int)) (z_anil))))) (by decide)) (z_anil))))))))) (zs_one (z_ret (z_bl))) (zs_nil)) (zs_one (z_ret (z_callB (w_all rfl) rfl T.n_all boot_all (z_acons (z_lc (is := [2, 3]) (own := [("one", 2), ("other", 3)]) rfl sc_is_configuration.nd (zi_zip rfl T.n_zip (z_acons (z_var (i := 0) rfl (by first | exact .inl rfl | exact .inr (.inl rfl) | exact .inr (.inr rfl))) (z_acons (z_sl (z_var (i := 0) rfl (by first | exact .inl rfl | exact .inr (.inl rfl) | exact .inr (.inr rfl))) (z_osome (z_int)) (z_onone)) (z_anil)))) (blkOk_by rfl) (fun _ _ _ _ _ => pg_tup rfl (pgs_cons (pg_name sc_is_configuration.nd rfl (by first | exact .inl rfl | exact .inr rfl)) (pgs_cons (pg_name sc_is_configuration.nd rfl (by first | exact .inl rfl | exact .inr rfl)) (pgs_nil)))) (fun _ _ _ _ _ => zq_nil) (fun _ _ _ _ _ => z_cmp (w_ltA (hr).un) (z_var (i := 2) rfl (by first | exact .inl rfl | exact .inr (.inl rfl) | exact .inr (.inr rfl))) (z_var (i := 3) rfl (by first | exact .inl rfl | exact .inr (.inl rfl) | exact .inr (.inr rfl))) (by rfl)) (by decide)) (z_anil))))))) (pf_is_configuration T)

/-! ### need_parts -/
theorem sc_need_parts : FnScope ["thing", "what", "count"] ["thing", "what", "count"] (defScope s_need_parts) := ⟨rfl, rfl, rfl, by decide +kernel, rfl, by decide +kernel, by decide +kernel⟩
def sp_need_parts {K : PySem.W.Frag} {mg : Str → Option Value} (T : Txt K mg) : SpW := SpNeed K T.C_BadValue
theorem len_need_parts {K : PySem.W.Frag} {mg : Str → Option Value} (T : Txt K mg) (ws : List Wv) (G : HW) (q : WK) (x : XE) (h : sp_need_parts T ws G q x) : ws.length = 3 := by
  obtain ⟨w, y, n, rfl, _⟩ := h
  rfl
def t_need_parts {K : PySem.W.Frag} {mg : Str → Option Value} (T : Txt K mg) : ST := sIf (qNot (qTru (eCall 2 0 [.p 0, .p 1] [.int 120] (sp_is_configuration T) (aCons (eV 0) (aCons (eV 2) (aNil))) aNil))) (sRaise (mk1 T.C_BadValue "what" (eV 1))) (sNext)
local macro_rules | `(tactic| walk_at "m_need_parts") => `(tactic| simp only [m_V, m_kV, m_C, m_Op, m_kOp, m_kOp2, m_kBl, m_qOp, m_kCh2, m_kCh2f, m_kCh3, m_kCh1, m_kCh, m_Ch, m_qCh, m_oNone, m_oSome, m_kO, m_Sl, m_kSl, m_kSl1, m_kSl2, m_slT, m_qT, m_kTru, m_tB, m_tN, m_tI, m_tT, m_qA, m_qO, m_qN, m_kqAt, m_kqAf, m_kqOt, m_kqOf, m_kqN, m_qYes, m_A, m_Or, m_N, m_Neg, m_kAt, m_kAf, m_kOrt, m_kOrf, m_kN, m_kNeg, m_If, m_kIft, m_kIff, m_an, m_ac, m_kac, m_kac2, m_Tup, m_Lst, m_kTup, m_CB, m_kCB, m_pk1, m_pp, m_pkk, m_pd, m_pn, m_kX, m_Call, m_kC1, m_kC2, m_BM, m_BM0, m_kM1, m_Seq, m_Seq_nx, m_Seq_rt, m_Seq_bk, m_Seq_ct, m_Seq_ex, m_Next, m_Brk, m_Cont, m_Expr, m_kEx, m_Ret, m_RetN, m_SIf, m_kSIft, m_kSIff, m_Set, m_kSet, m_Par, m_kPar, m_Par3, m_kPar3, m_Asg, m_kAsg, m_gNm, m_kG, m_gNo, m_gMo, m_gTu, m_gSb, m_kGs, m_kGs2, m_kW2, m_Aug, m_kAug, m_kAu, m_kAu2, m_mk1, m_kMk, m_Raise, m_ends_rt, m_ends_ex, m_ends_nx, m_add, m_addB, m_sub, m_eqI, m_eqS, m_neI, m_neS, m_isB, m_isN, m_isNotN, m_nonN, m_nonR, m_nonT, m_nonI, m_nonS, m_nonB, m_lenT, m_lenK, m_tupT, m_max, m_min, m_intI, m_intB, m_pr0, m_pr, m_kpr, m_kpr2, m_Xf, m_Try, m_Try_nx, m_Try_rt, m_Try_bk, m_Try_ct, m_Try_ex, m_Suite_nx, m_Suite_rt, m_Suite_bk, m_Suite_ct, m_kXe, m_kXo, m_tlOf, m_For, m_Loop_nx, m_Loop_ct, m_Loop_bk, m_Loop_rt, m_Loop_ex, m_kB, m_iSeq, m_kItT, m_kItK, m_kItS, m_iRg1, m_iRg2, m_iEnu, m_kEnuK, m_iZp, m_kZpT, m_iRv, m_kRvT, m_Lc, m_kCell, m_kTurnT, m_kTurnF, m_wip0, m_wip1, m_Back, m_kBackT, m_rg1, m_kRgA, m_TupRg, m_LstRg, m_Dc, m_DturnT, m_DturnF, m_kDk, m_kDv, m_SSet, m_iRvR, m_At, m_Fst, m_kFs, m_Meth, m_kMe2, m_kMe3, m_Make, m_kMk1, m_kMade, m_ltI, m_geI, m_geP, m_isNotB, m_Get1, m_Get2, m_kGet2, m_Setd, m_kSd2, m_rg2, m_kRg2a, m_kRg2b, List.getElem?_cons_zero, List.getElem?_cons_succ, List.set_cons_zero, List.set_cons_succ, List.length_cons, List.length_nil, Nat.zero_add, Nat.reduceAdd, Nat.reduceLeDiff, Bool.not_true, Bool.not_false])
theorem pf_need_parts {K : PySem.W.Frag} {mg : Str → Option Value} (T : Txt K mg) (ws : List Wv) (G : HW) (q : WK) (x : XE) (h : sp_need_parts T ws G q x) : t_need_parts T (endsW q x) (startW ["thing", "what", "count"] ws) G := by
  obtain ⟨w, y, n, rfl, hn, kw, h1, h2⟩ := h
  show t_need_parts T (endsW q x) [some (w), some (y), some (.int n)] G
  unfold t_need_parts
  walk_at "m_need_parts"
  refine ⟨w, n, rfl, hn, kw, fun G' ex => ?_⟩
  walk_at "m_need_parts"
  cases e : isConf w n with
  | true => walk_at "m_need_parts"; exact h1 e G' ex
  | false => walk_at "m_need_parts"; exact h2 e G' ex
set_option maxHeartbeats 0 in
theorem ok_need_parts {P : Program} {w : World} {K : PySem.W.Frag} {mg : Str → Option Value} {base : Heap} (T : Txt K mg) : FnW P w K mg base 3 T.f_need_parts T.fd_need_parts ["thing", "what", "count"] (sp_need_parts T) :=
  fnW_of (t := t_need_parts T) T.F_need_parts sc_need_parts (len_need_parts T) (fun cdv A outer s H E hr => (zs_one (z_if (z_qnot (z_q (z_call (sel := [.p 0, .p 1]) (dws := [.int 120]) (ok_is_configuration T) (hr.mono (by decide)) rfl T.m_is_configuration T.F_is_configuration.kp (bindD T.F_is_configuration (fun z => nomatch z) (fun _ => (.cons (.int _) .nil)) fun _ _ _ _ _ _ _ us uk its h1 h2 h3 => match us, h1, uk, h2, its, h3 with | [_, _], _, [], _, [_], _ => ⟨_, rfl, rfl⟩) (takes_of rfl rfl rfl rfl) (z_acons (z_var (i := 0) rfl (by first | exact .inl rfl | exact .inr (.inl rfl) | exact .inr (.inr rfl))) (z_acons (z_var (i := 2) rfl (by first | exact .inl rfl | exact .inr (.inl rfl) | exact .inr (.inr rfl))) (z_anil)))))) (zs_one (z_raise rfl (takes_of rfl rfl rfl rfl) (z_mk1 T.ox_BadValue T.i_BadValue T.ti_BadValue T.no_BadValue (init_BadValue T) (hr.room.mono (by decide)) (bI_BadValue T) (takes_of rfl rfl rfl rfl) rfl T.m_BadValue (z_var (i := 1) rfl (by first | exact .inl rfl | exact .inr (.inl rfl) | exact .inr (.inr rfl)))))) (zs_nil)))) (pf_need_parts T)

/-! ### is_link -/
theorem sc_is_link : FnScope ["thing", "count", "one"] ["thing", "count"] (defScope s_is_link) := ⟨rfl, rfl, rfl, by decide +kernel, rfl, by decide +kernel, by decide +kernel⟩
def sp_is_link {K : PySem.W.Frag} {mg : Str → Option Value} (T : Txt K mg) : SpW := SpLink K
theorem len_is_link {K : PySem.W.Frag} {mg : Str → Option Value} (T : Txt K mg) (ws : List Wv) (G : HW) (q : WK) (x : XE) (h : sp_is_link T ws G q x) : ws.length = 2 := by
  obtain ⟨w, n, rfl, _⟩ := h
  rfl
def b_is_link_3 {K : PySem.W.Frag} {mg : Str → Option Value} (T : Txt K mg) : ST := sRet (eOp wNe (eOp wIx (eV 0) (eC (.int 0))) (eOp wIx (eV 0) (eC (.int 1))))
theorem mb_is_link_3 {K : PySem.W.Frag} {mg : Str → Option Value} (T : Txt K mg) (D : EndsW) (σ : SW) (G : HW) : b_is_link_3 T D σ G = (sRet (eOp wNe (eOp wIx (eV 0) (eC (.int 0))) (eOp wIx (eV 0) (eC (.int 1))))) D σ G := rfl
def t_is_link {K : PySem.W.Frag} {mg : Str → Option Value} (T : Txt K mg) : ST := sSeq (sIf (qOr (qNot (qTru (eCB (wIsi K) (aCons (eV 0) (aCons (eC (.ty "tuple")) (aNil)))))) (qOr (qOp wNe (eCB wLen (aCons (eV 0) (aNil))) (eC (.int 2))) (qNot (qTru (eCB wAll (aCons (eLc (iSeq (eV 0)) [2] [2] (qYes) (eCall 3 0 [.p 0, .p 1, .p 2] [] (sp_is_whole T) (aCons (eV 2) (aCons (eC (.int 0)) (aCons (eOp oSub (eV 1) (eC (.int 1))) (aNil)))) aNil)) (aNil))))))) (sRet (eC (.bl false))) (sNext)) (b_is_link_3 T)
local macro_rules | `(tactic| walk_at "m_is_link") => `(tactic| simp only [m_V, m_kV, m_C, m_Op, m_kOp, m_kOp2, m_kBl, m_qOp, m_kCh2, m_kCh2f, m_kCh3, m_kCh1, m_kCh, m_Ch, m_qCh, m_oNone, m_oSome, m_kO, m_Sl, m_kSl, m_kSl1, m_kSl2, m_slT, m_qT, m_kTru, m_tB, m_tN, m_tI, m_tT, m_qA, m_qO, m_qN, m_kqAt, m_kqAf, m_kqOt, m_kqOf, m_kqN, m_qYes, m_A, m_Or, m_N, m_Neg, m_kAt, m_kAf, m_kOrt, m_kOrf, m_kN, m_kNeg, m_If, m_kIft, m_kIff, m_an, m_ac, m_kac, m_kac2, m_Tup, m_Lst, m_kTup, m_CB, m_kCB, m_pk1, m_pp, m_pkk, m_pd, m_pn, m_kX, m_Call, m_kC1, m_kC2, m_BM, m_BM0, m_kM1, m_Seq, m_Seq_nx, m_Seq_rt, m_Seq_bk, m_Seq_ct, m_Seq_ex, m_Next, m_Brk, m_Cont, m_Expr, m_kEx, m_Ret, m_RetN, m_SIf, m_kSIft, m_kSIff, m_Set, m_kSet, m_Par, m_kPar, m_Par3, m_kPar3, m_Asg, m_kAsg, m_gNm, m_kG, m_gNo, m_gMo, m_gTu, m_gSb, m_kGs, m_kGs2, m_kW2, m_Aug, m_kAug, m_kAu, m_kAu2, m_mk1, m_kMk, m_Raise, m_ends_rt, m_ends_ex, m_ends_nx, m_add, m_addB, m_sub, m_eqI, m_eqS, m_neI, m_neS, m_isB, m_isN, m_isNotN, m_nonN, m_nonR, m_nonT, m_nonI, m_nonS, m_nonB, m_lenT, m_lenK, m_tupT, m_max, m_min, m_intI, m_intB, m_pr0, m_pr, m_kpr, m_kpr2, m_Xf, m_Try, m_Try_nx, m_Try_rt, m_Try_bk, m_Try_ct, m_Try_ex, m_Suite_nx, m_Suite_rt, m_Suite_bk, m_Suite_ct, m_kXe, m_kXo, m_tlOf, m_For, m_Loop_nx, m_Loop_ct, m_Loop_bk, m_Loop_rt, m_Loop_ex, m_kB, m_iSeq, m_kItT, m_kItK, m_kItS, m_iRg1, m_iRg2, m_iEnu, m_kEnuK, m_iZp, m_kZpT, m_iRv, m_kRvT, m_Lc, m_kCell, m_kTurnT, m_kTurnF, m_wip0, m_wip1, m_Back, m_kBackT, m_rg1, m_kRgA, m_TupRg, m_LstRg, m_Dc, m_DturnT, m_DturnF, m_kDk, m_kDv, m_SSet, m_iRvR, m_At, m_Fst, m_kFs, m_Meth, m_kMe2, m_kMe3, m_Make, m_kMk1, m_kMade, m_ltI, m_geI, m_geP, m_isNotB, m_Get1, m_Get2, m_kGet2, m_Setd, m_kSd2, m_rg2, m_kRg2a, m_kRg2b, List.getElem?_cons_zero, List.getElem?_cons_succ, List.set_cons_zero, List.set_cons_succ, List.length_cons, List.length_nil, Nat.zero_add, Nat.reduceAdd, Nat.reduceLeDiff, Bool.not_true, Bool.not_false, mb_is_link_3])
theorem pf_is_link {K : PySem.W.Frag} {mg : Str → Option Value} (T : Txt K mg) (ws : List Wv) (G : HW) (q : WK) (x : XE) (h : sp_is_link T ws G q x) : t_is_link T (endsW q x) (startW ["thing", "count", "one"] ws) G := by
  obtain ⟨w, n, rfl, kw, hq⟩ := h
  show t_is_link T (endsW q x) [some (w), some (.int n), none] G
  unfold t_is_link
  walk_at "m_is_link"
  refine r_ty kw.1.t ?_
  cases w with
  | tup ws =>
    simp only [isTp]
    walk_at "m_is_link"
    cases e0 : decide ((ws.length : Int) = 2) with
    | false =>
      have h0 := of_decide_eq_false e0
      walk_at "m_is_link"
      have : isLk (.tup ws) n = false := by
        unfold isLk
        split
        · rename_i a b e
          cases e
          exact absurd rfl h0
        · rfl
      rw [this] at hq
      exact hq G Ext.refl
    | true =>
      have h0 := of_decide_eq_true e0
      obtain ⟨a, b, rfl⟩ : ∃ a b, ws = [a, b] := by
        match ws, h0 with
        | [], h0 => exact absurd h0 (by simp)
        | [a], h0 => exact absurd h0 (by simp)
        | [a, b], _ => exact ⟨a, b, rfl⟩
        | a :: b :: c :: ws, h0 => exact absurd h0 (by rw [List.length_cons, List.length_cons, List.length_cons]; omega)
      walk_at "m_is_link"
      have le2 : (([a, b] : List Wv).length : Int) ≤ 2 := by simp
      have ka := kw.2 [a, b] rfl le2 a (by simp)
      have kb := kw.2 [a, b] rfl le2 b (by simp)
      refine r_lcB (fun w => isWh w 0 (n - 1)) (by rw [sizeLine_eq]; exact Nat.le_of_ble_eq_true rfl) (fun _ _ => trivial) (fun i w G' k ew ex hk => ⟨_, rfl, ?_⟩) fun D G1 hD ex eD => ?_
      · walk_at "m_is_link"
        exact ⟨w, 0, n - 1, rfl, (kw.2 [a, b] rfl le2 w (List.mem_of_getElem? ew)).ext ex, by walk_at "m_is_link"; exact hk G' Ext.refl⟩
      walk_at "m_is_link"
      refine r_all (.inl eD) ?_
      rw [all_id]
      walk_at "m_is_link"
      cases e2 : [a, b].all fun w => isWh w 0 (n - 1) with
      | false =>
        walk_at "m_is_link"
        have : isLk (.tup [a, b]) n = false := by
          rw [List.all_cons, List.all_cons, List.all_nil, Bool.and_true] at e2
          unfold isLk; dsimp only
          rw [← Bool.and_assoc, e2]
          rfl
        rw [this] at hq
        exact hq G1 ex
      | true =>
        rw [List.all_cons, List.all_cons, List.all_nil, Bool.and_true, Bool.and_eq_true] at e2
        cases a <;> try (cases e2.1)
        cases b <;> try (cases e2.2)
        rename_i i j
        walk_at "m_is_link"
        refine r_ixT (i := 0) rfl ?_
        walk_at "m_is_link"
        refine r_ixT (i := 1) rfl ?_
        walk_at "m_is_link"
        have : isLk (.tup [.int i, .int j]) n = !decide (i = j) := by
          unfold isLk; dsimp only
          rw [e2.1, e2.2]
          rfl
        rw [this] at hq
        exact hq G1 ex
  | _ =>
    simp only [isTp]
    walk_at "m_is_link"
    exact hq G Ext.refl
set_option maxHeartbeats 0 in
theorem ok_is_link {P : Program} {w : World} {K : PySem.W.Frag} {mg : Str → Option Value} {base : Heap} (T : Txt K mg) : FnW P w K mg base 2 T.f_is_link T.fd_is_link ["thing", "count"] (sp_is_link T) :=
  fnW_of (t := t_is_link T) T.F_is_link sc_is_link (len_is_link T) (fun cdv A outer s H E hr => (zs_cons (z_if (z_bool (z_or (z_qnot (z_q (z_callB w_isi rfl T.n_isinstance boot_isinstance (z_acons (z_var (i := 0) rfl (by first | exact .inl rfl | exact .inr (.inl rfl) | exact .inr (.inr rfl))) (z_acons (z_bty rfl T.n_tuple boot_tuple) (z_anil)))))) (z_or (z_qcmp (w_ne (hr).un) (z_callB w_len rfl T.n_len boot_len (z_acons (z_var (i := 0) rfl (by first | exact .inl rfl | exact .inr (.inl rfl) | exact .inr (.inr rfl))) (z_anil))) (z_int) (by rfl)) (z_or1 (z_qnot (z_q (z_callB (w_all rfl) rfl T.n_all boot_all (z_acons (z_lc (is := [2]) (own := [("one", 2)]) rfl sc_is_link.nd (zi_seq (z_var (i := 0) rfl (by first | exact .inl rfl | exact .inr (.inl rfl) | exact .inr (.inr rfl)))) (blkOk_by rfl) (fun _ _ _ _ _ => pg_name sc_is_link.nd rfl (by first | exact .inl rfl | exact .inr rfl)) (fun _ _ _ _ _ => zq_nil) (fun _ _ _ _ _ => z_call (sel := [.p 0, .p 1, .p 2]) (dws := []) (ok_is_whole T) (hr.mono (by decide)) rfl T.m_is_whole T.F_is_whole.kp (bind0 T.F_is_whole fun _ _ _ _ _ _ us uk h1 h2 => match us, h1, uk, h2 with | [_, _, _], _, [], _ => rfl) tkN (z_acons (z_var (i := 2) rfl (by first | exact .inl rfl | exact .inr (.inl rfl) | exact .inr (.inr rfl))) (z_acons (z_int) (z_acons (z_bin w_sub (z_var (i := 1) rfl (by first | exact .inl rfl | exact .inr (.inl rfl) | exact .inr (.inr rfl))) (z_int)) (z_anil))))) (by decide)) (z_anil))))))))) (zs_one (z_ret (z_bl))) (zs_nil)) (zs_one (z_ret (z_cmp (w_ne (hr).un) (z_ix (hr).un (z_var (i := 0) rfl (by first | exact .inl rfl | exact .inr (.inl rfl) | exact .inr (.inr rfl))) (z_int) (fun _ _ => rfl)) (z_ix (hr).un (z_var (i := 0) rfl (by first | exact .inl rfl | exact .inr (.inl rfl) | exact .inr (.inr rfl))) (z_int) (fun _ _ => rfl)) (by rfl)))))) (pf_is_link T)

/-! ### is_links -/
theorem sc_is_links : FnScope ["thing", "count", "one", "other"] ["thing", "count"] (defScope s_is_links) := ⟨rfl, rfl, rfl, by decide +kernel, rfl, by decide +kernel, by decide +kernel⟩
def sp_is_links {K : PySem.W.Frag} {mg : Str → Option Value} (T : Txt K mg) : SpW := SpLinks K
theorem len_is_links {K : PySem.W.Frag} {mg : Str → Option Value} (T : Txt K mg) (ws : List Wv) (G : HW) (q : WK) (x : XE) (h : sp_is_links T ws G q x) : ws.length = 2 := by
  obtain ⟨w, n, rfl, _⟩ := h
  rfl
def b_is_links_3 {K : PySem.W.Frag} {mg : Str → Option Value} (T : Txt K mg) : ST := sRet (eCB wAll (aCons (eLc (iZp (aCons (eV 0) (aCons (eSl (eV 0) (oSome (eC (.int 1))) (oNone)) (aNil)))) [2, 3] [2, 3] (qYes) (eOp wLtA (eV 2) (eV 3))) (aNil)))
theorem mb_is_links_3 {K : PySem.W.Frag} {mg : Str → Option Value} (T : Txt K mg) (D : EndsW) (σ : SW) (G : HW) : b_is_links_3 T D σ G = (sRet (eCB wAll (aCons (eLc (iZp (aCons (eV 0) (aCons (eSl (eV 0) (oSome (eC (.int 1))) (oNone)) (aNil)))) [2, 3] [2, 3] (qYes) (eOp wLtA (eV 2) (eV 3))) (aNil)))) D σ G := rfl
def t_is_links {K : PySem.W.Frag} {mg : Str → Option Value} (T : Txt K mg) : ST := sSeq (sIf (qOr (qNot (qTru (eCB (wIsi K) (aCons (eV 0) (aCons (eC (.ty "tuple")) (aNil)))))) (qNot (qTru (eCB wAll (aCons (eLc (iSeq (eV 0)) [2] [2] (qYes) (eCall 2 0 [.p 0, .p 1] [] (sp_is_link T) (aCons (eV 2) (aCons (eV 1) (aNil))) aNil)) (aNil)))))) (sRet (eC (.bl false))) (sNext)) (b_is_links_3 T)
local macro_rules | `(tactic| walk_at "m_is_links") => `(tactic| simp only [m_V, m_kV, m_C, m_Op, m_kOp, m_kOp2, m_kBl, m_qOp, m_kCh2, m_kCh2f, m_kCh3, m_kCh1, m_kCh, m_Ch, m_qCh, m_oNone, m_oSome, m_kO, m_Sl, m_kSl, m_kSl1, m_kSl2, m_slT, m_qT, m_kTru, m_tB, m_tN, m_tI, m_tT, m_qA, m_qO, m_qN, m_kqAt, m_kqAf, m_kqOt, m_kqOf, m_kqN, m_qYes, m_A, m_Or, m_N, m_Neg, m_kAt, m_kAf, m_kOrt, m_kOrf, m_kN, m_kNeg, m_If, m_kIft, m_kIff, m_an, m_ac, m_kac, m_kac2, m_Tup, m_Lst, m_kTup, m_CB, m_kCB, m_pk1, m_pp, m_pkk, m_pd, m_pn, m_kX, m_Call, m_kC1, m_kC2, m_BM, m_BM0, m_kM1, m_Seq, m_Seq_nx, m_Seq_rt, m_Seq_bk, m_Seq_ct, m_Seq_ex, m_Next, m_Brk, m_Cont, m_Expr, m_kEx, m_Ret, m_RetN, m_SIf, m_kSIft, m_kSIff, m_Set, m_kSet, m_Par, m_kPar, m_Par3, m_kPar3, m_Asg, m_kAsg, m_gNm, m_kG, m_gNo, m_gMo, m_gTu, m_gSb, m_kGs, m_kGs2, m_kW2, m_Aug, m_kAug, m_kAu, m_kAu2, m_mk1, m_kMk, m_Raise, m_ends_rt, m_ends_ex, m_ends_nx, m_add, m_addB, m_sub, m_eqI, m_eqS, m_neI, m_neS, m_isB, m_isN, m_isNotN, m_nonN, m_nonR, m_nonT, m_nonI, m_nonS, m_nonB, m_lenT, m_lenK, m_tupT, m_max, m_min, m_intI, m_intB, m_pr0, m_pr, m_kpr, m_kpr2, m_Xf, m_Try, m_Try_nx, m_Try_rt, m_Try_bk, m_Try_ct, m_Try_ex, m_Suite_nx, m_Suite_rt, m_Suite_bk, m_Suite_ct, m_kXe, m_kXo, m_tlOf, m_For, m_Loop_nx, m_Loop_ct, m_Loop_bk, m_Loop_rt, m_Loop_ex, m_kB, m_iSeq, m_kItT, m_kItK, m_kItS, m_iRg1, m_iRg2, m_iEnu, m_kEnuK, m_iZp, m_kZpT, m_iRv, m_kRvT, m_Lc, m_kCell, m_kTurnT, m_kTurnF, m_wip0, m_wip1, m_Back, m_kBackT, m_rg1, m_kRgA, m_TupRg, m_LstRg, m_Dc, m_DturnT, m_DturnF, m_kDk, m_kDv, m_SSet, m_iRvR, m_At, m_Fst, m_kFs, m_Meth, m_kMe2, m_kMe3, m_Make, m_kMk1, m_kMade, m_ltI, m_geI, m_geP, m_isNotB, m_Get1, m_Get2, m_kGet2, m_Setd, m_kSd2, m_rg2, m_kRg2a, m_kRg2b, List.getElem?_cons_zero, List.getElem?_cons_succ, List.set_cons_zero, List.set_cons_succ, List.length_cons, List.length_nil, Nat.zero_add, Nat.reduceAdd, Nat.reduceLeDiff, Bool.not_true, Bool.not_false, mb_is_links_3])
theorem pf_is_links {K : PySem.W.Frag} {mg : Str → Option Value} (T : Txt K mg) (ws : List Wv) (G : HW) (q : WK) (x : XE) (h : sp_is_links T ws G q x) : t_is_links T (endsW q x) (startW ["thing", "count", "one", "other"] ws) G := by
  obtain ⟨w, n, rfl, kw, hq⟩ := h
  show t_is_links T (endsW q x) [some (w), some (.int n), none, none] G
  unfold t_is_links
  walk_at "m_is_links"
  refine r_ty kw.1.t ?_
  cases w with
  | tup ws =>
    simp only [isTp]
    obtain ⟨hl, ky⟩ := kw.2 ws rfl
    have hz : ws.length ≤ sizeLine := by rw [sizeLine_eq]; omega
    walk_at "m_is_links"
    refine r_lcB (fun w => isLk w n) hz (fun _ _ => trivial) (fun i w G' k ew ex hk => ⟨_, rfl, ?_⟩) fun D G1 hD ex eD => ?_
    · walk_at "m_is_links"
      exact ⟨w, n, rfl, (ky w (List.mem_of_getElem? ew)).ext ex, fun G2 e2 => by walk_at "m_is_links"; exact hk G2 e2⟩
    walk_at "m_is_links"
    refine r_all (.inl eD) ?_
    rw [all_id]
    walk_at "m_is_links"
    have hc : isLks (.tup ws) n = ((ws.all fun w => isLk w n) && risesT ws) := rfl
    cases e2 : ws.all fun w => isLk w n with
    | false =>
      walk_at "m_is_links"
      rw [hc, e2] at hq
      exact hq G1 ex
    | true =>
      walk_at "m_is_links"
      have ed : cutL ws (some 1) none = ws.drop 1 := by
        unfold cutL HT.sIx
        cases ws with
        | nil => rfl
        | cons a ws => simp
      rw [ed]
      have all : ∀ y ∈ ws, isLk y n = true := List.all_eq_true.mp e2
      refine r_lcB pairLtT (by rw [zpW_len]; omega) (fun _ _ => trivial) (fun i w G' k ew ex hk => ?_) fun D G2 hD ex2 eD => ?_
      · obtain ⟨a, b, rfl, ha, hb⟩ : ∃ a b, w = .tup [a, b] ∧ a ∈ ws ∧ b ∈ ws := by
          unfold zpW at ew
          rw [List.getElem?_zipWith] at ew
          cases h1 : ws[i]? with
          | none => rw [h1] at ew; cases ew
          | some a =>
            cases h2 : (ws.drop 1)[i]? with
            | none => rw [h1, h2] at ew; cases ew
            | some b =>
              rw [h1, h2] at ew
              cases ew
              exact ⟨a, b, rfl, List.mem_of_getElem? h1, List.mem_of_mem_drop (List.mem_of_getElem? h2)⟩
        obtain ⟨a1, a2, rfl, _⟩ := lk_of (all a ha)
        obtain ⟨b1, b2, rfl, _⟩ := lk_of (all b hb)
        refine ⟨_, rfl, ?_⟩
        walk_at "m_is_links"
        refine r_ltT (ns := [a1, a2]) (ms := [b1, b2]) ?_
        walk_at "m_is_links"
        exact hk G' Ext.refl
      walk_at "m_is_links"
      refine r_all (.inl eD) ?_
      rw [all_id]
      rw [hc, e2] at hq
      exact hq G2 (ex.trans ex2)
  | _ =>
    simp only [isTp]
    walk_at "m_is_links"
    exact hq G Ext.refl
set_option maxHeartbeats 0 in
theorem ok_is_links {P : Program} {w : World} {K : PySem.W.Frag} {mg : Str → Option Value} {base : Heap} (T : Txt K mg) : FnW P w K mg base 3 T.f_is_links T.fd_is_links ["thing", "count"] (sp_is_links T) :=
  fnW_of (t := t_is_links T) T.F_is_links sc_is_links (len_is_links T) (fun cdv A outer s H E hr => (zs_cons (z_if (z_bool (z_or (z_qnot (z_q (z_callB w_isi rfl T.n_isinstance boot_isinstance (z_acons (z_var (i := 0) rfl (by first | exact .inl rfl | exact .inr (.inl rfl) | exact .inr (.inr rfl))) (z_acons (z_bty rfl T.n_tuple boot_tuple) (z_anil)))))) (z_or1 (z_qnot (z_q (z_callB (w_all rfl) rfl T.n_all boot_all (z_acons (z_lc (is := [2]) (own := [("one", 2)]) rfl sc_is_links.nd (zi_seq (z_var (i := 0) rfl (by first | exact .inl rfl | exact .inr (.inl rfl) | exact .inr (.inr rfl)))) (blkOk_by rfl) (fun _ _ _ _ _ => pg_name sc_is_links.nd rfl (by first | exact .inl rfl | exact .inr rfl)) (fun _ _ _ _ _ => zq_nil) (fun _ _ _ _ _ => z_call (sel := [.p 0, .p 1]) (dws := []) (ok_is_link T) (hr.mono (by decide)) rfl T.m_is_link T.F_is_link.kp (bind0 T.F_is_link fun _ _ _ _ _ _ us uk h1 h2 => match us, h1, uk, h2 with | [_, _], _, [], _ => rfl) tkN (z_acons (z_var (i := 2) rfl (by first | exact .inl rfl | exact .inr (.inl rfl) | exact .inr (.inr rfl))) (z_acons (z_var (i := 1) rfl (by first | exact .inl rfl | exact .inr (.inl rfl) | exact .inr (.inr rfl))) (z_anil)))) (by decide)) (z_anil)))))))) (zs_one (z_ret (z_bl))) (zs_nil)) (zs_one (z_ret (z_callB (w_all rfl) rfl T.n_all boot_all (z_acons (z_lc (is := [2, 3]) (own := [("one", 2), ("other", 3)]) rfl sc_is_links.nd (zi_zip rfl T.n_zip (z_acons (z_var (i := 0) rfl (by first | exact .inl rfl | exact .inr (.inl rfl) | exact .inr (.inr rfl))) (z_acons (z_sl (z_var (i := 0) rfl (by first | exact .inl rfl | exact .inr (.inl rfl) | exact .inr (.inr rfl))) (z_osome (z_int)) (z_onone)) (z_anil)))) (blkOk_by rfl) (fun _ _ _ _ _ => pg_tup rfl (pgs_cons (pg_name sc_is_links.nd rfl (by first | exact .inl rfl | exact .inr rfl)) (pgs_cons (pg_name sc_is_links.nd rfl (by first | exact .inl rfl | exact .inr rfl)) (pgs_nil)))) (fun _ _ _ _ _ => zq_nil) (fun _ _ _ _ _ => z_cmp (w_ltA (hr).un) (z_var (i := 2) rfl (by first | exact .inl rfl | exact .inr (.inl rfl) | exact .inr (.inr rfl))) (z_var (i := 3) rfl (by first | exact .inl rfl | exact .inr (.inl rfl) | exact .inr (.inr rfl))) (by rfl)) (by decide)) (z_anil))))))) (pf_is_links T)

/-! ### need_links -/
theorem sc_need_links : FnScope ["thing", "count"] ["thing", "count"] (defScope s_need_links) := ⟨rfl, rfl, rfl, by decide +kernel, rfl, by decide +kernel, by decide +kernel⟩
def sp_need_links {K : PySem.W.Frag} {mg : Str → Option Value} (T : Txt K mg) : SpW := SpNeedLinks K T.C_BadValue
theorem len_need_links {K : PySem.W.Frag} {mg : Str → Option Value} (T : Txt K mg) (ws : List Wv) (G : HW) (q : WK) (x : XE) (h : sp_need_links T ws G q x) : ws.length = 2 := by
  obtain ⟨w, n, rfl, _⟩ := h
  rfl
def t_need_links {K : PySem.W.Frag} {mg : Str → Option Value} (T : Txt K mg) : ST := sIf (qNot (qTru (eCall 2 0 [.p 0, .p 1] [.int 120] (sp_is_links T) (aCons (eV 0) (aCons (eV 1) (aNil))) aNil))) (sRaise (mk1 T.C_BadValue "what" (eC (.str "links")))) (sNext)
local macro_rules | `(tactic| walk_at "m_need_links") => `(tactic| simp only [m_V, m_kV, m_C, m_Op, m_kOp, m_kOp2, m_kBl, m_qOp, m_kCh2, m_kCh2f, m_kCh3, m_kCh1, m_kCh, m_Ch, m_qCh, m_oNone, m_oSome, m_kO, m_Sl, m_kSl, m_kSl1, m_kSl2, m_slT, m_qT, m_kTru, m_tB, m_tN, m_tI, m_tT, m_qA, m_qO, m_qN, m_kqAt, m_kqAf, m_kqOt, m_kqOf, m_kqN, m_qYes, m_A, m_Or, m_N, m_Neg, m_kAt, m_kAf, m_kOrt, m_kOrf, m_kN, m_kNeg, m_If, m_kIft, m_kIff, m_an, m_ac, m_kac, m_kac2, m_Tup, m_Lst, m_kTup, m_CB, m_kCB, m_pk1, m_pp, m_pkk, m_pd, m_pn, m_kX, m_Call, m_kC1, m_kC2, m_BM, m_BM0, m_kM1, m_Seq, m_Seq_nx, m_Seq_rt, m_Seq_bk, m_Seq_ct, m_Seq_ex, m_Next, m_Brk, m_Cont, m_Expr, m_kEx, m_Ret, m_RetN, m_SIf, m_kSIft, m_kSIff, m_Set, m_kSet, m_Par, m_kPar, m_Par3, m_kPar3, m_Asg, m_kAsg, m_gNm, m_kG, m_gNo, m_gMo, m_gTu, m_gSb, m_kGs, m_kGs2, m_kW2, m_Aug, m_kAug, m_kAu, m_kAu2, m_mk1, m_kMk, m_Raise, m_ends_rt, m_ends_ex, m_ends_nx, m_add, m_addB, m_sub, m_eqI, m_eqS, m_neI, m_neS, m_isB, m_isN, m_isNotN, m_nonN, m_nonR, m_nonT, m_nonI, m_nonS, m_nonB, m_lenT, m_lenK, m_tupT, m_max, m_min, m_intI, m_intB, m_pr0, m_pr, m_kpr, m_kpr2, m_Xf, m_Try, m_Try_nx, m_Try_rt, m_Try_bk, m_Try_ct, m_Try_ex, m_Suite_nx, m_Suite_rt, m_Suite_bk, m_Suite_ct, m_kXe, m_kXo, m_tlOf, m_For, m_Loop_nx, m_Loop_ct, m_Loop_bk, m_Loop_rt, m_Loop_ex, m_kB, m_iSeq, m_kItT, m_kItK, m_kItS, m_iRg1, m_iRg2, m_iEnu, m_kEnuK, m_iZp, m_kZpT, m_iRv, m_kRvT, m_Lc, m_kCell, m_kTurnT, m_kTurnF, m_wip0, m_wip1, m_Back, m_kBackT, m_rg1, m_kRgA, m_TupRg, m_LstRg, m_Dc, m_DturnT, m_DturnF, m_kDk, m_kDv, m_SSet, m_iRvR, m_At, m_Fst, m_kFs, m_Meth, m_kMe2, m_kMe3, m_Make, m_kMk1, m_kMade, m_ltI, m_geI, m_geP, m_isNotB, m_Get1, m_Get2, m_kGet2, m_Setd, m_kSd2, m_rg2, m_kRg2a, m_kRg2b, List.getElem?_cons_zero, List.getElem?_cons_succ, List.set_cons_zero, List.set_cons_succ, List.length_cons, List.length_nil, Nat.zero_add, Nat.reduceAdd, Nat.reduceLeDiff, Bool.not_true, Bool.not_false])
theorem pf_need_links {K : PySem.W.Frag} {mg : Str → Option Value} (T : Txt K mg) (ws : List Wv) (G : HW) (q : WK) (x : XE) (h : sp_need_links T ws G q x) : t_need_links T (endsW q x) (startW ["thing", "count"] ws) G := by
  obtain ⟨w, n, rfl, kw, h1, h2⟩ := h
  show t_need_links T (endsW q x) [some (w), some (.int n)] G
  unfold t_need_links
  walk_at "m_need_links"
  refine ⟨w, n, rfl, kw, fun G' ex => ?_⟩
  walk_at "m_need_links"
  cases e : isLks w n with
  | true => walk_at "m_need_links"; exact h1 e G' ex
  | false => walk_at "m_need_links"; exact h2 e G' ex
set_option maxHeartbeats 0 in
theorem ok_need_links {P : Program} {w : World} {K : PySem.W.Frag} {mg : Str → Option Value} {base : Heap} (T : Txt K mg) : FnW P w K mg base 4 T.f_need_links T.fd_need_links ["thing", "count"] (sp_need_links T) :=
  fnW_of (t := t_need_links T) T.F_need_links sc_need_links (len_need_links T) (fun cdv A outer s H E hr => (zs_one (z_if (z_qnot (z_q (z_call (sel := [.p 0, .p 1]) (dws := [.int 120]) (ok_is_links T) (hr.mono (by decide)) rfl T.m_is_links T.F_is_links.kp (bindD T.F_is_links (fun z => nomatch z) (fun _ => (.cons (.int _) .nil)) fun _ _ _ _ _ _ _ us uk its h1 h2 h3 => match us, h1, uk, h2, its, h3 with | [_, _], _, [], _, [_], _ => ⟨_, rfl, rfl⟩) (takes_of rfl rfl rfl rfl) (z_acons (z_var (i := 0) rfl (by first | exact .inl rfl | exact .inr (.inl rfl) | exact .inr (.inr rfl))) (z_acons (z_var (i := 1) rfl (by first | exact .inl rfl | exact .inr (.inl rfl) | exact .inr (.inr rfl))) (z_anil)))))) (zs_one (z_raise rfl (takes_of rfl rfl rfl rfl) (z_mk1 T.ox_BadValue T.i_BadValue T.ti_BadValue T.no_BadValue (init_BadValue T) (hr.room.mono (by decide)) (bI_BadValue T) (takes_of rfl rfl rfl rfl) rfl T.m_BadValue (z_str)))) (zs_nil)))) (pf_need_links T)

/-! ### closure -/
theorem sc_closure : FnScope ["links", "parts"] ["links", "parts"] (defScope s_closure) := ⟨rfl, rfl, rfl, by decide +kernel, rfl, by decide +kernel, by decide +kernel⟩
def sp_closure {K : PySem.W.Frag} {mg : Str → Option Value} (T : Txt K mg) : SpW := SpClosure K T.C_BadValue
theorem len_closure {K : PySem.W.Frag} {mg : Str → Option Value} (T : Txt K mg) (ws : List Wv) (G : HW) (q : WK) (x : XE) (h : sp_closure T ws G q x) : ws.length = 2 := by
  obtain ⟨w, y, rfl, _⟩ := h
  rfl
def b_closure_3 {K : PySem.W.Frag} {mg : Str → Option Value} (T : Txt K mg) : ST := sRet (eCB wTuple (aCons (eCB wSrt (aCons (eCall 2 0 [.p 0, .p 1] [] (sp_reached T) (aCons (eCall 2 0 [.p 0, .p 1] [] (sp_ways_of_links T) (aCons (eV 0) (aCons (eC (.bl true)) (aNil))) aNil) (aCons (eV 1) (aNil))) aNil) (aNil))) (aNil)))
theorem mb_closure_3 {K : PySem.W.Frag} {mg : Str → Option Value} (T : Txt K mg) (D : EndsW) (σ : SW) (G : HW) : b_closure_3 T D σ G = (sRet (eCB wTuple (aCons (eCB wSrt (aCons (eCall 2 0 [.p 0, .p 1] [] (sp_reached T) (aCons (eCall 2 0 [.p 0, .p 1] [] (sp_ways_of_links T) (aCons (eV 0) (aCons (eC (.bl true)) (aNil))) aNil) (aCons (eV 1) (aNil))) aNil) (aNil))) (aNil)))) D σ G := rfl
def b_closure_2 {K : PySem.W.Frag} {mg : Str → Option Value} (T : Txt K mg) : ST := sSeq (sExpr (eCall 1 0 [.p 0, .d 0, .d 1] [.str "parts", .int 120] (sp_need_parts T) (aCons (eV 1) (aNil)) aNil)) (b_closure_3 T)
theorem mb_closure_2 {K : PySem.W.Frag} {mg : Str → Option Value} (T : Txt K mg) (D : EndsW) (σ : SW) (G : HW) : b_closure_2 T D σ G = (sSeq (sExpr (eCall 1 0 [.p 0, .d 0, .d 1] [.str "parts", .int 120] (sp_need_parts T) (aCons (eV 1) (aNil)) aNil)) (b_closure_3 T)) D σ G := rfl
def t_closure {K : PySem.W.Frag} {mg : Str → Option Value} (T : Txt K mg) : ST := sSeq (sExpr (eCall 1 0 [.p 0, .d 0] [.int 120] (sp_need_links T) (aCons (eV 0) (aNil)) aNil)) (b_closure_2 T)
local macro_rules | `(tactic| walk_at "m_closure") => `(tactic| simp only [m_V, m_kV, m_C, m_Op, m_kOp, m_kOp2, m_kBl, m_qOp, m_kCh2, m_kCh2f, m_kCh3, m_kCh1, m_kCh, m_Ch, m_qCh, m_oNone, m_oSome, m_kO, m_Sl, m_kSl, m_kSl1, m_kSl2, m_slT, m_qT, m_kTru, m_tB, m_tN, m_tI, m_tT, m_qA, m_qO, m_qN, m_kqAt, m_kqAf, m_kqOt, m_kqOf, m_kqN, m_qYes, m_A, m_Or, m_N, m_Neg, m_kAt, m_kAf, m_kOrt, m_kOrf, m_kN, m_kNeg, m_If, m_kIft, m_kIff, m_an, m_ac, m_kac, m_kac2, m_Tup, m_Lst, m_kTup, m_CB, m_kCB, m_pk1, m_pp, m_pkk, m_pd, m_pn, m_kX, m_Call, m_kC1, m_kC2, m_BM, m_BM0, m_kM1, m_Seq, m_Seq_nx, m_Seq_rt, m_Seq_bk, m_Seq_ct, m_Seq_ex, m_Next, m_Brk, m_Cont, m_Expr, m_kEx, m_Ret, m_RetN, m_SIf, m_kSIft, m_kSIff, m_Set, m_kSet, m_Par, m_kPar, m_Par3, m_kPar3, m_Asg, m_kAsg, m_gNm, m_kG, m_gNo, m_gMo, m_gTu, m_gSb, m_kGs, m_kGs2, m_kW2, m_Aug, m_kAug, m_kAu, m_kAu2, m_mk1, m_kMk, m_Raise, m_ends_rt, m_ends_ex, m_ends_nx, m_add, m_addB, m_sub, m_eqI, m_eqS, m_neI, m_neS, m_isB, m_isN, m_isNotN, m_nonN, m_nonR, m_nonT, m_nonI, m_nonS, m_nonB, m_lenT, m_lenK, m_tupT, m_max, m_min, m_intI, m_intB, m_pr0, m_pr, m_kpr, m_kpr2, m_Xf, m_Try, m_Try_nx, m_Try_rt, m_Try_bk, m_Try_ct, m_Try_ex, m_Suite_nx, m_Suite_rt, m_Suite_bk, m_Suite_ct, m_kXe, m_kXo, m_tlOf, m_For, m_Loop_nx, m_Loop_ct, m_Loop_bk, m_Loop_rt, m_Loop_ex, m_kB, m_iSeq, m_kItT, m_kItK, m_kItS, m_iRg1, m_iRg2, m_iEnu, m_kEnuK, m_iZp, m_kZpT, m_iRv, m_kRvT, m_Lc, m_kCell, m_kTurnT, m_kTurnF, m_wip0, m_wip1, m_Back, m_kBackT, m_rg1, m_kRgA, m_TupRg, m_LstRg, m_Dc, m_DturnT, m_DturnF, m_kDk, m_kDv, m_SSet, m_iRvR, m_At, m_Fst, m_kFs, m_Meth, m_kMe2, m_kMe3, m_Make, m_kMk1, m_kMade, m_ltI, m_geI, m_geP, m_isNotB, m_Get1, m_Get2, m_kGet2, m_Setd, m_kSd2, m_rg2, m_kRg2a, m_kRg2b, List.getElem?_cons_zero, List.getElem?_cons_succ, List.set_cons_zero, List.set_cons_succ, List.length_cons, List.length_nil, Nat.zero_add, Nat.reduceAdd, Nat.reduceLeDiff, Bool.not_true, Bool.not_false, mb_closure_3, mb_closure_2])
theorem pf_closure {K : PySem.W.Frag} {mg : Str → Option Value} (T : Txt K mg) (ws : List Wv) (G : HW) (q : WK) (x : XE) (h : sp_closure T ws G q x) : t_closure T (endsW q x) (startW ["links", "parts"] ws) G := by
  obtain ⟨w, y, rfl, kw, ky, h1, h2, h3⟩ := h
  show t_closure T (endsW q x) [some (w), some (y)] G
  unfold t_closure
  walk_at "m_closure"
  refine ⟨w, 120, rfl, kw, fun e G1 ex => ?_, fun e G1 ex => by walk_at "m_closure"; exact h1 e G1 ex⟩
  walk_at "m_closure"
  refine ⟨y, .str "parts", 120, rfl, by omega, ky.ext ex, fun e2 G2 ex2 => ?_, fun e2 G2 ex2 => by walk_at "m_closure"; exact h2 e e2 G2 (ex.trans ex2)⟩
  obtain ⟨L, rfl, hL⟩ := lks_of e
  obtain ⟨ns, rfl, cf⟩ := conf_of e2
  have hLl : L.length ≤ 100000 := by have := (kw.2 _ rfl).1; rwa [List.length_map] at this
  walk_at "m_closure"
  refine ⟨L, true, rfl, hLl, fun D G3 hD ex3 wy => ?_⟩
  walk_at "m_closure"
  refine ⟨D, L, true, _, ns, rfl, .inl rfl, by have := cf.1; omega, cf.2.1, hL, hLl, wy, fun F ks G4 hF ex4 nd m eF => ?_⟩
  have kl := reach_len nd m hL cf.2.1
  walk_at "m_closure"
  refine r_sortedD eF (keys_ints ks) (by rw [List.length_map, sizeLine_eq]; omega) fun out hp hs l hl => ?_
  walk_at "m_closure"
  refine r_tupL (.inl updO_same) ?_
  exact h3 L ns rfl rfl e hL cf out _ (reach_sorted nd m hp hs) ((((ex.trans ex2).trans ex3).trans ex4).trans (Ext.new hl))
set_option maxHeartbeats 0 in
theorem ok_closure {P : Program} {w : World} {K : PySem.W.Frag} {mg : Str → Option Value} {base : Heap} (T : Txt K mg) : FnW P w K mg base 5 T.f_closure T.fd_closure ["links", "parts"] (sp_closure T) :=
  fnW_of (t := t_closure T) T.F_closure sc_closure (len_closure T) (fun cdv A outer s H E hr => (zs_cons (z_expr (z_call (sel := [.p 0, .d 0]) (dws := [.int 120]) (ok_need_links T) (hr.mono (by decide)) rfl T.m_need_links T.F_need_links.kp (bindD T.F_need_links (fun z => nomatch z) (fun _ => (.cons (.int _) .nil)) fun _ _ _ _ _ _ _ us uk its h1 h2 h3 => match us, h1, uk, h2, its, h3 with | [_], _, [], _, [_], _ => ⟨_, rfl, rfl⟩) (takes_of rfl rfl rfl rfl) (z_acons (z_var (i := 0) rfl (by first | exact .inl rfl | exact .inr (.inl rfl) | exact .inr (.inr rfl))) (z_anil)))) (zs_cons (z_expr (z_call (sel := [.p 0, .d 0, .d 1]) (dws := [.str "parts", .int 120]) (ok_need_parts T) (hr.mono (by decide)) rfl T.m_need_parts T.F_need_parts.kp (bindD T.F_need_parts (fun z => nomatch z) (fun _ => (.cons (.str _) (.cons (.int _) .nil))) fun _ _ _ _ _ _ _ us uk its h1 h2 h3 => match us, h1, uk, h2, its, h3 with | [_], _, [], _, [_, _], _ => ⟨_, rfl, rfl⟩) (takes_of rfl rfl rfl rfl) (z_acons (z_var (i := 1) rfl (by first | exact .inl rfl | exact .inr (.inl rfl) | exact .inr (.inr rfl))) (z_anil)))) (zs_one (z_ret (z_callT w_tuple rfl T.n_tuple boot_tuple (z_acons (z_callB (w_srt rfl) rfl T.n_sorted boot_sorted (z_acons (z_call (sel := [.p 0, .p 1]) (dws := []) (ok_reached T) (hr.mono (by decide)) rfl T.m_reached T.F_reached.kp (bind0 T.F_reached fun _ _ _ _ _ _ us uk h1 h2 => match us, h1, uk, h2 with | [_, _], _, [], _ => rfl) (takes_of rfl rfl rfl rfl) (z_acons (z_call (sel := [.p 0, .p 1]) (dws := []) (ok_ways_of_links T) (hr.mono (by decide)) rfl T.m_ways_of_links T.F_ways_of_links.kp (bind0 T.F_ways_of_links fun _ _ _ _ _ _ us uk h1 h2 => match us, h1, uk, h2 with | [_, _], _, [], _ => rfl) (takes_of rfl rfl rfl rfl) (z_acons (z_var (i := 0) rfl (by first | exact .inl rfl | exact .inr (.inl rfl) | exact .inr (.inr rfl))) (z_acons (z_bl) (z_anil)))) (z_acons (z_var (i := 1) rfl (by first | exact .inl rfl | exact .inr (.inl rfl) | exact .inr (.inr rfl))) (z_anil)))) (z_anil))) (z_anil)))))))) (pf_closure T)

/-! ### need_number -/
theorem sc_need_number : FnScope ["thing"] ["thing"] (defScope s_need_number) := ⟨rfl, rfl, rfl, by decide +kernel, rfl, by decide +kernel, by decide +kernel⟩
def sp_need_number {K : PySem.W.Frag} {mg : Str → Option Value} (T : Txt K mg) : SpW := SpNumber K T.C_BadValue
theorem len_need_number {K : PySem.W.Frag} {mg : Str → Option Value} (T : Txt K mg) (ws : List Wv) (G : HW) (q : WK) (x : XE) (h : sp_need_number T ws G q x) : ws.length = 1 := by
  obtain ⟨w, rfl, _⟩ := h
  rfl
def t_need_number {K : PySem.W.Frag} {mg : Str → Option Value} (T : Txt K mg) : ST := sIf (qNot (qTru (eCall 3 0 [.p 0, .p 1, .p 2] [] (sp_is_whole T) (aCons (eV 0) (aCons (eC (.int 0)) (aCons (eOp oSub (eC (.int 120)) (eC (.int 1))) (aNil)))) aNil))) (sRaise (mk1 T.C_BadValue "what" (eC (.str "number")))) (sNext)
local macro_rules | `(tactic| walk_at "m_need_number") => `(tactic| simp only [m_V, m_kV, m_C, m_Op, m_kOp, m_kOp2, m_kBl, m_qOp, m_kCh2, m_kCh2f, m_kCh3, m_kCh1, m_kCh, m_Ch, m_qCh, m_oNone, m_oSome, m_kO, m_Sl, m_kSl, m_kSl1, m_kSl2, m_slT, m_qT, m_kTru, m_tB, m_tN, m_tI, m_tT, m_qA, m_qO, m_qN, m_kqAt, m_kqAf, m_kqOt, m_kqOf, m_kqN, m_qYes, m_A, m_Or, m_N, m_Neg, m_kAt, m_kAf, m_kOrt, m_kOrf, m_kN, m_kNeg, m_If, m_kIft, m_kIff, m_an, m_ac, m_kac, m_kac2, m_Tup, m_Lst, m_kTup, m_CB, m_kCB, m_pk1, m_pp, m_pkk, m_pd, m_pn, m_kX, m_Call, m_kC1, m_kC2, m_BM, m_BM0, m_kM1, m_Seq, m_Seq_nx, m_Seq_rt, m_Seq_bk, m_Seq_ct, m_Seq_ex, m_Next, m_Brk, m_Cont, m_Expr, m_kEx, m_Ret, m_RetN, m_SIf, m_kSIft, m_kSIff, m_Set, m_kSet, m_Par, m_kPar, m_Par3, m_kPar3, m_Asg, m_kAsg, m_gNm, m_kG, m_gNo, m_gMo, m_gTu, m_gSb, m_kGs, m_kGs2, m_kW2, m_Aug, m_kAug, m_kAu, m_kAu2, m_mk1, m_kMk, m_Raise, m_ends_rt, m_ends_ex, m_ends_nx, m_add, m_addB, m_sub, m_eqI, m_eqS, m_neI, m_neS, m_isB, m_isN, m_isNotN, m_nonN, m_nonR, m_nonT, m_nonI, m_nonS, m_nonB, m_lenT, m_lenK, m_tupT, m_max, m_min, m_intI, m_intB, m_pr0, m_pr, m_kpr, m_kpr2, m_Xf, m_Try, m_Try_nx, m_Try_rt, m_Try_bk, m_Try_ct, m_Try_ex, m_Suite_nx, m_Suite_rt, m_Suite_bk, m_Suite_ct, m_kXe, m_kXo, m_tlOf, m_For, m_Loop_nx, m_Loop_ct, m_Loop_bk, m_Loop_rt, m_Loop_ex, m_kB, m_iSeq, m_kItT, m_kItK, m_kItS, m_iRg1, m_iRg2, m_iEnu, m_kEnuK, m_iZp, m_kZpT, m_iRv, m_kRvT, m_Lc, m_kCell, m_kTurnT, m_kTurnF, m_wip0, m_wip1, m_Back, m_kBackT, m_rg1, m_kRgA, m_TupRg, m_LstRg, m_Dc, m_DturnT, m_DturnF, m_kDk, m_kDv, m_SSet, m_iRvR, m_At, m_Fst, m_kFs, m_Meth, m_kMe2, m_kMe3, m_Make, m_kMk1, m_kMade, m_ltI, m_geI, m_geP, m_isNotB, m_Get1, m_Get2, m_kGet2, m_Setd, m_kSd2, m_rg2, m_kRg2a, m_kRg2b, List.getElem?_cons_zero, List.getElem?_cons_succ, List.set_cons_zero, List.set_cons_succ, List.length_cons, List.length_nil, Nat.zero_add, Nat.reduceAdd, Nat.reduceLeDiff, Bool.not_true, Bool.not_false])
theorem pf_need_number {K : PySem.W.Frag} {mg : Str → Option Value} (T : Txt K mg) (ws : List Wv) (G : HW) (q : WK) (x : XE) (h : sp_need_number T ws G q x) : t_need_number T (endsW q x) (startW ["thing"] ws) G := by
  obtain ⟨w, rfl, kw, h1, h2⟩ := h
  show t_need_number T (endsW q x) [some (w)] G
  unfold t_need_number
  walk_at "m_need_number"
  refine ⟨w, 0, 120 - 1, rfl, kw, ?_⟩
  walk_at "m_need_number"
  have e119 : (120 : Int) - 1 = 119 := rfl
  rw [e119]
  cases e : isWh w 0 119 with
  | true => walk_at "m_need_number"; exact h1 e
  | false => walk_at "m_need_number"; exact h2 e
set_option maxHeartbeats 0 in
theorem ok_need_number {P : Program} {w : World} {K : PySem.W.Frag} {mg : Str → Option Value} {base : Heap} (T : Txt K mg) : FnW P w K mg base 3 T.f_need_number T.fd_need_number ["thing"] (sp_need_number T) :=
  fnW_of (t := t_need_number T) T.F_need_number sc_need_number (len_need_number T) (fun cdv A outer s H E hr => (zs_one (z_if (z_qnot (z_q (z_call (sel := [.p 0, .p 1, .p 2]) (dws := []) (ok_is_whole T) (hr.mono (by decide)) rfl T.m_is_whole T.F_is_whole.kp (bind0 T.F_is_whole fun _ _ _ _ _ _ us uk h1 h2 => match us, h1, uk, h2 with | [_, _, _], _, [], _ => rfl) (takes_of rfl rfl rfl rfl) (z_acons (z_var (i := 0) rfl (by first | exact .inl rfl | exact .inr (.inl rfl) | exact .inr (.inr rfl))) (z_acons (z_int) (z_acons (z_bin w_sub (z_globI rfl T.m_MOST_PIECES) (z_int)) (z_anil))))))) (zs_one (z_raise rfl (takes_of rfl rfl rfl rfl) (z_mk1 T.ox_BadValue T.i_BadValue T.ti_BadValue T.no_BadValue (init_BadValue T) (hr.room.mono (by decide)) (bI_BadValue T) (takes_of rfl rfl rfl rfl) rfl T.m_BadValue (z_str)))) (zs_nil)))) (pf_need_number T)

/-! ### without_fall -/
theorem sc_without_fall : FnScope ["links", "parts", "number", "gone", "one"] ["links", "parts", "number"] (defScope s_without_fall) := ⟨rfl, rfl, rfl, by decide +kernel, rfl, by decide +kernel, by decide +kernel⟩
def sp_without_fall {K : PySem.W.Frag} {mg : Str → Option Value} (T : Txt K mg) : SpW := SpWithoutFall K T.C_BadValue
theorem len_without_fall {K : PySem.W.Frag} {mg : Str → Option Value} (T : Txt K mg) (ws : List Wv) (G : HW) (q : WK) (x : XE) (h : sp_without_fall T ws G q x) : ws.length = 3 := by
  obtain ⟨w, y, z, rfl, _⟩ := h
  rfl
def b_without_fall_5 {K : PySem.W.Frag} {mg : Str → Option Value} (T : Txt K mg) : ST := sRet (eCB wTuple (aCons (eLc (iSeq (eV 1)) [4] [4] (qOp (wInA true) (eV 4) (eV 3)) (eV 4)) (aNil)))
theorem mb_without_fall_5 {K : PySem.W.Frag} {mg : Str → Option Value} (T : Txt K mg) (D : EndsW) (σ : SW) (G : HW) : b_without_fall_5 T D σ G = (sRet (eCB wTuple (aCons (eLc (iSeq (eV 1)) [4] [4] (qOp (wInA true) (eV 4) (eV 3)) (eV 4)) (aNil)))) D σ G := rfl
def b_without_fall_4 {K : PySem.W.Frag} {mg : Str → Option Value} (T : Txt K mg) : ST := sSeq (sSet 3 (eCall 2 0 [.p 0, .p 1] [] (sp_reached T) (aCons (eCall 2 0 [.p 0, .p 1] [] (sp_ways_of_links T) (aCons (eV 0) (aCons (eC (.bl false)) (aNil))) aNil) (aCons (eLst (aCons (eV 2) (aNil))) (aNil))) aNil)) (b_without_fall_5 T)
theorem mb_without_fall_4 {K : PySem.W.Frag} {mg : Str → Option Value} (T : Txt K mg) (D : EndsW) (σ : SW) (G : HW) : b_without_fall_4 T D σ G = (sSeq (sSet 3 (eCall 2 0 [.p 0, .p 1] [] (sp_reached T) (aCons (eCall 2 0 [.p 0, .p 1] [] (sp_ways_of_links T) (aCons (eV 0) (aCons (eC (.bl false)) (aNil))) aNil) (aCons (eLst (aCons (eV 2) (aNil))) (aNil))) aNil)) (b_without_fall_5 T)) D σ G := rfl
def b_without_fall_3 {K : PySem.W.Frag} {mg : Str → Option Value} (T : Txt K mg) : ST := sSeq (sExpr (eCall 1 0 [.p 0] [] (sp_need_number T) (aCons (eV 2) (aNil)) aNil)) (b_without_fall_4 T)
theorem mb_without_fall_3 {K : PySem.W.Frag} {mg : Str → Option Value} (T : Txt K mg) (D : EndsW) (σ : SW) (G : HW) : b_without_fall_3 T D σ G = (sSeq (sExpr (eCall 1 0 [.p 0] [] (sp_need_number T) (aCons (eV 2) (aNil)) aNil)) (b_without_fall_4 T)) D σ G := rfl
def b_without_fall_2 {K : PySem.W.Frag} {mg : Str → Option Value} (T : Txt K mg) : ST := sSeq (sExpr (eCall 1 0 [.p 0, .d 0, .d 1] [.str "parts", .int 120] (sp_need_parts T) (aCons (eV 1) (aNil)) aNil)) (b_without_fall_3 T)
theorem mb_without_fall_2 {K : PySem.W.Frag} {mg : Str → Option Value} (T : Txt K mg) (D : EndsW) (σ : SW) (G : HW) : b_without_fall_2 T D σ G = (sSeq (sExpr (eCall 1 0 [.p 0, .d 0, .d 1] [.str "parts", .int 120] (sp_need_parts T) (aCons (eV 1) (aNil)) aNil)) (b_without_fall_3 T)) D σ G := rfl
def t_without_fall {K : PySem.W.Frag} {mg : Str → Option Value} (T : Txt K mg) : ST := sSeq (sExpr (eCall 1 0 [.p 0, .d 0] [.int 120] (sp_need_links T) (aCons (eV 0) (aNil)) aNil)) (b_without_fall_2 T)
local macro_rules | `(tactic| walk_at "m_without_fall") => `(tactic| simp only [m_V, m_kV, m_C, m_Op, m_kOp, m_kOp2, m_kBl, m_qOp, m_kCh2, m_kCh2f, m_kCh3, m_kCh1, m_kCh, m_Ch, m_qCh, m_oNone, m_oSome, m_kO, m_Sl, m_kSl, m_kSl1, m_kSl2, m_slT, m_qT, m_kTru, m_tB, m_tN, m_tI, m_tT, m_qA, m_qO, m_qN, m_kqAt, m_kqAf, m_kqOt, m_kqOf, m_kqN, m_qYes, m_A, m_Or, m_N, m_Neg, m_kAt, m_kAf, m_kOrt, m_kOrf, m_kN, m_kNeg, m_If, m_kIft, m_kIff, m_an, m_ac, m_kac, m_kac2, m_Tup, m_Lst, m_kTup, m_CB, m_kCB, m_pk1, m_pp, m_pkk, m_pd, m_pn, m_kX, m_Call, m_kC1, m_kC2, m_BM, m_BM0, m_kM1, m_Seq, m_Seq_nx, m_Seq_rt, m_Seq_bk, m_Seq_ct, m_Seq_ex, m_Next, m_Brk, m_Cont, m_Expr, m_kEx, m_Ret, m_RetN, m_SIf, m_kSIft, m_kSIff, m_Set, m_kSet, m_Par, m_kPar, m_Par3, m_kPar3, m_Asg, m_kAsg, m_gNm, m_kG, m_gNo, m_gMo, m_gTu, m_gSb, m_kGs, m_kGs2, m_kW2, m_Aug, m_kAug, m_kAu, m_kAu2, m_mk1, m_kMk, m_Raise, m_ends_rt, m_ends_ex, m_ends_nx, m_add, m_addB, m_sub, m_eqI, m_eqS, m_neI, m_neS, m_isB, m_isN, m_isNotN, m_nonN, m_nonR, m_nonT, m_nonI, m_nonS, m_nonB, m_lenT, m_lenK, m_tupT, m_max, m_min, m_intI, m_intB, m_pr0, m_pr, m_kpr, m_kpr2, m_Xf, m_Try, m_Try_nx, m_Try_rt, m_Try_bk, m_Try_ct, m_Try_ex, m_Suite_nx, m_Suite_rt, m_Suite_bk, m_Suite_ct, m_kXe, m_kXo, m_tlOf, m_For, m_Loop_nx, m_Loop_ct, m_Loop_bk, m_Loop_rt, m_Loop_ex, m_kB, m_iSeq, m_kItT, m_kItK, m_kItS, m_iRg1, m_iRg2, m_iEnu, m_kEnuK, m_iZp, m_kZpT, m_iRv, m_kRvT, m_Lc, m_kCell, m_kTurnT, m_kTurnF, m_wip0, m_wip1, m_Back, m_kBackT, m_rg1, m_kRgA, m_TupRg, m_LstRg, m_Dc, m_DturnT, m_DturnF, m_kDk, m_kDv, m_SSet, m_iRvR, m_At, m_Fst, m_kFs, m_Meth, m_kMe2, m_kMe3, m_Make, m_kMk1, m_kMade, m_ltI, m_geI, m_geP, m_isNotB, m_Get1, m_Get2, m_kGet2, m_Setd, m_kSd2, m_rg2, m_kRg2a, m_kRg2b, List.getElem?_cons_zero, List.getElem?_cons_succ, List.set_cons_zero, List.set_cons_succ, List.length_cons, List.length_nil, Nat.zero_add, Nat.reduceAdd, Nat.reduceLeDiff, Bool.not_true, Bool.not_false, mb_without_fall_5, mb_without_fall_4, mb_without_fall_3, mb_without_fall_2])
theorem pf_without_fall {K : PySem.W.Frag} {mg : Str → Option Value} (T : Txt K mg) (ws : List Wv) (G : HW) (q : WK) (x : XE) (h : sp_without_fall T ws G q x) : t_without_fall T (endsW q x) (startW ["links", "parts", "number", "gone", "one"] ws) G := by
  obtain ⟨w, y, z, rfl, kw, ky, kz, h1, h2, h3, h4⟩ := h
  show t_without_fall T (endsW q x) [some (w), some (y), some (z), none, none] G
  unfold t_without_fall
  walk_at "m_without_fall"
  refine ⟨w, 120, rfl, kw, fun e G1 ex => ?_, fun e G1 ex => by walk_at "m_without_fall"; exact h1 e G1 ex⟩
  walk_at "m_without_fall"
  refine ⟨y, .str "parts", 120, rfl, by omega, ky.ext ex, fun e2 G2 ex2 => ?_, fun e2 G2 ex2 => by walk_at "m_without_fall"; exact h2 e e2 G2 (ex.trans ex2)⟩
  walk_at "m_without_fall"
  refine ⟨z, rfl, (kz.ext ex).ext ex2, fun e3 => ?_, fun e3 => by walk_at "m_without_fall"; exact h3 e e2 e3 G2 (ex.trans ex2)⟩
  obtain ⟨L, rfl, hL⟩ := lks_of e
  obtain ⟨ns, rfl, cf⟩ := conf_of e2
  obtain ⟨k, rfl, k0, k1⟩ := wh_119 e3
  have hLl : L.length ≤ 100000 := by have := (kw.2 _ rfl).1; rwa [List.length_map] at this
  have nl := cf.1
  walk_at "m_without_fall"
  refine ⟨L, false, rfl, hLl, fun D G3 hD ex3 wy => ?_⟩
  walk_at "m_without_fall"
  refine r_lst' fun l0 hl0 => ?_
  have x0 := Ext.new (o := .lst [.int k]) hl0
  have wy0 : Ways (updO G3 l0 (.lst [.int k])) D L false := by
    obtain ⟨kvs, w1, w2, w3⟩ := wy
    exact ⟨kvs, x0 _ _ w1, w2, fun j => (w3 j).imp (fun z => z) fun ⟨l, a, b⟩ => ⟨l, a, x0 _ _ b⟩⟩
  have hk : ∀ j ∈ [k], 0 ≤ j ∧ j < 120 := fun j hj => by cases List.mem_singleton.mp hj; exact ⟨k0, k1⟩
  walk_at "m_without_fall"
  refine ⟨D, L, false, _, [k], rfl, .inr ⟨l0, rfl, updO_same⟩, by simp, hk, hL, hLl, wy0, fun F ks G4 hF ex4 nd m eF => ?_⟩
  obtain ⟨out, hr, hm⟩ := reach_rise nd m
  walk_at "m_without_fall"
  refine r_lcF (notB out) (fun w => w) (by rw [List.length_map, sizeLine_eq]; omega) (fun _ _ => trivial) (fun i w G' q' ew ex5 hk => ?_) fun D2 G5 hD2 ex5 eD2 => ?_
  · obtain ⟨j, _, rfl⟩ := List.mem_map.mp (List.mem_of_getElem? ew)
    refine ⟨_, rfl, ?_⟩
    have hk := hk G' Ext.refl
    simp only [notB] at hk
    walk_at "m_without_fall"
    refine r_inD (ex5 _ _ eF) rfl ?_
    rw [keys_look]
    by_cases h : j ∈ out
    · have h' := (hm j).mp h
      simp only [m_V, m_kV, m_C, m_Op, m_kOp, m_kOp2, m_kBl, m_qOp, m_kCh2, m_kCh2f, m_kCh3, m_kCh1, m_kCh, m_Ch, m_qCh, m_oNone, m_oSome, m_kO, m_Sl, m_kSl, m_kSl1, m_kSl2, m_slT, m_qT, m_kTru, m_tB, m_tN, m_tI, m_tT, m_qA, m_qO, m_qN, m_kqAt, m_kqAf, m_kqOt, m_kqOf, m_kqN, m_qYes, m_A, m_Or, m_N, m_Neg, m_kAt, m_kAf, m_kOrt, m_kOrf, m_kN, m_kNeg, m_If, m_kIft, m_kIff, m_an, m_ac, m_kac, m_kac2, m_Tup, m_Lst, m_kTup, m_CB, m_kCB, m_pk1, m_pp, m_pkk, m_pd, m_pn, m_kX, m_Call, m_kC1, m_kC2, m_BM, m_BM0, m_kM1, m_Seq, m_Seq_nx, m_Seq_rt, m_Seq_bk, m_Seq_ct, m_Seq_ex, m_Next, m_Brk, m_Cont, m_Expr, m_kEx, m_Ret, m_RetN, m_SIf, m_kSIft, m_kSIff, m_Set, m_kSet, m_Par, m_kPar, m_Par3, m_kPar3, m_Asg, m_kAsg, m_gNm, m_kG, m_gNo, m_gMo, m_gTu, m_gSb, m_kGs, m_kGs2, m_kW2, m_Aug, m_kAug, m_kAu, m_kAu2, m_mk1, m_kMk, m_Raise, m_ends_rt, m_ends_ex, m_ends_nx, m_add, m_addB, m_sub, m_eqI, m_eqS, m_neI, m_neS, m_isB, m_isN, m_isNotN, m_nonN, m_nonR, m_nonT, m_nonI, m_nonS, m_nonB, m_lenT, m_lenK, m_tupT, m_max, m_min, m_intI, m_intB, m_pr0, m_pr, m_kpr, m_kpr2, m_Xf, m_Try, m_Try_nx, m_Try_rt, m_Try_bk, m_Try_ct, m_Try_ex, m_Suite_nx, m_Suite_rt, m_Suite_bk, m_Suite_ct, m_kXe, m_kXo, m_tlOf, m_For, m_Loop_nx, m_Loop_ct, m_Loop_bk, m_Loop_rt, m_Loop_ex, m_kB, m_iSeq, m_kItT, m_kItK, m_kItS, m_iRg1, m_iRg2, m_iEnu, m_kEnuK, m_iZp, m_kZpT, m_iRv, m_kRvT, m_Lc, m_kCell, m_kTurnT, m_kTurnF, m_wip0, m_wip1, m_Back, m_kBackT, m_rg1, m_kRgA, m_TupRg, m_LstRg, m_Dc, m_DturnT, m_DturnF, m_kDk, m_kDv, m_SSet, m_iRvR, m_At, m_Fst, m_kFs, m_Meth, m_kMe2, m_kMe3, m_Make, m_kMk1, m_kMade, m_ltI, m_geI, m_geP, m_isNotB, m_Get1, m_Get2, m_kGet2, m_Setd, m_kSd2, m_rg2, m_kRg2a, m_kRg2b, List.getElem?_cons_zero, List.getElem?_cons_succ, List.set_cons_zero, List.set_cons_succ, List.length_cons, List.length_nil, Nat.zero_add, Nat.reduceAdd, Nat.reduceLeDiff, Bool.not_true, Bool.not_false, mb_without_fall_5, mb_without_fall_4, mb_without_fall_3, mb_without_fall_2, h', decide_true, if_true]
      simpa [h] using hk
    · have h' : j ∉ ks := fun z => h ((hm j).mpr z)
      simp only [m_V, m_kV, m_C, m_Op, m_kOp, m_kOp2, m_kBl, m_qOp, m_kCh2, m_kCh2f, m_kCh3, m_kCh1, m_kCh, m_Ch, m_qCh, m_oNone, m_oSome, m_kO, m_Sl, m_kSl, m_kSl1, m_kSl2, m_slT, m_qT, m_kTru, m_tB, m_tN, m_tI, m_tT, m_qA, m_qO, m_qN, m_kqAt, m_kqAf, m_kqOt, m_kqOf, m_kqN, m_qYes, m_A, m_Or, m_N, m_Neg, m_kAt, m_kAf, m_kOrt, m_kOrf, m_kN, m_kNeg, m_If, m_kIft, m_kIff, m_an, m_ac, m_kac, m_kac2, m_Tup, m_Lst, m_kTup, m_CB, m_kCB, m_pk1, m_pp, m_pkk, m_pd, m_pn, m_kX, m_Call, m_kC1, m_kC2, m_BM, m_BM0, m_kM1, m_Seq, m_Seq_nx, m_Seq_rt, m_Seq_bk, m_Seq_ct, m_Seq_ex, m_Next, m_Brk, m_Cont, m_Expr, m_kEx, m_Ret, m_RetN, m_SIf, m_kSIft, m_kSIff, m_Set, m_kSet, m_Par, m_kPar, m_Par3, m_kPar3, m_Asg, m_kAsg, m_gNm, m_kG, m_gNo, m_gMo, m_gTu, m_gSb, m_kGs, m_kGs2, m_kW2, m_Aug, m_kAug, m_kAu, m_kAu2, m_mk1, m_kMk, m_Raise, m_ends_rt, m_ends_ex, m_ends_nx, m_add, m_addB, m_sub, m_eqI, m_eqS, m_neI, m_neS, m_isB, m_isN, m_isNotN, m_nonN, m_nonR, m_nonT, m_nonI, m_nonS, m_nonB, m_lenT, m_lenK, m_tupT, m_max, m_min, m_intI, m_intB, m_pr0, m_pr, m_kpr, m_kpr2, m_Xf, m_Try, m_Try_nx, m_Try_rt, m_Try_bk, m_Try_ct, m_Try_ex, m_Suite_nx, m_Suite_rt, m_Suite_bk, m_Suite_ct, m_kXe, m_kXo, m_tlOf, m_For, m_Loop_nx, m_Loop_ct, m_Loop_bk, m_Loop_rt, m_Loop_ex, m_kB, m_iSeq, m_kItT, m_kItK, m_kItS, m_iRg1, m_iRg2, m_iEnu, m_kEnuK, m_iZp, m_kZpT, m_iRv, m_kRvT, m_Lc, m_kCell, m_kTurnT, m_kTurnF, m_wip0, m_wip1, m_Back, m_kBackT, m_rg1, m_kRgA, m_TupRg, m_LstRg, m_Dc, m_DturnT, m_DturnF, m_kDk, m_kDv, m_SSet, m_iRvR, m_At, m_Fst, m_kFs, m_Meth, m_kMe2, m_kMe3, m_Make, m_kMk1, m_kMade, m_ltI, m_geI, m_geP, m_isNotB, m_Get1, m_Get2, m_kGet2, m_Setd, m_kSd2, m_rg2, m_kRg2a, m_kRg2b, List.getElem?_cons_zero, List.getElem?_cons_succ, List.set_cons_zero, List.set_cons_succ, List.length_cons, List.length_nil, Nat.zero_add, Nat.reduceAdd, Nat.reduceLeDiff, Bool.not_true, Bool.not_false, mb_without_fall_5, mb_without_fall_4, mb_without_fall_3, mb_without_fall_2, h', decide_false, if_true]
      simpa [h] using hk
  rw [filt_ints (fun i => decide (i ∉ out)) (notB out) fun i => rfl] at eD2
  walk_at "m_without_fall"
  refine r_tupL (.inl eD2) ?_
  exact h4 L ns k rfl rfl rfl e hL cf k0 k1 out G5 hr (((((ex.trans ex2).trans ex3).trans x0).trans ex4).trans ex5)
set_option maxHeartbeats 0 in
theorem ok_without_fall {P : Program} {w : World} {K : PySem.W.Frag} {mg : Str → Option Value} {base : Heap} (T : Txt K mg) : FnW P w K mg base 5 T.f_without_fall T.fd_without_fall ["links", "parts", "number"] (sp_without_fall T) :=
  fnW_of (t := t_without_fall T) T.F_without_fall sc_without_fall (len_without_fall T) (fun cdv A outer s H E hr => (zs_cons (z_expr (z_call (sel := [.p 0, .d 0]) (dws := [.int 120]) (ok_need_links T) (hr.mono (by decide)) rfl T.m_need_links T.F_need_links.kp (bindD T.F_need_links (fun z => nomatch z) (fun _ => (.cons (.int _) .nil)) fun _ _ _ _ _ _ _ us uk its h1 h2 h3 => match us, h1, uk, h2, its, h3 with | [_], _, [], _, [_], _ => ⟨_, rfl, rfl⟩) (takes_of rfl rfl rfl rfl) (z_acons (z_var (i := 0) rfl (by first | exact .inl rfl | exact .inr (.inl rfl) | exact .inr (.inr rfl))) (z_anil)))) (zs_cons (z_expr (z_call (sel := [.p 0, .d 0, .d 1]) (dws := [.str "parts", .int 120]) (ok_need_parts T) (hr.mono (by decide)) rfl T.m_need_parts T.F_need_parts.kp (bindD T.F_need_parts (fun z => nomatch z) (fun _ => (.cons (.str _) (.cons (.int _) .nil))) fun _ _ _ _ _ _ _ us uk its h1 h2 h3 => match us, h1, uk, h2, its, h3 with | [_], _, [], _, [_, _], _ => ⟨_, rfl, rfl⟩) (takes_of rfl rfl rfl rfl) (z_acons (z_var (i := 1) rfl (by first | exact .inl rfl | exact .inr (.inl rfl) | exact .inr (.inr rfl))) (z_anil)))) (zs_cons (z_expr (z_call (sel := [.p 0]) (dws := []) (ok_need_number T) (hr.mono (by decide)) rfl T.m_need_number T.F_need_number.kp (bind0 T.F_need_number fun _ _ _ _ _ _ us uk h1 h2 => match us, h1, uk, h2 with | [_], _, [], _ => rfl) (takes_of rfl rfl rfl rfl) (z_acons (z_var (i := 2) rfl (by first | exact .inl rfl | exact .inr (.inl rfl) | exact .inr (.inr rfl))) (z_anil)))) (zs_cons (z_set (i := 3) sc_without_fall.nd rfl (by first | exact .inl rfl | exact .inr rfl) (z_call (sel := [.p 0, .p 1]) (dws := []) (ok_reached T) (hr.mono (by decide)) rfl T.m_reached T.F_reached.kp (bind0 T.F_reached fun _ _ _ _ _ _ us uk h1 h2 => match us, h1, uk, h2 with | [_, _], _, [], _ => rfl) (takes_of rfl rfl rfl rfl) (z_acons (z_call (sel := [.p 0, .p 1]) (dws := []) (ok_ways_of_links T) (hr.mono (by decide)) rfl T.m_ways_of_links T.F_ways_of_links.kp (bind0 T.F_ways_of_links fun _ _ _ _ _ _ us uk h1 h2 => match us, h1, uk, h2 with | [_, _], _, [], _ => rfl) (takes_of rfl rfl rfl rfl) (z_acons (z_var (i := 0) rfl (by first | exact .inl rfl | exact .inr (.inl rfl) | exact .inr (.inr rfl))) (z_acons (z_bl) (z_anil)))) (z_acons (z_lst (z_acons (z_var (i := 2) rfl (by first | exact .inl rfl | exact .inr (.inl rfl) | exact .inr (.inr rfl))) (z_anil))) (z_anil))))) (zs_one (z_ret (z_callT w_tuple rfl T.n_tuple boot_tuple (z_acons (z_lc (is := [4]) (own := [("one", 4)]) rfl sc_without_fall.nd (zi_seq (z_var (i := 1) rfl (by first | exact .inl rfl | exact .inr (.inl rfl) | exact .inr (.inr rfl)))) (blkOk_by rfl) (fun _ _ _ _ _ => pg_name sc_without_fall.nd rfl (by first | exact .inl rfl | exact .inr rfl)) (fun _ _ _ _ _ => zq_one (z_qcmp (w_notinA (hr).un65) (z_var (i := 4) rfl (by first | exact .inl rfl | exact .inr (.inl rfl) | exact .inr (.inr rfl))) (z_var (i := 3) rfl (by first | exact .inl rfl | exact .inr (.inl rfl) | exact .inr (.inr rfl))) (by rfl))) (fun _ _ _ _ _ => z_var (i := 4) rfl (by first | exact .inl rfl | exact .inr (.inl rfl) | exact .inr (.inr rfl))) (by decide)) (z_anil)))))))))) (pf_without_fall T)

/-! ### fall -/
theorem sc_fall : FnScope ["links", "number"] ["links", "number"] (defScope s_fall) := ⟨rfl, rfl, rfl, by decide +kernel, rfl, by decide +kernel, by decide +kernel⟩
def sp_fall {K : PySem.W.Frag} {mg : Str → Option Value} (T : Txt K mg) : SpW := SpFall K T.C_BadValue
theorem len_fall {K : PySem.W.Frag} {mg : Str → Option Value} (T : Txt K mg) (ws : List Wv) (G : HW) (q : WK) (x : XE) (h : sp_fall T ws G q x) : ws.length = 2 := by
  obtain ⟨w, y, rfl, _⟩ := h
  rfl
def b_fall_3 {K : PySem.W.Frag} {mg : Str → Option Value} (T : Txt K mg) : ST := sRet (eCB wTuple (aCons (eCB wSrt (aCons (eCall 2 0 [.p 0, .p 1] [] (sp_reached T) (aCons (eCall 2 0 [.p 0, .p 1] [] (sp_ways_of_links T) (aCons (eV 0) (aCons (eC (.bl false)) (aNil))) aNil) (aCons (eLst (aCons (eV 1) (aNil))) (aNil))) aNil) (aNil))) (aNil)))
theorem mb_fall_3 {K : PySem.W.Frag} {mg : Str → Option Value} (T : Txt K mg) (D : EndsW) (σ : SW) (G : HW) : b_fall_3 T D σ G = (sRet (eCB wTuple (aCons (eCB wSrt (aCons (eCall 2 0 [.p 0, .p 1] [] (sp_reached T) (aCons (eCall 2 0 [.p 0, .p 1] [] (sp_ways_of_links T) (aCons (eV 0) (aCons (eC (.bl false)) (aNil))) aNil) (aCons (eLst (aCons (eV 1) (aNil))) (aNil))) aNil) (aNil))) (aNil)))) D σ G := rfl
def b_fall_2 {K : PySem.W.Frag} {mg : Str → Option Value} (T : Txt K mg) : ST := sSeq (sExpr (eCall 1 0 [.p 0] [] (sp_need_number T) (aCons (eV 1) (aNil)) aNil)) (b_fall_3 T)
theorem mb_fall_2 {K : PySem.W.Frag} {mg : Str → Option Value} (T : Txt K mg) (D : EndsW) (σ : SW) (G : HW) : b_fall_2 T D σ G = (sSeq (sExpr (eCall 1 0 [.p 0] [] (sp_need_number T) (aCons (eV 1) (aNil)) aNil)) (b_fall_3 T)) D σ G := rfl
def t_fall {K : PySem.W.Frag} {mg : Str → Option Value} (T : Txt K mg) : ST := sSeq (sExpr (eCall 1 0 [.p 0, .d 0] [.int 120] (sp_need_links T) (aCons (eV 0) (aNil)) aNil)) (b_fall_2 T)
local macro_rules | `(tactic| walk_at "m_fall") => `(tactic| simp only [m_V, m_kV, m_C, m_Op, m_kOp, m_kOp2, m_kBl, m_qOp, m_kCh2, m_kCh2f, m_kCh3, m_kCh1, m_kCh, m_Ch, m_qCh, m_oNone, m_oSome, m_kO, m_Sl, m_kSl, m_kSl1, m_kSl2, m_slT, m_qT, m_kTru, m_tB, m_tN, m_tI, m_tT, m_qA, m_qO, m_qN, m_kqAt, m_kqAf, m_kqOt, m_kqOf, m_kqN, m_qYes, m_A, m_Or, m_N, m_Neg, m_kAt, m_kAf, m_kOrt, m_kOrf, m_kN, m_kNeg, m_If, m_kIft, m_kIff, m_an, m_ac, m_kac, m_kac2, m_Tup, m_Lst, m_kTup, m_CB, m_kCB, m_pk1, m_pp, m_pkk, m_pd, m_pn, m_kX, m_Call, m_kC1, m_kC2, m_BM, m_BM0, m_kM1, m_Seq, m_Seq_nx, m_Seq_rt, m_Seq_bk, m_Seq_ct, m_Seq_ex, m_Next, m_Brk, m_Cont, m_Expr, m_kEx, m_Ret, m_RetN, m_SIf, m_kSIft, m_kSIff, m_Set, m_kSet, m_Par, m_kPar, m_Par3, m_kPar3, m_Asg, m_kAsg, m_gNm, m_kG, m_gNo, m_gMo, m_gTu, m_gSb, m_kGs, m_kGs2, m_kW2, m_Aug, m_kAug, m_kAu, m_kAu2, m_mk1, m_kMk, m_Raise, m_ends_rt, m_ends_ex, m_ends_nx, m_add, m_addB, m_sub, m_eqI, m_eqS, m_neI, m_neS, m_isB, m_isN, m_isNotN, m_nonN, m_nonR, m_nonT, m_nonI, m_nonS, m_nonB, m_lenT, m_lenK, m_tupT, m_max, m_min, m_intI, m_intB, m_pr0, m_pr, m_kpr, m_kpr2, m_Xf, m_Try, m_Try_nx, m_Try_rt, m_Try_bk, m_Try_ct, m_Try_ex, m_Suite_nx, m_Suite_rt, m_Suite_bk, m_Suite_ct, m_kXe, m_kXo, m_tlOf, m_For, m_Loop_nx, m_Loop_ct, m_Loop_bk, m_Loop_rt, m_Loop_ex, m_kB, m_iSeq, m_kItT, m_kItK, m_kItS, m_iRg1, m_iRg2, m_iEnu, m_kEnuK, m_iZp, m_kZpT, m_iRv, m_kRvT, m_Lc, m_kCell, m_kTurnT, m_kTurnF, m_wip0, m_wip1, m_Back, m_kBackT, m_rg1, m_kRgA, m_TupRg, m_LstRg, m_Dc, m_DturnT, m_DturnF, m_kDk, m_kDv, m_SSet, m_iRvR, m_At, m_Fst, m_kFs, m_Meth, m_kMe2, m_kMe3, m_Make, m_kMk1, m_kMade, m_ltI, m_geI, m_geP, m_isNotB, m_Get1, m_Get2, m_kGet2, m_Setd, m_kSd2, m_rg2, m_kRg2a, m_kRg2b, List.getElem?_cons_zero, List.getElem?_cons_succ, List.set_cons_zero, List.set_cons_succ, List.length_cons, List.length_nil, Nat.zero_add, Nat.reduceAdd, Nat.reduceLeDiff, Bool.not_true, Bool.not_false, mb_fall_3, mb_fall_2])
theorem pf_fall {K : PySem.W.Frag} {mg : Str → Option Value} (T : Txt K mg) (ws : List Wv) (G : HW) (q : WK) (x : XE) (h : sp_fall T ws G q x) : t_fall T (endsW q x) (startW ["links", "number"] ws) G := by
  obtain ⟨w, y, rfl, kw, ky, h1, h2, h3⟩ := h
  show t_fall T (endsW q x) [some (w), some (y)] G
  unfold t_fall
  walk_at "m_fall"
  refine ⟨w, 120, rfl, kw, fun e G1 ex => ?_, fun e G1 ex => by walk_at "m_fall"; exact h1 e G1 ex⟩
  walk_at "m_fall"
  refine ⟨y, rfl, ky.ext ex, fun e2 => ?_, fun e2 => by walk_at "m_fall"; exact h2 e e2 G1 ex⟩
  obtain ⟨L, rfl, hL⟩ := lks_of e
  obtain ⟨k, rfl, k0, k1⟩ := wh_119 e2
  have hLl : L.length ≤ 100000 := by have := (kw.2 _ rfl).1; rwa [List.length_map] at this
  walk_at "m_fall"
  refine ⟨L, false, rfl, hLl, fun D G3 hD ex3 wy => ?_⟩
  walk_at "m_fall"
  refine r_lst' fun l0 hl0 => ?_
  have x0 := Ext.new (o := .lst [.int k]) hl0
  have wy0 : Ways (updO G3 l0 (.lst [.int k])) D L false := by
    obtain ⟨kvs, w1, w2, w3⟩ := wy
    exact ⟨kvs, x0 _ _ w1, w2, fun j => (w3 j).imp (fun z => z) fun ⟨l, a, b⟩ => ⟨l, a, x0 _ _ b⟩⟩
  have hk : ∀ j ∈ [k], 0 ≤ j ∧ j < 120 := fun j hj => by cases List.mem_singleton.mp hj; exact ⟨k0, k1⟩
  walk_at "m_fall"
  refine ⟨D, L, false, _, [k], rfl, .inr ⟨l0, rfl, updO_same⟩, by simp, hk, hL, hLl, wy0, fun F ks G4 hF ex4 nd m eF => ?_⟩
  have kl := reach_len nd m hL hk
  walk_at "m_fall"
  refine r_sortedD eF (keys_ints ks) (by rw [List.length_map, sizeLine_eq]; omega) fun out hp hs l hl => ?_
  walk_at "m_fall"
  refine r_tupL (.inl updO_same) ?_
  exact h3 L k rfl rfl e hL k0 k1 out _ (reach_sorted nd m hp hs) ((((ex.trans ex3).trans x0).trans ex4).trans (Ext.new hl))
set_option maxHeartbeats 0 in
theorem ok_fall {P : Program} {w : World} {K : PySem.W.Frag} {mg : Str → Option Value} {base : Heap} (T : Txt K mg) : FnW P w K mg base 5 T.f_fall T.fd_fall ["links", "number"] (sp_fall T) :=
  fnW_of (t := t_fall T) T.F_fall sc_fall (len_fall T) (fun cdv A outer s H E hr => (zs_cons (z_expr (z_call (sel := [.p 0, .d 0]) (dws := [.int 120]) (ok_need_links T) (hr.mono (by decide)) rfl T.m_need_links T.F_need_links.kp (bindD T.F_need_links (fun z => nomatch z) (fun _ => (.cons (.int _) .nil)) fun _ _ _ _ _ _ _ us uk its h1 h2 h3 => match us, h1, uk, h2, its, h3 with | [_], _, [], _, [_], _ => ⟨_, rfl, rfl⟩) (takes_of rfl rfl rfl rfl) (z_acons (z_var (i := 0) rfl (by first | exact .inl rfl | exact .inr (.inl rfl) | exact .inr (.inr rfl))) (z_anil)))) (zs_cons (z_expr (z_call (sel := [.p 0]) (dws := []) (ok_need_number T) (hr.mono (by decide)) rfl T.m_need_number T.F_need_number.kp (bind0 T.F_need_number fun _ _ _ _ _ _ us uk h1 h2 => match us, h1, uk, h2 with | [_], _, [], _ => rfl) (takes_of rfl rfl rfl rfl) (z_acons (z_var (i := 1) rfl (by first | exact .inl rfl | exact .inr (.inl rfl) | exact .inr (.inr rfl))) (z_anil)))) (zs_one (z_ret (z_callT w_tuple rfl T.n_tuple boot_tuple (z_acons (z_callB (w_srt rfl) rfl T.n_sorted boot_sorted (z_acons (z_call (sel := [.p 0, .p 1]) (dws := []) (ok_reached T) (hr.mono (by decide)) rfl T.m_reached T.F_reached.kp (bind0 T.F_reached fun _ _ _ _ _ _ us uk h1 h2 => match us, h1, uk, h2 with | [_, _], _, [], _ => rfl) (takes_of rfl rfl rfl rfl) (z_acons (z_call (sel := [.p 0, .p 1]) (dws := []) (ok_ways_of_links T) (hr.mono (by decide)) rfl T.m_ways_of_links T.F_ways_of_links.kp (bind0 T.F_ways_of_links fun _ _ _ _ _ _ us uk h1 h2 => match us, h1, uk, h2 with | [_, _], _, [], _ => rfl) (takes_of rfl rfl rfl rfl) (z_acons (z_var (i := 0) rfl (by first | exact .inl rfl | exact .inr (.inl rfl) | exact .inr (.inr rfl))) (z_acons (z_bl) (z_anil)))) (z_acons (z_lst (z_acons (z_var (i := 1) rfl (by first | exact .inl rfl | exact .inr (.inl rfl) | exact .inr (.inr rfl))) (z_anil))) (z_anil)))) (z_anil))) (z_anil)))))))) (pf_fall T)

/-! ### _law_mixed -/
theorem sc__law_mixed : FnScope ["_law_cell", "_law_k", "_law_turned"] ["_law_cell", "_law_k"] (defScope s__law_mixed) := ⟨rfl, rfl, rfl, by decide +kernel, rfl, by decide +kernel, by decide +kernel⟩
def sp__law_mixed {K : PySem.W.Frag} {mg : Str → Option Value} (T : Txt K mg) : SpW := SpMixed
theorem len__law_mixed {K : PySem.W.Frag} {mg : Str → Option Value} (T : Txt K mg) (ws : List Wv) (G : HW) (q : WK) (x : XE) (h : sp__law_mixed T ws G q x) : ws.length = 2 := by
  obtain ⟨c, k, rfl, _⟩ := h
  rfl
def b__law_mixed_2 {K : PySem.W.Frag} {mg : Str → Option Value} (T : Txt K mg) : ST := sRet (eOp oDiv (eOp oMod (eOp wMul (eV 2) (eC (.int 69621))) (eC (.int 2147483629))) (eC (.int 7)))
theorem mb__law_mixed_2 {K : PySem.W.Frag} {mg : Str → Option Value} (T : Txt K mg) (D : EndsW) (σ : SW) (G : HW) : b__law_mixed_2 T D σ G = (sRet (eOp oDiv (eOp oMod (eOp wMul (eV 2) (eC (.int 69621))) (eC (.int 2147483629))) (eC (.int 7)))) D σ G := rfl
def t__law_mixed {K : PySem.W.Frag} {mg : Str → Option Value} (T : Txt K mg) : ST := sSeq (sSet 2 (eOp wAdd (eOp wAdd (eOp oMod (eOp wMul (eOp wMul (eV 0) (eOp wAdd (eC (.int 1)) (eOp wMul (eC (.int 2)) (eV 1)))) (eC (.int 48271))) (eC (.int 2147483647))) (eOp wMul (eOp wMul (eC (.int 7919)) (eV 1)) (eV 1))) (eOp wMul (eC (.int 104729)) (eV 1)))) (b__law_mixed_2 T)
local macro_rules | `(tactic| walk_at "m__law_mixed") => `(tactic| simp only [m_V, m_kV, m_C, m_Op, m_kOp, m_kOp2, m_kBl, m_qOp, m_kCh2, m_kCh2f, m_kCh3, m_kCh1, m_kCh, m_Ch, m_qCh, m_oNone, m_oSome, m_kO, m_Sl, m_kSl, m_kSl1, m_kSl2, m_slT, m_qT, m_kTru, m_tB, m_tN, m_tI, m_tT, m_qA, m_qO, m_qN, m_kqAt, m_kqAf, m_kqOt, m_kqOf, m_kqN, m_qYes, m_A, m_Or, m_N, m_Neg, m_kAt, m_kAf, m_kOrt, m_kOrf, m_kN, m_kNeg, m_If, m_kIft, m_kIff, m_an, m_ac, m_kac, m_kac2, m_Tup, m_Lst, m_kTup, m_CB, m_kCB, m_pk1, m_pp, m_pkk, m_pd, m_pn, m_kX, m_Call, m_kC1, m_kC2, m_BM, m_BM0, m_kM1, m_Seq, m_Seq_nx, m_Seq_rt, m_Seq_bk, m_Seq_ct, m_Seq_ex, m_Next, m_Brk, m_Cont, m_Expr, m_kEx, m_Ret, m_RetN, m_SIf, m_kSIft, m_kSIff, m_Set, m_kSet, m_Par, m_kPar, m_Par3, m_kPar3, m_Asg, m_kAsg, m_gNm, m_kG, m_gNo, m_gMo, m_gTu, m_gSb, m_kGs, m_kGs2, m_kW2, m_Aug, m_kAug, m_kAu, m_kAu2, m_mk1, m_kMk, m_Raise, m_ends_rt, m_ends_ex, m_ends_nx, m_add, m_addB, m_sub, m_eqI, m_eqS, m_neI, m_neS, m_isB, m_isN, m_isNotN, m_nonN, m_nonR, m_nonT, m_nonI, m_nonS, m_nonB, m_lenT, m_lenK, m_tupT, m_max, m_min, m_intI, m_intB, m_pr0, m_pr, m_kpr, m_kpr2, m_Xf, m_Try, m_Try_nx, m_Try_rt, m_Try_bk, m_Try_ct, m_Try_ex, m_Suite_nx, m_Suite_rt, m_Suite_bk, m_Suite_ct, m_kXe, m_kXo, m_tlOf, m_For, m_Loop_nx, m_Loop_ct, m_Loop_bk, m_Loop_rt, m_Loop_ex, m_kB, m_iSeq, m_kItT, m_kItK, m_kItS, m_iRg1, m_iRg2, m_iEnu, m_kEnuK, m_iZp, m_kZpT, m_iRv, m_kRvT, m_Lc, m_kCell, m_kTurnT, m_kTurnF, m_wip0, m_wip1, m_Back, m_kBackT, m_rg1, m_kRgA, m_TupRg, m_LstRg, m_Dc, m_DturnT, m_DturnF, m_kDk, m_kDv, m_SSet, m_iRvR, m_At, m_Fst, m_kFs, m_Meth, m_kMe2, m_kMe3, m_Make, m_kMk1, m_kMade, m_ltI, m_geI, m_geP, m_isNotB, m_Get1, m_Get2, m_kGet2, m_Setd, m_kSd2, m_rg2, m_kRg2a, m_kRg2b, List.getElem?_cons_zero, List.getElem?_cons_succ, List.set_cons_zero, List.set_cons_succ, List.length_cons, List.length_nil, Nat.zero_add, Nat.reduceAdd, Nat.reduceLeDiff, Bool.not_true, Bool.not_false, mb__law_mixed_2])
theorem pf__law_mixed {K : PySem.W.Frag} {mg : Str → Option Value} (T : Txt K mg) (ws : List Wv) (G : HW) (q : WK) (x : XE) (h : sp__law_mixed T ws G q x) : t__law_mixed T (endsW q x) (startW ["_law_cell", "_law_k", "_law_turned"] ws) G := by
  obtain ⟨c, k, rfl, k0, k1, hq⟩ := h
  show t__law_mixed T (endsW q x) [some (.int c), some (.int k), none] G
  unfold t__law_mixed
  walk_at "m__law_mixed"
  refine r_mul (.inr ⟨by omega, by omega⟩) ?_
  walk_at "m__law_mixed"
  refine r_mul (.inr ⟨by omega, by omega⟩) ?_
  walk_at "m__law_mixed"
  refine r_mul (.inr ⟨by omega, by omega⟩) ?_
  walk_at "m__law_mixed"
  refine r_int (by omega) ?_
  walk_at "m__law_mixed"
  refine r_mul (.inr ⟨by omega, by omega⟩) ?_
  walk_at "m__law_mixed"
  refine r_mul (.inr ⟨by omega, by omega⟩) ?_
  walk_at "m__law_mixed"
  refine r_mul (.inr ⟨by omega, by omega⟩) ?_
  walk_at "m__law_mixed"
  refine r_mul (.inr ⟨by omega, by omega⟩) ?_
  walk_at "m__law_mixed"
  refine r_int (by omega) ?_
  walk_at "m__law_mixed"
  refine r_int ⟨by omega, by omega⟩ ?_
  refine hq _ ?_
  exact Int.ediv_nonneg (Int.emod_nonneg _ (by omega)) (by omega)
set_option maxHeartbeats 0 in
theorem ok__law_mixed {P : Program} {w : World} {K : PySem.W.Frag} {mg : Str → Option Value} {base : Heap} (T : Txt K mg) : FnW P w K mg base 1 T.f__law_mixed T.fd__law_mixed ["_law_cell", "_law_k"] (sp__law_mixed T) :=
  fnW_of (t := t__law_mixed T) T.F__law_mixed sc__law_mixed (len__law_mixed T) (fun cdv A outer s H E hr => (zs_cons (z_set (i := 2) sc__law_mixed.nd rfl (by first | exact .inl rfl | exact .inr rfl) (z_bin w_add (z_bin w_add (z_bin w_mod (z_bin w_mul (z_bin w_mul (z_var (i := 0) rfl (by first | exact .inl rfl | exact .inr (.inl rfl) | exact .inr (.inr rfl))) (z_bin w_add (z_int) (z_bin w_mul (z_int) (z_var (i := 1) rfl (by first | exact .inl rfl | exact .inr (.inl rfl) | exact .inr (.inr rfl)))))) (z_int)) (z_int)) (z_bin w_mul (z_bin w_mul (z_int) (z_var (i := 1) rfl (by first | exact .inl rfl | exact .inr (.inl rfl) | exact .inr (.inr rfl)))) (z_var (i := 1) rfl (by first | exact .inl rfl | exact .inr (.inl rfl) | exact .inr (.inr rfl))))) (z_bin w_mul (z_int) (z_var (i := 1) rfl (by first | exact .inl rfl | exact .inr (.inl rfl) | exact .inr (.inr rfl)))))) (zs_one (z_ret (z_bin w_fdiv (z_bin w_mod (z_bin w_mul (z_var (i := 2) rfl (by first | exact .inl rfl | exact .inr (.inl rfl) | exact .inr (.inr rfl))) (z_int)) (z_int)) (z_int)))))) (pf__law_mixed T)

/-! ### _law_draw -/
theorem sc__law_draw : FnScope ["_law_m", "_law_top", "_law_k", "_law_spot", "_law_cell"] ["_law_m", "_law_top"] (defScope s__law_draw) := ⟨rfl, rfl, rfl, by decide +kernel, rfl, by decide +kernel, by decide +kernel⟩
def sp__law_draw {K : PySem.W.Frag} {mg : Str → Option Value} (T : Txt K mg) : SpW := SpDraw
theorem len__law_draw {K : PySem.W.Frag} {mg : Str → Option Value} (T : Txt K mg) (ws : List Wv) (G : HW) (q : WK) (x : XE) (h : sp__law_draw T ws G q x) : ws.length = 2 := by
  obtain ⟨m, a, b, top, n, rfl, _⟩ := h
  rfl
def b__law_draw_9 {K : PySem.W.Frag} {mg : Str → Option Value} (T : Txt K mg) : ST := sRet (eOp oMod (eCall 2 0 [.p 0, .p 1] [] (sp__law_mixed T) (aCons (eCall 2 0 [.p 0, .p 1] [] (sp__law_mixed T) (aCons (eOp wAdd (eOp wIx (eOp wIx (eV 0) (eC (.str "cells"))) (eOp oMod (eV 2) (eC (.int 64)))) (eOp wMul (eC (.int 31)) (eOp oDiv (eV 2) (eC (.int 64))))) (aCons (eV 2) (aNil))) aNil) (aCons (eOp wAdd (eV 2) (eC (.int 7))) (aNil))) aNil) (eV 1))
theorem mb__law_draw_9 {K : PySem.W.Frag} {mg : Str → Option Value} (T : Txt K mg) (D : EndsW) (σ : SW) (G : HW) : b__law_draw_9 T D σ G = (sRet (eOp oMod (eCall 2 0 [.p 0, .p 1] [] (sp__law_mixed T) (aCons (eCall 2 0 [.p 0, .p 1] [] (sp__law_mixed T) (aCons (eOp wAdd (eOp wIx (eOp wIx (eV 0) (eC (.str "cells"))) (eOp oMod (eV 2) (eC (.int 64)))) (eOp wMul (eC (.int 31)) (eOp oDiv (eV 2) (eC (.int 64))))) (aCons (eV 2) (aNil))) aNil) (aCons (eOp wAdd (eV 2) (eC (.int 7))) (aNil))) aNil) (eV 1))) D σ G := rfl
def b__law_draw_8 {K : PySem.W.Frag} {mg : Str → Option Value} (T : Txt K mg) : ST := sRet (eOp oMod (eV 4) (eV 1))
theorem mb__law_draw_8 {K : PySem.W.Frag} {mg : Str → Option Value} (T : Txt K mg) (D : EndsW) (σ : SW) (G : HW) : b__law_draw_8 T D σ G = (sRet (eOp oMod (eV 4) (eV 1))) D σ G := rfl
def b__law_draw_7 {K : PySem.W.Frag} {mg : Str → Option Value} (T : Txt K mg) : ST := sSeq (sAsg (eOp oDiv (eV 4) (eV 1)) (gSb (eOp wIx (eV 0) (eC (.str "left"))) (eV 3))) (b__law_draw_8 T)
theorem mb__law_draw_7 {K : PySem.W.Frag} {mg : Str → Option Value} (T : Txt K mg) (D : EndsW) (σ : SW) (G : HW) : b__law_draw_7 T D σ G = (sSeq (sAsg (eOp oDiv (eV 4) (eV 1)) (gSb (eOp wIx (eV 0) (eC (.str "left"))) (eV 3))) (b__law_draw_8 T)) D σ G := rfl
def b__law_draw_6 {K : PySem.W.Frag} {mg : Str → Option Value} (T : Txt K mg) : ST := sIf (qOp oGt (eV 4) (eC (.int 0))) (b__law_draw_7 T) (sNext)
theorem mb__law_draw_6 {K : PySem.W.Frag} {mg : Str → Option Value} (T : Txt K mg) (D : EndsW) (σ : SW) (G : HW) : b__law_draw_6 T D σ G = (sIf (qOp oGt (eV 4) (eC (.int 0))) (b__law_draw_7 T) (sNext)) D σ G := rfl
def b__law_draw_5 {K : PySem.W.Frag} {mg : Str → Option Value} (T : Txt K mg) : ST := sSeq (sSet 4 (eOp wIx (eOp wIx (eV 0) (eC (.str "left"))) (eV 3))) (b__law_draw_6 T)
theorem mb__law_draw_5 {K : PySem.W.Frag} {mg : Str → Option Value} (T : Txt K mg) (D : EndsW) (σ : SW) (G : HW) : b__law_draw_5 T D σ G = (sSeq (sSet 4 (eOp wIx (eOp wIx (eV 0) (eC (.str "left"))) (eV 3))) (b__law_draw_6 T)) D σ G := rfl
def b__law_draw_4 {K : PySem.W.Frag} {mg : Str → Option Value} (T : Txt K mg) : ST := sSeq (sSet 3 (eOp oMod (eV 2) (eCB wLen (aCons (eOp wIx (eV 0) (eC (.str "left"))) (aNil))))) (b__law_draw_5 T)
theorem mb__law_draw_4 {K : PySem.W.Frag} {mg : Str → Option Value} (T : Txt K mg) (D : EndsW) (σ : SW) (G : HW) : b__law_draw_4 T D σ G = (sSeq (sSet 3 (eOp oMod (eV 2) (eCB wLen (aCons (eOp wIx (eV 0) (eC (.str "left"))) (aNil))))) (b__law_draw_5 T)) D σ G := rfl
def b__law_draw_3 {K : PySem.W.Frag} {mg : Str → Option Value} (T : Txt K mg) : ST := sSeq (sIf (qOp wNe (eOp wIx (eV 0) (eC (.str "left"))) (eLst (aNil))) (b__law_draw_4 T) (sNext)) (b__law_draw_9 T)
theorem mb__law_draw_3 {K : PySem.W.Frag} {mg : Str → Option Value} (T : Txt K mg) (D : EndsW) (σ : SW) (G : HW) : b__law_draw_3 T D σ G = (sSeq (sIf (qOp wNe (eOp wIx (eV 0) (eC (.str "left"))) (eLst (aNil))) (b__law_draw_4 T) (sNext)) (b__law_draw_9 T)) D σ G := rfl
def b__law_draw_2 {K : PySem.W.Frag} {mg : Str → Option Value} (T : Txt K mg) : ST := sSeq (sAsg (eOp wAdd (eV 2) (eC (.int 1))) (gSb (eV 0) (eC (.str "spot")))) (b__law_draw_3 T)
theorem mb__law_draw_2 {K : PySem.W.Frag} {mg : Str → Option Value} (T : Txt K mg) (D : EndsW) (σ : SW) (G : HW) : b__law_draw_2 T D σ G = (sSeq (sAsg (eOp wAdd (eV 2) (eC (.int 1))) (gSb (eV 0) (eC (.str "spot")))) (b__law_draw_3 T)) D σ G := rfl
def t__law_draw {K : PySem.W.Frag} {mg : Str → Option Value} (T : Txt K mg) : ST := sSeq (sSet 2 (eOp wIx (eV 0) (eC (.str "spot")))) (b__law_draw_2 T)
local macro_rules | `(tactic| walk_at "m__law_draw") => `(tactic| simp only [m_V, m_kV, m_C, m_Op, m_kOp, m_kOp2, m_kBl, m_qOp, m_kCh2, m_kCh2f, m_kCh3, m_kCh1, m_kCh, m_Ch, m_qCh, m_oNone, m_oSome, m_kO, m_Sl, m_kSl, m_kSl1, m_kSl2, m_slT, m_qT, m_kTru, m_tB, m_tN, m_tI, m_tT, m_qA, m_qO, m_qN, m_kqAt, m_kqAf, m_kqOt, m_kqOf, m_kqN, m_qYes, m_A, m_Or, m_N, m_Neg, m_kAt, m_kAf, m_kOrt, m_kOrf, m_kN, m_kNeg, m_If, m_kIft, m_kIff, m_an, m_ac, m_kac, m_kac2, m_Tup, m_Lst, m_kTup, m_CB, m_kCB, m_pk1, m_pp, m_pkk, m_pd, m_pn, m_kX, m_Call, m_kC1, m_kC2, m_BM, m_BM0, m_kM1, m_Seq, m_Seq_nx, m_Seq_rt, m_Seq_bk, m_Seq_ct, m_Seq_ex, m_Next, m_Brk, m_Cont, m_Expr, m_kEx, m_Ret, m_RetN, m_SIf, m_kSIft, m_kSIff, m_Set, m_kSet, m_Par, m_kPar, m_Par3, m_kPar3, m_Asg, m_kAsg, m_gNm, m_kG, m_gNo, m_gMo, m_gTu, m_gSb, m_kGs, m_kGs2, m_kW2, m_Aug, m_kAug, m_kAu, m_kAu2, m_mk1, m_kMk, m_Raise, m_ends_rt, m_ends_ex, m_ends_nx, m_add, m_addB, m_sub, m_eqI, m_eqS, m_neI, m_neS, m_isB, m_isN, m_isNotN, m_nonN, m_nonR, m_nonT, m_nonI, m_nonS, m_nonB, m_lenT, m_lenK, m_tupT, m_max, m_min, m_intI, m_intB, m_pr0, m_pr, m_kpr, m_kpr2, m_Xf, m_Try, m_Try_nx, m_Try_rt, m_Try_bk, m_Try_ct, m_Try_ex, m_Suite_nx, m_Suite_rt, m_Suite_bk, m_Suite_ct, m_kXe, m_kXo, m_tlOf, m_For, m_Loop_nx, m_Loop_ct, m_Loop_bk, m_Loop_rt, m_Loop_ex, m_kB, m_iSeq, m_kItT, m_kItK, m_kItS, m_iRg1, m_iRg2, m_iEnu, m_kEnuK, m_iZp, m_kZpT, m_iRv, m_kRvT, m_Lc, m_kCell, m_kTurnT, m_kTurnF, m_wip0, m_wip1, m_Back, m_kBackT, m_rg1, m_kRgA, m_TupRg, m_LstRg, m_Dc, m_DturnT, m_DturnF, m_kDk, m_kDv, m_SSet, m_iRvR, m_At, m_Fst, m_kFs, m_Meth, m_kMe2, m_kMe3, m_Make, m_kMk1, m_kMade, m_ltI, m_geI, m_geP, m_isNotB, m_Get1, m_Get2, m_kGet2, m_Setd, m_kSd2, m_rg2, m_kRg2a, m_kRg2b, List.getElem?_cons_zero, List.getElem?_cons_succ, List.set_cons_zero, List.set_cons_succ, List.length_cons, List.length_nil, Nat.zero_add, Nat.reduceAdd, Nat.reduceLeDiff, Bool.not_true, Bool.not_false, mb__law_draw_8, mb__law_draw_7, mb__law_draw_6, mb__law_draw_5, mb__law_draw_4, mb__law_draw_3, mb__law_draw_2])
theorem pf__law_draw {K : PySem.W.Frag} {mg : Str → Option Value} (T : Txt K mg) (ws : List Wv) (G : HW) (q : WK) (x : XE) (h : sp__law_draw T ws G q x) : t__law_draw T (endsW q x) (startW ["_law_m", "_law_top", "_law_k", "_law_spot", "_law_cell"] ws) G := by
  obtain ⟨m, a, b, top, n, rfl, t0, t1, ⟨k, cells, left, hm, ha, hc, hb, hl, k0, k1, ab⟩, hq⟩ := h
  have nma : m ≠ a := fun z => by subst z; rw [hm] at ha; cases ha
  have nmb : m ≠ b := fun z => by subst z; rw [hm] at hb; cases hb
  have fin : ∀ (o3 o4 : Option Wv) (G1 : HW) (left' : List Int), G1 m = some (.dct [(.inr "cells", .ref a), (.inr "left", .ref b), (.inr "spot", .int (k + 1))]) → G1 a = some (.lst (cells.map .int)) → G1 b = some (.lst (left'.map .int)) → left'.length ≤ 63 → Kp [m, b] G G1 →
      b__law_draw_9 T (endsW q x) [some (.ref m), some (.int top), some (.int k), o3, o4] G1 := fun o3 o4 G1 left' hm ha hb hl kp => by
    rw [mb__law_draw_9]
    walk_at "m__law_draw"
    refine r_ixD hm rfl rfl ?_
    walk_at "m__law_draw"
    refine r_int (by omega) ?_
    walk_at "m__law_draw"
    have h64 : (k % 64).toNat < cells.length := by omega
    refine r_ixL (.inl ha) (atI_int (by omega) (at_map h64)) ?_
    walk_at "m__law_draw"
    refine r_int ⟨by omega, by omega⟩ ?_
    walk_at "m__law_draw"
    refine r_mul (.inl ⟨by omega, by omega⟩) ?_
    walk_at "m__law_draw"
    refine ⟨_, k, rfl, k0, by omega, fun r h0 => ?_⟩
    walk_at "m__law_draw"
    refine ⟨r, k + 7, rfl, by omega, by omega, fun r h0 => ?_⟩
    walk_at "m__law_draw"
    refine r_int t0 ?_
    exact hq _ G1 (Int.emod_nonneg _ (by omega)) (Int.emod_lt_of_pos _ t0) kp ⟨k + 1, cells, left', hm, ha, hc, hb, hl, by omega, by omega, ab⟩
  show t__law_draw T (endsW q x) [some (.ref m), some (.int top), none, none, none] G
  unfold t__law_draw
  walk_at "m__law_draw"
  refine r_ixD hm rfl rfl ?_
  walk_at "m__law_draw"
  refine r_setD hm rfl few rfl ?_
  walk_at "m__law_draw"
  generalize hG1 : updO G m (.dct _) = G1
  have hm1 : G1 m = some (.dct [(.inr "cells", .ref a), (.inr "left", .ref b), (.inr "spot", .int (k + 1))]) := by rw [← hG1]; exact updO_same
  have ha1 : G1 a = some (.lst (cells.map .int)) := by rw [← hG1, updO_ne nma.symm]; exact ha
  have hb1 : G1 b = some (.lst (left.map .int)) := by rw [← hG1, updO_ne nmb.symm]; exact hb
  have kp1 : Kp [m, b] G G1 := by rw [← hG1]; exact Kp.refl.put (by simp)
  refine r_ixD hm1 rfl rfl ?_
  walk_at "m__law_draw"
  refine r_lst' fun l hl0 => ?_
  walk_at "m__law_draw"
  generalize hG2 : updO G1 l (.lst []) = G2
  have ex2 : Ext G1 G2 := by rw [← hG2]; exact Ext.new hl0
  have hm2 := ex2 _ _ hm1
  have ha2 := ex2 _ _ ha1
  have hb2 := ex2 _ _ hb1
  have kp2 := kp1.trans ex2.kp
  refine r_ne (k := decide (left = [])) (.lst (.inl hb2) (dts_ints left)) (.lst (.inl (by rw [← hG2]; exact updO_same)) .nil) (shaped_intsL _) (shaped_intsL []) (by rw [PyData.eqv]; exact eqvAll_ints left []) ?_
  cases e1 : decide (left = []) with
  | true =>
    walk_at "m__law_draw"
    exact fin _ _ G2 left hm2 ha2 hb2 hl kp2
  | false =>
    have ne : 0 < left.length := by
      have := of_decide_eq_false e1
      exact List.length_pos_iff.mpr this
    walk_at "m__law_draw"
    refine r_ixD hm2 rfl rfl ?_
    walk_at "m__law_draw"
    refine r_len (.inl hb2) ?_
    rw [List.length_map]
    walk_at "m__law_draw"
    refine r_int (by omega) ?_
    walk_at "m__law_draw"
    refine r_ixD hm2 rfl rfl ?_
    walk_at "m__law_draw"
    have p0 : 0 ≤ k % (left.length : Int) := Int.emod_nonneg _ (by omega)
    have p1 : k % (left.length : Int) < left.length := Int.emod_lt_of_pos _ (by omega)
    have h64 : (k % (left.length : Int)).toNat < left.length := by omega
    refine r_ixL (.inl hb2) (atI_int p0 (at_map h64)) ?_
    walk_at "m__law_draw"
    cases e2 : decide (0 < left[(k % (left.length : Int)).toNat]) with
    | false =>
      walk_at "m__law_draw"
      exact fin _ _ G2 left hm2 ha2 hb2 hl kp2
    | true =>
      walk_at "m__law_draw"
      refine r_int ⟨t0, by omega⟩ ?_
      walk_at "m__law_draw"
      refine r_ixD hm2 rfl rfl ?_
      walk_at "m__law_draw"
      refine r_setL hb2 (by rw [List.length_map]; exact ixN_int p0 p1) ?_
      walk_at "m__law_draw"
      rw [setI]
      refine r_int t0 ?_
      refine hq _ _ (Int.emod_nonneg _ (by omega)) (Int.emod_lt_of_pos _ t0) (kp2.put (by simp)) ⟨k + 1, cells, _, by rw [updO_ne nmb]; exact hm2, by rw [updO_ne ab]; exact ha2, hc, updO_same, by rw [List.length_set]; exact hl, by omega, by omega, ab⟩
set_option maxHeartbeats 0 in
theorem ok__law_draw {P : Program} {w : World} {K : PySem.W.Frag} {mg : Str → Option Value} {base : Heap} (T : Txt K mg) : FnW P w K mg base 2 T.f__law_draw T.fd__law_draw ["_law_m", "_law_top"] (sp__law_draw T) :=
  fnW_of (t := t__law_draw T) T.F__law_draw sc__law_draw (len__law_draw T) (fun cdv A outer s H E hr => (zs_cons (z_set (i := 2) sc__law_draw.nd rfl (by first | exact .inl rfl | exact .inr rfl) (z_ix (hr).un (z_var (i := 0) rfl (by first | exact .inl rfl | exact .inr (.inl rfl) | exact .inr (.inr rfl))) (z_str) (fun _ _ => rfl))) (zs_cons (z_asg (z_bin w_add (z_var (i := 2) rfl (by first | exact .inl rfl | exact .inr (.inl rfl) | exact .inr (.inr rfl))) (z_int)) (zg_sub (hr).un (z_var (i := 0) rfl (by first | exact .inl rfl | exact .inr (.inl rfl) | exact .inr (.inr rfl))) (z_str) (fun _ => rfl))) (zs_cons (z_if (z_qcmp (w_ne (hr).un) (z_ix (hr).un (z_var (i := 0) rfl (by first | exact .inl rfl | exact .inr (.inl rfl) | exact .inr (.inr rfl))) (z_str) (fun _ _ => rfl)) (z_lst (z_anil)) (by rfl)) (zs_cons (z_set (i := 3) sc__law_draw.nd rfl (by first | exact .inl rfl | exact .inr rfl) (z_bin w_mod (z_var (i := 2) rfl (by first | exact .inl rfl | exact .inr (.inl rfl) | exact .inr (.inr rfl))) (z_callB w_len rfl T.n_len boot_len (z_acons (z_ix (hr).un (z_var (i := 0) rfl (by first | exact .inl rfl | exact .inr (.inl rfl) | exact .inr (.inr rfl))) (z_str) (fun _ _ => rfl)) (z_anil))))) (zs_cons (z_set (i := 4) sc__law_draw.nd rfl (by first | exact .inl rfl | exact .inr rfl) (z_ix (hr).un (z_ix (hr).un (z_var (i := 0) rfl (by first | exact .inl rfl | exact .inr (.inl rfl) | exact .inr (.inr rfl))) (z_str) (fun _ _ => rfl)) (z_var (i := 3) rfl (by first | exact .inl rfl | exact .inr (.inl rfl) | exact .inr (.inr rfl))) (fun _ _ => rfl))) (zs_one (z_if (z_qcmp w_gt (z_var (i := 4) rfl (by first | exact .inl rfl | exact .inr (.inl rfl) | exact .inr (.inr rfl))) (z_int) (by rfl)) (zs_cons (z_asg (z_bin w_fdiv (z_var (i := 4) rfl (by first | exact .inl rfl | exact .inr (.inl rfl) | exact .inr (.inr rfl))) (z_var (i := 1) rfl (by first | exact .inl rfl | exact .inr (.inl rfl) | exact .inr (.inr rfl)))) (zg_sub (hr).un (z_ix (hr).un (z_var (i := 0) rfl (by first | exact .inl rfl | exact .inr (.inl rfl) | exact .inr (.inr rfl))) (z_str) (fun _ _ => rfl)) (z_var (i := 3) rfl (by first | exact .inl rfl | exact .inr (.inl rfl) | exact .inr (.inr rfl))) (fun _ => rfl))) (zs_one (z_ret (z_bin w_mod (z_var (i := 4) rfl (by first | exact .inl rfl | exact .inr (.inl rfl) | exact .inr (.inr rfl))) (z_var (i := 1) rfl (by first | exact .inl rfl | exact .inr (.inl rfl) | exact .inr (.inr rfl))))))) (zs_nil))))) (zs_nil)) (zs_one (z_ret (z_bin w_mod (z_call (sel := [.p 0, .p 1]) (dws := []) (ok__law_mixed T) (hr.mono (by decide)) rfl T.m__law_mixed T.F__law_mixed.kp (bind0 T.F__law_mixed fun _ _ _ _ _ _ us uk h1 h2 => match us, h1, uk, h2 with | [_, _], _, [], _ => rfl) (takes_of rfl rfl rfl rfl) (z_acons (z_call (sel := [.p 0, .p 1]) (dws := []) (ok__law_mixed T) (hr.mono (by decide)) rfl T.m__law_mixed T.F__law_mixed.kp (bind0 T.F__law_mixed fun _ _ _ _ _ _ us uk h1 h2 => match us, h1, uk, h2 with | [_, _], _, [], _ => rfl) (takes_of rfl rfl rfl rfl) (z_acons (z_bin w_add (z_ix (hr).un (z_ix (hr).un (z_var (i := 0) rfl (by first | exact .inl rfl | exact .inr (.inl rfl) | exact .inr (.inr rfl))) (z_str) (fun _ _ => rfl)) (z_bin w_mod (z_var (i := 2) rfl (by first | exact .inl rfl | exact .inr (.inl rfl) | exact .inr (.inr rfl))) (z_int)) (fun _ _ => rfl)) (z_bin w_mul (z_int) (z_bin w_fdiv (z_var (i := 2) rfl (by first | exact .inl rfl | exact .inr (.inl rfl) | exact .inr (.inr rfl))) (z_int)))) (z_acons (z_var (i := 2) rfl (by first | exact .inl rfl | exact .inr (.inl rfl) | exact .inr (.inr rfl))) (z_anil)))) (z_acons (z_bin w_add (z_var (i := 2) rfl (by first | exact .inl rfl | exact .inr (.inl rfl) | exact .inr (.inr rfl))) (z_int)) (z_anil)))) (z_var (i := 1) rfl (by first | exact .inl rfl | exact .inr (.inl rfl) | exact .inr (.inr rfl)))))))))) (pf__law_draw T)

/-! ### _law_closed -/
theorem sc__law_closed : FnScope ["_law_links_here", "_law_some_here", "_law_link"] ["_law_links_here", "_law_some_here"] (defScope s__law_closed) := ⟨rfl, rfl, rfl, by decide +kernel, rfl, by decide +kernel, by decide +kernel⟩
def sp__law_closed {K : PySem.W.Frag} {mg : Str → Option Value} (T : Txt K mg) : SpW := fun ws G q _ => ∃ (L : Lk) (ns : List Int), ws = [.tup (L.map tup2), .tup (ns.map .int)] ∧ L.length ≤ 1000 ∧ LkIn L 120 ∧ (ClosedL L ns → ∀ G', Ext G G' → q (.bl true) G') ∧ (¬ ClosedL L ns → ∀ G', Ext G G' → q (.bl false) G')
theorem len__law_closed {K : PySem.W.Frag} {mg : Str → Option Value} (T : Txt K mg) (ws : List Wv) (G : HW) (q : WK) (x : XE) (h : sp__law_closed T ws G q x) : ws.length = 2 := by
  obtain ⟨L, ns, rfl, _⟩ := h
  rfl
def t__law_closed {K : PySem.W.Frag} {mg : Str → Option Value} (T : Txt K mg) : ST := sRet (eOp wEq (eLc (iSeq (eV 0)) [2] [2] (qAnd (qOp (wInA false) (eOp wIx (eV 2) (eC (.int 0))) (eV 1)) (qOp (wInA true) (eOp wIx (eV 2) (eC (.int 1))) (eV 1))) (eV 2)) (eLst (aNil)))
local macro_rules | `(tactic| walk_at "m__law_closed") => `(tactic| simp only [m_V, m_kV, m_C, m_Op, m_kOp, m_kOp2, m_kBl, m_qOp, m_kCh2, m_kCh2f, m_kCh3, m_kCh1, m_kCh, m_Ch, m_qCh, m_oNone, m_oSome, m_kO, m_Sl, m_kSl, m_kSl1, m_kSl2, m_slT, m_qT, m_kTru, m_tB, m_tN, m_tI, m_tT, m_qA, m_qO, m_qN, m_kqAt, m_kqAf, m_kqOt, m_kqOf, m_kqN, m_qYes, m_A, m_Or, m_N, m_Neg, m_kAt, m_kAf, m_kOrt, m_kOrf, m_kN, m_kNeg, m_If, m_kIft, m_kIff, m_an, m_ac, m_kac, m_kac2, m_Tup, m_Lst, m_kTup, m_CB, m_kCB, m_pk1, m_pp, m_pkk, m_pd, m_pn, m_kX, m_Call, m_kC1, m_kC2, m_BM, m_BM0, m_kM1, m_Seq, m_Seq_nx, m_Seq_rt, m_Seq_bk, m_Seq_ct, m_Seq_ex, m_Next, m_Brk, m_Cont, m_Expr, m_kEx, m_Ret, m_RetN, m_SIf, m_kSIft, m_kSIff, m_Set, m_kSet, m_Par, m_kPar, m_Par3, m_kPar3, m_Asg, m_kAsg, m_gNm, m_kG, m_gNo, m_gMo, m_gTu, m_gSb, m_kGs, m_kGs2, m_kW2, m_Aug, m_kAug, m_kAu, m_kAu2, m_mk1, m_kMk, m_Raise, m_ends_rt, m_ends_ex, m_ends_nx, m_add, m_addB, m_sub, m_eqI, m_eqS, m_neI, m_neS, m_isB, m_isN, m_isNotN, m_nonN, m_nonR, m_nonT, m_nonI, m_nonS, m_nonB, m_lenT, m_lenK, m_tupT, m_max, m_min, m_intI, m_intB, m_pr0, m_pr, m_kpr, m_kpr2, m_Xf, m_Try, m_Try_nx, m_Try_rt, m_Try_bk, m_Try_ct, m_Try_ex, m_Suite_nx, m_Suite_rt, m_Suite_bk, m_Suite_ct, m_kXe, m_kXo, m_tlOf, m_For, m_Loop_nx, m_Loop_ct, m_Loop_bk, m_Loop_rt, m_Loop_ex, m_kB, m_iSeq, m_kItT, m_kItK, m_kItS, m_iRg1, m_iRg2, m_iEnu, m_kEnuK, m_iZp, m_kZpT, m_iRv, m_kRvT, m_Lc, m_kCell, m_kTurnT, m_kTurnF, m_wip0, m_wip1, m_Back, m_kBackT, m_rg1, m_kRgA, m_TupRg, m_LstRg, m_Dc, m_DturnT, m_DturnF, m_kDk, m_kDv, m_SSet, m_iRvR, m_At, m_Fst, m_kFs, m_Meth, m_kMe2, m_kMe3, m_Make, m_kMk1, m_kMade, m_ltI, m_geI, m_geP, m_isNotB, m_Get1, m_Get2, m_kGet2, m_Setd, m_kSd2, m_rg2, m_kRg2a, m_kRg2b, List.getElem?_cons_zero, List.getElem?_cons_succ, List.set_cons_zero, List.set_cons_succ, List.length_cons, List.length_nil, Nat.zero_add, Nat.reduceAdd, Nat.reduceLeDiff, Bool.not_true, Bool.not_false])
theorem pf__law_closed {K : PySem.W.Frag} {mg : Str → Option Value} (T : Txt K mg) (ws : List Wv) (G : HW) (q : WK) (x : XE) (h : sp__law_closed T ws G q x) : t__law_closed T (endsW q x) (startW ["_law_links_here", "_law_some_here", "_law_link"] ws) G := by
  obtain ⟨L, ns, rfl, hl, hL, hq1, hq2⟩ := h
  show t__law_closed T (endsW q x) [some (.tup (L.map tup2)), some (.tup (ns.map .int)), none] G
  unfold t__law_closed
  walk_at "m__law_closed"
  refine r_lcF (openP ns) (fun w => w) (by rw [List.length_map, sizeLine_eq]; omega) (fun _ _ => trivial) (fun i w G' k ew ex hk => ?_) fun D2 G3 hD2 ex3 eD2 => ?_
  · obtain ⟨p, _, rfl⟩ := List.mem_map.mp (List.mem_of_getElem? ew)
    refine ⟨_, rfl, ?_⟩
    have hk := hk G' Ext.refl
    simp only [openP, tup2] at hk
    unfold tup2
    walk_at "m__law_closed"
    refine r_ixT (y := .int p.1) rfl ?_
    walk_at "m__law_closed"
    refine r_inT rfl (flat_ints ns) ?_
    rw [inF_ints]
    by_cases h : p.1 ∈ ns
    · simp only [m_V, m_kV, m_C, m_Op, m_kOp, m_kOp2, m_kBl, m_qOp, m_kCh2, m_kCh2f, m_kCh3, m_kCh1, m_kCh, m_Ch, m_qCh, m_oNone, m_oSome, m_kO, m_Sl, m_kSl, m_kSl1, m_kSl2, m_slT, m_qT, m_kTru, m_tB, m_tN, m_tI, m_tT, m_qA, m_qO, m_qN, m_kqAt, m_kqAf, m_kqOt, m_kqOf, m_kqN, m_qYes, m_A, m_Or, m_N, m_Neg, m_kAt, m_kAf, m_kOrt, m_kOrf, m_kN, m_kNeg, m_If, m_kIft, m_kIff, m_an, m_ac, m_kac, m_kac2, m_Tup, m_Lst, m_kTup, m_CB, m_kCB, m_pk1, m_pp, m_pkk, m_pd, m_pn, m_kX, m_Call, m_kC1, m_kC2, m_BM, m_BM0, m_kM1, m_Seq, m_Seq_nx, m_Seq_rt, m_Seq_bk, m_Seq_ct, m_Seq_ex, m_Next, m_Brk, m_Cont, m_Expr, m_kEx, m_Ret, m_RetN, m_SIf, m_kSIft, m_kSIff, m_Set, m_kSet, m_Par, m_kPar, m_Par3, m_kPar3, m_Asg, m_kAsg, m_gNm, m_kG, m_gNo, m_gMo, m_gTu, m_gSb, m_kGs, m_kGs2, m_kW2, m_Aug, m_kAug, m_kAu, m_kAu2, m_mk1, m_kMk, m_Raise, m_ends_rt, m_ends_ex, m_ends_nx, m_add, m_addB, m_sub, m_eqI, m_eqS, m_neI, m_neS, m_isB, m_isN, m_isNotN, m_nonN, m_nonR, m_nonT, m_nonI, m_nonS, m_nonB, m_lenT, m_lenK, m_tupT, m_max, m_min, m_intI, m_intB, m_pr0, m_pr, m_kpr, m_kpr2, m_Xf, m_Try, m_Try_nx, m_Try_rt, m_Try_bk, m_Try_ct, m_Try_ex, m_Suite_nx, m_Suite_rt, m_Suite_bk, m_Suite_ct, m_kXe, m_kXo, m_tlOf, m_For, m_Loop_nx, m_Loop_ct, m_Loop_bk, m_Loop_rt, m_Loop_ex, m_kB, m_iSeq, m_kItT, m_kItK, m_kItS, m_iRg1, m_iRg2, m_iEnu, m_kEnuK, m_iZp, m_kZpT, m_iRv, m_kRvT, m_Lc, m_kCell, m_kTurnT, m_kTurnF, m_wip0, m_wip1, m_Back, m_kBackT, m_rg1, m_kRgA, m_TupRg, m_LstRg, m_Dc, m_DturnT, m_DturnF, m_kDk, m_kDv, m_SSet, m_iRvR, m_At, m_Fst, m_kFs, m_Meth, m_kMe2, m_kMe3, m_Make, m_kMk1, m_kMade, m_ltI, m_geI, m_geP, m_isNotB, m_Get1, m_Get2, m_kGet2, m_Setd, m_kSd2, m_rg2, m_kRg2a, m_kRg2b, List.getElem?_cons_zero, List.getElem?_cons_succ, List.set_cons_zero, List.set_cons_succ, List.length_cons, List.length_nil, Nat.zero_add, Nat.reduceAdd, Nat.reduceLeDiff, Bool.not_true, Bool.not_false, h, decide_true, if_true, Bool.false_eq_true, if_false]
      refine r_ixT (y := .int p.2) rfl ?_
      walk_at "m__law_closed"
      refine r_inT rfl (flat_ints ns) ?_
      rw [inF_ints]
      by_cases h2 : p.2 ∈ ns
      · simp only [m_V, m_kV, m_C, m_Op, m_kOp, m_kOp2, m_kBl, m_qOp, m_kCh2, m_kCh2f, m_kCh3, m_kCh1, m_kCh, m_Ch, m_qCh, m_oNone, m_oSome, m_kO, m_Sl, m_kSl, m_kSl1, m_kSl2, m_slT, m_qT, m_kTru, m_tB, m_tN, m_tI, m_tT, m_qA, m_qO, m_qN, m_kqAt, m_kqAf, m_kqOt, m_kqOf, m_kqN, m_qYes, m_A, m_Or, m_N, m_Neg, m_kAt, m_kAf, m_kOrt, m_kOrf, m_kN, m_kNeg, m_If, m_kIft, m_kIff, m_an, m_ac, m_kac, m_kac2, m_Tup, m_Lst, m_kTup, m_CB, m_kCB, m_pk1, m_pp, m_pkk, m_pd, m_pn, m_kX, m_Call, m_kC1, m_kC2, m_BM, m_BM0, m_kM1, m_Seq, m_Seq_nx, m_Seq_rt, m_Seq_bk, m_Seq_ct, m_Seq_ex, m_Next, m_Brk, m_Cont, m_Expr, m_kEx, m_Ret, m_RetN, m_SIf, m_kSIft, m_kSIff, m_Set, m_kSet, m_Par, m_kPar, m_Par3, m_kPar3, m_Asg, m_kAsg, m_gNm, m_kG, m_gNo, m_gMo, m_gTu, m_gSb, m_kGs, m_kGs2, m_kW2, m_Aug, m_kAug, m_kAu, m_kAu2, m_mk1, m_kMk, m_Raise, m_ends_rt, m_ends_ex, m_ends_nx, m_add, m_addB, m_sub, m_eqI, m_eqS, m_neI, m_neS, m_isB, m_isN, m_isNotN, m_nonN, m_nonR, m_nonT, m_nonI, m_nonS, m_nonB, m_lenT, m_lenK, m_tupT, m_max, m_min, m_intI, m_intB, m_pr0, m_pr, m_kpr, m_kpr2, m_Xf, m_Try, m_Try_nx, m_Try_rt, m_Try_bk, m_Try_ct, m_Try_ex, m_Suite_nx, m_Suite_rt, m_Suite_bk, m_Suite_ct, m_kXe, m_kXo, m_tlOf, m_For, m_Loop_nx, m_Loop_ct, m_Loop_bk, m_Loop_rt, m_Loop_ex, m_kB, m_iSeq, m_kItT, m_kItK, m_kItS, m_iRg1, m_iRg2, m_iEnu, m_kEnuK, m_iZp, m_kZpT, m_iRv, m_kRvT, m_Lc, m_kCell, m_kTurnT, m_kTurnF, m_wip0, m_wip1, m_Back, m_kBackT, m_rg1, m_kRgA, m_TupRg, m_LstRg, m_Dc, m_DturnT, m_DturnF, m_kDk, m_kDv, m_SSet, m_iRvR, m_At, m_Fst, m_kFs, m_Meth, m_kMe2, m_kMe3, m_Make, m_kMk1, m_kMade, m_ltI, m_geI, m_geP, m_isNotB, m_Get1, m_Get2, m_kGet2, m_Setd, m_kSd2, m_rg2, m_kRg2a, m_kRg2b, List.getElem?_cons_zero, List.getElem?_cons_succ, List.set_cons_zero, List.set_cons_succ, List.length_cons, List.length_nil, Nat.zero_add, Nat.reduceAdd, Nat.reduceLeDiff, Bool.not_true, Bool.not_false, h2, decide_true, if_true]
        simpa [h, h2] using hk
      · simp only [m_V, m_kV, m_C, m_Op, m_kOp, m_kOp2, m_kBl, m_qOp, m_kCh2, m_kCh2f, m_kCh3, m_kCh1, m_kCh, m_Ch, m_qCh, m_oNone, m_oSome, m_kO, m_Sl, m_kSl, m_kSl1, m_kSl2, m_slT, m_qT, m_kTru, m_tB, m_tN, m_tI, m_tT, m_qA, m_qO, m_qN, m_kqAt, m_kqAf, m_kqOt, m_kqOf, m_kqN, m_qYes, m_A, m_Or, m_N, m_Neg, m_kAt, m_kAf, m_kOrt, m_kOrf, m_kN, m_kNeg, m_If, m_kIft, m_kIff, m_an, m_ac, m_kac, m_kac2, m_Tup, m_Lst, m_kTup, m_CB, m_kCB, m_pk1, m_pp, m_pkk, m_pd, m_pn, m_kX, m_Call, m_kC1, m_kC2, m_BM, m_BM0, m_kM1, m_Seq, m_Seq_nx, m_Seq_rt, m_Seq_bk, m_Seq_ct, m_Seq_ex, m_Next, m_Brk, m_Cont, m_Expr, m_kEx, m_Ret, m_RetN, m_SIf, m_kSIft, m_kSIff, m_Set, m_kSet, m_Par, m_kPar, m_Par3, m_kPar3, m_Asg, m_kAsg, m_gNm, m_kG, m_gNo, m_gMo, m_gTu, m_gSb, m_kGs, m_kGs2, m_kW2, m_Aug, m_kAug, m_kAu, m_kAu2, m_mk1, m_kMk, m_Raise, m_ends_rt, m_ends_ex, m_ends_nx, m_add, m_addB, m_sub, m_eqI, m_eqS, m_neI, m_neS, m_isB, m_isN, m_isNotN, m_nonN, m_nonR, m_nonT, m_nonI, m_nonS, m_nonB, m_lenT, m_lenK, m_tupT, m_max, m_min, m_intI, m_intB, m_pr0, m_pr, m_kpr, m_kpr2, m_Xf, m_Try, m_Try_nx, m_Try_rt, m_Try_bk, m_Try_ct, m_Try_ex, m_Suite_nx, m_Suite_rt, m_Suite_bk, m_Suite_ct, m_kXe, m_kXo, m_tlOf, m_For, m_Loop_nx, m_Loop_ct, m_Loop_bk, m_Loop_rt, m_Loop_ex, m_kB, m_iSeq, m_kItT, m_kItK, m_kItS, m_iRg1, m_iRg2, m_iEnu, m_kEnuK, m_iZp, m_kZpT, m_iRv, m_kRvT, m_Lc, m_kCell, m_kTurnT, m_kTurnF, m_wip0, m_wip1, m_Back, m_kBackT, m_rg1, m_kRgA, m_TupRg, m_LstRg, m_Dc, m_DturnT, m_DturnF, m_kDk, m_kDv, m_SSet, m_iRvR, m_At, m_Fst, m_kFs, m_Meth, m_kMe2, m_kMe3, m_Make, m_kMk1, m_kMade, m_ltI, m_geI, m_geP, m_isNotB, m_Get1, m_Get2, m_kGet2, m_Setd, m_kSd2, m_rg2, m_kRg2a, m_kRg2b, List.getElem?_cons_zero, List.getElem?_cons_succ, List.set_cons_zero, List.set_cons_succ, List.length_cons, List.length_nil, Nat.zero_add, Nat.reduceAdd, Nat.reduceLeDiff, Bool.not_true, Bool.not_false, h2, decide_false, if_true]
        simpa [h, h2] using hk
    · simp only [m_V, m_kV, m_C, m_Op, m_kOp, m_kOp2, m_kBl, m_qOp, m_kCh2, m_kCh2f, m_kCh3, m_kCh1, m_kCh, m_Ch, m_qCh, m_oNone, m_oSome, m_kO, m_Sl, m_kSl, m_kSl1, m_kSl2, m_slT, m_qT, m_kTru, m_tB, m_tN, m_tI, m_tT, m_qA, m_qO, m_qN, m_kqAt, m_kqAf, m_kqOt, m_kqOf, m_kqN, m_qYes, m_A, m_Or, m_N, m_Neg, m_kAt, m_kAf, m_kOrt, m_kOrf, m_kN, m_kNeg, m_If, m_kIft, m_kIff, m_an, m_ac, m_kac, m_kac2, m_Tup, m_Lst, m_kTup, m_CB, m_kCB, m_pk1, m_pp, m_pkk, m_pd, m_pn, m_kX, m_Call, m_kC1, m_kC2, m_BM, m_BM0, m_kM1, m_Seq, m_Seq_nx, m_Seq_rt, m_Seq_bk, m_Seq_ct, m_Seq_ex, m_Next, m_Brk, m_Cont, m_Expr, m_kEx, m_Ret, m_RetN, m_SIf, m_kSIft, m_kSIff, m_Set, m_kSet, m_Par, m_kPar, m_Par3, m_kPar3, m_Asg, m_kAsg, m_gNm, m_kG, m_gNo, m_gMo, m_gTu, m_gSb, m_kGs, m_kGs2, m_kW2, m_Aug, m_kAug, m_kAu, m_kAu2, m_mk1, m_kMk, m_Raise, m_ends_rt, m_ends_ex, m_ends_nx, m_add, m_addB, m_sub, m_eqI, m_eqS, m_neI, m_neS, m_isB, m_isN, m_isNotN, m_nonN, m_nonR, m_nonT, m_nonI, m_nonS, m_nonB, m_lenT, m_lenK, m_tupT, m_max, m_min, m_intI, m_intB, m_pr0, m_pr, m_kpr, m_kpr2, m_Xf, m_Try, m_Try_nx, m_Try_rt, m_Try_bk, m_Try_ct, m_Try_ex, m_Suite_nx, m_Suite_rt, m_Suite_bk, m_Suite_ct, m_kXe, m_kXo, m_tlOf, m_For, m_Loop_nx, m_Loop_ct, m_Loop_bk, m_Loop_rt, m_Loop_ex, m_kB, m_iSeq, m_kItT, m_kItK, m_kItS, m_iRg1, m_iRg2, m_iEnu, m_kEnuK, m_iZp, m_kZpT, m_iRv, m_kRvT, m_Lc, m_kCell, m_kTurnT, m_kTurnF, m_wip0, m_wip1, m_Back, m_kBackT, m_rg1, m_kRgA, m_TupRg, m_LstRg, m_Dc, m_DturnT, m_DturnF, m_kDk, m_kDv, m_SSet, m_iRvR, m_At, m_Fst, m_kFs, m_Meth, m_kMe2, m_kMe3, m_Make, m_kMk1, m_kMade, m_ltI, m_geI, m_geP, m_isNotB, m_Get1, m_Get2, m_kGet2, m_Setd, m_kSd2, m_rg2, m_kRg2a, m_kRg2b, List.getElem?_cons_zero, List.getElem?_cons_succ, List.set_cons_zero, List.set_cons_succ, List.length_cons, List.length_nil, Nat.zero_add, Nat.reduceAdd, Nat.reduceLeDiff, Bool.not_true, Bool.not_false, h, decide_false, if_true, Bool.false_eq_true, if_false]
      simpa [h] using hk
  rw [List.map_id', open_pairs] at eD2
  walk_at "m__law_closed"
  refine r_lst' fun l2 hl2 => ?_
  have x2 := Ext.new (o := .lst []) hl2
  have hs : ∀ p ∈ L.filter fun p => openP ns (tup2 p), (-(10 ^ 12) < p.1 ∧ p.1 < 10 ^ 12) ∧ (-(10 ^ 12) < p.2 ∧ p.2 < 10 ^ 12) := fun p hp => by have := hL p (List.mem_filter.mp hp).1; omega
  refine r_eq (.lst (.inl (x2 _ _ eD2)) (dts_pairs _)) (.lst (.inl updO_same) .nil) ((pairs_fit hs).shaped (by decide)) (shaped_intsL []) (pairs_none _) ?_
  have e : (L.filter fun p => openP ns (tup2 p)) = [] ↔ ClosedL L ns := by
    rw [← open_none, open_pairs, List.map_eq_nil_iff]
  by_cases h : ClosedL L ns
  · rw [decide_eq_true (e.mpr h)]
    exact hq1 h _ (ex3.trans x2)
  · rw [decide_eq_false fun z => h (e.mp z)]
    exact hq2 h _ (ex3.trans x2)
set_option maxHeartbeats 0 in
theorem ok__law_closed {P : Program} {w : World} {K : PySem.W.Frag} {mg : Str → Option Value} {base : Heap} (T : Txt K mg) : FnW P w K mg base 1 T.f__law_closed T.fd__law_closed ["_law_links_here", "_law_some_here"] (sp__law_closed T) :=
  fnW_of (t := t__law_closed T) T.F__law_closed sc__law_closed (len__law_closed T) (fun cdv A outer s H E hr => (zs_one (z_ret (z_cmp (w_eq (hr).un) (z_lc (is := [2]) (own := [("_law_link", 2)]) rfl sc__law_closed.nd (zi_seq (z_var (i := 0) rfl (by first | exact .inl rfl | exact .inr (.inl rfl) | exact .inr (.inr rfl)))) (blkOk_by rfl) (fun _ _ _ _ _ => pg_name sc__law_closed.nd rfl (by first | exact .inl rfl | exact .inr rfl)) (fun _ _ _ _ _ => zq_one (z_bool (z_and (z_qcmp (w_inA (hr).un65) (z_ix (hr).un (z_var (i := 2) rfl (by first | exact .inl rfl | exact .inr (.inl rfl) | exact .inr (.inr rfl))) (z_int) (fun _ _ => rfl)) (z_var (i := 1) rfl (by first | exact .inl rfl | exact .inr (.inl rfl) | exact .inr (.inr rfl))) (by rfl)) (z_and1 (z_qcmp (w_notinA (hr).un65) (z_ix (hr).un (z_var (i := 2) rfl (by first | exact .inl rfl | exact .inr (.inl rfl) | exact .inr (.inr rfl))) (z_int) (fun _ _ => rfl)) (z_var (i := 1) rfl (by first | exact .inl rfl | exact .inr (.inl rfl) | exact .inr (.inr rfl))) (by rfl)))))) (fun _ _ _ _ _ => z_var (i := 2) rfl (by first | exact .inl rfl | exact .inr (.inl rfl) | exact .inr (.inr rfl))) (by decide)) (z_lst (z_anil)) (by rfl))))) (pf__law_closed T)

/-! ### is_closed -/
theorem sc_is_closed : FnScope ["links", "parts"] ["links", "parts"] (defScope s_is_closed) := ⟨rfl, rfl, rfl, by decide +kernel, rfl, by decide +kernel, by decide +kernel⟩
def sp_is_closed {K : PySem.W.Frag} {mg : Str → Option Value} (T : Txt K mg) : SpW := SpClosed K T.C_BadValue
theorem len_is_closed {K : PySem.W.Frag} {mg : Str → Option Value} (T : Txt K mg) (ws : List Wv) (G : HW) (q : WK) (x : XE) (h : sp_is_closed T ws G q x) : ws.length = 2 := by
  obtain ⟨w, y, rfl, _⟩ := h
  rfl
def t_is_closed {K : PySem.W.Frag} {mg : Str → Option Value} (T : Txt K mg) : ST := sRet (eOp wEq (eCall 2 0 [.p 0, .p 1] [] (sp_closure T) (aCons (eV 0) (aCons (eV 1) (aNil))) aNil) (eV 1))
local macro_rules | `(tactic| walk_at "m_is_closed") => `(tactic| simp only [m_V, m_kV, m_C, m_Op, m_kOp, m_kOp2, m_kBl, m_qOp, m_kCh2, m_kCh2f, m_kCh3, m_kCh1, m_kCh, m_Ch, m_qCh, m_oNone, m_oSome, m_kO, m_Sl, m_kSl, m_kSl1, m_kSl2, m_slT, m_qT, m_kTru, m_tB, m_tN, m_tI, m_tT, m_qA, m_qO, m_qN, m_kqAt, m_kqAf, m_kqOt, m_kqOf, m_kqN, m_qYes, m_A, m_Or, m_N, m_Neg, m_kAt, m_kAf, m_kOrt, m_kOrf, m_kN, m_kNeg, m_If, m_kIft, m_kIff, m_an, m_ac, m_kac, m_kac2, m_Tup, m_Lst, m_kTup, m_CB, m_kCB, m_pk1, m_pp, m_pkk, m_pd, m_pn, m_kX, m_Call, m_kC1, m_kC2, m_BM, m_BM0, m_kM1, m_Seq, m_Seq_nx, m_Seq_rt, m_Seq_bk, m_Seq_ct, m_Seq_ex, m_Next, m_Brk, m_Cont, m_Expr, m_kEx, m_Ret, m_RetN, m_SIf, m_kSIft, m_kSIff, m_Set, m_kSet, m_Par, m_kPar, m_Par3, m_kPar3, m_Asg, m_kAsg, m_gNm, m_kG, m_gNo, m_gMo, m_gTu, m_gSb, m_kGs, m_kGs2, m_kW2, m_Aug, m_kAug, m_kAu, m_kAu2, m_mk1, m_kMk, m_Raise, m_ends_rt, m_ends_ex, m_ends_nx, m_add, m_addB, m_sub, m_eqI, m_eqS, m_neI, m_neS, m_isB, m_isN, m_isNotN, m_nonN, m_nonR, m_nonT, m_nonI, m_nonS, m_nonB, m_lenT, m_lenK, m_tupT, m_max, m_min, m_intI, m_intB, m_pr0, m_pr, m_kpr, m_kpr2, m_Xf, m_Try, m_Try_nx, m_Try_rt, m_Try_bk, m_Try_ct, m_Try_ex, m_Suite_nx, m_Suite_rt, m_Suite_bk, m_Suite_ct, m_kXe, m_kXo, m_tlOf, m_For, m_Loop_nx, m_Loop_ct, m_Loop_bk, m_Loop_rt, m_Loop_ex, m_kB, m_iSeq, m_kItT, m_kItK, m_kItS, m_iRg1, m_iRg2, m_iEnu, m_kEnuK, m_iZp, m_kZpT, m_iRv, m_kRvT, m_Lc, m_kCell, m_kTurnT, m_kTurnF, m_wip0, m_wip1, m_Back, m_kBackT, m_rg1, m_kRgA, m_TupRg, m_LstRg, m_Dc, m_DturnT, m_DturnF, m_kDk, m_kDv, m_SSet, m_iRvR, m_At, m_Fst, m_kFs, m_Meth, m_kMe2, m_kMe3, m_Make, m_kMk1, m_kMade, m_ltI, m_geI, m_geP, m_isNotB, m_Get1, m_Get2, m_kGet2, m_Setd, m_kSd2, m_rg2, m_kRg2a, m_kRg2b, List.getElem?_cons_zero, List.getElem?_cons_succ, List.set_cons_zero, List.set_cons_succ, List.length_cons, List.length_nil, Nat.zero_add, Nat.reduceAdd, Nat.reduceLeDiff, Bool.not_true, Bool.not_false])
theorem pf_is_closed {K : PySem.W.Frag} {mg : Str → Option Value} (T : Txt K mg) (ws : List Wv) (G : HW) (q : WK) (x : XE) (h : sp_is_closed T ws G q x) : t_is_closed T (endsW q x) (startW ["links", "parts"] ws) G := by
  obtain ⟨w, y, rfl, kw, ky, h1, h2, h3⟩ := h
  show t_is_closed T (endsW q x) [some (w), some (y)] G
  unfold t_is_closed
  walk_at "m_is_closed"
  refine ⟨w, y, rfl, kw, ky, (fun a G' e => by walk_at "m_is_closed"; exact h1 a G' e), (fun a b G' e => by walk_at "m_is_closed"; exact h2 a b G' e), fun L ns e1 e2 el hL cf out G' hr e => ?_⟩
  subst e1 e2
  walk_at "m_is_closed"
  exact r_eq (k := decide (out = ns)) (dt_ints _) (dt_ints _) (shaped_ints _) (shaped_ints _) (by rw [PyData.eqv]; exact eqvAll_ints _ _) (h3 L ns rfl rfl el hL cf out G' hr e)
set_option maxHeartbeats 0 in
theorem ok_is_closed {P : Program} {w : World} {K : PySem.W.Frag} {mg : Str → Option Value} {base : Heap} (T : Txt K mg) : FnW P w K mg base 6 T.f_is_closed T.fd_is_closed ["links", "parts"] (sp_is_closed T) :=
  fnW_of (t := t_is_closed T) T.F_is_closed sc_is_closed (len_is_closed T) (fun cdv A outer s H E hr => (zs_one (z_ret (z_cmp (w_eq (hr).un) (z_call (sel := [.p 0, .p 1]) (dws := []) (ok_closure T) (hr.mono (by decide)) rfl T.m_closure T.F_closure.kp (bind0 T.F_closure fun _ _ _ _ _ _ us uk h1 h2 => match us, h1, uk, h2 with | [_, _], _, [], _ => rfl) (takes_of rfl rfl rfl rfl) (z_acons (z_var (i := 0) rfl (by first | exact .inl rfl | exact .inr (.inl rfl) | exact .inr (.inr rfl))) (z_acons (z_var (i := 1) rfl (by first | exact .inl rfl | exact .inr (.inl rfl) | exact .inr (.inr rfl))) (z_anil)))) (z_var (i := 1) rfl (by first | exact .inl rfl | exact .inr (.inl rfl) | exact .inr (.inr rfl))) (by rfl))))) (pf_is_closed T)

/-! ### _law_inside -/
theorem sc__law_inside : FnScope ["_law_some_here", "_law_beside", "_law_k"] ["_law_some_here", "_law_beside"] (defScope s__law_inside) := ⟨rfl, rfl, rfl, by decide +kernel, rfl, by decide +kernel, by decide +kernel⟩
def sp__law_inside {K : PySem.W.Frag} {mg : Str → Option Value} (T : Txt K mg) : SpW := fun ws G q _ => ∃ ns ms : List Int, ws = [.tup (ns.map .int), .tup (ms.map .int)] ∧ ns.length ≤ 1000 ∧ ∀ G', Ext G G' → q (.bl (decide (lessL ns ms = []))) G'
theorem len__law_inside {K : PySem.W.Frag} {mg : Str → Option Value} (T : Txt K mg) (ws : List Wv) (G : HW) (q : WK) (x : XE) (h : sp__law_inside T ws G q x) : ws.length = 2 := by
  obtain ⟨ns, ms, rfl, _⟩ := h
  rfl
def t__law_inside {K : PySem.W.Frag} {mg : Str → Option Value} (T : Txt K mg) : ST := sRet (eOp wEq (eLc (iSeq (eV 0)) [2] [2] (qOp (wInA true) (eV 2) (eV 1)) (eV 2)) (eLst (aNil)))
local macro_rules | `(tactic| walk_at "m__law_inside") => `(tactic| simp only [m_V, m_kV, m_C, m_Op, m_kOp, m_kOp2, m_kBl, m_qOp, m_kCh2, m_kCh2f, m_kCh3, m_kCh1, m_kCh, m_Ch, m_qCh, m_oNone, m_oSome, m_kO, m_Sl, m_kSl, m_kSl1, m_kSl2, m_slT, m_qT, m_kTru, m_tB, m_tN, m_tI, m_tT, m_qA, m_qO, m_qN, m_kqAt, m_kqAf, m_kqOt, m_kqOf, m_kqN, m_qYes, m_A, m_Or, m_N, m_Neg, m_kAt, m_kAf, m_kOrt, m_kOrf, m_kN, m_kNeg, m_If, m_kIft, m_kIff, m_an, m_ac, m_kac, m_kac2, m_Tup, m_Lst, m_kTup, m_CB, m_kCB, m_pk1, m_pp, m_pkk, m_pd, m_pn, m_kX, m_Call, m_kC1, m_kC2, m_BM, m_BM0, m_kM1, m_Seq, m_Seq_nx, m_Seq_rt, m_Seq_bk, m_Seq_ct, m_Seq_ex, m_Next, m_Brk, m_Cont, m_Expr, m_kEx, m_Ret, m_RetN, m_SIf, m_kSIft, m_kSIff, m_Set, m_kSet, m_Par, m_kPar, m_Par3, m_kPar3, m_Asg, m_kAsg, m_gNm, m_kG, m_gNo, m_gMo, m_gTu, m_gSb, m_kGs, m_kGs2, m_kW2, m_Aug, m_kAug, m_kAu, m_kAu2, m_mk1, m_kMk, m_Raise, m_ends_rt, m_ends_ex, m_ends_nx, m_add, m_addB, m_sub, m_eqI, m_eqS, m_neI, m_neS, m_isB, m_isN, m_isNotN, m_nonN, m_nonR, m_nonT, m_nonI, m_nonS, m_nonB, m_lenT, m_lenK, m_tupT, m_max, m_min, m_intI, m_intB, m_pr0, m_pr, m_kpr, m_kpr2, m_Xf, m_Try, m_Try_nx, m_Try_rt, m_Try_bk, m_Try_ct, m_Try_ex, m_Suite_nx, m_Suite_rt, m_Suite_bk, m_Suite_ct, m_kXe, m_kXo, m_tlOf, m_For, m_Loop_nx, m_Loop_ct, m_Loop_bk, m_Loop_rt, m_Loop_ex, m_kB, m_iSeq, m_kItT, m_kItK, m_kItS, m_iRg1, m_iRg2, m_iEnu, m_kEnuK, m_iZp, m_kZpT, m_iRv, m_kRvT, m_Lc, m_kCell, m_kTurnT, m_kTurnF, m_wip0, m_wip1, m_Back, m_kBackT, m_rg1, m_kRgA, m_TupRg, m_LstRg, m_Dc, m_DturnT, m_DturnF, m_kDk, m_kDv, m_SSet, m_iRvR, m_At, m_Fst, m_kFs, m_Meth, m_kMe2, m_kMe3, m_Make, m_kMk1, m_kMade, m_ltI, m_geI, m_geP, m_isNotB, m_Get1, m_Get2, m_kGet2, m_Setd, m_kSd2, m_rg2, m_kRg2a, m_kRg2b, List.getElem?_cons_zero, List.getElem?_cons_succ, List.set_cons_zero, List.set_cons_succ, List.length_cons, List.length_nil, Nat.zero_add, Nat.reduceAdd, Nat.reduceLeDiff, Bool.not_true, Bool.not_false])
theorem pf__law_inside {K : PySem.W.Frag} {mg : Str → Option Value} (T : Txt K mg) (ws : List Wv) (G : HW) (q : WK) (x : XE) (h : sp__law_inside T ws G q x) : t__law_inside T (endsW q x) (startW ["_law_some_here", "_law_beside", "_law_k"] ws) G := by
  obtain ⟨ns, ms, rfl, hl, hq⟩ := h
  show t__law_inside T (endsW q x) [some (.tup (ns.map .int)), some (.tup (ms.map .int)), none] G
  unfold t__law_inside
  walk_at "m__law_inside"
  refine r_lcF (notB ms) (fun w => w) (by rw [List.length_map, sizeLine_eq]; omega) (fun _ _ => trivial) (fun i w G' k ew ex hk => ?_) fun D2 G3 hD2 ex3 eD2 => ?_
  · obtain ⟨z, _, rfl⟩ := List.mem_map.mp (List.mem_of_getElem? ew)
    refine ⟨_, rfl, ?_⟩
    have hk := hk G' Ext.refl
    simp only [notB] at hk
    walk_at "m__law_inside"
    refine r_inT rfl (flat_ints ms) ?_
    rw [inF_ints]
    by_cases h : z ∈ ms
    · simp only [m_V, m_kV, m_C, m_Op, m_kOp, m_kOp2, m_kBl, m_qOp, m_kCh2, m_kCh2f, m_kCh3, m_kCh1, m_kCh, m_Ch, m_qCh, m_oNone, m_oSome, m_kO, m_Sl, m_kSl, m_kSl1, m_kSl2, m_slT, m_qT, m_kTru, m_tB, m_tN, m_tI, m_tT, m_qA, m_qO, m_qN, m_kqAt, m_kqAf, m_kqOt, m_kqOf, m_kqN, m_qYes, m_A, m_Or, m_N, m_Neg, m_kAt, m_kAf, m_kOrt, m_kOrf, m_kN, m_kNeg, m_If, m_kIft, m_kIff, m_an, m_ac, m_kac, m_kac2, m_Tup, m_Lst, m_kTup, m_CB, m_kCB, m_pk1, m_pp, m_pkk, m_pd, m_pn, m_kX, m_Call, m_kC1, m_kC2, m_BM, m_BM0, m_kM1, m_Seq, m_Seq_nx, m_Seq_rt, m_Seq_bk, m_Seq_ct, m_Seq_ex, m_Next, m_Brk, m_Cont, m_Expr, m_kEx, m_Ret, m_RetN, m_SIf, m_kSIft, m_kSIff, m_Set, m_kSet, m_Par, m_kPar, m_Par3, m_kPar3, m_Asg, m_kAsg, m_gNm, m_kG, m_gNo, m_gMo, m_gTu, m_gSb, m_kGs, m_kGs2, m_kW2, m_Aug, m_kAug, m_kAu, m_kAu2, m_mk1, m_kMk, m_Raise, m_ends_rt, m_ends_ex, m_ends_nx, m_add, m_addB, m_sub, m_eqI, m_eqS, m_neI, m_neS, m_isB, m_isN, m_isNotN, m_nonN, m_nonR, m_nonT, m_nonI, m_nonS, m_nonB, m_lenT, m_lenK, m_tupT, m_max, m_min, m_intI, m_intB, m_pr0, m_pr, m_kpr, m_kpr2, m_Xf, m_Try, m_Try_nx, m_Try_rt, m_Try_bk, m_Try_ct, m_Try_ex, m_Suite_nx, m_Suite_rt, m_Suite_bk, m_Suite_ct, m_kXe, m_kXo, m_tlOf, m_For, m_Loop_nx, m_Loop_ct, m_Loop_bk, m_Loop_rt, m_Loop_ex, m_kB, m_iSeq, m_kItT, m_kItK, m_kItS, m_iRg1, m_iRg2, m_iEnu, m_kEnuK, m_iZp, m_kZpT, m_iRv, m_kRvT, m_Lc, m_kCell, m_kTurnT, m_kTurnF, m_wip0, m_wip1, m_Back, m_kBackT, m_rg1, m_kRgA, m_TupRg, m_LstRg, m_Dc, m_DturnT, m_DturnF, m_kDk, m_kDv, m_SSet, m_iRvR, m_At, m_Fst, m_kFs, m_Meth, m_kMe2, m_kMe3, m_Make, m_kMk1, m_kMade, m_ltI, m_geI, m_geP, m_isNotB, m_Get1, m_Get2, m_kGet2, m_Setd, m_kSd2, m_rg2, m_kRg2a, m_kRg2b, List.getElem?_cons_zero, List.getElem?_cons_succ, List.set_cons_zero, List.set_cons_succ, List.length_cons, List.length_nil, Nat.zero_add, Nat.reduceAdd, Nat.reduceLeDiff, Bool.not_true, Bool.not_false, h, decide_true, if_true]
      simpa [h] using hk
    · simp only [m_V, m_kV, m_C, m_Op, m_kOp, m_kOp2, m_kBl, m_qOp, m_kCh2, m_kCh2f, m_kCh3, m_kCh1, m_kCh, m_Ch, m_qCh, m_oNone, m_oSome, m_kO, m_Sl, m_kSl, m_kSl1, m_kSl2, m_slT, m_qT, m_kTru, m_tB, m_tN, m_tI, m_tT, m_qA, m_qO, m_qN, m_kqAt, m_kqAf, m_kqOt, m_kqOf, m_kqN, m_qYes, m_A, m_Or, m_N, m_Neg, m_kAt, m_kAf, m_kOrt, m_kOrf, m_kN, m_kNeg, m_If, m_kIft, m_kIff, m_an, m_ac, m_kac, m_kac2, m_Tup, m_Lst, m_kTup, m_CB, m_kCB, m_pk1, m_pp, m_pkk, m_pd, m_pn, m_kX, m_Call, m_kC1, m_kC2, m_BM, m_BM0, m_kM1, m_Seq, m_Seq_nx, m_Seq_rt, m_Seq_bk, m_Seq_ct, m_Seq_ex, m_Next, m_Brk, m_Cont, m_Expr, m_kEx, m_Ret, m_RetN, m_SIf, m_kSIft, m_kSIff, m_Set, m_kSet, m_Par, m_kPar, m_Par3, m_kPar3, m_Asg, m_kAsg, m_gNm, m_kG, m_gNo, m_gMo, m_gTu, m_gSb, m_kGs, m_kGs2, m_kW2, m_Aug, m_kAug, m_kAu, m_kAu2, m_mk1, m_kMk, m_Raise, m_ends_rt, m_ends_ex, m_ends_nx, m_add, m_addB, m_sub, m_eqI, m_eqS, m_neI, m_neS, m_isB, m_isN, m_isNotN, m_nonN, m_nonR, m_nonT, m_nonI, m_nonS, m_nonB, m_lenT, m_lenK, m_tupT, m_max, m_min, m_intI, m_intB, m_pr0, m_pr, m_kpr, m_kpr2, m_Xf, m_Try, m_Try_nx, m_Try_rt, m_Try_bk, m_Try_ct, m_Try_ex, m_Suite_nx, m_Suite_rt, m_Suite_bk, m_Suite_ct, m_kXe, m_kXo, m_tlOf, m_For, m_Loop_nx, m_Loop_ct, m_Loop_bk, m_Loop_rt, m_Loop_ex, m_kB, m_iSeq, m_kItT, m_kItK, m_kItS, m_iRg1, m_iRg2, m_iEnu, m_kEnuK, m_iZp, m_kZpT, m_iRv, m_kRvT, m_Lc, m_kCell, m_kTurnT, m_kTurnF, m_wip0, m_wip1, m_Back, m_kBackT, m_rg1, m_kRgA, m_TupRg, m_LstRg, m_Dc, m_DturnT, m_DturnF, m_kDk, m_kDv, m_SSet, m_iRvR, m_At, m_Fst, m_kFs, m_Meth, m_kMe2, m_kMe3, m_Make, m_kMk1, m_kMade, m_ltI, m_geI, m_geP, m_isNotB, m_Get1, m_Get2, m_kGet2, m_Setd, m_kSd2, m_rg2, m_kRg2a, m_kRg2b, List.getElem?_cons_zero, List.getElem?_cons_succ, List.set_cons_zero, List.set_cons_succ, List.length_cons, List.length_nil, Nat.zero_add, Nat.reduceAdd, Nat.reduceLeDiff, Bool.not_true, Bool.not_false, h, decide_false, if_true]
      simpa [h] using hk
  rw [filt_ints (fun i => decide (i ∉ ms)) (notB ms) fun i => rfl] at eD2
  walk_at "m__law_inside"
  refine r_lst' fun l2 hl2 => ?_
  have x2 := Ext.new (o := .lst []) hl2
  exact r_eq (k := decide (lessL ns ms = [])) (.lst (.inl (x2 _ _ eD2)) (dts_ints _)) (.lst (.inl updO_same) .nil) (shaped_intsL _) (shaped_intsL []) (by rw [PyData.eqv]; exact eqvAll_ints _ []) (hq _ (ex3.trans x2))
set_option maxHeartbeats 0 in
theorem ok__law_inside {P : Program} {w : World} {K : PySem.W.Frag} {mg : Str → Option Value} {base : Heap} (T : Txt K mg) : FnW P w K mg base 1 T.f__law_inside T.fd__law_inside ["_law_some_here", "_law_beside"] (sp__law_inside T) :=
  fnW_of (t := t__law_inside T) T.F__law_inside sc__law_inside (len__law_inside T) (fun cdv A outer s H E hr => (zs_one (z_ret (z_cmp (w_eq (hr).un) (z_lc (is := [2]) (own := [("_law_k", 2)]) rfl sc__law_inside.nd (zi_seq (z_var (i := 0) rfl (by first | exact .inl rfl | exact .inr (.inl rfl) | exact .inr (.inr rfl)))) (blkOk_by rfl) (fun _ _ _ _ _ => pg_name sc__law_inside.nd rfl (by first | exact .inl rfl | exact .inr rfl)) (fun _ _ _ _ _ => zq_one (z_qcmp (w_notinA (hr).un65) (z_var (i := 2) rfl (by first | exact .inl rfl | exact .inr (.inl rfl) | exact .inr (.inr rfl))) (z_var (i := 1) rfl (by first | exact .inl rfl | exact .inr (.inl rfl) | exact .inr (.inr rfl))) (by rfl))) (fun _ _ _ _ _ => z_var (i := 2) rfl (by first | exact .inl rfl | exact .inr (.inl rfl) | exact .inr (.inr rfl))) (by decide)) (z_lst (z_anil)) (by rfl))))) (pf__law_inside T)

/-! ### _law_some -/
theorem sc__law_some : FnScope ["_law_m", "_law_size", "_law_road", "_law_found", "_law_k", "_law_odds", "_law_hit"] ["_law_m", "_law_size"] (defScope s__law_some) := ⟨rfl, rfl, rfl, by decide +kernel, rfl, by decide +kernel, by decide +kernel⟩
def sp__law_some {K : PySem.W.Frag} {mg : Str → Option Value} (T : Txt K mg) : SpW := SpSome
theorem len__law_some {K : PySem.W.Frag} {mg : Str → Option Value} (T : Txt K mg) (ws : List Wv) (G : HW) (q : WK) (x : XE) (h : sp__law_some T ws G q x) : ws.length = 2 := by
  obtain ⟨m, a, b, size, n, rfl, _⟩ := h
  rfl
def b__law_some_9 {K : PySem.W.Frag} {mg : Str → Option Value} (T : Txt K mg) : ST := sRet (eIf (qAnd (qOp wEq (eV 2) (eC (.int 5))) (qOp wEq (eCall 2 0 [.p 0, .p 1] [] (sp__law_draw T) (aCons (eV 0) (aCons (eC (.int 2)) (aNil))) aNil) (eC (.int 0)))) (eTup (aNil)) (eCB wTuple (aCons (eV 3) (aNil))))
theorem mb__law_some_9 {K : PySem.W.Frag} {mg : Str → Option Value} (T : Txt K mg) (D : EndsW) (σ : SW) (G : HW) : b__law_some_9 T D σ G = (sRet (eIf (qAnd (qOp wEq (eV 2) (eC (.int 5))) (qOp wEq (eCall 2 0 [.p 0, .p 1] [] (sp__law_draw T) (aCons (eV 0) (aCons (eC (.int 2)) (aNil))) aNil) (eC (.int 0)))) (eTup (aNil)) (eCB wTuple (aCons (eV 3) (aNil))))) D σ G := rfl
def b__law_some_7 {K : PySem.W.Frag} {mg : Str → Option Value} (T : Txt K mg) : ST := sIf (qTru (eV 6)) (sExpr (eBM "list" wAppend (eV 3) (aCons (eV 4) (aNil)))) (sNext)
theorem mb__law_some_7 {K : PySem.W.Frag} {mg : Str → Option Value} (T : Txt K mg) (D : EndsW) (σ : SW) (G : HW) : b__law_some_7 T D σ G = (sIf (qTru (eV 6)) (sExpr (eBM "list" wAppend (eV 3) (aCons (eV 4) (aNil)))) (sNext)) D σ G := rfl
def b__law_some_5 {K : PySem.W.Frag} {mg : Str → Option Value} (T : Txt K mg) : ST := sSeq (sIf (qOp wEq (eV 2) (eC (.int 3))) (sSet 6 (eNot (eV 6))) (sNext)) (b__law_some_7 T)
theorem mb__law_some_5 {K : PySem.W.Frag} {mg : Str → Option Value} (T : Txt K mg) (D : EndsW) (σ : SW) (G : HW) : b__law_some_5 T D σ G = (sSeq (sIf (qOp wEq (eV 2) (eC (.int 3))) (sSet 6 (eNot (eV 6))) (sNext)) (b__law_some_7 T)) D σ G := rfl
def b__law_some_4 {K : PySem.W.Frag} {mg : Str → Option Value} (T : Txt K mg) : ST := sSeq (sSet 6 (eOp wEq (eCall 2 0 [.p 0, .p 1] [] (sp__law_draw T) (aCons (eV 0) (aCons (eV 5) (aNil))) aNil) (eC (.int 0)))) (b__law_some_5 T)
theorem mb__law_some_4 {K : PySem.W.Frag} {mg : Str → Option Value} (T : Txt K mg) (D : EndsW) (σ : SW) (G : HW) : b__law_some_4 T D σ G = (sSeq (sSet 6 (eOp wEq (eCall 2 0 [.p 0, .p 1] [] (sp__law_draw T) (aCons (eV 0) (aCons (eV 5) (aNil))) aNil) (eC (.int 0)))) (b__law_some_5 T)) D σ G := rfl
def b__law_some_3 {K : PySem.W.Frag} {mg : Str → Option Value} (T : Txt K mg) : ST := sSeq (sSet 5 (eOp wIx (eLst (aCons (eC (.int 9)) (aCons (eC (.int 2)) (aCons (eC (.int 2)) (aCons (eC (.int 5)) (aCons (eC (.int 1)) (aCons (eC (.int 2)) (aNil)))))))) (eV 2))) (b__law_some_4 T)
theorem mb__law_some_3 {K : PySem.W.Frag} {mg : Str → Option Value} (T : Txt K mg) (D : EndsW) (σ : SW) (G : HW) : b__law_some_3 T D σ G = (sSeq (sSet 5 (eOp wIx (eLst (aCons (eC (.int 9)) (aCons (eC (.int 2)) (aCons (eC (.int 2)) (aCons (eC (.int 5)) (aCons (eC (.int 1)) (aCons (eC (.int 2)) (aNil)))))))) (eV 2))) (b__law_some_4 T)) D σ G := rfl
def b__law_some_2 {K : PySem.W.Frag} {mg : Str → Option Value} (T : Txt K mg) : ST := sSeq (sFor (iRg1 (aCons (eV 1) (aNil))) (gNm 4) (b__law_some_3 T)) (b__law_some_9 T)
theorem mb__law_some_2 {K : PySem.W.Frag} {mg : Str → Option Value} (T : Txt K mg) (D : EndsW) (σ : SW) (G : HW) : b__law_some_2 T D σ G = (sSeq (sFor (iRg1 (aCons (eV 1) (aNil))) (gNm 4) (b__law_some_3 T)) (b__law_some_9 T)) D σ G := rfl
def t__law_some {K : PySem.W.Frag} {mg : Str → Option Value} (T : Txt K mg) : ST := sSeq (sPar 2 3 (aCons (eCall 2 0 [.p 0, .p 1] [] (sp__law_draw T) (aCons (eV 0) (aCons (eC (.int 6)) (aNil))) aNil) (aCons (eLst (aNil)) (aNil)))) (b__law_some_2 T)
local macro_rules | `(tactic| walk_at "m__law_some") => `(tactic| simp only [m_V, m_kV, m_C, m_Op, m_kOp, m_kOp2, m_kBl, m_qOp, m_kCh2, m_kCh2f, m_kCh3, m_kCh1, m_kCh, m_Ch, m_qCh, m_oNone, m_oSome, m_kO, m_Sl, m_kSl, m_kSl1, m_kSl2, m_slT, m_qT, m_kTru, m_tB, m_tN, m_tI, m_tT, m_qA, m_qO, m_qN, m_kqAt, m_kqAf, m_kqOt, m_kqOf, m_kqN, m_qYes, m_A, m_Or, m_N, m_Neg, m_kAt, m_kAf, m_kOrt, m_kOrf, m_kN, m_kNeg, m_If, m_kIft, m_kIff, m_an, m_ac, m_kac, m_kac2, m_Tup, m_Lst, m_kTup, m_CB, m_kCB, m_pk1, m_pp, m_pkk, m_pd, m_pn, m_kX, m_Call, m_kC1, m_kC2, m_BM, m_BM0, m_kM1, m_Seq, m_Seq_nx, m_Seq_rt, m_Seq_bk, m_Seq_ct, m_Seq_ex, m_Next, m_Brk, m_Cont, m_Expr, m_kEx, m_Ret, m_RetN, m_SIf, m_kSIft, m_kSIff, m_Set, m_kSet, m_Par, m_kPar, m_Par3, m_kPar3, m_Asg, m_kAsg, m_gNm, m_kG, m_gNo, m_gMo, m_gTu, m_gSb, m_kGs, m_kGs2, m_kW2, m_Aug, m_kAug, m_kAu, m_kAu2, m_mk1, m_kMk, m_Raise, m_ends_rt, m_ends_ex, m_ends_nx, m_add, m_addB, m_sub, m_eqI, m_eqS, m_neI, m_neS, m_isB, m_isN, m_isNotN, m_nonN, m_nonR, m_nonT, m_nonI, m_nonS, m_nonB, m_lenT, m_lenK, m_tupT, m_max, m_min, m_intI, m_intB, m_pr0, m_pr, m_kpr, m_kpr2, m_Xf, m_Try, m_Try_nx, m_Try_rt, m_Try_bk, m_Try_ct, m_Try_ex, m_Suite_nx, m_Suite_rt, m_Suite_bk, m_Suite_ct, m_kXe, m_kXo, m_tlOf, m_For, m_Loop_nx, m_Loop_ct, m_Loop_bk, m_Loop_rt, m_Loop_ex, m_kB, m_iSeq, m_kItT, m_kItK, m_kItS, m_iRg1, m_iRg2, m_iEnu, m_kEnuK, m_iZp, m_kZpT, m_iRv, m_kRvT, m_Lc, m_kCell, m_kTurnT, m_kTurnF, m_wip0, m_wip1, m_Back, m_kBackT, m_rg1, m_kRgA, m_TupRg, m_LstRg, m_Dc, m_DturnT, m_DturnF, m_kDk, m_kDv, m_SSet, m_iRvR, m_At, m_Fst, m_kFs, m_Meth, m_kMe2, m_kMe3, m_Make, m_kMk1, m_kMade, m_ltI, m_geI, m_geP, m_isNotB, m_Get1, m_Get2, m_kGet2, m_Setd, m_kSd2, m_rg2, m_kRg2a, m_kRg2b, List.getElem?_cons_zero, List.getElem?_cons_succ, List.set_cons_zero, List.set_cons_succ, List.length_cons, List.length_nil, Nat.zero_add, Nat.reduceAdd, Nat.reduceLeDiff, Bool.not_true, Bool.not_false, mb__law_some_9, mb__law_some_7, mb__law_some_5, mb__law_some_4, mb__law_some_3, mb__law_some_2])
theorem pf__law_some {K : PySem.W.Frag} {mg : Str → Option Value} (T : Txt K mg) (ws : List Wv) (G : HW) (q : WK) (x : XE) (h : sp__law_some T ws G q x) : t__law_some T (endsW q x) (startW ["_law_m", "_law_size", "_law_road", "_law_found", "_law_k", "_law_odds", "_law_hit"] ws) G := by
  obtain ⟨m, a, b, size, n, rfl, hz, st, hq⟩ := h
  have dm : ∃ o, G m = some o := let ⟨k, c, l, h1, _⟩ := st; ⟨_, h1⟩
  have da : ∃ o, G a = some o := let ⟨k, c, l, h1, h2, _⟩ := st; ⟨_, h2⟩
  have db : ∃ o, G b = some o := let ⟨k, c, l, h1, h2, h3, h4, _⟩ := st; ⟨_, h4⟩
  obtain ⟨om, dm⟩ := dm
  obtain ⟨oa, da⟩ := da
  obtain ⟨ob, db⟩ := db
  show t__law_some T (endsW q x) [some (.ref m), some (.int size), none, none, none, none, none] G
  unfold t__law_some
  walk_at "m__law_some"
  refine ⟨m, a, b, 6, n + size + 1, rfl, by omega, by omega, st, fun road G1 r0 r1 kp st1 => ?_⟩
  walk_at "m__law_some"
  refine r_lst' fun D hD => ?_
  walk_at "m__law_some"
  refine r_rg1 (by omega) (by omega) ?_
  rw [Int.toNat_natCast]
  have st0 : ∀ {p : Addr} {k : Nat}, DSt G1 m a b k → G1 p = none → p ≠ m ∧ p ≠ a ∧ p ≠ b := fun {p k} ⟨_, _, _, h1, h2, _, h4, _⟩ hp => ⟨(ne_of_new h1 hp).symm, (ne_of_new h2 hp).symm, (ne_of_new h4 hp).symm⟩
  obtain ⟨nm, na, nb⟩ := st0 st1 hD
  have hDG : G D = none := by
    cases e : G D with
    | none => rfl
    | some o => rw [kp D o (by simp [nm, nb]) e] at hD; cases hD
  refine r_for (fun i σ G2 => ∃ (o4 o5 o6 : Option Wv) (acc : List Int), σ = [some (.ref m), some (.int size), some (.int road), some (.ref D), o4, o5, o6] ∧ Cfg acc i ∧ G2 D = some (.lst (acc.map .int)) ∧ Kp [m, b] G G2 ∧ DSt G2 m a b (n + (size - i) + 1))
    ⟨_, _, _, [], rfl, cfg_nil (by omega), updO_same, kp.new hDG, (st1.put nm na nb).mono (by omega)⟩ (fun _ _ _ _ _ => trivial) ?_ ?_
  · rintro i w σ2 G2 ew ⟨o4, o5, o6, acc, rfl, cf, eD, kp2, st2⟩
    obtain ⟨hi, rfl⟩ := rg_nat ew
    walk_at "m__law_some"
    refine r_lst' fun l hl => ?_
    walk_at "m__law_some"
    obtain ⟨o, ho, o0, o1⟩ : ∃ o : Int, atI [Wv.int 9, .int 2, .int 2, .int 5, .int 1, .int 2] road = some (.int o) ∧ 0 < o ∧ o < 2 ^ 30 := by
      rcases (by omega : road = 0 ∨ road = 1 ∨ road = 2 ∨ road = 3 ∨ road = 4 ∨ road = 5) with rfl | rfl | rfl | rfl | rfl | rfl <;> exact ⟨_, rfl, by omega, by omega⟩
    refine r_ixL (.inl updO_same) ho ?_
    walk_at "m__law_some"
    have exl : Ext G2 (updO G2 l (.lst [.int 9, .int 2, .int 2, .int 5, .int 1, .int 2])) := Ext.new hl
    refine ⟨m, a, b, o, n + (size - (i + 1)) + 1, rfl, o0, o1, (st2.ext exl).mono (by omega), fun r G3 q0 q1 kp3 st3 => ?_⟩
    walk_at "m__law_some"
    have eD3 := kp3 D _ (by simp [nm, nb]) (exl _ _ eD)
    have kp4 : Kp [m, b] G G3 := (kp2.trans exl.kp).trans kp3
    have fin : ∀ hit : Bool, b__law_some_7 T (kLoop (kSeq (b__law_some_9 T) (endsW q x)) (fun σ G2 => ∃ (o4 o5 o6 : Option Wv) (acc : List Int), σ = [some (.ref m), some (.int size), some (.int road), some (.ref D), o4, o5, o6] ∧ Cfg acc ((i + 1 : Nat) : Int) ∧ G2 D = some (.lst (acc.map .int)) ∧ Kp [m, b] G G2 ∧ DSt G2 m a b (n + (size - (i + 1)) + 1)))
        [some (.ref m), some (.int size), some (.int road), some (.ref D), some (.int i), some (.int o), some (.bl hit)] G3 := fun hit => by
      cases hit with
      | true =>
        walk_at "m__law_some"
        refine r_M (.inl ⟨rfl, _, .inl eD3⟩) ?_
        walk_at "m__law_some"
        refine r_app eD3 (by rw [List.length_map, sizeLine_eq]; have := cf.1; omega) ?_
        walk_at "m__law_some"
        exact ⟨_, _, _, acc ++ [(i : Int)], rfl, cf.snoc, by rw [updO_same, List.map_append]; rfl, kp4.new hDG, st3.put nm na nb⟩
      | false =>
        walk_at "m__law_some"
        exact ⟨_, _, _, acc, rfl, cf.mono (by omega), eD3, kp4, st3⟩
    cases e3 : decide (road = 3) with
    | true =>
      walk_at "m__law_some"
      have := fin (!decide (r = 0))
      rw [mb__law_some_7] at this
      simp only [m_V, m_kV, m_C, m_Op, m_kOp, m_kOp2, m_kBl, m_qOp, m_kCh2, m_kCh2f, m_kCh3, m_kCh1, m_kCh, m_Ch, m_qCh, m_oNone, m_oSome, m_kO, m_Sl, m_kSl, m_kSl1, m_kSl2, m_slT, m_qT, m_kTru, m_tB, m_tN, m_tI, m_tT, m_qA, m_qO, m_qN, m_kqAt, m_kqAf, m_kqOt, m_kqOf, m_kqN, m_qYes, m_A, m_Or, m_N, m_Neg, m_kAt, m_kAf, m_kOrt, m_kOrf, m_kN, m_kNeg, m_If, m_kIft, m_kIff, m_an, m_ac, m_kac, m_kac2, m_Tup, m_Lst, m_kTup, m_CB, m_kCB, m_pk1, m_pp, m_pkk, m_pd, m_pn, m_kX, m_Call, m_kC1, m_kC2, m_BM, m_BM0, m_kM1, m_Seq, m_Seq_nx, m_Seq_rt, m_Seq_bk, m_Seq_ct, m_Seq_ex, m_Next, m_Brk, m_Cont, m_Expr, m_kEx, m_Ret, m_RetN, m_SIf, m_kSIft, m_kSIff, m_Set, m_kSet, m_Par, m_kPar, m_Par3, m_kPar3, m_Asg, m_kAsg, m_gNm, m_kG, m_gNo, m_gMo, m_gTu, m_gSb, m_kGs, m_kGs2, m_kW2, m_Aug, m_kAug, m_kAu, m_kAu2, m_mk1, m_kMk, m_Raise, m_ends_rt, m_ends_ex, m_ends_nx, m_add, m_addB, m_sub, m_eqI, m_eqS, m_neI, m_neS, m_isB, m_isN, m_isNotN, m_nonN, m_nonR, m_nonT, m_nonI, m_nonS, m_nonB, m_lenT, m_lenK, m_tupT, m_max, m_min, m_intI, m_intB, m_pr0, m_pr, m_kpr, m_kpr2, m_Xf, m_Try, m_Try_nx, m_Try_rt, m_Try_bk, m_Try_ct, m_Try_ex, m_Suite_nx, m_Suite_rt, m_Suite_bk, m_Suite_ct, m_kXe, m_kXo, m_tlOf, m_For, m_Loop_nx, m_Loop_ct, m_Loop_bk, m_Loop_rt, m_Loop_ex, m_kB, m_iSeq, m_kItT, m_kItK, m_kItS, m_iRg1, m_iRg2, m_iEnu, m_kEnuK, m_iZp, m_kZpT, m_iRv, m_kRvT, m_Lc, m_kCell, m_kTurnT, m_kTurnF, m_wip0, m_wip1, m_Back, m_kBackT, m_rg1, m_kRgA, m_TupRg, m_LstRg, m_Dc, m_DturnT, m_DturnF, m_kDk, m_kDv, m_SSet, m_iRvR, m_At, m_Fst, m_kFs, m_Meth, m_kMe2, m_kMe3, m_Make, m_kMk1, m_kMade, m_ltI, m_geI, m_geP, m_isNotB, m_Get1, m_Get2, m_kGet2, m_Setd, m_kSd2, m_rg2, m_kRg2a, m_kRg2b, List.getElem?_cons_zero, List.getElem?_cons_succ, List.set_cons_zero, List.set_cons_succ, List.length_cons, List.length_nil, Nat.zero_add, Nat.reduceAdd, Nat.reduceLeDiff, Bool.not_true, Bool.not_false, mb__law_some_9, mb__law_some_7, mb__law_some_5, mb__law_some_4, mb__law_some_3, mb__law_some_2] at this
      exact this
    | false =>
      walk_at "m__law_some"
      have := fin (decide (r = 0))
      rw [mb__law_some_7] at this
      simp only [m_V, m_kV, m_C, m_Op, m_kOp, m_kOp2, m_kBl, m_qOp, m_kCh2, m_kCh2f, m_kCh3, m_kCh1, m_kCh, m_Ch, m_qCh, m_oNone, m_oSome, m_kO, m_Sl, m_kSl, m_kSl1, m_kSl2, m_slT, m_qT, m_kTru, m_tB, m_tN, m_tI, m_tT, m_qA, m_qO, m_qN, m_kqAt, m_kqAf, m_kqOt, m_kqOf, m_kqN, m_qYes, m_A, m_Or, m_N, m_Neg, m_kAt, m_kAf, m_kOrt, m_kOrf, m_kN, m_kNeg, m_If, m_kIft, m_kIff, m_an, m_ac, m_kac, m_kac2, m_Tup, m_Lst, m_kTup, m_CB, m_kCB, m_pk1, m_pp, m_pkk, m_pd, m_pn, m_kX, m_Call, m_kC1, m_kC2, m_BM, m_BM0, m_kM1, m_Seq, m_Seq_nx, m_Seq_rt, m_Seq_bk, m_Seq_ct, m_Seq_ex, m_Next, m_Brk, m_Cont, m_Expr, m_kEx, m_Ret, m_RetN, m_SIf, m_kSIft, m_kSIff, m_Set, m_kSet, m_Par, m_kPar, m_Par3, m_kPar3, m_Asg, m_kAsg, m_gNm, m_kG, m_gNo, m_gMo, m_gTu, m_gSb, m_kGs, m_kGs2, m_kW2, m_Aug, m_kAug, m_kAu, m_kAu2, m_mk1, m_kMk, m_Raise, m_ends_rt, m_ends_ex, m_ends_nx, m_add, m_addB, m_sub, m_eqI, m_eqS, m_neI, m_neS, m_isB, m_isN, m_isNotN, m_nonN, m_nonR, m_nonT, m_nonI, m_nonS, m_nonB, m_lenT, m_lenK, m_tupT, m_max, m_min, m_intI, m_intB, m_pr0, m_pr, m_kpr, m_kpr2, m_Xf, m_Try, m_Try_nx, m_Try_rt, m_Try_bk, m_Try_ct, m_Try_ex, m_Suite_nx, m_Suite_rt, m_Suite_bk, m_Suite_ct, m_kXe, m_kXo, m_tlOf, m_For, m_Loop_nx, m_Loop_ct, m_Loop_bk, m_Loop_rt, m_Loop_ex, m_kB, m_iSeq, m_kItT, m_kItK, m_kItS, m_iRg1, m_iRg2, m_iEnu, m_kEnuK, m_iZp, m_kZpT, m_iRv, m_kRvT, m_Lc, m_kCell, m_kTurnT, m_kTurnF, m_wip0, m_wip1, m_Back, m_kBackT, m_rg1, m_kRgA, m_TupRg, m_LstRg, m_Dc, m_DturnT, m_DturnF, m_kDk, m_kDv, m_SSet, m_iRvR, m_At, m_Fst, m_kFs, m_Meth, m_kMe2, m_kMe3, m_Make, m_kMk1, m_kMade, m_ltI, m_geI, m_geP, m_isNotB, m_Get1, m_Get2, m_kGet2, m_Setd, m_kSd2, m_rg2, m_kRg2a, m_kRg2b, List.getElem?_cons_zero, List.getElem?_cons_succ, List.set_cons_zero, List.set_cons_succ, List.length_cons, List.length_nil, Nat.zero_add, Nat.reduceAdd, Nat.reduceLeDiff, Bool.not_true, Bool.not_false, mb__law_some_9, mb__law_some_7, mb__law_some_5, mb__law_some_4, mb__law_some_3, mb__law_some_2] at this
      exact this
  · rintro σ2 G2 ⟨o4, o5, o6, acc, rfl, cf, eD, kp2, st2⟩
    rw [rgW_len] at cf st2
    walk_at "m__law_some"
    cases e5 : decide (road = 5) with
    | true =>
      walk_at "m__law_some"
      refine ⟨m, a, b, 2, n, rfl, by omega, by omega, st2.mono (by omega), fun r G3 q0 q1 kp3 st3 => ?_⟩
      walk_at "m__law_some"
      have eD3 := kp3 D _ (by simp [nm, nb]) eD
      cases e6 : decide (r = 0) with
      | true =>
        walk_at "m__law_some"
        exact hq [] G3 (cfg_nil (by omega)) (kp2.trans kp3) st3
      | false =>
        walk_at "m__law_some"
        refine r_tupL (.inl eD3) ?_
        exact hq acc G3 cf (kp2.trans kp3) st3
    | false =>
      walk_at "m__law_some"
      refine r_tupL (.inl eD) ?_
      exact hq acc G2 cf kp2 (st2.mono (by omega))
set_option maxHeartbeats 0 in
theorem ok__law_some {P : Program} {w : World} {K : PySem.W.Frag} {mg : Str → Option Value} {base : Heap} (T : Txt K mg) : FnW P w K mg base 3 T.f__law_some T.fd__law_some ["_law_m", "_law_size"] (sp__law_some T) :=
  fnW_of (t := t__law_some T) T.F__law_some sc__law_some (len__law_some T) (fun cdv A outer s H E hr => (zs_cons (z_par (i := 2) (j := 3) rfl sc__law_some.nd rfl rfl (by decide) rfl rfl (z_acons (z_call (sel := [.p 0, .p 1]) (dws := []) (ok__law_draw T) (hr.mono (by decide)) rfl T.m__law_draw T.F__law_draw.kp (bind0 T.F__law_draw fun _ _ _ _ _ _ us uk h1 h2 => match us, h1, uk, h2 with | [_, _], _, [], _ => rfl) (takes_of rfl rfl rfl rfl) (z_acons (z_var (i := 0) rfl (by first | exact .inl rfl | exact .inr (.inl rfl) | exact .inr (.inr rfl))) (z_acons (z_int) (z_anil)))) (z_acons (z_lst (z_anil)) (z_anil))) rfl) (zs_cons (z_for (passes_of rfl) rfl (zi_range1 rfl T.n_range (z_acons (z_var (i := 1) rfl (by first | exact .inl rfl | exact .inr (.inl rfl) | exact .inr (.inr rfl))) (z_anil))) (zg_name (i := 4) sc__law_some.nd rfl (by first | exact .inl rfl | exact .inr rfl)) (zs_cons (z_set (i := 5) sc__law_some.nd rfl (by first | exact .inl rfl | exact .inr rfl) (z_ix (hr).un (z_lst (z_acons (z_int) (z_acons (z_int) (z_acons (z_int) (z_acons (z_int) (z_acons (z_int) (z_acons (z_int) (z_anil)))))))) (z_var (i := 2) rfl (by first | exact .inl rfl | exact .inr (.inl rfl) | exact .inr (.inr rfl))) (fun _ _ => rfl))) (zs_cons (z_set (i := 6) sc__law_some.nd rfl (by first | exact .inl rfl | exact .inr rfl) (z_cmp (w_eq (hr).un) (z_call (sel := [.p 0, .p 1]) (dws := []) (ok__law_draw T) (hr.mono (by decide)) rfl T.m__law_draw T.F__law_draw.kp (bind0 T.F__law_draw fun _ _ _ _ _ _ us uk h1 h2 => match us, h1, uk, h2 with | [_, _], _, [], _ => rfl) (takes_of rfl rfl rfl rfl) (z_acons (z_var (i := 0) rfl (by first | exact .inl rfl | exact .inr (.inl rfl) | exact .inr (.inr rfl))) (z_acons (z_var (i := 5) rfl (by first | exact .inl rfl | exact .inr (.inl rfl) | exact .inr (.inr rfl))) (z_anil)))) (z_int) (by rfl))) (zs_cons (z_if (z_qcmp (w_eq (hr).un) (z_var (i := 2) rfl (by first | exact .inl rfl | exact .inr (.inl rfl) | exact .inr (.inr rfl))) (z_int) (by rfl)) (zs_one (z_set (i := 6) sc__law_some.nd rfl (by first | exact .inl rfl | exact .inr rfl) (z_vnot (z_var (i := 6) rfl (by first | exact .inl rfl | exact .inr (.inl rfl) | exact .inr (.inr rfl)))))) (zs_nil)) (zs_one (z_if (z_q (z_var (i := 6) rfl (by first | exact .inl rfl | exact .inr (.inl rfl) | exact .inr (.inr rfl)))) (zs_one (z_expr (z_bm PySem.F.plainAttrs_list PySem.F.slot_list_append PySem.F.type_list_append w_append (z_var (i := 3) rfl (by first | exact .inl rfl | exact .inr (.inl rfl) | exact .inr (.inr rfl))) (z_acons (z_var (i := 4) rfl (by first | exact .inl rfl | exact .inr (.inl rfl) | exact .inr (.inr rfl))) (z_anil))))) (zs_nil))))))) (zs_one (z_ret (z_ifx (z_bool (z_and (z_qcmp (w_eq (hr).un) (z_var (i := 2) rfl (by first | exact .inl rfl | exact .inr (.inl rfl) | exact .inr (.inr rfl))) (z_int) (by rfl)) (z_and1 (z_qcmp (w_eq (hr).un) (z_call (sel := [.p 0, .p 1]) (dws := []) (ok__law_draw T) (hr.mono (by decide)) rfl T.m__law_draw T.F__law_draw.kp (bind0 T.F__law_draw fun _ _ _ _ _ _ us uk h1 h2 => match us, h1, uk, h2 with | [_, _], _, [], _ => rfl) (takes_of rfl rfl rfl rfl) (z_acons (z_var (i := 0) rfl (by first | exact .inl rfl | exact .inr (.inl rfl) | exact .inr (.inr rfl))) (z_acons (z_int) (z_anil)))) (z_int) (by rfl))))) (z_tup (z_anil)) (z_callT w_tuple rfl T.n_tuple boot_tuple (z_acons (z_var (i := 3) rfl (by first | exact .inl rfl | exact .inr (.inl rfl) | exact .inr (.inr rfl))) (z_anil))))))))) (pf__law_some T)

/-! ### _law_less -/
theorem sc__law_less : FnScope ["_law_some_here", "_law_beside", "_law_k"] ["_law_some_here", "_law_beside"] (defScope s__law_less) := ⟨rfl, rfl, rfl, by decide +kernel, rfl, by decide +kernel, by decide +kernel⟩
def sp__law_less {K : PySem.W.Frag} {mg : Str → Option Value} (T : Txt K mg) : SpW := fun ws G q _ => ∃ ns ms : List Int, ws = [.tup (ns.map .int), .tup (ms.map .int)] ∧ ns.length ≤ 1000 ∧ ∀ G', Ext G G' → q (.tup ((lessL ns ms).map .int)) G'
theorem len__law_less {K : PySem.W.Frag} {mg : Str → Option Value} (T : Txt K mg) (ws : List Wv) (G : HW) (q : WK) (x : XE) (h : sp__law_less T ws G q x) : ws.length = 2 := by
  obtain ⟨ns, ms, rfl, _⟩ := h
  rfl
def t__law_less {K : PySem.W.Frag} {mg : Str → Option Value} (T : Txt K mg) : ST := sRet (eCB wTuple (aCons (eLc (iSeq (eV 0)) [2] [2] (qOp (wInA true) (eV 2) (eV 1)) (eV 2)) (aNil)))
local macro_rules | `(tactic| walk_at "m__law_less") => `(tactic| simp only [m_V, m_kV, m_C, m_Op, m_kOp, m_kOp2, m_kBl, m_qOp, m_kCh2, m_kCh2f, m_kCh3, m_kCh1, m_kCh, m_Ch, m_qCh, m_oNone, m_oSome, m_kO, m_Sl, m_kSl, m_kSl1, m_kSl2, m_slT, m_qT, m_kTru, m_tB, m_tN, m_tI, m_tT, m_qA, m_qO, m_qN, m_kqAt, m_kqAf, m_kqOt, m_kqOf, m_kqN, m_qYes, m_A, m_Or, m_N, m_Neg, m_kAt, m_kAf, m_kOrt, m_kOrf, m_kN, m_kNeg, m_If, m_kIft, m_kIff, m_an, m_ac, m_kac, m_kac2, m_Tup, m_Lst, m_kTup, m_CB, m_kCB, m_pk1, m_pp, m_pkk, m_pd, m_pn, m_kX, m_Call, m_kC1, m_kC2, m_BM, m_BM0, m_kM1, m_Seq, m_Seq_nx, m_Seq_rt, m_Seq_bk, m_Seq_ct, m_Seq_ex, m_Next, m_Brk, m_Cont, m_Expr, m_kEx, m_Ret, m_RetN, m_SIf, m_kSIft, m_kSIff, m_Set, m_kSet, m_Par, m_kPar, m_Par3, m_kPar3, m_Asg, m_kAsg, m_gNm, m_kG, m_gNo, m_gMo, m_gTu, m_gSb, m_kGs, m_kGs2, m_kW2, m_Aug, m_kAug, m_kAu, m_kAu2, m_mk1, m_kMk, m_Raise, m_ends_rt, m_ends_ex, m_ends_nx, m_add, m_addB, m_sub, m_eqI, m_eqS, m_neI, m_neS, m_isB, m_isN, m_isNotN, m_nonN, m_nonR, m_nonT, m_nonI, m_nonS, m_nonB, m_lenT, m_lenK, m_tupT, m_max, m_min, m_intI, m_intB, m_pr0, m_pr, m_kpr, m_kpr2, m_Xf, m_Try, m_Try_nx, m_Try_rt, m_Try_bk, m_Try_ct, m_Try_ex, m_Suite_nx, m_Suite_rt, m_Suite_bk, m_Suite_ct, m_kXe, m_kXo, m_tlOf, m_For, m_Loop_nx, m_Loop_ct, m_Loop_bk, m_Loop_rt, m_Loop_ex, m_kB, m_iSeq, m_kItT, m_kItK, m_kItS, m_iRg1, m_iRg2, m_iEnu, m_kEnuK, m_iZp, m_kZpT, m_iRv, m_kRvT, m_Lc, m_kCell, m_kTurnT, m_kTurnF, m_wip0, m_wip1, m_Back, m_kBackT, m_rg1, m_kRgA, m_TupRg, m_LstRg, m_Dc, m_DturnT, m_DturnF, m_kDk, m_kDv, m_SSet, m_iRvR, m_At, m_Fst, m_kFs, m_Meth, m_kMe2, m_kMe3, m_Make, m_kMk1, m_kMade, m_ltI, m_geI, m_geP, m_isNotB, m_Get1, m_Get2, m_kGet2, m_Setd, m_kSd2, m_rg2, m_kRg2a, m_kRg2b, List.getElem?_cons_zero, List.getElem?_cons_succ, List.set_cons_zero, List.set_cons_succ, List.length_cons, List.length_nil, Nat.zero_add, Nat.reduceAdd, Nat.reduceLeDiff, Bool.not_true, Bool.not_false])
theorem pf__law_less {K : PySem.W.Frag} {mg : Str → Option Value} (T : Txt K mg) (ws : List Wv) (G : HW) (q : WK) (x : XE) (h : sp__law_less T ws G q x) : t__law_less T (endsW q x) (startW ["_law_some_here", "_law_beside", "_law_k"] ws) G := by
  obtain ⟨ns, ms, rfl, hl, hq⟩ := h
  show t__law_less T (endsW q x) [some (.tup (ns.map .int)), some (.tup (ms.map .int)), none] G
  unfold t__law_less
  walk_at "m__law_less"
  refine r_lcF (notB ms) (fun w => w) (by rw [List.length_map, sizeLine_eq]; omega) (fun _ _ => trivial) (fun i w G' k ew ex hk => ?_) fun D2 G3 hD2 ex3 eD2 => ?_
  · obtain ⟨z, _, rfl⟩ := List.mem_map.mp (List.mem_of_getElem? ew)
    refine ⟨_, rfl, ?_⟩
    have hk := hk G' Ext.refl
    simp only [notB] at hk
    walk_at "m__law_less"
    refine r_inT rfl (flat_ints ms) ?_
    rw [inF_ints]
    by_cases h : z ∈ ms
    · simp only [m_V, m_kV, m_C, m_Op, m_kOp, m_kOp2, m_kBl, m_qOp, m_kCh2, m_kCh2f, m_kCh3, m_kCh1, m_kCh, m_Ch, m_qCh, m_oNone, m_oSome, m_kO, m_Sl, m_kSl, m_kSl1, m_kSl2, m_slT, m_qT, m_kTru, m_tB, m_tN, m_tI, m_tT, m_qA, m_qO, m_qN, m_kqAt, m_kqAf, m_kqOt, m_kqOf, m_kqN, m_qYes, m_A, m_Or, m_N, m_Neg, m_kAt, m_kAf, m_kOrt, m_kOrf, m_kN, m_kNeg, m_If, m_kIft, m_kIff, m_an, m_ac, m_kac, m_kac2, m_Tup, m_Lst, m_kTup, m_CB, m_kCB, m_pk1, m_pp, m_pkk, m_pd, m_pn, m_kX, m_Call, m_kC1, m_kC2, m_BM, m_BM0, m_kM1, m_Seq, m_Seq_nx, m_Seq_rt, m_Seq_bk, m_Seq_ct, m_Seq_ex, m_Next, m_Brk, m_Cont, m_Expr, m_kEx, m_Ret, m_RetN, m_SIf, m_kSIft, m_kSIff, m_Set, m_kSet, m_Par, m_kPar, m_Par3, m_kPar3, m_Asg, m_kAsg, m_gNm, m_kG, m_gNo, m_gMo, m_gTu, m_gSb, m_kGs, m_kGs2, m_kW2, m_Aug, m_kAug, m_kAu, m_kAu2, m_mk1, m_kMk, m_Raise, m_ends_rt, m_ends_ex, m_ends_nx, m_add, m_addB, m_sub, m_eqI, m_eqS, m_neI, m_neS, m_isB, m_isN, m_isNotN, m_nonN, m_nonR, m_nonT, m_nonI, m_nonS, m_nonB, m_lenT, m_lenK, m_tupT, m_max, m_min, m_intI, m_intB, m_pr0, m_pr, m_kpr, m_kpr2, m_Xf, m_Try, m_Try_nx, m_Try_rt, m_Try_bk, m_Try_ct, m_Try_ex, m_Suite_nx, m_Suite_rt, m_Suite_bk, m_Suite_ct, m_kXe, m_kXo, m_tlOf, m_For, m_Loop_nx, m_Loop_ct, m_Loop_bk, m_Loop_rt, m_Loop_ex, m_kB, m_iSeq, m_kItT, m_kItK, m_kItS, m_iRg1, m_iRg2, m_iEnu, m_kEnuK, m_iZp, m_kZpT, m_iRv, m_kRvT, m_Lc, m_kCell, m_kTurnT, m_kTurnF, m_wip0, m_wip1, m_Back, m_kBackT, m_rg1, m_kRgA, m_TupRg, m_LstRg, m_Dc, m_DturnT, m_DturnF, m_kDk, m_kDv, m_SSet, m_iRvR, m_At, m_Fst, m_kFs, m_Meth, m_kMe2, m_kMe3, m_Make, m_kMk1, m_kMade, m_ltI, m_geI, m_geP, m_isNotB, m_Get1, m_Get2, m_kGet2, m_Setd, m_kSd2, m_rg2, m_kRg2a, m_kRg2b, List.getElem?_cons_zero, List.getElem?_cons_succ, List.set_cons_zero, List.set_cons_succ, List.length_cons, List.length_nil, Nat.zero_add, Nat.reduceAdd, Nat.reduceLeDiff, Bool.not_true, Bool.not_false, h, decide_true, if_true]
      simpa [h] using hk
    · simp only [m_V, m_kV, m_C, m_Op, m_kOp, m_kOp2, m_kBl, m_qOp, m_kCh2, m_kCh2f, m_kCh3, m_kCh1, m_kCh, m_Ch, m_qCh, m_oNone, m_oSome, m_kO, m_Sl, m_kSl, m_kSl1, m_kSl2, m_slT, m_qT, m_kTru, m_tB, m_tN, m_tI, m_tT, m_qA, m_qO, m_qN, m_kqAt, m_kqAf, m_kqOt, m_kqOf, m_kqN, m_qYes, m_A, m_Or, m_N, m_Neg, m_kAt, m_kAf, m_kOrt, m_kOrf, m_kN, m_kNeg, m_If, m_kIft, m_kIff, m_an, m_ac, m_kac, m_kac2, m_Tup, m_Lst, m_kTup, m_CB, m_kCB, m_pk1, m_pp, m_pkk, m_pd, m_pn, m_kX, m_Call, m_kC1, m_kC2, m_BM, m_BM0, m_kM1, m_Seq, m_Seq_nx, m_Seq_rt, m_Seq_bk, m_Seq_ct, m_Seq_ex, m_Next, m_Brk, m_Cont, m_Expr, m_kEx, m_Ret, m_RetN, m_SIf, m_kSIft, m_kSIff, m_Set, m_kSet, m_Par, m_kPar, m_Par3, m_kPar3, m_Asg, m_kAsg, m_gNm, m_kG, m_gNo, m_gMo, m_gTu, m_gSb, m_kGs, m_kGs2, m_kW2, m_Aug, m_kAug, m_kAu, m_kAu2, m_mk1, m_kMk, m_Raise, m_ends_rt, m_ends_ex, m_ends_nx, m_add, m_addB, m_sub, m_eqI, m_eqS, m_neI, m_neS, m_isB, m_isN, m_isNotN, m_nonN, m_nonR, m_nonT, m_nonI, m_nonS, m_nonB, m_lenT, m_lenK, m_tupT, m_max, m_min, m_intI, m_intB, m_pr0, m_pr, m_kpr, m_kpr2, m_Xf, m_Try, m_Try_nx, m_Try_rt, m_Try_bk, m_Try_ct, m_Try_ex, m_Suite_nx, m_Suite_rt, m_Suite_bk, m_Suite_ct, m_kXe, m_kXo, m_tlOf, m_For, m_Loop_nx, m_Loop_ct, m_Loop_bk, m_Loop_rt, m_Loop_ex, m_kB, m_iSeq, m_kItT, m_kItK, m_kItS, m_iRg1, m_iRg2, m_iEnu, m_kEnuK, m_iZp, m_kZpT, m_iRv, m_kRvT, m_Lc, m_kCell, m_kTurnT, m_kTurnF, m_wip0, m_wip1, m_Back, m_kBackT, m_rg1, m_kRgA, m_TupRg, m_LstRg, m_Dc, m_DturnT, m_DturnF, m_kDk, m_kDv, m_SSet, m_iRvR, m_At, m_Fst, m_kFs, m_Meth, m_kMe2, m_kMe3, m_Make, m_kMk1, m_kMade, m_ltI, m_geI, m_geP, m_isNotB, m_Get1, m_Get2, m_kGet2, m_Setd, m_kSd2, m_rg2, m_kRg2a, m_kRg2b, List.getElem?_cons_zero, List.getElem?_cons_succ, List.set_cons_zero, List.set_cons_succ, List.length_cons, List.length_nil, Nat.zero_add, Nat.reduceAdd, Nat.reduceLeDiff, Bool.not_true, Bool.not_false, h, decide_false, if_true]
      simpa [h] using hk
  rw [filt_ints (fun i => decide (i ∉ ms)) (notB ms) fun i => rfl] at eD2
  walk_at "m__law_less"
  refine r_tupL (.inl eD2) ?_
  exact hq G3 ex3
set_option maxHeartbeats 0 in
theorem ok__law_less {P : Program} {w : World} {K : PySem.W.Frag} {mg : Str → Option Value} {base : Heap} (T : Txt K mg) : FnW P w K mg base 1 T.f__law_less T.fd__law_less ["_law_some_here", "_law_beside"] (sp__law_less T) :=
  fnW_of (t := t__law_less T) T.F__law_less sc__law_less (len__law_less T) (fun cdv A outer s H E hr => (zs_one (z_ret (z_callT w_tuple rfl T.n_tuple boot_tuple (z_acons (z_lc (is := [2]) (own := [("_law_k", 2)]) rfl sc__law_less.nd (zi_seq (z_var (i := 0) rfl (by first | exact .inl rfl | exact .inr (.inl rfl) | exact .inr (.inr rfl)))) (blkOk_by rfl) (fun _ _ _ _ _ => pg_name sc__law_less.nd rfl (by first | exact .inl rfl | exact .inr rfl)) (fun _ _ _ _ _ => zq_one (z_qcmp (w_notinA (hr).un65) (z_var (i := 2) rfl (by first | exact .inl rfl | exact .inr (.inl rfl) | exact .inr (.inr rfl))) (z_var (i := 1) rfl (by first | exact .inl rfl | exact .inr (.inl rfl) | exact .inr (.inr rfl))) (by rfl))) (fun _ _ _ _ _ => z_var (i := 2) rfl (by first | exact .inl rfl | exact .inr (.inl rfl) | exact .inr (.inr rfl))) (by decide)) (z_anil)))))) (pf__law_less T)

/-! ### _law_up -/
theorem sc__law_up : FnScope ["_law_links_here", "_law_some_here", "_law_found", "_law_turn", "_law_one", "_law_other"] ["_law_links_here", "_law_some_here"] (defScope s__law_up) := ⟨rfl, rfl, rfl, by decide +kernel, rfl, by decide +kernel, by decide +kernel⟩
def sp__law_up {K : PySem.W.Frag} {mg : Str → Option Value} (T : Txt K mg) : SpW := fun ws G q _ => ∃ (w : Wv) (L : Lk) (ns : List Int), ws = [w, .tup (ns.map .int)] ∧ LinksAt G w L ∧ L.length ≤ 1000 ∧ ns.length ≤ 120 ∧ ns.Nodup ∧ ∀ out G', ReachL L true ns out → Ext G G' → q (.tup (out.map .int)) G'
theorem len__law_up {K : PySem.W.Frag} {mg : Str → Option Value} (T : Txt K mg) (ws : List Wv) (G : HW) (q : WK) (x : XE) (h : sp__law_up T ws G q x) : ws.length = 2 := by
  obtain ⟨w, L, ns, rfl, _⟩ := h
  rfl
def b__law_up_6 {K : PySem.W.Frag} {mg : Str → Option Value} (T : Txt K mg) : ST := sRet (eCB wTuple (aCons (eCB wSrt (aCons (eV 2) (aNil))) (aNil)))
theorem mb__law_up_6 {K : PySem.W.Frag} {mg : Str → Option Value} (T : Txt K mg) (D : EndsW) (σ : SW) (G : HW) : b__law_up_6 T D σ G = (sRet (eCB wTuple (aCons (eCB wSrt (aCons (eV 2) (aNil))) (aNil)))) D σ G := rfl
def b__law_up_4 {K : PySem.W.Frag} {mg : Str → Option Value} (T : Txt K mg) : ST := sIf (qAnd (qOp (wInA false) (eV 4) (eV 2)) (qOp (wInA true) (eV 5) (eV 2))) (sExpr (eBM "list" wAppend (eV 2) (aCons (eV 5) (aNil)))) (sNext)
theorem mb__law_up_4 {K : PySem.W.Frag} {mg : Str → Option Value} (T : Txt K mg) (D : EndsW) (σ : SW) (G : HW) : b__law_up_4 T D σ G = (sIf (qAnd (qOp (wInA false) (eV 4) (eV 2)) (qOp (wInA true) (eV 5) (eV 2))) (sExpr (eBM "list" wAppend (eV 2) (aCons (eV 5) (aNil)))) (sNext)) D σ G := rfl
def b__law_up_3 {K : PySem.W.Frag} {mg : Str → Option Value} (T : Txt K mg) : ST := sFor (iSeq (eV 0)) (gTu 2 (gMo (gNm 4) (gMo (gNm 5) (gNo)))) (b__law_up_4 T)
theorem mb__law_up_3 {K : PySem.W.Frag} {mg : Str → Option Value} (T : Txt K mg) (D : EndsW) (σ : SW) (G : HW) : b__law_up_3 T D σ G = (sFor (iSeq (eV 0)) (gTu 2 (gMo (gNm 4) (gMo (gNm 5) (gNo)))) (b__law_up_4 T)) D σ G := rfl
def b__law_up_2 {K : PySem.W.Frag} {mg : Str → Option Value} (T : Txt K mg) : ST := sSeq (sFor (iRg1 (aCons (eOp wAdd (eCB wLen (aCons (eV 0) (aNil))) (eC (.int 1))) (aNil))) (gNm 3) (b__law_up_3 T)) (b__law_up_6 T)
theorem mb__law_up_2 {K : PySem.W.Frag} {mg : Str → Option Value} (T : Txt K mg) (D : EndsW) (σ : SW) (G : HW) : b__law_up_2 T D σ G = (sSeq (sFor (iRg1 (aCons (eOp wAdd (eCB wLen (aCons (eV 0) (aNil))) (eC (.int 1))) (aNil))) (gNm 3) (b__law_up_3 T)) (b__law_up_6 T)) D σ G := rfl
def t__law_up {K : PySem.W.Frag} {mg : Str → Option Value} (T : Txt K mg) : ST := sSeq (sSet 2 (eCB wList (aCons (eV 1) (aNil)))) (b__law_up_2 T)
local macro_rules | `(tactic| walk_at "m__law_up") => `(tactic| simp only [m_V, m_kV, m_C, m_Op, m_kOp, m_kOp2, m_kBl, m_qOp, m_kCh2, m_kCh2f, m_kCh3, m_kCh1, m_kCh, m_Ch, m_qCh, m_oNone, m_oSome, m_kO, m_Sl, m_kSl, m_kSl1, m_kSl2, m_slT, m_qT, m_kTru, m_tB, m_tN, m_tI, m_tT, m_qA, m_qO, m_qN, m_kqAt, m_kqAf, m_kqOt, m_kqOf, m_kqN, m_qYes, m_A, m_Or, m_N, m_Neg, m_kAt, m_kAf, m_kOrt, m_kOrf, m_kN, m_kNeg, m_If, m_kIft, m_kIff, m_an, m_ac, m_kac, m_kac2, m_Tup, m_Lst, m_kTup, m_CB, m_kCB, m_pk1, m_pp, m_pkk, m_pd, m_pn, m_kX, m_Call, m_kC1, m_kC2, m_BM, m_BM0, m_kM1, m_Seq, m_Seq_nx, m_Seq_rt, m_Seq_bk, m_Seq_ct, m_Seq_ex, m_Next, m_Brk, m_Cont, m_Expr, m_kEx, m_Ret, m_RetN, m_SIf, m_kSIft, m_kSIff, m_Set, m_kSet, m_Par, m_kPar, m_Par3, m_kPar3, m_Asg, m_kAsg, m_gNm, m_kG, m_gNo, m_gMo, m_gTu, m_gSb, m_kGs, m_kGs2, m_kW2, m_Aug, m_kAug, m_kAu, m_kAu2, m_mk1, m_kMk, m_Raise, m_ends_rt, m_ends_ex, m_ends_nx, m_add, m_addB, m_sub, m_eqI, m_eqS, m_neI, m_neS, m_isB, m_isN, m_isNotN, m_nonN, m_nonR, m_nonT, m_nonI, m_nonS, m_nonB, m_lenT, m_lenK, m_tupT, m_max, m_min, m_intI, m_intB, m_pr0, m_pr, m_kpr, m_kpr2, m_Xf, m_Try, m_Try_nx, m_Try_rt, m_Try_bk, m_Try_ct, m_Try_ex, m_Suite_nx, m_Suite_rt, m_Suite_bk, m_Suite_ct, m_kXe, m_kXo, m_tlOf, m_For, m_Loop_nx, m_Loop_ct, m_Loop_bk, m_Loop_rt, m_Loop_ex, m_kB, m_iSeq, m_kItT, m_kItK, m_kItS, m_iRg1, m_iRg2, m_iEnu, m_kEnuK, m_iZp, m_kZpT, m_iRv, m_kRvT, m_Lc, m_kCell, m_kTurnT, m_kTurnF, m_wip0, m_wip1, m_Back, m_kBackT, m_rg1, m_kRgA, m_TupRg, m_LstRg, m_Dc, m_DturnT, m_DturnF, m_kDk, m_kDv, m_SSet, m_iRvR, m_At, m_Fst, m_kFs, m_Meth, m_kMe2, m_kMe3, m_Make, m_kMk1, m_kMade, m_ltI, m_geI, m_geP, m_isNotB, m_Get1, m_Get2, m_kGet2, m_Setd, m_kSd2, m_rg2, m_kRg2a, m_kRg2b, List.getElem?_cons_zero, List.getElem?_cons_succ, List.set_cons_zero, List.set_cons_succ, List.length_cons, List.length_nil, Nat.zero_add, Nat.reduceAdd, Nat.reduceLeDiff, Bool.not_true, Bool.not_false, mb__law_up_6, mb__law_up_4, mb__law_up_3, mb__law_up_2])
theorem pf__law_up {K : PySem.W.Frag} {mg : Str → Option Value} (T : Txt K mg) (ws : List Wv) (G : HW) (q : WK) (x : XE) (h : sp__law_up T ws G q x) : t__law_up T (endsW q x) (startW ["_law_links_here", "_law_some_here", "_law_found", "_law_turn", "_law_one", "_law_other"] ws) G := by
  obtain ⟨w, L, ns, rfl, hw, hl, hn, nd, hq⟩ := h
  show t__law_up T (endsW q x) [some (w), some (.tup (ns.map .int)), none, none, none, none] G
  unfold t__law_up
  walk_at "m__law_up"
  refine r_listT fun D hD => ?_
  have xD := Ext.new (o := .lst (ns.map .int)) hD
  walk_at "m__law_up"
  refine r_lenAt (hw.ext xD) ?_
  walk_at "m__law_up"
  refine r_rg1 (by omega) (by omega) ?_
  refine r_for (fun i σ G2 => ∃ (o3 o4 o5 : Option Wv) (fs : List Int), σ = [some w, some (.tup (ns.map .int)), some (.ref D), o3, o4, o5] ∧ UpAt L ns i fs ∧ G2 D = some (.lst (fs.map .int)) ∧ Ext G G2)
    ⟨_, _, _, ns, rfl, ⟨nd, fun k hk => hk, fun k hk => .at hk, .inr (Nat.le_refl _)⟩, updO_same, xD⟩ (fun _ _ _ _ _ => trivial) ?_ ?_
  · rintro i w2 σ2 G2 ew ⟨o3, o4, o5, gs, rfl, ua, eD, x2⟩
    obtain ⟨hi, rfl⟩ := rg_nat ew
    walk_at "m__law_up"
    refine r_itAt hw x2 fun ok hok => ?_
    refine r_for (fun j σ G3 => ∃ (o4 o5 : Option Wv) (fs : List Int), σ = [some w, some (.tup (ns.map .int)), some (.ref D), some (.int i), o4, o5] ∧ UpIn L ns i gs j fs ∧ G3 D = some (.lst (fs.map .int)) ∧ Ext G G3)
      ⟨_, _, gs, rfl, ua.into, eD, x2⟩ (fun _ _ _ _ ⟨_, _, _, _, _, _, z⟩ => hok _ z) ?_ ?_
    · rintro j w3 σ3 G3 ew3 ⟨o4, o5, fs, rfl, ui, eD3, x3⟩
      obtain ⟨p, ep, rfl⟩ : ∃ p, L[j]? = some p ∧ tup2 p = w3 := by
        rw [List.getElem?_map] at ew3
        cases e : L[j]? with
        | none => rw [e] at ew3; cases ew3
        | some p => rw [e] at ew3; cases ew3; exact ⟨p, rfl, rfl⟩
      unfold tup2
      have fl := ui.len
      walk_at "m__law_up"
      refine r_inL (.inl eD3) rfl (flat_ints fs) ?_
      rw [inF_ints]
      by_cases e1 : p.1 ∈ fs
      · simp only [m_V, m_kV, m_C, m_Op, m_kOp, m_kOp2, m_kBl, m_qOp, m_kCh2, m_kCh2f, m_kCh3, m_kCh1, m_kCh, m_Ch, m_qCh, m_oNone, m_oSome, m_kO, m_Sl, m_kSl, m_kSl1, m_kSl2, m_slT, m_qT, m_kTru, m_tB, m_tN, m_tI, m_tT, m_qA, m_qO, m_qN, m_kqAt, m_kqAf, m_kqOt, m_kqOf, m_kqN, m_qYes, m_A, m_Or, m_N, m_Neg, m_kAt, m_kAf, m_kOrt, m_kOrf, m_kN, m_kNeg, m_If, m_kIft, m_kIff, m_an, m_ac, m_kac, m_kac2, m_Tup, m_Lst, m_kTup, m_CB, m_kCB, m_pk1, m_pp, m_pkk, m_pd, m_pn, m_kX, m_Call, m_kC1, m_kC2, m_BM, m_BM0, m_kM1, m_Seq, m_Seq_nx, m_Seq_rt, m_Seq_bk, m_Seq_ct, m_Seq_ex, m_Next, m_Brk, m_Cont, m_Expr, m_kEx, m_Ret, m_RetN, m_SIf, m_kSIft, m_kSIff, m_Set, m_kSet, m_Par, m_kPar, m_Par3, m_kPar3, m_Asg, m_kAsg, m_gNm, m_kG, m_gNo, m_gMo, m_gTu, m_gSb, m_kGs, m_kGs2, m_kW2, m_Aug, m_kAug, m_kAu, m_kAu2, m_mk1, m_kMk, m_Raise, m_ends_rt, m_ends_ex, m_ends_nx, m_add, m_addB, m_sub, m_eqI, m_eqS, m_neI, m_neS, m_isB, m_isN, m_isNotN, m_nonN, m_nonR, m_nonT, m_nonI, m_nonS, m_nonB, m_lenT, m_lenK, m_tupT, m_max, m_min, m_intI, m_intB, m_pr0, m_pr, m_kpr, m_kpr2, m_Xf, m_Try, m_Try_nx, m_Try_rt, m_Try_bk, m_Try_ct, m_Try_ex, m_Suite_nx, m_Suite_rt, m_Suite_bk, m_Suite_ct, m_kXe, m_kXo, m_tlOf, m_For, m_Loop_nx, m_Loop_ct, m_Loop_bk, m_Loop_rt, m_Loop_ex, m_kB, m_iSeq, m_kItT, m_kItK, m_kItS, m_iRg1, m_iRg2, m_iEnu, m_kEnuK, m_iZp, m_kZpT, m_iRv, m_kRvT, m_Lc, m_kCell, m_kTurnT, m_kTurnF, m_wip0, m_wip1, m_Back, m_kBackT, m_rg1, m_kRgA, m_TupRg, m_LstRg, m_Dc, m_DturnT, m_DturnF, m_kDk, m_kDv, m_SSet, m_iRvR, m_At, m_Fst, m_kFs, m_Meth, m_kMe2, m_kMe3, m_Make, m_kMk1, m_kMade, m_ltI, m_geI, m_geP, m_isNotB, m_Get1, m_Get2, m_kGet2, m_Setd, m_kSd2, m_rg2, m_kRg2a, m_kRg2b, List.getElem?_cons_zero, List.getElem?_cons_succ, List.set_cons_zero, List.set_cons_succ, List.length_cons, List.length_nil, Nat.zero_add, Nat.reduceAdd, Nat.reduceLeDiff, Bool.not_true, Bool.not_false, mb__law_up_6, mb__law_up_4, mb__law_up_3, mb__law_up_2, e1, decide_true, if_true]
        refine r_inL (.inl eD3) rfl (flat_ints fs) ?_
        rw [inF_ints]
        by_cases e2 : p.2 ∈ fs
        · simp only [m_V, m_kV, m_C, m_Op, m_kOp, m_kOp2, m_kBl, m_qOp, m_kCh2, m_kCh2f, m_kCh3, m_kCh1, m_kCh, m_Ch, m_qCh, m_oNone, m_oSome, m_kO, m_Sl, m_kSl, m_kSl1, m_kSl2, m_slT, m_qT, m_kTru, m_tB, m_tN, m_tI, m_tT, m_qA, m_qO, m_qN, m_kqAt, m_kqAf, m_kqOt, m_kqOf, m_kqN, m_qYes, m_A, m_Or, m_N, m_Neg, m_kAt, m_kAf, m_kOrt, m_kOrf, m_kN, m_kNeg, m_If, m_kIft, m_kIff, m_an, m_ac, m_kac, m_kac2, m_Tup, m_Lst, m_kTup, m_CB, m_kCB, m_pk1, m_pp, m_pkk, m_pd, m_pn, m_kX, m_Call, m_kC1, m_kC2, m_BM, m_BM0, m_kM1, m_Seq, m_Seq_nx, m_Seq_rt, m_Seq_bk, m_Seq_ct, m_Seq_ex, m_Next, m_Brk, m_Cont, m_Expr, m_kEx, m_Ret, m_RetN, m_SIf, m_kSIft, m_kSIff, m_Set, m_kSet, m_Par, m_kPar, m_Par3, m_kPar3, m_Asg, m_kAsg, m_gNm, m_kG, m_gNo, m_gMo, m_gTu, m_gSb, m_kGs, m_kGs2, m_kW2, m_Aug, m_kAug, m_kAu, m_kAu2, m_mk1, m_kMk, m_Raise, m_ends_rt, m_ends_ex, m_ends_nx, m_add, m_addB, m_sub, m_eqI, m_eqS, m_neI, m_neS, m_isB, m_isN, m_isNotN, m_nonN, m_nonR, m_nonT, m_nonI, m_nonS, m_nonB, m_lenT, m_lenK, m_tupT, m_max, m_min, m_intI, m_intB, m_pr0, m_pr, m_kpr, m_kpr2, m_Xf, m_Try, m_Try_nx, m_Try_rt, m_Try_bk, m_Try_ct, m_Try_ex, m_Suite_nx, m_Suite_rt, m_Suite_bk, m_Suite_ct, m_kXe, m_kXo, m_tlOf, m_For, m_Loop_nx, m_Loop_ct, m_Loop_bk, m_Loop_rt, m_Loop_ex, m_kB, m_iSeq, m_kItT, m_kItK, m_kItS, m_iRg1, m_iRg2, m_iEnu, m_kEnuK, m_iZp, m_kZpT, m_iRv, m_kRvT, m_Lc, m_kCell, m_kTurnT, m_kTurnF, m_wip0, m_wip1, m_Back, m_kBackT, m_rg1, m_kRgA, m_TupRg, m_LstRg, m_Dc, m_DturnT, m_DturnF, m_kDk, m_kDv, m_SSet, m_iRvR, m_At, m_Fst, m_kFs, m_Meth, m_kMe2, m_kMe3, m_Make, m_kMk1, m_kMade, m_ltI, m_geI, m_geP, m_isNotB, m_Get1, m_Get2, m_kGet2, m_Setd, m_kSd2, m_rg2, m_kRg2a, m_kRg2b, List.getElem?_cons_zero, List.getElem?_cons_succ, List.set_cons_zero, List.set_cons_succ, List.length_cons, List.length_nil, Nat.zero_add, Nat.reduceAdd, Nat.reduceLeDiff, Bool.not_true, Bool.not_false, mb__law_up_6, mb__law_up_4, mb__law_up_3, mb__law_up_2, e2, decide_true, if_true]
          exact ⟨_, _, fs, rfl, ui.stay ep fun _ => e2, eD3, x3⟩
        · simp only [m_V, m_kV, m_C, m_Op, m_kOp, m_kOp2, m_kBl, m_qOp, m_kCh2, m_kCh2f, m_kCh3, m_kCh1, m_kCh, m_Ch, m_qCh, m_oNone, m_oSome, m_kO, m_Sl, m_kSl, m_kSl1, m_kSl2, m_slT, m_qT, m_kTru, m_tB, m_tN, m_tI, m_tT, m_qA, m_qO, m_qN, m_kqAt, m_kqAf, m_kqOt, m_kqOf, m_kqN, m_qYes, m_A, m_Or, m_N, m_Neg, m_kAt, m_kAf, m_kOrt, m_kOrf, m_kN, m_kNeg, m_If, m_kIft, m_kIff, m_an, m_ac, m_kac, m_kac2, m_Tup, m_Lst, m_kTup, m_CB, m_kCB, m_pk1, m_pp, m_pkk, m_pd, m_pn, m_kX, m_Call, m_kC1, m_kC2, m_BM, m_BM0, m_kM1, m_Seq, m_Seq_nx, m_Seq_rt, m_Seq_bk, m_Seq_ct, m_Seq_ex, m_Next, m_Brk, m_Cont, m_Expr, m_kEx, m_Ret, m_RetN, m_SIf, m_kSIft, m_kSIff, m_Set, m_kSet, m_Par, m_kPar, m_Par3, m_kPar3, m_Asg, m_kAsg, m_gNm, m_kG, m_gNo, m_gMo, m_gTu, m_gSb, m_kGs, m_kGs2, m_kW2, m_Aug, m_kAug, m_kAu, m_kAu2, m_mk1, m_kMk, m_Raise, m_ends_rt, m_ends_ex, m_ends_nx, m_add, m_addB, m_sub, m_eqI, m_eqS, m_neI, m_neS, m_isB, m_isN, m_isNotN, m_nonN, m_nonR, m_nonT, m_nonI, m_nonS, m_nonB, m_lenT, m_lenK, m_tupT, m_max, m_min, m_intI, m_intB, m_pr0, m_pr, m_kpr, m_kpr2, m_Xf, m_Try, m_Try_nx, m_Try_rt, m_Try_bk, m_Try_ct, m_Try_ex, m_Suite_nx, m_Suite_rt, m_Suite_bk, m_Suite_ct, m_kXe, m_kXo, m_tlOf, m_For, m_Loop_nx, m_Loop_ct, m_Loop_bk, m_Loop_rt, m_Loop_ex, m_kB, m_iSeq, m_kItT, m_kItK, m_kItS, m_iRg1, m_iRg2, m_iEnu, m_kEnuK, m_iZp, m_kZpT, m_iRv, m_kRvT, m_Lc, m_kCell, m_kTurnT, m_kTurnF, m_wip0, m_wip1, m_Back, m_kBackT, m_rg1, m_kRgA, m_TupRg, m_LstRg, m_Dc, m_DturnT, m_DturnF, m_kDk, m_kDv, m_SSet, m_iRvR, m_At, m_Fst, m_kFs, m_Meth, m_kMe2, m_kMe3, m_Make, m_kMk1, m_kMade, m_ltI, m_geI, m_geP, m_isNotB, m_Get1, m_Get2, m_kGet2, m_Setd, m_kSd2, m_rg2, m_kRg2a, m_kRg2b, List.getElem?_cons_zero, List.getElem?_cons_succ, List.set_cons_zero, List.set_cons_succ, List.length_cons, List.length_nil, Nat.zero_add, Nat.reduceAdd, Nat.reduceLeDiff, Bool.not_true, Bool.not_false, mb__law_up_6, mb__law_up_4, mb__law_up_3, mb__law_up_2, e2, decide_false, if_true]
          refine r_M (.inl ⟨rfl, _, .inl eD3⟩) ?_
          walk_at "m__law_up"
          refine r_app eD3 (by rw [List.length_map, sizeLine_eq]; omega) ?_
          walk_at "m__law_up"
          exact ⟨_, _, fs ++ [p.2], rfl, ui.more ep e1 e2, by rw [updO_same, List.map_append]; rfl, x3.put hD⟩
      · simp only [m_V, m_kV, m_C, m_Op, m_kOp, m_kOp2, m_kBl, m_qOp, m_kCh2, m_kCh2f, m_kCh3, m_kCh1, m_kCh, m_Ch, m_qCh, m_oNone, m_oSome, m_kO, m_Sl, m_kSl, m_kSl1, m_kSl2, m_slT, m_qT, m_kTru, m_tB, m_tN, m_tI, m_tT, m_qA, m_qO, m_qN, m_kqAt, m_kqAf, m_kqOt, m_kqOf, m_kqN, m_qYes, m_A, m_Or, m_N, m_Neg, m_kAt, m_kAf, m_kOrt, m_kOrf, m_kN, m_kNeg, m_If, m_kIft, m_kIff, m_an, m_ac, m_kac, m_kac2, m_Tup, m_Lst, m_kTup, m_CB, m_kCB, m_pk1, m_pp, m_pkk, m_pd, m_pn, m_kX, m_Call, m_kC1, m_kC2, m_BM, m_BM0, m_kM1, m_Seq, m_Seq_nx, m_Seq_rt, m_Seq_bk, m_Seq_ct, m_Seq_ex, m_Next, m_Brk, m_Cont, m_Expr, m_kEx, m_Ret, m_RetN, m_SIf, m_kSIft, m_kSIff, m_Set, m_kSet, m_Par, m_kPar, m_Par3, m_kPar3, m_Asg, m_kAsg, m_gNm, m_kG, m_gNo, m_gMo, m_gTu, m_gSb, m_kGs, m_kGs2, m_kW2, m_Aug, m_kAug, m_kAu, m_kAu2, m_mk1, m_kMk, m_Raise, m_ends_rt, m_ends_ex, m_ends_nx, m_add, m_addB, m_sub, m_eqI, m_eqS, m_neI, m_neS, m_isB, m_isN, m_isNotN, m_nonN, m_nonR, m_nonT, m_nonI, m_nonS, m_nonB, m_lenT, m_lenK, m_tupT, m_max, m_min, m_intI, m_intB, m_pr0, m_pr, m_kpr, m_kpr2, m_Xf, m_Try, m_Try_nx, m_Try_rt, m_Try_bk, m_Try_ct, m_Try_ex, m_Suite_nx, m_Suite_rt, m_Suite_bk, m_Suite_ct, m_kXe, m_kXo, m_tlOf, m_For, m_Loop_nx, m_Loop_ct, m_Loop_bk, m_Loop_rt, m_Loop_ex, m_kB, m_iSeq, m_kItT, m_kItK, m_kItS, m_iRg1, m_iRg2, m_iEnu, m_kEnuK, m_iZp, m_kZpT, m_iRv, m_kRvT, m_Lc, m_kCell, m_kTurnT, m_kTurnF, m_wip0, m_wip1, m_Back, m_kBackT, m_rg1, m_kRgA, m_TupRg, m_LstRg, m_Dc, m_DturnT, m_DturnF, m_kDk, m_kDv, m_SSet, m_iRvR, m_At, m_Fst, m_kFs, m_Meth, m_kMe2, m_kMe3, m_Make, m_kMk1, m_kMade, m_ltI, m_geI, m_geP, m_isNotB, m_Get1, m_Get2, m_kGet2, m_Setd, m_kSd2, m_rg2, m_kRg2a, m_kRg2b, List.getElem?_cons_zero, List.getElem?_cons_succ, List.set_cons_zero, List.set_cons_succ, List.length_cons, List.length_nil, Nat.zero_add, Nat.reduceAdd, Nat.reduceLeDiff, Bool.not_true, Bool.not_false, mb__law_up_6, mb__law_up_4, mb__law_up_3, mb__law_up_2, e1, decide_false, if_true]
        exact ⟨_, _, fs, rfl, ui.stay ep fun z => absurd z e1, eD3, x3⟩
    · rintro σ3 G3 ⟨o4, o5, fs, rfl, ui, eD3, x3⟩
      rw [List.length_map] at ui
      walk_at "m__law_up"
      exact ⟨_, _, _, fs, rfl, ui.out ua, eD3, x3⟩
  · rintro σ3 G3 ⟨o3, o4, o5, fs, rfl, ua, eD3, x3⟩
    rw [rgW_len] at ua
    have e9 : ((L.length : Int) + 1).toNat = L.length + 1 := by omega
    rw [e9] at ua
    have fi := ua.fin
    walk_at "m__law_up"
    refine r_sorted (.inl eD3) fun out pm rs l2 hl2 => ?_
    have x2 := Ext.new (o := .lst (out.map .int)) hl2
    walk_at "m__law_up"
    refine r_tupL (.inl updO_same) ?_
    exact hq out _ ⟨lt_of_le_nodup out rs (pm.nodup_iff.mpr ua.1), fun k => by rw [pm.mem_iff, fi]⟩ (x3.trans x2)
set_option maxHeartbeats 0 in
theorem ok__law_up {P : Program} {w : World} {K : PySem.W.Frag} {mg : Str → Option Value} {base : Heap} (T : Txt K mg) : FnW P w K mg base 1 T.f__law_up T.fd__law_up ["_law_links_here", "_law_some_here"] (sp__law_up T) :=
  fnW_of (t := t__law_up T) T.F__law_up sc__law_up (len__law_up T) (fun cdv A outer s H E hr => (zs_cons (z_set (i := 2) sc__law_up.nd rfl (by first | exact .inl rfl | exact .inr rfl) (z_callT w_list rfl T.n_list boot_list (z_acons (z_var (i := 1) rfl (by first | exact .inl rfl | exact .inr (.inl rfl) | exact .inr (.inr rfl))) (z_anil)))) (zs_cons (z_for (passes_of rfl) rfl (zi_range1 rfl T.n_range (z_acons (z_bin w_add (z_callB w_len rfl T.n_len boot_len (z_acons (z_var (i := 0) rfl (by first | exact .inl rfl | exact .inr (.inl rfl) | exact .inr (.inr rfl))) (z_anil))) (z_int)) (z_anil))) (zg_name (i := 3) sc__law_up.nd rfl (by first | exact .inl rfl | exact .inr rfl)) (zs_one (z_for (passes_of rfl) rfl (zi_seq (z_var (i := 0) rfl (by first | exact .inl rfl | exact .inr (.inl rfl) | exact .inr (.inr rfl)))) (zg_tup rfl (zg_cons (zg_name (i := 4) sc__law_up.nd rfl (by first | exact .inl rfl | exact .inr rfl)) (zg_cons (zg_name (i := 5) sc__law_up.nd rfl (by first | exact .inl rfl | exact .inr rfl)) (zg_nil)))) (zs_one (z_if (z_bool (z_and (z_qcmp (w_inA (hr).un65) (z_var (i := 4) rfl (by first | exact .inl rfl | exact .inr (.inl rfl) | exact .inr (.inr rfl))) (z_var (i := 2) rfl (by first | exact .inl rfl | exact .inr (.inl rfl) | exact .inr (.inr rfl))) (by rfl)) (z_and1 (z_qcmp (w_notinA (hr).un65) (z_var (i := 5) rfl (by first | exact .inl rfl | exact .inr (.inl rfl) | exact .inr (.inr rfl))) (z_var (i := 2) rfl (by first | exact .inl rfl | exact .inr (.inl rfl) | exact .inr (.inr rfl))) (by rfl))))) (zs_one (z_expr (z_bm PySem.F.plainAttrs_list PySem.F.slot_list_append PySem.F.type_list_append w_append (z_var (i := 2) rfl (by first | exact .inl rfl | exact .inr (.inl rfl) | exact .inr (.inr rfl))) (z_acons (z_var (i := 5) rfl (by first | exact .inl rfl | exact .inr (.inl rfl) | exact .inr (.inr rfl))) (z_anil))))) (zs_nil)))))) (zs_one (z_ret (z_callT w_tuple rfl T.n_tuple boot_tuple (z_acons (z_callB (w_srt rfl) rfl T.n_sorted boot_sorted (z_acons (z_var (i := 2) rfl (by first | exact .inl rfl | exact .inr (.inl rfl) | exact .inr (.inr rfl))) (z_anil))) (z_anil)))))))) (pf__law_up T)

/-! ### _law_fall -/
theorem sc__law_fall : FnScope ["_law_links_here", "_law_number", "_law_one", "_law_other"] ["_law_links_here", "_law_number"] (defScope s__law_fall) := ⟨rfl, rfl, rfl, by decide +kernel, rfl, by decide +kernel, by decide +kernel⟩
def sp__law_fall {K : PySem.W.Frag} {mg : Str → Option Value} (T : Txt K mg) : SpW := fun ws G q _ => ∃ (L : Lk) (k : Int), ws = [.tup (L.map tup2), .int k] ∧ L.length ≤ 1000 ∧ ∀ out G', ReachL L false [k] out → Ext G G' → q (.tup (out.map .int)) G'
theorem len__law_fall {K : PySem.W.Frag} {mg : Str → Option Value} (T : Txt K mg) (ws : List Wv) (G : HW) (q : WK) (x : XE) (h : sp__law_fall T ws G q x) : ws.length = 2 := by
  obtain ⟨L, k, rfl, _⟩ := h
  rfl
def t__law_fall {K : PySem.W.Frag} {mg : Str → Option Value} (T : Txt K mg) : ST := sRet (eCall 2 0 [.p 0, .p 1] [] (sp__law_up T) (aCons (eLc (iSeq (eV 0)) [2, 3] [2, 3] (qYes) (eTup (aCons (eV 3) (aCons (eV 2) (aNil))))) (aCons (eTup (aCons (eV 1) (aNil))) (aNil))) aNil)
local macro_rules | `(tactic| walk_at "m__law_fall") => `(tactic| simp only [m_V, m_kV, m_C, m_Op, m_kOp, m_kOp2, m_kBl, m_qOp, m_kCh2, m_kCh2f, m_kCh3, m_kCh1, m_kCh, m_Ch, m_qCh, m_oNone, m_oSome, m_kO, m_Sl, m_kSl, m_kSl1, m_kSl2, m_slT, m_qT, m_kTru, m_tB, m_tN, m_tI, m_tT, m_qA, m_qO, m_qN, m_kqAt, m_kqAf, m_kqOt, m_kqOf, m_kqN, m_qYes, m_A, m_Or, m_N, m_Neg, m_kAt, m_kAf, m_kOrt, m_kOrf, m_kN, m_kNeg, m_If, m_kIft, m_kIff, m_an, m_ac, m_kac, m_kac2, m_Tup, m_Lst, m_kTup, m_CB, m_kCB, m_pk1, m_pp, m_pkk, m_pd, m_pn, m_kX, m_Call, m_kC1, m_kC2, m_BM, m_BM0, m_kM1, m_Seq, m_Seq_nx, m_Seq_rt, m_Seq_bk, m_Seq_ct, m_Seq_ex, m_Next, m_Brk, m_Cont, m_Expr, m_kEx, m_Ret, m_RetN, m_SIf, m_kSIft, m_kSIff, m_Set, m_kSet, m_Par, m_kPar, m_Par3, m_kPar3, m_Asg, m_kAsg, m_gNm, m_kG, m_gNo, m_gMo, m_gTu, m_gSb, m_kGs, m_kGs2, m_kW2, m_Aug, m_kAug, m_kAu, m_kAu2, m_mk1, m_kMk, m_Raise, m_ends_rt, m_ends_ex, m_ends_nx, m_add, m_addB, m_sub, m_eqI, m_eqS, m_neI, m_neS, m_isB, m_isN, m_isNotN, m_nonN, m_nonR, m_nonT, m_nonI, m_nonS, m_nonB, m_lenT, m_lenK, m_tupT, m_max, m_min, m_intI, m_intB, m_pr0, m_pr, m_kpr, m_kpr2, m_Xf, m_Try, m_Try_nx, m_Try_rt, m_Try_bk, m_Try_ct, m_Try_ex, m_Suite_nx, m_Suite_rt, m_Suite_bk, m_Suite_ct, m_kXe, m_kXo, m_tlOf, m_For, m_Loop_nx, m_Loop_ct, m_Loop_bk, m_Loop_rt, m_Loop_ex, m_kB, m_iSeq, m_kItT, m_kItK, m_kItS, m_iRg1, m_iRg2, m_iEnu, m_kEnuK, m_iZp, m_kZpT, m_iRv, m_kRvT, m_Lc, m_kCell, m_kTurnT, m_kTurnF, m_wip0, m_wip1, m_Back, m_kBackT, m_rg1, m_kRgA, m_TupRg, m_LstRg, m_Dc, m_DturnT, m_DturnF, m_kDk, m_kDv, m_SSet, m_iRvR, m_At, m_Fst, m_kFs, m_Meth, m_kMe2, m_kMe3, m_Make, m_kMk1, m_kMade, m_ltI, m_geI, m_geP, m_isNotB, m_Get1, m_Get2, m_kGet2, m_Setd, m_kSd2, m_rg2, m_kRg2a, m_kRg2b, List.getElem?_cons_zero, List.getElem?_cons_succ, List.set_cons_zero, List.set_cons_succ, List.length_cons, List.length_nil, Nat.zero_add, Nat.reduceAdd, Nat.reduceLeDiff, Bool.not_true, Bool.not_false])
theorem pf__law_fall {K : PySem.W.Frag} {mg : Str → Option Value} (T : Txt K mg) (ws : List Wv) (G : HW) (q : WK) (x : XE) (h : sp__law_fall T ws G q x) : t__law_fall T (endsW q x) (startW ["_law_links_here", "_law_number", "_law_one", "_law_other"] ws) G := by
  obtain ⟨L, k, rfl, hl, hq⟩ := h
  show t__law_fall T (endsW q x) [some (.tup (L.map tup2)), some (.int k), none, none] G
  unfold t__law_fall
  walk_at "m__law_fall"
  refine r_lcM swP (by rw [List.length_map, sizeLine_eq]; omega) (fun _ _ => trivial) (fun i w G' k ew ex hk => ?_) fun D2 G3 hD2 ex3 eD2 => ?_
  · obtain ⟨p, _, rfl⟩ := List.mem_map.mp (List.mem_of_getElem? ew)
    refine ⟨_, rfl, ?_⟩
    have hk := hk G' Ext.refl
    rw [sw_tup2] at hk
    walk_at "m__law_fall"
    exact hk
  rw [sw_map] at eD2
  walk_at "m__law_fall"
  refine ⟨.ref D2, swL L, [k], rfl, .inr ⟨_, rfl, eD2⟩, by unfold swL; rw [List.length_map]; exact hl, by simp, by simp, fun out G' ro ex => ?_⟩
  exact hq out G' ⟨ro.1, fun j => by rw [ro.2, reach_sw]⟩ (ex3.trans ex)
set_option maxHeartbeats 0 in
theorem ok__law_fall {P : Program} {w : World} {K : PySem.W.Frag} {mg : Str → Option Value} {base : Heap} (T : Txt K mg) : FnW P w K mg base 2 T.f__law_fall T.fd__law_fall ["_law_links_here", "_law_number"] (sp__law_fall T) :=
  fnW_of (t := t__law_fall T) T.F__law_fall sc__law_fall (len__law_fall T) (fun cdv A outer s H E hr => (zs_one (z_ret (z_call (sel := [.p 0, .p 1]) (dws := []) (ok__law_up T) (hr.mono (by decide)) rfl T.m__law_up T.F__law_up.kp (bind0 T.F__law_up fun _ _ _ _ _ _ us uk h1 h2 => match us, h1, uk, h2 with | [_, _], _, [], _ => rfl) (takes_of rfl rfl rfl rfl) (z_acons (z_lc (is := [2, 3]) (own := [("_law_one", 2), ("_law_other", 3)]) rfl sc__law_fall.nd (zi_seq (z_var (i := 0) rfl (by first | exact .inl rfl | exact .inr (.inl rfl) | exact .inr (.inr rfl)))) (blkOk_by rfl) (fun _ _ _ _ _ => pg_tup rfl (pgs_cons (pg_name sc__law_fall.nd rfl (by first | exact .inl rfl | exact .inr rfl)) (pgs_cons (pg_name sc__law_fall.nd rfl (by first | exact .inl rfl | exact .inr rfl)) (pgs_nil)))) (fun _ _ _ _ _ => zq_nil) (fun _ _ _ _ _ => z_tup (z_acons (z_var (i := 3) rfl (by first | exact .inl rfl | exact .inr (.inl rfl) | exact .inr (.inr rfl))) (z_acons (z_var (i := 2) rfl (by first | exact .inl rfl | exact .inr (.inl rfl) | exact .inr (.inr rfl))) (z_anil)))) (by decide)) (z_acons (z_tup (z_acons (z_var (i := 1) rfl (by first | exact .inl rfl | exact .inr (.inl rfl) | exact .inr (.inr rfl))) (z_anil))) (z_anil))))))) (pf__law_fall T)

/-! ### _law_one_right -/
theorem sc__law_one_right : FnScope ["_law_m", "_law_links_here", "_law_size", "_law_some_here", "_law_number", "_law_own", "_law_gone", "_law_wider"] ["_law_m", "_law_links_here", "_law_size"] (defScope s__law_one_right) := ⟨rfl, rfl, rfl, by decide +kernel, rfl, by decide +kernel, by decide +kernel⟩
def sp__law_one_right {K : PySem.W.Frag} {mg : Str → Option Value} (T : Txt K mg) : SpW := fun ws G q _ => ∃ m a b, ∃ L : Lk, ∃ size n : Nat, ws = [.ref m, .tup (L.map tup2), .int size] ∧ GoodL L size ∧ size ≤ 120 ∧ DSt G m a b (n + 400) ∧ ∀ G', Kp [m, b] G G' → DSt G' m a b n → q (.bl true) G'
theorem len__law_one_right {K : PySem.W.Frag} {mg : Str → Option Value} (T : Txt K mg) (ws : List Wv) (G : HW) (q : WK) (x : XE) (h : sp__law_one_right T ws G q x) : ws.length = 3 := by
  obtain ⟨m, a, b, L, size, n, rfl, _⟩ := h
  rfl
def b__law_one_right_10 {K : PySem.W.Frag} {mg : Str → Option Value} (T : Txt K mg) : ST := sRet (eAnd (eCall 2 0 [.p 0, .p 1] [] (sp__law_closed T) (aCons (eV 1) (aCons (eCall 3 0 [.p 0, .p 1, .p 2] [] (sp_without_fall T) (aCons (eV 1) (aCons (eV 5) (aCons (eV 4) (aNil)))) aNil) (aNil))) aNil) (eCall 2 0 [.p 0, .p 1] [] (sp_is_closed T) (aCons (eV 1) (aCons (eCall 3 0 [.p 0, .p 1, .p 2] [] (sp_without_fall T) (aCons (eV 1) (aCons (eV 5) (aCons (eV 4) (aNil)))) aNil) (aNil))) aNil))
theorem mb__law_one_right_10 {K : PySem.W.Frag} {mg : Str → Option Value} (T : Txt K mg) (D : EndsW) (σ : SW) (G : HW) : b__law_one_right_10 T D σ G = (sRet (eAnd (eCall 2 0 [.p 0, .p 1] [] (sp__law_closed T) (aCons (eV 1) (aCons (eCall 3 0 [.p 0, .p 1, .p 2] [] (sp_without_fall T) (aCons (eV 1) (aCons (eV 5) (aCons (eV 4) (aNil)))) aNil) (aNil))) aNil) (eCall 2 0 [.p 0, .p 1] [] (sp_is_closed T) (aCons (eV 1) (aCons (eCall 3 0 [.p 0, .p 1, .p 2] [] (sp_without_fall T) (aCons (eV 1) (aCons (eV 5) (aCons (eV 4) (aNil)))) aNil) (aNil))) aNil))) D σ G := rfl
def b__law_one_right_8 {K : PySem.W.Frag} {mg : Str → Option Value} (T : Txt K mg) : ST := sSeq (sIf (qOr (qNot (qTru (eCall 2 0 [.p 0, .p 1] [] (sp__law_inside T) (aCons (eV 5) (aCons (eV 7) (aNil))) aNil))) (qOp wNe (eCall 2 0 [.p 0, .p 1] [] (sp_closure T) (aCons (eV 1) (aCons (eV 5) (aNil))) aNil) (eV 5))) (sRet (eC (.bl false))) (sNext)) (b__law_one_right_10 T)
theorem mb__law_one_right_8 {K : PySem.W.Frag} {mg : Str → Option Value} (T : Txt K mg) (D : EndsW) (σ : SW) (G : HW) : b__law_one_right_8 T D σ G = (sSeq (sIf (qOr (qNot (qTru (eCall 2 0 [.p 0, .p 1] [] (sp__law_inside T) (aCons (eV 5) (aCons (eV 7) (aNil))) aNil))) (qOp wNe (eCall 2 0 [.p 0, .p 1] [] (sp_closure T) (aCons (eV 1) (aCons (eV 5) (aNil))) aNil) (eV 5))) (sRet (eC (.bl false))) (sNext)) (b__law_one_right_10 T)) D σ G := rfl
def b__law_one_right_7 {K : PySem.W.Frag} {mg : Str → Option Value} (T : Txt K mg) : ST := sSeq (sSet 7 (eCall 2 0 [.p 0, .p 1] [] (sp_closure T) (aCons (eV 1) (aCons (eCB wTuple (aCons (eSSet (eOp wAdd (eV 3) (eCall 2 0 [.p 0, .p 1] [] (sp__law_some T) (aCons (eV 0) (aCons (eV 2) (aNil))) aNil))) (aNil))) (aNil))) aNil)) (b__law_one_right_8 T)
theorem mb__law_one_right_7 {K : PySem.W.Frag} {mg : Str → Option Value} (T : Txt K mg) (D : EndsW) (σ : SW) (G : HW) : b__law_one_right_7 T D σ G = (sSeq (sSet 7 (eCall 2 0 [.p 0, .p 1] [] (sp_closure T) (aCons (eV 1) (aCons (eCB wTuple (aCons (eSSet (eOp wAdd (eV 3) (eCall 2 0 [.p 0, .p 1] [] (sp__law_some T) (aCons (eV 0) (aCons (eV 2) (aNil))) aNil))) (aNil))) (aNil))) aNil)) (b__law_one_right_8 T)) D σ G := rfl
def b__law_one_right_5 {K : PySem.W.Frag} {mg : Str → Option Value} (T : Txt K mg) : ST := sSeq (sIf (qOr (qOp wNe (eCall 3 0 [.p 0, .p 1, .p 2] [] (sp_without_fall T) (aCons (eV 1) (aCons (eV 3) (aCons (eV 4) (aNil)))) aNil) (eCall 2 0 [.p 0, .p 1] [] (sp__law_less T) (aCons (eV 3) (aCons (eV 6) (aNil))) aNil)) (qOp wIsNot (eCall 2 0 [.p 0, .p 1] [] (sp_is_closed T) (aCons (eV 1) (aCons (eV 5) (aNil))) aNil) (eC (.bl true)))) (sRet (eC (.bl false))) (sNext)) (b__law_one_right_7 T)
theorem mb__law_one_right_5 {K : PySem.W.Frag} {mg : Str → Option Value} (T : Txt K mg) (D : EndsW) (σ : SW) (G : HW) : b__law_one_right_5 T D σ G = (sSeq (sIf (qOr (qOp wNe (eCall 3 0 [.p 0, .p 1, .p 2] [] (sp_without_fall T) (aCons (eV 1) (aCons (eV 3) (aCons (eV 4) (aNil)))) aNil) (eCall 2 0 [.p 0, .p 1] [] (sp__law_less T) (aCons (eV 3) (aCons (eV 6) (aNil))) aNil)) (qOp wIsNot (eCall 2 0 [.p 0, .p 1] [] (sp_is_closed T) (aCons (eV 1) (aCons (eV 5) (aNil))) aNil) (eC (.bl true)))) (sRet (eC (.bl false))) (sNext)) (b__law_one_right_7 T)) D σ G := rfl
def b__law_one_right_3 {K : PySem.W.Frag} {mg : Str → Option Value} (T : Txt K mg) : ST := sSeq (sIf (qOr (qOp wNe (eCall 2 0 [.p 0, .p 1] [] (sp_closure T) (aCons (eV 1) (aCons (eV 3) (aNil))) aNil) (eV 5)) (qOr (qOp wNe (eCall 2 0 [.p 0, .p 1] [] (sp_is_closed T) (aCons (eV 1) (aCons (eV 3) (aNil))) aNil) (eOp wEq (eV 5) (eV 3))) (qOp wNe (eCall 2 0 [.p 0, .p 1] [] (sp_fall T) (aCons (eV 1) (aCons (eV 4) (aNil))) aNil) (eV 6)))) (sRet (eC (.bl false))) (sNext)) (b__law_one_right_5 T)
theorem mb__law_one_right_3 {K : PySem.W.Frag} {mg : Str → Option Value} (T : Txt K mg) (D : EndsW) (σ : SW) (G : HW) : b__law_one_right_3 T D σ G = (sSeq (sIf (qOr (qOp wNe (eCall 2 0 [.p 0, .p 1] [] (sp_closure T) (aCons (eV 1) (aCons (eV 3) (aNil))) aNil) (eV 5)) (qOr (qOp wNe (eCall 2 0 [.p 0, .p 1] [] (sp_is_closed T) (aCons (eV 1) (aCons (eV 3) (aNil))) aNil) (eOp wEq (eV 5) (eV 3))) (qOp wNe (eCall 2 0 [.p 0, .p 1] [] (sp_fall T) (aCons (eV 1) (aCons (eV 4) (aNil))) aNil) (eV 6)))) (sRet (eC (.bl false))) (sNext)) (b__law_one_right_5 T)) D σ G := rfl
def b__law_one_right_2 {K : PySem.W.Frag} {mg : Str → Option Value} (T : Txt K mg) : ST := sSeq (sPar 5 6 (aCons (eCall 2 0 [.p 0, .p 1] [] (sp__law_up T) (aCons (eV 1) (aCons (eV 3) (aNil))) aNil) (aCons (eCall 2 0 [.p 0, .p 1] [] (sp__law_fall T) (aCons (eV 1) (aCons (eV 4) (aNil))) aNil) (aNil)))) (b__law_one_right_3 T)
theorem mb__law_one_right_2 {K : PySem.W.Frag} {mg : Str → Option Value} (T : Txt K mg) (D : EndsW) (σ : SW) (G : HW) : b__law_one_right_2 T D σ G = (sSeq (sPar 5 6 (aCons (eCall 2 0 [.p 0, .p 1] [] (sp__law_up T) (aCons (eV 1) (aCons (eV 3) (aNil))) aNil) (aCons (eCall 2 0 [.p 0, .p 1] [] (sp__law_fall T) (aCons (eV 1) (aCons (eV 4) (aNil))) aNil) (aNil)))) (b__law_one_right_3 T)) D σ G := rfl
def t__law_one_right {K : PySem.W.Frag} {mg : Str → Option Value} (T : Txt K mg) : ST := sSeq (sPar 3 4 (aCons (eCall 2 0 [.p 0, .p 1] [] (sp__law_some T) (aCons (eV 0) (aCons (eV 2) (aNil))) aNil) (aCons (eCall 2 0 [.p 0, .p 1] [] (sp__law_draw T) (aCons (eV 0) (aCons (eCB wMax (aCons (eC (.int 1)) (aCons (eV 2) (aNil)))) (aNil))) aNil) (aNil)))) (b__law_one_right_2 T)
local macro_rules | `(tactic| walk_at "m__law_one_right") => `(tactic| simp only [m_V, m_kV, m_C, m_Op, m_kOp, m_kOp2, m_kBl, m_qOp, m_kCh2, m_kCh2f, m_kCh3, m_kCh1, m_kCh, m_Ch, m_qCh, m_oNone, m_oSome, m_kO, m_Sl, m_kSl, m_kSl1, m_kSl2, m_slT, m_qT, m_kTru, m_tB, m_tN, m_tI, m_tT, m_qA, m_qO, m_qN, m_kqAt, m_kqAf, m_kqOt, m_kqOf, m_kqN, m_qYes, m_A, m_Or, m_N, m_Neg, m_kAt, m_kAf, m_kOrt, m_kOrf, m_kN, m_kNeg, m_If, m_kIft, m_kIff, m_an, m_ac, m_kac, m_kac2, m_Tup, m_Lst, m_kTup, m_CB, m_kCB, m_pk1, m_pp, m_pkk, m_pd, m_pn, m_kX, m_Call, m_kC1, m_kC2, m_BM, m_BM0, m_kM1, m_Seq, m_Seq_nx, m_Seq_rt, m_Seq_bk, m_Seq_ct, m_Seq_ex, m_Next, m_Brk, m_Cont, m_Expr, m_kEx, m_Ret, m_RetN, m_SIf, m_kSIft, m_kSIff, m_Set, m_kSet, m_Par, m_kPar, m_Par3, m_kPar3, m_Asg, m_kAsg, m_gNm, m_kG, m_gNo, m_gMo, m_gTu, m_gSb, m_kGs, m_kGs2, m_kW2, m_Aug, m_kAug, m_kAu, m_kAu2, m_mk1, m_kMk, m_Raise, m_ends_rt, m_ends_ex, m_ends_nx, m_add, m_addB, m_sub, m_eqI, m_eqS, m_neI, m_neS, m_isB, m_isN, m_isNotN, m_nonN, m_nonR, m_nonT, m_nonI, m_nonS, m_nonB, m_lenT, m_lenK, m_tupT, m_max, m_min, m_intI, m_intB, m_pr0, m_pr, m_kpr, m_kpr2, m_Xf, m_Try, m_Try_nx, m_Try_rt, m_Try_bk, m_Try_ct, m_Try_ex, m_Suite_nx, m_Suite_rt, m_Suite_bk, m_Suite_ct, m_kXe, m_kXo, m_tlOf, m_For, m_Loop_nx, m_Loop_ct, m_Loop_bk, m_Loop_rt, m_Loop_ex, m_kB, m_iSeq, m_kItT, m_kItK, m_kItS, m_iRg1, m_iRg2, m_iEnu, m_kEnuK, m_iZp, m_kZpT, m_iRv, m_kRvT, m_Lc, m_kCell, m_kTurnT, m_kTurnF, m_wip0, m_wip1, m_Back, m_kBackT, m_rg1, m_kRgA, m_TupRg, m_LstRg, m_Dc, m_DturnT, m_DturnF, m_kDk, m_kDv, m_SSet, m_iRvR, m_At, m_Fst, m_kFs, m_Meth, m_kMe2, m_kMe3, m_Make, m_kMk1, m_kMade, m_ltI, m_geI, m_geP, m_isNotB, m_Get1, m_Get2, m_kGet2, m_Setd, m_kSd2, m_rg2, m_kRg2a, m_kRg2b, List.getElem?_cons_zero, List.getElem?_cons_succ, List.set_cons_zero, List.set_cons_succ, List.length_cons, List.length_nil, Nat.zero_add, Nat.reduceAdd, Nat.reduceLeDiff, Bool.not_true, Bool.not_false, mb__law_one_right_10, mb__law_one_right_8, mb__law_one_right_7, mb__law_one_right_5, mb__law_one_right_3, mb__law_one_right_2])
theorem pf__law_one_right {K : PySem.W.Frag} {mg : Str → Option Value} (T : Txt K mg) (ws : List Wv) (G : HW) (q : WK) (x : XE) (h : sp__law_one_right T ws G q x) : t__law_one_right T (endsW q x) (startW ["_law_m", "_law_links_here", "_law_size", "_law_some_here", "_law_number", "_law_own", "_law_gone", "_law_wider"] ws) G := by
  obtain ⟨m, a, b, L, size, n, rfl, gl, hz, st, hq⟩ := h
  have g12 : GoodL L 120 := gl.mono (by omega)
  have hL := g12.lkIn
  have hl : L.length ≤ 1000 := Nat.le_trans g12.2.2 (by omega)
  show t__law_one_right T (endsW q x) [some (.ref m), some (.tup (L.map tup2)), some (.int size), none, none, none, none, none] G
  unfold t__law_one_right
  walk_at "m__law_one_right"
  refine ⟨m, a, b, size, n + 270, rfl, by omega, st.mono (by omega), fun ns G1 cf kp1 st1 => ?_⟩
  walk_at "m__law_one_right"
  refine ⟨m, a, b, _, n + 269, rfl, by split <;> omega, by split <;> omega, st1, fun k G2 k0 k1 kp2 st2 => ?_⟩
  have k2 : k < 120 := by split at k1 <;> omega
  have cn : Cfg ns 120 := cf.mono (by omega)
  have ln := cn.1
  walk_at "m__law_one_right"
  refine ⟨_, L, ns, rfl, .inl rfl, hl, by omega, cn.nodup, fun own G3 ro x3 => ?_⟩
  have co : Cfg own 120 := ro.cfg hL cn.2.1 (by omega)
  have lo := co.1
  walk_at "m__law_one_right"
  refine ⟨L, k, rfl, hl, fun gone G4 rg x4 => ?_⟩
  have cg : Cfg gone 120 := rg.cfg hL (fun j hj => by cases List.mem_singleton.mp hj; omega) (by omega)
  walk_at "m__law_one_right"
  refine ⟨_, _, rfl, lp_ok g12 cn fun own' G5 ro' x5 => ?_⟩
  obtain rfl := ro.eq ro'
  walk_at "m__law_one_right"
  refine r_neIs ?_
  simp only [m_V, m_kV, m_C, m_Op, m_kOp, m_kOp2, m_kBl, m_qOp, m_kCh2, m_kCh2f, m_kCh3, m_kCh1, m_kCh, m_Ch, m_qCh, m_oNone, m_oSome, m_kO, m_Sl, m_kSl, m_kSl1, m_kSl2, m_slT, m_qT, m_kTru, m_tB, m_tN, m_tI, m_tT, m_qA, m_qO, m_qN, m_kqAt, m_kqAf, m_kqOt, m_kqOf, m_kqN, m_qYes, m_A, m_Or, m_N, m_Neg, m_kAt, m_kAf, m_kOrt, m_kOrf, m_kN, m_kNeg, m_If, m_kIft, m_kIff, m_an, m_ac, m_kac, m_kac2, m_Tup, m_Lst, m_kTup, m_CB, m_kCB, m_pk1, m_pp, m_pkk, m_pd, m_pn, m_kX, m_Call, m_kC1, m_kC2, m_BM, m_BM0, m_kM1, m_Seq, m_Seq_nx, m_Seq_rt, m_Seq_bk, m_Seq_ct, m_Seq_ex, m_Next, m_Brk, m_Cont, m_Expr, m_kEx, m_Ret, m_RetN, m_SIf, m_kSIft, m_kSIff, m_Set, m_kSet, m_Par, m_kPar, m_Par3, m_kPar3, m_Asg, m_kAsg, m_gNm, m_kG, m_gNo, m_gMo, m_gTu, m_gSb, m_kGs, m_kGs2, m_kW2, m_Aug, m_kAug, m_kAu, m_kAu2, m_mk1, m_kMk, m_Raise, m_ends_rt, m_ends_ex, m_ends_nx, m_add, m_addB, m_sub, m_eqI, m_eqS, m_neI, m_neS, m_isB, m_isN, m_isNotN, m_nonN, m_nonR, m_nonT, m_nonI, m_nonS, m_nonB, m_lenT, m_lenK, m_tupT, m_max, m_min, m_intI, m_intB, m_pr0, m_pr, m_kpr, m_kpr2, m_Xf, m_Try, m_Try_nx, m_Try_rt, m_Try_bk, m_Try_ct, m_Try_ex, m_Suite_nx, m_Suite_rt, m_Suite_bk, m_Suite_ct, m_kXe, m_kXo, m_tlOf, m_For, m_Loop_nx, m_Loop_ct, m_Loop_bk, m_Loop_rt, m_Loop_ex, m_kB, m_iSeq, m_kItT, m_kItK, m_kItS, m_iRg1, m_iRg2, m_iEnu, m_kEnuK, m_iZp, m_kZpT, m_iRv, m_kRvT, m_Lc, m_kCell, m_kTurnT, m_kTurnF, m_wip0, m_wip1, m_Back, m_kBackT, m_rg1, m_kRgA, m_TupRg, m_LstRg, m_Dc, m_DturnT, m_DturnF, m_kDk, m_kDv, m_SSet, m_iRvR, m_At, m_Fst, m_kFs, m_Meth, m_kMe2, m_kMe3, m_Make, m_kMk1, m_kMade, m_ltI, m_geI, m_geP, m_isNotB, m_Get1, m_Get2, m_kGet2, m_Setd, m_kSd2, m_rg2, m_kRg2a, m_kRg2b, List.getElem?_cons_zero, List.getElem?_cons_succ, List.set_cons_zero, List.set_cons_succ, List.length_cons, List.length_nil, Nat.zero_add, Nat.reduceAdd, Nat.reduceLeDiff, Bool.not_true, Bool.not_false, mb__law_one_right_10, mb__law_one_right_8, mb__law_one_right_7, mb__law_one_right_5, mb__law_one_right_3, mb__law_one_right_2, decide_true]
  refine ⟨_, _, rfl, lp_ok g12 cn fun own' G6 ro' x6 => ?_⟩
  obtain rfl := ro.eq ro'
  walk_at "m__law_one_right"
  refine r_eqIs ?_
  walk_at "m__law_one_right"
  refine r_neBl ?_
  simp only [m_V, m_kV, m_C, m_Op, m_kOp, m_kOp2, m_kBl, m_qOp, m_kCh2, m_kCh2f, m_kCh3, m_kCh1, m_kCh, m_Ch, m_qCh, m_oNone, m_oSome, m_kO, m_Sl, m_kSl, m_kSl1, m_kSl2, m_slT, m_qT, m_kTru, m_tB, m_tN, m_tI, m_tT, m_qA, m_qO, m_qN, m_kqAt, m_kqAf, m_kqOt, m_kqOf, m_kqN, m_qYes, m_A, m_Or, m_N, m_Neg, m_kAt, m_kAf, m_kOrt, m_kOrf, m_kN, m_kNeg, m_If, m_kIft, m_kIff, m_an, m_ac, m_kac, m_kac2, m_Tup, m_Lst, m_kTup, m_CB, m_kCB, m_pk1, m_pp, m_pkk, m_pd, m_pn, m_kX, m_Call, m_kC1, m_kC2, m_BM, m_BM0, m_kM1, m_Seq, m_Seq_nx, m_Seq_rt, m_Seq_bk, m_Seq_ct, m_Seq_ex, m_Next, m_Brk, m_Cont, m_Expr, m_kEx, m_Ret, m_RetN, m_SIf, m_kSIft, m_kSIff, m_Set, m_kSet, m_Par, m_kPar, m_Par3, m_kPar3, m_Asg, m_kAsg, m_gNm, m_kG, m_gNo, m_gMo, m_gTu, m_gSb, m_kGs, m_kGs2, m_kW2, m_Aug, m_kAug, m_kAu, m_kAu2, m_mk1, m_kMk, m_Raise, m_ends_rt, m_ends_ex, m_ends_nx, m_add, m_addB, m_sub, m_eqI, m_eqS, m_neI, m_neS, m_isB, m_isN, m_isNotN, m_nonN, m_nonR, m_nonT, m_nonI, m_nonS, m_nonB, m_lenT, m_lenK, m_tupT, m_max, m_min, m_intI, m_intB, m_pr0, m_pr, m_kpr, m_kpr2, m_Xf, m_Try, m_Try_nx, m_Try_rt, m_Try_bk, m_Try_ct, m_Try_ex, m_Suite_nx, m_Suite_rt, m_Suite_bk, m_Suite_ct, m_kXe, m_kXo, m_tlOf, m_For, m_Loop_nx, m_Loop_ct, m_Loop_bk, m_Loop_rt, m_Loop_ex, m_kB, m_iSeq, m_kItT, m_kItK, m_kItS, m_iRg1, m_iRg2, m_iEnu, m_kEnuK, m_iZp, m_kZpT, m_iRv, m_kRvT, m_Lc, m_kCell, m_kTurnT, m_kTurnF, m_wip0, m_wip1, m_Back, m_kBackT, m_rg1, m_kRgA, m_TupRg, m_LstRg, m_Dc, m_DturnT, m_DturnF, m_kDk, m_kDv, m_SSet, m_iRvR, m_At, m_Fst, m_kFs, m_Meth, m_kMe2, m_kMe3, m_Make, m_kMk1, m_kMade, m_ltI, m_geI, m_geP, m_isNotB, m_Get1, m_Get2, m_kGet2, m_Setd, m_kSd2, m_rg2, m_kRg2a, m_kRg2b, List.getElem?_cons_zero, List.getElem?_cons_succ, List.set_cons_zero, List.set_cons_succ, List.length_cons, List.length_nil, Nat.zero_add, Nat.reduceAdd, Nat.reduceLeDiff, Bool.not_true, Bool.not_false, mb__law_one_right_10, mb__law_one_right_8, mb__law_one_right_7, mb__law_one_right_5, mb__law_one_right_3, mb__law_one_right_2, decide_true]
  refine ⟨_, _, rfl, g12.kn, kn_int, (fun e => by rw [g12.is] at e; cases e), (fun _ e => by rw [isWh, decide_eq_true (show (0 : Int) ≤ k from k0), decide_eq_true (show k ≤ 119 by omega)] at e; cases e), fun L' k' e1 e2 _ _ _ _ gone' G7 rg' x7 => ?_⟩
  cases e2
  obtain rfl := tup2_inj e1
  obtain rfl := rg.eq rg'
  walk_at "m__law_one_right"
  refine r_neIs ?_
  simp only [m_V, m_kV, m_C, m_Op, m_kOp, m_kOp2, m_kBl, m_qOp, m_kCh2, m_kCh2f, m_kCh3, m_kCh1, m_kCh, m_Ch, m_qCh, m_oNone, m_oSome, m_kO, m_Sl, m_kSl, m_kSl1, m_kSl2, m_slT, m_qT, m_kTru, m_tB, m_tN, m_tI, m_tT, m_qA, m_qO, m_qN, m_kqAt, m_kqAf, m_kqOt, m_kqOf, m_kqN, m_qYes, m_A, m_Or, m_N, m_Neg, m_kAt, m_kAf, m_kOrt, m_kOrf, m_kN, m_kNeg, m_If, m_kIft, m_kIff, m_an, m_ac, m_kac, m_kac2, m_Tup, m_Lst, m_kTup, m_CB, m_kCB, m_pk1, m_pp, m_pkk, m_pd, m_pn, m_kX, m_Call, m_kC1, m_kC2, m_BM, m_BM0, m_kM1, m_Seq, m_Seq_nx, m_Seq_rt, m_Seq_bk, m_Seq_ct, m_Seq_ex, m_Next, m_Brk, m_Cont, m_Expr, m_kEx, m_Ret, m_RetN, m_SIf, m_kSIft, m_kSIff, m_Set, m_kSet, m_Par, m_kPar, m_Par3, m_kPar3, m_Asg, m_kAsg, m_gNm, m_kG, m_gNo, m_gMo, m_gTu, m_gSb, m_kGs, m_kGs2, m_kW2, m_Aug, m_kAug, m_kAu, m_kAu2, m_mk1, m_kMk, m_Raise, m_ends_rt, m_ends_ex, m_ends_nx, m_add, m_addB, m_sub, m_eqI, m_eqS, m_neI, m_neS, m_isB, m_isN, m_isNotN, m_nonN, m_nonR, m_nonT, m_nonI, m_nonS, m_nonB, m_lenT, m_lenK, m_tupT, m_max, m_min, m_intI, m_intB, m_pr0, m_pr, m_kpr, m_kpr2, m_Xf, m_Try, m_Try_nx, m_Try_rt, m_Try_bk, m_Try_ct, m_Try_ex, m_Suite_nx, m_Suite_rt, m_Suite_bk, m_Suite_ct, m_kXe, m_kXo, m_tlOf, m_For, m_Loop_nx, m_Loop_ct, m_Loop_bk, m_Loop_rt, m_Loop_ex, m_kB, m_iSeq, m_kItT, m_kItK, m_kItS, m_iRg1, m_iRg2, m_iEnu, m_kEnuK, m_iZp, m_kZpT, m_iRv, m_kRvT, m_Lc, m_kCell, m_kTurnT, m_kTurnF, m_wip0, m_wip1, m_Back, m_kBackT, m_rg1, m_kRgA, m_TupRg, m_LstRg, m_Dc, m_DturnT, m_DturnF, m_kDk, m_kDv, m_SSet, m_iRvR, m_At, m_Fst, m_kFs, m_Meth, m_kMe2, m_kMe3, m_Make, m_kMk1, m_kMade, m_ltI, m_geI, m_geP, m_isNotB, m_Get1, m_Get2, m_kGet2, m_Setd, m_kSd2, m_rg2, m_kRg2a, m_kRg2b, List.getElem?_cons_zero, List.getElem?_cons_succ, List.set_cons_zero, List.set_cons_succ, List.length_cons, List.length_nil, Nat.zero_add, Nat.reduceAdd, Nat.reduceLeDiff, Bool.not_true, Bool.not_false, mb__law_one_right_10, mb__law_one_right_8, mb__law_one_right_7, mb__law_one_right_5, mb__law_one_right_3, mb__law_one_right_2, decide_true]
  have wk : isWh (.int k) 0 119 = true := by rw [isWh, decide_eq_true (show (0 : Int) ≤ k from k0), decide_eq_true (show k ≤ 119 by omega)]; rfl
  have wo : ∀ {G : HW} {q : WK} {x : XE} (ps : List Int), Cfg ps 120 → (∀ G', Ext G G' → q (.tup ((lessL ps gone).map .int)) G') → sp_without_fall T [.tup (L.map tup2), .tup (ps.map .int), .int k] G q x := fun ps hp z =>
    ⟨_, _, _, rfl, g12.kn, knD_ints, kn_int, (fun e => by rw [g12.is] at e; cases e), (fun _ e => by rw [conf_ints.mpr hp] at e; cases e), (fun _ _ e => by rw [wk] at e; cases e), fun L' ps' k' e1 e2 e3 _ _ _ _ _ gone' G' rg' x' => by
      cases e3
      obtain rfl := tup2_inj e1
      obtain rfl := ints_inj e2
      obtain rfl := rg.eq rg'
      exact z G' x'⟩
  refine wo ns cn fun G8 x8 => ?_
  walk_at "m__law_one_right"
  refine ⟨ns, gone, rfl, by omega, fun G9 x9 => ?_⟩
  walk_at "m__law_one_right"
  refine r_neIs ?_
  simp only [m_V, m_kV, m_C, m_Op, m_kOp, m_kOp2, m_kBl, m_qOp, m_kCh2, m_kCh2f, m_kCh3, m_kCh1, m_kCh, m_Ch, m_qCh, m_oNone, m_oSome, m_kO, m_Sl, m_kSl, m_kSl1, m_kSl2, m_slT, m_qT, m_kTru, m_tB, m_tN, m_tI, m_tT, m_qA, m_qO, m_qN, m_kqAt, m_kqAf, m_kqOt, m_kqOf, m_kqN, m_qYes, m_A, m_Or, m_N, m_Neg, m_kAt, m_kAf, m_kOrt, m_kOrf, m_kN, m_kNeg, m_If, m_kIft, m_kIff, m_an, m_ac, m_kac, m_kac2, m_Tup, m_Lst, m_kTup, m_CB, m_kCB, m_pk1, m_pp, m_pkk, m_pd, m_pn, m_kX, m_Call, m_kC1, m_kC2, m_BM, m_BM0, m_kM1, m_Seq, m_Seq_nx, m_Seq_rt, m_Seq_bk, m_Seq_ct, m_Seq_ex, m_Next, m_Brk, m_Cont, m_Expr, m_kEx, m_Ret, m_RetN, m_SIf, m_kSIft, m_kSIff, m_Set, m_kSet, m_Par, m_kPar, m_Par3, m_kPar3, m_Asg, m_kAsg, m_gNm, m_kG, m_gNo, m_gMo, m_gTu, m_gSb, m_kGs, m_kGs2, m_kW2, m_Aug, m_kAug, m_kAu, m_kAu2, m_mk1, m_kMk, m_Raise, m_ends_rt, m_ends_ex, m_ends_nx, m_add, m_addB, m_sub, m_eqI, m_eqS, m_neI, m_neS, m_isB, m_isN, m_isNotN, m_nonN, m_nonR, m_nonT, m_nonI, m_nonS, m_nonB, m_lenT, m_lenK, m_tupT, m_max, m_min, m_intI, m_intB, m_pr0, m_pr, m_kpr, m_kpr2, m_Xf, m_Try, m_Try_nx, m_Try_rt, m_Try_bk, m_Try_ct, m_Try_ex, m_Suite_nx, m_Suite_rt, m_Suite_bk, m_Suite_ct, m_kXe, m_kXo, m_tlOf, m_For, m_Loop_nx, m_Loop_ct, m_Loop_bk, m_Loop_rt, m_Loop_ex, m_kB, m_iSeq, m_kItT, m_kItK, m_kItS, m_iRg1, m_iRg2, m_iEnu, m_kEnuK, m_iZp, m_kZpT, m_iRv, m_kRvT, m_Lc, m_kCell, m_kTurnT, m_kTurnF, m_wip0, m_wip1, m_Back, m_kBackT, m_rg1, m_kRgA, m_TupRg, m_LstRg, m_Dc, m_DturnT, m_DturnF, m_kDk, m_kDv, m_SSet, m_iRvR, m_At, m_Fst, m_kFs, m_Meth, m_kMe2, m_kMe3, m_Make, m_kMk1, m_kMade, m_ltI, m_geI, m_geP, m_isNotB, m_Get1, m_Get2, m_kGet2, m_Setd, m_kSd2, m_rg2, m_kRg2a, m_kRg2b, List.getElem?_cons_zero, List.getElem?_cons_succ, List.set_cons_zero, List.set_cons_succ, List.length_cons, List.length_nil, Nat.zero_add, Nat.reduceAdd, Nat.reduceLeDiff, Bool.not_true, Bool.not_false, mb__law_one_right_10, mb__law_one_right_8, mb__law_one_right_7, mb__law_one_right_5, mb__law_one_right_3, mb__law_one_right_2, decide_true]
  refine ⟨_, _, rfl, lp_ok g12 co fun own' G10 ro' x10 => ?_⟩
  obtain rfl := ro.idem.eq ro'
  simp only [m_V, m_kV, m_C, m_Op, m_kOp, m_kOp2, m_kBl, m_qOp, m_kCh2, m_kCh2f, m_kCh3, m_kCh1, m_kCh, m_Ch, m_qCh, m_oNone, m_oSome, m_kO, m_Sl, m_kSl, m_kSl1, m_kSl2, m_slT, m_qT, m_kTru, m_tB, m_tN, m_tI, m_tT, m_qA, m_qO, m_qN, m_kqAt, m_kqAf, m_kqOt, m_kqOf, m_kqN, m_qYes, m_A, m_Or, m_N, m_Neg, m_kAt, m_kAf, m_kOrt, m_kOrf, m_kN, m_kNeg, m_If, m_kIft, m_kIff, m_an, m_ac, m_kac, m_kac2, m_Tup, m_Lst, m_kTup, m_CB, m_kCB, m_pk1, m_pp, m_pkk, m_pd, m_pn, m_kX, m_Call, m_kC1, m_kC2, m_BM, m_BM0, m_kM1, m_Seq, m_Seq_nx, m_Seq_rt, m_Seq_bk, m_Seq_ct, m_Seq_ex, m_Next, m_Brk, m_Cont, m_Expr, m_kEx, m_Ret, m_RetN, m_SIf, m_kSIft, m_kSIff, m_Set, m_kSet, m_Par, m_kPar, m_Par3, m_kPar3, m_Asg, m_kAsg, m_gNm, m_kG, m_gNo, m_gMo, m_gTu, m_gSb, m_kGs, m_kGs2, m_kW2, m_Aug, m_kAug, m_kAu, m_kAu2, m_mk1, m_kMk, m_Raise, m_ends_rt, m_ends_ex, m_ends_nx, m_add, m_addB, m_sub, m_eqI, m_eqS, m_neI, m_neS, m_isB, m_isN, m_isNotN, m_nonN, m_nonR, m_nonT, m_nonI, m_nonS, m_nonB, m_lenT, m_lenK, m_tupT, m_max, m_min, m_intI, m_intB, m_pr0, m_pr, m_kpr, m_kpr2, m_Xf, m_Try, m_Try_nx, m_Try_rt, m_Try_bk, m_Try_ct, m_Try_ex, m_Suite_nx, m_Suite_rt, m_Suite_bk, m_Suite_ct, m_kXe, m_kXo, m_tlOf, m_For, m_Loop_nx, m_Loop_ct, m_Loop_bk, m_Loop_rt, m_Loop_ex, m_kB, m_iSeq, m_kItT, m_kItK, m_kItS, m_iRg1, m_iRg2, m_iEnu, m_kEnuK, m_iZp, m_kZpT, m_iRv, m_kRvT, m_Lc, m_kCell, m_kTurnT, m_kTurnF, m_wip0, m_wip1, m_Back, m_kBackT, m_rg1, m_kRgA, m_TupRg, m_LstRg, m_Dc, m_DturnT, m_DturnF, m_kDk, m_kDv, m_SSet, m_iRvR, m_At, m_Fst, m_kFs, m_Meth, m_kMe2, m_kMe3, m_Make, m_kMk1, m_kMade, m_ltI, m_geI, m_geP, m_isNotB, m_Get1, m_Get2, m_kGet2, m_Setd, m_kSd2, m_rg2, m_kRg2a, m_kRg2b, List.getElem?_cons_zero, List.getElem?_cons_succ, List.set_cons_zero, List.set_cons_succ, List.length_cons, List.length_nil, Nat.zero_add, Nat.reduceAdd, Nat.reduceLeDiff, Bool.not_true, Bool.not_false, mb__law_one_right_10, mb__law_one_right_8, mb__law_one_right_7, mb__law_one_right_5, mb__law_one_right_3, mb__law_one_right_2, decide_true]
  refine ⟨m, a, b, size, n, rfl, by omega, (((((((((st2.ext x3).ext x4).ext x5).ext x6).ext x7).ext x8).ext x9).ext x10)).mono (by omega), fun ms G11 cf2 kp11 st11 => ?_⟩
  have cm : Cfg ms 120 := cf2.mono (by omega)
  have lm := cm.1
  walk_at "m__law_one_right"
  refine r_addT (by rw [List.length_map, List.length_map, sizeLine_eq]; omega) ?_
  rw [← List.map_append]
  refine r_sset (by rw [List.length_append]; omega) fun us rs mu l hl2 => ?_
  have xl := Ext.new (o := .lst (us.map .int)) hl2
  walk_at "m__law_one_right"
  refine r_tupL (.inl updO_same) ?_
  have cu : Cfg us 120 := cfg_of (by omega) (fun i hi => (List.mem_append.mp ((mu i).mp hi)).elim (cn.2.1 i) (cm.2.1 i)) rs
  walk_at "m__law_one_right"
  refine ⟨_, _, rfl, lp_ok g12 cu fun wide G12 rw x12 => ?_⟩
  walk_at "m__law_one_right"
  refine ⟨own, wide, rfl, by omega, fun G13 x13 => ?_⟩
  have sub : lessL own wide = [] := List.filter_eq_nil_iff.mpr fun i hi => by
    have : i ∈ wide := (rw.2 i).mpr (((ro.2 i).mp hi).mono fun j hj => .at ((mu j).mpr (List.mem_append_left _ hj)))
    simp [this]
  simp only [m_V, m_kV, m_C, m_Op, m_kOp, m_kOp2, m_kBl, m_qOp, m_kCh2, m_kCh2f, m_kCh3, m_kCh1, m_kCh, m_Ch, m_qCh, m_oNone, m_oSome, m_kO, m_Sl, m_kSl, m_kSl1, m_kSl2, m_slT, m_qT, m_kTru, m_tB, m_tN, m_tI, m_tT, m_qA, m_qO, m_qN, m_kqAt, m_kqAf, m_kqOt, m_kqOf, m_kqN, m_qYes, m_A, m_Or, m_N, m_Neg, m_kAt, m_kAf, m_kOrt, m_kOrf, m_kN, m_kNeg, m_If, m_kIft, m_kIff, m_an, m_ac, m_kac, m_kac2, m_Tup, m_Lst, m_kTup, m_CB, m_kCB, m_pk1, m_pp, m_pkk, m_pd, m_pn, m_kX, m_Call, m_kC1, m_kC2, m_BM, m_BM0, m_kM1, m_Seq, m_Seq_nx, m_Seq_rt, m_Seq_bk, m_Seq_ct, m_Seq_ex, m_Next, m_Brk, m_Cont, m_Expr, m_kEx, m_Ret, m_RetN, m_SIf, m_kSIft, m_kSIff, m_Set, m_kSet, m_Par, m_kPar, m_Par3, m_kPar3, m_Asg, m_kAsg, m_gNm, m_kG, m_gNo, m_gMo, m_gTu, m_gSb, m_kGs, m_kGs2, m_kW2, m_Aug, m_kAug, m_kAu, m_kAu2, m_mk1, m_kMk, m_Raise, m_ends_rt, m_ends_ex, m_ends_nx, m_add, m_addB, m_sub, m_eqI, m_eqS, m_neI, m_neS, m_isB, m_isN, m_isNotN, m_nonN, m_nonR, m_nonT, m_nonI, m_nonS, m_nonB, m_lenT, m_lenK, m_tupT, m_max, m_min, m_intI, m_intB, m_pr0, m_pr, m_kpr, m_kpr2, m_Xf, m_Try, m_Try_nx, m_Try_rt, m_Try_bk, m_Try_ct, m_Try_ex, m_Suite_nx, m_Suite_rt, m_Suite_bk, m_Suite_ct, m_kXe, m_kXo, m_tlOf, m_For, m_Loop_nx, m_Loop_ct, m_Loop_bk, m_Loop_rt, m_Loop_ex, m_kB, m_iSeq, m_kItT, m_kItK, m_kItS, m_iRg1, m_iRg2, m_iEnu, m_kEnuK, m_iZp, m_kZpT, m_iRv, m_kRvT, m_Lc, m_kCell, m_kTurnT, m_kTurnF, m_wip0, m_wip1, m_Back, m_kBackT, m_rg1, m_kRgA, m_TupRg, m_LstRg, m_Dc, m_DturnT, m_DturnF, m_kDk, m_kDv, m_SSet, m_iRvR, m_At, m_Fst, m_kFs, m_Meth, m_kMe2, m_kMe3, m_Make, m_kMk1, m_kMade, m_ltI, m_geI, m_geP, m_isNotB, m_Get1, m_Get2, m_kGet2, m_Setd, m_kSd2, m_rg2, m_kRg2a, m_kRg2b, List.getElem?_cons_zero, List.getElem?_cons_succ, List.set_cons_zero, List.set_cons_succ, List.length_cons, List.length_nil, Nat.zero_add, Nat.reduceAdd, Nat.reduceLeDiff, Bool.not_true, Bool.not_false, mb__law_one_right_10, mb__law_one_right_8, mb__law_one_right_7, mb__law_one_right_5, mb__law_one_right_3, mb__law_one_right_2, sub, decide_true]
  refine ⟨_, _, rfl, lp_ok g12 co fun own' G14 ro' x14 => ?_⟩
  obtain rfl := ro.idem.eq ro'
  walk_at "m__law_one_right"
  refine r_neIs ?_
  simp only [m_V, m_kV, m_C, m_Op, m_kOp, m_kOp2, m_kBl, m_qOp, m_kCh2, m_kCh2f, m_kCh3, m_kCh1, m_kCh, m_Ch, m_qCh, m_oNone, m_oSome, m_kO, m_Sl, m_kSl, m_kSl1, m_kSl2, m_slT, m_qT, m_kTru, m_tB, m_tN, m_tI, m_tT, m_qA, m_qO, m_qN, m_kqAt, m_kqAf, m_kqOt, m_kqOf, m_kqN, m_qYes, m_A, m_Or, m_N, m_Neg, m_kAt, m_kAf, m_kOrt, m_kOrf, m_kN, m_kNeg, m_If, m_kIft, m_kIff, m_an, m_ac, m_kac, m_kac2, m_Tup, m_Lst, m_kTup, m_CB, m_kCB, m_pk1, m_pp, m_pkk, m_pd, m_pn, m_kX, m_Call, m_kC1, m_kC2, m_BM, m_BM0, m_kM1, m_Seq, m_Seq_nx, m_Seq_rt, m_Seq_bk, m_Seq_ct, m_Seq_ex, m_Next, m_Brk, m_Cont, m_Expr, m_kEx, m_Ret, m_RetN, m_SIf, m_kSIft, m_kSIff, m_Set, m_kSet, m_Par, m_kPar, m_Par3, m_kPar3, m_Asg, m_kAsg, m_gNm, m_kG, m_gNo, m_gMo, m_gTu, m_gSb, m_kGs, m_kGs2, m_kW2, m_Aug, m_kAug, m_kAu, m_kAu2, m_mk1, m_kMk, m_Raise, m_ends_rt, m_ends_ex, m_ends_nx, m_add, m_addB, m_sub, m_eqI, m_eqS, m_neI, m_neS, m_isB, m_isN, m_isNotN, m_nonN, m_nonR, m_nonT, m_nonI, m_nonS, m_nonB, m_lenT, m_lenK, m_tupT, m_max, m_min, m_intI, m_intB, m_pr0, m_pr, m_kpr, m_kpr2, m_Xf, m_Try, m_Try_nx, m_Try_rt, m_Try_bk, m_Try_ct, m_Try_ex, m_Suite_nx, m_Suite_rt, m_Suite_bk, m_Suite_ct, m_kXe, m_kXo, m_tlOf, m_For, m_Loop_nx, m_Loop_ct, m_Loop_bk, m_Loop_rt, m_Loop_ex, m_kB, m_iSeq, m_kItT, m_kItK, m_kItS, m_iRg1, m_iRg2, m_iEnu, m_kEnuK, m_iZp, m_kZpT, m_iRv, m_kRvT, m_Lc, m_kCell, m_kTurnT, m_kTurnF, m_wip0, m_wip1, m_Back, m_kBackT, m_rg1, m_kRgA, m_TupRg, m_LstRg, m_Dc, m_DturnT, m_DturnF, m_kDk, m_kDv, m_SSet, m_iRvR, m_At, m_Fst, m_kFs, m_Meth, m_kMe2, m_kMe3, m_Make, m_kMk1, m_kMade, m_ltI, m_geI, m_geP, m_isNotB, m_Get1, m_Get2, m_kGet2, m_Setd, m_kSd2, m_rg2, m_kRg2a, m_kRg2b, List.getElem?_cons_zero, List.getElem?_cons_succ, List.set_cons_zero, List.set_cons_succ, List.length_cons, List.length_nil, Nat.zero_add, Nat.reduceAdd, Nat.reduceLeDiff, Bool.not_true, Bool.not_false, mb__law_one_right_10, mb__law_one_right_8, mb__law_one_right_7, mb__law_one_right_5, mb__law_one_right_3, mb__law_one_right_2, decide_true]
  have cl : ClosedL L (lessL own gone) := fun p hp h1 => by
    obtain ⟨h2, h3⟩ := less_mem.mp h1
    refine less_mem.mpr ⟨(ro.2 _).mpr (.go ((ro.2 _).mp h2) hp), fun h4 => h3 ((rg.2 _).mpr (.go ((rg.2 _).mp h4) hp))⟩
  have cc : Cfg (lessL own gone) 120 := co.less
  refine wo own co fun G15 x15 => ?_
  walk_at "m__law_one_right"
  refine ⟨L, lessL own gone, rfl, hl, hL, fun _ G16 x16 => ?_, fun e => absurd cl e⟩
  walk_at "m__law_one_right"
  refine wo own co fun G17 x17 => ?_
  walk_at "m__law_one_right"
  refine ⟨_, _, rfl, lp_ok g12 cc fun out G18 rl x18 => ?_⟩
  have eo : out = lessL own gone := rise_ext rl.1 cc.2.2 fun k => by rw [rl.2, closed_reach cl (fun k hk => hk) (fun k hk => .at hk)]
  simp only [m_V, m_kV, m_C, m_Op, m_kOp, m_kOp2, m_kBl, m_qOp, m_kCh2, m_kCh2f, m_kCh3, m_kCh1, m_kCh, m_Ch, m_qCh, m_oNone, m_oSome, m_kO, m_Sl, m_kSl, m_kSl1, m_kSl2, m_slT, m_qT, m_kTru, m_tB, m_tN, m_tI, m_tT, m_qA, m_qO, m_qN, m_kqAt, m_kqAf, m_kqOt, m_kqOf, m_kqN, m_qYes, m_A, m_Or, m_N, m_Neg, m_kAt, m_kAf, m_kOrt, m_kOrf, m_kN, m_kNeg, m_If, m_kIft, m_kIff, m_an, m_ac, m_kac, m_kac2, m_Tup, m_Lst, m_kTup, m_CB, m_kCB, m_pk1, m_pp, m_pkk, m_pd, m_pn, m_kX, m_Call, m_kC1, m_kC2, m_BM, m_BM0, m_kM1, m_Seq, m_Seq_nx, m_Seq_rt, m_Seq_bk, m_Seq_ct, m_Seq_ex, m_Next, m_Brk, m_Cont, m_Expr, m_kEx, m_Ret, m_RetN, m_SIf, m_kSIft, m_kSIff, m_Set, m_kSet, m_Par, m_kPar, m_Par3, m_kPar3, m_Asg, m_kAsg, m_gNm, m_kG, m_gNo, m_gMo, m_gTu, m_gSb, m_kGs, m_kGs2, m_kW2, m_Aug, m_kAug, m_kAu, m_kAu2, m_mk1, m_kMk, m_Raise, m_ends_rt, m_ends_ex, m_ends_nx, m_add, m_addB, m_sub, m_eqI, m_eqS, m_neI, m_neS, m_isB, m_isN, m_isNotN, m_nonN, m_nonR, m_nonT, m_nonI, m_nonS, m_nonB, m_lenT, m_lenK, m_tupT, m_max, m_min, m_intI, m_intB, m_pr0, m_pr, m_kpr, m_kpr2, m_Xf, m_Try, m_Try_nx, m_Try_rt, m_Try_bk, m_Try_ct, m_Try_ex, m_Suite_nx, m_Suite_rt, m_Suite_bk, m_Suite_ct, m_kXe, m_kXo, m_tlOf, m_For, m_Loop_nx, m_Loop_ct, m_Loop_bk, m_Loop_rt, m_Loop_ex, m_kB, m_iSeq, m_kItT, m_kItK, m_kItS, m_iRg1, m_iRg2, m_iEnu, m_kEnuK, m_iZp, m_kZpT, m_iRv, m_kRvT, m_Lc, m_kCell, m_kTurnT, m_kTurnF, m_wip0, m_wip1, m_Back, m_kBackT, m_rg1, m_kRgA, m_TupRg, m_LstRg, m_Dc, m_DturnT, m_DturnF, m_kDk, m_kDv, m_SSet, m_iRvR, m_At, m_Fst, m_kFs, m_Meth, m_kMe2, m_kMe3, m_Make, m_kMk1, m_kMade, m_ltI, m_geI, m_geP, m_isNotB, m_Get1, m_Get2, m_kGet2, m_Setd, m_kSd2, m_rg2, m_kRg2a, m_kRg2b, List.getElem?_cons_zero, List.getElem?_cons_succ, List.set_cons_zero, List.set_cons_succ, List.length_cons, List.length_nil, Nat.zero_add, Nat.reduceAdd, Nat.reduceLeDiff, Bool.not_true, Bool.not_false, mb__law_one_right_10, mb__law_one_right_8, mb__law_one_right_7, mb__law_one_right_5, mb__law_one_right_3, mb__law_one_right_2, eo, decide_true]
  have xx := ((((((x12.trans x13).trans x14).trans x15).trans x16).trans x17).trans x18)
  have xf := xl.trans xx
  have x1 := ((((((x3.trans x4).trans x5).trans x6).trans x7).trans x8).trans x9).trans x10
  exact hq _ (((kp1.trans kp2).trans x1.kp).trans (kp11.trans xf.kp)) (st11.ext xf)
set_option maxHeartbeats 0 in
theorem ok__law_one_right {P : Program} {w : World} {K : PySem.W.Frag} {mg : Str → Option Value} {base : Heap} (T : Txt K mg) : FnW P w K mg base 7 T.f__law_one_right T.fd__law_one_right ["_law_m", "_law_links_here", "_law_size"] (sp__law_one_right T) :=
  fnW_of (t := t__law_one_right T) T.F__law_one_right sc__law_one_right (len__law_one_right T) (fun cdv A outer s H E hr => (zs_cons (z_par (i := 3) (j := 4) rfl sc__law_one_right.nd rfl rfl (by decide) rfl rfl (z_acons (z_call (sel := [.p 0, .p 1]) (dws := []) (ok__law_some T) (hr.mono (by decide)) rfl T.m__law_some T.F__law_some.kp (bind0 T.F__law_some fun _ _ _ _ _ _ us uk h1 h2 => match us, h1, uk, h2 with | [_, _], _, [], _ => rfl) (takes_of rfl rfl rfl rfl) (z_acons (z_var (i := 0) rfl (by first | exact .inl rfl | exact .inr (.inl rfl) | exact .inr (.inr rfl))) (z_acons (z_var (i := 2) rfl (by first | exact .inl rfl | exact .inr (.inl rfl) | exact .inr (.inr rfl))) (z_anil)))) (z_acons (z_call (sel := [.p 0, .p 1]) (dws := []) (ok__law_draw T) (hr.mono (by decide)) rfl T.m__law_draw T.F__law_draw.kp (bind0 T.F__law_draw fun _ _ _ _ _ _ us uk h1 h2 => match us, h1, uk, h2 with | [_, _], _, [], _ => rfl) (takes_of rfl rfl rfl rfl) (z_acons (z_var (i := 0) rfl (by first | exact .inl rfl | exact .inr (.inl rfl) | exact .inr (.inr rfl))) (z_acons (z_callB (w_max rfl) rfl T.n_max boot_max (z_acons (z_int) (z_acons (z_var (i := 2) rfl (by first | exact .inl rfl | exact .inr (.inl rfl) | exact .inr (.inr rfl))) (z_anil)))) (z_anil)))) (z_anil))) rfl) (zs_cons (z_par (i := 5) (j := 6) rfl sc__law_one_right.nd rfl rfl (by decide) rfl rfl (z_acons (z_call (sel := [.p 0, .p 1]) (dws := []) (ok__law_up T) (hr.mono (by decide)) rfl T.m__law_up T.F__law_up.kp (bind0 T.F__law_up fun _ _ _ _ _ _ us uk h1 h2 => match us, h1, uk, h2 with | [_, _], _, [], _ => rfl) (takes_of rfl rfl rfl rfl) (z_acons (z_var (i := 1) rfl (by first | exact .inl rfl | exact .inr (.inl rfl) | exact .inr (.inr rfl))) (z_acons (z_var (i := 3) rfl (by first | exact .inl rfl | exact .inr (.inl rfl) | exact .inr (.inr rfl))) (z_anil)))) (z_acons (z_call (sel := [.p 0, .p 1]) (dws := []) (ok__law_fall T) (hr.mono (by decide)) rfl T.m__law_fall T.F__law_fall.kp (bind0 T.F__law_fall fun _ _ _ _ _ _ us uk h1 h2 => match us, h1, uk, h2 with | [_, _], _, [], _ => rfl) (takes_of rfl rfl rfl rfl) (z_acons (z_var (i := 1) rfl (by first | exact .inl rfl | exact .inr (.inl rfl) | exact .inr (.inr rfl))) (z_acons (z_var (i := 4) rfl (by first | exact .inl rfl | exact .inr (.inl rfl) | exact .inr (.inr rfl))) (z_anil)))) (z_anil))) rfl) (zs_cons (z_if (z_bool (z_or (z_qcmp (w_ne (hr).un) (z_call (sel := [.p 0, .p 1]) (dws := []) (ok_closure T) (hr.mono (by decide)) rfl T.m_closure T.F_closure.kp (bind0 T.F_closure fun _ _ _ _ _ _ us uk h1 h2 => match us, h1, uk, h2 with | [_, _], _, [], _ => rfl) (takes_of rfl rfl rfl rfl) (z_acons (z_var (i := 1) rfl (by first | exact .inl rfl | exact .inr (.inl rfl) | exact .inr (.inr rfl))) (z_acons (z_var (i := 3) rfl (by first | exact .inl rfl | exact .inr (.inl rfl) | exact .inr (.inr rfl))) (z_anil)))) (z_var (i := 5) rfl (by first | exact .inl rfl | exact .inr (.inl rfl) | exact .inr (.inr rfl))) (by rfl)) (z_or (z_qcmp (w_ne (hr).un) (z_call (sel := [.p 0, .p 1]) (dws := []) (ok_is_closed T) (hr.mono (by decide)) rfl T.m_is_closed T.F_is_closed.kp (bind0 T.F_is_closed fun _ _ _ _ _ _ us uk h1 h2 => match us, h1, uk, h2 with | [_, _], _, [], _ => rfl) (takes_of rfl rfl rfl rfl) (z_acons (z_var (i := 1) rfl (by first | exact .inl rfl | exact .inr (.inl rfl) | exact .inr (.inr rfl))) (z_acons (z_var (i := 3) rfl (by first | exact .inl rfl | exact .inr (.inl rfl) | exact .inr (.inr rfl))) (z_anil)))) (z_cmp (w_eq (hr).un) (z_var (i := 5) rfl (by first | exact .inl rfl | exact .inr (.inl rfl) | exact .inr (.inr rfl))) (z_var (i := 3) rfl (by first | exact .inl rfl | exact .inr (.inl rfl) | exact .inr (.inr rfl))) (by rfl)) (by rfl)) (z_or1 (z_qcmp (w_ne (hr).un) (z_call (sel := [.p 0, .p 1]) (dws := []) (ok_fall T) (hr.mono (by decide)) rfl T.m_fall T.F_fall.kp (bind0 T.F_fall fun _ _ _ _ _ _ us uk h1 h2 => match us, h1, uk, h2 with | [_, _], _, [], _ => rfl) (takes_of rfl rfl rfl rfl) (z_acons (z_var (i := 1) rfl (by first | exact .inl rfl | exact .inr (.inl rfl) | exact .inr (.inr rfl))) (z_acons (z_var (i := 4) rfl (by first | exact .inl rfl | exact .inr (.inl rfl) | exact .inr (.inr rfl))) (z_anil)))) (z_var (i := 6) rfl (by first | exact .inl rfl | exact .inr (.inl rfl) | exact .inr (.inr rfl))) (by rfl)))))) (zs_one (z_ret (z_bl))) (zs_nil)) (zs_cons (z_if (z_bool (z_or (z_qcmp (w_ne (hr).un) (z_call (sel := [.p 0, .p 1, .p 2]) (dws := []) (ok_without_fall T) (hr.mono (by decide)) rfl T.m_without_fall T.F_without_fall.kp (bind0 T.F_without_fall fun _ _ _ _ _ _ us uk h1 h2 => match us, h1, uk, h2 with | [_, _, _], _, [], _ => rfl) (takes_of rfl rfl rfl rfl) (z_acons (z_var (i := 1) rfl (by first | exact .inl rfl | exact .inr (.inl rfl) | exact .inr (.inr rfl))) (z_acons (z_var (i := 3) rfl (by first | exact .inl rfl | exact .inr (.inl rfl) | exact .inr (.inr rfl))) (z_acons (z_var (i := 4) rfl (by first | exact .inl rfl | exact .inr (.inl rfl) | exact .inr (.inr rfl))) (z_anil))))) (z_call (sel := [.p 0, .p 1]) (dws := []) (ok__law_less T) (hr.mono (by decide)) rfl T.m__law_less T.F__law_less.kp (bind0 T.F__law_less fun _ _ _ _ _ _ us uk h1 h2 => match us, h1, uk, h2 with | [_, _], _, [], _ => rfl) (takes_of rfl rfl rfl rfl) (z_acons (z_var (i := 3) rfl (by first | exact .inl rfl | exact .inr (.inl rfl) | exact .inr (.inr rfl))) (z_acons (z_var (i := 6) rfl (by first | exact .inl rfl | exact .inr (.inl rfl) | exact .inr (.inr rfl))) (z_anil)))) (by rfl)) (z_or1 (z_qcmp w_isnot (z_call (sel := [.p 0, .p 1]) (dws := []) (ok_is_closed T) (hr.mono (by decide)) rfl T.m_is_closed T.F_is_closed.kp (bind0 T.F_is_closed fun _ _ _ _ _ _ us uk h1 h2 => match us, h1, uk, h2 with | [_, _], _, [], _ => rfl) (takes_of rfl rfl rfl rfl) (z_acons (z_var (i := 1) rfl (by first | exact .inl rfl | exact .inr (.inl rfl) | exact .inr (.inr rfl))) (z_acons (z_var (i := 5) rfl (by first | exact .inl rfl | exact .inr (.inl rfl) | exact .inr (.inr rfl))) (z_anil)))) (z_bl) (by rfl))))) (zs_one (z_ret (z_bl))) (zs_nil)) (zs_cons (z_set (i := 7) sc__law_one_right.nd rfl (by first | exact .inl rfl | exact .inr rfl) (z_call (sel := [.p 0, .p 1]) (dws := []) (ok_closure T) (hr.mono (by decide)) rfl T.m_closure T.F_closure.kp (bind0 T.F_closure fun _ _ _ _ _ _ us uk h1 h2 => match us, h1, uk, h2 with | [_, _], _, [], _ => rfl) (takes_of rfl rfl rfl rfl) (z_acons (z_var (i := 1) rfl (by first | exact .inl rfl | exact .inr (.inl rfl) | exact .inr (.inr rfl))) (z_acons (z_callT w_tuple rfl T.n_tuple boot_tuple (z_acons (z_sset rfl rfl T.n_sorted rfl T.n_set (z_bin w_add (z_var (i := 3) rfl (by first | exact .inl rfl | exact .inr (.inl rfl) | exact .inr (.inr rfl))) (z_call (sel := [.p 0, .p 1]) (dws := []) (ok__law_some T) (hr.mono (by decide)) rfl T.m__law_some T.F__law_some.kp (bind0 T.F__law_some fun _ _ _ _ _ _ us uk h1 h2 => match us, h1, uk, h2 with | [_, _], _, [], _ => rfl) (takes_of rfl rfl rfl rfl) (z_acons (z_var (i := 0) rfl (by first | exact .inl rfl | exact .inr (.inl rfl) | exact .inr (.inr rfl))) (z_acons (z_var (i := 2) rfl (by first | exact .inl rfl | exact .inr (.inl rfl) | exact .inr (.inr rfl))) (z_anil)))))) (z_anil))) (z_anil))))) (zs_cons (z_if (z_bool (z_or (z_qnot (z_q (z_call (sel := [.p 0, .p 1]) (dws := []) (ok__law_inside T) (hr.mono (by decide)) rfl T.m__law_inside T.F__law_inside.kp (bind0 T.F__law_inside fun _ _ _ _ _ _ us uk h1 h2 => match us, h1, uk, h2 with | [_, _], _, [], _ => rfl) (takes_of rfl rfl rfl rfl) (z_acons (z_var (i := 5) rfl (by first | exact .inl rfl | exact .inr (.inl rfl) | exact .inr (.inr rfl))) (z_acons (z_var (i := 7) rfl (by first | exact .inl rfl | exact .inr (.inl rfl) | exact .inr (.inr rfl))) (z_anil)))))) (z_or1 (z_qcmp (w_ne (hr).un) (z_call (sel := [.p 0, .p 1]) (dws := []) (ok_closure T) (hr.mono (by decide)) rfl T.m_closure T.F_closure.kp (bind0 T.F_closure fun _ _ _ _ _ _ us uk h1 h2 => match us, h1, uk, h2 with | [_, _], _, [], _ => rfl) (takes_of rfl rfl rfl rfl) (z_acons (z_var (i := 1) rfl (by first | exact .inl rfl | exact .inr (.inl rfl) | exact .inr (.inr rfl))) (z_acons (z_var (i := 5) rfl (by first | exact .inl rfl | exact .inr (.inl rfl) | exact .inr (.inr rfl))) (z_anil)))) (z_var (i := 5) rfl (by first | exact .inl rfl | exact .inr (.inl rfl) | exact .inr (.inr rfl))) (by rfl))))) (zs_one (z_ret (z_bl))) (zs_nil)) (zs_one (z_ret (z_vand (z_call (sel := [.p 0, .p 1]) (dws := []) (ok__law_closed T) (hr.mono (by decide)) rfl T.m__law_closed T.F__law_closed.kp (bind0 T.F__law_closed fun _ _ _ _ _ _ us uk h1 h2 => match us, h1, uk, h2 with | [_, _], _, [], _ => rfl) (takes_of rfl rfl rfl rfl) (z_acons (z_var (i := 1) rfl (by first | exact .inl rfl | exact .inr (.inl rfl) | exact .inr (.inr rfl))) (z_acons (z_call (sel := [.p 0, .p 1, .p 2]) (dws := []) (ok_without_fall T) (hr.mono (by decide)) rfl T.m_without_fall T.F_without_fall.kp (bind0 T.F_without_fall fun _ _ _ _ _ _ us uk h1 h2 => match us, h1, uk, h2 with | [_, _, _], _, [], _ => rfl) (takes_of rfl rfl rfl rfl) (z_acons (z_var (i := 1) rfl (by first | exact .inl rfl | exact .inr (.inl rfl) | exact .inr (.inr rfl))) (z_acons (z_var (i := 5) rfl (by first | exact .inl rfl | exact .inr (.inl rfl) | exact .inr (.inr rfl))) (z_acons (z_var (i := 4) rfl (by first | exact .inl rfl | exact .inr (.inl rfl) | exact .inr (.inr rfl))) (z_anil))))) (z_anil)))) (z_vone (z_call (sel := [.p 0, .p 1]) (dws := []) (ok_is_closed T) (hr.mono (by decide)) rfl T.m_is_closed T.F_is_closed.kp (bind0 T.F_is_closed fun _ _ _ _ _ _ us uk h1 h2 => match us, h1, uk, h2 with | [_, _], _, [], _ => rfl) (takes_of rfl rfl rfl rfl) (z_acons (z_var (i := 1) rfl (by first | exact .inl rfl | exact .inr (.inl rfl) | exact .inr (.inr rfl))) (z_acons (z_call (sel := [.p 0, .p 1, .p 2]) (dws := []) (ok_without_fall T) (hr.mono (by decide)) rfl T.m_without_fall T.F_without_fall.kp (bind0 T.F_without_fall fun _ _ _ _ _ _ us uk h1 h2 => match us, h1, uk, h2 with | [_, _, _], _, [], _ => rfl) (takes_of rfl rfl rfl rfl) (z_acons (z_var (i := 1) rfl (by first | exact .inl rfl | exact .inr (.inl rfl) | exact .inr (.inr rfl))) (z_acons (z_var (i := 5) rfl (by first | exact .inl rfl | exact .inr (.inl rfl) | exact .inr (.inr rfl))) (z_acons (z_var (i := 4) rfl (by first | exact .inl rfl | exact .inr (.inl rfl) | exact .inr (.inr rfl))) (z_anil))))) (z_anil))))))))))))))) (pf__law_one_right T)

/-! ### _law_class -/
theorem sc__law_class : FnScope ["_law_error"] ["_law_error"] (defScope s__law_class) := ⟨rfl, rfl, rfl, by decide +kernel, rfl, by decide +kernel, by decide +kernel⟩
def sp__law_class {K : PySem.W.Frag} {mg : Str → Option Value} (T : Txt K mg) : SpW := SpClass T.C_BadValue
theorem len__law_class {K : PySem.W.Frag} {mg : Str → Option Value} (T : Txt K mg) (ws : List Wv) (G : HW) (q : WK) (x : XE) (h : sp__law_class T ws G q x) : ws.length = 1 := by
  obtain ⟨a, y, rfl, _⟩ := h
  rfl
def b__law_class_11 {K : PySem.W.Frag} {mg : Str → Option Value} (T : Txt K mg) : ST := sRet (eTup (aCons (eC (.str "gone")) (aCons (eAt K "why" (eV 0)) (aNil))))
theorem mb__law_class_11 {K : PySem.W.Frag} {mg : Str → Option Value} (T : Txt K mg) (D : EndsW) (σ : SW) (G : HW) : b__law_class_11 T D σ G = (sRet (eTup (aCons (eC (.str "gone")) (aCons (eAt K "why" (eV 0)) (aNil))))) D σ G := rfl
def b__law_class_9 {K : PySem.W.Frag} {mg : Str → Option Value} (T : Txt K mg) : ST := sSeq (sIf (qTru (eCB (wIsi K) (aCons (eV 0) (aCons (eC (.ref T.C_NotSo)) (aNil))))) (sRet (eIf (qTru (eCB (wIsi K) (aCons (eV 0) (aCons (eC (.ty "LookupError")) (aNil))))) (eTup (aCons (eC (.str "not so")) (aCons (eAt K "parts" (eV 0)) (aCons (eAt K "verdict" (eV 0)) (aNil))))) (eTup (aCons (eC (.str "else")) (aNil))))) (sNext)) (b__law_class_11 T)
theorem mb__law_class_9 {K : PySem.W.Frag} {mg : Str → Option Value} (T : Txt K mg) (D : EndsW) (σ : SW) (G : HW) : b__law_class_9 T D σ G = (sSeq (sIf (qTru (eCB (wIsi K) (aCons (eV 0) (aCons (eC (.ref T.C_NotSo)) (aNil))))) (sRet (eIf (qTru (eCB (wIsi K) (aCons (eV 0) (aCons (eC (.ty "LookupError")) (aNil))))) (eTup (aCons (eC (.str "not so")) (aCons (eAt K "parts" (eV 0)) (aCons (eAt K "verdict" (eV 0)) (aNil))))) (eTup (aCons (eC (.str "else")) (aNil))))) (sNext)) (b__law_class_11 T)) D σ G := rfl
def b__law_class_7 {K : PySem.W.Frag} {mg : Str → Option Value} (T : Txt K mg) : ST := sSeq (sIf (qTru (eCB (wIsi K) (aCons (eV 0) (aCons (eC (.ref T.C_Nested)) (aNil))))) (sRet (eIf (qTru (eCB (wIsi K) (aCons (eV 0) (aCons (eC (.ty "RuntimeError")) (aNil))))) (eTup (aCons (eC (.str "nested")) (aNil))) (eTup (aCons (eC (.str "else")) (aNil))))) (sNext)) (b__law_class_9 T)
theorem mb__law_class_7 {K : PySem.W.Frag} {mg : Str → Option Value} (T : Txt K mg) (D : EndsW) (σ : SW) (G : HW) : b__law_class_7 T D σ G = (sSeq (sIf (qTru (eCB (wIsi K) (aCons (eV 0) (aCons (eC (.ref T.C_Nested)) (aNil))))) (sRet (eIf (qTru (eCB (wIsi K) (aCons (eV 0) (aCons (eC (.ty "RuntimeError")) (aNil))))) (eTup (aCons (eC (.str "nested")) (aNil))) (eTup (aCons (eC (.str "else")) (aNil))))) (sNext)) (b__law_class_9 T)) D σ G := rfl
def b__law_class_5 {K : PySem.W.Frag} {mg : Str → Option Value} (T : Txt K mg) : ST := sSeq (sIf (qTru (eCB (wIsi K) (aCons (eV 0) (aCons (eC (.ref T.C_Spent)) (aNil))))) (sRet (eIf (qTru (eCB (wIsi K) (aCons (eV 0) (aCons (eC (.ty "OverflowError")) (aNil))))) (eTup (aCons (eC (.str "spent")) (aCons (eAt K "most" (eV 0)) (aNil)))) (eTup (aCons (eC (.str "else")) (aNil))))) (sNext)) (b__law_class_7 T)
theorem mb__law_class_5 {K : PySem.W.Frag} {mg : Str → Option Value} (T : Txt K mg) (D : EndsW) (σ : SW) (G : HW) : b__law_class_5 T D σ G = (sSeq (sIf (qTru (eCB (wIsi K) (aCons (eV 0) (aCons (eC (.ref T.C_Spent)) (aNil))))) (sRet (eIf (qTru (eCB (wIsi K) (aCons (eV 0) (aCons (eC (.ty "OverflowError")) (aNil))))) (eTup (aCons (eC (.str "spent")) (aCons (eAt K "most" (eV 0)) (aNil)))) (eTup (aCons (eC (.str "else")) (aNil))))) (sNext)) (b__law_class_7 T)) D σ G := rfl
def b__law_class_3 {K : PySem.W.Frag} {mg : Str → Option Value} (T : Txt K mg) : ST := sSeq (sIf (qTru (eCB (wIsi K) (aCons (eV 0) (aCons (eC (.ref T.C_BadVerdict)) (aNil))))) (sRet (eIf (qTru (eCB (wIsi K) (aCons (eV 0) (aCons (eC (.ty "TypeError")) (aNil))))) (eTup (aCons (eC (.str "verdict")) (aCons (eAt K "told" (eV 0)) (aNil)))) (eTup (aCons (eC (.str "else")) (aNil))))) (sNext)) (b__law_class_5 T)
theorem mb__law_class_3 {K : PySem.W.Frag} {mg : Str → Option Value} (T : Txt K mg) (D : EndsW) (σ : SW) (G : HW) : b__law_class_3 T D σ G = (sSeq (sIf (qTru (eCB (wIsi K) (aCons (eV 0) (aCons (eC (.ref T.C_BadVerdict)) (aNil))))) (sRet (eIf (qTru (eCB (wIsi K) (aCons (eV 0) (aCons (eC (.ty "TypeError")) (aNil))))) (eTup (aCons (eC (.str "verdict")) (aCons (eAt K "told" (eV 0)) (aNil)))) (eTup (aCons (eC (.str "else")) (aNil))))) (sNext)) (b__law_class_5 T)) D σ G := rfl
def t__law_class {K : PySem.W.Frag} {mg : Str → Option Value} (T : Txt K mg) : ST := sSeq (sIf (qTru (eCB (wIsi K) (aCons (eV 0) (aCons (eC (.ref T.C_BadValue)) (aNil))))) (sRet (eIf (qTru (eCB (wIsi K) (aCons (eV 0) (aCons (eC (.ty "ValueError")) (aNil))))) (eTup (aCons (eC (.str "value")) (aCons (eAt K "what" (eV 0)) (aNil)))) (eTup (aCons (eC (.str "else")) (aNil))))) (sNext)) (b__law_class_3 T)
local macro_rules | `(tactic| walk_at "m__law_class") => `(tactic| simp only [m_V, m_kV, m_C, m_Op, m_kOp, m_kOp2, m_kBl, m_qOp, m_kCh2, m_kCh2f, m_kCh3, m_kCh1, m_kCh, m_Ch, m_qCh, m_oNone, m_oSome, m_kO, m_Sl, m_kSl, m_kSl1, m_kSl2, m_slT, m_qT, m_kTru, m_tB, m_tN, m_tI, m_tT, m_qA, m_qO, m_qN, m_kqAt, m_kqAf, m_kqOt, m_kqOf, m_kqN, m_qYes, m_A, m_Or, m_N, m_Neg, m_kAt, m_kAf, m_kOrt, m_kOrf, m_kN, m_kNeg, m_If, m_kIft, m_kIff, m_an, m_ac, m_kac, m_kac2, m_Tup, m_Lst, m_kTup, m_CB, m_kCB, m_pk1, m_pp, m_pkk, m_pd, m_pn, m_kX, m_Call, m_kC1, m_kC2, m_BM, m_BM0, m_kM1, m_Seq, m_Seq_nx, m_Seq_rt, m_Seq_bk, m_Seq_ct, m_Seq_ex, m_Next, m_Brk, m_Cont, m_Expr, m_kEx, m_Ret, m_RetN, m_SIf, m_kSIft, m_kSIff, m_Set, m_kSet, m_Par, m_kPar, m_Par3, m_kPar3, m_Asg, m_kAsg, m_gNm, m_kG, m_gNo, m_gMo, m_gTu, m_gSb, m_kGs, m_kGs2, m_kW2, m_Aug, m_kAug, m_kAu, m_kAu2, m_mk1, m_kMk, m_Raise, m_ends_rt, m_ends_ex, m_ends_nx, m_add, m_addB, m_sub, m_eqI, m_eqS, m_neI, m_neS, m_isB, m_isN, m_isNotN, m_nonN, m_nonR, m_nonT, m_nonI, m_nonS, m_nonB, m_lenT, m_lenK, m_tupT, m_max, m_min, m_intI, m_intB, m_pr0, m_pr, m_kpr, m_kpr2, m_Xf, m_Try, m_Try_nx, m_Try_rt, m_Try_bk, m_Try_ct, m_Try_ex, m_Suite_nx, m_Suite_rt, m_Suite_bk, m_Suite_ct, m_kXe, m_kXo, m_tlOf, m_For, m_Loop_nx, m_Loop_ct, m_Loop_bk, m_Loop_rt, m_Loop_ex, m_kB, m_iSeq, m_kItT, m_kItK, m_kItS, m_iRg1, m_iRg2, m_iEnu, m_kEnuK, m_iZp, m_kZpT, m_iRv, m_kRvT, m_Lc, m_kCell, m_kTurnT, m_kTurnF, m_wip0, m_wip1, m_Back, m_kBackT, m_rg1, m_kRgA, m_TupRg, m_LstRg, m_Dc, m_DturnT, m_DturnF, m_kDk, m_kDv, m_SSet, m_iRvR, m_At, m_Fst, m_kFs, m_Meth, m_kMe2, m_kMe3, m_Make, m_kMk1, m_kMade, m_ltI, m_geI, m_geP, m_isNotB, m_Get1, m_Get2, m_kGet2, m_Setd, m_kSd2, m_rg2, m_kRg2a, m_kRg2b, List.getElem?_cons_zero, List.getElem?_cons_succ, List.set_cons_zero, List.set_cons_succ, List.length_cons, List.length_nil, Nat.zero_add, Nat.reduceAdd, Nat.reduceLeDiff, Bool.not_true, Bool.not_false, mb__law_class_11, mb__law_class_9, mb__law_class_7, mb__law_class_5, mb__law_class_3])
theorem pf__law_class {K : PySem.W.Frag} {mg : Str → Option Value} (T : Txt K mg) (ws : List Wv) (G : HW) (q : WK) (x : XE) (h : sp__law_class T ws G q x) : t__law_class T (endsW q x) (startW ["_law_error"] ws) G := by
  obtain ⟨a, y, rfl, he, hq⟩ := h
  have ty : TyW K G (.ref a) (.ref T.C_BadValue) := by
    show TyO K a (G a) _
    rw [he]
    exact ⟨rfl, _, rfl, rfl, T.xc_BadValue⟩
  show t__law_class T (endsW q x) [some (.ref a)] G
  unfold t__law_class
  walk_at "m__law_class"
  refine r_isi ty rfl T.ko_BadValue ?_
  walk_at "m__law_class"
  refine r_isi ty rfl T.kb_BadValue ?_
  walk_at "m__law_class"
  refine r_err he T.xf_BadValue T.no_BadValue rfl ?_
  walk_at "m__law_class"
  exact hq
set_option maxHeartbeats 0 in
theorem ok__law_class {P : Program} {w : World} {K : PySem.W.Frag} {mg : Str → Option Value} {base : Heap} (T : Txt K mg) : FnW P w K mg base 1 T.f__law_class T.fd__law_class ["_law_error"] (sp__law_class T) :=
  fnW_of (t := t__law_class T) T.F__law_class sc__law_class (len__law_class T) (fun cdv A outer s H E hr => (zs_cons (z_if (z_q (z_callB w_isi rfl T.n_isinstance boot_isinstance (z_acons (z_var (i := 0) rfl (by first | exact .inl rfl | exact .inr (.inl rfl) | exact .inr (.inr rfl))) (z_acons (z_globR rfl T.m_BadValue) (z_anil))))) (zs_one (z_ret (z_ifx (z_q (z_callB w_isi rfl T.n_isinstance boot_isinstance (z_acons (z_var (i := 0) rfl (by first | exact .inl rfl | exact .inr (.inl rfl) | exact .inr (.inr rfl))) (z_acons (z_bty rfl T.n_ValueError boot_ValueError) (z_anil))))) (z_tup (z_acons (z_str) (z_acons (z_at (z_var (i := 0) rfl (by first | exact .inl rfl | exact .inr (.inl rfl) | exact .inr (.inr rfl)))) (z_anil)))) (z_tup (z_acons (z_str) (z_anil)))))) (zs_nil)) (zs_cons (z_if (z_q (z_callB w_isi rfl T.n_isinstance boot_isinstance (z_acons (z_var (i := 0) rfl (by first | exact .inl rfl | exact .inr (.inl rfl) | exact .inr (.inr rfl))) (z_acons (z_globR rfl T.m_BadVerdict) (z_anil))))) (zs_one (z_ret (z_ifx (z_q (z_callB w_isi rfl T.n_isinstance boot_isinstance (z_acons (z_var (i := 0) rfl (by first | exact .inl rfl | exact .inr (.inl rfl) | exact .inr (.inr rfl))) (z_acons (z_bty rfl T.n_TypeError boot_TypeError) (z_anil))))) (z_tup (z_acons (z_str) (z_acons (z_at (z_var (i := 0) rfl (by first | exact .inl rfl | exact .inr (.inl rfl) | exact .inr (.inr rfl)))) (z_anil)))) (z_tup (z_acons (z_str) (z_anil)))))) (zs_nil)) (zs_cons (z_if (z_q (z_callB w_isi rfl T.n_isinstance boot_isinstance (z_acons (z_var (i := 0) rfl (by first | exact .inl rfl | exact .inr (.inl rfl) | exact .inr (.inr rfl))) (z_acons (z_globR rfl T.m_Spent) (z_anil))))) (zs_one (z_ret (z_ifx (z_q (z_callB w_isi rfl T.n_isinstance boot_isinstance (z_acons (z_var (i := 0) rfl (by first | exact .inl rfl | exact .inr (.inl rfl) | exact .inr (.inr rfl))) (z_acons (z_bty rfl T.n_OverflowError boot_OverflowError) (z_anil))))) (z_tup (z_acons (z_str) (z_acons (z_at (z_var (i := 0) rfl (by first | exact .inl rfl | exact .inr (.inl rfl) | exact .inr (.inr rfl)))) (z_anil)))) (z_tup (z_acons (z_str) (z_anil)))))) (zs_nil)) (zs_cons (z_if (z_q (z_callB w_isi rfl T.n_isinstance boot_isinstance (z_acons (z_var (i := 0) rfl (by first | exact .inl rfl | exact .inr (.inl rfl) | exact .inr (.inr rfl))) (z_acons (z_globR rfl T.m_Nested) (z_anil))))) (zs_one (z_ret (z_ifx (z_q (z_callB w_isi rfl T.n_isinstance boot_isinstance (z_acons (z_var (i := 0) rfl (by first | exact .inl rfl | exact .inr (.inl rfl) | exact .inr (.inr rfl))) (z_acons (z_bty rfl T.n_RuntimeError boot_RuntimeError) (z_anil))))) (z_tup (z_acons (z_str) (z_anil))) (z_tup (z_acons (z_str) (z_anil)))))) (zs_nil)) (zs_cons (z_if (z_q (z_callB w_isi rfl T.n_isinstance boot_isinstance (z_acons (z_var (i := 0) rfl (by first | exact .inl rfl | exact .inr (.inl rfl) | exact .inr (.inr rfl))) (z_acons (z_globR rfl T.m_NotSo) (z_anil))))) (zs_one (z_ret (z_ifx (z_q (z_callB w_isi rfl T.n_isinstance boot_isinstance (z_acons (z_var (i := 0) rfl (by first | exact .inl rfl | exact .inr (.inl rfl) | exact .inr (.inr rfl))) (z_acons (z_bty rfl T.n_LookupError boot_LookupError) (z_anil))))) (z_tup (z_acons (z_str) (z_acons (z_at (z_var (i := 0) rfl (by first | exact .inl rfl | exact .inr (.inl rfl) | exact .inr (.inr rfl)))) (z_acons (z_at (z_var (i := 0) rfl (by first | exact .inl rfl | exact .inr (.inl rfl) | exact .inr (.inr rfl)))) (z_anil))))) (z_tup (z_acons (z_str) (z_anil)))))) (zs_nil)) (zs_one (z_ret (z_tup (z_acons (z_str) (z_acons (z_at (z_var (i := 0) rfl (by first | exact .inl rfl | exact .inr (.inl rfl) | exact .inr (.inr rfl)))) (z_anil)))))))))))) (pf__law_class T)

/-! ### _law_told -/
theorem sc__law_told : FnScope ["_law_deed", "_law_error", "_law_found", "e"] ["_law_deed"] (defScope s__law_told) := ⟨rfl, rfl, rfl, by decide +kernel, rfl, by decide +kernel, by decide +kernel⟩
def sp__law_told {K : PySem.W.Frag} {mg : Str → Option Value} (T : Txt K mg) : SpT := SpTold T.C_BadValue
def b__law_told_7 {K : PySem.W.Frag} {mg : Str → Option Value} (T : Txt K mg) (tl : TlT) (p : Addr) (HL : Hp) : ST := sRet (eIf (qOp wIs (eV 1) (eC .non)) (eV 2) (eCall 1 0 [.p 0] [] (sp__law_class T) (aCons (eV 1) (aNil)) aNil))
theorem mb__law_told_7 {K : PySem.W.Frag} {mg : Str → Option Value} (T : Txt K mg) (tl : TlT) (p : Addr) (HL : Hp) (D : EndsW) (σ : SW) (G : HW) : b__law_told_7 T tl p HL D σ G = (sRet (eIf (qOp wIs (eV 1) (eC .non)) (eV 2) (eCall 1 0 [.p 0] [] (sp__law_class T) (aCons (eV 1) (aNil)) aNil))) D σ G := rfl
def b__law_told_3 {K : PySem.W.Frag} {mg : Str → Option Value} (T : Txt K mg) (tl : TlT) (p : Addr) (HL : Hp) : ST := sSeq (sTry K [.ref T.C_BadValue, .ref T.C_BadVerdict, .ref T.C_Gone, .ref T.C_Nested, .ref T.C_NotSo, .ref T.C_Spent] 3 (sSet 2 (eLst (aCons (eDeed 0 p HL tl) (aNil)))) (sSet 1 (eV 3))) (b__law_told_7 T tl p HL)
theorem mb__law_told_3 {K : PySem.W.Frag} {mg : Str → Option Value} (T : Txt K mg) (tl : TlT) (p : Addr) (HL : Hp) (D : EndsW) (σ : SW) (G : HW) : b__law_told_3 T tl p HL D σ G = (sSeq (sTry K [.ref T.C_BadValue, .ref T.C_BadVerdict, .ref T.C_Gone, .ref T.C_Nested, .ref T.C_NotSo, .ref T.C_Spent] 3 (sSet 2 (eLst (aCons (eDeed 0 p HL tl) (aNil)))) (sSet 1 (eV 3))) (b__law_told_7 T tl p HL)) D σ G := rfl
def b__law_told_2 {K : PySem.W.Frag} {mg : Str → Option Value} (T : Txt K mg) (tl : TlT) (p : Addr) (HL : Hp) : ST := sSeq (sSet 2 (eLst (aNil))) (b__law_told_3 T tl p HL)
theorem mb__law_told_2 {K : PySem.W.Frag} {mg : Str → Option Value} (T : Txt K mg) (tl : TlT) (p : Addr) (HL : Hp) (D : EndsW) (σ : SW) (G : HW) : b__law_told_2 T tl p HL D σ G = (sSeq (sSet 2 (eLst (aNil))) (b__law_told_3 T tl p HL)) D σ G := rfl
def t__law_told {K : PySem.W.Frag} {mg : Str → Option Value} (T : Txt K mg) (tl : TlT) (p : Addr) (HL : Hp) : ST := sSeq (sSet 1 (eC .non)) (b__law_told_2 T tl p HL)
local macro_rules | `(tactic| walk_at "m__law_told") => `(tactic| simp only [m_V, m_kV, m_C, m_Op, m_kOp, m_kOp2, m_kBl, m_qOp, m_kCh2, m_kCh2f, m_kCh3, m_kCh1, m_kCh, m_Ch, m_qCh, m_oNone, m_oSome, m_kO, m_Sl, m_kSl, m_kSl1, m_kSl2, m_slT, m_qT, m_kTru, m_tB, m_tN, m_tI, m_tT, m_qA, m_qO, m_qN, m_kqAt, m_kqAf, m_kqOt, m_kqOf, m_kqN, m_qYes, m_A, m_Or, m_N, m_Neg, m_kAt, m_kAf, m_kOrt, m_kOrf, m_kN, m_kNeg, m_If, m_kIft, m_kIff, m_an, m_ac, m_kac, m_kac2, m_Tup, m_Lst, m_kTup, m_CB, m_kCB, m_pk1, m_pp, m_pkk, m_pd, m_pn, m_kX, m_Call, m_kC1, m_kC2, m_BM, m_BM0, m_kM1, m_Seq, m_Seq_nx, m_Seq_rt, m_Seq_bk, m_Seq_ct, m_Seq_ex, m_Next, m_Brk, m_Cont, m_Expr, m_kEx, m_Ret, m_RetN, m_SIf, m_kSIft, m_kSIff, m_Set, m_kSet, m_Par, m_kPar, m_Par3, m_kPar3, m_Asg, m_kAsg, m_gNm, m_kG, m_gNo, m_gMo, m_gTu, m_gSb, m_kGs, m_kGs2, m_kW2, m_Aug, m_kAug, m_kAu, m_kAu2, m_mk1, m_kMk, m_Raise, m_ends_rt, m_ends_ex, m_ends_nx, m_add, m_addB, m_sub, m_eqI, m_eqS, m_neI, m_neS, m_isB, m_isN, m_isNotN, m_nonN, m_nonR, m_nonT, m_nonI, m_nonS, m_nonB, m_lenT, m_lenK, m_tupT, m_max, m_min, m_intI, m_intB, m_pr0, m_pr, m_kpr, m_kpr2, m_Xf, m_Try, m_Try_nx, m_Try_rt, m_Try_bk, m_Try_ct, m_Try_ex, m_Suite_nx, m_Suite_rt, m_Suite_bk, m_Suite_ct, m_kXe, m_kXo, m_tlOf, m_For, m_Loop_nx, m_Loop_ct, m_Loop_bk, m_Loop_rt, m_Loop_ex, m_kB, m_iSeq, m_kItT, m_kItK, m_kItS, m_iRg1, m_iRg2, m_iEnu, m_kEnuK, m_iZp, m_kZpT, m_iRv, m_kRvT, m_Lc, m_kCell, m_kTurnT, m_kTurnF, m_wip0, m_wip1, m_Back, m_kBackT, m_rg1, m_kRgA, m_TupRg, m_LstRg, m_Dc, m_DturnT, m_DturnF, m_kDk, m_kDv, m_SSet, m_iRvR, m_At, m_Fst, m_kFs, m_Meth, m_kMe2, m_kMe3, m_Make, m_kMk1, m_kMade, m_ltI, m_geI, m_geP, m_isNotB, m_Get1, m_Get2, m_kGet2, m_Setd, m_kSd2, m_rg2, m_kRg2a, m_kRg2b, List.getElem?_cons_zero, List.getElem?_cons_succ, List.set_cons_zero, List.set_cons_succ, List.length_cons, List.length_nil, Nat.zero_add, Nat.reduceAdd, Nat.reduceLeDiff, Bool.not_true, Bool.not_false, mb__law_told_7, mb__law_told_3, mb__law_told_2])
theorem pf__law_told {K : PySem.W.Frag} {mg : Str → Option Value} (T : Txt K mg) (tl : TlT) (p : Addr) (HL : Hp) (G : HW) (q : WK) (x : XE) (h : sp__law_told T tl G q x) : t__law_told T tl p HL (endsW q x) (startW ["_law_deed", "_law_error", "_law_found", "e"] [.fn p HL]) G := by
  obtain ⟨E, R, ht, hE, hR⟩ := h
  show t__law_told T tl p HL (endsW q x) [some (.fn p HL), some (.non), none, none] G
  unfold t__law_told
  walk_at "m__law_told"
  refine r_lst' fun l0 hl0 => ?_
  walk_at "m__law_told"
  refine r_deed rfl (ht _ _ _ (Ext.new hl0) (fun cls fs G1 h1 => ?_) fun w G1 h1 => ?_)
  · obtain ⟨rfl, y, rfl, hz⟩ := hE cls fs G1 h1
    walk_at "m__law_told"
    refine r_caught T.xm_BadValue fun a ha => ?_
    walk_at "m__law_told"
    refine ⟨a, y, rfl, updO_same, hz _ (Ext.new ha)⟩
  · walk_at "m__law_told"
    refine r_lst' fun l hl => ?_
    walk_at "m__law_told"
    exact hR w G1 h1 l _ hl (Ext.new hl) updO_same
set_option maxHeartbeats 0 in
theorem ok__law_told {P : Program} {w : World} {K : PySem.W.Frag} {mg : Str → Option Value} {base : Heap} (T : Txt K mg) (j : Nat) : TellW P w K mg base (j + 1) T.f__law_told ["_law_deed", "_law_error", "_law_found", "e"] "_law_told" (defScope s__law_told) "_law_deed" (sp__law_told T) :=
  tellW_of (t := t__law_told T) T.F__law_told (bind0 T.F__law_told fun _ _ _ _ _ _ us uk h1 h2 => match us, h1, uk, h2 with | [_], _, [], _ => rfl) sc__law_told (fun cdv A outer s H E p tl hr act => (zs_cons (z_set (i := 1) sc__law_told.nd rfl (by first | exact .inl rfl | exact .inr rfl) (z_non)) (zs_cons (z_set (i := 2) sc__law_told.nd rfl (by first | exact .inl rfl | exact .inr rfl) (z_lst (z_anil))) (zs_cons (z_try (i := 3) (cs := [.ref T.C_BadValue, .ref T.C_BadVerdict, .ref T.C_Gone, .ref T.C_Nested, .ref T.C_NotSo, .ref T.C_Spent]) rfl rfl rfl sc__law_told.nd rfl rfl (.cons ⟨rfl, by decide, .inl T.m_BadValue⟩ (.cons ⟨rfl, by decide, .inl T.m_BadVerdict⟩ (.cons ⟨rfl, by decide, .inl T.m_Gone⟩ (.cons ⟨rfl, by decide, .inl T.m_Nested⟩ (.cons ⟨rfl, by decide, .inl T.m_NotSo⟩ (.cons ⟨rfl, by decide, .inl T.m_Spent⟩ .nil)))))) (show 6 ≤ sizeLine from by rw [sizeLine_eq]; omega) (takes_of rfl rfl rfl rfl) (fun W pn xe tkB poB => zs_one (z_set (i := 2) sc__law_told.nd rfl (by first | exact .inl rfl | exact .inr rfl) (z_lst (z_acons (act _ _ _ _ _ tkB) (z_anil))))) (fun a pn => zs_one (z_set (i := 1) sc__law_told.nd rfl (by first | exact .inl rfl | exact .inr rfl) (z_var (i := 3) rfl (by first | exact .inl rfl | exact .inr (.inl rfl) | exact .inr (.inr rfl)))))) (zs_one (z_ret (z_ifx (z_qcmp w_is (z_var (i := 1) rfl (by first | exact .inl rfl | exact .inr (.inl rfl) | exact .inr (.inr rfl))) (z_non) (by rfl)) (z_var (i := 2) rfl (by first | exact .inl rfl | exact .inr (.inl rfl) | exact .inr (.inr rfl))) (z_call (sel := [.p 0]) (dws := []) (ok__law_class T) ((hr.mono (Nat.le_add_left 1 j)).mono (by decide)) rfl T.m__law_class T.F__law_class.kp (bind0 T.F__law_class fun _ _ _ _ _ _ us uk h1 h2 => match us, h1, uk, h2 with | [_], _, [], _ => rfl) (takes_of rfl rfl rfl rfl) (z_acons (z_var (i := 1) rfl (by first | exact .inl rfl | exact .inr (.inl rfl) | exact .inr (.inr rfl))) (z_anil)))))))))) (pf__law_told T)

/-! ### _law_are_links -/
theorem sc__law_are_links : FnScope ["_law_thing", "_law_size", "_law_one", "_law_number", "_law_k"] ["_law_thing", "_law_size"] (defScope s__law_are_links) := ⟨rfl, rfl, rfl, by decide +kernel, rfl, by decide +kernel, by decide +kernel⟩
theorem pw_next : ∀ L : Lk, L.Pairwise ltPr ↔ ∀ (i : Nat) a b, L[i]? = some a → L[i + 1]? = some b → ltPr a b
  | [] => by simp
  | [a] => by simp
  | a :: b :: L => by
    have ih := pw_next (b :: L)
    rw [List.pairwise_cons, ih]
    constructor
    · rintro ⟨h1, h2⟩ i x y hx hy
      cases i with
      | zero =>
        cases hx; cases hy
        exact h1 b (by simp)
      | succ i => exact h2 i x y hx hy
    · intro h
      have h2 : ∀ (i : Nat) x y, (b :: L)[i]? = some x → (b :: L)[i + 1]? = some y → ltPr x y := fun i x y hx hy => h (i + 1) x y hx hy
      refine ⟨fun c hc => ?_, h2⟩
      have h0 := h 0 a b rfl rfl
      rcases List.mem_cons.mp hc with rfl | hc
      · exact h0
      · have := (List.pairwise_cons.mp (ih.mpr h2)).1 c hc
        unfold ltPr at *
        omega
theorem ge_lt {a b : Int × Int} : gePair a b = true ↔ ¬ ltPr a b := by
  unfold gePair ltPr
  split <;> rw [decide_eq_true_iff] <;> omega
def geF (L : Lk) : Wv → Bool
  | .int k => match L[(k - 1).toNat]?, L[k.toNat]? with
    | some a, some b => gePair a b
    | _, _ => false
  | _ => false
theorem geF_none (L : Lk) : (rgW 1 1 ((L.length : Int) - 1).toNat).filter (geF L) = [] ↔ L.Pairwise ltPr := by
  rw [List.filter_eq_nil_iff, pw_next]
  constructor
  · intro h i a b ha hb
    have hi : i + 1 < L.length := by
      rcases Nat.lt_or_ge (i + 1) L.length with z | z
      · exact z
      · rw [List.getElem?_eq_none z] at hb; cases hb
    have := h (.int (1 + (i : Nat) * 1)) (List.mem_of_getElem? (rgW_at 1 1 (show i < ((L.length : Int) - 1).toNat by omega)))
    unfold geF at this
    dsimp only at this
    rw [show (1 + (i : Int) * 1 - 1).toNat = i by omega, show (1 + (i : Int) * 1).toNat = i + 1 by omega, ha, hb] at this
    dsimp only at this
    rw [ge_lt] at this
    exact Classical.byContradiction this
  · intro h w hw z
    obtain ⟨i, hi, rfl⟩ : ∃ i : Nat, i < ((L.length : Int) - 1).toNat ∧ w = .int (1 + (i : Nat) * 1) := by
      unfold rgW at hw
      obtain ⟨i, hi, rfl⟩ := List.mem_map.mp hw
      exact ⟨i, List.mem_range.mp hi, rfl⟩
    unfold geF at z
    dsimp only at z
    rw [show (1 + (i : Int) * 1 - 1).toNat = i by omega, show (1 + (i : Int) * 1).toNat = i + 1 by omega] at z
    split at z
    · rename_i a b ha hb
      exact ge_lt.mp z (h i a b ha hb)
    · cases z
theorem rg_filt (p : Wv → Bool) (n : Nat) : ∃ ks : List Int, (rgW 1 1 n).filter p = ks.map .int := by
  have : ∀ ws : List Wv, (∀ w ∈ ws, ∃ k : Int, w = .int k) → ∃ ks : List Int, ws = ks.map .int := by
    intro ws
    induction ws with
    | nil => exact fun _ => ⟨[], rfl⟩
    | cons w ws ih =>
      intro h
      obtain ⟨k, rfl⟩ := h w List.mem_cons_self
      obtain ⟨ks, rfl⟩ := ih fun y hy => h y (List.mem_cons_of_mem _ hy)
      exact ⟨k :: ks, rfl⟩
  refine this _ fun w hw => ?_
  have hw := (List.mem_filter.mp hw).1
  unfold rgW at hw
  obtain ⟨i, _, rfl⟩ := List.mem_map.mp hw
  exact ⟨_, rfl⟩
theorem lk_bad {ws : List Wv} {n : Int} {w : Wv} (h : w ∈ ws) (e : isLk w n = false) : isLks (.tup ws) n = false := by
  show (ws.all (isLk · n) && risesT ws) = false
  have : ws.all (isLk · n) = false := by
    rw [List.all_eq_false]
    exact ⟨w, h, by rw [e]; decide⟩
  rw [this]
  rfl
theorem lk_long {ws : List Wv} {n : Int} (h : (ws.length : Int) ≠ 2) : isLk (.tup ws) n = false := by
  unfold isLk
  split
  · rename_i a b e
    cases e
    exact absurd rfl h
  · rfl
def sp__law_are_links {K : PySem.W.Frag} {mg : Str → Option Value} (T : Txt K mg) : SpW := SpLinks K
theorem len__law_are_links {K : PySem.W.Frag} {mg : Str → Option Value} (T : Txt K mg) (ws : List Wv) (G : HW) (q : WK) (x : XE) (h : sp__law_are_links T ws G q x) : ws.length = 2 := by
  obtain ⟨w, n, rfl, _⟩ := h
  rfl
def b__law_are_links_11 {K : PySem.W.Frag} {mg : Str → Option Value} (T : Txt K mg) : ST := sRet (eOp wEq (eLc (iRg2 (aCons (eC (.int 1)) (aCons (eCB wLen (aCons (eV 0) (aNil))) (aNil)))) [4] [4] (qOp wGeA (eOp wIx (eV 0) (eOp oSub (eV 4) (eC (.int 1)))) (eOp wIx (eV 0) (eV 4))) (eV 4)) (eLst (aNil)))
theorem mb__law_are_links_11 {K : PySem.W.Frag} {mg : Str → Option Value} (T : Txt K mg) (D : EndsW) (σ : SW) (G : HW) : b__law_are_links_11 T D σ G = (sRet (eOp wEq (eLc (iRg2 (aCons (eC (.int 1)) (aCons (eCB wLen (aCons (eV 0) (aNil))) (aNil)))) [4] [4] (qOp wGeA (eOp wIx (eV 0) (eOp oSub (eV 4) (eC (.int 1)))) (eOp wIx (eV 0) (eV 4))) (eV 4)) (eLst (aNil)))) D σ G := rfl
def b__law_are_links_9 {K : PySem.W.Frag} {mg : Str → Option Value} (T : Txt K mg) : ST := sIf (qOp wEq (eOp wIx (eV 2) (eC (.int 0))) (eOp wIx (eV 2) (eC (.int 1)))) (sRet (eC (.bl false))) (sNext)
theorem mb__law_are_links_9 {K : PySem.W.Frag} {mg : Str → Option Value} (T : Txt K mg) (D : EndsW) (σ : SW) (G : HW) : b__law_are_links_9 T D σ G = (sIf (qOp wEq (eOp wIx (eV 2) (eC (.int 0))) (eOp wIx (eV 2) (eC (.int 1)))) (sRet (eC (.bl false))) (sNext)) D σ G := rfl
def b__law_are_links_7 {K : PySem.W.Frag} {mg : Str → Option Value} (T : Txt K mg) : ST := sIf (qOr (qTru (eCB (wIsi K) (aCons (eV 3) (aCons (eC (.ty "bool")) (aNil))))) (qOr (qNot (qTru (eCB (wIsi K) (aCons (eV 3) (aCons (eC (.ty "int")) (aNil)))))) (qNot (qChain oLe wLtA (eC (.int 0)) (eV 3) (eV 1))))) (sRet (eC (.bl false))) (sNext)
theorem mb__law_are_links_7 {K : PySem.W.Frag} {mg : Str → Option Value} (T : Txt K mg) (D : EndsW) (σ : SW) (G : HW) : b__law_are_links_7 T D σ G = (sIf (qOr (qTru (eCB (wIsi K) (aCons (eV 3) (aCons (eC (.ty "bool")) (aNil))))) (qOr (qNot (qTru (eCB (wIsi K) (aCons (eV 3) (aCons (eC (.ty "int")) (aNil)))))) (qNot (qChain oLe wLtA (eC (.int 0)) (eV 3) (eV 1))))) (sRet (eC (.bl false))) (sNext)) D σ G := rfl
def b__law_are_links_6 {K : PySem.W.Frag} {mg : Str → Option Value} (T : Txt K mg) : ST := sSeq (sFor (iSeq (eV 2)) (gNm 3) (b__law_are_links_7 T)) (b__law_are_links_9 T)
theorem mb__law_are_links_6 {K : PySem.W.Frag} {mg : Str → Option Value} (T : Txt K mg) (D : EndsW) (σ : SW) (G : HW) : b__law_are_links_6 T D σ G = (sSeq (sFor (iSeq (eV 2)) (gNm 3) (b__law_are_links_7 T)) (b__law_are_links_9 T)) D σ G := rfl
def b__law_are_links_4 {K : PySem.W.Frag} {mg : Str → Option Value} (T : Txt K mg) : ST := sSeq (sIf (qOr (qNot (qTru (eCB (wIsi K) (aCons (eV 2) (aCons (eC (.ty "tuple")) (aNil)))))) (qOp wNe (eCB wLen (aCons (eV 2) (aNil))) (eC (.int 2)))) (sRet (eC (.bl false))) (sNext)) (b__law_are_links_6 T)
theorem mb__law_are_links_4 {K : PySem.W.Frag} {mg : Str → Option Value} (T : Txt K mg) (D : EndsW) (σ : SW) (G : HW) : b__law_are_links_4 T D σ G = (sSeq (sIf (qOr (qNot (qTru (eCB (wIsi K) (aCons (eV 2) (aCons (eC (.ty "tuple")) (aNil)))))) (qOp wNe (eCB wLen (aCons (eV 2) (aNil))) (eC (.int 2)))) (sRet (eC (.bl false))) (sNext)) (b__law_are_links_6 T)) D σ G := rfl
def b__law_are_links_3 {K : PySem.W.Frag} {mg : Str → Option Value} (T : Txt K mg) : ST := sSeq (sFor (iSeq (eV 0)) (gNm 2) (b__law_are_links_4 T)) (b__law_are_links_11 T)
theorem mb__law_are_links_3 {K : PySem.W.Frag} {mg : Str → Option Value} (T : Txt K mg) (D : EndsW) (σ : SW) (G : HW) : b__law_are_links_3 T D σ G = (sSeq (sFor (iSeq (eV 0)) (gNm 2) (b__law_are_links_4 T)) (b__law_are_links_11 T)) D σ G := rfl
def t__law_are_links {K : PySem.W.Frag} {mg : Str → Option Value} (T : Txt K mg) : ST := sSeq (sIf (qNot (qTru (eCB (wIsi K) (aCons (eV 0) (aCons (eC (.ty "tuple")) (aNil)))))) (sRet (eC (.bl false))) (sNext)) (b__law_are_links_3 T)
local macro_rules | `(tactic| walk_at "m__law_are_links") => `(tactic| simp only [m_V, m_kV, m_C, m_Op, m_kOp, m_kOp2, m_kBl, m_qOp, m_kCh2, m_kCh2f, m_kCh3, m_kCh1, m_kCh, m_Ch, m_qCh, m_oNone, m_oSome, m_kO, m_Sl, m_kSl, m_kSl1, m_kSl2, m_slT, m_qT, m_kTru, m_tB, m_tN, m_tI, m_tT, m_qA, m_qO, m_qN, m_kqAt, m_kqAf, m_kqOt, m_kqOf, m_kqN, m_qYes, m_A, m_Or, m_N, m_Neg, m_kAt, m_kAf, m_kOrt, m_kOrf, m_kN, m_kNeg, m_If, m_kIft, m_kIff, m_an, m_ac, m_kac, m_kac2, m_Tup, m_Lst, m_kTup, m_CB, m_kCB, m_pk1, m_pp, m_pkk, m_pd, m_pn, m_kX, m_Call, m_kC1, m_kC2, m_BM, m_BM0, m_kM1, m_Seq, m_Seq_nx, m_Seq_rt, m_Seq_bk, m_Seq_ct, m_Seq_ex, m_Next, m_Brk, m_Cont, m_Expr, m_kEx, m_Ret, m_RetN, m_SIf, m_kSIft, m_kSIff, m_Set, m_kSet, m_Par, m_kPar, m_Par3, m_kPar3, m_Asg, m_kAsg, m_gNm, m_kG, m_gNo, m_gMo, m_gTu, m_gSb, m_kGs, m_kGs2, m_kW2, m_Aug, m_kAug, m_kAu, m_kAu2, m_mk1, m_kMk, m_Raise, m_ends_rt, m_ends_ex, m_ends_nx, m_add, m_addB, m_sub, m_eqI, m_eqS, m_neI, m_neS, m_isB, m_isN, m_isNotN, m_nonN, m_nonR, m_nonT, m_nonI, m_nonS, m_nonB, m_lenT, m_lenK, m_tupT, m_max, m_min, m_intI, m_intB, m_pr0, m_pr, m_kpr, m_kpr2, m_Xf, m_Try, m_Try_nx, m_Try_rt, m_Try_bk, m_Try_ct, m_Try_ex, m_Suite_nx, m_Suite_rt, m_Suite_bk, m_Suite_ct, m_kXe, m_kXo, m_tlOf, m_For, m_Loop_nx, m_Loop_ct, m_Loop_bk, m_Loop_rt, m_Loop_ex, m_kB, m_iSeq, m_kItT, m_kItK, m_kItS, m_iRg1, m_iRg2, m_iEnu, m_kEnuK, m_iZp, m_kZpT, m_iRv, m_kRvT, m_Lc, m_kCell, m_kTurnT, m_kTurnF, m_wip0, m_wip1, m_Back, m_kBackT, m_rg1, m_kRgA, m_TupRg, m_LstRg, m_Dc, m_DturnT, m_DturnF, m_kDk, m_kDv, m_SSet, m_iRvR, m_At, m_Fst, m_kFs, m_Meth, m_kMe2, m_kMe3, m_Make, m_kMk1, m_kMade, m_ltI, m_geI, m_geP, m_isNotB, m_Get1, m_Get2, m_kGet2, m_Setd, m_kSd2, m_rg2, m_kRg2a, m_kRg2b, List.getElem?_cons_zero, List.getElem?_cons_succ, List.set_cons_zero, List.set_cons_succ, List.length_cons, List.length_nil, Nat.zero_add, Nat.reduceAdd, Nat.reduceLeDiff, Bool.not_true, Bool.not_false, mb__law_are_links_11, mb__law_are_links_9, mb__law_are_links_7, mb__law_are_links_6, mb__law_are_links_4, mb__law_are_links_3])
theorem pf__law_are_links {K : PySem.W.Frag} {mg : Str → Option Value} (T : Txt K mg) (ws : List Wv) (G : HW) (q : WK) (x : XE) (h : sp__law_are_links T ws G q x) : t__law_are_links T (endsW q x) (startW ["_law_thing", "_law_size", "_law_one", "_law_number", "_law_k"] ws) G := by
  obtain ⟨w, n, rfl, kw, hq⟩ := h
  show t__law_are_links T (endsW q x) [some (w), some (.int n), none, none, none] G
  unfold t__law_are_links
  walk_at "m__law_are_links"
  refine r_ty kw.1.t ?_
  cases w with
  | tup ws =>
    simp only [isTp]
    obtain ⟨hl, ky⟩ := kw.2 ws rfl
    have hz : ws.length ≤ sizeLine := by rw [sizeLine_eq]; omega
    walk_at "m__law_are_links"
    refine r_for (fun i σ G2 => ∃ (o2 o3 : Option Wv), σ = [some (.tup ws), some (.int n), o2, o3, none] ∧ (∀ y ∈ ws.take i, isLk y n = true) ∧ Ext G G2)
      ⟨_, _, rfl, (fun y hy => by simp at hy), Ext.refl⟩ (fun _ _ _ _ _ => trivial) ?_ ?_
    · rintro i y σ2 G2 ey ⟨o2, o3, rfl, hg, ex⟩
      have hm := List.mem_of_getElem? ey
      have bad : isLk y n = false → q (.bl false) G2 := fun e => by
        have := hq G2 ex
        rw [lk_bad hm e] at this
        exact this
      have kd := (ky y hm).ext ex
      walk_at "m__law_are_links"
      refine r_ty kd.1.t ?_
      cases y with
      | tup us =>
        simp only [isTp]
        walk_at "m__law_are_links"
        by_cases e0 : (us.length : Int) = 2
        · obtain ⟨a, b, rfl⟩ : ∃ a b, us = [a, b] := by
            match us, e0 with
            | [], h0 => exact absurd h0 (by simp)
            | [a], h0 => exact absurd h0 (by simp)
            | [a, b], _ => exact ⟨a, b, rfl⟩
            | a :: b :: c :: us, h0 => exact absurd h0 (by rw [List.length_cons, List.length_cons, List.length_cons]; omega)
          have e22 : decide (((2 : Nat) : Int) = 2) = true := rfl
          simp only [m_V, m_kV, m_C, m_Op, m_kOp, m_kOp2, m_kBl, m_qOp, m_kCh2, m_kCh2f, m_kCh3, m_kCh1, m_kCh, m_Ch, m_qCh, m_oNone, m_oSome, m_kO, m_Sl, m_kSl, m_kSl1, m_kSl2, m_slT, m_qT, m_kTru, m_tB, m_tN, m_tI, m_tT, m_qA, m_qO, m_qN, m_kqAt, m_kqAf, m_kqOt, m_kqOf, m_kqN, m_qYes, m_A, m_Or, m_N, m_Neg, m_kAt, m_kAf, m_kOrt, m_kOrf, m_kN, m_kNeg, m_If, m_kIft, m_kIff, m_an, m_ac, m_kac, m_kac2, m_Tup, m_Lst, m_kTup, m_CB, m_kCB, m_pk1, m_pp, m_pkk, m_pd, m_pn, m_kX, m_Call, m_kC1, m_kC2, m_BM, m_BM0, m_kM1, m_Seq, m_Seq_nx, m_Seq_rt, m_Seq_bk, m_Seq_ct, m_Seq_ex, m_Next, m_Brk, m_Cont, m_Expr, m_kEx, m_Ret, m_RetN, m_SIf, m_kSIft, m_kSIff, m_Set, m_kSet, m_Par, m_kPar, m_Par3, m_kPar3, m_Asg, m_kAsg, m_gNm, m_kG, m_gNo, m_gMo, m_gTu, m_gSb, m_kGs, m_kGs2, m_kW2, m_Aug, m_kAug, m_kAu, m_kAu2, m_mk1, m_kMk, m_Raise, m_ends_rt, m_ends_ex, m_ends_nx, m_add, m_addB, m_sub, m_eqI, m_eqS, m_neI, m_neS, m_isB, m_isN, m_isNotN, m_nonN, m_nonR, m_nonT, m_nonI, m_nonS, m_nonB, m_lenT, m_lenK, m_tupT, m_max, m_min, m_intI, m_intB, m_pr0, m_pr, m_kpr, m_kpr2, m_Xf, m_Try, m_Try_nx, m_Try_rt, m_Try_bk, m_Try_ct, m_Try_ex, m_Suite_nx, m_Suite_rt, m_Suite_bk, m_Suite_ct, m_kXe, m_kXo, m_tlOf, m_For, m_Loop_nx, m_Loop_ct, m_Loop_bk, m_Loop_rt, m_Loop_ex, m_kB, m_iSeq, m_kItT, m_kItK, m_kItS, m_iRg1, m_iRg2, m_iEnu, m_kEnuK, m_iZp, m_kZpT, m_iRv, m_kRvT, m_Lc, m_kCell, m_kTurnT, m_kTurnF, m_wip0, m_wip1, m_Back, m_kBackT, m_rg1, m_kRgA, m_TupRg, m_LstRg, m_Dc, m_DturnT, m_DturnF, m_kDk, m_kDv, m_SSet, m_iRvR, m_At, m_Fst, m_kFs, m_Meth, m_kMe2, m_kMe3, m_Make, m_kMk1, m_kMade, m_ltI, m_geI, m_geP, m_isNotB, m_Get1, m_Get2, m_kGet2, m_Setd, m_kSd2, m_rg2, m_kRg2a, m_kRg2b, List.getElem?_cons_zero, List.getElem?_cons_succ, List.set_cons_zero, List.set_cons_succ, List.length_cons, List.length_nil, Nat.zero_add, Nat.reduceAdd, Nat.reduceLeDiff, Bool.not_true, Bool.not_false, mb__law_are_links_11, mb__law_are_links_9, mb__law_are_links_7, mb__law_are_links_6, mb__law_are_links_4, mb__law_are_links_3, e22]
          have ki := fun z hz => kd.2 [a, b] rfl (by simp) z hz
          refine r_for (fun j σ G3 => ∃ (o3 : Option Wv), σ = [some (.tup ws), some (.int n), some (.tup [a, b]), o3, none] ∧ (∀ y ∈ [a, b].take j, isWh y 0 (n - 1) = true) ∧ G3 = G2)
            ⟨_, rfl, (fun y hy => by simp at hy), rfl⟩ (fun _ _ _ _ _ => trivial) ?_ ?_
          · rintro j z σ3 G3 ez ⟨o3, rfl, hg2, rfl⟩
            have hz2 := List.mem_of_getElem? ez
            have kz := ki z hz2
            have bad2 : isWh z 0 (n - 1) = false → q (.bl false) G3 := fun e => bad (by
              simp only [List.mem_cons, List.not_mem_nil, or_false] at hz2
              unfold isLk
              dsimp only
              rcases hz2 with rfl | rfl
              · rw [e]; rfl
              · rw [e, Bool.false_and, Bool.and_false])
            have good2 : isWh z 0 (n - 1) = true → ∀ y ∈ [a, b].take (j + 1), isWh y 0 (n - 1) = true := fun e y hy => by
              rw [List.take_succ, ez] at hy
              rcases List.mem_append.mp hy with u | u
              · exact hg2 y u
              · cases Option.mem_toList.mp u; exact e
            walk_at "m__law_are_links"
            refine r_ty kz.b ?_
            cases z with
            | int k =>
              simp only [isBl]
              walk_at "m__law_are_links"
              refine r_ty kz.i ?_
              simp only [isI]
              walk_at "m__law_are_links"
              have e9 : isWh (.int k) 0 (n - 1) = (decide (0 ≤ k) && decide (k < n)) := by
                show (decide (0 ≤ k) && decide (k ≤ n - 1)) = _
                rw [show decide (k ≤ n - 1) = decide (k < n) from decide_eq_decide.mpr (by omega)]
              cases e1 : decide (0 ≤ k) with
              | false =>
                walk_at "m__law_are_links"
                exact bad2 (by rw [e9, e1]; rfl)
              | true =>
                walk_at "m__law_are_links"
                cases e2 : decide (k < n) with
                | false =>
                  walk_at "m__law_are_links"
                  exact bad2 (by rw [e9, e1, e2]; rfl)
                | true =>
                  walk_at "m__law_are_links"
                  exact ⟨_, rfl, good2 (by rw [e9, e1, e2]; rfl), trivial⟩
            | bl k =>
              simp only [isBl]
              walk_at "m__law_are_links"
              exact bad2 rfl
            | _ =>
              simp only [isBl]
              walk_at "m__law_are_links"
              refine r_ty kz.i ?_
              simp only [isI]
              walk_at "m__law_are_links"
              exact bad2 rfl
          · rintro σ3 G3 ⟨o3, rfl, hg2, rfl⟩
            obtain ⟨i1, rfl, _⟩ : ∃ i1, a = .int i1 ∧ True := by
              have := hg2 a (by simp)
              cases a <;> first | exact ⟨_, rfl, trivial⟩ | cases this
            obtain ⟨i2, rfl, _⟩ : ∃ i2, b = .int i2 ∧ True := by
              have := hg2 b (by simp)
              cases b <;> first | exact ⟨_, rfl, trivial⟩ | cases this
            walk_at "m__law_are_links"
            refine r_ixT (y := .int i1) rfl ?_
            walk_at "m__law_are_links"
            refine r_ixT (y := .int i2) rfl ?_
            have h1 := hg2 (.int i1) (by simp)
            have h2 := hg2 (.int i2) (by simp)
            have e9 : isLk (.tup [.int i1, .int i2]) n = !decide (i1 = i2) := by
              unfold isLk
              dsimp only
              rw [h1, h2]
              rfl
            by_cases e : i1 = i2
            · simp only [m_V, m_kV, m_C, m_Op, m_kOp, m_kOp2, m_kBl, m_qOp, m_kCh2, m_kCh2f, m_kCh3, m_kCh1, m_kCh, m_Ch, m_qCh, m_oNone, m_oSome, m_kO, m_Sl, m_kSl, m_kSl1, m_kSl2, m_slT, m_qT, m_kTru, m_tB, m_tN, m_tI, m_tT, m_qA, m_qO, m_qN, m_kqAt, m_kqAf, m_kqOt, m_kqOf, m_kqN, m_qYes, m_A, m_Or, m_N, m_Neg, m_kAt, m_kAf, m_kOrt, m_kOrf, m_kN, m_kNeg, m_If, m_kIft, m_kIff, m_an, m_ac, m_kac, m_kac2, m_Tup, m_Lst, m_kTup, m_CB, m_kCB, m_pk1, m_pp, m_pkk, m_pd, m_pn, m_kX, m_Call, m_kC1, m_kC2, m_BM, m_BM0, m_kM1, m_Seq, m_Seq_nx, m_Seq_rt, m_Seq_bk, m_Seq_ct, m_Seq_ex, m_Next, m_Brk, m_Cont, m_Expr, m_kEx, m_Ret, m_RetN, m_SIf, m_kSIft, m_kSIff, m_Set, m_kSet, m_Par, m_kPar, m_Par3, m_kPar3, m_Asg, m_kAsg, m_gNm, m_kG, m_gNo, m_gMo, m_gTu, m_gSb, m_kGs, m_kGs2, m_kW2, m_Aug, m_kAug, m_kAu, m_kAu2, m_mk1, m_kMk, m_Raise, m_ends_rt, m_ends_ex, m_ends_nx, m_add, m_addB, m_sub, m_eqI, m_eqS, m_neI, m_neS, m_isB, m_isN, m_isNotN, m_nonN, m_nonR, m_nonT, m_nonI, m_nonS, m_nonB, m_lenT, m_lenK, m_tupT, m_max, m_min, m_intI, m_intB, m_pr0, m_pr, m_kpr, m_kpr2, m_Xf, m_Try, m_Try_nx, m_Try_rt, m_Try_bk, m_Try_ct, m_Try_ex, m_Suite_nx, m_Suite_rt, m_Suite_bk, m_Suite_ct, m_kXe, m_kXo, m_tlOf, m_For, m_Loop_nx, m_Loop_ct, m_Loop_bk, m_Loop_rt, m_Loop_ex, m_kB, m_iSeq, m_kItT, m_kItK, m_kItS, m_iRg1, m_iRg2, m_iEnu, m_kEnuK, m_iZp, m_kZpT, m_iRv, m_kRvT, m_Lc, m_kCell, m_kTurnT, m_kTurnF, m_wip0, m_wip1, m_Back, m_kBackT, m_rg1, m_kRgA, m_TupRg, m_LstRg, m_Dc, m_DturnT, m_DturnF, m_kDk, m_kDv, m_SSet, m_iRvR, m_At, m_Fst, m_kFs, m_Meth, m_kMe2, m_kMe3, m_Make, m_kMk1, m_kMade, m_ltI, m_geI, m_geP, m_isNotB, m_Get1, m_Get2, m_kGet2, m_Setd, m_kSd2, m_rg2, m_kRg2a, m_kRg2b, List.getElem?_cons_zero, List.getElem?_cons_succ, List.set_cons_zero, List.set_cons_succ, List.length_cons, List.length_nil, Nat.zero_add, Nat.reduceAdd, Nat.reduceLeDiff, Bool.not_true, Bool.not_false, mb__law_are_links_11, mb__law_are_links_9, mb__law_are_links_7, mb__law_are_links_6, mb__law_are_links_4, mb__law_are_links_3, e, decide_true]
              exact bad (by rw [e9, decide_eq_true e]; rfl)
            · simp only [m_V, m_kV, m_C, m_Op, m_kOp, m_kOp2, m_kBl, m_qOp, m_kCh2, m_kCh2f, m_kCh3, m_kCh1, m_kCh, m_Ch, m_qCh, m_oNone, m_oSome, m_kO, m_Sl, m_kSl, m_kSl1, m_kSl2, m_slT, m_qT, m_kTru, m_tB, m_tN, m_tI, m_tT, m_qA, m_qO, m_qN, m_kqAt, m_kqAf, m_kqOt, m_kqOf, m_kqN, m_qYes, m_A, m_Or, m_N, m_Neg, m_kAt, m_kAf, m_kOrt, m_kOrf, m_kN, m_kNeg, m_If, m_kIft, m_kIff, m_an, m_ac, m_kac, m_kac2, m_Tup, m_Lst, m_kTup, m_CB, m_kCB, m_pk1, m_pp, m_pkk, m_pd, m_pn, m_kX, m_Call, m_kC1, m_kC2, m_BM, m_BM0, m_kM1, m_Seq, m_Seq_nx, m_Seq_rt, m_Seq_bk, m_Seq_ct, m_Seq_ex, m_Next, m_Brk, m_Cont, m_Expr, m_kEx, m_Ret, m_RetN, m_SIf, m_kSIft, m_kSIff, m_Set, m_kSet, m_Par, m_kPar, m_Par3, m_kPar3, m_Asg, m_kAsg, m_gNm, m_kG, m_gNo, m_gMo, m_gTu, m_gSb, m_kGs, m_kGs2, m_kW2, m_Aug, m_kAug, m_kAu, m_kAu2, m_mk1, m_kMk, m_Raise, m_ends_rt, m_ends_ex, m_ends_nx, m_add, m_addB, m_sub, m_eqI, m_eqS, m_neI, m_neS, m_isB, m_isN, m_isNotN, m_nonN, m_nonR, m_nonT, m_nonI, m_nonS, m_nonB, m_lenT, m_lenK, m_tupT, m_max, m_min, m_intI, m_intB, m_pr0, m_pr, m_kpr, m_kpr2, m_Xf, m_Try, m_Try_nx, m_Try_rt, m_Try_bk, m_Try_ct, m_Try_ex, m_Suite_nx, m_Suite_rt, m_Suite_bk, m_Suite_ct, m_kXe, m_kXo, m_tlOf, m_For, m_Loop_nx, m_Loop_ct, m_Loop_bk, m_Loop_rt, m_Loop_ex, m_kB, m_iSeq, m_kItT, m_kItK, m_kItS, m_iRg1, m_iRg2, m_iEnu, m_kEnuK, m_iZp, m_kZpT, m_iRv, m_kRvT, m_Lc, m_kCell, m_kTurnT, m_kTurnF, m_wip0, m_wip1, m_Back, m_kBackT, m_rg1, m_kRgA, m_TupRg, m_LstRg, m_Dc, m_DturnT, m_DturnF, m_kDk, m_kDv, m_SSet, m_iRvR, m_At, m_Fst, m_kFs, m_Meth, m_kMe2, m_kMe3, m_Make, m_kMk1, m_kMade, m_ltI, m_geI, m_geP, m_isNotB, m_Get1, m_Get2, m_kGet2, m_Setd, m_kSd2, m_rg2, m_kRg2a, m_kRg2b, List.getElem?_cons_zero, List.getElem?_cons_succ, List.set_cons_zero, List.set_cons_succ, List.length_cons, List.length_nil, Nat.zero_add, Nat.reduceAdd, Nat.reduceLeDiff, Bool.not_true, Bool.not_false, mb__law_are_links_11, mb__law_are_links_9, mb__law_are_links_7, mb__law_are_links_6, mb__law_are_links_4, mb__law_are_links_3, e, decide_false]
              refine ⟨_, _, rfl, fun y hy => ?_, ex⟩
              rw [List.take_succ, ey] at hy
              rcases List.mem_append.mp hy with u | u
              · exact hg y u
              · cases Option.mem_toList.mp u
                rw [e9, decide_eq_false e]
                rfl
        · simp only [m_V, m_kV, m_C, m_Op, m_kOp, m_kOp2, m_kBl, m_qOp, m_kCh2, m_kCh2f, m_kCh3, m_kCh1, m_kCh, m_Ch, m_qCh, m_oNone, m_oSome, m_kO, m_Sl, m_kSl, m_kSl1, m_kSl2, m_slT, m_qT, m_kTru, m_tB, m_tN, m_tI, m_tT, m_qA, m_qO, m_qN, m_kqAt, m_kqAf, m_kqOt, m_kqOf, m_kqN, m_qYes, m_A, m_Or, m_N, m_Neg, m_kAt, m_kAf, m_kOrt, m_kOrf, m_kN, m_kNeg, m_If, m_kIft, m_kIff, m_an, m_ac, m_kac, m_kac2, m_Tup, m_Lst, m_kTup, m_CB, m_kCB, m_pk1, m_pp, m_pkk, m_pd, m_pn, m_kX, m_Call, m_kC1, m_kC2, m_BM, m_BM0, m_kM1, m_Seq, m_Seq_nx, m_Seq_rt, m_Seq_bk, m_Seq_ct, m_Seq_ex, m_Next, m_Brk, m_Cont, m_Expr, m_kEx, m_Ret, m_RetN, m_SIf, m_kSIft, m_kSIff, m_Set, m_kSet, m_Par, m_kPar, m_Par3, m_kPar3, m_Asg, m_kAsg, m_gNm, m_kG, m_gNo, m_gMo, m_gTu, m_gSb, m_kGs, m_kGs2, m_kW2, m_Aug, m_kAug, m_kAu, m_kAu2, m_mk1, m_kMk, m_Raise, m_ends_rt, m_ends_ex, m_ends_nx, m_add, m_addB, m_sub, m_eqI, m_eqS, m_neI, m_neS, m_isB, m_isN, m_isNotN, m_nonN, m_nonR, m_nonT, m_nonI, m_nonS, m_nonB, m_lenT, m_lenK, m_tupT, m_max, m_min, m_intI, m_intB, m_pr0, m_pr, m_kpr, m_kpr2, m_Xf, m_Try, m_Try_nx, m_Try_rt, m_Try_bk, m_Try_ct, m_Try_ex, m_Suite_nx, m_Suite_rt, m_Suite_bk, m_Suite_ct, m_kXe, m_kXo, m_tlOf, m_For, m_Loop_nx, m_Loop_ct, m_Loop_bk, m_Loop_rt, m_Loop_ex, m_kB, m_iSeq, m_kItT, m_kItK, m_kItS, m_iRg1, m_iRg2, m_iEnu, m_kEnuK, m_iZp, m_kZpT, m_iRv, m_kRvT, m_Lc, m_kCell, m_kTurnT, m_kTurnF, m_wip0, m_wip1, m_Back, m_kBackT, m_rg1, m_kRgA, m_TupRg, m_LstRg, m_Dc, m_DturnT, m_DturnF, m_kDk, m_kDv, m_SSet, m_iRvR, m_At, m_Fst, m_kFs, m_Meth, m_kMe2, m_kMe3, m_Make, m_kMk1, m_kMade, m_ltI, m_geI, m_geP, m_isNotB, m_Get1, m_Get2, m_kGet2, m_Setd, m_kSd2, m_rg2, m_kRg2a, m_kRg2b, List.getElem?_cons_zero, List.getElem?_cons_succ, List.set_cons_zero, List.set_cons_succ, List.length_cons, List.length_nil, Nat.zero_add, Nat.reduceAdd, Nat.reduceLeDiff, Bool.not_true, Bool.not_false, mb__law_are_links_11, mb__law_are_links_9, mb__law_are_links_7, mb__law_are_links_6, mb__law_are_links_4, mb__law_are_links_3, e0, decide_false]
          exact bad (lk_long e0)
      | _ =>
        simp only [isTp]
        walk_at "m__law_are_links"
        exact bad rfl
    · rintro σ2 G2 ⟨o2, o3, rfl, hg, ex⟩
      rw [List.take_length] at hg
      obtain ⟨L, rfl, hL⟩ := lks_pairs hg
      rw [List.length_map] at hl
      have eq9 : isLks (.tup (L.map tup2)) n = risesT (L.map tup2) := by
        show ((L.map tup2).all (isLk · n) && risesT (L.map tup2)) = _
        rw [List.all_eq_true.mpr hg]
        rfl
      rw [eq9] at hq
      walk_at "m__law_are_links"
      rw [List.length_map]
      refine r_rg2 (by omega) ?_
      refine r_lcF (geF L) (fun w => w) (by rw [rgW_len, sizeLine_eq]; omega) (fun _ _ => trivial) (fun i w G' k ew ex hk => ?_) fun D2 G3 hD2 ex3 eD2 => ?_
      · obtain ⟨hi, rfl⟩ := rg_at ew
        refine ⟨_, rfl, ?_⟩
        have hk := hk G' Ext.refl
        have h1 : L[i]? = some L[i] := List.getElem?_eq_getElem (by omega)
        have h2 : L[i + 1]? = some L[i + 1] := List.getElem?_eq_getElem (by omega)
        have eg : geF L (.int (1 + (i : Int) * 1)) = gePair L[i] L[i + 1] := by
          show (match L[(1 + (i : Int) * 1 - 1).toNat]?, L[(1 + (i : Int) * 1).toNat]? with
            | some a, some b => gePair a b
            | _, _ => false) = _
          rw [show (1 + (i : Int) * 1 - 1).toNat = i by omega, show (1 + (i : Int) * 1).toNat = i + 1 by omega, h1, h2]
        rw [eg] at hk
        walk_at "m__law_are_links"
        refine r_ixT (y := tup2 L[i]) (by rw [show (1 + (i : Int) * 1 - 1) = ((i : Nat) : Int) by omega]; exact atI_n (by rw [List.getElem?_map, h1]; rfl)) ?_
        walk_at "m__law_are_links"
        refine r_ixT (y := tup2 L[i + 1]) (by rw [show (1 + (i : Int) * 1) = ((i + 1 : Nat) : Int) by omega]; exact atI_n (by rw [List.getElem?_map, h2]; rfl)) ?_
        unfold tup2
        walk_at "m__law_are_links"
        cases e : gePair (L[i].1, L[i].2) (L[i + 1].1, L[i + 1].2) <;> rw [e] at hk <;> walk_at "m__law_are_links" <;> exact hk
      rw [List.map_id'] at eD2
      obtain ⟨ks, ek⟩ := rg_filt (geF L) ((L.length : Int) - 1).toNat
      have nn := geF_none L
      rw [ek] at eD2 nn
      walk_at "m__law_are_links"
      refine r_lst' fun l2 hl2 => ?_
      have x2 := Ext.new (o := .lst []) hl2
      have er : decide (ks = []) = risesT (L.map tup2) := by
        rw [Bool.eq_iff_iff, decide_eq_true_iff, risesT_pairs, ← nn, List.map_eq_nil_iff]
      exact r_eq (k := decide (ks = [])) (.lst (.inl (x2 _ _ eD2)) (dts_ints _)) (.lst (.inl updO_same) .nil) (shaped_intsL _) (shaped_intsL []) (by rw [PyData.eqv]; exact eqvAll_ints _ []) (by rw [er]; exact hq _ ((ex.trans ex3).trans x2))
  | _ =>
    simp only [isTp]
    walk_at "m__law_are_links"
    exact hq G Ext.refl
set_option maxHeartbeats 0 in
theorem ok__law_are_links {P : Program} {w : World} {K : PySem.W.Frag} {mg : Str → Option Value} {base : Heap} (T : Txt K mg) : FnW P w K mg base 1 T.f__law_are_links T.fd__law_are_links ["_law_thing", "_law_size"] (sp__law_are_links T) :=
  fnW_of (t := t__law_are_links T) T.F__law_are_links sc__law_are_links (len__law_are_links T) (fun cdv A outer s H E hr => (zs_cons (z_if (z_qnot (z_q (z_callB w_isi rfl T.n_isinstance boot_isinstance (z_acons (z_var (i := 0) rfl (by first | exact .inl rfl | exact .inr (.inl rfl) | exact .inr (.inr rfl))) (z_acons (z_bty rfl T.n_tuple boot_tuple) (z_anil)))))) (zs_one (z_ret (z_bl))) (zs_nil)) (zs_cons (z_for (passes_of rfl) rfl (zi_seq (z_var (i := 0) rfl (by first | exact .inl rfl | exact .inr (.inl rfl) | exact .inr (.inr rfl)))) (zg_name (i := 2) sc__law_are_links.nd rfl (by first | exact .inl rfl | exact .inr rfl)) (zs_cons (z_if (z_bool (z_or (z_qnot (z_q (z_callB w_isi rfl T.n_isinstance boot_isinstance (z_acons (z_var (i := 2) rfl (by first | exact .inl rfl | exact .inr (.inl rfl) | exact .inr (.inr rfl))) (z_acons (z_bty rfl T.n_tuple boot_tuple) (z_anil)))))) (z_or1 (z_qcmp (w_ne (hr).un) (z_callB w_len rfl T.n_len boot_len (z_acons (z_var (i := 2) rfl (by first | exact .inl rfl | exact .inr (.inl rfl) | exact .inr (.inr rfl))) (z_anil))) (z_int) (by rfl))))) (zs_one (z_ret (z_bl))) (zs_nil)) (zs_cons (z_for (passes_of rfl) rfl (zi_seq (z_var (i := 2) rfl (by first | exact .inl rfl | exact .inr (.inl rfl) | exact .inr (.inr rfl)))) (zg_name (i := 3) sc__law_are_links.nd rfl (by first | exact .inl rfl | exact .inr rfl)) (zs_one (z_if (z_bool (z_or (z_q (z_callB w_isi rfl T.n_isinstance boot_isinstance (z_acons (z_var (i := 3) rfl (by first | exact .inl rfl | exact .inr (.inl rfl) | exact .inr (.inr rfl))) (z_acons (z_bty rfl T.n_bool boot_bool) (z_anil))))) (z_or (z_qnot (z_q (z_callB w_isi rfl T.n_isinstance boot_isinstance (z_acons (z_var (i := 3) rfl (by first | exact .inl rfl | exact .inr (.inl rfl) | exact .inr (.inr rfl))) (z_acons (z_bty rfl T.n_int boot_int) (z_anil)))))) (z_or1 (z_qnot (z_qchain w_le (w_ltA (hr).un) (z_int) (z_var (i := 3) rfl (by first | exact .inl rfl | exact .inr (.inl rfl) | exact .inr (.inr rfl))) (z_var (i := 1) rfl (by first | exact .inl rfl | exact .inr (.inl rfl) | exact .inr (.inr rfl))))))))) (zs_one (z_ret (z_bl))) (zs_nil)))) (zs_one (z_if (z_qcmp (w_eq (hr).un) (z_ix (hr).un (z_var (i := 2) rfl (by first | exact .inl rfl | exact .inr (.inl rfl) | exact .inr (.inr rfl))) (z_int) (fun _ _ => rfl)) (z_ix (hr).un (z_var (i := 2) rfl (by first | exact .inl rfl | exact .inr (.inl rfl) | exact .inr (.inr rfl))) (z_int) (fun _ _ => rfl)) (by rfl)) (zs_one (z_ret (z_bl))) (zs_nil)))))) (zs_one (z_ret (z_cmp (w_eq (hr).un) (z_lc (is := [4]) (own := [("_law_k", 4)]) rfl sc__law_are_links.nd (zi_range2 rfl T.n_range (z_acons (z_int) (z_acons (z_callB w_len rfl T.n_len boot_len (z_acons (z_var (i := 0) rfl (by first | exact .inl rfl | exact .inr (.inl rfl) | exact .inr (.inr rfl))) (z_anil))) (z_anil)))) (blkOk_by rfl) (fun _ _ _ _ _ => pg_name sc__law_are_links.nd rfl (by first | exact .inl rfl | exact .inr rfl)) (fun _ _ _ _ _ => zq_one (z_qcmp (w_geA (hr).un) (z_ix (hr).un (z_var (i := 0) rfl (by first | exact .inl rfl | exact .inr (.inl rfl) | exact .inr (.inr rfl))) (z_bin w_sub (z_var (i := 4) rfl (by first | exact .inl rfl | exact .inr (.inl rfl) | exact .inr (.inr rfl))) (z_int)) (fun _ _ => rfl)) (z_ix (hr).un (z_var (i := 0) rfl (by first | exact .inl rfl | exact .inr (.inl rfl) | exact .inr (.inr rfl))) (z_var (i := 4) rfl (by first | exact .inl rfl | exact .inr (.inl rfl) | exact .inr (.inr rfl))) (fun _ _ => rfl)) (by rfl))) (fun _ _ _ _ _ => z_var (i := 4) rfl (by first | exact .inl rfl | exact .inr (.inl rfl) | exact .inr (.inr rfl))) (by decide)) (z_lst (z_anil)) (by rfl))))))) (pf__law_are_links T)

/-! ### _law_spoilt -/
theorem sc__law_spoilt : FnScope ["_law_m", "_law_links_here", "_law_some_here"] ["_law_m", "_law_links_here"] (defScope s__law_spoilt) := ⟨rfl, rfl, rfl, by decide +kernel, rfl, by decide +kernel, by decide +kernel⟩
theorem knl_of {K : PySem.W.Frag} {G : HW} {ws : List Wv} (h : ∀ y ∈ ws, KnD K G 2 y) (l : ws.length ≤ 100000) : KnL K G (.tup ws) := ⟨kn_tup, fun ws' e => by cases e; exact ⟨l, h⟩⟩
theorem knd_pairs {K : PySem.W.Frag} {G : HW} {L : Lk} : ∀ y ∈ L.map tup2, KnD K G 2 y := fun y hy => by
  obtain ⟨p, _, rfl⟩ := List.mem_map.mp hy
  exact knD_tup fun z hz => by
    simp only [List.mem_cons, List.not_mem_nil, or_false] at hz
    rcases hz with rfl | rfl <;> exact kn_int
theorem knd_int {K : PySem.W.Frag} {G : HW} {ns : List Wv} (h : ∀ z ∈ ns, Kn K G z) : ∀ y ∈ [Wv.tup ns], KnD K G 2 y := fun y hy => by
  cases List.mem_singleton.mp hy
  exact knD_tup h
theorem knd_app {K : PySem.W.Frag} {G : HW} {us vs : List Wv} (h1 : ∀ y ∈ us, KnD K G 2 y) (h2 : ∀ y ∈ vs, KnD K G 2 y) : ∀ y ∈ us ++ vs, KnD K G 2 y := fun y hy => (List.mem_append.mp hy).elim (h1 y) (h2 y)
def sp__law_spoilt {K : PySem.W.Frag} {mg : Str → Option Value} (T : Txt K mg) : SpW := fun ws G q _ => ∃ m a b, ∃ L : Lk, ∃ n : Nat, ws = [.ref m, .tup (L.map tup2)] ∧ L.length ≤ 400 ∧ DSt G m a b (n + 1) ∧ ∀ w G', (∀ G2, Kp [m, b] G' G2 → KnL K G2 w) → Kp [m, b] G G' → DSt G' m a b n → q w G'
theorem len__law_spoilt {K : PySem.W.Frag} {mg : Str → Option Value} (T : Txt K mg) (ws : List Wv) (G : HW) (q : WK) (x : XE) (h : sp__law_spoilt T ws G q x) : ws.length = 2 := by
  obtain ⟨m, a, b, L, n, rfl, _⟩ := h
  rfl
def b__law_spoilt_4 {K : PySem.W.Frag} {mg : Str → Option Value} (T : Txt K mg) : ST := sRet (eOp wIx (eV 2) (eCall 2 0 [.p 0, .p 1] [] (sp__law_draw T) (aCons (eV 0) (aCons (eC (.int 18)) (aNil))) aNil))
theorem mb__law_spoilt_4 {K : PySem.W.Frag} {mg : Str → Option Value} (T : Txt K mg) (D : EndsW) (σ : SW) (G : HW) : b__law_spoilt_4 T D σ G = (sRet (eOp wIx (eV 2) (eCall 2 0 [.p 0, .p 1] [] (sp__law_draw T) (aCons (eV 0) (aCons (eC (.int 18)) (aNil))) aNil))) D σ G := rfl
def b__law_spoilt_3 {K : PySem.W.Frag} {mg : Str → Option Value} (T : Txt K mg) : ST := sSeq (sExpr (eBM "list" wAppend (eV 2) (aCons (eTup (aCons (eTup (aCons (eC (.int 119)) (aCons (eC (.int 118)) (aNil)))) (aNil))) (aNil)))) (b__law_spoilt_4 T)
theorem mb__law_spoilt_3 {K : PySem.W.Frag} {mg : Str → Option Value} (T : Txt K mg) (D : EndsW) (σ : SW) (G : HW) : b__law_spoilt_3 T D σ G = (sSeq (sExpr (eBM "list" wAppend (eV 2) (aCons (eTup (aCons (eTup (aCons (eC (.int 119)) (aCons (eC (.int 118)) (aNil)))) (aNil))) (aNil)))) (b__law_spoilt_4 T)) D σ G := rfl
def b__law_spoilt_2 {K : PySem.W.Frag} {mg : Str → Option Value} (T : Txt K mg) : ST := sSeq (sSet 2 (eOp wAdd (eV 2) (eLst (aCons (eC (.int 5)) (aCons (eC (.str "")) (aCons (eTup (aCons (eTup (aCons (eC (.int 0)) (aCons (eC (.int 120)) (aNil)))) (aNil))) (aCons (eTup (aCons (eTup (aCons (eC (.int 0)) (aCons (eNeg (eC (.int 1))) (aNil)))) (aNil))) (aCons (eTup (aCons (eLst (aCons (eC (.int 1)) (aCons (eC (.int 0)) (aNil)))) (aNil))) (aCons (eTup (aCons (eTup (aCons (eC (.int 1)) (aCons (eC (.int 0)) (aCons (eC (.int 2)) (aNil))))) (aNil))) (aCons (eTup (aCons (eTup (aCons (eC (.int 1)) (aNil))) (aNil))) (aCons (eTup (aCons (eC (.str "10")) (aNil))) (aCons (eDnew) (aCons (eTup (aCons (eTup (aCons (eC (.int 1)) (aCons (eC .non) (aNil)))) (aNil))) (aNil)))))))))))))) (b__law_spoilt_3 T)
theorem mb__law_spoilt_2 {K : PySem.W.Frag} {mg : Str → Option Value} (T : Txt K mg) (D : EndsW) (σ : SW) (G : HW) : b__law_spoilt_2 T D σ G = (sSeq (sSet 2 (eOp wAdd (eV 2) (eLst (aCons (eC (.int 5)) (aCons (eC (.str "")) (aCons (eTup (aCons (eTup (aCons (eC (.int 0)) (aCons (eC (.int 120)) (aNil)))) (aNil))) (aCons (eTup (aCons (eTup (aCons (eC (.int 0)) (aCons (eNeg (eC (.int 1))) (aNil)))) (aNil))) (aCons (eTup (aCons (eLst (aCons (eC (.int 1)) (aCons (eC (.int 0)) (aNil)))) (aNil))) (aCons (eTup (aCons (eTup (aCons (eC (.int 1)) (aCons (eC (.int 0)) (aCons (eC (.int 2)) (aNil))))) (aNil))) (aCons (eTup (aCons (eTup (aCons (eC (.int 1)) (aNil))) (aNil))) (aCons (eTup (aCons (eC (.str "10")) (aNil))) (aCons (eDnew) (aCons (eTup (aCons (eTup (aCons (eC (.int 1)) (aCons (eC .non) (aNil)))) (aNil))) (aNil)))))))))))))) (b__law_spoilt_3 T)) D σ G := rfl
def t__law_spoilt {K : PySem.W.Frag} {mg : Str → Option Value} (T : Txt K mg) : ST := sSeq (sSet 2 (eLst (aCons (eCB wList (aCons (eV 1) (aNil))) (aCons (eOp wAdd (eV 1) (eTup (aCons (eTup (aCons (eC (.int 0)) (aCons (eC (.int 0)) (aNil)))) (aNil)))) (aCons (eOp wAdd (eV 1) (eTup (aCons (eTup (aCons (eC (.int 1)) (aCons (eC (.int 0)) (aNil)))) (aNil)))) (aCons (eBack (eV 1)) (aCons (eOp wAdd (eV 1) (eSl (eV 1) (oSome (eNeg (eC (.int 1)))) (oNone))) (aCons (eTup (aCons (eTup (aCons (eC (.bl true)) (aCons (eC (.int 0)) (aNil)))) (aNil))) (aCons (eC .non) (aNil)))))))))) (b__law_spoilt_2 T)
local macro_rules | `(tactic| walk_at "m__law_spoilt") => `(tactic| simp only [m_V, m_kV, m_C, m_Op, m_kOp, m_kOp2, m_kBl, m_qOp, m_kCh2, m_kCh2f, m_kCh3, m_kCh1, m_kCh, m_Ch, m_qCh, m_oNone, m_oSome, m_kO, m_Sl, m_kSl, m_kSl1, m_kSl2, m_slT, m_qT, m_kTru, m_tB, m_tN, m_tI, m_tT, m_qA, m_qO, m_qN, m_kqAt, m_kqAf, m_kqOt, m_kqOf, m_kqN, m_qYes, m_A, m_Or, m_N, m_Neg, m_kAt, m_kAf, m_kOrt, m_kOrf, m_kN, m_kNeg, m_If, m_kIft, m_kIff, m_an, m_ac, m_kac, m_kac2, m_Tup, m_Lst, m_kTup, m_CB, m_kCB, m_pk1, m_pp, m_pkk, m_pd, m_pn, m_kX, m_Call, m_kC1, m_kC2, m_BM, m_BM0, m_kM1, m_Seq, m_Seq_nx, m_Seq_rt, m_Seq_bk, m_Seq_ct, m_Seq_ex, m_Next, m_Brk, m_Cont, m_Expr, m_kEx, m_Ret, m_RetN, m_SIf, m_kSIft, m_kSIff, m_Set, m_kSet, m_Par, m_kPar, m_Par3, m_kPar3, m_Asg, m_kAsg, m_gNm, m_kG, m_gNo, m_gMo, m_gTu, m_gSb, m_kGs, m_kGs2, m_kW2, m_Aug, m_kAug, m_kAu, m_kAu2, m_mk1, m_kMk, m_Raise, m_ends_rt, m_ends_ex, m_ends_nx, m_add, m_addB, m_sub, m_eqI, m_eqS, m_neI, m_neS, m_isB, m_isN, m_isNotN, m_nonN, m_nonR, m_nonT, m_nonI, m_nonS, m_nonB, m_lenT, m_lenK, m_tupT, m_max, m_min, m_intI, m_intB, m_pr0, m_pr, m_kpr, m_kpr2, m_Xf, m_Try, m_Try_nx, m_Try_rt, m_Try_bk, m_Try_ct, m_Try_ex, m_Suite_nx, m_Suite_rt, m_Suite_bk, m_Suite_ct, m_kXe, m_kXo, m_tlOf, m_For, m_Loop_nx, m_Loop_ct, m_Loop_bk, m_Loop_rt, m_Loop_ex, m_kB, m_iSeq, m_kItT, m_kItK, m_kItS, m_iRg1, m_iRg2, m_iEnu, m_kEnuK, m_iZp, m_kZpT, m_iRv, m_kRvT, m_Lc, m_kCell, m_kTurnT, m_kTurnF, m_wip0, m_wip1, m_Back, m_kBackT, m_rg1, m_kRgA, m_TupRg, m_LstRg, m_Dc, m_DturnT, m_DturnF, m_kDk, m_kDv, m_SSet, m_iRvR, m_At, m_Fst, m_kFs, m_Meth, m_kMe2, m_kMe3, m_Make, m_kMk1, m_kMade, m_ltI, m_geI, m_geP, m_isNotB, m_Get1, m_Get2, m_kGet2, m_Setd, m_kSd2, m_rg2, m_kRg2a, m_kRg2b, List.getElem?_cons_zero, List.getElem?_cons_succ, List.set_cons_zero, List.set_cons_succ, List.length_cons, List.length_nil, Nat.zero_add, Nat.reduceAdd, Nat.reduceLeDiff, Bool.not_true, Bool.not_false, mb__law_spoilt_4, mb__law_spoilt_3, mb__law_spoilt_2])
theorem pf__law_spoilt {K : PySem.W.Frag} {mg : Str → Option Value} (T : Txt K mg) (ws : List Wv) (G : HW) (q : WK) (x : XE) (h : sp__law_spoilt T ws G q x) : t__law_spoilt T (endsW q x) (startW ["_law_m", "_law_links_here", "_law_some_here"] ws) G := by
  obtain ⟨m, a, b, L, n, rfl, hl, st, hq⟩ := h
  have un : ∀ {G : HW} {l : Addr} {k : Nat}, DSt G m a b k → G l = none → l ∉ [m, b] ∧ l ≠ m ∧ l ≠ a ∧ l ≠ b := fun ⟨k, c, lf, h1, h2, _, h4, _⟩ hl => ⟨by simp [(ne_of_new h1 hl).symm, (ne_of_new h4 hl).symm], (ne_of_new h1 hl).symm, (ne_of_new h2 hl).symm, (ne_of_new h4 hl).symm⟩
  show t__law_spoilt T (endsW q x) [some (.ref m), some (.tup (L.map tup2)), none] G
  unfold t__law_spoilt
  walk_at "m__law_spoilt"
  refine r_listT fun l0 h0 => ?_
  have x0 := Ext.new (o := .lst (L.map tup2)) h0
  walk_at "m__law_spoilt"
  refine r_addT (by rw [List.length_map, sizeLine_eq]; simp; omega) ?_
  walk_at "m__law_spoilt"
  refine r_addT (by rw [List.length_map, sizeLine_eq]; simp; omega) ?_
  walk_at "m__law_spoilt"
  refine r_addT (by have := cutL_len (L.map tup2) (some (-1)) none; rw [List.length_map] at this; rw [List.length_map, sizeLine_eq]; omega) ?_
  walk_at "m__law_spoilt"
  refine r_lst' fun l1 h1 => ?_
  have x1 := Ext.new (o := .lst [.ref l0, .tup (L.map tup2 ++ [.tup [.int 0, .int 0]]), .tup (L.map tup2 ++ [.tup [.int 1, .int 0]]), .tup (L.map tup2).reverse, .tup (L.map tup2 ++ cutL (L.map tup2) (some (-1)) none), .tup [.tup [.bl true, .int 0]], .non]) h1
  walk_at "m__law_spoilt"
  refine r_lst' fun l2 h2 => ?_
  have x2 := Ext.new (o := .lst [.int 1, .int 0]) h2
  walk_at "m__law_spoilt"
  refine r_dnew fun l3 h3 => ?_
  have x3 := Ext.new (o := .dct []) h3
  walk_at "m__law_spoilt"
  refine r_lst' fun l4 h4 => ?_
  have x4 := Ext.new (o := .lst [.int 5, .str "", .tup [.tup [.int 0, .int 120]], .tup [.tup [.int 0, .int (-1)]], .tup [.ref l2], .tup [.tup [.int 1, .int 0, .int 2]], .tup [.tup [.int 1]], .tup [.str "10"], .ref l3, .tup [.tup [.int 1, .non]]]) h4
  walk_at "m__law_spoilt"
  refine r_addL (x4 _ _ (x3 _ _ (x2 _ _ updO_same))) updO_same (by rw [sizeLine_eq]; exact Nat.le_of_ble_eq_true rfl) fun l5 h5 => ?_
  walk_at "m__law_spoilt"
  refine r_M (.inl ⟨rfl, _, .inl updO_same⟩) ?_
  walk_at "m__law_spoilt"
  refine r_app updO_same (by rw [sizeLine_eq]; exact Nat.le_of_ble_eq_true rfl) ?_
  have x5 := (Ext.new (o := .lst ([.ref l0, .tup (L.map tup2 ++ [.tup [.int 0, .int 0]]), .tup (L.map tup2 ++ [.tup [.int 1, .int 0]]), .tup (L.map tup2).reverse, .tup (L.map tup2 ++ cutL (L.map tup2) (some (-1)) none), .tup [.tup [.bl true, .int 0]], .non] ++ [.int 5, .str "", .tup [.tup [.int 0, .int 120]], .tup [.tup [.int 0, .int (-1)]], .tup [.ref l2], .tup [.tup [.int 1, .int 0, .int 2]], .tup [.tup [.int 1]], .tup [.str "10"], .ref l3, .tup [.tup [.int 1, .non]]])) h5).put
    (o := .lst ([.ref l0, .tup (L.map tup2 ++ [.tup [.int 0, .int 0]]), .tup (L.map tup2 ++ [.tup [.int 1, .int 0]]), .tup (L.map tup2).reverse, .tup (L.map tup2 ++ cutL (L.map tup2) (some (-1)) none), .tup [.tup [.bl true, .int 0]], .non] ++ [.int 5, .str "", .tup [.tup [.int 0, .int 120]], .tup [.tup [.int 0, .int (-1)]], .tup [.ref l2], .tup [.tup [.int 1, .int 0, .int 2]], .tup [.tup [.int 1]], .tup [.str "10"], .ref l3, .tup [.tup [.int 1, .non]]] ++ [.tup [.tup [.int 119, .int 118]]])) h5
  have x15 := ((((x1.trans x2).trans x3).trans x4).trans x5)
  have x05 := x0.trans x15
  have f0 := x15 _ _ updO_same
  have f2 := ((x3.trans x4).trans x5) _ _ updO_same
  have f3 := (x4.trans x5) _ _ updO_same
  have n0 := (un st h0).1
  have n2 := (un ((st.ext x0).ext x1) h2).1
  have n3 := (un (((st.ext x0).ext x1).ext x2) h3).1
  have n5 := (un (((((st.ext x0).ext x1).ext x2).ext x3).ext x4) h5).1
  walk_at "m__law_spoilt"
  refine ⟨m, a, b, 18, n, rfl, by omega, by omega, st.ext x05, fun r G7 r0 r1 kp7 st7 => ?_⟩
  walk_at "m__law_spoilt"
  obtain ⟨w, hm, hw⟩ := at_some (us := [Wv.ref l0, .tup (L.map tup2 ++ [.tup [.int 0, .int 0]]), .tup (L.map tup2 ++ [.tup [.int 1, .int 0]]), .tup (L.map tup2).reverse, .tup (L.map tup2 ++ cutL (L.map tup2) (some (-1)) none), .tup [.tup [.bl true, .int 0]], .non] ++ [.int 5, .str "", .tup [.tup [.int 0, .int 120]], .tup [.tup [.int 0, .int (-1)]], .tup [.ref l2], .tup [.tup [.int 1, .int 0, .int 2]], .tup [.tup [.int 1]], .tup [.str "10"], .ref l3, .tup [.tup [.int 1, .non]]] ++ [.tup [.tup [.int 119, .int 118]]]) r0 (by simp only [List.cons_append, List.nil_append, List.length_cons, List.length_nil]; omega)
  refine r_ixL (.inl (kp7 _ _ n5 updO_same)) hw ?_
  refine hq w G7 (fun G8 kp8 => ?_) (x05.kp.trans kp7) st7
  have cl := cutL_len (L.map tup2) (some (-1)) none
  rw [List.length_map] at cl
  simp only [List.cons_append, List.nil_append, List.mem_cons, List.not_mem_nil, or_false] at hm
  rcases hm with rfl | rfl | rfl | rfl | rfl | rfl | rfl | rfl | rfl | rfl | rfl | rfl | rfl | rfl | rfl | rfl | rfl | rfl
  · exact knL_no (kn_lst (kp8 _ _ n0 (kp7 _ _ n0 f0))) rfl
  · exact knl_of (knd_app knd_pairs (knd_int fun z hz => by simp only [List.mem_cons, List.not_mem_nil, or_false] at hz; rcases hz with rfl | rfl <;> exact kn_int)) (by rw [List.length_append, List.length_map]; simp; omega)
  · exact knl_of (knd_app knd_pairs (knd_int fun z hz => by simp only [List.mem_cons, List.not_mem_nil, or_false] at hz; rcases hz with rfl | rfl <;> exact kn_int)) (by rw [List.length_append, List.length_map]; simp; omega)
  · exact knl_of (fun y hy => knd_pairs y (List.mem_reverse.mp hy)) (by rw [List.length_reverse, List.length_map]; omega)
  · exact knl_of (knd_app knd_pairs fun y hy => knd_pairs y (cutL_sub hy)) (by rw [List.length_append, List.length_map]; omega)
  · exact knl_of (knd_int fun z hz => by simp only [List.mem_cons, List.not_mem_nil, or_false] at hz; rcases hz with rfl | rfl <;> first | exact kn_int | exact kn_bl) (by decide)
  · exact knL_no kn_non rfl
  · exact knL_no kn_int rfl
  · exact knL_no kn_str rfl
  · exact knl_of (knd_int fun z hz => by simp only [List.mem_cons, List.not_mem_nil, or_false] at hz; rcases hz with rfl | rfl <;> first | exact kn_int | exact kn_bl) (by decide)
  · exact knl_of (knd_int fun z hz => by simp only [List.mem_cons, List.not_mem_nil, or_false] at hz; rcases hz with rfl | rfl <;> first | exact kn_int | exact kn_bl) (by decide)
  · exact knl_of (fun y hy => by cases List.mem_singleton.mp hy; exact knD_no (kn_lst (kp8 _ _ n2 (kp7 _ _ n2 f2))) rfl) (by simp)
  · exact knl_of (knd_int fun z hz => by simp only [List.mem_cons, List.not_mem_nil, or_false] at hz; rcases hz with rfl | rfl | rfl <;> exact kn_int) (by decide)
  · exact knl_of (knd_int fun z hz => by simp only [List.mem_cons, List.not_mem_nil, or_false] at hz; rcases hz with rfl <;> exact kn_int) (by decide)
  · exact knl_of (fun y hy => by cases List.mem_singleton.mp hy; exact knD_no kn_str rfl) (by decide)
  · exact knL_no (kn_dct (kp8 _ _ n3 (kp7 _ _ n3 f3))) rfl
  · exact knl_of (knd_int fun z hz => by simp only [List.mem_cons, List.not_mem_nil, or_false] at hz; rcases hz with rfl | rfl <;> first | exact kn_int | exact kn_non) (by decide)
  · exact knl_of (knd_int fun z hz => by simp only [List.mem_cons, List.not_mem_nil, or_false] at hz; rcases hz with rfl | rfl <;> first | exact kn_int | exact kn_non) (by decide)
set_option maxHeartbeats 0 in
theorem ok__law_spoilt {P : Program} {w : World} {K : PySem.W.Frag} {mg : Str → Option Value} {base : Heap} (T : Txt K mg) : FnW P w K mg base 3 T.f__law_spoilt T.fd__law_spoilt ["_law_m", "_law_links_here"] (sp__law_spoilt T) :=
  fnW_of (t := t__law_spoilt T) T.F__law_spoilt sc__law_spoilt (len__law_spoilt T) (fun cdv A outer s H E hr => (zs_cons (z_set (i := 2) sc__law_spoilt.nd rfl (by first | exact .inl rfl | exact .inr rfl) (z_lst (z_acons (z_callT w_list rfl T.n_list boot_list (z_acons (z_var (i := 1) rfl (by first | exact .inl rfl | exact .inr (.inl rfl) | exact .inr (.inr rfl))) (z_anil))) (z_acons (z_bin w_add (z_var (i := 1) rfl (by first | exact .inl rfl | exact .inr (.inl rfl) | exact .inr (.inr rfl))) (z_tup (z_acons (z_tup (z_acons (z_int) (z_acons (z_int) (z_anil)))) (z_anil)))) (z_acons (z_bin w_add (z_var (i := 1) rfl (by first | exact .inl rfl | exact .inr (.inl rfl) | exact .inr (.inr rfl))) (z_tup (z_acons (z_tup (z_acons (z_int) (z_acons (z_int) (z_anil)))) (z_anil)))) (z_acons (z_back (z_var (i := 1) rfl (by first | exact .inl rfl | exact .inr (.inl rfl) | exact .inr (.inr rfl)))) (z_acons (z_bin w_add (z_var (i := 1) rfl (by first | exact .inl rfl | exact .inr (.inl rfl) | exact .inr (.inr rfl))) (z_sl (z_var (i := 1) rfl (by first | exact .inl rfl | exact .inr (.inl rfl) | exact .inr (.inr rfl))) (z_osome (z_neg (z_int))) (z_onone))) (z_acons (z_tup (z_acons (z_tup (z_acons (z_bl) (z_acons (z_int) (z_anil)))) (z_anil))) (z_acons (z_non) (z_anil)))))))))) (zs_cons (z_set (i := 2) sc__law_spoilt.nd rfl (by first | exact .inl rfl | exact .inr rfl) (z_bin w_add (z_var (i := 2) rfl (by first | exact .inl rfl | exact .inr (.inl rfl) | exact .inr (.inr rfl))) (z_lst (z_acons (z_int) (z_acons (z_str) (z_acons (z_tup (z_acons (z_tup (z_acons (z_int) (z_acons (z_int) (z_anil)))) (z_anil))) (z_acons (z_tup (z_acons (z_tup (z_acons (z_int) (z_acons (z_neg (z_int)) (z_anil)))) (z_anil))) (z_acons (z_tup (z_acons (z_lst (z_acons (z_int) (z_acons (z_int) (z_anil)))) (z_anil))) (z_acons (z_tup (z_acons (z_tup (z_acons (z_int) (z_acons (z_int) (z_acons (z_int) (z_anil))))) (z_anil))) (z_acons (z_tup (z_acons (z_tup (z_acons (z_int) (z_anil))) (z_anil))) (z_acons (z_tup (z_acons (z_str) (z_anil))) (z_acons (z_dnew) (z_acons (z_tup (z_acons (z_tup (z_acons (z_int) (z_acons (z_non) (z_anil)))) (z_anil))) (z_anil)))))))))))))) (zs_cons (z_expr (z_bm PySem.F.plainAttrs_list PySem.F.slot_list_append PySem.F.type_list_append w_append (z_var (i := 2) rfl (by first | exact .inl rfl | exact .inr (.inl rfl) | exact .inr (.inr rfl))) (z_acons (z_tup (z_acons (z_tup (z_acons (z_int) (z_acons (z_int) (z_anil)))) (z_anil))) (z_anil)))) (zs_one (z_ret (z_ix (hr).un (z_var (i := 2) rfl (by first | exact .inl rfl | exact .inr (.inl rfl) | exact .inr (.inr rfl))) (z_call (sel := [.p 0, .p 1]) (dws := []) (ok__law_draw T) (hr.mono (by decide)) rfl T.m__law_draw T.F__law_draw.kp (bind0 T.F__law_draw fun _ _ _ _ _ _ us uk h1 h2 => match us, h1, uk, h2 with | [_, _], _, [], _ => rfl) (takes_of rfl rfl rfl rfl) (z_acons (z_var (i := 0) rfl (by first | exact .inl rfl | exact .inr (.inl rfl) | exact .inr (.inr rfl))) (z_acons (z_int) (z_anil)))) (fun _ _ => rfl)))))))) (pf__law_spoilt T)

/-! ### _law_refused_right -/
theorem sc__law_refused_right : FnScope ["_law_m", "_law_links_here", "_law_thing", "_law_size", "_law_odd", "_law_worse", "_law_said"] ["_law_m", "_law_links_here"] (defScope s__law_refused_right) := ⟨rfl, rfl, rfl, by decide +kernel, rfl, by decide +kernel, by decide +kernel⟩
theorem said_dt {G : HW} {b : Str} : Dt G (.tup [.str "value", .str b]) (.tuple [.str "value", .str b]) := .tup (.cons (.str _) (.cons (.str _) .nil))
theorem said_fit {b : Str} (h : PyData.strOk b = true) (h2 : b.length ≤ 20) : Fit 1 50 (.tuple [.str "value", .str b]) := fit_tup (W := 20) (fun d hd => by
  simp only [List.mem_cons, List.not_mem_nil, or_false] at hd
  rcases hd with rfl | rfl
  · exact (fit_str (by decide +kernel)).mono (Nat.le_refl _) (by decide +kernel)
  · exact (fit_str h).mono (Nat.le_refl _) h2) (Nat.le_of_ble_eq_true rfl)
theorem saids_dt {G : HW} {l : Addr} {b : Str} {n : Nat} (e : G l = some (.lst (List.replicate n (.tup [.str "value", .str b])))) : Dt G (.ref l) (.list (List.replicate n (.tuple [.str "value", .str b]))) := .lst (.inl e) (by
  clear e
  induction n with
  | zero => exact .nil
  | succ n ih => rw [List.replicate_succ, List.replicate_succ]; exact .cons said_dt ih)
theorem saids_fit {b : Str} (h : PyData.strOk b = true) (h2 : b.length ≤ 20) {n : Nat} (hn : n ≤ 10) : Fit 2 510 (.list (List.replicate n (.tuple [.str "value", .str b]))) := fit_lst (W := 50) (fun d hd => by
  rw [(List.mem_replicate.mp hd).2]
  exact said_fit h h2) (by rw [List.length_replicate]; omega)
theorem wf_first {K : PySem.W.Frag} {C : Addr} {G : HW} {x : XE} {q : WK} {w y z : Wv} (h1 : KnL K G w) (h2 : KnD K G 120 y) (h3 : Kn K G z) (e : isLks w 120 = false) (hx : ∀ G', Ext G G' → x (.ref C) [("what", .str "links")] G') : SpWithoutFall K C [w, y, z] G q x :=
  ⟨w, y, z, rfl, h1, h2, h3, (fun _ => hx), (fun a => by rw [e] at a; cases a), (fun a => by rw [e] at a; cases a), fun _ _ _ _ _ _ a => by rw [e] at a; cases a⟩
theorem wf_second {K : PySem.W.Frag} {C : Addr} {G : HW} {x : XE} {q : WK} {L : Lk} {y z : Wv} (h1 : GoodL L 120) (h2 : KnD K G 120 y) (h3 : Kn K G z) (e : isConf y 120 = false) (hx : ∀ G', Ext G G' → x (.ref C) [("what", .str "parts")] G') : SpWithoutFall K C [.tup (L.map tup2), y, z] G q x :=
  ⟨_, y, z, rfl, h1.kn, h2, h3, (fun a => by rw [h1.is] at a; cases a), (fun _ _ => hx), (fun _ a => by rw [e] at a; cases a), fun _ ns _ _ a _ _ _ c => by
    subst a
    rw [conf_ints.mpr c] at e
    cases e⟩
theorem wf_third {K : PySem.W.Frag} {C : Addr} {G : HW} {x : XE} {q : WK} {L : Lk} {ns : List Int} {z : Wv} (h1 : GoodL L 120) (h2 : Cfg ns 120) (h3 : Kn K G z) (e : isWh z 0 119 = false) (hx : ∀ G', Ext G G' → x (.ref C) [("what", .str "number")] G') : SpWithoutFall K C [.tup (L.map tup2), .tup (ns.map .int), z] G q x :=
  ⟨_, _, z, rfl, h1.kn, knD_ints, h3, (fun a => by rw [h1.is] at a; cases a), (fun _ a => by rw [conf_ints.mpr h2] at a; cases a), (fun _ _ _ => hx), fun _ _ k _ _ a _ _ _ k0 k1 => by
    subst a
    simp only [isWh, Bool.and_eq_false_iff, decide_eq_false_iff_not] at e
    omega⟩
theorem fall_first {K : PySem.W.Frag} {C : Addr} {G : HW} {x : XE} {q : WK} {w z : Wv} (h1 : KnL K G w) (h3 : Kn K G z) (e : isLks w 120 = false) (hx : ∀ G', Ext G G' → x (.ref C) [("what", .str "links")] G') : SpFall K C [w, z] G q x :=
  ⟨w, z, rfl, h1, h3, (fun _ => hx), (fun a => by rw [e] at a; cases a), fun _ _ _ _ a => by rw [e] at a; cases a⟩
theorem fall_second {K : PySem.W.Frag} {C : Addr} {G : HW} {x : XE} {q : WK} {L : Lk} {z : Wv} (h1 : GoodL L 120) (h3 : Kn K G z) (e : isWh z 0 119 = false) (hx : ∀ G', Ext G G' → x (.ref C) [("what", .str "number")] G') : SpFall K C [.tup (L.map tup2), z] G q x :=
  ⟨_, z, rfl, h1.kn, h3, (fun a => by rw [h1.is] at a; cases a), (fun _ _ => hx), fun _ k _ a _ _ k0 k1 => by
    subst a
    simp only [isWh, Bool.and_eq_false_iff, decide_eq_false_iff_not] at e
    omega⟩
def sp__law_refused_right {K : PySem.W.Frag} {mg : Str → Option Value} (T : Txt K mg) : SpW := fun ws G q _ => ∃ m a b, ∃ L : Lk, ∃ n : Nat, ws = [.ref m, .tup (L.map tup2)] ∧ GoodL L 120 ∧ DSt G m a b (n + 20) ∧ T.P__law_refused_right ∉ [m, b] ∧ G T.P__law_refused_right = some (.tab "_law_refused_right.<locals>.<lambda>") ∧ ∀ G', Kp [m, b] G G' → DSt G' m a b n → q (.bl true) G'
theorem len__law_refused_right {K : PySem.W.Frag} {mg : Str → Option Value} (T : Txt K mg) (ws : List Wv) (G : HW) (q : WK) (x : XE) (h : sp__law_refused_right T ws G q x) : ws.length = 2 := by
  obtain ⟨m, a, b, L, n, rfl, _⟩ := h
  rfl
def b__law_refused_right_18 {K : PySem.W.Frag} {mg : Str → Option Value} (T : Txt K mg) : ST := sRet (eOp wEq (eTell T.P__law_refused_right "_law_refused_right.<locals>.<lambda>" (sp__law_told T) (eCall 3 0 [.p 0, .p 1, .p 2] [] (sp_without_fall T) (aCons (eV 1) (aCons (eTup (aNil)) (aCons (eV 5) (aNil)))) aNil)) (eTup (aCons (eC (.str "value")) (aCons (eC (.str "number")) (aNil)))))
theorem mb__law_refused_right_18 {K : PySem.W.Frag} {mg : Str → Option Value} (T : Txt K mg) (D : EndsW) (σ : SW) (G : HW) : b__law_refused_right_18 T D σ G = (sRet (eOp wEq (eTell T.P__law_refused_right "_law_refused_right.<locals>.<lambda>" (sp__law_told T) (eCall 3 0 [.p 0, .p 1, .p 2] [] (sp_without_fall T) (aCons (eV 1) (aCons (eTup (aNil)) (aCons (eV 5) (aNil)))) aNil)) (eTup (aCons (eC (.str "value")) (aCons (eC (.str "number")) (aNil)))))) D σ G := rfl
def b__law_refused_right_16 {K : PySem.W.Frag} {mg : Str → Option Value} (T : Txt K mg) : ST := sSeq (sIf (qOr (qOp wNe (eV 6) (eOp wMul (eLst (aCons (eTup (aCons (eC (.str "value")) (aCons (eC (.str "parts")) (aNil)))) (aNil))) (eC (.int 3)))) (qOp wNe (eTell T.P__law_refused_right "_law_refused_right.<locals>.<lambda>" (sp__law_told T) (eCall 2 0 [.p 0, .p 1] [] (sp_fall T) (aCons (eV 1) (aCons (eV 5) (aNil))) aNil)) (eTup (aCons (eC (.str "value")) (aCons (eC (.str "number")) (aNil)))))) (sRet (eC (.bl false))) (sNext)) (b__law_refused_right_18 T)
theorem mb__law_refused_right_16 {K : PySem.W.Frag} {mg : Str → Option Value} (T : Txt K mg) (D : EndsW) (σ : SW) (G : HW) : b__law_refused_right_16 T D σ G = (sSeq (sIf (qOr (qOp wNe (eV 6) (eOp wMul (eLst (aCons (eTup (aCons (eC (.str "value")) (aCons (eC (.str "parts")) (aNil)))) (aNil))) (eC (.int 3)))) (qOp wNe (eTell T.P__law_refused_right "_law_refused_right.<locals>.<lambda>" (sp__law_told T) (eCall 2 0 [.p 0, .p 1] [] (sp_fall T) (aCons (eV 1) (aCons (eV 5) (aNil))) aNil)) (eTup (aCons (eC (.str "value")) (aCons (eC (.str "number")) (aNil)))))) (sRet (eC (.bl false))) (sNext)) (b__law_refused_right_18 T)) D σ G := rfl
def b__law_refused_right_15 {K : PySem.W.Frag} {mg : Str → Option Value} (T : Txt K mg) : ST := sSeq (sExpr (eBM "list" wAppend (eV 6) (aCons (eTell T.P__law_refused_right "_law_refused_right.<locals>.<lambda>" (sp__law_told T) (eCall 3 0 [.p 0, .p 1, .p 2] [] (sp_without_fall T) (aCons (eV 1) (aCons (eV 4) (aCons (eV 5) (aNil)))) aNil)) (aNil)))) (b__law_refused_right_16 T)
theorem mb__law_refused_right_15 {K : PySem.W.Frag} {mg : Str → Option Value} (T : Txt K mg) (D : EndsW) (σ : SW) (G : HW) : b__law_refused_right_15 T D σ G = (sSeq (sExpr (eBM "list" wAppend (eV 6) (aCons (eTell T.P__law_refused_right "_law_refused_right.<locals>.<lambda>" (sp__law_told T) (eCall 3 0 [.p 0, .p 1, .p 2] [] (sp_without_fall T) (aCons (eV 1) (aCons (eV 4) (aCons (eV 5) (aNil)))) aNil)) (aNil)))) (b__law_refused_right_16 T)) D σ G := rfl
def b__law_refused_right_14 {K : PySem.W.Frag} {mg : Str → Option Value} (T : Txt K mg) : ST := sSeq (sExpr (eBM "list" wAppend (eV 6) (aCons (eTell T.P__law_refused_right "_law_refused_right.<locals>.<lambda>" (sp__law_told T) (eCall 2 0 [.p 0, .p 1] [] (sp_is_closed T) (aCons (eV 1) (aCons (eV 4) (aNil))) aNil)) (aNil)))) (b__law_refused_right_15 T)
theorem mb__law_refused_right_14 {K : PySem.W.Frag} {mg : Str → Option Value} (T : Txt K mg) (D : EndsW) (σ : SW) (G : HW) : b__law_refused_right_14 T D σ G = (sSeq (sExpr (eBM "list" wAppend (eV 6) (aCons (eTell T.P__law_refused_right "_law_refused_right.<locals>.<lambda>" (sp__law_told T) (eCall 2 0 [.p 0, .p 1] [] (sp_is_closed T) (aCons (eV 1) (aCons (eV 4) (aNil))) aNil)) (aNil)))) (b__law_refused_right_15 T)) D σ G := rfl
def b__law_refused_right_13 {K : PySem.W.Frag} {mg : Str → Option Value} (T : Txt K mg) : ST := sSeq (sSet 6 (eLst (aCons (eTell T.P__law_refused_right "_law_refused_right.<locals>.<lambda>" (sp__law_told T) (eCall 2 0 [.p 0, .p 1] [] (sp_closure T) (aCons (eV 1) (aCons (eV 4) (aNil))) aNil)) (aNil)))) (b__law_refused_right_14 T)
theorem mb__law_refused_right_13 {K : PySem.W.Frag} {mg : Str → Option Value} (T : Txt K mg) (D : EndsW) (σ : SW) (G : HW) : b__law_refused_right_13 T D σ G = (sSeq (sSet 6 (eLst (aCons (eTell T.P__law_refused_right "_law_refused_right.<locals>.<lambda>" (sp__law_told T) (eCall 2 0 [.p 0, .p 1] [] (sp_closure T) (aCons (eV 1) (aCons (eV 4) (aNil))) aNil)) (aNil)))) (b__law_refused_right_14 T)) D σ G := rfl
def b__law_refused_right_11 {K : PySem.W.Frag} {mg : Str → Option Value} (T : Txt K mg) : ST := sIf (qOp wNe (eV 6) (eOp wMul (eLst (aCons (eTup (aCons (eC (.str "value")) (aCons (eC (.str "links")) (aNil)))) (aNil))) (eC (.int 4)))) (sRet (eC (.bl false))) (sNext)
theorem mb__law_refused_right_11 {K : PySem.W.Frag} {mg : Str → Option Value} (T : Txt K mg) (D : EndsW) (σ : SW) (G : HW) : b__law_refused_right_11 T D σ G = (sIf (qOp wNe (eV 6) (eOp wMul (eLst (aCons (eTup (aCons (eC (.str "value")) (aCons (eC (.str "links")) (aNil)))) (aNil))) (eC (.int 4)))) (sRet (eC (.bl false))) (sNext)) D σ G := rfl
def b__law_refused_right_10 {K : PySem.W.Frag} {mg : Str → Option Value} (T : Txt K mg) : ST := sSeq (sExpr (eBM "list" wAppend (eV 6) (aCons (eTell T.P__law_refused_right "_law_refused_right.<locals>.<lambda>" (sp__law_told T) (eCall 3 0 [.p 0, .p 1, .p 2] [] (sp_without_fall T) (aCons (eV 2) (aCons (eV 4) (aCons (eV 5) (aNil)))) aNil)) (aNil)))) (b__law_refused_right_11 T)
theorem mb__law_refused_right_10 {K : PySem.W.Frag} {mg : Str → Option Value} (T : Txt K mg) (D : EndsW) (σ : SW) (G : HW) : b__law_refused_right_10 T D σ G = (sSeq (sExpr (eBM "list" wAppend (eV 6) (aCons (eTell T.P__law_refused_right "_law_refused_right.<locals>.<lambda>" (sp__law_told T) (eCall 3 0 [.p 0, .p 1, .p 2] [] (sp_without_fall T) (aCons (eV 2) (aCons (eV 4) (aCons (eV 5) (aNil)))) aNil)) (aNil)))) (b__law_refused_right_11 T)) D σ G := rfl
def b__law_refused_right_9 {K : PySem.W.Frag} {mg : Str → Option Value} (T : Txt K mg) : ST := sSeq (sExpr (eBM "list" wAppend (eV 6) (aCons (eTell T.P__law_refused_right "_law_refused_right.<locals>.<lambda>" (sp__law_told T) (eCall 2 0 [.p 0, .p 1] [] (sp_fall T) (aCons (eV 2) (aCons (eV 5) (aNil))) aNil)) (aNil)))) (b__law_refused_right_10 T)
theorem mb__law_refused_right_9 {K : PySem.W.Frag} {mg : Str → Option Value} (T : Txt K mg) (D : EndsW) (σ : SW) (G : HW) : b__law_refused_right_9 T D σ G = (sSeq (sExpr (eBM "list" wAppend (eV 6) (aCons (eTell T.P__law_refused_right "_law_refused_right.<locals>.<lambda>" (sp__law_told T) (eCall 2 0 [.p 0, .p 1] [] (sp_fall T) (aCons (eV 2) (aCons (eV 5) (aNil))) aNil)) (aNil)))) (b__law_refused_right_10 T)) D σ G := rfl
def b__law_refused_right_8 {K : PySem.W.Frag} {mg : Str → Option Value} (T : Txt K mg) : ST := sSeq (sExpr (eBM "list" wAppend (eV 6) (aCons (eTell T.P__law_refused_right "_law_refused_right.<locals>.<lambda>" (sp__law_told T) (eCall 2 0 [.p 0, .p 1] [] (sp_is_closed T) (aCons (eV 2) (aCons (eV 4) (aNil))) aNil)) (aNil)))) (b__law_refused_right_9 T)
theorem mb__law_refused_right_8 {K : PySem.W.Frag} {mg : Str → Option Value} (T : Txt K mg) (D : EndsW) (σ : SW) (G : HW) : b__law_refused_right_8 T D σ G = (sSeq (sExpr (eBM "list" wAppend (eV 6) (aCons (eTell T.P__law_refused_right "_law_refused_right.<locals>.<lambda>" (sp__law_told T) (eCall 2 0 [.p 0, .p 1] [] (sp_is_closed T) (aCons (eV 2) (aCons (eV 4) (aNil))) aNil)) (aNil)))) (b__law_refused_right_9 T)) D σ G := rfl
def b__law_refused_right_7 {K : PySem.W.Frag} {mg : Str → Option Value} (T : Txt K mg) : ST := sSeq (sSet 6 (eLst (aCons (eTell T.P__law_refused_right "_law_refused_right.<locals>.<lambda>" (sp__law_told T) (eCall 2 0 [.p 0, .p 1] [] (sp_closure T) (aCons (eV 2) (aCons (eV 4) (aNil))) aNil)) (aNil)))) (b__law_refused_right_8 T)
theorem mb__law_refused_right_7 {K : PySem.W.Frag} {mg : Str → Option Value} (T : Txt K mg) (D : EndsW) (σ : SW) (G : HW) : b__law_refused_right_7 T D σ G = (sSeq (sSet 6 (eLst (aCons (eTell T.P__law_refused_right "_law_refused_right.<locals>.<lambda>" (sp__law_told T) (eCall 2 0 [.p 0, .p 1] [] (sp_closure T) (aCons (eV 2) (aCons (eV 4) (aNil))) aNil)) (aNil)))) (b__law_refused_right_8 T)) D σ G := rfl
def b__law_refused_right_6 {K : PySem.W.Frag} {mg : Str → Option Value} (T : Txt K mg) : ST := sSeq (sIf (qNot (qTru (eCall 2 0 [.p 0, .p 1] [] (sp__law_are_links T) (aCons (eV 2) (aCons (eC (.int 120)) (aNil))) aNil))) (b__law_refused_right_7 T) (sNext)) (b__law_refused_right_13 T)
theorem mb__law_refused_right_6 {K : PySem.W.Frag} {mg : Str → Option Value} (T : Txt K mg) (D : EndsW) (σ : SW) (G : HW) : b__law_refused_right_6 T D σ G = (sSeq (sIf (qNot (qTru (eCall 2 0 [.p 0, .p 1] [] (sp__law_are_links T) (aCons (eV 2) (aCons (eC (.int 120)) (aNil))) aNil))) (b__law_refused_right_7 T) (sNext)) (b__law_refused_right_13 T)) D σ G := rfl
def b__law_refused_right_5 {K : PySem.W.Frag} {mg : Str → Option Value} (T : Txt K mg) : ST := sSeq (sSet 5 (eOp wIx (eLst (aCons (eNeg (eC (.int 1))) (aCons (eC (.int 120)) (aCons (eC (.bl true)) (aCons (eC .non) (aCons (eC (.str "0")) (aCons (eTup (aCons (eC (.int 0)) (aNil))) (aNil)))))))) (eCall 2 0 [.p 0, .p 1] [] (sp__law_draw T) (aCons (eV 0) (aCons (eC (.int 6)) (aNil))) aNil))) (b__law_refused_right_6 T)
theorem mb__law_refused_right_5 {K : PySem.W.Frag} {mg : Str → Option Value} (T : Txt K mg) (D : EndsW) (σ : SW) (G : HW) : b__law_refused_right_5 T D σ G = (sSeq (sSet 5 (eOp wIx (eLst (aCons (eNeg (eC (.int 1))) (aCons (eC (.int 120)) (aCons (eC (.bl true)) (aCons (eC .non) (aCons (eC (.str "0")) (aCons (eTup (aCons (eC (.int 0)) (aNil))) (aNil)))))))) (eCall 2 0 [.p 0, .p 1] [] (sp__law_draw T) (aCons (eV 0) (aCons (eC (.int 6)) (aNil))) aNil))) (b__law_refused_right_6 T)) D σ G := rfl
def b__law_refused_right_4 {K : PySem.W.Frag} {mg : Str → Option Value} (T : Txt K mg) : ST := sSeq (sSet 4 (eOp wIx (eLst (aCons (eLst (aCons (eC (.int 0)) (aNil))) (aCons (eTup (aCons (eC (.int 0)) (aCons (eC (.int 0)) (aNil)))) (aCons (eTup (aCons (eC (.int 120)) (aNil))) (aCons (eTup (aCons (eC (.bl true)) (aNil))) (aCons (eC .non) (aCons (eC (.int 0)) (aNil)))))))) (eCall 2 0 [.p 0, .p 1] [] (sp__law_draw T) (aCons (eV 0) (aCons (eC (.int 6)) (aNil))) aNil))) (b__law_refused_right_5 T)
theorem mb__law_refused_right_4 {K : PySem.W.Frag} {mg : Str → Option Value} (T : Txt K mg) (D : EndsW) (σ : SW) (G : HW) : b__law_refused_right_4 T D σ G = (sSeq (sSet 4 (eOp wIx (eLst (aCons (eLst (aCons (eC (.int 0)) (aNil))) (aCons (eTup (aCons (eC (.int 0)) (aCons (eC (.int 0)) (aNil)))) (aCons (eTup (aCons (eC (.int 120)) (aNil))) (aCons (eTup (aCons (eC (.bl true)) (aNil))) (aCons (eC .non) (aCons (eC (.int 0)) (aNil)))))))) (eCall 2 0 [.p 0, .p 1] [] (sp__law_draw T) (aCons (eV 0) (aCons (eC (.int 6)) (aNil))) aNil))) (b__law_refused_right_5 T)) D σ G := rfl
def b__law_refused_right_2 {K : PySem.W.Frag} {mg : Str → Option Value} (T : Txt K mg) : ST := sSeq (sIf (qOp wNe (eCB wRepr (aCons (eCall 2 0 [.p 0, .p 1] [.int 120] (sp_is_links T) (aCons (eV 2) (aCons (eV 3) (aNil))) aNil) (aNil))) (eCB wRepr (aCons (eCall 2 0 [.p 0, .p 1] [] (sp__law_are_links T) (aCons (eV 2) (aCons (eV 3) (aNil))) aNil) (aNil)))) (sRet (eC (.bl false))) (sNext)) (b__law_refused_right_4 T)
theorem mb__law_refused_right_2 {K : PySem.W.Frag} {mg : Str → Option Value} (T : Txt K mg) (D : EndsW) (σ : SW) (G : HW) : b__law_refused_right_2 T D σ G = (sSeq (sIf (qOp wNe (eCB wRepr (aCons (eCall 2 0 [.p 0, .p 1] [.int 120] (sp_is_links T) (aCons (eV 2) (aCons (eV 3) (aNil))) aNil) (aNil))) (eCB wRepr (aCons (eCall 2 0 [.p 0, .p 1] [] (sp__law_are_links T) (aCons (eV 2) (aCons (eV 3) (aNil))) aNil) (aNil)))) (sRet (eC (.bl false))) (sNext)) (b__law_refused_right_4 T)) D σ G := rfl
def t__law_refused_right {K : PySem.W.Frag} {mg : Str → Option Value} (T : Txt K mg) : ST := sSeq (sAsg (eTup (aCons (eCall 2 0 [.p 0, .p 1] [] (sp__law_spoilt T) (aCons (eV 0) (aCons (eV 1) (aNil))) aNil) (aCons (eOp wIx (eLst (aCons (eC (.int 120)) (aCons (eC (.int 120)) (aCons (eC (.int 41)) (aCons (eC (.int 1)) (aNil)))))) (eCall 2 0 [.p 0, .p 1] [] (sp__law_draw T) (aCons (eV 0) (aCons (eC (.int 4)) (aNil))) aNil)) (aNil)))) (gTu 2 (gMo (gNm 2) (gMo (gNm 3) (gNo))))) (b__law_refused_right_2 T)
local macro_rules | `(tactic| walk_at "m__law_refused_right") => `(tactic| simp only [m_V, m_kV, m_C, m_Op, m_kOp, m_kOp2, m_kBl, m_qOp, m_kCh2, m_kCh2f, m_kCh3, m_kCh1, m_kCh, m_Ch, m_qCh, m_oNone, m_oSome, m_kO, m_Sl, m_kSl, m_kSl1, m_kSl2, m_slT, m_qT, m_kTru, m_tB, m_tN, m_tI, m_tT, m_qA, m_qO, m_qN, m_kqAt, m_kqAf, m_kqOt, m_kqOf, m_kqN, m_qYes, m_A, m_Or, m_N, m_Neg, m_kAt, m_kAf, m_kOrt, m_kOrf, m_kN, m_kNeg, m_If, m_kIft, m_kIff, m_an, m_ac, m_kac, m_kac2, m_Tup, m_Lst, m_kTup, m_CB, m_kCB, m_pk1, m_pp, m_pkk, m_pd, m_pn, m_kX, m_Call, m_kC1, m_kC2, m_BM, m_BM0, m_kM1, m_Seq, m_Seq_nx, m_Seq_rt, m_Seq_bk, m_Seq_ct, m_Seq_ex, m_Next, m_Brk, m_Cont, m_Expr, m_kEx, m_Ret, m_RetN, m_SIf, m_kSIft, m_kSIff, m_Set, m_kSet, m_Par, m_kPar, m_Par3, m_kPar3, m_Asg, m_kAsg, m_gNm, m_kG, m_gNo, m_gMo, m_gTu, m_gSb, m_kGs, m_kGs2, m_kW2, m_Aug, m_kAug, m_kAu, m_kAu2, m_mk1, m_kMk, m_Raise, m_ends_rt, m_ends_ex, m_ends_nx, m_add, m_addB, m_sub, m_eqI, m_eqS, m_neI, m_neS, m_isB, m_isN, m_isNotN, m_nonN, m_nonR, m_nonT, m_nonI, m_nonS, m_nonB, m_lenT, m_lenK, m_tupT, m_max, m_min, m_intI, m_intB, m_pr0, m_pr, m_kpr, m_kpr2, m_Xf, m_Try, m_Try_nx, m_Try_rt, m_Try_bk, m_Try_ct, m_Try_ex, m_Suite_nx, m_Suite_rt, m_Suite_bk, m_Suite_ct, m_kXe, m_kXo, m_tlOf, m_For, m_Loop_nx, m_Loop_ct, m_Loop_bk, m_Loop_rt, m_Loop_ex, m_kB, m_iSeq, m_kItT, m_kItK, m_kItS, m_iRg1, m_iRg2, m_iEnu, m_kEnuK, m_iZp, m_kZpT, m_iRv, m_kRvT, m_Lc, m_kCell, m_kTurnT, m_kTurnF, m_wip0, m_wip1, m_Back, m_kBackT, m_rg1, m_kRgA, m_TupRg, m_LstRg, m_Dc, m_DturnT, m_DturnF, m_kDk, m_kDv, m_SSet, m_iRvR, m_At, m_Fst, m_kFs, m_Meth, m_kMe2, m_kMe3, m_Make, m_kMk1, m_kMade, m_ltI, m_geI, m_geP, m_isNotB, m_Get1, m_Get2, m_kGet2, m_Setd, m_kSd2, m_rg2, m_kRg2a, m_kRg2b, List.getElem?_cons_zero, List.getElem?_cons_succ, List.set_cons_zero, List.set_cons_succ, List.length_cons, List.length_nil, Nat.zero_add, Nat.reduceAdd, Nat.reduceLeDiff, Bool.not_true, Bool.not_false, mb__law_refused_right_18, mb__law_refused_right_16, mb__law_refused_right_15, mb__law_refused_right_14, mb__law_refused_right_11, mb__law_refused_right_10, mb__law_refused_right_9, mb__law_refused_right_8, mb__law_refused_right_7, mb__law_refused_right_6, mb__law_refused_right_5, mb__law_refused_right_4, mb__law_refused_right_2])
theorem pf__law_refused_right {K : PySem.W.Frag} {mg : Str → Option Value} (T : Txt K mg) (ws : List Wv) (G : HW) (q : WK) (x : XE) (h : sp__law_refused_right T ws G q x) : t__law_refused_right T (endsW q x) (startW ["_law_m", "_law_links_here", "_law_thing", "_law_size", "_law_odd", "_law_worse", "_law_said"] ws) G := by
  obtain ⟨m, a, b, L, n, rfl, gl, st, nP, hP, hq⟩ := h
  have un : ∀ {G : HW} {l : Addr} {k : Nat}, DSt G m a b k → G l = none → l ∉ [m, b] ∧ l ≠ m ∧ l ≠ a ∧ l ≠ b := fun ⟨k, c, lf, h1, h2, _, h4, _⟩ hl => ⟨by simp [(ne_of_new h1 hl).symm, (ne_of_new h4 hl).symm], (ne_of_new h1 hl).symm, (ne_of_new h2 hl).symm, (ne_of_new h4 hl).symm⟩
  show t__law_refused_right T (endsW q x) [some (.ref m), some (.tup (L.map tup2)), none, none, none, none, none] G
  unfold t__law_refused_right
  walk_at "m__law_refused_right"
  refine ⟨m, a, b, L, n + 19, rfl, gl.2.2, st, fun w G1 kw kp1 st1 => ?_⟩
  walk_at "m__law_refused_right"
  refine r_lst' fun l1 h1 => ?_
  have x1 := Ext.new (o := .lst [.int 120, .int 120, .int 41, .int 1]) h1
  walk_at "m__law_refused_right"
  refine ⟨m, a, b, 4, n + 18, rfl, by omega, by omega, st1.ext x1, fun r G2 r0 r1 kp2 st2 => ?_⟩
  walk_at "m__law_refused_right"
  obtain ⟨sz, hszm, hsz⟩ := at_some (us := [Wv.int 120, .int 120, .int 41, .int 1]) r0 (by simp only [List.length_cons, List.length_nil]; omega)
  obtain ⟨size, rfl⟩ : ∃ size : Int, sz = .int size := by
    simp only [List.mem_cons, List.not_mem_nil, or_false] at hszm
    rcases hszm with rfl | rfl | rfl | rfl <;> exact ⟨_, rfl⟩
  refine r_ixL (.inl (kp2 _ _ (un st1 h1).1 updO_same)) hsz ?_
  have hP2 := kp2 _ _ nP (x1 _ _ (kp1 _ _ nP hP))
  walk_at "m__law_refused_right"
  have kw2 : KnL K G2 w := kw _ (x1.kp.trans kp2)
  refine ⟨w, size, rfl, kw2, fun G3 x3 => ?_⟩
  walk_at "m__law_refused_right"
  refine r_show (.bl _) fit_bl ?_
  walk_at "m__law_refused_right"
  refine ⟨w, size, rfl, kw2.ext x3, fun G4 x4 => ?_⟩
  walk_at "m__law_refused_right"
  refine r_show (.bl _) fit_bl ?_
  simp only [m_V, m_kV, m_C, m_Op, m_kOp, m_kOp2, m_kBl, m_qOp, m_kCh2, m_kCh2f, m_kCh3, m_kCh1, m_kCh, m_Ch, m_qCh, m_oNone, m_oSome, m_kO, m_Sl, m_kSl, m_kSl1, m_kSl2, m_slT, m_qT, m_kTru, m_tB, m_tN, m_tI, m_tT, m_qA, m_qO, m_qN, m_kqAt, m_kqAf, m_kqOt, m_kqOf, m_kqN, m_qYes, m_A, m_Or, m_N, m_Neg, m_kAt, m_kAf, m_kOrt, m_kOrf, m_kN, m_kNeg, m_If, m_kIft, m_kIff, m_an, m_ac, m_kac, m_kac2, m_Tup, m_Lst, m_kTup, m_CB, m_kCB, m_pk1, m_pp, m_pkk, m_pd, m_pn, m_kX, m_Call, m_kC1, m_kC2, m_BM, m_BM0, m_kM1, m_Seq, m_Seq_nx, m_Seq_rt, m_Seq_bk, m_Seq_ct, m_Seq_ex, m_Next, m_Brk, m_Cont, m_Expr, m_kEx, m_Ret, m_RetN, m_SIf, m_kSIft, m_kSIff, m_Set, m_kSet, m_Par, m_kPar, m_Par3, m_kPar3, m_Asg, m_kAsg, m_gNm, m_kG, m_gNo, m_gMo, m_gTu, m_gSb, m_kGs, m_kGs2, m_kW2, m_Aug, m_kAug, m_kAu, m_kAu2, m_mk1, m_kMk, m_Raise, m_ends_rt, m_ends_ex, m_ends_nx, m_add, m_addB, m_sub, m_eqI, m_eqS, m_neI, m_neS, m_isB, m_isN, m_isNotN, m_nonN, m_nonR, m_nonT, m_nonI, m_nonS, m_nonB, m_lenT, m_lenK, m_tupT, m_max, m_min, m_intI, m_intB, m_pr0, m_pr, m_kpr, m_kpr2, m_Xf, m_Try, m_Try_nx, m_Try_rt, m_Try_bk, m_Try_ct, m_Try_ex, m_Suite_nx, m_Suite_rt, m_Suite_bk, m_Suite_ct, m_kXe, m_kXo, m_tlOf, m_For, m_Loop_nx, m_Loop_ct, m_Loop_bk, m_Loop_rt, m_Loop_ex, m_kB, m_iSeq, m_kItT, m_kItK, m_kItS, m_iRg1, m_iRg2, m_iEnu, m_kEnuK, m_iZp, m_kZpT, m_iRv, m_kRvT, m_Lc, m_kCell, m_kTurnT, m_kTurnF, m_wip0, m_wip1, m_Back, m_kBackT, m_rg1, m_kRgA, m_TupRg, m_LstRg, m_Dc, m_DturnT, m_DturnF, m_kDk, m_kDv, m_SSet, m_iRvR, m_At, m_Fst, m_kFs, m_Meth, m_kMe2, m_kMe3, m_Make, m_kMk1, m_kMade, m_ltI, m_geI, m_geP, m_isNotB, m_Get1, m_Get2, m_kGet2, m_Setd, m_kSd2, m_rg2, m_kRg2a, m_kRg2b, List.getElem?_cons_zero, List.getElem?_cons_succ, List.set_cons_zero, List.set_cons_succ, List.length_cons, List.length_nil, Nat.zero_add, Nat.reduceAdd, Nat.reduceLeDiff, Bool.not_true, Bool.not_false, mb__law_refused_right_18, mb__law_refused_right_16, mb__law_refused_right_15, mb__law_refused_right_14, mb__law_refused_right_11, mb__law_refused_right_10, mb__law_refused_right_9, mb__law_refused_right_8, mb__law_refused_right_7, mb__law_refused_right_6, mb__law_refused_right_5, mb__law_refused_right_4, mb__law_refused_right_2, decide_true]
  have x34 := x3.trans x4
  refine r_lst' fun l2 h2 => ?_
  have y1 := Ext.new (o := .lst [.int 0]) h2
  walk_at "m__law_refused_right"
  refine r_lst' fun l3 h3 => ?_
  have y2 := Ext.new (o := .lst [.ref l2, .tup [.int 0, .int 0], .tup [.int 120], .tup [.bl true], .non, .int 0]) h3
  have st4 := st2.ext x34
  walk_at "m__law_refused_right"
  refine ⟨m, a, b, 6, n + 17, rfl, by omega, by omega, (st4.ext y1).ext y2, fun r5 G5 s0 s1 kp5 st5 => ?_⟩
  walk_at "m__law_refused_right"
  obtain ⟨odd, hom, ho⟩ := at_some (us := [Wv.ref l2, .tup [.int 0, .int 0], .tup [.int 120], .tup [.bl true], .non, .int 0]) s0 (by simp only [List.length_cons, List.length_nil]; omega)
  refine r_ixL (.inl (kp5 _ _ (un (st4.ext y1) h3).1 updO_same)) ho ?_
  have e2 := kp5 _ _ (un st4 h2).1 (y2 _ _ updO_same)
  have n2 := (un st4 h2).1
  have hP5 := kp5 _ _ nP (y2 _ _ (y1 _ _ (x34 _ _ hP2)))
  have kw5 : ∀ {G' : HW}, Kp [m, b] G5 G' → KnL K G' w := fun k => kw _ ((((x1.kp.trans kp2).trans x34.kp).trans ((y1.trans y2).kp.trans kp5)).trans k)
  have ko : (∀ {G' : HW}, Kp [m, b] G5 G' → KnD K G' 120 odd) ∧ isConf odd 120 = false := by
    simp only [List.mem_cons, List.not_mem_nil, or_false] at hom
    rcases hom with rfl | rfl | rfl | rfl | rfl | rfl
    · exact ⟨fun k => knD_no (kn_lst (k _ _ n2 e2)) rfl, rfl⟩
    · exact ⟨fun k => knD_ints (ns := [0, 0]), by decide⟩
    · exact ⟨fun k => knD_ints (ns := [120]), by decide⟩
    · exact ⟨fun k => knD_tup fun y hy => by cases List.mem_singleton.mp hy; exact kn_bl, rfl⟩
    · exact ⟨fun k => knD_no kn_non rfl, rfl⟩
    · exact ⟨fun k => knD_no kn_int rfl, rfl⟩
  obtain ⟨ko, co⟩ := ko
  walk_at "m__law_refused_right"
  refine r_lst' fun l4 h4 => ?_
  have y4 := Ext.new (o := .lst [.int (-1), .int 120, .bl true, .non, .str "0", .tup [.int 0]]) h4
  walk_at "m__law_refused_right"
  refine ⟨m, a, b, 6, n + 16, rfl, by omega, by omega, st5.ext y4, fun r6 G6 u0 u1 kp6 st6 => ?_⟩
  walk_at "m__law_refused_right"
  obtain ⟨worse, hrm, hr⟩ := at_some (us := [Wv.int (-1), .int 120, .bl true, .non, .str "0", .tup [.int 0]]) u0 (by simp only [List.length_cons, List.length_nil]; omega)
  refine r_ixL (.inl (kp6 _ _ (un st5 h4).1 updO_same)) hr ?_
  have hP6 := kp6 _ _ nP (y4 _ _ hP5)
  have kr : (∀ {G' : HW}, Kn K G' worse) ∧ isWh worse 0 119 = false := by
    simp only [List.mem_cons, List.not_mem_nil, or_false] at hrm
    rcases hrm with rfl | rfl | rfl | rfl | rfl | rfl
    · exact ⟨kn_int, by decide⟩
    · exact ⟨kn_int, by decide⟩
    · exact ⟨kn_bl, rfl⟩
    · exact ⟨kn_non, rfl⟩
    · exact ⟨kn_str, rfl⟩
    · exact ⟨kn_tup, rfl⟩
  obtain ⟨kr, cr⟩ := kr
  have k56 := y4.kp.trans kp6
  have kw6 : ∀ {G' : HW}, Ext G6 G' → KnL K G' w := fun e => kw5 (k56.trans e.kp)
  have ko6 : ∀ {G' : HW}, Ext G6 G' → KnD K G' 120 odd := fun e => ko (k56.trans e.kp)
  have fin : ∀ (G7 : HW) (o6 : Option Wv), Ext G6 G7 → b__law_refused_right_13 T (endsW q x) [some (.ref m), some (.tup (L.map tup2)), some w, some (.int size), some odd, some worse, o6] G7 := fun G7 o6 z0 => by
    rw [mb__law_refused_right_13]
    walk_at "m__law_refused_right"
    have hP7 := z0 _ _ hP6
    refine r_tell hP7 (told_bad (.str "parts") (fun G0 xe qe ex0 hx => ?_) fun GA xA => ?_)
    · walk_at "m__law_refused_right"
      exact ⟨_, _, rfl, lp_second gl (ko6 (z0.trans ex0)) co fun G' e' => hx G' (ex0.trans e')⟩
    walk_at "m__law_refused_right"
    refine r_lst' fun M hM => ?_
    have t1 := xA.trans (Ext.new (o := .lst [.tup [.str "value", .str "parts"]]) hM)
    have nM : G7 M = none := xA.none hM
    walk_at "m__law_refused_right"
    refine r_M (.inl ⟨rfl, _, .inl updO_same⟩) ?_
    walk_at "m__law_refused_right"
    refine r_tell (t1 _ _ hP7) (told_bad (.str "parts") (fun G0 xe qe ex0 hx => ?_) fun GB xB => ?_)
    · walk_at "m__law_refused_right"
      exact ⟨_, _, rfl, lp_second gl (ko6 ((z0.trans t1).trans ex0)) co fun G' e' => hx G' (ex0.trans e')⟩
    walk_at "m__law_refused_right"
    refine r_app (xB _ _ updO_same) few ?_
    have t2 := (t1.trans xB).put (o := .lst ([.tup [.str "value", .str "parts"]] ++ [.tup [.str "value", .str "parts"]])) nM
    walk_at "m__law_refused_right"
    refine r_M (.inl ⟨rfl, _, .inl updO_same⟩) ?_
    walk_at "m__law_refused_right"
    refine r_tell (t2 _ _ hP7) (told_bad (.str "parts") (fun G0 xe qe ex0 hx => ?_) fun GC xC => ?_)
    · walk_at "m__law_refused_right"
      exact wf_second gl (ko6 ((z0.trans t2).trans ex0)) kr co fun G' e' => hx G' (ex0.trans e')
    walk_at "m__law_refused_right"
    refine r_app (xC _ _ updO_same) few ?_
    have t3 := (t2.trans xC).put (o := .lst (List.replicate 3 (.tup [.str "value", .str "parts"]))) nM
    walk_at "m__law_refused_right"
    refine r_lst' fun l7 h7 => ?_
    have x7 := Ext.new (o := .lst [.tup [.str "value", .str "parts"]]) h7
    walk_at "m__law_refused_right"
    refine r_mulL updO_same (by omega) (by omega) (by rw [sizeLine_eq]; exact Nat.le_of_ble_eq_true rfl) fun l8 h8 => ?_
    have x8 := Ext.new (o := .lst (List.replicate 3 (.tup [.str "value", .str "parts"]))) h8
    refine r_neSame (saids_dt (n := 3) (x8 _ _ (x7 _ _ updO_same))) (saids_dt (n := 3) updO_same) (saids_fit (b := "parts") (by decide +kernel) (by decide +kernel) (by omega)) ?_
    walk_at "m__law_refused_right"
    have t4 := (t3.trans x7).trans x8
    refine r_tell (t4 _ _ hP7) (told_bad (.str "number") (fun G0 xe qe ex0 hx => ?_) fun GD xD => ?_)
    · walk_at "m__law_refused_right"
      exact fall_second gl kr cr fun G' e' => hx G' (ex0.trans e')
    walk_at "m__law_refused_right"
    refine r_neSame said_dt said_dt (said_fit (b := "number") (by decide +kernel) (by decide +kernel)) ?_
    walk_at "m__law_refused_right"
    have t5 := t4.trans xD
    refine r_tell (t5 _ _ hP7) (told_bad (.str "number") (fun G0 xe qe ex0 hx => ?_) fun GE xE => ?_)
    · walk_at "m__law_refused_right"
      exact wf_third (ns := []) gl (cfg_nil (by omega)) kr cr fun G' e' => hx G' (ex0.trans e')
    walk_at "m__law_refused_right"
    refine r_eqSame said_dt said_dt (said_fit (b := "number") (by decide +kernel) (by decide +kernel)) ?_
    have all := z0.trans (t5.trans xE)
    exact hq _ (((((kp1.trans x1.kp).trans kp2).trans x34.kp).trans ((y1.trans y2).kp.trans kp5)).trans (k56.trans all.kp)) ((st6.mono (by omega)).ext all)
  walk_at "m__law_refused_right"
  refine ⟨w, 120, rfl, kw6 Ext.refl, fun G7 x7 => ?_⟩
  have hP7 := x7 _ _ hP6
  cases ec : isLks w 120 with
  | true =>
    walk_at "m__law_refused_right"
    exact fin G7 _ x7
  | false =>
    walk_at "m__law_refused_right"
    refine r_tell hP7 (told_bad (.str "links") (fun G0 xe qe ex0 hx => ?_) fun GA xA => ?_)
    · walk_at "m__law_refused_right"
      exact ⟨_, _, rfl, lp_first (kw6 (x7.trans ex0)) (ko6 (x7.trans ex0)) ec fun G' e' => hx G' (ex0.trans e')⟩
    walk_at "m__law_refused_right"
    refine r_lst' fun M hM => ?_
    have t1 := xA.trans (Ext.new (o := .lst [.tup [.str "value", .str "links"]]) hM)
    have nM : G7 M = none := xA.none hM
    walk_at "m__law_refused_right"
    refine r_M (.inl ⟨rfl, _, .inl updO_same⟩) ?_
    walk_at "m__law_refused_right"
    refine r_tell (t1 _ _ hP7) (told_bad (.str "links") (fun G0 xe qe ex0 hx => ?_) fun GB xB => ?_)
    · walk_at "m__law_refused_right"
      exact ⟨_, _, rfl, lp_first (kw6 ((x7.trans t1).trans ex0)) (ko6 ((x7.trans t1).trans ex0)) ec fun G' e' => hx G' (ex0.trans e')⟩
    walk_at "m__law_refused_right"
    refine r_app (xB _ _ updO_same) few ?_
    have t2 := (t1.trans xB).put (o := .lst ([.tup [.str "value", .str "links"]] ++ [.tup [.str "value", .str "links"]])) nM
    walk_at "m__law_refused_right"
    refine r_M (.inl ⟨rfl, _, .inl updO_same⟩) ?_
    walk_at "m__law_refused_right"
    refine r_tell (t2 _ _ hP7) (told_bad (.str "links") (fun G0 xe qe ex0 hx => ?_) fun GC xC => ?_)
    · walk_at "m__law_refused_right"
      exact fall_first (kw6 ((x7.trans t2).trans ex0)) kr ec fun G' e' => hx G' (ex0.trans e')
    walk_at "m__law_refused_right"
    refine r_app (xC _ _ updO_same) few ?_
    have t3 := (t2.trans xC).put (o := .lst ([.tup [.str "value", .str "links"]] ++ [.tup [.str "value", .str "links"]] ++ [.tup [.str "value", .str "links"]])) nM
    walk_at "m__law_refused_right"
    refine r_M (.inl ⟨rfl, _, .inl updO_same⟩) ?_
    walk_at "m__law_refused_right"
    refine r_tell (t3 _ _ hP7) (told_bad (.str "links") (fun G0 xe qe ex0 hx => ?_) fun GD xD => ?_)
    · walk_at "m__law_refused_right"
      exact wf_first (kw6 ((x7.trans t3).trans ex0)) (ko6 ((x7.trans t3).trans ex0)) kr ec fun G' e' => hx G' (ex0.trans e')
    walk_at "m__law_refused_right"
    refine r_app (xD _ _ updO_same) few ?_
    have t4 := (t3.trans xD).put (o := .lst (List.replicate 4 (.tup [.str "value", .str "links"]))) nM
    walk_at "m__law_refused_right"
    refine r_lst' fun l7 h7 => ?_
    have v7 := Ext.new (o := .lst [.tup [.str "value", .str "links"]]) h7
    walk_at "m__law_refused_right"
    refine r_mulL updO_same (by omega) (by omega) (by rw [sizeLine_eq]; exact Nat.le_of_ble_eq_true rfl) fun l8 h8 => ?_
    have v8 := Ext.new (o := .lst (List.replicate 4 (.tup [.str "value", .str "links"]))) h8
    refine r_neSame (saids_dt (n := 4) (v8 _ _ (v7 _ _ updO_same))) (saids_dt (n := 4) updO_same) (saids_fit (b := "links") (by decide +kernel) (by decide +kernel) (by omega)) ?_
    walk_at "m__law_refused_right"
    exact fin _ _ (x7.trans ((t4.trans v7).trans v8))
set_option maxHeartbeats 0 in
theorem ok__law_refused_right {P : Program} {w : World} {K : PySem.W.Frag} {mg : Str → Option Value} {base : Heap} (T : Txt K mg) (TB__law_refused_right : LamX.TabB base mg T.c__law_refused_right T.P__law_refused_right) : FnW P w K mg base 9 T.f__law_refused_right T.fd__law_refused_right ["_law_m", "_law_links_here"] (sp__law_refused_right T) :=
  fnW_ofL (t := t__law_refused_right T) (c := T.c__law_refused_right) T.F__law_refused_right T.hc__law_refused_right sc__law_refused_right (len__law_refused_right T) (fun A outer s H E hr => (zs_cons (z_asg (z_tup (z_acons (z_call (sel := [.p 0, .p 1]) (dws := []) (ok__law_spoilt T) (hr.mono (by decide)) rfl T.m__law_spoilt T.F__law_spoilt.kp (bind0 T.F__law_spoilt fun _ _ _ _ _ _ us uk h1 h2 => match us, h1, uk, h2 with | [_, _], _, [], _ => rfl) (takes_of rfl rfl rfl rfl) (z_acons (z_var (i := 0) rfl (by first | exact .inl rfl | exact .inr (.inl rfl) | exact .inr (.inr rfl))) (z_acons (z_var (i := 1) rfl (by first | exact .inl rfl | exact .inr (.inl rfl) | exact .inr (.inr rfl))) (z_anil)))) (z_acons (z_ix (hr).un (z_lst (z_acons (z_int) (z_acons (z_int) (z_acons (z_int) (z_acons (z_int) (z_anil)))))) (z_call (sel := [.p 0, .p 1]) (dws := []) (ok__law_draw T) (hr.mono (by decide)) rfl T.m__law_draw T.F__law_draw.kp (bind0 T.F__law_draw fun _ _ _ _ _ _ us uk h1 h2 => match us, h1, uk, h2 with | [_, _], _, [], _ => rfl) (takes_of rfl rfl rfl rfl) (z_acons (z_var (i := 0) rfl (by first | exact .inl rfl | exact .inr (.inl rfl) | exact .inr (.inr rfl))) (z_acons (z_int) (z_anil)))) (fun _ _ => rfl)) (z_anil)))) (zg_tup rfl (zg_cons (zg_name (i := 2) sc__law_refused_right.nd rfl (by first | exact .inl rfl | exact .inr rfl)) (zg_cons (zg_name (i := 3) sc__law_refused_right.nd rfl (by first | exact .inl rfl | exact .inr rfl)) (zg_nil))))) (zs_cons (z_if (z_qcmp (w_ne (hr).un) (z_callB (w_repr (hr).gd (hr).un) rfl T.n_repr boot_repr (z_acons (z_call (sel := [.p 0, .p 1]) (dws := [.int 120]) (ok_is_links T) (hr.mono (by decide)) rfl T.m_is_links T.F_is_links.kp (bindD T.F_is_links (fun z => nomatch z) (fun _ => (.cons (.int _) .nil)) fun _ _ _ _ _ _ _ us uk its h1 h2 h3 => match us, h1, uk, h2, its, h3 with | [_, _], _, [], _, [_], _ => ⟨_, rfl, rfl⟩) (takes_of rfl rfl rfl rfl) (z_acons (z_var (i := 2) rfl (by first | exact .inl rfl | exact .inr (.inl rfl) | exact .inr (.inr rfl))) (z_acons (z_var (i := 3) rfl (by first | exact .inl rfl | exact .inr (.inl rfl) | exact .inr (.inr rfl))) (z_anil)))) (z_anil))) (z_callB (w_repr (hr).gd (hr).un) rfl T.n_repr boot_repr (z_acons (z_call (sel := [.p 0, .p 1]) (dws := []) (ok__law_are_links T) (hr.mono (by decide)) rfl T.m__law_are_links T.F__law_are_links.kp (bind0 T.F__law_are_links fun _ _ _ _ _ _ us uk h1 h2 => match us, h1, uk, h2 with | [_, _], _, [], _ => rfl) (takes_of rfl rfl rfl rfl) (z_acons (z_var (i := 2) rfl (by first | exact .inl rfl | exact .inr (.inl rfl) | exact .inr (.inr rfl))) (z_acons (z_var (i := 3) rfl (by first | exact .inl rfl | exact .inr (.inl rfl) | exact .inr (.inr rfl))) (z_anil)))) (z_anil))) (by rfl)) (zs_one (z_ret (z_bl))) (zs_nil)) (zs_cons (z_set (i := 4) sc__law_refused_right.nd rfl (by first | exact .inl rfl | exact .inr rfl) (z_ix (hr).un (z_lst (z_acons (z_lst (z_acons (z_int) (z_anil))) (z_acons (z_tup (z_acons (z_int) (z_acons (z_int) (z_anil)))) (z_acons (z_tup (z_acons (z_int) (z_anil))) (z_acons (z_tup (z_acons (z_bl) (z_anil))) (z_acons (z_non) (z_acons (z_int) (z_anil)))))))) (z_call (sel := [.p 0, .p 1]) (dws := []) (ok__law_draw T) (hr.mono (by decide)) rfl T.m__law_draw T.F__law_draw.kp (bind0 T.F__law_draw fun _ _ _ _ _ _ us uk h1 h2 => match us, h1, uk, h2 with | [_, _], _, [], _ => rfl) (takes_of rfl rfl rfl rfl) (z_acons (z_var (i := 0) rfl (by first | exact .inl rfl | exact .inr (.inl rfl) | exact .inr (.inr rfl))) (z_acons (z_int) (z_anil)))) (fun _ _ => rfl))) (zs_cons (z_set (i := 5) sc__law_refused_right.nd rfl (by first | exact .inl rfl | exact .inr rfl) (z_ix (hr).un (z_lst (z_acons (z_neg (z_int)) (z_acons (z_int) (z_acons (z_bl) (z_acons (z_non) (z_acons (z_str) (z_acons (z_tup (z_acons (z_int) (z_anil))) (z_anil)))))))) (z_call (sel := [.p 0, .p 1]) (dws := []) (ok__law_draw T) (hr.mono (by decide)) rfl T.m__law_draw T.F__law_draw.kp (bind0 T.F__law_draw fun _ _ _ _ _ _ us uk h1 h2 => match us, h1, uk, h2 with | [_, _], _, [], _ => rfl) (takes_of rfl rfl rfl rfl) (z_acons (z_var (i := 0) rfl (by first | exact .inl rfl | exact .inr (.inl rfl) | exact .inr (.inr rfl))) (z_acons (z_int) (z_anil)))) (fun _ _ => rfl))) (zs_cons (z_if (z_qnot (z_q (z_call (sel := [.p 0, .p 1]) (dws := []) (ok__law_are_links T) (hr.mono (by decide)) rfl T.m__law_are_links T.F__law_are_links.kp (bind0 T.F__law_are_links fun _ _ _ _ _ _ us uk h1 h2 => match us, h1, uk, h2 with | [_, _], _, [], _ => rfl) (takes_of rfl rfl rfl rfl) (z_acons (z_var (i := 2) rfl (by first | exact .inl rfl | exact .inr (.inl rfl) | exact .inr (.inr rfl))) (z_acons (z_int) (z_anil)))))) (zs_cons (z_set (i := 6) sc__law_refused_right.nd rfl (by first | exact .inl rfl | exact .inr rfl) (z_lst (z_acons (z_tell (k := 5) (c := T.c__law_refused_right) (P0 := T.P__law_refused_right) (q0 := "_law_refused_right.<locals>.<lambda>") (Ng := ["_law_deed", "_law_error", "_law_found", "e"]) (a := "_law_deed") (ok__law_told T 5) rfl T.m__law_told T.F__law_told.kp (takes_of rfl rfl rfl rfl) rfl (Or.inl rfl) TB__law_refused_right rfl rfl (hr.mono (by decide)) (LamX.lamS_by rfl) rfl (fun _ _ _ _ _ => rfl) (fun A outer s H E f c' hL => z_call (sel := [.p 0, .p 1]) (dws := []) (ok_closure T) (hL.mono (by decide)) rfl T.m_closure T.F_closure.kp (bind0 T.F_closure fun _ _ _ _ _ _ us uk h1 h2 => match us, h1, uk, h2 with | [_, _], _, [], _ => rfl) (takes_of rfl rfl rfl rfl) (z_acons (z_var (i := 2) rfl (by first | exact .inl rfl | exact .inr (.inl rfl) | exact .inr (.inr rfl))) (z_acons (z_var (i := 4) rfl (by first | exact .inl rfl | exact .inr (.inl rfl) | exact .inr (.inr rfl))) (z_anil))))) (z_anil)))) (zs_cons (z_expr (z_bm PySem.F.plainAttrs_list PySem.F.slot_list_append PySem.F.type_list_append w_append (z_var (i := 6) rfl (by first | exact .inl rfl | exact .inr (.inl rfl) | exact .inr (.inr rfl))) (z_acons (z_tell (k := 6) (c := T.c__law_refused_right) (P0 := T.P__law_refused_right) (q0 := "_law_refused_right.<locals>.<lambda>") (Ng := ["_law_deed", "_law_error", "_law_found", "e"]) (a := "_law_deed") (ok__law_told T 6) rfl T.m__law_told T.F__law_told.kp (takes_of rfl rfl rfl rfl) rfl (Or.inl rfl) TB__law_refused_right rfl rfl (hr.mono (by decide)) (LamX.lamS_by rfl) rfl (fun _ _ _ _ _ => rfl) (fun A outer s H E f c' hL => z_call (sel := [.p 0, .p 1]) (dws := []) (ok_is_closed T) (hL.mono (by decide)) rfl T.m_is_closed T.F_is_closed.kp (bind0 T.F_is_closed fun _ _ _ _ _ _ us uk h1 h2 => match us, h1, uk, h2 with | [_, _], _, [], _ => rfl) (takes_of rfl rfl rfl rfl) (z_acons (z_var (i := 2) rfl (by first | exact .inl rfl | exact .inr (.inl rfl) | exact .inr (.inr rfl))) (z_acons (z_var (i := 4) rfl (by first | exact .inl rfl | exact .inr (.inl rfl) | exact .inr (.inr rfl))) (z_anil))))) (z_anil)))) (zs_cons (z_expr (z_bm PySem.F.plainAttrs_list PySem.F.slot_list_append PySem.F.type_list_append w_append (z_var (i := 6) rfl (by first | exact .inl rfl | exact .inr (.inl rfl) | exact .inr (.inr rfl))) (z_acons (z_tell (k := 5) (c := T.c__law_refused_right) (P0 := T.P__law_refused_right) (q0 := "_law_refused_right.<locals>.<lambda>") (Ng := ["_law_deed", "_law_error", "_law_found", "e"]) (a := "_law_deed") (ok__law_told T 5) rfl T.m__law_told T.F__law_told.kp (takes_of rfl rfl rfl rfl) rfl (Or.inl rfl) TB__law_refused_right rfl rfl (hr.mono (by decide)) (LamX.lamS_by rfl) rfl (fun _ _ _ _ _ => rfl) (fun A outer s H E f c' hL => z_call (sel := [.p 0, .p 1]) (dws := []) (ok_fall T) (hL.mono (by decide)) rfl T.m_fall T.F_fall.kp (bind0 T.F_fall fun _ _ _ _ _ _ us uk h1 h2 => match us, h1, uk, h2 with | [_, _], _, [], _ => rfl) (takes_of rfl rfl rfl rfl) (z_acons (z_var (i := 2) rfl (by first | exact .inl rfl | exact .inr (.inl rfl) | exact .inr (.inr rfl))) (z_acons (z_var (i := 5) rfl (by first | exact .inl rfl | exact .inr (.inl rfl) | exact .inr (.inr rfl))) (z_anil))))) (z_anil)))) (zs_cons (z_expr (z_bm PySem.F.plainAttrs_list PySem.F.slot_list_append PySem.F.type_list_append w_append (z_var (i := 6) rfl (by first | exact .inl rfl | exact .inr (.inl rfl) | exact .inr (.inr rfl))) (z_acons (z_tell (k := 5) (c := T.c__law_refused_right) (P0 := T.P__law_refused_right) (q0 := "_law_refused_right.<locals>.<lambda>") (Ng := ["_law_deed", "_law_error", "_law_found", "e"]) (a := "_law_deed") (ok__law_told T 5) rfl T.m__law_told T.F__law_told.kp (takes_of rfl rfl rfl rfl) rfl (Or.inl rfl) TB__law_refused_right rfl rfl (hr.mono (by decide)) (LamX.lamS_by rfl) rfl (fun _ _ _ _ _ => rfl) (fun A outer s H E f c' hL => z_call (sel := [.p 0, .p 1, .p 2]) (dws := []) (ok_without_fall T) (hL.mono (by decide)) rfl T.m_without_fall T.F_without_fall.kp (bind0 T.F_without_fall fun _ _ _ _ _ _ us uk h1 h2 => match us, h1, uk, h2 with | [_, _, _], _, [], _ => rfl) (takes_of rfl rfl rfl rfl) (z_acons (z_var (i := 2) rfl (by first | exact .inl rfl | exact .inr (.inl rfl) | exact .inr (.inr rfl))) (z_acons (z_var (i := 4) rfl (by first | exact .inl rfl | exact .inr (.inl rfl) | exact .inr (.inr rfl))) (z_acons (z_var (i := 5) rfl (by first | exact .inl rfl | exact .inr (.inl rfl) | exact .inr (.inr rfl))) (z_anil)))))) (z_anil)))) (zs_one (z_if (z_qcmp (w_ne (hr).un) (z_var (i := 6) rfl (by first | exact .inl rfl | exact .inr (.inl rfl) | exact .inr (.inr rfl))) (z_bin w_mul (z_lst (z_acons (z_tup (z_acons (z_str) (z_acons (z_str) (z_anil)))) (z_anil))) (z_int)) (by rfl)) (zs_one (z_ret (z_bl))) (zs_nil))))))) (zs_nil)) (zs_cons (z_set (i := 6) sc__law_refused_right.nd rfl (by first | exact .inl rfl | exact .inr rfl) (z_lst (z_acons (z_tell (k := 5) (c := T.c__law_refused_right) (P0 := T.P__law_refused_right) (q0 := "_law_refused_right.<locals>.<lambda>") (Ng := ["_law_deed", "_law_error", "_law_found", "e"]) (a := "_law_deed") (ok__law_told T 5) rfl T.m__law_told T.F__law_told.kp (takes_of rfl rfl rfl rfl) rfl (Or.inl rfl) TB__law_refused_right rfl rfl (hr.mono (by decide)) (LamX.lamS_by rfl) rfl (fun _ _ _ _ _ => rfl) (fun A outer s H E f c' hL => z_call (sel := [.p 0, .p 1]) (dws := []) (ok_closure T) (hL.mono (by decide)) rfl T.m_closure T.F_closure.kp (bind0 T.F_closure fun _ _ _ _ _ _ us uk h1 h2 => match us, h1, uk, h2 with | [_, _], _, [], _ => rfl) (takes_of rfl rfl rfl rfl) (z_acons (z_var (i := 1) rfl (by first | exact .inl rfl | exact .inr (.inl rfl) | exact .inr (.inr rfl))) (z_acons (z_var (i := 4) rfl (by first | exact .inl rfl | exact .inr (.inl rfl) | exact .inr (.inr rfl))) (z_anil))))) (z_anil)))) (zs_cons (z_expr (z_bm PySem.F.plainAttrs_list PySem.F.slot_list_append PySem.F.type_list_append w_append (z_var (i := 6) rfl (by first | exact .inl rfl | exact .inr (.inl rfl) | exact .inr (.inr rfl))) (z_acons (z_tell (k := 6) (c := T.c__law_refused_right) (P0 := T.P__law_refused_right) (q0 := "_law_refused_right.<locals>.<lambda>") (Ng := ["_law_deed", "_law_error", "_law_found", "e"]) (a := "_law_deed") (ok__law_told T 6) rfl T.m__law_told T.F__law_told.kp (takes_of rfl rfl rfl rfl) rfl (Or.inl rfl) TB__law_refused_right rfl rfl (hr.mono (by decide)) (LamX.lamS_by rfl) rfl (fun _ _ _ _ _ => rfl) (fun A outer s H E f c' hL => z_call (sel := [.p 0, .p 1]) (dws := []) (ok_is_closed T) (hL.mono (by decide)) rfl T.m_is_closed T.F_is_closed.kp (bind0 T.F_is_closed fun _ _ _ _ _ _ us uk h1 h2 => match us, h1, uk, h2 with | [_, _], _, [], _ => rfl) (takes_of rfl rfl rfl rfl) (z_acons (z_var (i := 1) rfl (by first | exact .inl rfl | exact .inr (.inl rfl) | exact .inr (.inr rfl))) (z_acons (z_var (i := 4) rfl (by first | exact .inl rfl | exact .inr (.inl rfl) | exact .inr (.inr rfl))) (z_anil))))) (z_anil)))) (zs_cons (z_expr (z_bm PySem.F.plainAttrs_list PySem.F.slot_list_append PySem.F.type_list_append w_append (z_var (i := 6) rfl (by first | exact .inl rfl | exact .inr (.inl rfl) | exact .inr (.inr rfl))) (z_acons (z_tell (k := 5) (c := T.c__law_refused_right) (P0 := T.P__law_refused_right) (q0 := "_law_refused_right.<locals>.<lambda>") (Ng := ["_law_deed", "_law_error", "_law_found", "e"]) (a := "_law_deed") (ok__law_told T 5) rfl T.m__law_told T.F__law_told.kp (takes_of rfl rfl rfl rfl) rfl (Or.inl rfl) TB__law_refused_right rfl rfl (hr.mono (by decide)) (LamX.lamS_by rfl) rfl (fun _ _ _ _ _ => rfl) (fun A outer s H E f c' hL => z_call (sel := [.p 0, .p 1, .p 2]) (dws := []) (ok_without_fall T) (hL.mono (by decide)) rfl T.m_without_fall T.F_without_fall.kp (bind0 T.F_without_fall fun _ _ _ _ _ _ us uk h1 h2 => match us, h1, uk, h2 with | [_, _, _], _, [], _ => rfl) (takes_of rfl rfl rfl rfl) (z_acons (z_var (i := 1) rfl (by first | exact .inl rfl | exact .inr (.inl rfl) | exact .inr (.inr rfl))) (z_acons (z_var (i := 4) rfl (by first | exact .inl rfl | exact .inr (.inl rfl) | exact .inr (.inr rfl))) (z_acons (z_var (i := 5) rfl (by first | exact .inl rfl | exact .inr (.inl rfl) | exact .inr (.inr rfl))) (z_anil)))))) (z_anil)))) (zs_cons (z_if (z_bool (z_or (z_qcmp (w_ne (hr).un) (z_var (i := 6) rfl (by first | exact .inl rfl | exact .inr (.inl rfl) | exact .inr (.inr rfl))) (z_bin w_mul (z_lst (z_acons (z_tup (z_acons (z_str) (z_acons (z_str) (z_anil)))) (z_anil))) (z_int)) (by rfl)) (z_or1 (z_qcmp (w_ne (hr).un) (z_tell (k := 5) (c := T.c__law_refused_right) (P0 := T.P__law_refused_right) (q0 := "_law_refused_right.<locals>.<lambda>") (Ng := ["_law_deed", "_law_error", "_law_found", "e"]) (a := "_law_deed") (ok__law_told T 5) rfl T.m__law_told T.F__law_told.kp (takes_of rfl rfl rfl rfl) rfl (Or.inl rfl) TB__law_refused_right rfl rfl (hr.mono (by decide)) (LamX.lamS_by rfl) rfl (fun _ _ _ _ _ => rfl) (fun A outer s H E f c' hL => z_call (sel := [.p 0, .p 1]) (dws := []) (ok_fall T) (hL.mono (by decide)) rfl T.m_fall T.F_fall.kp (bind0 T.F_fall fun _ _ _ _ _ _ us uk h1 h2 => match us, h1, uk, h2 with | [_, _], _, [], _ => rfl) (takes_of rfl rfl rfl rfl) (z_acons (z_var (i := 1) rfl (by first | exact .inl rfl | exact .inr (.inl rfl) | exact .inr (.inr rfl))) (z_acons (z_var (i := 5) rfl (by first | exact .inl rfl | exact .inr (.inl rfl) | exact .inr (.inr rfl))) (z_anil))))) (z_tup (z_acons (z_str) (z_acons (z_str) (z_anil)))) (by rfl))))) (zs_one (z_ret (z_bl))) (zs_nil)) (zs_one (z_ret (z_cmp (w_eq (hr).un) (z_tell (k := 5) (c := T.c__law_refused_right) (P0 := T.P__law_refused_right) (q0 := "_law_refused_right.<locals>.<lambda>") (Ng := ["_law_deed", "_law_error", "_law_found", "e"]) (a := "_law_deed") (ok__law_told T 5) rfl T.m__law_told T.F__law_told.kp (takes_of rfl rfl rfl rfl) rfl (Or.inl rfl) TB__law_refused_right rfl rfl (hr.mono (by decide)) (LamX.lamS_by rfl) rfl (fun _ _ _ _ _ => rfl) (fun A outer s H E f c' hL => z_call (sel := [.p 0, .p 1, .p 2]) (dws := []) (ok_without_fall T) (hL.mono (by decide)) rfl T.m_without_fall T.F_without_fall.kp (bind0 T.F_without_fall fun _ _ _ _ _ _ us uk h1 h2 => match us, h1, uk, h2 with | [_, _, _], _, [], _ => rfl) (takes_of rfl rfl rfl rfl) (z_acons (z_var (i := 1) rfl (by first | exact .inl rfl | exact .inr (.inl rfl) | exact .inr (.inr rfl))) (z_acons (z_tup (z_anil)) (z_acons (z_var (i := 5) rfl (by first | exact .inl rfl | exact .inr (.inl rfl) | exact .inr (.inr rfl))) (z_anil)))))) (z_tup (z_acons (z_str) (z_acons (z_str) (z_anil)))) (by rfl)))))))))))))) (pf__law_refused_right T)

/-! ### _law_links -/
theorem sc__law_links : FnScope ["_law_m", "_law_size", "_law_found", "_law_k", "_law_one", "_law_other"] ["_law_m", "_law_size"] (defScope s__law_links) := ⟨rfl, rfl, rfl, by decide +kernel, rfl, by decide +kernel, by decide +kernel⟩
def sp__law_links {K : PySem.W.Frag} {mg : Str → Option Value} (T : Txt K mg) : SpW := fun ws G q _ => ∃ m a b, ∃ size n : Nat, ws = [.ref m, .int size] ∧ size ≤ 120 ∧ DSt G m a b (n + 1200) ∧ ∀ (L : Lk) G', GoodL L size → Kp [m, b] G G' → DSt G' m a b n → q (.tup (L.map tup2)) G'
theorem len__law_links {K : PySem.W.Frag} {mg : Str → Option Value} (T : Txt K mg) (ws : List Wv) (G : HW) (q : WK) (x : XE) (h : sp__law_links T ws G q x) : ws.length = 2 := by
  obtain ⟨m, a, b, size, n, rfl, _⟩ := h
  rfl
def b__law_links_6 {K : PySem.W.Frag} {mg : Str → Option Value} (T : Txt K mg) : ST := sRet (eCB wTuple (aCons (eCB wSrt (aCons (eV 2) (aNil))) (aNil)))
theorem mb__law_links_6 {K : PySem.W.Frag} {mg : Str → Option Value} (T : Txt K mg) (D : EndsW) (σ : SW) (G : HW) : b__law_links_6 T D σ G = (sRet (eCB wTuple (aCons (eCB wSrt (aCons (eV 2) (aNil))) (aNil)))) D σ G := rfl
def b__law_links_4 {K : PySem.W.Frag} {mg : Str → Option Value} (T : Txt K mg) : ST := sIf (qAnd (qOp wNe (eV 4) (eV 5)) (qAnd (qOr (qOp oGt (eV 4) (eV 5)) (qOp wEq (eCall 2 0 [.p 0, .p 1] [] (sp__law_draw T) (aCons (eV 0) (aCons (eC (.int 3)) (aNil))) aNil) (eC (.int 0)))) (qOp (wInA true) (eTup (aCons (eV 4) (aCons (eV 5) (aNil)))) (eV 2)))) (sExpr (eBM "list" wAppend (eV 2) (aCons (eTup (aCons (eV 4) (aCons (eV 5) (aNil)))) (aNil)))) (sNext)
theorem mb__law_links_4 {K : PySem.W.Frag} {mg : Str → Option Value} (T : Txt K mg) (D : EndsW) (σ : SW) (G : HW) : b__law_links_4 T D σ G = (sIf (qAnd (qOp wNe (eV 4) (eV 5)) (qAnd (qOr (qOp oGt (eV 4) (eV 5)) (qOp wEq (eCall 2 0 [.p 0, .p 1] [] (sp__law_draw T) (aCons (eV 0) (aCons (eC (.int 3)) (aNil))) aNil) (eC (.int 0)))) (qOp (wInA true) (eTup (aCons (eV 4) (aCons (eV 5) (aNil)))) (eV 2)))) (sExpr (eBM "list" wAppend (eV 2) (aCons (eTup (aCons (eV 4) (aCons (eV 5) (aNil)))) (aNil)))) (sNext)) D σ G := rfl
def b__law_links_3 {K : PySem.W.Frag} {mg : Str → Option Value} (T : Txt K mg) : ST := sSeq (sPar 4 5 (aCons (eCall 2 0 [.p 0, .p 1] [] (sp__law_draw T) (aCons (eV 0) (aCons (eCB wMax (aCons (eC (.int 1)) (aCons (eV 1) (aNil)))) (aNil))) aNil) (aCons (eCall 2 0 [.p 0, .p 1] [] (sp__law_draw T) (aCons (eV 0) (aCons (eCB wMax (aCons (eC (.int 1)) (aCons (eV 1) (aNil)))) (aNil))) aNil) (aNil)))) (b__law_links_4 T)
theorem mb__law_links_3 {K : PySem.W.Frag} {mg : Str → Option Value} (T : Txt K mg) (D : EndsW) (σ : SW) (G : HW) : b__law_links_3 T D σ G = (sSeq (sPar 4 5 (aCons (eCall 2 0 [.p 0, .p 1] [] (sp__law_draw T) (aCons (eV 0) (aCons (eCB wMax (aCons (eC (.int 1)) (aCons (eV 1) (aNil)))) (aNil))) aNil) (aCons (eCall 2 0 [.p 0, .p 1] [] (sp__law_draw T) (aCons (eV 0) (aCons (eCB wMax (aCons (eC (.int 1)) (aCons (eV 1) (aNil)))) (aNil))) aNil) (aNil)))) (b__law_links_4 T)) D σ G := rfl
def b__law_links_2 {K : PySem.W.Frag} {mg : Str → Option Value} (T : Txt K mg) : ST := sSeq (sFor (iRg1 (aCons (eCall 2 0 [.p 0, .p 1] [] (sp__law_draw T) (aCons (eV 0) (aCons (eOp wIx (eLst (aCons (eC (.int 1)) (aCons (eOp wAdd (eV 1) (eC (.int 1))) (aCons (eOp wAdd (eOp wMul (eC (.int 3)) (eV 1)) (eC (.int 1))) (aNil))))) (eCall 2 0 [.p 0, .p 1] [] (sp__law_draw T) (aCons (eV 0) (aCons (eC (.int 3)) (aNil))) aNil)) (aNil))) aNil) (aNil))) (gNm 3) (b__law_links_3 T)) (b__law_links_6 T)
theorem mb__law_links_2 {K : PySem.W.Frag} {mg : Str → Option Value} (T : Txt K mg) (D : EndsW) (σ : SW) (G : HW) : b__law_links_2 T D σ G = (sSeq (sFor (iRg1 (aCons (eCall 2 0 [.p 0, .p 1] [] (sp__law_draw T) (aCons (eV 0) (aCons (eOp wIx (eLst (aCons (eC (.int 1)) (aCons (eOp wAdd (eV 1) (eC (.int 1))) (aCons (eOp wAdd (eOp wMul (eC (.int 3)) (eV 1)) (eC (.int 1))) (aNil))))) (eCall 2 0 [.p 0, .p 1] [] (sp__law_draw T) (aCons (eV 0) (aCons (eC (.int 3)) (aNil))) aNil)) (aNil))) aNil) (aNil))) (gNm 3) (b__law_links_3 T)) (b__law_links_6 T)) D σ G := rfl
def t__law_links {K : PySem.W.Frag} {mg : Str → Option Value} (T : Txt K mg) : ST := sSeq (sSet 2 (eLst (aNil))) (b__law_links_2 T)
local macro_rules | `(tactic| walk_at "m__law_links") => `(tactic| simp only [m_V, m_kV, m_C, m_Op, m_kOp, m_kOp2, m_kBl, m_qOp, m_kCh2, m_kCh2f, m_kCh3, m_kCh1, m_kCh, m_Ch, m_qCh, m_oNone, m_oSome, m_kO, m_Sl, m_kSl, m_kSl1, m_kSl2, m_slT, m_qT, m_kTru, m_tB, m_tN, m_tI, m_tT, m_qA, m_qO, m_qN, m_kqAt, m_kqAf, m_kqOt, m_kqOf, m_kqN, m_qYes, m_A, m_Or, m_N, m_Neg, m_kAt, m_kAf, m_kOrt, m_kOrf, m_kN, m_kNeg, m_If, m_kIft, m_kIff, m_an, m_ac, m_kac, m_kac2, m_Tup, m_Lst, m_kTup, m_CB, m_kCB, m_pk1, m_pp, m_pkk, m_pd, m_pn, m_kX, m_Call, m_kC1, m_kC2, m_BM, m_BM0, m_kM1, m_Seq, m_Seq_nx, m_Seq_rt, m_Seq_bk, m_Seq_ct, m_Seq_ex, m_Next, m_Brk, m_Cont, m_Expr, m_kEx, m_Ret, m_RetN, m_SIf, m_kSIft, m_kSIff, m_Set, m_kSet, m_Par, m_kPar, m_Par3, m_kPar3, m_Asg, m_kAsg, m_gNm, m_kG, m_gNo, m_gMo, m_gTu, m_gSb, m_kGs, m_kGs2, m_kW2, m_Aug, m_kAug, m_kAu, m_kAu2, m_mk1, m_kMk, m_Raise, m_ends_rt, m_ends_ex, m_ends_nx, m_add, m_addB, m_sub, m_eqI, m_eqS, m_neI, m_neS, m_isB, m_isN, m_isNotN, m_nonN, m_nonR, m_nonT, m_nonI, m_nonS, m_nonB, m_lenT, m_lenK, m_tupT, m_max, m_min, m_intI, m_intB, m_pr0, m_pr, m_kpr, m_kpr2, m_Xf, m_Try, m_Try_nx, m_Try_rt, m_Try_bk, m_Try_ct, m_Try_ex, m_Suite_nx, m_Suite_rt, m_Suite_bk, m_Suite_ct, m_kXe, m_kXo, m_tlOf, m_For, m_Loop_nx, m_Loop_ct, m_Loop_bk, m_Loop_rt, m_Loop_ex, m_kB, m_iSeq, m_kItT, m_kItK, m_kItS, m_iRg1, m_iRg2, m_iEnu, m_kEnuK, m_iZp, m_kZpT, m_iRv, m_kRvT, m_Lc, m_kCell, m_kTurnT, m_kTurnF, m_wip0, m_wip1, m_Back, m_kBackT, m_rg1, m_kRgA, m_TupRg, m_LstRg, m_Dc, m_DturnT, m_DturnF, m_kDk, m_kDv, m_SSet, m_iRvR, m_At, m_Fst, m_kFs, m_Meth, m_kMe2, m_kMe3, m_Make, m_kMk1, m_kMade, m_ltI, m_geI, m_geP, m_isNotB, m_Get1, m_Get2, m_kGet2, m_Setd, m_kSd2, m_rg2, m_kRg2a, m_kRg2b, List.getElem?_cons_zero, List.getElem?_cons_succ, List.set_cons_zero, List.set_cons_succ, List.length_cons, List.length_nil, Nat.zero_add, Nat.reduceAdd, Nat.reduceLeDiff, Bool.not_true, Bool.not_false, mb__law_links_6, mb__law_links_4, mb__law_links_3, mb__law_links_2])
theorem pf__law_links {K : PySem.W.Frag} {mg : Str → Option Value} (T : Txt K mg) (ws : List Wv) (G : HW) (q : WK) (x : XE) (h : sp__law_links T ws G q x) : t__law_links T (endsW q x) (startW ["_law_m", "_law_size", "_law_found", "_law_k", "_law_one", "_law_other"] ws) G := by
  obtain ⟨m, a, b, size, n, rfl, hz, st, hq⟩ := h
  have un : ∀ {G : HW} {l : Addr} {k : Nat}, DSt G m a b k → G l = none → l ∉ [m, b] ∧ l ≠ m ∧ l ≠ a ∧ l ≠ b := fun ⟨k, c, lf, h1, h2, _, h4, _⟩ hl => ⟨by simp [(ne_of_new h1 hl).symm, (ne_of_new h4 hl).symm], (ne_of_new h1 hl).symm, (ne_of_new h2 hl).symm, (ne_of_new h4 hl).symm⟩
  show t__law_links T (endsW q x) [some (.ref m), some (.int size), none, none, none, none] G
  unfold t__law_links
  walk_at "m__law_links"
  refine r_lst' fun D hD => ?_
  have xD := Ext.new (o := .lst []) hD
  obtain ⟨nDS, nDm, nDa, nDb⟩ := un st hD
  walk_at "m__law_links"
  refine r_mul (.inr ⟨by omega, by omega⟩) ?_
  walk_at "m__law_links"
  refine r_lst' fun l hl => ?_
  have xl := Ext.new (o := .lst [.int 1, .int (size + 1), .int (3 * size + 1)]) hl
  have st0 := (st.ext xD).ext xl
  have nl := (un (st.ext xD) hl).1
  walk_at "m__law_links"
  refine ⟨m, a, b, 3, n + 1199, rfl, by omega, by omega, st0, fun r G1 r0 r1 kp1 st1 => ?_⟩
  walk_at "m__law_links"
  obtain ⟨top, htop, ht0, ht⟩ : ∃ top : Nat, atI [Wv.int 1, .int (size + 1), .int (3 * size + 1)] r = some (.int top) ∧ 0 < top ∧ top ≤ 361 := by
    rcases (by omega : r = 0 ∨ r = 1 ∨ r = 2) with rfl | rfl | rfl
    · exact ⟨1, rfl, by omega, by omega⟩
    · exact ⟨size + 1, rfl, by omega, by omega⟩
    · exact ⟨3 * size + 1, rfl, by omega, by omega⟩
  refine r_ixL (.inl (kp1 _ _ nl updO_same)) htop ?_
  walk_at "m__law_links"
  refine ⟨m, a, b, top, n + 1198, rfl, by omega, by omega, st1, fun c G2 c0 c1 kp2 st2 => ?_⟩
  walk_at "m__law_links"
  refine r_rg1 (by omega) (by omega) ?_
  have xD1 : Kp [m, b] G G1 := ((xD.trans xl).kp).trans kp1
  have eD1 : G2 D = some (.lst []) := kp2 _ _ nDS (kp1 _ _ nDS (xl _ _ updO_same))
  obtain ⟨PI, hPI⟩ : ∃ PI : Nat → SW → HW → Prop, PI = fun i σ G3 => ∃ (o3 o4 o5 : Option Wv) (ps : Lk), σ = [some (.ref m), some (.int size), some (.ref D), o3, o4, o5] ∧ ps.length ≤ i ∧ (∀ p ∈ ps, (0 ≤ p.1 ∧ p.1 < size ∧ 0 ≤ p.2 ∧ p.2 < size) ∧ p.1 ≠ p.2) ∧ ps.Nodup ∧ G3 D = some (.lst (ps.map tup2)) ∧ Kp [m, b] G G3 ∧ DSt G3 m a b (n + 3 * (c.toNat - i)) := ⟨_, rfl⟩
  refine r_for PI (by rw [hPI]; exact ⟨_, _, _, [], rfl, Nat.le_refl _, (fun p hp => nomatch hp), List.nodup_nil, eD1, xD1.trans kp2, st2.mono (by omega)⟩) (fun _ _ _ _ _ => trivial) ?_ ?_
  · rintro i w σ2 G3 ew hP
    rw [hPI] at hP
    obtain ⟨o3, o4, o5, ps, rfl, hl, hp, nd, eD, kp, st3⟩ := hP
    obtain ⟨hi, rfl⟩ := rg_nat ew
    have hi : i < c.toNat := by simpa using hi
    walk_at "m__law_links"
    refine ⟨m, a, b, _, n + 3 * (c.toNat - i) - 1, rfl, by split <;> omega, by split <;> omega, st3.mono (by omega), fun one G4 s0 s1 kp4 st4 => ?_⟩
    walk_at "m__law_links"
    refine ⟨m, a, b, _, n + 3 * (c.toNat - i) - 2, rfl, by split <;> omega, by split <;> omega, st4.mono (by omega), fun other G5 u0 u1 kp5 st5 => ?_⟩
    have k35 := kp4.trans kp5
    have k5 := kp.trans k35
    have eD5 := k35 _ _ nDS eD
    have skip : ∀ {G' : HW} {k : Nat}, Kp [m, b] G5 G' → DSt G' m a b k → n + 3 * (c.toNat - (i + 1)) ≤ k → PI (i + 1) [some (Wv.ref m), some (.int size), some (.ref D), some (.int i), some (.int one), some (.int other)] G' :=
      fun k' s' h' => by rw [hPI]; exact ⟨_, _, _, ps, rfl, by omega, hp, nd, k' _ _ nDS eD5, k5.trans k', s'.mono h'⟩
    walk_at "m__law_links"
    by_cases e1 : one = other
    · subst e1
      simp only [m_V, m_kV, m_C, m_Op, m_kOp, m_kOp2, m_kBl, m_qOp, m_kCh2, m_kCh2f, m_kCh3, m_kCh1, m_kCh, m_Ch, m_qCh, m_oNone, m_oSome, m_kO, m_Sl, m_kSl, m_kSl1, m_kSl2, m_slT, m_qT, m_kTru, m_tB, m_tN, m_tI, m_tT, m_qA, m_qO, m_qN, m_kqAt, m_kqAf, m_kqOt, m_kqOf, m_kqN, m_qYes, m_A, m_Or, m_N, m_Neg, m_kAt, m_kAf, m_kOrt, m_kOrf, m_kN, m_kNeg, m_If, m_kIft, m_kIff, m_an, m_ac, m_kac, m_kac2, m_Tup, m_Lst, m_kTup, m_CB, m_kCB, m_pk1, m_pp, m_pkk, m_pd, m_pn, m_kX, m_Call, m_kC1, m_kC2, m_BM, m_BM0, m_kM1, m_Seq, m_Seq_nx, m_Seq_rt, m_Seq_bk, m_Seq_ct, m_Seq_ex, m_Next, m_Brk, m_Cont, m_Expr, m_kEx, m_Ret, m_RetN, m_SIf, m_kSIft, m_kSIff, m_Set, m_kSet, m_Par, m_kPar, m_Par3, m_kPar3, m_Asg, m_kAsg, m_gNm, m_kG, m_gNo, m_gMo, m_gTu, m_gSb, m_kGs, m_kGs2, m_kW2, m_Aug, m_kAug, m_kAu, m_kAu2, m_mk1, m_kMk, m_Raise, m_ends_rt, m_ends_ex, m_ends_nx, m_add, m_addB, m_sub, m_eqI, m_eqS, m_neI, m_neS, m_isB, m_isN, m_isNotN, m_nonN, m_nonR, m_nonT, m_nonI, m_nonS, m_nonB, m_lenT, m_lenK, m_tupT, m_max, m_min, m_intI, m_intB, m_pr0, m_pr, m_kpr, m_kpr2, m_Xf, m_Try, m_Try_nx, m_Try_rt, m_Try_bk, m_Try_ct, m_Try_ex, m_Suite_nx, m_Suite_rt, m_Suite_bk, m_Suite_ct, m_kXe, m_kXo, m_tlOf, m_For, m_Loop_nx, m_Loop_ct, m_Loop_bk, m_Loop_rt, m_Loop_ex, m_kB, m_iSeq, m_kItT, m_kItK, m_kItS, m_iRg1, m_iRg2, m_iEnu, m_kEnuK, m_iZp, m_kZpT, m_iRv, m_kRvT, m_Lc, m_kCell, m_kTurnT, m_kTurnF, m_wip0, m_wip1, m_Back, m_kBackT, m_rg1, m_kRgA, m_TupRg, m_LstRg, m_Dc, m_DturnT, m_DturnF, m_kDk, m_kDv, m_SSet, m_iRvR, m_At, m_Fst, m_kFs, m_Meth, m_kMe2, m_kMe3, m_Make, m_kMk1, m_kMade, m_ltI, m_geI, m_geP, m_isNotB, m_Get1, m_Get2, m_kGet2, m_Setd, m_kSd2, m_rg2, m_kRg2a, m_kRg2b, List.getElem?_cons_zero, List.getElem?_cons_succ, List.set_cons_zero, List.set_cons_succ, List.length_cons, List.length_nil, Nat.zero_add, Nat.reduceAdd, Nat.reduceLeDiff, Bool.not_true, Bool.not_false, mb__law_links_6, mb__law_links_4, mb__law_links_3, mb__law_links_2, decide_true]
      exact skip Kp.refl st5 (by omega)
    have sz : one < size ∧ other < size := by
      split at s1 <;> split at u1 <;> omega
    have add : ∀ {G' : HW} {k : Nat}, Kp [m, b] G5 G' → DSt G' m a b k → n + 3 * (c.toNat - (i + 1)) ≤ k → wInA true (.tup [.int one, .int other]) (.ref D) G' (kBl (kSIf (sExpr (eBM "list" wAppend (eV 2) (aCons (eTup (aCons (eV 4) (aCons (eV 5) aNil))) aNil))) sNext
      (kLoop (kSeq (b__law_links_6 T) (endsW q x)) (PI (i + 1))) [some (Wv.ref m), some (.int size), some (.ref D), some (.int i), some (.int one), some (.int other)])) := fun {G' k} k' s' h' => by
      have eD' := k' _ _ nDS eD5
      refine r_inDt (dt_pair (one, other)) (.lst (.inl eD') (dts_pairs ps)) ((pair_fit (by dsimp only; omega) (by dsimp only; omega)).shaped (by decide)) ((pairs_fit fun p hm => by have := (hp p hm).1; omega).shaped (by decide)) ?_
      rw [pair_any]
      by_cases e6 : (one, other) ∈ ps
      · simp only [m_V, m_kV, m_C, m_Op, m_kOp, m_kOp2, m_kBl, m_qOp, m_kCh2, m_kCh2f, m_kCh3, m_kCh1, m_kCh, m_Ch, m_qCh, m_oNone, m_oSome, m_kO, m_Sl, m_kSl, m_kSl1, m_kSl2, m_slT, m_qT, m_kTru, m_tB, m_tN, m_tI, m_tT, m_qA, m_qO, m_qN, m_kqAt, m_kqAf, m_kqOt, m_kqOf, m_kqN, m_qYes, m_A, m_Or, m_N, m_Neg, m_kAt, m_kAf, m_kOrt, m_kOrf, m_kN, m_kNeg, m_If, m_kIft, m_kIff, m_an, m_ac, m_kac, m_kac2, m_Tup, m_Lst, m_kTup, m_CB, m_kCB, m_pk1, m_pp, m_pkk, m_pd, m_pn, m_kX, m_Call, m_kC1, m_kC2, m_BM, m_BM0, m_kM1, m_Seq, m_Seq_nx, m_Seq_rt, m_Seq_bk, m_Seq_ct, m_Seq_ex, m_Next, m_Brk, m_Cont, m_Expr, m_kEx, m_Ret, m_RetN, m_SIf, m_kSIft, m_kSIff, m_Set, m_kSet, m_Par, m_kPar, m_Par3, m_kPar3, m_Asg, m_kAsg, m_gNm, m_kG, m_gNo, m_gMo, m_gTu, m_gSb, m_kGs, m_kGs2, m_kW2, m_Aug, m_kAug, m_kAu, m_kAu2, m_mk1, m_kMk, m_Raise, m_ends_rt, m_ends_ex, m_ends_nx, m_add, m_addB, m_sub, m_eqI, m_eqS, m_neI, m_neS, m_isB, m_isN, m_isNotN, m_nonN, m_nonR, m_nonT, m_nonI, m_nonS, m_nonB, m_lenT, m_lenK, m_tupT, m_max, m_min, m_intI, m_intB, m_pr0, m_pr, m_kpr, m_kpr2, m_Xf, m_Try, m_Try_nx, m_Try_rt, m_Try_bk, m_Try_ct, m_Try_ex, m_Suite_nx, m_Suite_rt, m_Suite_bk, m_Suite_ct, m_kXe, m_kXo, m_tlOf, m_For, m_Loop_nx, m_Loop_ct, m_Loop_bk, m_Loop_rt, m_Loop_ex, m_kB, m_iSeq, m_kItT, m_kItK, m_kItS, m_iRg1, m_iRg2, m_iEnu, m_kEnuK, m_iZp, m_kZpT, m_iRv, m_kRvT, m_Lc, m_kCell, m_kTurnT, m_kTurnF, m_wip0, m_wip1, m_Back, m_kBackT, m_rg1, m_kRgA, m_TupRg, m_LstRg, m_Dc, m_DturnT, m_DturnF, m_kDk, m_kDv, m_SSet, m_iRvR, m_At, m_Fst, m_kFs, m_Meth, m_kMe2, m_kMe3, m_Make, m_kMk1, m_kMade, m_ltI, m_geI, m_geP, m_isNotB, m_Get1, m_Get2, m_kGet2, m_Setd, m_kSd2, m_rg2, m_kRg2a, m_kRg2b, List.getElem?_cons_zero, List.getElem?_cons_succ, List.set_cons_zero, List.set_cons_succ, List.length_cons, List.length_nil, Nat.zero_add, Nat.reduceAdd, Nat.reduceLeDiff, Bool.not_true, Bool.not_false, mb__law_links_6, mb__law_links_4, mb__law_links_3, mb__law_links_2, e6, decide_true, if_true]
        exact skip k' s' h'
      · simp only [m_V, m_kV, m_C, m_Op, m_kOp, m_kOp2, m_kBl, m_qOp, m_kCh2, m_kCh2f, m_kCh3, m_kCh1, m_kCh, m_Ch, m_qCh, m_oNone, m_oSome, m_kO, m_Sl, m_kSl, m_kSl1, m_kSl2, m_slT, m_qT, m_kTru, m_tB, m_tN, m_tI, m_tT, m_qA, m_qO, m_qN, m_kqAt, m_kqAf, m_kqOt, m_kqOf, m_kqN, m_qYes, m_A, m_Or, m_N, m_Neg, m_kAt, m_kAf, m_kOrt, m_kOrf, m_kN, m_kNeg, m_If, m_kIft, m_kIff, m_an, m_ac, m_kac, m_kac2, m_Tup, m_Lst, m_kTup, m_CB, m_kCB, m_pk1, m_pp, m_pkk, m_pd, m_pn, m_kX, m_Call, m_kC1, m_kC2, m_BM, m_BM0, m_kM1, m_Seq, m_Seq_nx, m_Seq_rt, m_Seq_bk, m_Seq_ct, m_Seq_ex, m_Next, m_Brk, m_Cont, m_Expr, m_kEx, m_Ret, m_RetN, m_SIf, m_kSIft, m_kSIff, m_Set, m_kSet, m_Par, m_kPar, m_Par3, m_kPar3, m_Asg, m_kAsg, m_gNm, m_kG, m_gNo, m_gMo, m_gTu, m_gSb, m_kGs, m_kGs2, m_kW2, m_Aug, m_kAug, m_kAu, m_kAu2, m_mk1, m_kMk, m_Raise, m_ends_rt, m_ends_ex, m_ends_nx, m_add, m_addB, m_sub, m_eqI, m_eqS, m_neI, m_neS, m_isB, m_isN, m_isNotN, m_nonN, m_nonR, m_nonT, m_nonI, m_nonS, m_nonB, m_lenT, m_lenK, m_tupT, m_max, m_min, m_intI, m_intB, m_pr0, m_pr, m_kpr, m_kpr2, m_Xf, m_Try, m_Try_nx, m_Try_rt, m_Try_bk, m_Try_ct, m_Try_ex, m_Suite_nx, m_Suite_rt, m_Suite_bk, m_Suite_ct, m_kXe, m_kXo, m_tlOf, m_For, m_Loop_nx, m_Loop_ct, m_Loop_bk, m_Loop_rt, m_Loop_ex, m_kB, m_iSeq, m_kItT, m_kItK, m_kItS, m_iRg1, m_iRg2, m_iEnu, m_kEnuK, m_iZp, m_kZpT, m_iRv, m_kRvT, m_Lc, m_kCell, m_kTurnT, m_kTurnF, m_wip0, m_wip1, m_Back, m_kBackT, m_rg1, m_kRgA, m_TupRg, m_LstRg, m_Dc, m_DturnT, m_DturnF, m_kDk, m_kDv, m_SSet, m_iRvR, m_At, m_Fst, m_kFs, m_Meth, m_kMe2, m_kMe3, m_Make, m_kMk1, m_kMade, m_ltI, m_geI, m_geP, m_isNotB, m_Get1, m_Get2, m_kGet2, m_Setd, m_kSd2, m_rg2, m_kRg2a, m_kRg2b, List.getElem?_cons_zero, List.getElem?_cons_succ, List.set_cons_zero, List.set_cons_succ, List.length_cons, List.length_nil, Nat.zero_add, Nat.reduceAdd, Nat.reduceLeDiff, Bool.not_true, Bool.not_false, mb__law_links_6, mb__law_links_4, mb__law_links_3, mb__law_links_2, e6, decide_false, if_true]
        refine r_M (.inl ⟨rfl, _, .inl eD'⟩) ?_
        walk_at "m__law_links"
        refine r_app eD' (by rw [List.length_map, sizeLine_eq]; omega) ?_
        walk_at "m__law_links"
        rw [hPI]
        refine ⟨_, _, _, ps ++ [(one, other)], rfl, by rw [List.length_append]; simpa using hl, fun p hm => ?_, List.nodup_append.mpr ⟨nd, by simp, fun x hx y hy e => e6 (by cases List.mem_singleton.mp hy; exact e ▸ hx)⟩, by rw [updO_same, List.map_append]; rfl, (k5.trans k').new hD, (s'.put nDm nDa nDb).mono h'⟩
        rcases List.mem_append.mp hm with z | z
        · exact hp p z
        · cases List.mem_singleton.mp z
          exact ⟨⟨s0, sz.1, u0, sz.2⟩, e1⟩
    simp only [m_V, m_kV, m_C, m_Op, m_kOp, m_kOp2, m_kBl, m_qOp, m_kCh2, m_kCh2f, m_kCh3, m_kCh1, m_kCh, m_Ch, m_qCh, m_oNone, m_oSome, m_kO, m_Sl, m_kSl, m_kSl1, m_kSl2, m_slT, m_qT, m_kTru, m_tB, m_tN, m_tI, m_tT, m_qA, m_qO, m_qN, m_kqAt, m_kqAf, m_kqOt, m_kqOf, m_kqN, m_qYes, m_A, m_Or, m_N, m_Neg, m_kAt, m_kAf, m_kOrt, m_kOrf, m_kN, m_kNeg, m_If, m_kIft, m_kIff, m_an, m_ac, m_kac, m_kac2, m_Tup, m_Lst, m_kTup, m_CB, m_kCB, m_pk1, m_pp, m_pkk, m_pd, m_pn, m_kX, m_Call, m_kC1, m_kC2, m_BM, m_BM0, m_kM1, m_Seq, m_Seq_nx, m_Seq_rt, m_Seq_bk, m_Seq_ct, m_Seq_ex, m_Next, m_Brk, m_Cont, m_Expr, m_kEx, m_Ret, m_RetN, m_SIf, m_kSIft, m_kSIff, m_Set, m_kSet, m_Par, m_kPar, m_Par3, m_kPar3, m_Asg, m_kAsg, m_gNm, m_kG, m_gNo, m_gMo, m_gTu, m_gSb, m_kGs, m_kGs2, m_kW2, m_Aug, m_kAug, m_kAu, m_kAu2, m_mk1, m_kMk, m_Raise, m_ends_rt, m_ends_ex, m_ends_nx, m_add, m_addB, m_sub, m_eqI, m_eqS, m_neI, m_neS, m_isB, m_isN, m_isNotN, m_nonN, m_nonR, m_nonT, m_nonI, m_nonS, m_nonB, m_lenT, m_lenK, m_tupT, m_max, m_min, m_intI, m_intB, m_pr0, m_pr, m_kpr, m_kpr2, m_Xf, m_Try, m_Try_nx, m_Try_rt, m_Try_bk, m_Try_ct, m_Try_ex, m_Suite_nx, m_Suite_rt, m_Suite_bk, m_Suite_ct, m_kXe, m_kXo, m_tlOf, m_For, m_Loop_nx, m_Loop_ct, m_Loop_bk, m_Loop_rt, m_Loop_ex, m_kB, m_iSeq, m_kItT, m_kItK, m_kItS, m_iRg1, m_iRg2, m_iEnu, m_kEnuK, m_iZp, m_kZpT, m_iRv, m_kRvT, m_Lc, m_kCell, m_kTurnT, m_kTurnF, m_wip0, m_wip1, m_Back, m_kBackT, m_rg1, m_kRgA, m_TupRg, m_LstRg, m_Dc, m_DturnT, m_DturnF, m_kDk, m_kDv, m_SSet, m_iRvR, m_At, m_Fst, m_kFs, m_Meth, m_kMe2, m_kMe3, m_Make, m_kMk1, m_kMade, m_ltI, m_geI, m_geP, m_isNotB, m_Get1, m_Get2, m_kGet2, m_Setd, m_kSd2, m_rg2, m_kRg2a, m_kRg2b, List.getElem?_cons_zero, List.getElem?_cons_succ, List.set_cons_zero, List.set_cons_succ, List.length_cons, List.length_nil, Nat.zero_add, Nat.reduceAdd, Nat.reduceLeDiff, Bool.not_true, Bool.not_false, mb__law_links_6, mb__law_links_4, mb__law_links_3, mb__law_links_2, e1, decide_false]
    cases e2 : decide (other < one) with
    | true =>
      walk_at "m__law_links"
      exact add Kp.refl st5 (by omega)
    | false =>
      walk_at "m__law_links"
      refine ⟨m, a, b, 3, n + 3 * (c.toNat - i) - 3, rfl, by omega, by omega, st5.mono (by omega), fun r6 G6 v0 v1 kp6 st6 => ?_⟩
      walk_at "m__law_links"
      by_cases e3 : r6 = 0
      · simp only [m_V, m_kV, m_C, m_Op, m_kOp, m_kOp2, m_kBl, m_qOp, m_kCh2, m_kCh2f, m_kCh3, m_kCh1, m_kCh, m_Ch, m_qCh, m_oNone, m_oSome, m_kO, m_Sl, m_kSl, m_kSl1, m_kSl2, m_slT, m_qT, m_kTru, m_tB, m_tN, m_tI, m_tT, m_qA, m_qO, m_qN, m_kqAt, m_kqAf, m_kqOt, m_kqOf, m_kqN, m_qYes, m_A, m_Or, m_N, m_Neg, m_kAt, m_kAf, m_kOrt, m_kOrf, m_kN, m_kNeg, m_If, m_kIft, m_kIff, m_an, m_ac, m_kac, m_kac2, m_Tup, m_Lst, m_kTup, m_CB, m_kCB, m_pk1, m_pp, m_pkk, m_pd, m_pn, m_kX, m_Call, m_kC1, m_kC2, m_BM, m_BM0, m_kM1, m_Seq, m_Seq_nx, m_Seq_rt, m_Seq_bk, m_Seq_ct, m_Seq_ex, m_Next, m_Brk, m_Cont, m_Expr, m_kEx, m_Ret, m_RetN, m_SIf, m_kSIft, m_kSIff, m_Set, m_kSet, m_Par, m_kPar, m_Par3, m_kPar3, m_Asg, m_kAsg, m_gNm, m_kG, m_gNo, m_gMo, m_gTu, m_gSb, m_kGs, m_kGs2, m_kW2, m_Aug, m_kAug, m_kAu, m_kAu2, m_mk1, m_kMk, m_Raise, m_ends_rt, m_ends_ex, m_ends_nx, m_add, m_addB, m_sub, m_eqI, m_eqS, m_neI, m_neS, m_isB, m_isN, m_isNotN, m_nonN, m_nonR, m_nonT, m_nonI, m_nonS, m_nonB, m_lenT, m_lenK, m_tupT, m_max, m_min, m_intI, m_intB, m_pr0, m_pr, m_kpr, m_kpr2, m_Xf, m_Try, m_Try_nx, m_Try_rt, m_Try_bk, m_Try_ct, m_Try_ex, m_Suite_nx, m_Suite_rt, m_Suite_bk, m_Suite_ct, m_kXe, m_kXo, m_tlOf, m_For, m_Loop_nx, m_Loop_ct, m_Loop_bk, m_Loop_rt, m_Loop_ex, m_kB, m_iSeq, m_kItT, m_kItK, m_kItS, m_iRg1, m_iRg2, m_iEnu, m_kEnuK, m_iZp, m_kZpT, m_iRv, m_kRvT, m_Lc, m_kCell, m_kTurnT, m_kTurnF, m_wip0, m_wip1, m_Back, m_kBackT, m_rg1, m_kRgA, m_TupRg, m_LstRg, m_Dc, m_DturnT, m_DturnF, m_kDk, m_kDv, m_SSet, m_iRvR, m_At, m_Fst, m_kFs, m_Meth, m_kMe2, m_kMe3, m_Make, m_kMk1, m_kMade, m_ltI, m_geI, m_geP, m_isNotB, m_Get1, m_Get2, m_kGet2, m_Setd, m_kSd2, m_rg2, m_kRg2a, m_kRg2b, List.getElem?_cons_zero, List.getElem?_cons_succ, List.set_cons_zero, List.set_cons_succ, List.length_cons, List.length_nil, Nat.zero_add, Nat.reduceAdd, Nat.reduceLeDiff, Bool.not_true, Bool.not_false, mb__law_links_6, mb__law_links_4, mb__law_links_3, mb__law_links_2, e3, decide_true]
        exact add kp6 st6 (by omega)
      · simp only [m_V, m_kV, m_C, m_Op, m_kOp, m_kOp2, m_kBl, m_qOp, m_kCh2, m_kCh2f, m_kCh3, m_kCh1, m_kCh, m_Ch, m_qCh, m_oNone, m_oSome, m_kO, m_Sl, m_kSl, m_kSl1, m_kSl2, m_slT, m_qT, m_kTru, m_tB, m_tN, m_tI, m_tT, m_qA, m_qO, m_qN, m_kqAt, m_kqAf, m_kqOt, m_kqOf, m_kqN, m_qYes, m_A, m_Or, m_N, m_Neg, m_kAt, m_kAf, m_kOrt, m_kOrf, m_kN, m_kNeg, m_If, m_kIft, m_kIff, m_an, m_ac, m_kac, m_kac2, m_Tup, m_Lst, m_kTup, m_CB, m_kCB, m_pk1, m_pp, m_pkk, m_pd, m_pn, m_kX, m_Call, m_kC1, m_kC2, m_BM, m_BM0, m_kM1, m_Seq, m_Seq_nx, m_Seq_rt, m_Seq_bk, m_Seq_ct, m_Seq_ex, m_Next, m_Brk, m_Cont, m_Expr, m_kEx, m_Ret, m_RetN, m_SIf, m_kSIft, m_kSIff, m_Set, m_kSet, m_Par, m_kPar, m_Par3, m_kPar3, m_Asg, m_kAsg, m_gNm, m_kG, m_gNo, m_gMo, m_gTu, m_gSb, m_kGs, m_kGs2, m_kW2, m_Aug, m_kAug, m_kAu, m_kAu2, m_mk1, m_kMk, m_Raise, m_ends_rt, m_ends_ex, m_ends_nx, m_add, m_addB, m_sub, m_eqI, m_eqS, m_neI, m_neS, m_isB, m_isN, m_isNotN, m_nonN, m_nonR, m_nonT, m_nonI, m_nonS, m_nonB, m_lenT, m_lenK, m_tupT, m_max, m_min, m_intI, m_intB, m_pr0, m_pr, m_kpr, m_kpr2, m_Xf, m_Try, m_Try_nx, m_Try_rt, m_Try_bk, m_Try_ct, m_Try_ex, m_Suite_nx, m_Suite_rt, m_Suite_bk, m_Suite_ct, m_kXe, m_kXo, m_tlOf, m_For, m_Loop_nx, m_Loop_ct, m_Loop_bk, m_Loop_rt, m_Loop_ex, m_kB, m_iSeq, m_kItT, m_kItK, m_kItS, m_iRg1, m_iRg2, m_iEnu, m_kEnuK, m_iZp, m_kZpT, m_iRv, m_kRvT, m_Lc, m_kCell, m_kTurnT, m_kTurnF, m_wip0, m_wip1, m_Back, m_kBackT, m_rg1, m_kRgA, m_TupRg, m_LstRg, m_Dc, m_DturnT, m_DturnF, m_kDk, m_kDv, m_SSet, m_iRvR, m_At, m_Fst, m_kFs, m_Meth, m_kMe2, m_kMe3, m_Make, m_kMk1, m_kMade, m_ltI, m_geI, m_geP, m_isNotB, m_Get1, m_Get2, m_kGet2, m_Setd, m_kSd2, m_rg2, m_kRg2a, m_kRg2b, List.getElem?_cons_zero, List.getElem?_cons_succ, List.set_cons_zero, List.set_cons_succ, List.length_cons, List.length_nil, Nat.zero_add, Nat.reduceAdd, Nat.reduceLeDiff, Bool.not_true, Bool.not_false, mb__law_links_6, mb__law_links_4, mb__law_links_3, mb__law_links_2, e3, decide_false]
        exact skip kp6 st6 (by omega)
  · intro σ3 G3 hP
    rw [hPI] at hP
    obtain ⟨o3, o4, o5, ps, rfl, hl, hp, nd, eD, kp, st3⟩ := hP
    rw [rgW_len] at hl st3
    walk_at "m__law_links"
    refine r_sortedP (.inl eD) fun ps' pm rs l2 hl2 => ?_
    have x2 := Ext.new (o := .lst (ps'.map tup2)) hl2
    walk_at "m__law_links"
    refine r_tupL (.inl updO_same) ?_
    exact hq ps' _ ⟨fun p hm => hp p (pm.mem_iff.mp hm), rise_strict rs (pm.nodup_iff.mpr nd), by rw [pm.length_eq]; omega⟩ (kp.trans x2.kp) ((st3.mono (by omega)).ext x2)
set_option maxHeartbeats 0 in
theorem ok__law_links {P : Program} {w : World} {K : PySem.W.Frag} {mg : Str → Option Value} {base : Heap} (T : Txt K mg) : FnW P w K mg base 3 T.f__law_links T.fd__law_links ["_law_m", "_law_size"] (sp__law_links T) :=
  fnW_of (t := t__law_links T) T.F__law_links sc__law_links (len__law_links T) (fun cdv A outer s H E hr => (zs_cons (z_set (i := 2) sc__law_links.nd rfl (by first | exact .inl rfl | exact .inr rfl) (z_lst (z_anil))) (zs_cons (z_for (passes_of rfl) rfl (zi_range1 rfl T.n_range (z_acons (z_call (sel := [.p 0, .p 1]) (dws := []) (ok__law_draw T) (hr.mono (by decide)) rfl T.m__law_draw T.F__law_draw.kp (bind0 T.F__law_draw fun _ _ _ _ _ _ us uk h1 h2 => match us, h1, uk, h2 with | [_, _], _, [], _ => rfl) (takes_of rfl rfl rfl rfl) (z_acons (z_var (i := 0) rfl (by first | exact .inl rfl | exact .inr (.inl rfl) | exact .inr (.inr rfl))) (z_acons (z_ix (hr).un (z_lst (z_acons (z_int) (z_acons (z_bin w_add (z_var (i := 1) rfl (by first | exact .inl rfl | exact .inr (.inl rfl) | exact .inr (.inr rfl))) (z_int)) (z_acons (z_bin w_add (z_bin w_mul (z_int) (z_var (i := 1) rfl (by first | exact .inl rfl | exact .inr (.inl rfl) | exact .inr (.inr rfl)))) (z_int)) (z_anil))))) (z_call (sel := [.p 0, .p 1]) (dws := []) (ok__law_draw T) (hr.mono (by decide)) rfl T.m__law_draw T.F__law_draw.kp (bind0 T.F__law_draw fun _ _ _ _ _ _ us uk h1 h2 => match us, h1, uk, h2 with | [_, _], _, [], _ => rfl) (takes_of rfl rfl rfl rfl) (z_acons (z_var (i := 0) rfl (by first | exact .inl rfl | exact .inr (.inl rfl) | exact .inr (.inr rfl))) (z_acons (z_int) (z_anil)))) (fun _ _ => rfl)) (z_anil)))) (z_anil))) (zg_name (i := 3) sc__law_links.nd rfl (by first | exact .inl rfl | exact .inr rfl)) (zs_cons (z_par (i := 4) (j := 5) rfl sc__law_links.nd rfl rfl (by decide) rfl rfl (z_acons (z_call (sel := [.p 0, .p 1]) (dws := []) (ok__law_draw T) (hr.mono (by decide)) rfl T.m__law_draw T.F__law_draw.kp (bind0 T.F__law_draw fun _ _ _ _ _ _ us uk h1 h2 => match us, h1, uk, h2 with | [_, _], _, [], _ => rfl) (takes_of rfl rfl rfl rfl) (z_acons (z_var (i := 0) rfl (by first | exact .inl rfl | exact .inr (.inl rfl) | exact .inr (.inr rfl))) (z_acons (z_callB (w_max rfl) rfl T.n_max boot_max (z_acons (z_int) (z_acons (z_var (i := 1) rfl (by first | exact .inl rfl | exact .inr (.inl rfl) | exact .inr (.inr rfl))) (z_anil)))) (z_anil)))) (z_acons (z_call (sel := [.p 0, .p 1]) (dws := []) (ok__law_draw T) (hr.mono (by decide)) rfl T.m__law_draw T.F__law_draw.kp (bind0 T.F__law_draw fun _ _ _ _ _ _ us uk h1 h2 => match us, h1, uk, h2 with | [_, _], _, [], _ => rfl) (takes_of rfl rfl rfl rfl) (z_acons (z_var (i := 0) rfl (by first | exact .inl rfl | exact .inr (.inl rfl) | exact .inr (.inr rfl))) (z_acons (z_callB (w_max rfl) rfl T.n_max boot_max (z_acons (z_int) (z_acons (z_var (i := 1) rfl (by first | exact .inl rfl | exact .inr (.inl rfl) | exact .inr (.inr rfl))) (z_anil)))) (z_anil)))) (z_anil))) rfl) (zs_one (z_if (z_bool (z_and (z_qcmp (w_ne (hr).un) (z_var (i := 4) rfl (by first | exact .inl rfl | exact .inr (.inl rfl) | exact .inr (.inr rfl))) (z_var (i := 5) rfl (by first | exact .inl rfl | exact .inr (.inl rfl) | exact .inr (.inr rfl))) (by rfl)) (z_and (z_bool (z_or (z_qcmp w_gt (z_var (i := 4) rfl (by first | exact .inl rfl | exact .inr (.inl rfl) | exact .inr (.inr rfl))) (z_var (i := 5) rfl (by first | exact .inl rfl | exact .inr (.inl rfl) | exact .inr (.inr rfl))) (by rfl)) (z_or1 (z_qcmp (w_eq (hr).un) (z_call (sel := [.p 0, .p 1]) (dws := []) (ok__law_draw T) (hr.mono (by decide)) rfl T.m__law_draw T.F__law_draw.kp (bind0 T.F__law_draw fun _ _ _ _ _ _ us uk h1 h2 => match us, h1, uk, h2 with | [_, _], _, [], _ => rfl) (takes_of rfl rfl rfl rfl) (z_acons (z_var (i := 0) rfl (by first | exact .inl rfl | exact .inr (.inl rfl) | exact .inr (.inr rfl))) (z_acons (z_int) (z_anil)))) (z_int) (by rfl))))) (z_and1 (z_qcmp (w_notinA (hr).un65) (z_tup (z_acons (z_var (i := 4) rfl (by first | exact .inl rfl | exact .inr (.inl rfl) | exact .inr (.inr rfl))) (z_acons (z_var (i := 5) rfl (by first | exact .inl rfl | exact .inr (.inl rfl) | exact .inr (.inr rfl))) (z_anil)))) (z_var (i := 2) rfl (by first | exact .inl rfl | exact .inr (.inl rfl) | exact .inr (.inr rfl))) (by rfl)))))) (zs_one (z_expr (z_bm PySem.F.plainAttrs_list PySem.F.slot_list_append PySem.F.type_list_append w_append (z_var (i := 2) rfl (by first | exact .inl rfl | exact .inr (.inl rfl) | exact .inr (.inr rfl))) (z_acons (z_tup (z_acons (z_var (i := 4) rfl (by first | exact .inl rfl | exact .inr (.inl rfl) | exact .inr (.inr rfl))) (z_acons (z_var (i := 5) rfl (by first | exact .inl rfl | exact .inr (.inl rfl) | exact .inr (.inr rfl))) (z_anil)))) (z_anil))))) (zs_nil))))) (zs_one (z_ret (z_callT w_tuple rfl T.n_tuple boot_tuple (z_acons (z_callB (w_srt rfl) rfl T.n_sorted boot_sorted (z_acons (z_var (i := 2) rfl (by first | exact .inl rfl | exact .inr (.inl rfl) | exact .inr (.inr rfl))) (z_anil))) (z_anil)))))))) (pf__law_links T)

/-! ### _law_folded -/
theorem sc__law_folded : FnScope ["_law_script", "_law_found", "_law_k", "_law_cell"] ["_law_script"] (defScope s__law_folded) := ⟨rfl, rfl, rfl, by decide +kernel, rfl, by decide +kernel, by decide +kernel⟩
def sp__law_folded {K : PySem.W.Frag} {mg : Str → Option Value} (T : Txt K mg) : SpW := SpFolded
theorem len__law_folded {K : PySem.W.Frag} {mg : Str → Option Value} (T : Txt K mg) (ws : List Wv) (G : HW) (q : WK) (x : XE) (h : sp__law_folded T ws G q x) : ws.length = 1 := by
  obtain ⟨ns, rfl, _⟩ := h
  rfl
def b__law_folded_6 {K : PySem.W.Frag} {mg : Str → Option Value} (T : Txt K mg) : ST := sRet (eV 1)
theorem mb__law_folded_6 {K : PySem.W.Frag} {mg : Str → Option Value} (T : Txt K mg) (D : EndsW) (σ : SW) (G : HW) : b__law_folded_6 T D σ G = (sRet (eV 1)) D σ G := rfl
def b__law_folded_4 {K : PySem.W.Frag} {mg : Str → Option Value} (T : Txt K mg) : ST := sSeq (sFor (iRg2 (aCons (eC (.int 1)) (aCons (eC (.int 64)) (aNil)))) (gNm 2) (sAsg (eOp oMod (eOp wAdd (eOp wIx (eV 1) (eV 2)) (eOp wMul (eOp wIx (eV 1) (eOp oSub (eV 2) (eC (.int 1)))) (eC (.int 16807)))) (eC (.int 2147483647))) (gSb (eV 1) (eV 2)))) (b__law_folded_6 T)
theorem mb__law_folded_4 {K : PySem.W.Frag} {mg : Str → Option Value} (T : Txt K mg) (D : EndsW) (σ : SW) (G : HW) : b__law_folded_4 T D σ G = (sSeq (sFor (iRg2 (aCons (eC (.int 1)) (aCons (eC (.int 64)) (aNil)))) (gNm 2) (sAsg (eOp oMod (eOp wAdd (eOp wIx (eV 1) (eV 2)) (eOp wMul (eOp wIx (eV 1) (eOp oSub (eV 2) (eC (.int 1)))) (eC (.int 16807)))) (eC (.int 2147483647))) (gSb (eV 1) (eV 2)))) (b__law_folded_6 T)) D σ G := rfl
def b__law_folded_2 {K : PySem.W.Frag} {mg : Str → Option Value} (T : Txt K mg) : ST := sSeq (sFor (iEnu (aCons (eV 0) (aNil))) (gTu 2 (gMo (gNm 2) (gMo (gNm 3) (gNo)))) (sAsg (eOp oMod (eOp wAdd (eOp wMul (eOp wIx (eV 1) (eOp oMod (eV 2) (eC (.int 64)))) (eC (.int 48271))) (eV 3)) (eC (.int 2147483647))) (gSb (eV 1) (eOp oMod (eV 2) (eC (.int 64)))))) (b__law_folded_4 T)
theorem mb__law_folded_2 {K : PySem.W.Frag} {mg : Str → Option Value} (T : Txt K mg) (D : EndsW) (σ : SW) (G : HW) : b__law_folded_2 T D σ G = (sSeq (sFor (iEnu (aCons (eV 0) (aNil))) (gTu 2 (gMo (gNm 2) (gMo (gNm 3) (gNo)))) (sAsg (eOp oMod (eOp wAdd (eOp wMul (eOp wIx (eV 1) (eOp oMod (eV 2) (eC (.int 64)))) (eC (.int 48271))) (eV 3)) (eC (.int 2147483647))) (gSb (eV 1) (eOp oMod (eV 2) (eC (.int 64)))))) (b__law_folded_4 T)) D σ G := rfl
def t__law_folded {K : PySem.W.Frag} {mg : Str → Option Value} (T : Txt K mg) : ST := sSeq (sSet 1 (eLc (iRg1 (aCons (eC (.int 64)) (aNil))) [2] [2] (qYes) (eOp wAdd (eC (.int 17)) (eV 2)))) (b__law_folded_2 T)
local macro_rules | `(tactic| walk_at "m__law_folded") => `(tactic| simp only [m_V, m_kV, m_C, m_Op, m_kOp, m_kOp2, m_kBl, m_qOp, m_kCh2, m_kCh2f, m_kCh3, m_kCh1, m_kCh, m_Ch, m_qCh, m_oNone, m_oSome, m_kO, m_Sl, m_kSl, m_kSl1, m_kSl2, m_slT, m_qT, m_kTru, m_tB, m_tN, m_tI, m_tT, m_qA, m_qO, m_qN, m_kqAt, m_kqAf, m_kqOt, m_kqOf, m_kqN, m_qYes, m_A, m_Or, m_N, m_Neg, m_kAt, m_kAf, m_kOrt, m_kOrf, m_kN, m_kNeg, m_If, m_kIft, m_kIff, m_an, m_ac, m_kac, m_kac2, m_Tup, m_Lst, m_kTup, m_CB, m_kCB, m_pk1, m_pp, m_pkk, m_pd, m_pn, m_kX, m_Call, m_kC1, m_kC2, m_BM, m_BM0, m_kM1, m_Seq, m_Seq_nx, m_Seq_rt, m_Seq_bk, m_Seq_ct, m_Seq_ex, m_Next, m_Brk, m_Cont, m_Expr, m_kEx, m_Ret, m_RetN, m_SIf, m_kSIft, m_kSIff, m_Set, m_kSet, m_Par, m_kPar, m_Par3, m_kPar3, m_Asg, m_kAsg, m_gNm, m_kG, m_gNo, m_gMo, m_gTu, m_gSb, m_kGs, m_kGs2, m_kW2, m_Aug, m_kAug, m_kAu, m_kAu2, m_mk1, m_kMk, m_Raise, m_ends_rt, m_ends_ex, m_ends_nx, m_add, m_addB, m_sub, m_eqI, m_eqS, m_neI, m_neS, m_isB, m_isN, m_isNotN, m_nonN, m_nonR, m_nonT, m_nonI, m_nonS, m_nonB, m_lenT, m_lenK, m_tupT, m_max, m_min, m_intI, m_intB, m_pr0, m_pr, m_kpr, m_kpr2, m_Xf, m_Try, m_Try_nx, m_Try_rt, m_Try_bk, m_Try_ct, m_Try_ex, m_Suite_nx, m_Suite_rt, m_Suite_bk, m_Suite_ct, m_kXe, m_kXo, m_tlOf, m_For, m_Loop_nx, m_Loop_ct, m_Loop_bk, m_Loop_rt, m_Loop_ex, m_kB, m_iSeq, m_kItT, m_kItK, m_kItS, m_iRg1, m_iRg2, m_iEnu, m_kEnuK, m_iZp, m_kZpT, m_iRv, m_kRvT, m_Lc, m_kCell, m_kTurnT, m_kTurnF, m_wip0, m_wip1, m_Back, m_kBackT, m_rg1, m_kRgA, m_TupRg, m_LstRg, m_Dc, m_DturnT, m_DturnF, m_kDk, m_kDv, m_SSet, m_iRvR, m_At, m_Fst, m_kFs, m_Meth, m_kMe2, m_kMe3, m_Make, m_kMk1, m_kMade, m_ltI, m_geI, m_geP, m_isNotB, m_Get1, m_Get2, m_kGet2, m_Setd, m_kSd2, m_rg2, m_kRg2a, m_kRg2b, List.getElem?_cons_zero, List.getElem?_cons_succ, List.set_cons_zero, List.set_cons_succ, List.length_cons, List.length_nil, Nat.zero_add, Nat.reduceAdd, Nat.reduceLeDiff, Bool.not_true, Bool.not_false, mb__law_folded_6, mb__law_folded_4, mb__law_folded_2])
theorem pf__law_folded {K : PySem.W.Frag} {mg : Str → Option Value} (T : Txt K mg) (ws : List Wv) (G : HW) (q : WK) (x : XE) (h : sp__law_folded T ws G q x) : t__law_folded T (endsW q x) (startW ["_law_script", "_law_found", "_law_k", "_law_cell"] ws) G := by
  obtain ⟨ns, rfl, hn, hq⟩ := h
  show t__law_folded T (endsW q x) [some (.kls (ns.map .int)), none, none, none] G
  unfold t__law_folded
  walk_at "m__law_folded"
  refine r_rg1 (by omega) (by omega) ?_
  refine r_lcM (fun w => match w with | .int i => .int (17 + i) | w => w) (by rw [rgW_len, sizeLine_eq]; decide) (fun _ _ => trivial) (fun i w G' k ew ex hk => ?_) fun D G1 hD ex1 eD => ?_
  · obtain ⟨hi, rfl⟩ := rg_nat ew
    refine ⟨_, rfl, ?_⟩
    walk_at "m__law_folded"
    exact hk G' Ext.refl
  have eD : ∃ cells : List Int, cells.length = 64 ∧ G1 D = some (.lst (cells.map .int)) := by
    refine ⟨(List.range 64).map fun i : Nat => 17 + (0 + (i : Int) * 1), by simp, ?_⟩
    rw [eD]
    unfold rgW
    rw [List.map_map, List.map_map]
    rfl
  obtain ⟨cells, hc, eD⟩ := eD
  walk_at "m__law_folded"
  refine r_for (fun _ σ G2 => ∃ (o2 o3 : Option Wv) (cells : List Int), σ = [some (.kls (ns.map .int)), some (.ref D), o2, o3] ∧ cells.length = 64 ∧ G2 D = some (.lst (cells.map .int)) ∧ Ext G G2) ⟨_, _, cells, rfl, hc, eD, ex1⟩ (fun _ _ _ _ _ => trivial) ?_ ?_
  · rintro i w σ2 G2 ew ⟨o2, o3, cells, rfl, hc, eD, ex⟩
    obtain ⟨z, rfl⟩ : ∃ z : Int, w = .tup [.int i, .int z] := by
      unfold enW at ew
      rw [List.getElem?_mapIdx, List.getElem?_map] at ew
      cases e : ns[i]? with
      | none => rw [e] at ew; cases ew
      | some z => rw [e] at ew; cases ew; exact ⟨z, rfl⟩
    walk_at "m__law_folded"
    refine r_int (by omega) ?_
    walk_at "m__law_folded"
    have h64 : ((i : Int) % 64).toNat < cells.length := by omega
    refine r_ixL (.inl eD) (atI_int (by omega) (at_map h64)) ?_
    walk_at "m__law_folded"
    refine r_mul (.inr ⟨by omega, by omega⟩) ?_
    walk_at "m__law_folded"
    refine r_int (by omega) ?_
    walk_at "m__law_folded"
    refine r_int (by omega) ?_
    walk_at "m__law_folded"
    refine r_setL eD (ixN_int (by omega) (by rw [List.length_map]; omega)) ?_
    walk_at "m__law_folded"
    rw [setI]
    exact ⟨_, _, _, rfl, by rw [List.length_set]; exact hc, updO_same, ex.put hD⟩
  · rintro σ2 G2 ⟨o2, o3, cells, rfl, hc, eD, ex⟩
    walk_at "m__law_folded"
    refine r_rg2 (by omega) ?_
    refine r_for (fun _ σ G2 => ∃ (o2 o3 : Option Wv) (cells : List Int), σ = [some (.kls (ns.map .int)), some (.ref D), o2, o3] ∧ cells.length = 64 ∧ G2 D = some (.lst (cells.map .int)) ∧ Ext G G2) ⟨_, _, cells, rfl, hc, eD, ex⟩ (fun _ _ _ _ _ => trivial) ?_ ?_
    · rintro i w σ2 G2 ew ⟨o2, o3, cells, rfl, hc, eD, ex⟩
      obtain ⟨hi, rfl⟩ := rg_at ew
      have hi : i < 63 := by simpa using hi
      walk_at "m__law_folded"
      have h1 : (1 + (i : Int) * 1).toNat < cells.length := by omega
      refine r_ixL (.inl eD) (atI_int (by omega) (at_map h1)) ?_
      walk_at "m__law_folded"
      have h2 : (1 + (i : Int) * 1 - 1).toNat < cells.length := by omega
      refine r_ixL (.inl eD) (atI_int (by omega) (at_map h2)) ?_
      walk_at "m__law_folded"
      refine r_mul (.inr ⟨by omega, by omega⟩) ?_
      walk_at "m__law_folded"
      refine r_int (by omega) ?_
      walk_at "m__law_folded"
      refine r_setL eD (ixN_int (by omega) (by rw [List.length_map]; omega)) ?_
      walk_at "m__law_folded"
      rw [setI]
      exact ⟨_, _, _, rfl, by rw [List.length_set]; exact hc, updO_same, ex.put hD⟩
    · rintro σ2 G2 ⟨o2, o3, cells, rfl, hc, eD, ex⟩
      walk_at "m__law_folded"
      exact hq D cells G2 hD ex eD hc
set_option maxHeartbeats 0 in
theorem ok__law_folded {P : Program} {w : World} {K : PySem.W.Frag} {mg : Str → Option Value} {base : Heap} (T : Txt K mg) : FnW P w K mg base 1 T.f__law_folded T.fd__law_folded ["_law_script"] (sp__law_folded T) :=
  fnW_of (t := t__law_folded T) T.F__law_folded sc__law_folded (len__law_folded T) (fun cdv A outer s H E hr => (zs_cons (z_setLc (i := 1) (is := [2]) (own := [("_law_k", 2)]) rfl sc__law_folded.nd rfl rfl rfl (zi_range1 rfl T.n_range (z_acons (z_int) (z_anil))) (blkOk_by rfl) (fun _ _ _ _ _ => pg_name sc__law_folded.nd rfl (by first | exact .inl rfl | exact .inr rfl)) (fun _ _ _ _ _ => zq_nil) (fun _ _ _ _ _ => z_bin w_add (z_int) (z_var (i := 2) rfl (by first | exact .inl rfl | exact .inr (.inl rfl) | exact .inr (.inr rfl)))) (by decide)) (zs_cons (z_for (passes_of rfl) rfl (zi_enum rfl T.n_enumerate (z_acons (z_var (i := 0) rfl (by first | exact .inl rfl | exact .inr (.inl rfl) | exact .inr (.inr rfl))) (z_anil))) (zg_tup rfl (zg_cons (zg_name (i := 2) sc__law_folded.nd rfl (by first | exact .inl rfl | exact .inr rfl)) (zg_cons (zg_name (i := 3) sc__law_folded.nd rfl (by first | exact .inl rfl | exact .inr rfl)) (zg_nil)))) (zs_one (z_asg (z_bin w_mod (z_bin w_add (z_bin w_mul (z_ix (hr).un (z_var (i := 1) rfl (by first | exact .inl rfl | exact .inr (.inl rfl) | exact .inr (.inr rfl))) (z_bin w_mod (z_var (i := 2) rfl (by first | exact .inl rfl | exact .inr (.inl rfl) | exact .inr (.inr rfl))) (z_int)) (fun _ _ => rfl)) (z_int)) (z_var (i := 3) rfl (by first | exact .inl rfl | exact .inr (.inl rfl) | exact .inr (.inr rfl)))) (z_int)) (zg_sub (hr).un (z_var (i := 1) rfl (by first | exact .inl rfl | exact .inr (.inl rfl) | exact .inr (.inr rfl))) (z_bin w_mod (z_var (i := 2) rfl (by first | exact .inl rfl | exact .inr (.inl rfl) | exact .inr (.inr rfl))) (z_int)) (fun _ => rfl))))) (zs_cons (z_for (passes_of rfl) rfl (zi_range2 rfl T.n_range (z_acons (z_int) (z_acons (z_int) (z_anil)))) (zg_name (i := 2) sc__law_folded.nd rfl (by first | exact .inl rfl | exact .inr rfl)) (zs_one (z_asg (z_bin w_mod (z_bin w_add (z_ix (hr).un (z_var (i := 1) rfl (by first | exact .inl rfl | exact .inr (.inl rfl) | exact .inr (.inr rfl))) (z_var (i := 2) rfl (by first | exact .inl rfl | exact .inr (.inl rfl) | exact .inr (.inr rfl))) (fun _ _ => rfl)) (z_bin w_mul (z_ix (hr).un (z_var (i := 1) rfl (by first | exact .inl rfl | exact .inr (.inl rfl) | exact .inr (.inr rfl))) (z_bin w_sub (z_var (i := 2) rfl (by first | exact .inl rfl | exact .inr (.inl rfl) | exact .inr (.inr rfl))) (z_int)) (fun _ _ => rfl)) (z_int))) (z_int)) (zg_sub (hr).un (z_var (i := 1) rfl (by first | exact .inl rfl | exact .inr (.inl rfl) | exact .inr (.inr rfl))) (z_var (i := 2) rfl (by first | exact .inl rfl | exact .inr (.inl rfl) | exact .inr (.inr rfl))) (fun _ => rfl))))) (zs_one (z_ret (z_var (i := 1) rfl (by first | exact .inl rfl | exact .inr (.inl rfl) | exact .inr (.inr rfl))))))))) (pf__law_folded T)

/-! ### _law_begun -/
theorem sc__law_begun : FnScope ["_law_script", "_law_m", "_law_cell"] ["_law_script"] (defScope s__law_begun) := ⟨rfl, rfl, rfl, by decide +kernel, rfl, by decide +kernel, by decide +kernel⟩
def sp__law_begun {K : PySem.W.Frag} {mg : Str → Option Value} (T : Txt K mg) : SpW := SpBegun
theorem len__law_begun {K : PySem.W.Frag} {mg : Str → Option Value} (T : Txt K mg) (ws : List Wv) (G : HW) (q : WK) (x : XE) (h : sp__law_begun T ws G q x) : ws.length = 1 := by
  obtain ⟨ns, rfl, _⟩ := h
  rfl
def b__law_begun_3 {K : PySem.W.Frag} {mg : Str → Option Value} (T : Txt K mg) : ST := sRet (eV 1)
theorem mb__law_begun_3 {K : PySem.W.Frag} {mg : Str → Option Value} (T : Txt K mg) (D : EndsW) (σ : SW) (G : HW) : b__law_begun_3 T D σ G = (sRet (eV 1)) D σ G := rfl
def b__law_begun_2 {K : PySem.W.Frag} {mg : Str → Option Value} (T : Txt K mg) : ST := sSeq (sAsg (eLc (iSeq (eV 0)) [2] [2] (qYes) (eIf (qOp wGeA (eV 2) (eOp oPow (eC (.int 10)) (eC (.int 18)))) (eV 2) (eC (.int 0)))) (gSb (eV 1) (eC (.str "left")))) (b__law_begun_3 T)
theorem mb__law_begun_2 {K : PySem.W.Frag} {mg : Str → Option Value} (T : Txt K mg) (D : EndsW) (σ : SW) (G : HW) : b__law_begun_2 T D σ G = (sSeq (sAsg (eLc (iSeq (eV 0)) [2] [2] (qYes) (eIf (qOp wGeA (eV 2) (eOp oPow (eC (.int 10)) (eC (.int 18)))) (eV 2) (eC (.int 0)))) (gSb (eV 1) (eC (.str "left")))) (b__law_begun_3 T)) D σ G := rfl
def t__law_begun {K : PySem.W.Frag} {mg : Str → Option Value} (T : Txt K mg) : ST := sSeq (sSet 1 (eDisp (("cells", eCall 1 0 [.p 0] [] (sp__law_folded T) (aCons (eV 0) (aNil)) aNil) :: ("left", eLst (aNil)) :: ("spot", eC (.int 0)) :: []))) (b__law_begun_2 T)
local macro_rules | `(tactic| walk_at "m__law_begun") => `(tactic| simp only [m_V, m_kV, m_C, m_Op, m_kOp, m_kOp2, m_kBl, m_qOp, m_kCh2, m_kCh2f, m_kCh3, m_kCh1, m_kCh, m_Ch, m_qCh, m_oNone, m_oSome, m_kO, m_Sl, m_kSl, m_kSl1, m_kSl2, m_slT, m_qT, m_kTru, m_tB, m_tN, m_tI, m_tT, m_qA, m_qO, m_qN, m_kqAt, m_kqAf, m_kqOt, m_kqOf, m_kqN, m_qYes, m_A, m_Or, m_N, m_Neg, m_kAt, m_kAf, m_kOrt, m_kOrf, m_kN, m_kNeg, m_If, m_kIft, m_kIff, m_an, m_ac, m_kac, m_kac2, m_Tup, m_Lst, m_kTup, m_CB, m_kCB, m_pk1, m_pp, m_pkk, m_pd, m_pn, m_kX, m_Call, m_kC1, m_kC2, m_BM, m_BM0, m_kM1, m_Seq, m_Seq_nx, m_Seq_rt, m_Seq_bk, m_Seq_ct, m_Seq_ex, m_Next, m_Brk, m_Cont, m_Expr, m_kEx, m_Ret, m_RetN, m_SIf, m_kSIft, m_kSIff, m_Set, m_kSet, m_Par, m_kPar, m_Par3, m_kPar3, m_Asg, m_kAsg, m_gNm, m_kG, m_gNo, m_gMo, m_gTu, m_gSb, m_kGs, m_kGs2, m_kW2, m_Aug, m_kAug, m_kAu, m_kAu2, m_mk1, m_kMk, m_Raise, m_ends_rt, m_ends_ex, m_ends_nx, m_add, m_addB, m_sub, m_eqI, m_eqS, m_neI, m_neS, m_isB, m_isN, m_isNotN, m_nonN, m_nonR, m_nonT, m_nonI, m_nonS, m_nonB, m_lenT, m_lenK, m_tupT, m_max, m_min, m_intI, m_intB, m_pr0, m_pr, m_kpr, m_kpr2, m_Xf, m_Try, m_Try_nx, m_Try_rt, m_Try_bk, m_Try_ct, m_Try_ex, m_Suite_nx, m_Suite_rt, m_Suite_bk, m_Suite_ct, m_kXe, m_kXo, m_tlOf, m_For, m_Loop_nx, m_Loop_ct, m_Loop_bk, m_Loop_rt, m_Loop_ex, m_kB, m_iSeq, m_kItT, m_kItK, m_kItS, m_iRg1, m_iRg2, m_iEnu, m_kEnuK, m_iZp, m_kZpT, m_iRv, m_kRvT, m_Lc, m_kCell, m_kTurnT, m_kTurnF, m_wip0, m_wip1, m_Back, m_kBackT, m_rg1, m_kRgA, m_TupRg, m_LstRg, m_Dc, m_DturnT, m_DturnF, m_kDk, m_kDv, m_SSet, m_iRvR, m_At, m_Fst, m_kFs, m_Meth, m_kMe2, m_kMe3, m_Make, m_kMk1, m_kMade, m_ltI, m_geI, m_geP, m_isNotB, m_Get1, m_Get2, m_kGet2, m_Setd, m_kSd2, m_rg2, m_kRg2a, m_kRg2b, List.getElem?_cons_zero, List.getElem?_cons_succ, List.set_cons_zero, List.set_cons_succ, List.length_cons, List.length_nil, Nat.zero_add, Nat.reduceAdd, Nat.reduceLeDiff, Bool.not_true, Bool.not_false, mb__law_begun_3, mb__law_begun_2])
theorem pf__law_begun {K : PySem.W.Frag} {mg : Str → Option Value} (T : Txt K mg) (ws : List Wv) (G : HW) (q : WK) (x : XE) (h : sp__law_begun T ws G q x) : t__law_begun T (endsW q x) (startW ["_law_script", "_law_m", "_law_cell"] ws) G := by
  obtain ⟨ns, rfl, hn, hq⟩ := h
  show t__law_begun T (endsW q x) [some (.kls (ns.map .int)), none, none] G
  unfold t__law_begun
  walk_at "m__law_begun"
  refine r_disp fun p hp => ?_
  walk_at "m__law_begun"
  refine ⟨ns, rfl, hn, fun l cells G1 hl ex e hc => ?_⟩
  walk_at "m__law_begun"
  refine r_lst' fun l0 hl0 => ?_
  walk_at "m__law_begun"
  have e1 : G1 p = some (.dct []) := ex _ _ updO_same
  have ne : p ≠ l0 := ne_of_new e1 hl0
  refine r_kdisp (by rw [updO_ne ne]; exact e1) rfl ?_
  walk_at "m__law_begun"
  generalize hG3 : updO (updO G1 l0 (.lst [])) p (.dct _) = G3
  have ex3 : Ext G G3 := by rw [← hG3]; exact (((Ext.new hp).trans ex).trans (Ext.new hl0)).put hp
  have p3 : G3 p = some (.dct [(.inr "cells", .ref l), (.inr "left", .ref l0), (.inr "spot", .int 0)]) := by rw [← hG3]; exact updO_same
  have nl : l ≠ p := (ne_of_new (G := updO G p (.dct [])) updO_same hl).symm
  have l3 : G3 l = some (.lst (cells.map .int)) := by rw [← hG3, updO_ne nl, updO_ne (ne_of_new e hl0)]; exact e
  refine r_lcM (fun w => match w with | .int i => .int (if 10 ^ 18 ≤ i then i else 0) | w => w) (by rw [List.length_map, sizeLine_eq]; omega) (fun _ _ => trivial) (fun i w G' k ew ex hk => ?_) fun D G4 hD ex4 eD => ?_
  · obtain ⟨z, rfl⟩ : ∃ z : Int, w = .int z := by
      obtain ⟨z, _, rfl⟩ := List.mem_map.mp (List.mem_of_getElem? ew)
      exact ⟨z, rfl⟩
    refine ⟨_, rfl, ?_⟩
    walk_at "m__law_begun"
    refine r_int ⟨by omega, by omega, by decide⟩ ?_
    walk_at "m__law_begun"
    have e : (10 : Int) ^ (Int.toNat 18) = 10 ^ 18 := rfl
    rw [e]
    have hk := hk G' Ext.refl
    cases e2 : decide ((10 : Int) ^ 18 ≤ z) with
    | true =>
      walk_at "m__law_begun"
      have := of_decide_eq_true e2
      dsimp only at hk
      rw [if_pos this] at hk
      exact hk
    | false =>
      walk_at "m__law_begun"
      have := of_decide_eq_false e2
      dsimp only at hk
      rw [if_neg this] at hk
      exact hk
  have eD : G4 D = some (.lst ((ns.map fun i => if 10 ^ 18 ≤ i then i else 0).map .int)) := by rw [eD, List.map_map, List.map_map]; rfl
  walk_at "m__law_begun"
  have p4 := ex4 _ _ p3
  refine r_setD p4 rfl few rfl ?_
  walk_at "m__law_begun"
  have nD : D ≠ p := (ne_of_new p3 hD).symm
  have nlD : l ≠ D := ne_of_new l3 hD
  exact hq p l D _ hp ((Ext.new hp).none hl) (ex3.none hD) ((ex3.trans ex4).put hp) ⟨0, cells, _, updO_same, by rw [updO_ne nl]; exact ex4 _ _ l3, hc, by rw [updO_ne nD]; exact eD, by rw [List.length_map]; exact hn, by omega, by omega, nlD⟩
set_option maxHeartbeats 0 in
theorem ok__law_begun {P : Program} {w : World} {K : PySem.W.Frag} {mg : Str → Option Value} {base : Heap} (T : Txt K mg) : FnW P w K mg base 2 T.f__law_begun T.fd__law_begun ["_law_script"] (sp__law_begun T) :=
  fnW_of (t := t__law_begun T) T.F__law_begun sc__law_begun (len__law_begun T) (fun cdv A outer s H E hr => (zs_cons (z_set (i := 1) sc__law_begun.nd rfl (by first | exact .inl rfl | exact .inr rfl) (z_disp (zp_cons (z_call (sel := [.p 0]) (dws := []) (ok__law_folded T) (hr.mono (by decide)) rfl T.m__law_folded T.F__law_folded.kp (bind0 T.F__law_folded fun _ _ _ _ _ _ us uk h1 h2 => match us, h1, uk, h2 with | [_], _, [], _ => rfl) (takes_of rfl rfl rfl rfl) (z_acons (z_var (i := 0) rfl (by first | exact .inl rfl | exact .inr (.inl rfl) | exact .inr (.inr rfl))) (z_anil))) (zp_cons (z_lst (z_anil)) (zp_cons (z_int) (zp_nil)))))) (zs_cons (z_asg (z_lc (is := [2]) (own := [("_law_cell", 2)]) rfl sc__law_begun.nd (zi_seq (z_var (i := 0) rfl (by first | exact .inl rfl | exact .inr (.inl rfl) | exact .inr (.inr rfl)))) (blkOk_by rfl) (fun _ _ _ _ _ => pg_name sc__law_begun.nd rfl (by first | exact .inl rfl | exact .inr rfl)) (fun _ _ _ _ _ => zq_nil) (fun _ _ _ _ _ => z_ifx (z_qcmp (w_geA (hr).un) (z_var (i := 2) rfl (by first | exact .inl rfl | exact .inr (.inl rfl) | exact .inr (.inr rfl))) (z_bin w_pow (z_int) (z_int)) (by rfl)) (z_var (i := 2) rfl (by first | exact .inl rfl | exact .inr (.inl rfl) | exact .inr (.inr rfl))) (z_int)) (by decide)) (zg_sub (hr).un (z_var (i := 1) rfl (by first | exact .inl rfl | exact .inr (.inl rfl) | exact .inr (.inr rfl))) (z_str) (fun _ => rfl))) (zs_one (z_ret (z_var (i := 1) rfl (by first | exact .inl rfl | exact .inr (.inl rfl) | exact .inr (.inr rfl)))))))) (pf__law_begun T)

/-! ### law -/
theorem sc_law : FnScope ["_law_script", "_law_m", "_law_turn", "_law_size", "_law_links_here", "_law_k", "_law_chain", "_law_ring", "_law_one"] ["_law_script"] (defScope s_law) := ⟨rfl, rfl, rfl, by decide +kernel, rfl, by decide +kernel, by decide +kernel⟩
/-- numbers from a on, so many -/
def rgN (a : Int) (n : Nat) : List Int := (List.range n).map fun i : Nat => a + i
theorem rgN_w (a : Int) (n : Nat) : rgW a 1 n = (rgN a n).map .int := by
  unfold rgW rgN
  rw [List.map_map]
  refine List.map_congr_left fun i _ => ?_
  show Wv.int (a + (i : Int) * 1) = Wv.int (a + i)
  rw [Int.mul_one]
theorem rgN_mem {a k : Int} {n : Nat} : k ∈ rgN a n ↔ a ≤ k ∧ k < a + n := by
  unfold rgN
  rw [List.mem_map]
  constructor
  · rintro ⟨i, hi, rfl⟩
    have := List.mem_range.mp hi
    omega
  · intro h
    exact ⟨(k - a).toNat, List.mem_range.mpr (by omega), by omega⟩
theorem rgN_rise (a : Int) (n : Nat) : (rgN a n).Pairwise (· < ·) := by
  unfold rgN
  rw [List.pairwise_map]
  exact List.pairwise_lt_range.imp fun h => by omega
def chainL : Lk := (List.range 119).map fun i : Nat => ((i : Int) + 1, (i : Int))
theorem chain_mem {a b : Int} : (a, b) ∈ chainL ↔ a = b + 1 ∧ 0 ≤ b ∧ b < 119 := by
  unfold chainL
  rw [List.mem_map]
  constructor
  · rintro ⟨i, hi, e⟩
    have := List.mem_range.mp hi
    cases e
    omega
  · intro h
    exact ⟨b.toNat, List.mem_range.mpr (by omega), Prod.ext (by dsimp only; omega) (by dsimp only; omega)⟩
theorem chain_len : chainL.length = 119 := by unfold chainL; rw [List.length_map, List.length_range]
theorem chain_rise : chainL.Pairwise ltPr := by
  unfold chainL
  rw [List.pairwise_map]
  exact List.pairwise_lt_range.imp fun h => .inl (by dsimp only; omega)
theorem chain_good : GoodL chainL 120 := ⟨fun p hp => by
  obtain ⟨p1, p2⟩ := p
  have := chain_mem.mp hp
  refine ⟨by dsimp only; omega, by dsimp only; omega⟩, chain_rise, by rw [chain_len]; omega⟩
def ringL : Lk := (0, 119) :: chainL
theorem ring_good : GoodL ringL 120 := ⟨fun p hp => by
  rcases List.mem_cons.mp hp with rfl | hp
  · refine ⟨by decide, by decide⟩
  · exact chain_good.1 p hp, List.pairwise_cons.mpr ⟨fun p hp => by
    obtain ⟨p1, p2⟩ := p
    have := chain_mem.mp hp
    exact .inl (by dsimp only; omega), chain_rise⟩, by unfold ringL; rw [List.length_cons, chain_len]; omega⟩
theorem down {L : Lk} {S : List Int} {k : Int} (h : ∀ b : Int, 0 ≤ b → b < k → LF.Step L true (b + 1) b) (hk : LF.Reach L true S k) : ∀ (t : Nat), (t : Int) ≤ k → LF.Reach L true S (k - t)
  | 0, _ => by simpa using hk
  | t + 1, ht => by
    have := down h hk t (by omega)
    refine .go this ?_
    have := h (k - (t + 1 : Nat)) (by omega) (by omega)
    rwa [show k - ((t + 1 : Nat) : Int) + 1 = k - t by omega] at this
theorem upw {L : Lk} {S : List Int} {k : Int} (h0 : 0 ≤ k) (h : ∀ b : Int, 0 ≤ b → b < 119 → LF.Step L false b (b + 1)) (hk : LF.Reach L false S k) : ∀ (t : Nat), k + t ≤ 119 → LF.Reach L false S (k + t)
  | 0, _ => by simpa using hk
  | t + 1, ht => by
    have := upw h0 h hk t (by omega)
    refine .go this ?_
    have := h (k + t) (by omega) (by omega)
    rwa [show k + t + 1 = k + ((t + 1 : Nat) : Int) by omega] at this
theorem chain_down {k : Int} (h0 : 0 ≤ k) (h1 : k < 120) : ReachL chainL true [k] (rgN 0 (k + 1).toNat) := ⟨rgN_rise _ _, fun j => by
  rw [rgN_mem]
  constructor
  · intro h
    have := down (L := chainL) (S := [k]) (k := k) (fun b b0 b1 => by unfold LF.Step; exact chain_mem.mpr (by omega)) (.at (by simp)) (k - j).toNat (by omega)
    rwa [show k - ((k - j).toNat : Int) = j by omega] at this
  · intro r
    have : 0 ≤ j ∧ j ≤ k := LF.Reach.closed (S := fun j => 0 ≤ j ∧ j ≤ k) (fun j hj => by cases List.mem_singleton.mp hj; omega) (fun a b ha s => by
      have := chain_mem.mp (show (a, b) ∈ chainL by unfold LF.Step at s; simpa using s)
      omega) r
    omega⟩
theorem chain_up {k : Int} (h0 : 0 ≤ k) (h1 : k < 120) : ReachL chainL false [k] (rgN k (120 - k).toNat) := ⟨rgN_rise _ _, fun j => by
  rw [rgN_mem]
  constructor
  · intro h
    have := upw (L := chainL) (S := [k]) h0 (fun b b0 b1 => by unfold LF.Step; exact chain_mem.mpr (by omega)) (.at (by simp)) (j - k).toNat (by omega)
    rwa [show k + ((j - k).toNat : Int) = j by omega] at this
  · intro r
    have : k ≤ j ∧ j < 120 := LF.Reach.closed (S := fun j => k ≤ j ∧ j < 120) (fun j hj => by cases List.mem_singleton.mp hj; omega) (fun a b ha s => by
      have := chain_mem.mp (show (b, a) ∈ chainL by unfold LF.Step at s; simpa using s)
      omega) r
    omega⟩
theorem ring_down {k : Int} (h0 : 0 ≤ k) (h1 : k < 120) : ReachL ringL true [k] (rgN 0 120) := ⟨rgN_rise _ _, fun j => by
  rw [rgN_mem]
  have st : ∀ b : Int, 0 ≤ b → b < 119 → LF.Step ringL true (b + 1) b := fun b b0 b1 => by
    unfold LF.Step; exact List.mem_cons_of_mem _ (chain_mem.mpr (by omega))
  constructor
  · intro h
    have z0 := down (L := ringL) (S := [k]) (k := k) (fun b b0 b1 => st b b0 (by omega)) (.at (by simp)) k.toNat (by omega)
    rw [show k - (k.toNat : Int) = 0 by omega] at z0
    have z1 : LF.Reach ringL true [k] 119 := .go z0 (by unfold LF.Step; exact List.mem_cons_self)
    have := down (L := ringL) (S := [k]) (fun b b0 b1 => st b b0 b1) z1 (119 - j).toNat (by omega)
    rwa [show (119 : Int) - ((119 - j).toNat : Int) = j by omega] at this
  · intro r
    have := LF.Reach.inR ring_good.lkIn (fun j hj => by cases List.mem_singleton.mp hj; omega) r
    omega⟩
theorem ring_up {k : Int} (h0 : 0 ≤ k) (h1 : k < 120) : ReachL ringL false [k] (rgN 0 120) := ⟨rgN_rise _ _, fun j => by
  rw [rgN_mem]
  have st : ∀ b : Int, 0 ≤ b → b < 119 → LF.Step ringL false b (b + 1) := fun b b0 b1 => by
    unfold LF.Step; exact List.mem_cons_of_mem _ (chain_mem.mpr (by omega))
  constructor
  · intro h
    have z0 := upw (L := ringL) (S := [k]) h0 st (.at (by simp)) (119 - k).toNat (by omega)
    rw [show k + ((119 - k).toNat : Int) = 119 by omega] at z0
    have z1 : LF.Reach ringL false [k] 0 := .go z0 (by unfold LF.Step; exact List.mem_cons_self)
    have := upw (L := ringL) (S := [k]) (by omega) st z1 j.toNat (by omega)
    rwa [show (0 : Int) + (j.toNat : Int) = j by omega] at this
  · intro r
    have := LF.Reach.inR ring_good.lkIn (fun j hj => by cases List.mem_singleton.mp hj; omega) r
    omega⟩
def chF : Wv → Wv
  | .int i => .tup [.int i, .int (i - 1)]
  | w => w
theorem chF_map : (rgW 1 1 119).map chF = chainL.map tup2 := by
  unfold rgW chainL
  rw [List.map_map, List.map_map]
  refine List.map_congr_left fun i _ => ?_
  show Wv.tup [.int (1 + (i : Int) * 1), .int (1 + (i : Int) * 1 - 1)] = Wv.tup [.int ((i : Int) + 1), .int (i : Int)]
  rw [show (1 + (i : Int) * 1) = (i : Int) + 1 by omega, show ((i : Int) + 1 - 1) = (i : Int) by omega]
theorem strict_ext : ∀ {a b : Lk}, a.Pairwise ltPr → b.Pairwise ltPr → (∀ k, k ∈ a ↔ k ∈ b) → a = b
  | [], [], _, _, _ => rfl
  | [], y :: b, _, _, h => by have := (h y).mpr List.mem_cons_self; cases this
  | x :: a, [], _, _, h => by have := (h x).mp List.mem_cons_self; cases this
  | x :: a, y :: b, ha, hb, h => by
    obtain ⟨a1, a2⟩ := List.pairwise_cons.mp ha
    obtain ⟨b1, b2⟩ := List.pairwise_cons.mp hb
    have e : x = y := by
      rcases List.mem_cons.mp ((h x).mp List.mem_cons_self) with z | z
      · exact z
      · rcases List.mem_cons.mp ((h y).mpr List.mem_cons_self) with u | u
        · exact u.symm
        · have := a1 y u; have := b1 x z; unfold ltPr at *; omega
    subst e
    rw [strict_ext a2 b2 fun k => ⟨fun hk => ?_, fun hk => ?_⟩]
    · rcases List.mem_cons.mp ((h k).mp (List.mem_cons_of_mem _ hk)) with z | z
      · subst z; have := a1 k hk; unfold ltPr at this; omega
      · exact z
    · rcases List.mem_cons.mp ((h k).mpr (List.mem_cons_of_mem _ hk)) with z | z
      · subst z; have := b1 k hk; unfold ltPr at this; omega
      · exact z
def sp_law {K : PySem.W.Frag} {mg : Str → Option Value} (T : Txt K mg) : SpW := fun ws G q _ => ∃ ns : List Int, ws = [.kls (ns.map .int)] ∧ ns.length ≤ 63 ∧ G T.P__law_refused_right = some (.tab "_law_refused_right.<locals>.<lambda>") ∧ ∀ G', q (.bl true) G'
theorem len_law {K : PySem.W.Frag} {mg : Str → Option Value} (T : Txt K mg) (ws : List Wv) (G : HW) (q : WK) (x : XE) (h : sp_law T ws G q x) : ws.length = 1 := by
  obtain ⟨ns, rfl, _⟩ := h
  rfl
theorem fin_law {K : PySem.W.Frag} {mg : Str → Option Value} (T : Txt K mg) (ns : List Int) (h : ns.length ≤ 63) (_ : ∀ z ∈ ns, Builtin.Int.intBits z ≤ 1048576) : sp_law T [.kls (ns.map .int)] (G0 [(T.c__law_refused_right, T.P__law_refused_right, "_law_refused_right.<locals>.<lambda>")]) (fun v _ => v = .bl true) fun _ _ _ => False :=
  ⟨ns, rfl, h, by unfold G0; simp, fun _ => rfl⟩
def b_law_14 {K : PySem.W.Frag} {mg : Str → Option Value} (T : Txt K mg) : ST := sRet (eAnd (eOp wEq (eCall 2 0 [.p 0, .p 1] [] (sp_closure T) (aCons (eV 7) (aCons (eTup (aCons (eV 5) (aNil))) (aNil))) aNil) (eTupRg (rg1 (eC (.int 120))))) (eOp wEq (eCall 3 0 [.p 0, .p 1, .p 2] [] (sp_without_fall T) (aCons (eV 7) (aCons (eTupRg (rg1 (eC (.int 120)))) (aCons (eV 5) (aNil)))) aNil) (eTup (aNil))))
theorem mb_law_14 {K : PySem.W.Frag} {mg : Str → Option Value} (T : Txt K mg) (D : EndsW) (σ : SW) (G : HW) : b_law_14 T D σ G = (sRet (eAnd (eOp wEq (eCall 2 0 [.p 0, .p 1] [] (sp_closure T) (aCons (eV 7) (aCons (eTup (aCons (eV 5) (aNil))) (aNil))) aNil) (eTupRg (rg1 (eC (.int 120))))) (eOp wEq (eCall 3 0 [.p 0, .p 1, .p 2] [] (sp_without_fall T) (aCons (eV 7) (aCons (eTupRg (rg1 (eC (.int 120)))) (aCons (eV 5) (aNil)))) aNil) (eTup (aNil))))) D σ G := rfl
def b_law_13 {K : PySem.W.Frag} {mg : Str → Option Value} (T : Txt K mg) : ST := sSeq (sSet 7 (eCB wTuple (aCons (eCB wSrt (aCons (eOp wAdd (eV 6) (eTup (aCons (eTup (aCons (eC (.int 0)) (aCons (eC (.int 119)) (aNil)))) (aNil)))) (aNil))) (aNil)))) (b_law_14 T)
theorem mb_law_13 {K : PySem.W.Frag} {mg : Str → Option Value} (T : Txt K mg) (D : EndsW) (σ : SW) (G : HW) : b_law_13 T D σ G = (sSeq (sSet 7 (eCB wTuple (aCons (eCB wSrt (aCons (eOp wAdd (eV 6) (eTup (aCons (eTup (aCons (eC (.int 0)) (aCons (eC (.int 119)) (aNil)))) (aNil)))) (aNil))) (aNil)))) (b_law_14 T)) D σ G := rfl
def b_law_11 {K : PySem.W.Frag} {mg : Str → Option Value} (T : Txt K mg) : ST := sSeq (sIf (qOr (qOp wNe (eCall 2 0 [.p 0, .p 1] [] (sp_closure T) (aCons (eV 6) (aCons (eTup (aCons (eV 5) (aNil))) (aNil))) aNil) (eTupRg (rg1 (eOp wAdd (eV 5) (eC (.int 1)))))) (qOp wNe (eCall 2 0 [.p 0, .p 1] [] (sp_fall T) (aCons (eV 6) (aCons (eV 5) (aNil))) aNil) (eTupRg (rg2 (eV 5) (eC (.int 120)))))) (sRet (eC (.bl false))) (sNext)) (b_law_13 T)
theorem mb_law_11 {K : PySem.W.Frag} {mg : Str → Option Value} (T : Txt K mg) (D : EndsW) (σ : SW) (G : HW) : b_law_11 T D σ G = (sSeq (sIf (qOr (qOp wNe (eCall 2 0 [.p 0, .p 1] [] (sp_closure T) (aCons (eV 6) (aCons (eTup (aCons (eV 5) (aNil))) (aNil))) aNil) (eTupRg (rg1 (eOp wAdd (eV 5) (eC (.int 1)))))) (qOp wNe (eCall 2 0 [.p 0, .p 1] [] (sp_fall T) (aCons (eV 6) (aCons (eV 5) (aNil))) aNil) (eTupRg (rg2 (eV 5) (eC (.int 120)))))) (sRet (eC (.bl false))) (sNext)) (b_law_13 T)) D σ G := rfl
def b_law_10 {K : PySem.W.Frag} {mg : Str → Option Value} (T : Txt K mg) : ST := sSeq (sPar 6 5 (aCons (eCB wTuple (aCons (eLc (iRg2 (aCons (eC (.int 1)) (aCons (eC (.int 120)) (aNil)))) [8] [8] (qYes) (eTup (aCons (eV 8) (aCons (eOp oSub (eV 8) (eC (.int 1))) (aNil))))) (aNil))) (aCons (eCall 2 0 [.p 0, .p 1] [] (sp__law_draw T) (aCons (eV 1) (aCons (eC (.int 120)) (aNil))) aNil) (aNil)))) (b_law_11 T)
theorem mb_law_10 {K : PySem.W.Frag} {mg : Str → Option Value} (T : Txt K mg) (D : EndsW) (σ : SW) (G : HW) : b_law_10 T D σ G = (sSeq (sPar 6 5 (aCons (eCB wTuple (aCons (eLc (iRg2 (aCons (eC (.int 1)) (aCons (eC (.int 120)) (aNil)))) [8] [8] (qYes) (eTup (aCons (eV 8) (aCons (eOp oSub (eV 8) (eC (.int 1))) (aNil))))) (aNil))) (aCons (eCall 2 0 [.p 0, .p 1] [] (sp__law_draw T) (aCons (eV 1) (aCons (eC (.int 120)) (aNil))) aNil) (aNil)))) (b_law_11 T)) D σ G := rfl
def b_law_8 {K : PySem.W.Frag} {mg : Str → Option Value} (T : Txt K mg) : ST := sIf (qNot (qTru (eCall 3 0 [.p 0, .p 1, .p 2] [] (sp__law_one_right T) (aCons (eV 1) (aCons (eV 4) (aCons (eV 3) (aNil)))) aNil))) (sRet (eC (.bl false))) (sNext)
theorem mb_law_8 {K : PySem.W.Frag} {mg : Str → Option Value} (T : Txt K mg) (D : EndsW) (σ : SW) (G : HW) : b_law_8 T D σ G = (sIf (qNot (qTru (eCall 3 0 [.p 0, .p 1, .p 2] [] (sp__law_one_right T) (aCons (eV 1) (aCons (eV 4) (aCons (eV 3) (aNil)))) aNil))) (sRet (eC (.bl false))) (sNext)) D σ G := rfl
def b_law_7 {K : PySem.W.Frag} {mg : Str → Option Value} (T : Txt K mg) : ST := sFor (iRg1 (aCons (eC (.int 4)) (aNil))) (gNm 5) (b_law_8 T)
theorem mb_law_7 {K : PySem.W.Frag} {mg : Str → Option Value} (T : Txt K mg) (D : EndsW) (σ : SW) (G : HW) : b_law_7 T D σ G = (sFor (iRg1 (aCons (eC (.int 4)) (aNil))) (gNm 5) (b_law_8 T)) D σ G := rfl
def b_law_5 {K : PySem.W.Frag} {mg : Str → Option Value} (T : Txt K mg) : ST := sSeq (sIf (qOr (qOp wIsNot (eCall 1 0 [.p 0, .d 0] [.int 120] (sp_is_links T) (aCons (eV 4) (aNil)) aNil) (eC (.bl true))) (qOr (qOp wIsNot (eCall 2 0 [.p 0, .p 1] [.int 120] (sp_is_links T) (aCons (eV 4) (aCons (eV 3) (aNil))) aNil) (eC (.bl true))) (qNot (qTru (eCall 2 0 [.p 0, .p 1] [] (sp__law_refused_right T) (aCons (eV 1) (aCons (eV 4) (aNil))) aNil))))) (sRet (eC (.bl false))) (sNext)) (b_law_7 T)
theorem mb_law_5 {K : PySem.W.Frag} {mg : Str → Option Value} (T : Txt K mg) (D : EndsW) (σ : SW) (G : HW) : b_law_5 T D σ G = (sSeq (sIf (qOr (qOp wIsNot (eCall 1 0 [.p 0, .d 0] [.int 120] (sp_is_links T) (aCons (eV 4) (aNil)) aNil) (eC (.bl true))) (qOr (qOp wIsNot (eCall 2 0 [.p 0, .p 1] [.int 120] (sp_is_links T) (aCons (eV 4) (aCons (eV 3) (aNil))) aNil) (eC (.bl true))) (qNot (qTru (eCall 2 0 [.p 0, .p 1] [] (sp__law_refused_right T) (aCons (eV 1) (aCons (eV 4) (aNil))) aNil))))) (sRet (eC (.bl false))) (sNext)) (b_law_7 T)) D σ G := rfl
def b_law_4 {K : PySem.W.Frag} {mg : Str → Option Value} (T : Txt K mg) : ST := sSeq (sSet 4 (eCall 2 0 [.p 0, .p 1] [] (sp__law_links T) (aCons (eV 1) (aCons (eV 3) (aNil))) aNil)) (b_law_5 T)
theorem mb_law_4 {K : PySem.W.Frag} {mg : Str → Option Value} (T : Txt K mg) (D : EndsW) (σ : SW) (G : HW) : b_law_4 T D σ G = (sSeq (sSet 4 (eCall 2 0 [.p 0, .p 1] [] (sp__law_links T) (aCons (eV 1) (aCons (eV 3) (aNil))) aNil)) (b_law_5 T)) D σ G := rfl
def b_law_3 {K : PySem.W.Frag} {mg : Str → Option Value} (T : Txt K mg) : ST := sSeq (sSet 3 (eOp wIx (eLst (aCons (eC (.int 0)) (aCons (eC (.int 3)) (aCons (eC (.int 8)) (aCons (eC (.int 20)) (aCons (eC (.int 40)) (aNil))))))) (eCall 2 0 [.p 0, .p 1] [] (sp__law_draw T) (aCons (eV 1) (aCons (eC (.int 5)) (aNil))) aNil))) (b_law_4 T)
theorem mb_law_3 {K : PySem.W.Frag} {mg : Str → Option Value} (T : Txt K mg) (D : EndsW) (σ : SW) (G : HW) : b_law_3 T D σ G = (sSeq (sSet 3 (eOp wIx (eLst (aCons (eC (.int 0)) (aCons (eC (.int 3)) (aCons (eC (.int 8)) (aCons (eC (.int 20)) (aCons (eC (.int 40)) (aNil))))))) (eCall 2 0 [.p 0, .p 1] [] (sp__law_draw T) (aCons (eV 1) (aCons (eC (.int 5)) (aNil))) aNil))) (b_law_4 T)) D σ G := rfl
def b_law_2 {K : PySem.W.Frag} {mg : Str → Option Value} (T : Txt K mg) : ST := sSeq (sFor (iRg1 (aCons (eCB wMin (aCons (eC (.int 8)) (aCons (eOp wAdd (eC (.int 2)) (eOp oDiv (eCB wLen (aCons (eV 0) (aNil))) (eC (.int 8)))) (aNil)))) (aNil))) (gNm 2) (b_law_3 T)) (b_law_10 T)
theorem mb_law_2 {K : PySem.W.Frag} {mg : Str → Option Value} (T : Txt K mg) (D : EndsW) (σ : SW) (G : HW) : b_law_2 T D σ G = (sSeq (sFor (iRg1 (aCons (eCB wMin (aCons (eC (.int 8)) (aCons (eOp wAdd (eC (.int 2)) (eOp oDiv (eCB wLen (aCons (eV 0) (aNil))) (eC (.int 8)))) (aNil)))) (aNil))) (gNm 2) (b_law_3 T)) (b_law_10 T)) D σ G := rfl
def t_law {K : PySem.W.Frag} {mg : Str → Option Value} (T : Txt K mg) : ST := sSeq (sSet 1 (eCall 1 0 [.p 0] [] (sp__law_begun T) (aCons (eV 0) (aNil)) aNil)) (b_law_2 T)
local macro_rules | `(tactic| walk_at "m_law") => `(tactic| simp only [m_V, m_kV, m_C, m_Op, m_kOp, m_kOp2, m_kBl, m_qOp, m_kCh2, m_kCh2f, m_kCh3, m_kCh1, m_kCh, m_Ch, m_qCh, m_oNone, m_oSome, m_kO, m_Sl, m_kSl, m_kSl1, m_kSl2, m_slT, m_qT, m_kTru, m_tB, m_tN, m_tI, m_tT, m_qA, m_qO, m_qN, m_kqAt, m_kqAf, m_kqOt, m_kqOf, m_kqN, m_qYes, m_A, m_Or, m_N, m_Neg, m_kAt, m_kAf, m_kOrt, m_kOrf, m_kN, m_kNeg, m_If, m_kIft, m_kIff, m_an, m_ac, m_kac, m_kac2, m_Tup, m_Lst, m_kTup, m_CB, m_kCB, m_pk1, m_pp, m_pkk, m_pd, m_pn, m_kX, m_Call, m_kC1, m_kC2, m_BM, m_BM0, m_kM1, m_Seq, m_Seq_nx, m_Seq_rt, m_Seq_bk, m_Seq_ct, m_Seq_ex, m_Next, m_Brk, m_Cont, m_Expr, m_kEx, m_Ret, m_RetN, m_SIf, m_kSIft, m_kSIff, m_Set, m_kSet, m_Par, m_kPar, m_Par3, m_kPar3, m_Asg, m_kAsg, m_gNm, m_kG, m_gNo, m_gMo, m_gTu, m_gSb, m_kGs, m_kGs2, m_kW2, m_Aug, m_kAug, m_kAu, m_kAu2, m_mk1, m_kMk, m_Raise, m_ends_rt, m_ends_ex, m_ends_nx, m_add, m_addB, m_sub, m_eqI, m_eqS, m_neI, m_neS, m_isB, m_isN, m_isNotN, m_nonN, m_nonR, m_nonT, m_nonI, m_nonS, m_nonB, m_lenT, m_lenK, m_tupT, m_max, m_min, m_intI, m_intB, m_pr0, m_pr, m_kpr, m_kpr2, m_Xf, m_Try, m_Try_nx, m_Try_rt, m_Try_bk, m_Try_ct, m_Try_ex, m_Suite_nx, m_Suite_rt, m_Suite_bk, m_Suite_ct, m_kXe, m_kXo, m_tlOf, m_For, m_Loop_nx, m_Loop_ct, m_Loop_bk, m_Loop_rt, m_Loop_ex, m_kB, m_iSeq, m_kItT, m_kItK, m_kItS, m_iRg1, m_iRg2, m_iEnu, m_kEnuK, m_iZp, m_kZpT, m_iRv, m_kRvT, m_Lc, m_kCell, m_kTurnT, m_kTurnF, m_wip0, m_wip1, m_Back, m_kBackT, m_rg1, m_kRgA, m_TupRg, m_LstRg, m_Dc, m_DturnT, m_DturnF, m_kDk, m_kDv, m_SSet, m_iRvR, m_At, m_Fst, m_kFs, m_Meth, m_kMe2, m_kMe3, m_Make, m_kMk1, m_kMade, m_ltI, m_geI, m_geP, m_isNotB, m_Get1, m_Get2, m_kGet2, m_Setd, m_kSd2, m_rg2, m_kRg2a, m_kRg2b, List.getElem?_cons_zero, List.getElem?_cons_succ, List.set_cons_zero, List.set_cons_succ, List.length_cons, List.length_nil, Nat.zero_add, Nat.reduceAdd, Nat.reduceLeDiff, Bool.not_true, Bool.not_false, mb_law_14, mb_law_13, mb_law_11, mb_law_8, mb_law_7, mb_law_5, mb_law_4, mb_law_3, mb_law_2])
theorem pf_law {K : PySem.W.Frag} {mg : Str → Option Value} (T : Txt K mg) (ws : List Wv) (G : HW) (q : WK) (x : XE) (h : sp_law T ws G q x) : t_law T (endsW q x) (startW ["_law_script", "_law_m", "_law_turn", "_law_size", "_law_links_here", "_law_k", "_law_chain", "_law_ring", "_law_one"] ws) G := by
  obtain ⟨ns, rfl, hn, hP, hq⟩ := h
  show t_law T (endsW q x) [some (.kls (ns.map .int)), none, none, none, none, none, none, none, none] G
  unfold t_law
  walk_at "m_law"
  refine ⟨ns, rfl, hn, fun m a b G1 hm ha hb ex st => ?_⟩
  walk_at "m_law"
  have nPm : T.P__law_refused_right ≠ m := ne_of_new hP hm
  have nPb : T.P__law_refused_right ≠ b := ne_of_new hP hb
  have nP : T.P__law_refused_right ∉ [m, b] := by simp [nPm, nPb]
  refine r_int (by unfold CDiv; omega) ?_
  walk_at "m_law"
  obtain ⟨c, hc, ec⟩ : ∃ c : Nat, c ≤ 8 ∧ (if (2 : Int) + ((ns.map Wv.int).length : Int) / 8 < 8 then (2 : Int) + ((ns.map Wv.int).length : Int) / 8 else 8) = c := by
    rw [List.length_map]
    split
    · exact ⟨(2 + (ns.length : Int) / 8).toNat, by omega, by omega⟩
    · exact ⟨8, by omega, rfl⟩
  rw [ec]
  refine r_rg1 (by omega) (by omega) ?_
  rw [Int.toNat_natCast]
  have un : ∀ {G : HW} {l : Addr} {k : Nat}, DSt G m a b k → G l = none → l ∉ [m, b] ∧ l ≠ m ∧ l ≠ a ∧ l ≠ b := fun ⟨k, c, lf, h1, h2, _, h4, _⟩ hl => ⟨by simp [(ne_of_new h1 hl).symm, (ne_of_new h4 hl).symm], (ne_of_new h1 hl).symm, (ne_of_new h2 hl).symm, (ne_of_new h4 hl).symm⟩
  refine r_for (fun i σ G2 => ∃ o2 o3 o4 o5 : Option Wv, σ = [some (.kls (ns.map .int)), some (.ref m), o2, o3, o4, o5, none, none, none] ∧ G2 T.P__law_refused_right = some (.tab "_law_refused_right.<locals>.<lambda>") ∧ DSt G2 m a b (3000 * (8 - i) + 10))
    ⟨_, _, _, _, rfl, ex _ _ hP, st.mono (by omega)⟩ (fun _ _ _ _ _ => trivial) ?_ ?_
  · rintro i w σ2 G2 ew ⟨o2, o3, o4, o5, rfl, hP2, st2⟩
    obtain ⟨hi, rfl⟩ := rg_nat ew
    have hi : i < c := hi
    walk_at "m_law"
    refine r_lst' fun l hl => ?_
    have xl := Ext.new (o := .lst [.int 0, .int 3, .int 8, .int 20, .int 40]) hl
    walk_at "m_law"
    refine ⟨m, a, b, 5, 3000 * (8 - i) + 9, rfl, by omega, by omega, st2.ext xl, fun r G3 r0 r1 kp3 st3 => ?_⟩
    walk_at "m_law"
    obtain ⟨sz, hszm, hsz⟩ := at_some (us := [Wv.int 0, .int 3, .int 8, .int 20, .int 40]) r0 (by simp only [List.length_cons, List.length_nil]; omega)
    obtain ⟨size, rfl, hs⟩ : ∃ size : Nat, sz = .int size ∧ size ≤ 40 := by
      simp only [List.mem_cons, List.not_mem_nil, or_false] at hszm
      rcases hszm with rfl | rfl | rfl | rfl | rfl
      · exact ⟨0, rfl, by omega⟩
      · exact ⟨3, rfl, by omega⟩
      · exact ⟨8, rfl, by omega⟩
      · exact ⟨20, rfl, by omega⟩
      · exact ⟨40, rfl, by omega⟩
    refine r_ixL (.inl (kp3 _ _ (un st2 hl).1 updO_same)) hsz ?_
    have hP3 := kp3 _ _ nP (xl _ _ hP2)
    walk_at "m_law"
    refine ⟨m, a, b, size, 3000 * (8 - i) - 1200, rfl, by omega, st3.mono (by omega), fun L G4 gl kp4 st4 => ?_⟩
    have hP4 := kp4 _ _ nP hP3
    have g12 : GoodL L 120 := gl.mono (by omega)
    walk_at "m_law"
    refine ⟨_, 120, rfl, g12.kn, fun G5 x5 => ?_⟩
    rw [g12.is]
    simp only [m_V, m_kV, m_C, m_Op, m_kOp, m_kOp2, m_kBl, m_qOp, m_kCh2, m_kCh2f, m_kCh3, m_kCh1, m_kCh, m_Ch, m_qCh, m_oNone, m_oSome, m_kO, m_Sl, m_kSl, m_kSl1, m_kSl2, m_slT, m_qT, m_kTru, m_tB, m_tN, m_tI, m_tT, m_qA, m_qO, m_qN, m_kqAt, m_kqAf, m_kqOt, m_kqOf, m_kqN, m_qYes, m_A, m_Or, m_N, m_Neg, m_kAt, m_kAf, m_kOrt, m_kOrf, m_kN, m_kNeg, m_If, m_kIft, m_kIff, m_an, m_ac, m_kac, m_kac2, m_Tup, m_Lst, m_kTup, m_CB, m_kCB, m_pk1, m_pp, m_pkk, m_pd, m_pn, m_kX, m_Call, m_kC1, m_kC2, m_BM, m_BM0, m_kM1, m_Seq, m_Seq_nx, m_Seq_rt, m_Seq_bk, m_Seq_ct, m_Seq_ex, m_Next, m_Brk, m_Cont, m_Expr, m_kEx, m_Ret, m_RetN, m_SIf, m_kSIft, m_kSIff, m_Set, m_kSet, m_Par, m_kPar, m_Par3, m_kPar3, m_Asg, m_kAsg, m_gNm, m_kG, m_gNo, m_gMo, m_gTu, m_gSb, m_kGs, m_kGs2, m_kW2, m_Aug, m_kAug, m_kAu, m_kAu2, m_mk1, m_kMk, m_Raise, m_ends_rt, m_ends_ex, m_ends_nx, m_add, m_addB, m_sub, m_eqI, m_eqS, m_neI, m_neS, m_isB, m_isN, m_isNotN, m_nonN, m_nonR, m_nonT, m_nonI, m_nonS, m_nonB, m_lenT, m_lenK, m_tupT, m_max, m_min, m_intI, m_intB, m_pr0, m_pr, m_kpr, m_kpr2, m_Xf, m_Try, m_Try_nx, m_Try_rt, m_Try_bk, m_Try_ct, m_Try_ex, m_Suite_nx, m_Suite_rt, m_Suite_bk, m_Suite_ct, m_kXe, m_kXo, m_tlOf, m_For, m_Loop_nx, m_Loop_ct, m_Loop_bk, m_Loop_rt, m_Loop_ex, m_kB, m_iSeq, m_kItT, m_kItK, m_kItS, m_iRg1, m_iRg2, m_iEnu, m_kEnuK, m_iZp, m_kZpT, m_iRv, m_kRvT, m_Lc, m_kCell, m_kTurnT, m_kTurnF, m_wip0, m_wip1, m_Back, m_kBackT, m_rg1, m_kRgA, m_TupRg, m_LstRg, m_Dc, m_DturnT, m_DturnF, m_kDk, m_kDv, m_SSet, m_iRvR, m_At, m_Fst, m_kFs, m_Meth, m_kMe2, m_kMe3, m_Make, m_kMk1, m_kMade, m_ltI, m_geI, m_geP, m_isNotB, m_Get1, m_Get2, m_kGet2, m_Setd, m_kSd2, m_rg2, m_kRg2a, m_kRg2b, List.getElem?_cons_zero, List.getElem?_cons_succ, List.set_cons_zero, List.set_cons_succ, List.length_cons, List.length_nil, Nat.zero_add, Nat.reduceAdd, Nat.reduceLeDiff, Bool.not_true, Bool.not_false, mb_law_14, mb_law_13, mb_law_11, mb_law_8, mb_law_7, mb_law_5, mb_law_4, mb_law_3, mb_law_2, decide_true]
    refine ⟨_, size, rfl, g12.kn, fun G6 x6 => ?_⟩
    rw [gl.is]
    simp only [m_V, m_kV, m_C, m_Op, m_kOp, m_kOp2, m_kBl, m_qOp, m_kCh2, m_kCh2f, m_kCh3, m_kCh1, m_kCh, m_Ch, m_qCh, m_oNone, m_oSome, m_kO, m_Sl, m_kSl, m_kSl1, m_kSl2, m_slT, m_qT, m_kTru, m_tB, m_tN, m_tI, m_tT, m_qA, m_qO, m_qN, m_kqAt, m_kqAf, m_kqOt, m_kqOf, m_kqN, m_qYes, m_A, m_Or, m_N, m_Neg, m_kAt, m_kAf, m_kOrt, m_kOrf, m_kN, m_kNeg, m_If, m_kIft, m_kIff, m_an, m_ac, m_kac, m_kac2, m_Tup, m_Lst, m_kTup, m_CB, m_kCB, m_pk1, m_pp, m_pkk, m_pd, m_pn, m_kX, m_Call, m_kC1, m_kC2, m_BM, m_BM0, m_kM1, m_Seq, m_Seq_nx, m_Seq_rt, m_Seq_bk, m_Seq_ct, m_Seq_ex, m_Next, m_Brk, m_Cont, m_Expr, m_kEx, m_Ret, m_RetN, m_SIf, m_kSIft, m_kSIff, m_Set, m_kSet, m_Par, m_kPar, m_Par3, m_kPar3, m_Asg, m_kAsg, m_gNm, m_kG, m_gNo, m_gMo, m_gTu, m_gSb, m_kGs, m_kGs2, m_kW2, m_Aug, m_kAug, m_kAu, m_kAu2, m_mk1, m_kMk, m_Raise, m_ends_rt, m_ends_ex, m_ends_nx, m_add, m_addB, m_sub, m_eqI, m_eqS, m_neI, m_neS, m_isB, m_isN, m_isNotN, m_nonN, m_nonR, m_nonT, m_nonI, m_nonS, m_nonB, m_lenT, m_lenK, m_tupT, m_max, m_min, m_intI, m_intB, m_pr0, m_pr, m_kpr, m_kpr2, m_Xf, m_Try, m_Try_nx, m_Try_rt, m_Try_bk, m_Try_ct, m_Try_ex, m_Suite_nx, m_Suite_rt, m_Suite_bk, m_Suite_ct, m_kXe, m_kXo, m_tlOf, m_For, m_Loop_nx, m_Loop_ct, m_Loop_bk, m_Loop_rt, m_Loop_ex, m_kB, m_iSeq, m_kItT, m_kItK, m_kItS, m_iRg1, m_iRg2, m_iEnu, m_kEnuK, m_iZp, m_kZpT, m_iRv, m_kRvT, m_Lc, m_kCell, m_kTurnT, m_kTurnF, m_wip0, m_wip1, m_Back, m_kBackT, m_rg1, m_kRgA, m_TupRg, m_LstRg, m_Dc, m_DturnT, m_DturnF, m_kDk, m_kDv, m_SSet, m_iRvR, m_At, m_Fst, m_kFs, m_Meth, m_kMe2, m_kMe3, m_Make, m_kMk1, m_kMade, m_ltI, m_geI, m_geP, m_isNotB, m_Get1, m_Get2, m_kGet2, m_Setd, m_kSd2, m_rg2, m_kRg2a, m_kRg2b, List.getElem?_cons_zero, List.getElem?_cons_succ, List.set_cons_zero, List.set_cons_succ, List.length_cons, List.length_nil, Nat.zero_add, Nat.reduceAdd, Nat.reduceLeDiff, Bool.not_true, Bool.not_false, mb_law_14, mb_law_13, mb_law_11, mb_law_8, mb_law_7, mb_law_5, mb_law_4, mb_law_3, mb_law_2, decide_true]
    have x46 := x5.trans x6
    refine ⟨m, a, b, L, 3000 * (8 - i) - 1220, rfl, g12, (st4.ext x46).mono (by omega), nP, x46 _ _ hP4, fun G7 kp7 st7 => ?_⟩
    have hP7 := kp7 _ _ nP (x46 _ _ hP4)
    walk_at "m_law"
    refine r_rg1 (by omega) (by omega) ?_
    refine r_for (fun j σ G8 => ∃ o5 : Option Wv, σ = [some (.kls (ns.map .int)), some (.ref m), some (.int i), some (.int size), some (.tup (L.map tup2)), o5, none, none, none] ∧ G8 T.P__law_refused_right = some (.tab "_law_refused_right.<locals>.<lambda>") ∧ DSt G8 m a b (3000 * (8 - i) - 2830 + 400 * (4 - j)))
      ⟨_, rfl, hP7, st7.mono (by omega)⟩ (fun _ _ _ _ _ => trivial) ?_ ?_
    · rintro j w σ3 G8 ew2 ⟨o5, rfl, hP8, st8⟩
      obtain ⟨hj, rfl⟩ := rg_nat ew2
      have hj : j < 4 := hj
      walk_at "m_law"
      refine ⟨m, a, b, L, size, 3000 * (8 - i) - 2830 + 400 * (4 - j) - 400, rfl, gl, by omega, st8.mono (by omega), fun G9 kp9 st9 => ?_⟩
      walk_at "m_law"
      exact ⟨_, rfl, kp9 _ _ nP hP8, st9.mono (by omega)⟩
    · rintro σ3 G8 ⟨o5, rfl, hP8, st8⟩
      walk_at "m_law"
      exact ⟨_, _, _, _, rfl, hP8, st8.mono (by omega)⟩
  · rintro σ2 G2 ⟨o2, o3, o4, o5, rfl, hP2, st2⟩
    walk_at "m_law"
    rw [mb_law_10]
    walk_at "m_law"
    refine r_rg2 (by omega) ?_
    refine r_lcM chF (by rw [rgW_len, sizeLine_eq]; exact Nat.le_of_ble_eq_true rfl) (fun _ _ => trivial) (fun i w G' k ew ex hk => ?_) fun D G3 hD ex3 eD => ?_
    · obtain ⟨_, rfl⟩ := rg_at ew
      refine ⟨_, rfl, ?_⟩
      have hk := hk G' Ext.refl
      simp only [chF] at hk
      walk_at "m_law"
      exact hk
    have eD : G3 D = some (.lst (chainL.map tup2)) := by rw [← chF_map]; exact eD
    walk_at "m_law"
    refine r_tupL (.inl eD) ?_
    walk_at "m_law"
    refine ⟨m, a, b, 120, 9, rfl, by omega, by omega, (st2.ext ex3).mono (by omega), fun k G4 k0 k1 kp4 st4 => ?_⟩
    walk_at "m_law"
    have ck : Cfg [k] 120 := ⟨by simp, fun j hj => by cases List.mem_singleton.mp hj; omega, List.pairwise_singleton _ _⟩
    have wk : isWh (.int k) 0 119 = true := by rw [isWh, decide_eq_true (show (0 : Int) ≤ k from k0), decide_eq_true (show k ≤ 119 by omega)]; rfl
    refine ⟨_, _, rfl, lp_ok (ns := [k]) chain_good ck fun out G5 ro x5 => ?_⟩
    obtain rfl := (chain_down k0 k1).eq ro
    walk_at "m_law"
    refine r_tupRg2 (RgOk.of_le (by omega) (by omega) (by omega) (by omega)) ?_
    rw [Int.sub_zero, rgN_w]
    refine r_neIs ?_
    simp only [m_V, m_kV, m_C, m_Op, m_kOp, m_kOp2, m_kBl, m_qOp, m_kCh2, m_kCh2f, m_kCh3, m_kCh1, m_kCh, m_Ch, m_qCh, m_oNone, m_oSome, m_kO, m_Sl, m_kSl, m_kSl1, m_kSl2, m_slT, m_qT, m_kTru, m_tB, m_tN, m_tI, m_tT, m_qA, m_qO, m_qN, m_kqAt, m_kqAf, m_kqOt, m_kqOf, m_kqN, m_qYes, m_A, m_Or, m_N, m_Neg, m_kAt, m_kAf, m_kOrt, m_kOrf, m_kN, m_kNeg, m_If, m_kIft, m_kIff, m_an, m_ac, m_kac, m_kac2, m_Tup, m_Lst, m_kTup, m_CB, m_kCB, m_pk1, m_pp, m_pkk, m_pd, m_pn, m_kX, m_Call, m_kC1, m_kC2, m_BM, m_BM0, m_kM1, m_Seq, m_Seq_nx, m_Seq_rt, m_Seq_bk, m_Seq_ct, m_Seq_ex, m_Next, m_Brk, m_Cont, m_Expr, m_kEx, m_Ret, m_RetN, m_SIf, m_kSIft, m_kSIff, m_Set, m_kSet, m_Par, m_kPar, m_Par3, m_kPar3, m_Asg, m_kAsg, m_gNm, m_kG, m_gNo, m_gMo, m_gTu, m_gSb, m_kGs, m_kGs2, m_kW2, m_Aug, m_kAug, m_kAu, m_kAu2, m_mk1, m_kMk, m_Raise, m_ends_rt, m_ends_ex, m_ends_nx, m_add, m_addB, m_sub, m_eqI, m_eqS, m_neI, m_neS, m_isB, m_isN, m_isNotN, m_nonN, m_nonR, m_nonT, m_nonI, m_nonS, m_nonB, m_lenT, m_lenK, m_tupT, m_max, m_min, m_intI, m_intB, m_pr0, m_pr, m_kpr, m_kpr2, m_Xf, m_Try, m_Try_nx, m_Try_rt, m_Try_bk, m_Try_ct, m_Try_ex, m_Suite_nx, m_Suite_rt, m_Suite_bk, m_Suite_ct, m_kXe, m_kXo, m_tlOf, m_For, m_Loop_nx, m_Loop_ct, m_Loop_bk, m_Loop_rt, m_Loop_ex, m_kB, m_iSeq, m_kItT, m_kItK, m_kItS, m_iRg1, m_iRg2, m_iEnu, m_kEnuK, m_iZp, m_kZpT, m_iRv, m_kRvT, m_Lc, m_kCell, m_kTurnT, m_kTurnF, m_wip0, m_wip1, m_Back, m_kBackT, m_rg1, m_kRgA, m_TupRg, m_LstRg, m_Dc, m_DturnT, m_DturnF, m_kDk, m_kDv, m_SSet, m_iRvR, m_At, m_Fst, m_kFs, m_Meth, m_kMe2, m_kMe3, m_Make, m_kMk1, m_kMade, m_ltI, m_geI, m_geP, m_isNotB, m_Get1, m_Get2, m_kGet2, m_Setd, m_kSd2, m_rg2, m_kRg2a, m_kRg2b, List.getElem?_cons_zero, List.getElem?_cons_succ, List.set_cons_zero, List.set_cons_succ, List.length_cons, List.length_nil, Nat.zero_add, Nat.reduceAdd, Nat.reduceLeDiff, Bool.not_true, Bool.not_false, mb_law_14, mb_law_13, mb_law_11, mb_law_8, mb_law_7, mb_law_5, mb_law_4, mb_law_3, mb_law_2, decide_true]
    refine ⟨_, _, rfl, chain_good.kn, kn_int, (fun e => by rw [chain_good.is] at e; cases e), (fun _ e => by rw [wk] at e; cases e), fun L' k' e1 e2 _ _ _ _ out G6 ro x6 => ?_⟩
    cases e2
    obtain rfl := tup2_inj e1
    obtain rfl := (chain_up k0 k1).eq ro
    walk_at "m_law"
    refine r_tupRg2 (RgOk.of_le (by omega) (by omega) (by omega) (by omega)) ?_
    rw [rgN_w]
    refine r_neIs ?_
    simp only [m_V, m_kV, m_C, m_Op, m_kOp, m_kOp2, m_kBl, m_qOp, m_kCh2, m_kCh2f, m_kCh3, m_kCh1, m_kCh, m_Ch, m_qCh, m_oNone, m_oSome, m_kO, m_Sl, m_kSl, m_kSl1, m_kSl2, m_slT, m_qT, m_kTru, m_tB, m_tN, m_tI, m_tT, m_qA, m_qO, m_qN, m_kqAt, m_kqAf, m_kqOt, m_kqOf, m_kqN, m_qYes, m_A, m_Or, m_N, m_Neg, m_kAt, m_kAf, m_kOrt, m_kOrf, m_kN, m_kNeg, m_If, m_kIft, m_kIff, m_an, m_ac, m_kac, m_kac2, m_Tup, m_Lst, m_kTup, m_CB, m_kCB, m_pk1, m_pp, m_pkk, m_pd, m_pn, m_kX, m_Call, m_kC1, m_kC2, m_BM, m_BM0, m_kM1, m_Seq, m_Seq_nx, m_Seq_rt, m_Seq_bk, m_Seq_ct, m_Seq_ex, m_Next, m_Brk, m_Cont, m_Expr, m_kEx, m_Ret, m_RetN, m_SIf, m_kSIft, m_kSIff, m_Set, m_kSet, m_Par, m_kPar, m_Par3, m_kPar3, m_Asg, m_kAsg, m_gNm, m_kG, m_gNo, m_gMo, m_gTu, m_gSb, m_kGs, m_kGs2, m_kW2, m_Aug, m_kAug, m_kAu, m_kAu2, m_mk1, m_kMk, m_Raise, m_ends_rt, m_ends_ex, m_ends_nx, m_add, m_addB, m_sub, m_eqI, m_eqS, m_neI, m_neS, m_isB, m_isN, m_isNotN, m_nonN, m_nonR, m_nonT, m_nonI, m_nonS, m_nonB, m_lenT, m_lenK, m_tupT, m_max, m_min, m_intI, m_intB, m_pr0, m_pr, m_kpr, m_kpr2, m_Xf, m_Try, m_Try_nx, m_Try_rt, m_Try_bk, m_Try_ct, m_Try_ex, m_Suite_nx, m_Suite_rt, m_Suite_bk, m_Suite_ct, m_kXe, m_kXo, m_tlOf, m_For, m_Loop_nx, m_Loop_ct, m_Loop_bk, m_Loop_rt, m_Loop_ex, m_kB, m_iSeq, m_kItT, m_kItK, m_kItS, m_iRg1, m_iRg2, m_iEnu, m_kEnuK, m_iZp, m_kZpT, m_iRv, m_kRvT, m_Lc, m_kCell, m_kTurnT, m_kTurnF, m_wip0, m_wip1, m_Back, m_kBackT, m_rg1, m_kRgA, m_TupRg, m_LstRg, m_Dc, m_DturnT, m_DturnF, m_kDk, m_kDv, m_SSet, m_iRvR, m_At, m_Fst, m_kFs, m_Meth, m_kMe2, m_kMe3, m_Make, m_kMk1, m_kMade, m_ltI, m_geI, m_geP, m_isNotB, m_Get1, m_Get2, m_kGet2, m_Setd, m_kSd2, m_rg2, m_kRg2a, m_kRg2b, List.getElem?_cons_zero, List.getElem?_cons_succ, List.set_cons_zero, List.set_cons_succ, List.length_cons, List.length_nil, Nat.zero_add, Nat.reduceAdd, Nat.reduceLeDiff, Bool.not_true, Bool.not_false, mb_law_14, mb_law_13, mb_law_11, mb_law_8, mb_law_7, mb_law_5, mb_law_4, mb_law_3, mb_law_2, decide_true]
    refine r_addT (by rw [List.length_map, chain_len, sizeLine_eq]; exact Nat.le_of_ble_eq_true rfl) ?_
    have e9 : chainL.map tup2 ++ [.tup [.int 0, .int 119]] = (chainL ++ [(0, 119)]).map tup2 := by rw [List.map_append]; rfl
    rw [e9]
    walk_at "m_law"
    refine r_sortedPT fun ps pm rs l2 hl2 => ?_
    have nd : (chainL ++ [((0 : Int), (119 : Int))]).Nodup := List.nodup_append.mpr ⟨chain_rise.imp fun h e => by subst e; unfold ltPr at h; omega, by simp, fun x hx y hy e => by
      cases List.mem_singleton.mp hy
      subst e
      have := chain_mem.mp hx
      omega⟩
    have ep : ps = ringL := strict_ext (rise_strict rs (pm.nodup_iff.mpr nd)) ring_good.2.1 fun j => by
      rw [pm.mem_iff]
      unfold ringL
      simp [or_comm]
    subst ep
    walk_at "m_law"
    refine r_tupL (.inl updO_same) ?_
    walk_at "m_law"
    refine ⟨_, _, rfl, lp_ok (ns := [k]) ring_good ck fun out G7 ro x7 => ?_⟩
    obtain rfl := (ring_down k0 k1).eq ro
    walk_at "m_law"
    refine r_tupRg2 (RgOk.of_le (by omega) (by omega) (by omega) (by omega)) ?_
    rw [rgN_w]
    refine r_eqIs ?_
    rw [decide_eq_true (show rgN 0 120 = rgN 0 ((120 : Int) - 0).toNat from rfl)]
    walk_at "m_law"
    refine r_tupRg2 (RgOk.of_le (by omega) (by omega) (by omega) (by omega)) ?_
    rw [rgN_w]
    walk_at "m_law"
    have ca : Cfg (rgN 0 ((120 : Int) - 0).toNat) 120 := cfg_of (by omega) (fun i hi => by have := rgN_mem.mp hi; omega) (rgN_rise _ _)
    refine ⟨_, _, _, rfl, ring_good.kn, knD_ints, kn_int, (fun e => by rw [ring_good.is] at e; cases e), (fun _ e => by rw [conf_ints.mpr ca] at e; cases e), (fun _ _ e => by rw [wk] at e; cases e), fun L' ps' k' e1 e2 e3 _ _ _ _ _ gone G8 rg x8 => ?_⟩
    cases e3
    obtain rfl := tup2_inj e1
    obtain rfl := ints_inj e2
    obtain rfl := (ring_up k0 k1).eq rg
    walk_at "m_law"
    have el : lessL (rgN 0 ((120 : Int) - 0).toNat) (rgN 0 120) = [] := List.filter_eq_nil_iff.mpr fun i hi => by
      have : i ∈ rgN 0 120 := hi
      simp [this]
    rw [el]
    exact r_eqIs (a := []) (b := []) (hq _)
set_option maxHeartbeats 0 in
theorem ok_law {P : Program} {w : World} {K : PySem.W.Frag} {mg : Str → Option Value} {base : Heap} (T : Txt K mg) (TB__law_refused_right : LamX.TabB base mg T.c__law_refused_right T.P__law_refused_right) : FnW P w K mg base 10 T.f_law T.fd_law ["_law_script"] (sp_law T) :=
  fnW_of (t := t_law T) T.F_law sc_law (len_law T) (fun cdv A outer s H E hr => (zs_cons (z_set (i := 1) sc_law.nd rfl (by first | exact .inl rfl | exact .inr rfl) (z_call (sel := [.p 0]) (dws := []) (ok__law_begun T) (hr.mono (by decide)) rfl T.m__law_begun T.F__law_begun.kp (bind0 T.F__law_begun fun _ _ _ _ _ _ us uk h1 h2 => match us, h1, uk, h2 with | [_], _, [], _ => rfl) (takes_of rfl rfl rfl rfl) (z_acons (z_var (i := 0) rfl (by first | exact .inl rfl | exact .inr (.inl rfl) | exact .inr (.inr rfl))) (z_anil)))) (zs_cons (z_for (passes_of rfl) rfl (zi_range1 rfl T.n_range (z_acons (z_callB (w_min rfl) rfl T.n_min boot_min (z_acons (z_int) (z_acons (z_bin w_add (z_int) (z_bin w_fdiv (z_callB w_len rfl T.n_len boot_len (z_acons (z_var (i := 0) rfl (by first | exact .inl rfl | exact .inr (.inl rfl) | exact .inr (.inr rfl))) (z_anil))) (z_int))) (z_anil)))) (z_anil))) (zg_name (i := 2) sc_law.nd rfl (by first | exact .inl rfl | exact .inr rfl)) (zs_cons (z_set (i := 3) sc_law.nd rfl (by first | exact .inl rfl | exact .inr rfl) (z_ix (hr).un (z_lst (z_acons (z_int) (z_acons (z_int) (z_acons (z_int) (z_acons (z_int) (z_acons (z_int) (z_anil))))))) (z_call (sel := [.p 0, .p 1]) (dws := []) (ok__law_draw T) (hr.mono (by decide)) rfl T.m__law_draw T.F__law_draw.kp (bind0 T.F__law_draw fun _ _ _ _ _ _ us uk h1 h2 => match us, h1, uk, h2 with | [_, _], _, [], _ => rfl) (takes_of rfl rfl rfl rfl) (z_acons (z_var (i := 1) rfl (by first | exact .inl rfl | exact .inr (.inl rfl) | exact .inr (.inr rfl))) (z_acons (z_int) (z_anil)))) (fun _ _ => rfl))) (zs_cons (z_set (i := 4) sc_law.nd rfl (by first | exact .inl rfl | exact .inr rfl) (z_call (sel := [.p 0, .p 1]) (dws := []) (ok__law_links T) (hr.mono (by decide)) rfl T.m__law_links T.F__law_links.kp (bind0 T.F__law_links fun _ _ _ _ _ _ us uk h1 h2 => match us, h1, uk, h2 with | [_, _], _, [], _ => rfl) (takes_of rfl rfl rfl rfl) (z_acons (z_var (i := 1) rfl (by first | exact .inl rfl | exact .inr (.inl rfl) | exact .inr (.inr rfl))) (z_acons (z_var (i := 3) rfl (by first | exact .inl rfl | exact .inr (.inl rfl) | exact .inr (.inr rfl))) (z_anil))))) (zs_cons (z_if (z_bool (z_or (z_qcmp w_isnot (z_call (sel := [.p 0, .d 0]) (dws := [.int 120]) (ok_is_links T) (hr.mono (by decide)) rfl T.m_is_links T.F_is_links.kp (bindD T.F_is_links (fun z => nomatch z) (fun _ => (.cons (.int _) .nil)) fun _ _ _ _ _ _ _ us uk its h1 h2 h3 => match us, h1, uk, h2, its, h3 with | [_], _, [], _, [_], _ => ⟨_, rfl, rfl⟩) (takes_of rfl rfl rfl rfl) (z_acons (z_var (i := 4) rfl (by first | exact .inl rfl | exact .inr (.inl rfl) | exact .inr (.inr rfl))) (z_anil))) (z_bl) (by rfl)) (z_or (z_qcmp w_isnot (z_call (sel := [.p 0, .p 1]) (dws := [.int 120]) (ok_is_links T) (hr.mono (by decide)) rfl T.m_is_links T.F_is_links.kp (bindD T.F_is_links (fun z => nomatch z) (fun _ => (.cons (.int _) .nil)) fun _ _ _ _ _ _ _ us uk its h1 h2 h3 => match us, h1, uk, h2, its, h3 with | [_, _], _, [], _, [_], _ => ⟨_, rfl, rfl⟩) (takes_of rfl rfl rfl rfl) (z_acons (z_var (i := 4) rfl (by first | exact .inl rfl | exact .inr (.inl rfl) | exact .inr (.inr rfl))) (z_acons (z_var (i := 3) rfl (by first | exact .inl rfl | exact .inr (.inl rfl) | exact .inr (.inr rfl))) (z_anil)))) (z_bl) (by rfl)) (z_or1 (z_qnot (z_q (z_call (sel := [.p 0, .p 1]) (dws := []) (ok__law_refused_right T TB__law_refused_right) (hr.mono (by decide)) rfl T.m__law_refused_right T.F__law_refused_right.kp (bind0 T.F__law_refused_right fun _ _ _ _ _ _ us uk h1 h2 => match us, h1, uk, h2 with | [_, _], _, [], _ => rfl) (takes_of rfl rfl rfl rfl) (z_acons (z_var (i := 1) rfl (by first | exact .inl rfl | exact .inr (.inl rfl) | exact .inr (.inr rfl))) (z_acons (z_var (i := 4) rfl (by first | exact .inl rfl | exact .inr (.inl rfl) | exact .inr (.inr rfl))) (z_anil)))))))))) (zs_one (z_ret (z_bl))) (zs_nil)) (zs_one (z_for (passes_of rfl) rfl (zi_range1 rfl T.n_range (z_acons (z_int) (z_anil))) (zg_name (i := 5) sc_law.nd rfl (by first | exact .inl rfl | exact .inr rfl)) (zs_one (z_if (z_qnot (z_q (z_call (sel := [.p 0, .p 1, .p 2]) (dws := []) (ok__law_one_right T) (hr.mono (by decide)) rfl T.m__law_one_right T.F__law_one_right.kp (bind0 T.F__law_one_right fun _ _ _ _ _ _ us uk h1 h2 => match us, h1, uk, h2 with | [_, _, _], _, [], _ => rfl) (takes_of rfl rfl rfl rfl) (z_acons (z_var (i := 1) rfl (by first | exact .inl rfl | exact .inr (.inl rfl) | exact .inr (.inr rfl))) (z_acons (z_var (i := 4) rfl (by first | exact .inl rfl | exact .inr (.inl rfl) | exact .inr (.inr rfl))) (z_acons (z_var (i := 3) rfl (by first | exact .inl rfl | exact .inr (.inl rfl) | exact .inr (.inr rfl))) (z_anil))))))) (zs_one (z_ret (z_bl))) (zs_nil))))))))) (zs_cons (z_par (i := 6) (j := 5) rfl sc_law.nd rfl rfl (by decide) rfl rfl (z_acons (z_callT w_tuple rfl T.n_tuple boot_tuple (z_acons (z_lc (is := [8]) (own := [("_law_one", 8)]) rfl sc_law.nd (zi_range2 rfl T.n_range (z_acons (z_int) (z_acons (z_int) (z_anil)))) (blkOk_by rfl) (fun _ _ _ _ _ => pg_name sc_law.nd rfl (by first | exact .inl rfl | exact .inr rfl)) (fun _ _ _ _ _ => zq_nil) (fun _ _ _ _ _ => z_tup (z_acons (z_var (i := 8) rfl (by first | exact .inl rfl | exact .inr (.inl rfl) | exact .inr (.inr rfl))) (z_acons (z_bin w_sub (z_var (i := 8) rfl (by first | exact .inl rfl | exact .inr (.inl rfl) | exact .inr (.inr rfl))) (z_int)) (z_anil)))) (by decide)) (z_anil))) (z_acons (z_call (sel := [.p 0, .p 1]) (dws := []) (ok__law_draw T) (hr.mono (by decide)) rfl T.m__law_draw T.F__law_draw.kp (bind0 T.F__law_draw fun _ _ _ _ _ _ us uk h1 h2 => match us, h1, uk, h2 with | [_, _], _, [], _ => rfl) (takes_of rfl rfl rfl rfl) (z_acons (z_var (i := 1) rfl (by first | exact .inl rfl | exact .inr (.inl rfl) | exact .inr (.inr rfl))) (z_acons (z_int) (z_anil)))) (z_anil))) rfl) (zs_cons (z_if (z_bool (z_or (z_qcmp (w_ne (hr).un) (z_call (sel := [.p 0, .p 1]) (dws := []) (ok_closure T) (hr.mono (by decide)) rfl T.m_closure T.F_closure.kp (bind0 T.F_closure fun _ _ _ _ _ _ us uk h1 h2 => match us, h1, uk, h2 with | [_, _], _, [], _ => rfl) (takes_of rfl rfl rfl rfl) (z_acons (z_var (i := 6) rfl (by first | exact .inl rfl | exact .inr (.inl rfl) | exact .inr (.inr rfl))) (z_acons (z_tup (z_acons (z_var (i := 5) rfl (by first | exact .inl rfl | exact .inr (.inl rfl) | exact .inr (.inr rfl))) (z_anil))) (z_anil)))) (z_tupRg rfl rfl T.n_tuple (zr_1 rfl T.n_range (z_bin w_add (z_var (i := 5) rfl (by first | exact .inl rfl | exact .inr (.inl rfl) | exact .inr (.inr rfl))) (z_int)))) (by rfl)) (z_or1 (z_qcmp (w_ne (hr).un) (z_call (sel := [.p 0, .p 1]) (dws := []) (ok_fall T) (hr.mono (by decide)) rfl T.m_fall T.F_fall.kp (bind0 T.F_fall fun _ _ _ _ _ _ us uk h1 h2 => match us, h1, uk, h2 with | [_, _], _, [], _ => rfl) (takes_of rfl rfl rfl rfl) (z_acons (z_var (i := 6) rfl (by first | exact .inl rfl | exact .inr (.inl rfl) | exact .inr (.inr rfl))) (z_acons (z_var (i := 5) rfl (by first | exact .inl rfl | exact .inr (.inl rfl) | exact .inr (.inr rfl))) (z_anil)))) (z_tupRg rfl rfl T.n_tuple (zr_2 rfl T.n_range (z_var (i := 5) rfl (by first | exact .inl rfl | exact .inr (.inl rfl) | exact .inr (.inr rfl))) (z_int))) (by rfl))))) (zs_one (z_ret (z_bl))) (zs_nil)) (zs_cons (z_set (i := 7) sc_law.nd rfl (by first | exact .inl rfl | exact .inr rfl) (z_callT w_tuple rfl T.n_tuple boot_tuple (z_acons (z_callB (w_srt rfl) rfl T.n_sorted boot_sorted (z_acons (z_bin w_add (z_var (i := 6) rfl (by first | exact .inl rfl | exact .inr (.inl rfl) | exact .inr (.inr rfl))) (z_tup (z_acons (z_tup (z_acons (z_int) (z_acons (z_int) (z_anil)))) (z_anil)))) (z_anil))) (z_anil)))) (zs_one (z_ret (z_vand (z_cmp (w_eq (hr).un) (z_call (sel := [.p 0, .p 1]) (dws := []) (ok_closure T) (hr.mono (by decide)) rfl T.m_closure T.F_closure.kp (bind0 T.F_closure fun _ _ _ _ _ _ us uk h1 h2 => match us, h1, uk, h2 with | [_, _], _, [], _ => rfl) (takes_of rfl rfl rfl rfl) (z_acons (z_var (i := 7) rfl (by first | exact .inl rfl | exact .inr (.inl rfl) | exact .inr (.inr rfl))) (z_acons (z_tup (z_acons (z_var (i := 5) rfl (by first | exact .inl rfl | exact .inr (.inl rfl) | exact .inr (.inr rfl))) (z_anil))) (z_anil)))) (z_tupRg rfl rfl T.n_tuple (zr_1 rfl T.n_range (z_int))) (by rfl)) (z_vone (z_cmp (w_eq (hr).un) (z_call (sel := [.p 0, .p 1, .p 2]) (dws := []) (ok_without_fall T) (hr.mono (by decide)) rfl T.m_without_fall T.F_without_fall.kp (bind0 T.F_without_fall fun _ _ _ _ _ _ us uk h1 h2 => match us, h1, uk, h2 with | [_, _, _], _, [], _ => rfl) (takes_of rfl rfl rfl rfl) (z_acons (z_var (i := 7) rfl (by first | exact .inl rfl | exact .inr (.inl rfl) | exact .inr (.inr rfl))) (z_acons (z_tupRg rfl rfl T.n_tuple (zr_1 rfl T.n_range (z_int))) (z_acons (z_var (i := 5) rfl (by first | exact .inl rfl | exact .inr (.inl rfl) | exact .inr (.inr rfl))) (z_anil))))) (z_tup (z_anil)) (by rfl)))))))))))) (pf_law T)
/-! ### the head -/
theorem all_mk {pq : Program} {w : World} {K : PySem.W.Frag} {h : Heap} {mg : Str → Option Value} {fa : Addr} (XI : K.In h) (GG : h.Ns mainGlobals mg) (hfa0 : mg "law" = some (.ref fa)) {t_MOST_PIECES : Tok} {C_BadValue : Addr} {C_NotSo : Addr} {C_Nested : Addr} {C_Spent : Addr} {C_BadVerdict : Addr} {C_Gone : Addr} {f_reached : Addr} {od_reached an_reached : Option Addr} {sl_reached : Array (Option Value)} {oc_reached kV_reached dc_reached pm_reached cd_reached ct_reached : Value} {f_ways_of_links : Addr} {od_ways_of_links an_ways_of_links : Option Addr} {sl_ways_of_links : Array (Option Value)} {oc_ways_of_links kV_ways_of_links dc_ways_of_links pm_ways_of_links cd_ways_of_links ct_ways_of_links : Value} {f_is_whole : Addr} {od_is_whole an_is_whole : Option Addr} {sl_is_whole : Array (Option Value)} {oc_is_whole kV_is_whole dc_is_whole pm_is_whole cd_is_whole ct_is_whole : Value} {f_is_configuration : Addr} {od_is_configuration an_is_configuration : Option Addr} {sl_is_configuration : Array (Option Value)} {oc_is_configuration kV_is_configuration dc_is_configuration pm_is_configuration cd_is_configuration ct_is_configuration : Value} {D_is_configuration : Addr} {Doc_is_configuration : Value} {Dd_is_configuration : Option Addr} {Dn_is_configuration : Nat} {Ds_is_configuration : Array (Option Value)} {u0_is_configuration : Tok} {f_need_parts : Addr} {od_need_parts an_need_parts : Option Addr} {sl_need_parts : Array (Option Value)} {oc_need_parts kV_need_parts dc_need_parts pm_need_parts cd_need_parts ct_need_parts : Value} {D_need_parts : Addr} {Doc_need_parts : Value} {Dd_need_parts : Option Addr} {Dn_need_parts : Nat} {Ds_need_parts : Array (Option Value)} {u0_need_parts u1_need_parts : Tok} {f_is_link : Addr} {od_is_link an_is_link : Option Addr} {sl_is_link : Array (Option Value)} {oc_is_link kV_is_link dc_is_link pm_is_link cd_is_link ct_is_link : Value} {f_is_links : Addr} {od_is_links an_is_links : Option Addr} {sl_is_links : Array (Option Value)} {oc_is_links kV_is_links dc_is_links pm_is_links cd_is_links ct_is_links : Value} {D_is_links : Addr} {Doc_is_links : Value} {Dd_is_links : Option Addr} {Dn_is_links : Nat} {Ds_is_links : Array (Option Value)} {u0_is_links : Tok} {f_need_links : Addr} {od_need_links an_need_links : Option Addr} {sl_need_links : Array (Option Value)} {oc_need_links kV_need_links dc_need_links pm_need_links cd_need_links ct_need_links : Value} {D_need_links : Addr} {Doc_need_links : Value} {Dd_need_links : Option Addr} {Dn_need_links : Nat} {Ds_need_links : Array (Option Value)} {u0_need_links : Tok} {f_closure : Addr} {od_closure an_closure : Option Addr} {sl_closure : Array (Option Value)} {oc_closure kV_closure dc_closure pm_closure cd_closure ct_closure : Value} {f_need_number : Addr} {od_need_number an_need_number : Option Addr} {sl_need_number : Array (Option Value)} {oc_need_number kV_need_number dc_need_number pm_need_number cd_need_number ct_need_number : Value} {f_without_fall : Addr} {od_without_fall an_without_fall : Option Addr} {sl_without_fall : Array (Option Value)} {oc_without_fall kV_without_fall dc_without_fall pm_without_fall cd_without_fall ct_without_fall : Value} {f_fall : Addr} {od_fall an_fall : Option Addr} {sl_fall : Array (Option Value)} {oc_fall kV_fall dc_fall pm_fall cd_fall ct_fall : Value} {f__law_mixed : Addr} {od__law_mixed an__law_mixed : Option Addr} {sl__law_mixed : Array (Option Value)} {oc__law_mixed kV__law_mixed dc__law_mixed pm__law_mixed cd__law_mixed ct__law_mixed : Value} {f__law_draw : Addr} {od__law_draw an__law_draw : Option Addr} {sl__law_draw : Array (Option Value)} {oc__law_draw kV__law_draw dc__law_draw pm__law_draw cd__law_draw ct__law_draw : Value} {f__law_closed : Addr} {od__law_closed an__law_closed : Option Addr} {sl__law_closed : Array (Option Value)} {oc__law_closed kV__law_closed dc__law_closed pm__law_closed cd__law_closed ct__law_closed : Value} {f_is_closed : Addr} {od_is_closed an_is_closed : Option Addr} {sl_is_closed : Array (Option Value)} {oc_is_closed kV_is_closed dc_is_closed pm_is_closed cd_is_closed ct_is_closed : Value} {f__law_inside : Addr} {od__law_inside an__law_inside : Option Addr} {sl__law_inside : Array (Option Value)} {oc__law_inside kV__law_inside dc__law_inside pm__law_inside cd__law_inside ct__law_inside : Value} {f__law_some : Addr} {od__law_some an__law_some : Option Addr} {sl__law_some : Array (Option Value)} {oc__law_some kV__law_some dc__law_some pm__law_some cd__law_some ct__law_some : Value} {f__law_less : Addr} {od__law_less an__law_less : Option Addr} {sl__law_less : Array (Option Value)} {oc__law_less kV__law_less dc__law_less pm__law_less cd__law_less ct__law_less : Value} {f__law_up : Addr} {od__law_up an__law_up : Option Addr} {sl__law_up : Array (Option Value)} {oc__law_up kV__law_up dc__law_up pm__law_up cd__law_up ct__law_up : Value} {f__law_fall : Addr} {od__law_fall an__law_fall : Option Addr} {sl__law_fall : Array (Option Value)} {oc__law_fall kV__law_fall dc__law_fall pm__law_fall cd__law_fall ct__law_fall : Value} {f__law_one_right : Addr} {od__law_one_right an__law_one_right : Option Addr} {sl__law_one_right : Array (Option Value)} {oc__law_one_right kV__law_one_right dc__law_one_right pm__law_one_right cd__law_one_right ct__law_one_right : Value} {f__law_class : Addr} {od__law_class an__law_class : Option Addr} {sl__law_class : Array (Option Value)} {oc__law_class kV__law_class dc__law_class pm__law_class cd__law_class ct__law_class : Value} {f__law_told : Addr} {od__law_told an__law_told : Option Addr} {sl__law_told : Array (Option Value)} {oc__law_told kV__law_told dc__law_told pm__law_told cd__law_told ct__law_told : Value} {f__law_are_links : Addr} {od__law_are_links an__law_are_links : Option Addr} {sl__law_are_links : Array (Option Value)} {oc__law_are_links kV__law_are_links dc__law_are_links pm__law_are_links cd__law_are_links ct__law_are_links : Value} {f__law_spoilt : Addr} {od__law_spoilt an__law_spoilt : Option Addr} {sl__law_spoilt : Array (Option Value)} {oc__law_spoilt kV__law_spoilt dc__law_spoilt pm__law_spoilt cd__law_spoilt ct__law_spoilt : Value} {f__law_refused_right : Addr} {od__law_refused_right an__law_refused_right : Option Addr} {sl__law_refused_right : Array (Option Value)} {oc__law_refused_right kV__law_refused_right dc__law_refused_right pm__law_refused_right cd__law_refused_right ct__law_refused_right : Value} {cc__law_refused_right PP__law_refused_right : Addr} {q0__law_refused_right : Value} {q1__law_refused_right : Option Addr} {q2__law_refused_right : Array Value} {q3__law_refused_right : Array (Option Value)} {f__law_links : Addr} {od__law_links an__law_links : Option Addr} {sl__law_links : Array (Option Value)} {oc__law_links kV__law_links dc__law_links pm__law_links cd__law_links ct__law_links : Value} {f__law_folded : Addr} {od__law_folded an__law_folded : Option Addr} {sl__law_folded : Array (Option Value)} {oc__law_folded kV__law_folded dc__law_folded pm__law_folded cd__law_folded ct__law_folded : Value} {f__law_begun : Addr} {od__law_begun an__law_begun : Option Addr} {sl__law_begun : Array (Option Value)} {oc__law_begun kV__law_begun dc__law_begun pm__law_begun cd__law_begun ct__law_begun : Value} {f_law : Addr} {od_law an_law : Option Addr} {sl_law : Array (Option Value)} {oc_law kV_law dc_law pm_law cd_law ct_law : Value} {f_i_BadValue : Addr} {od_i_BadValue an_i_BadValue : Option Addr} {sl_i_BadValue : Array (Option Value)} {oc_i_BadValue kV_i_BadValue dc_i_BadValue pm_i_BadValue cd_i_BadValue ct_i_BadValue : Value} {nm_BadValue qn_BadValue : Str} {N_BadValue : Addr} {bs_BadValue : List Value} {sn_BadValue : List Str} {sub_BadValue : List Value} {ab_BadValue : Bool} {col_BadValue : Option Bool} {dd_BadValue : Option Addr} {m0_BadValue m1_BadValue m2_BadValue m3_BadValue m5_BadValue : Option Value}
    (a_law : PySem.W.nsIn K mainGlobals "law" = some (some (.ref f_law)))
    (z_LookupError : PySem.W.nsIn K mainGlobals "LookupError" = some none)
    (z_OverflowError : PySem.W.nsIn K mainGlobals "OverflowError" = some none)
    (z_RuntimeError : PySem.W.nsIn K mainGlobals "RuntimeError" = some none)
    (z_TypeError : PySem.W.nsIn K mainGlobals "TypeError" = some none)
    (z_ValueError : PySem.W.nsIn K mainGlobals "ValueError" = some none)
    (z_all : PySem.W.nsIn K mainGlobals "all" = some none)
    (z_bool : PySem.W.nsIn K mainGlobals "bool" = some none)
    (z_enumerate : PySem.W.nsIn K mainGlobals "enumerate" = some none)
    (z_int : PySem.W.nsIn K mainGlobals "int" = some none)
    (z_isinstance : PySem.W.nsIn K mainGlobals "isinstance" = some none)
    (z_len : PySem.W.nsIn K mainGlobals "len" = some none)
    (z_list : PySem.W.nsIn K mainGlobals "list" = some none)
    (z_max : PySem.W.nsIn K mainGlobals "max" = some none)
    (z_min : PySem.W.nsIn K mainGlobals "min" = some none)
    (z_range : PySem.W.nsIn K mainGlobals "range" = some none)
    (z_repr : PySem.W.nsIn K mainGlobals "repr" = some none)
    (z_set : PySem.W.nsIn K mainGlobals "set" = some none)
    (z_sorted : PySem.W.nsIn K mainGlobals "sorted" = some none)
    (z_tuple : PySem.W.nsIn K mainGlobals "tuple" = some none)
    (z_zip : PySem.W.nsIn K mainGlobals "zip" = some none)
    (v_MOST_PIECES : PySem.W.nsIn K mainGlobals "MOST_PIECES" = some (some (.int 120 t_MOST_PIECES)))
    (a_BadValue : PySem.W.nsIn K mainGlobals "BadValue" = some (some (.ref C_BadValue)))
    (a_NotSo : PySem.W.nsIn K mainGlobals "NotSo" = some (some (.ref C_NotSo)))
    (a_Nested : PySem.W.nsIn K mainGlobals "Nested" = some (some (.ref C_Nested)))
    (a_Spent : PySem.W.nsIn K mainGlobals "Spent" = some (some (.ref C_Spent)))
    (a_BadVerdict : PySem.W.nsIn K mainGlobals "BadVerdict" = some (some (.ref C_BadVerdict)))
    (a_Gone : PySem.W.nsIn K mainGlobals "Gone" = some (some (.ref C_Gone)))
    (a_reached : PySem.W.nsIn K mainGlobals "reached" = some (some (.ref f_reached)))
    (l_reached : K.lookup f_reached = some ⟨oc_reached, od_reached, .func (PySem.W.fnOf "reached" "reached" (defArgs s_reached) (defBody s_reached) (defScope s_reached) .none kV_reached dc_reached pm_reached an_reached cd_reached ct_reached), sl_reached⟩)
    (c_reached : PySem.W.codeIn K cd_reached "reached" = true)
    (k_reached : PySem.W.keepIn K (.ref f_reached) = true)
    (a_ways_of_links : PySem.W.nsIn K mainGlobals "ways_of_links" = some (some (.ref f_ways_of_links)))
    (l_ways_of_links : K.lookup f_ways_of_links = some ⟨oc_ways_of_links, od_ways_of_links, .func (PySem.W.fnOf "ways_of_links" "ways_of_links" (defArgs s_ways_of_links) (defBody s_ways_of_links) (defScope s_ways_of_links) .none kV_ways_of_links dc_ways_of_links pm_ways_of_links an_ways_of_links cd_ways_of_links ct_ways_of_links), sl_ways_of_links⟩)
    (c_ways_of_links : PySem.W.codeIn K cd_ways_of_links "ways_of_links" = true)
    (k_ways_of_links : PySem.W.keepIn K (.ref f_ways_of_links) = true)
    (a_is_whole : PySem.W.nsIn K mainGlobals "is_whole" = some (some (.ref f_is_whole)))
    (l_is_whole : K.lookup f_is_whole = some ⟨oc_is_whole, od_is_whole, .func (PySem.W.fnOf "is_whole" "is_whole" (defArgs s_is_whole) (defBody s_is_whole) (defScope s_is_whole) .none kV_is_whole dc_is_whole pm_is_whole an_is_whole cd_is_whole ct_is_whole), sl_is_whole⟩)
    (c_is_whole : PySem.W.codeIn K cd_is_whole "is_whole" = true)
    (k_is_whole : PySem.W.keepIn K (.ref f_is_whole) = true)
    (a_is_configuration : PySem.W.nsIn K mainGlobals "is_configuration" = some (some (.ref f_is_configuration)))
    (l_is_configuration : K.lookup f_is_configuration = some ⟨oc_is_configuration, od_is_configuration, .func (PySem.W.fnOf "is_configuration" "is_configuration" (defArgs s_is_configuration) (defBody s_is_configuration) (defScope s_is_configuration) (.ref D_is_configuration) kV_is_configuration dc_is_configuration pm_is_configuration an_is_configuration cd_is_configuration ct_is_configuration), sl_is_configuration⟩)
    (d_is_configuration : K.lookup D_is_configuration = some ⟨Doc_is_configuration, Dd_is_configuration, .seq #[(Value.int 120 u0_is_configuration)] Dn_is_configuration, Ds_is_configuration⟩)
    (c_is_configuration : PySem.W.codeIn K cd_is_configuration "is_configuration" = true)
    (k_is_configuration : PySem.W.keepIn K (.ref f_is_configuration) = true)
    (a_need_parts : PySem.W.nsIn K mainGlobals "need_parts" = some (some (.ref f_need_parts)))
    (l_need_parts : K.lookup f_need_parts = some ⟨oc_need_parts, od_need_parts, .func (PySem.W.fnOf "need_parts" "need_parts" (defArgs s_need_parts) (defBody s_need_parts) (defScope s_need_parts) (.ref D_need_parts) kV_need_parts dc_need_parts pm_need_parts an_need_parts cd_need_parts ct_need_parts), sl_need_parts⟩)
    (d_need_parts : K.lookup D_need_parts = some ⟨Doc_need_parts, Dd_need_parts, .seq #[(Value.str "parts" u0_need_parts), (Value.int 120 u1_need_parts)] Dn_need_parts, Ds_need_parts⟩)
    (c_need_parts : PySem.W.codeIn K cd_need_parts "need_parts" = true)
    (k_need_parts : PySem.W.keepIn K (.ref f_need_parts) = true)
    (a_is_link : PySem.W.nsIn K mainGlobals "is_link" = some (some (.ref f_is_link)))
    (l_is_link : K.lookup f_is_link = some ⟨oc_is_link, od_is_link, .func (PySem.W.fnOf "is_link" "is_link" (defArgs s_is_link) (defBody s_is_link) (defScope s_is_link) .none kV_is_link dc_is_link pm_is_link an_is_link cd_is_link ct_is_link), sl_is_link⟩)
    (c_is_link : PySem.W.codeIn K cd_is_link "is_link" = true)
    (k_is_link : PySem.W.keepIn K (.ref f_is_link) = true)
    (a_is_links : PySem.W.nsIn K mainGlobals "is_links" = some (some (.ref f_is_links)))
    (l_is_links : K.lookup f_is_links = some ⟨oc_is_links, od_is_links, .func (PySem.W.fnOf "is_links" "is_links" (defArgs s_is_links) (defBody s_is_links) (defScope s_is_links) (.ref D_is_links) kV_is_links dc_is_links pm_is_links an_is_links cd_is_links ct_is_links), sl_is_links⟩)
    (d_is_links : K.lookup D_is_links = some ⟨Doc_is_links, Dd_is_links, .seq #[(Value.int 120 u0_is_links)] Dn_is_links, Ds_is_links⟩)
    (c_is_links : PySem.W.codeIn K cd_is_links "is_links" = true)
    (k_is_links : PySem.W.keepIn K (.ref f_is_links) = true)
    (a_need_links : PySem.W.nsIn K mainGlobals "need_links" = some (some (.ref f_need_links)))
    (l_need_links : K.lookup f_need_links = some ⟨oc_need_links, od_need_links, .func (PySem.W.fnOf "need_links" "need_links" (defArgs s_need_links) (defBody s_need_links) (defScope s_need_links) (.ref D_need_links) kV_need_links dc_need_links pm_need_links an_need_links cd_need_links ct_need_links), sl_need_links⟩)
    (d_need_links : K.lookup D_need_links = some ⟨Doc_need_links, Dd_need_links, .seq #[(Value.int 120 u0_need_links)] Dn_need_links, Ds_need_links⟩)
    (c_need_links : PySem.W.codeIn K cd_need_links "need_links" = true)
    (k_need_links : PySem.W.keepIn K (.ref f_need_links) = true)
    (a_closure : PySem.W.nsIn K mainGlobals "closure" = some (some (.ref f_closure)))
    (l_closure : K.lookup f_closure = some ⟨oc_closure, od_closure, .func (PySem.W.fnOf "closure" "closure" (defArgs s_closure) (defBody s_closure) (defScope s_closure) .none kV_closure dc_closure pm_closure an_closure cd_closure ct_closure), sl_closure⟩)
    (c_closure : PySem.W.codeIn K cd_closure "closure" = true)
    (k_closure : PySem.W.keepIn K (.ref f_closure) = true)
    (a_need_number : PySem.W.nsIn K mainGlobals "need_number" = some (some (.ref f_need_number)))
    (l_need_number : K.lookup f_need_number = some ⟨oc_need_number, od_need_number, .func (PySem.W.fnOf "need_number" "need_number" (defArgs s_need_number) (defBody s_need_number) (defScope s_need_number) .none kV_need_number dc_need_number pm_need_number an_need_number cd_need_number ct_need_number), sl_need_number⟩)
    (c_need_number : PySem.W.codeIn K cd_need_number "need_number" = true)
    (k_need_number : PySem.W.keepIn K (.ref f_need_number) = true)
    (a_without_fall : PySem.W.nsIn K mainGlobals "without_fall" = some (some (.ref f_without_fall)))
    (l_without_fall : K.lookup f_without_fall = some ⟨oc_without_fall, od_without_fall, .func (PySem.W.fnOf "without_fall" "without_fall" (defArgs s_without_fall) (defBody s_without_fall) (defScope s_without_fall) .none kV_without_fall dc_without_fall pm_without_fall an_without_fall cd_without_fall ct_without_fall), sl_without_fall⟩)
    (c_without_fall : PySem.W.codeIn K cd_without_fall "without_fall" = true)
    (k_without_fall : PySem.W.keepIn K (.ref f_without_fall) = true)
    (a_fall : PySem.W.nsIn K mainGlobals "fall" = some (some (.ref f_fall)))
    (l_fall : K.lookup f_fall = some ⟨oc_fall, od_fall, .func (PySem.W.fnOf "fall" "fall" (defArgs s_fall) (defBody s_fall) (defScope s_fall) .none kV_fall dc_fall pm_fall an_fall cd_fall ct_fall), sl_fall⟩)
    (c_fall : PySem.W.codeIn K cd_fall "fall" = true)
    (k_fall : PySem.W.keepIn K (.ref f_fall) = true)
    (a__law_mixed : PySem.W.nsIn K mainGlobals "_law_mixed" = some (some (.ref f__law_mixed)))
    (l__law_mixed : K.lookup f__law_mixed = some ⟨oc__law_mixed, od__law_mixed, .func (PySem.W.fnOf "_law_mixed" "_law_mixed" (defArgs s__law_mixed) (defBody s__law_mixed) (defScope s__law_mixed) .none kV__law_mixed dc__law_mixed pm__law_mixed an__law_mixed cd__law_mixed ct__law_mixed), sl__law_mixed⟩)
    (c__law_mixed : PySem.W.codeIn K cd__law_mixed "_law_mixed" = true)
    (k__law_mixed : PySem.W.keepIn K (.ref f__law_mixed) = true)
    (a__law_draw : PySem.W.nsIn K mainGlobals "_law_draw" = some (some (.ref f__law_draw)))
    (l__law_draw : K.lookup f__law_draw = some ⟨oc__law_draw, od__law_draw, .func (PySem.W.fnOf "_law_draw" "_law_draw" (defArgs s__law_draw) (defBody s__law_draw) (defScope s__law_draw) .none kV__law_draw dc__law_draw pm__law_draw an__law_draw cd__law_draw ct__law_draw), sl__law_draw⟩)
    (c__law_draw : PySem.W.codeIn K cd__law_draw "_law_draw" = true)
    (k__law_draw : PySem.W.keepIn K (.ref f__law_draw) = true)
    (a__law_closed : PySem.W.nsIn K mainGlobals "_law_closed" = some (some (.ref f__law_closed)))
    (l__law_closed : K.lookup f__law_closed = some ⟨oc__law_closed, od__law_closed, .func (PySem.W.fnOf "_law_closed" "_law_closed" (defArgs s__law_closed) (defBody s__law_closed) (defScope s__law_closed) .none kV__law_closed dc__law_closed pm__law_closed an__law_closed cd__law_closed ct__law_closed), sl__law_closed⟩)
    (c__law_closed : PySem.W.codeIn K cd__law_closed "_law_closed" = true)
    (k__law_closed : PySem.W.keepIn K (.ref f__law_closed) = true)
    (a_is_closed : PySem.W.nsIn K mainGlobals "is_closed" = some (some (.ref f_is_closed)))
    (l_is_closed : K.lookup f_is_closed = some ⟨oc_is_closed, od_is_closed, .func (PySem.W.fnOf "is_closed" "is_closed" (defArgs s_is_closed) (defBody s_is_closed) (defScope s_is_closed) .none kV_is_closed dc_is_closed pm_is_closed an_is_closed cd_is_closed ct_is_closed), sl_is_closed⟩)
    (c_is_closed : PySem.W.codeIn K cd_is_closed "is_closed" = true)
    (k_is_closed : PySem.W.keepIn K (.ref f_is_closed) = true)
    (a__law_inside : PySem.W.nsIn K mainGlobals "_law_inside" = some (some (.ref f__law_inside)))
    (l__law_inside : K.lookup f__law_inside = some ⟨oc__law_inside, od__law_inside, .func (PySem.W.fnOf "_law_inside" "_law_inside" (defArgs s__law_inside) (defBody s__law_inside) (defScope s__law_inside) .none kV__law_inside dc__law_inside pm__law_inside an__law_inside cd__law_inside ct__law_inside), sl__law_inside⟩)
    (c__law_inside : PySem.W.codeIn K cd__law_inside "_law_inside" = true)
    (k__law_inside : PySem.W.keepIn K (.ref f__law_inside) = true)
    (a__law_some : PySem.W.nsIn K mainGlobals "_law_some" = some (some (.ref f__law_some)))
    (l__law_some : K.lookup f__law_some = some ⟨oc__law_some, od__law_some, .func (PySem.W.fnOf "_law_some" "_law_some" (defArgs s__law_some) (defBody s__law_some) (defScope s__law_some) .none kV__law_some dc__law_some pm__law_some an__law_some cd__law_some ct__law_some), sl__law_some⟩)
    (c__law_some : PySem.W.codeIn K cd__law_some "_law_some" = true)
    (k__law_some : PySem.W.keepIn K (.ref f__law_some) = true)
    (a__law_less : PySem.W.nsIn K mainGlobals "_law_less" = some (some (.ref f__law_less)))
    (l__law_less : K.lookup f__law_less = some ⟨oc__law_less, od__law_less, .func (PySem.W.fnOf "_law_less" "_law_less" (defArgs s__law_less) (defBody s__law_less) (defScope s__law_less) .none kV__law_less dc__law_less pm__law_less an__law_less cd__law_less ct__law_less), sl__law_less⟩)
    (c__law_less : PySem.W.codeIn K cd__law_less "_law_less" = true)
    (k__law_less : PySem.W.keepIn K (.ref f__law_less) = true)
    (a__law_up : PySem.W.nsIn K mainGlobals "_law_up" = some (some (.ref f__law_up)))
    (l__law_up : K.lookup f__law_up = some ⟨oc__law_up, od__law_up, .func (PySem.W.fnOf "_law_up" "_law_up" (defArgs s__law_up) (defBody s__law_up) (defScope s__law_up) .none kV__law_up dc__law_up pm__law_up an__law_up cd__law_up ct__law_up), sl__law_up⟩)
    (c__law_up : PySem.W.codeIn K cd__law_up "_law_up" = true)
    (k__law_up : PySem.W.keepIn K (.ref f__law_up) = true)
    (a__law_fall : PySem.W.nsIn K mainGlobals "_law_fall" = some (some (.ref f__law_fall)))
    (l__law_fall : K.lookup f__law_fall = some ⟨oc__law_fall, od__law_fall, .func (PySem.W.fnOf "_law_fall" "_law_fall" (defArgs s__law_fall) (defBody s__law_fall) (defScope s__law_fall) .none kV__law_fall dc__law_fall pm__law_fall an__law_fall cd__law_fall ct__law_fall), sl__law_fall⟩)
    (c__law_fall : PySem.W.codeIn K cd__law_fall "_law_fall" = true)
    (k__law_fall : PySem.W.keepIn K (.ref f__law_fall) = true)
    (a__law_one_right : PySem.W.nsIn K mainGlobals "_law_one_right" = some (some (.ref f__law_one_right)))
    (l__law_one_right : K.lookup f__law_one_right = some ⟨oc__law_one_right, od__law_one_right, .func (PySem.W.fnOf "_law_one_right" "_law_one_right" (defArgs s__law_one_right) (defBody s__law_one_right) (defScope s__law_one_right) .none kV__law_one_right dc__law_one_right pm__law_one_right an__law_one_right cd__law_one_right ct__law_one_right), sl__law_one_right⟩)
    (c__law_one_right : PySem.W.codeIn K cd__law_one_right "_law_one_right" = true)
    (k__law_one_right : PySem.W.keepIn K (.ref f__law_one_right) = true)
    (a__law_class : PySem.W.nsIn K mainGlobals "_law_class" = some (some (.ref f__law_class)))
    (l__law_class : K.lookup f__law_class = some ⟨oc__law_class, od__law_class, .func (PySem.W.fnOf "_law_class" "_law_class" (defArgs s__law_class) (defBody s__law_class) (defScope s__law_class) .none kV__law_class dc__law_class pm__law_class an__law_class cd__law_class ct__law_class), sl__law_class⟩)
    (c__law_class : PySem.W.codeIn K cd__law_class "_law_class" = true)
    (k__law_class : PySem.W.keepIn K (.ref f__law_class) = true)
    (a__law_told : PySem.W.nsIn K mainGlobals "_law_told" = some (some (.ref f__law_told)))
    (l__law_told : K.lookup f__law_told = some ⟨oc__law_told, od__law_told, .func (PySem.W.fnOf "_law_told" "_law_told" (defArgs s__law_told) (defBody s__law_told) (defScope s__law_told) .none kV__law_told dc__law_told pm__law_told an__law_told cd__law_told ct__law_told), sl__law_told⟩)
    (c__law_told : PySem.W.codeIn K cd__law_told "_law_told" = true)
    (k__law_told : PySem.W.keepIn K (.ref f__law_told) = true)
    (a__law_are_links : PySem.W.nsIn K mainGlobals "_law_are_links" = some (some (.ref f__law_are_links)))
    (l__law_are_links : K.lookup f__law_are_links = some ⟨oc__law_are_links, od__law_are_links, .func (PySem.W.fnOf "_law_are_links" "_law_are_links" (defArgs s__law_are_links) (defBody s__law_are_links) (defScope s__law_are_links) .none kV__law_are_links dc__law_are_links pm__law_are_links an__law_are_links cd__law_are_links ct__law_are_links), sl__law_are_links⟩)
    (c__law_are_links : PySem.W.codeIn K cd__law_are_links "_law_are_links" = true)
    (k__law_are_links : PySem.W.keepIn K (.ref f__law_are_links) = true)
    (a__law_spoilt : PySem.W.nsIn K mainGlobals "_law_spoilt" = some (some (.ref f__law_spoilt)))
    (l__law_spoilt : K.lookup f__law_spoilt = some ⟨oc__law_spoilt, od__law_spoilt, .func (PySem.W.fnOf "_law_spoilt" "_law_spoilt" (defArgs s__law_spoilt) (defBody s__law_spoilt) (defScope s__law_spoilt) .none kV__law_spoilt dc__law_spoilt pm__law_spoilt an__law_spoilt cd__law_spoilt ct__law_spoilt), sl__law_spoilt⟩)
    (c__law_spoilt : PySem.W.codeIn K cd__law_spoilt "_law_spoilt" = true)
    (k__law_spoilt : PySem.W.keepIn K (.ref f__law_spoilt) = true)
    (a__law_refused_right : PySem.W.nsIn K mainGlobals "_law_refused_right" = some (some (.ref f__law_refused_right)))
    (l__law_refused_right : K.lookup f__law_refused_right = some ⟨oc__law_refused_right, od__law_refused_right, .func (PySem.W.fnOf "_law_refused_right" "_law_refused_right" (defArgs s__law_refused_right) (defBody s__law_refused_right) (defScope s__law_refused_right) .none kV__law_refused_right dc__law_refused_right pm__law_refused_right an__law_refused_right cd__law_refused_right ct__law_refused_right), sl__law_refused_right⟩)
    (c__law_refused_right : PySem.W.codeIn K cd__law_refused_right "_law_refused_right" = true)
    (k__law_refused_right : PySem.W.keepIn K (.ref f__law_refused_right) = true)
    (hc__law_refused_right : cd__law_refused_right = .ref cc__law_refused_right)
    (lc__law_refused_right : K.lookup cc__law_refused_right = some ⟨q0__law_refused_right, q1__law_refused_right, .fields q2__law_refused_right, q3__law_refused_right⟩)
    (vp__law_refused_right : q2__law_refused_right[11]? = some (.ref PP__law_refused_right))
    (tn__law_refused_right : K.lookup PP__law_refused_right = none)
    (a__law_links : PySem.W.nsIn K mainGlobals "_law_links" = some (some (.ref f__law_links)))
    (l__law_links : K.lookup f__law_links = some ⟨oc__law_links, od__law_links, .func (PySem.W.fnOf "_law_links" "_law_links" (defArgs s__law_links) (defBody s__law_links) (defScope s__law_links) .none kV__law_links dc__law_links pm__law_links an__law_links cd__law_links ct__law_links), sl__law_links⟩)
    (c__law_links : PySem.W.codeIn K cd__law_links "_law_links" = true)
    (k__law_links : PySem.W.keepIn K (.ref f__law_links) = true)
    (a__law_folded : PySem.W.nsIn K mainGlobals "_law_folded" = some (some (.ref f__law_folded)))
    (l__law_folded : K.lookup f__law_folded = some ⟨oc__law_folded, od__law_folded, .func (PySem.W.fnOf "_law_folded" "_law_folded" (defArgs s__law_folded) (defBody s__law_folded) (defScope s__law_folded) .none kV__law_folded dc__law_folded pm__law_folded an__law_folded cd__law_folded ct__law_folded), sl__law_folded⟩)
    (c__law_folded : PySem.W.codeIn K cd__law_folded "_law_folded" = true)
    (k__law_folded : PySem.W.keepIn K (.ref f__law_folded) = true)
    (a__law_begun : PySem.W.nsIn K mainGlobals "_law_begun" = some (some (.ref f__law_begun)))
    (l__law_begun : K.lookup f__law_begun = some ⟨oc__law_begun, od__law_begun, .func (PySem.W.fnOf "_law_begun" "_law_begun" (defArgs s__law_begun) (defBody s__law_begun) (defScope s__law_begun) .none kV__law_begun dc__law_begun pm__law_begun an__law_begun cd__law_begun ct__law_begun), sl__law_begun⟩)
    (c__law_begun : PySem.W.codeIn K cd__law_begun "_law_begun" = true)
    (k__law_begun : PySem.W.keepIn K (.ref f__law_begun) = true)
    (l_law : K.lookup f_law = some ⟨oc_law, od_law, .func (PySem.W.fnOf "law" "law" (defArgs s_law) (defBody s_law) (defScope s_law) .none kV_law dc_law pm_law an_law cd_law ct_law), sl_law⟩)
    (c_law : PySem.W.codeIn K cd_law "law" = true)
    (k_law : PySem.W.keepIn K (.ref f_law) = true)
    (i_BadValue : PySem.W.findIn K (.ref C_BadValue) "__init__" = some (some (.ref f_i_BadValue)))
    (l_i_BadValue : K.lookup f_i_BadValue = some ⟨oc_i_BadValue, od_i_BadValue, .func (PySem.W.fnOf "__init__" "BadValue.__init__" (defArgs s_i_BadValue) (defBody s_i_BadValue) (defScope s_i_BadValue) .none kV_i_BadValue dc_i_BadValue pm_i_BadValue an_i_BadValue cd_i_BadValue ct_i_BadValue), sl_i_BadValue⟩)
    (c_i_BadValue : PySem.W.codeIn K cd_i_BadValue "BadValue.__init__" = true)
    (k_i_BadValue : PySem.W.keepIn K (.ref f_i_BadValue) = true)
    (ti_BadValue : PySem.W.typeIn K (.ref f_i_BadValue) = some (.type "function"))
    (no_BadValue : PySem.W.findIn K (.ref C_BadValue) "what" = some none)
    (x_BadValue : K.lookup C_BadValue = some (excClassObj nm_BadValue qn_BadValue C_BadValue N_BadValue bs_BadValue [.type "ValueError", .type "Exception", .type "BaseException", .type "object"] true sn_BadValue sub_BadValue ab_BadValue col_BadValue dd_BadValue m0_BadValue m1_BadValue m2_BadValue m3_BadValue m5_BadValue "ValueError.__new__"))
    (sa_BadValue : PySem.W.findIn K (.ref C_BadValue) "__setattr__" = some (some (.builtin "object.__setattr__")))
    (ga_BadValue : PySem.W.findIn K (.ref C_BadValue) "__getattribute__" = some (some (.builtin "BaseException.__getattribute__")))
    (gg_BadValue : PySem.W.findIn K (.ref C_BadValue) "__getattr__" = some none)
    (kc_BadValue : PySem.W.keepIn K (.ref C_BadValue) = true)
    (ec_BadValue : PySem.W.subIn K (.ref C_BadValue) (.type "BaseException") = some true)
    (tc_BadValue : PySem.W.typeIn K (.ref C_BadValue) = some (.type "type"))
    (hd_BadValue : PySem.W.hasDictIn K C_BadValue = true)
    (ha_BadValue : PySem.W.findIn K (.ref C_BadValue) "__class__" = some (some (.builtin "object.__class__")))
    (hn_BadValue : PySem.W.specialIn K (.builtin "object.__class__") "__get__" = some (some (.builtin "getset_descriptor.__get__")))
    (ht_BadValue : PySem.W.takesIn K (.builtin "object.__class__") = some true)
    (hm_BadValue : PySem.W.mroIn K C_BadValue (.type "object") = some true)
    (ko_BadValue : PySem.W.kitOne K (.ref C_BadValue) (.ref C_BadValue) = some true)
    (kb_BadValue : PySem.W.kitOne K (.ref C_BadValue) (.type "ValueError") = some true)
    (xm_BadValue : PySem.W.exmAny K (.ref C_BadValue) [.ref C_BadValue, .ref C_BadVerdict, .ref C_Gone, .ref C_Nested, .ref C_NotSo, .ref C_Spent] = some true)
    (hr__law_refused_right : ((recsOf pq).find? fun e => e.name == ("_law_refused_right" : Str)).isSome = true)
    : Nonempty (LawW PySem.Challenge.rw_leastfail_k63_what_hangs_on_what pq w K 10 63 "_law_script" mg fa) := by
  have hfa := PySem.W.mg_of XI GG a_law
  cases hfa0.symm.trans hfa
  let T : Txt K mg := {
    n_LookupError := PySem.W.mg_none_of XI GG z_LookupError,
    n_OverflowError := PySem.W.mg_none_of XI GG z_OverflowError,
    n_RuntimeError := PySem.W.mg_none_of XI GG z_RuntimeError,
    n_TypeError := PySem.W.mg_none_of XI GG z_TypeError,
    n_ValueError := PySem.W.mg_none_of XI GG z_ValueError,
    n_all := PySem.W.mg_none_of XI GG z_all,
    n_bool := PySem.W.mg_none_of XI GG z_bool,
    n_enumerate := PySem.W.mg_none_of XI GG z_enumerate,
    n_int := PySem.W.mg_none_of XI GG z_int,
    n_isinstance := PySem.W.mg_none_of XI GG z_isinstance,
    n_len := PySem.W.mg_none_of XI GG z_len,
    n_list := PySem.W.mg_none_of XI GG z_list,
    n_max := PySem.W.mg_none_of XI GG z_max,
    n_min := PySem.W.mg_none_of XI GG z_min,
    n_range := PySem.W.mg_none_of XI GG z_range,
    n_repr := PySem.W.mg_none_of XI GG z_repr,
    n_set := PySem.W.mg_none_of XI GG z_set,
    n_sorted := PySem.W.mg_none_of XI GG z_sorted,
    n_tuple := PySem.W.mg_none_of XI GG z_tuple,
    n_zip := PySem.W.mg_none_of XI GG z_zip,
    t_MOST_PIECES := t_MOST_PIECES,
    m_MOST_PIECES := PySem.W.mg_of XI GG v_MOST_PIECES,
    C_BadValue := C_BadValue,
    m_BadValue := PySem.W.mg_of XI GG a_BadValue,
    C_NotSo := C_NotSo,
    m_NotSo := PySem.W.mg_of XI GG a_NotSo,
    C_Nested := C_Nested,
    m_Nested := PySem.W.mg_of XI GG a_Nested,
    C_Spent := C_Spent,
    m_Spent := PySem.W.mg_of XI GG a_Spent,
    C_BadVerdict := C_BadVerdict,
    m_BadVerdict := PySem.W.mg_of XI GG a_BadVerdict,
    C_Gone := C_Gone,
    m_Gone := PySem.W.mg_of XI GG a_Gone,
    f_reached := f_reached,
    fd_reached := _,
    F_reached := ⟨⟨_, _, _, _, _, _, _, _, _, _, rfl, l_reached, c_reached, .inl ⟨rfl, rfl⟩, .inl rfl⟩, k_reached⟩,
    m_reached := PySem.W.mg_of XI GG a_reached,
    f_ways_of_links := f_ways_of_links,
    fd_ways_of_links := _,
    F_ways_of_links := ⟨⟨_, _, _, _, _, _, _, _, _, _, rfl, l_ways_of_links, c_ways_of_links, .inl ⟨rfl, rfl⟩, .inl rfl⟩, k_ways_of_links⟩,
    m_ways_of_links := PySem.W.mg_of XI GG a_ways_of_links,
    f_is_whole := f_is_whole,
    fd_is_whole := _,
    F_is_whole := ⟨⟨_, _, _, _, _, _, _, _, _, _, rfl, l_is_whole, c_is_whole, .inl ⟨rfl, rfl⟩, .inl rfl⟩, k_is_whole⟩,
    m_is_whole := PySem.W.mg_of XI GG a_is_whole,
    f_is_configuration := f_is_configuration,
    fd_is_configuration := _,
    F_is_configuration := ⟨⟨_, _, _, _, _, _, _, _, _, _, rfl, l_is_configuration, c_is_configuration, .inr ⟨(fun z => nomatch z), D_is_configuration, _, [(Value.int 120 u0_is_configuration)], _, rfl, d_is_configuration, rfl, (.cons ⟨_, rfl⟩ .nil)⟩, .inl rfl⟩, k_is_configuration⟩,
    m_is_configuration := PySem.W.mg_of XI GG a_is_configuration,
    f_need_parts := f_need_parts,
    fd_need_parts := _,
    F_need_parts := ⟨⟨_, _, _, _, _, _, _, _, _, _, rfl, l_need_parts, c_need_parts, .inr ⟨(fun z => nomatch z), D_need_parts, _, [(Value.str "parts" u0_need_parts), (Value.int 120 u1_need_parts)], _, rfl, d_need_parts, rfl, (.cons ⟨_, rfl⟩ (.cons ⟨_, rfl⟩ .nil))⟩, .inl rfl⟩, k_need_parts⟩,
    m_need_parts := PySem.W.mg_of XI GG a_need_parts,
    f_is_link := f_is_link,
    fd_is_link := _,
    F_is_link := ⟨⟨_, _, _, _, _, _, _, _, _, _, rfl, l_is_link, c_is_link, .inl ⟨rfl, rfl⟩, .inl rfl⟩, k_is_link⟩,
    m_is_link := PySem.W.mg_of XI GG a_is_link,
    f_is_links := f_is_links,
    fd_is_links := _,
    F_is_links := ⟨⟨_, _, _, _, _, _, _, _, _, _, rfl, l_is_links, c_is_links, .inr ⟨(fun z => nomatch z), D_is_links, _, [(Value.int 120 u0_is_links)], _, rfl, d_is_links, rfl, (.cons ⟨_, rfl⟩ .nil)⟩, .inl rfl⟩, k_is_links⟩,
    m_is_links := PySem.W.mg_of XI GG a_is_links,
    f_need_links := f_need_links,
    fd_need_links := _,
    F_need_links := ⟨⟨_, _, _, _, _, _, _, _, _, _, rfl, l_need_links, c_need_links, .inr ⟨(fun z => nomatch z), D_need_links, _, [(Value.int 120 u0_need_links)], _, rfl, d_need_links, rfl, (.cons ⟨_, rfl⟩ .nil)⟩, .inl rfl⟩, k_need_links⟩,
    m_need_links := PySem.W.mg_of XI GG a_need_links,
    f_closure := f_closure,
    fd_closure := _,
    F_closure := ⟨⟨_, _, _, _, _, _, _, _, _, _, rfl, l_closure, c_closure, .inl ⟨rfl, rfl⟩, .inl rfl⟩, k_closure⟩,
    m_closure := PySem.W.mg_of XI GG a_closure,
    f_need_number := f_need_number,
    fd_need_number := _,
    F_need_number := ⟨⟨_, _, _, _, _, _, _, _, _, _, rfl, l_need_number, c_need_number, .inl ⟨rfl, rfl⟩, .inl rfl⟩, k_need_number⟩,
    m_need_number := PySem.W.mg_of XI GG a_need_number,
    f_without_fall := f_without_fall,
    fd_without_fall := _,
    F_without_fall := ⟨⟨_, _, _, _, _, _, _, _, _, _, rfl, l_without_fall, c_without_fall, .inl ⟨rfl, rfl⟩, .inl rfl⟩, k_without_fall⟩,
    m_without_fall := PySem.W.mg_of XI GG a_without_fall,
    f_fall := f_fall,
    fd_fall := _,
    F_fall := ⟨⟨_, _, _, _, _, _, _, _, _, _, rfl, l_fall, c_fall, .inl ⟨rfl, rfl⟩, .inl rfl⟩, k_fall⟩,
    m_fall := PySem.W.mg_of XI GG a_fall,
    f__law_mixed := f__law_mixed,
    fd__law_mixed := _,
    F__law_mixed := ⟨⟨_, _, _, _, _, _, _, _, _, _, rfl, l__law_mixed, c__law_mixed, .inl ⟨rfl, rfl⟩, .inl rfl⟩, k__law_mixed⟩,
    m__law_mixed := PySem.W.mg_of XI GG a__law_mixed,
    f__law_draw := f__law_draw,
    fd__law_draw := _,
    F__law_draw := ⟨⟨_, _, _, _, _, _, _, _, _, _, rfl, l__law_draw, c__law_draw, .inl ⟨rfl, rfl⟩, .inl rfl⟩, k__law_draw⟩,
    m__law_draw := PySem.W.mg_of XI GG a__law_draw,
    f__law_closed := f__law_closed,
    fd__law_closed := _,
    F__law_closed := ⟨⟨_, _, _, _, _, _, _, _, _, _, rfl, l__law_closed, c__law_closed, .inl ⟨rfl, rfl⟩, .inl rfl⟩, k__law_closed⟩,
    m__law_closed := PySem.W.mg_of XI GG a__law_closed,
    f_is_closed := f_is_closed,
    fd_is_closed := _,
    F_is_closed := ⟨⟨_, _, _, _, _, _, _, _, _, _, rfl, l_is_closed, c_is_closed, .inl ⟨rfl, rfl⟩, .inl rfl⟩, k_is_closed⟩,
    m_is_closed := PySem.W.mg_of XI GG a_is_closed,
    f__law_inside := f__law_inside,
    fd__law_inside := _,
    F__law_inside := ⟨⟨_, _, _, _, _, _, _, _, _, _, rfl, l__law_inside, c__law_inside, .inl ⟨rfl, rfl⟩, .inl rfl⟩, k__law_inside⟩,
    m__law_inside := PySem.W.mg_of XI GG a__law_inside,
    f__law_some := f__law_some,
    fd__law_some := _,
    F__law_some := ⟨⟨_, _, _, _, _, _, _, _, _, _, rfl, l__law_some, c__law_some, .inl ⟨rfl, rfl⟩, .inl rfl⟩, k__law_some⟩,
    m__law_some := PySem.W.mg_of XI GG a__law_some,
    f__law_less := f__law_less,
    fd__law_less := _,
    F__law_less := ⟨⟨_, _, _, _, _, _, _, _, _, _, rfl, l__law_less, c__law_less, .inl ⟨rfl, rfl⟩, .inl rfl⟩, k__law_less⟩,
    m__law_less := PySem.W.mg_of XI GG a__law_less,
    f__law_up := f__law_up,
    fd__law_up := _,
    F__law_up := ⟨⟨_, _, _, _, _, _, _, _, _, _, rfl, l__law_up, c__law_up, .inl ⟨rfl, rfl⟩, .inl rfl⟩, k__law_up⟩,
    m__law_up := PySem.W.mg_of XI GG a__law_up,
    f__law_fall := f__law_fall,
    fd__law_fall := _,
    F__law_fall := ⟨⟨_, _, _, _, _, _, _, _, _, _, rfl, l__law_fall, c__law_fall, .inl ⟨rfl, rfl⟩, .inl rfl⟩, k__law_fall⟩,
    m__law_fall := PySem.W.mg_of XI GG a__law_fall,
    f__law_one_right := f__law_one_right,
    fd__law_one_right := _,
    F__law_one_right := ⟨⟨_, _, _, _, _, _, _, _, _, _, rfl, l__law_one_right, c__law_one_right, .inl ⟨rfl, rfl⟩, .inl rfl⟩, k__law_one_right⟩,
    m__law_one_right := PySem.W.mg_of XI GG a__law_one_right,
    f__law_class := f__law_class,
    fd__law_class := _,
    F__law_class := ⟨⟨_, _, _, _, _, _, _, _, _, _, rfl, l__law_class, c__law_class, .inl ⟨rfl, rfl⟩, .inl rfl⟩, k__law_class⟩,
    m__law_class := PySem.W.mg_of XI GG a__law_class,
    f__law_told := f__law_told,
    fd__law_told := _,
    F__law_told := ⟨⟨_, _, _, _, _, _, _, _, _, _, rfl, l__law_told, c__law_told, .inl ⟨rfl, rfl⟩, .inl rfl⟩, k__law_told⟩,
    m__law_told := PySem.W.mg_of XI GG a__law_told,
    f__law_are_links := f__law_are_links,
    fd__law_are_links := _,
    F__law_are_links := ⟨⟨_, _, _, _, _, _, _, _, _, _, rfl, l__law_are_links, c__law_are_links, .inl ⟨rfl, rfl⟩, .inl rfl⟩, k__law_are_links⟩,
    m__law_are_links := PySem.W.mg_of XI GG a__law_are_links,
    f__law_spoilt := f__law_spoilt,
    fd__law_spoilt := _,
    F__law_spoilt := ⟨⟨_, _, _, _, _, _, _, _, _, _, rfl, l__law_spoilt, c__law_spoilt, .inl ⟨rfl, rfl⟩, .inl rfl⟩, k__law_spoilt⟩,
    m__law_spoilt := PySem.W.mg_of XI GG a__law_spoilt,
    f__law_refused_right := f__law_refused_right,
    fd__law_refused_right := _,
    F__law_refused_right := ⟨⟨_, _, _, _, _, _, _, _, _, _, rfl, l__law_refused_right, c__law_refused_right, .inl ⟨rfl, rfl⟩, .inl rfl⟩, k__law_refused_right⟩,
    m__law_refused_right := PySem.W.mg_of XI GG a__law_refused_right,
    c__law_refused_right := cc__law_refused_right,
    P__law_refused_right := PP__law_refused_right,
    hc__law_refused_right := hc__law_refused_right,
    tb__law_refused_right := tabIn_mk a__law_refused_right l__law_refused_right hc__law_refused_right lc__law_refused_right vp__law_refused_right,
    tn__law_refused_right := tn__law_refused_right,
    f__law_links := f__law_links,
    fd__law_links := _,
    F__law_links := ⟨⟨_, _, _, _, _, _, _, _, _, _, rfl, l__law_links, c__law_links, .inl ⟨rfl, rfl⟩, .inl rfl⟩, k__law_links⟩,
    m__law_links := PySem.W.mg_of XI GG a__law_links,
    f__law_folded := f__law_folded,
    fd__law_folded := _,
    F__law_folded := ⟨⟨_, _, _, _, _, _, _, _, _, _, rfl, l__law_folded, c__law_folded, .inl ⟨rfl, rfl⟩, .inl rfl⟩, k__law_folded⟩,
    m__law_folded := PySem.W.mg_of XI GG a__law_folded,
    f__law_begun := f__law_begun,
    fd__law_begun := _,
    F__law_begun := ⟨⟨_, _, _, _, _, _, _, _, _, _, rfl, l__law_begun, c__law_begun, .inl ⟨rfl, rfl⟩, .inl rfl⟩, k__law_begun⟩,
    m__law_begun := PySem.W.mg_of XI GG a__law_begun,
    f_law := fa,
    fd_law := _,
    F_law := ⟨⟨_, _, _, _, _, _, _, _, _, _, rfl, l_law, c_law, .inl ⟨rfl, rfl⟩, .inl rfl⟩, k_law⟩,
    m_law := hfa0,
    f_i_BadValue := f_i_BadValue,
    fd_i_BadValue := _,
    F_i_BadValue := ⟨⟨_, _, _, _, _, _, _, _, _, _, rfl, l_i_BadValue, c_i_BadValue, .inl ⟨rfl, rfl⟩, .inl rfl⟩, k_i_BadValue⟩,
    i_BadValue := i_BadValue,
    ti_BadValue := ti_BadValue,
    no_BadValue := no_BadValue,
    ox_BadValue := ⟨⟨_, _, _, _, _, _, _, _, _, _, _, _, _, _, _, x_BadValue, by decide +kernel⟩, sa_BadValue, ec_BadValue, tc_BadValue, kc_BadValue⟩,
    xf_BadValue := ⟨ga_BadValue, gg_BadValue, ec_BadValue, hd_BadValue⟩,
    xc_BadValue := ⟨ga_BadValue, gg_BadValue, ec_BadValue, hd_BadValue, ha_BadValue, hn_BadValue, ht_BadValue, hm_BadValue⟩,
    ko_BadValue := ko_BadValue,
    kb_BadValue := kb_BadValue,
    xm_BadValue := xm_BadValue }
  exact ⟨{ fd := T.fd_law, tb := [(T.c__law_refused_right, T.P__law_refused_right, "_law_refused_right.<locals>.<lambda>")], sp := sp_law T, tab := by intro p hp; simp only [List.mem_cons, List.not_mem_nil, or_false] at hp; rcases hp with rfl <;> (first | exact ⟨"_law_refused_right", hr__law_refused_right, T.tb__law_refused_right⟩), none := by intro p hp; simp only [List.mem_cons, List.not_mem_nil, or_false] at hp; rcases hp with rfl <;> (first | exact T.tn__law_refused_right), bind := fun s v => .of_eq rfl, ok := fin_law T, run := fun base _ _ hTB => ok_law T (hTB (T.c__law_refused_right, T.P__law_refused_right, "_law_refused_right.<locals>.<lambda>") (by simp)) }⟩
end LawX

open PySem PySem.W PyProof.Rows in
set_option maxRecDepth 100000 in
set_option maxHeartbeats 0 in
theorem PySem.Challenge.cw_leastfail_k63_what_hangs_on_what_holds : PySem.Challenge.rw_leastfail_k63_what_hangs_on_what.Holds := by
  w_on; o_law; k_head; (case hw => w_witness2)
  k_fill
  refine LF.walk_w (l := PySem.Challenge.rw_leastfail_k63_what_hangs_on_what) (k := 10) (n := 63) (x := "_law_script") rfl (by decide) rfl ⟨rfl, by decide, by decide⟩ (fun w h Y => by first | exact PySem.W.kIn_of Y | exact PySem.W.km_in_of Y) ?F
  case F =>
    intro w mg fa h KX GG hmg
    refine' LawX.all_mk KX GG hmg ?a_law ?z_LookupError ?z_OverflowError ?z_RuntimeError ?z_TypeError ?z_ValueError ?z_all ?z_bool ?z_enumerate ?z_int ?z_isinstance ?z_len ?z_list ?z_max ?z_min ?z_range ?z_repr ?z_set ?z_sorted ?z_tuple ?z_zip ?v_MOST_PIECES ?a_BadValue ?a_NotSo ?a_Nested ?a_Spent ?a_BadVerdict ?a_Gone ?a_reached ?l_reached ?c_reached ?k_reached ?a_ways_of_links ?l_ways_of_links ?c_ways_of_links ?k_ways_of_links ?a_is_whole ?l_is_whole ?c_is_whole ?k_is_whole ?a_is_configuration ?l_is_configuration ?d_is_configuration ?c_is_configuration ?k_is_configuration ?a_need_parts ?l_need_parts ?d_need_parts ?c_need_parts ?k_need_parts ?a_is_link ?l_is_link ?c_is_link ?k_is_link ?a_is_links ?l_is_links ?d_is_links ?c_is_links ?k_is_links ?a_need_links ?l_need_links ?d_need_links ?c_need_links ?k_need_links ?a_closure ?l_closure ?c_closure ?k_closure ?a_need_number ?l_need_number ?c_need_number ?k_need_number ?a_without_fall ?l_without_fall ?c_without_fall ?k_without_fall ?a_fall ?l_fall ?c_fall ?k_fall ?a__law_mixed ?l__law_mixed ?c__law_mixed ?k__law_mixed ?a__law_draw ?l__law_draw ?c__law_draw ?k__law_draw ?a__law_closed ?l__law_closed ?c__law_closed ?k__law_closed ?a_is_closed ?l_is_closed ?c_is_closed ?k_is_closed ?a__law_inside ?l__law_inside ?c__law_inside ?k__law_inside ?a__law_some ?l__law_some ?c__law_some ?k__law_some ?a__law_less ?l__law_less ?c__law_less ?k__law_less ?a__law_up ?l__law_up ?c__law_up ?k__law_up ?a__law_fall ?l__law_fall ?c__law_fall ?k__law_fall ?a__law_one_right ?l__law_one_right ?c__law_one_right ?k__law_one_right ?a__law_class ?l__law_class ?c__law_class ?k__law_class ?a__law_told ?l__law_told ?c__law_told ?k__law_told ?a__law_are_links ?l__law_are_links ?c__law_are_links ?k__law_are_links ?a__law_spoilt ?l__law_spoilt ?c__law_spoilt ?k__law_spoilt ?a__law_refused_right ?l__law_refused_right ?c__law_refused_right ?k__law_refused_right ?hc__law_refused_right ?lc__law_refused_right ?vp__law_refused_right ?tn__law_refused_right ?a__law_links ?l__law_links ?c__law_links ?k__law_links ?a__law_folded ?l__law_folded ?c__law_folded ?k__law_folded ?a__law_begun ?l__law_begun ?c__law_begun ?k__law_begun ?l_law ?c_law ?k_law ?i_BadValue ?l_i_BadValue ?c_i_BadValue ?k_i_BadValue ?ti_BadValue ?no_BadValue ?x_BadValue ?sa_BadValue ?ga_BadValue ?gg_BadValue ?kc_BadValue ?ec_BadValue ?tc_BadValue ?hd_BadValue ?ha_BadValue ?hn_BadValue ?ht_BadValue ?hm_BadValue ?ko_BadValue ?kb_BadValue ?xm_BadValue ?hr__law_refused_right
    (case a_law => k_is)
    (case z_LookupError => k_is)
    (case z_OverflowError => k_is)
    (case z_RuntimeError => k_is)
    (case z_TypeError => k_is)
    (case z_ValueError => k_is)
    (case z_all => k_is)
    (case z_bool => k_is)
    (case z_enumerate => k_is)
    (case z_int => k_is)
    (case z_isinstance => k_is)
    (case z_len => k_is)
    (case z_list => k_is)
    (case z_max => k_is)
    (case z_min => k_is)
    (case z_range => k_is)
    (case z_repr => k_is)
    (case z_set => k_is)
    (case z_sorted => k_is)
    (case z_tuple => k_is)
    (case z_zip => k_is)
    (case v_MOST_PIECES => k_is)
    (case a_BadValue => k_is)
    (case a_NotSo => k_is)
    (case a_Nested => k_is)
    (case a_Spent => k_is)
    (case a_BadVerdict => k_is)
    (case a_Gone => k_is)
    (case a_reached => k_is)
    (case l_reached => k_is)
    (case c_reached => k_is)
    (case k_reached => k_is)
    (case a_ways_of_links => k_is)
    (case l_ways_of_links => k_is)
    (case c_ways_of_links => k_is)
    (case k_ways_of_links => k_is)
    (case a_is_whole => k_is)
    (case l_is_whole => k_is)
    (case c_is_whole => k_is)
    (case k_is_whole => k_is)
    (case a_is_configuration => k_is)
    (case l_is_configuration => k_is)
    (case d_is_configuration => k_is)
    (case c_is_configuration => k_is)
    (case k_is_configuration => k_is)
    (case a_need_parts => k_is)
    (case l_need_parts => k_is)
    (case d_need_parts => k_is)
    (case c_need_parts => k_is)
    (case k_need_parts => k_is)
    (case a_is_link => k_is)
    (case l_is_link => k_is)
    (case c_is_link => k_is)
    (case k_is_link => k_is)
    (case a_is_links => k_is)
    (case l_is_links => k_is)
    (case d_is_links => k_is)
    (case c_is_links => k_is)
    (case k_is_links => k_is)
    (case a_need_links => k_is)
    (case l_need_links => k_is)
    (case d_need_links => k_is)
    (case c_need_links => k_is)
    (case k_need_links => k_is)
    (case a_closure => k_is)
    (case l_closure => k_is)
    (case c_closure => k_is)
    (case k_closure => k_is)
    (case a_need_number => k_is)
    (case l_need_number => k_is)
    (case c_need_number => k_is)
    (case k_need_number => k_is)
    (case a_without_fall => k_is)
    (case l_without_fall => k_is)
    (case c_without_fall => k_is)
    (case k_without_fall => k_is)
    (case a_fall => k_is)
    (case l_fall => k_is)
    (case c_fall => k_is)
    (case k_fall => k_is)
    (case a__law_mixed => k_is)
    (case l__law_mixed => k_is)
    (case c__law_mixed => k_is)
    (case k__law_mixed => k_is)
    (case a__law_draw => k_is)
    (case l__law_draw => k_is)
    (case c__law_draw => k_is)
    (case k__law_draw => k_is)
    (case a__law_closed => k_is)
    (case l__law_closed => k_is)
    (case c__law_closed => k_is)
    (case k__law_closed => k_is)
    (case a_is_closed => k_is)
    (case l_is_closed => k_is)
    (case c_is_closed => k_is)
    (case k_is_closed => k_is)
    (case a__law_inside => k_is)
    (case l__law_inside => k_is)
    (case c__law_inside => k_is)
    (case k__law_inside => k_is)
    (case a__law_some => k_is)
    (case l__law_some => k_is)
    (case c__law_some => k_is)
    (case k__law_some => k_is)
    (case a__law_less => k_is)
    (case l__law_less => k_is)
    (case c__law_less => k_is)
    (case k__law_less => k_is)
    (case a__law_up => k_is)
    (case l__law_up => k_is)
    (case c__law_up => k_is)
    (case k__law_up => k_is)
    (case a__law_fall => k_is)
    (case l__law_fall => k_is)
    (case c__law_fall => k_is)
    (case k__law_fall => k_is)
    (case a__law_one_right => k_is)
    (case l__law_one_right => k_is)
    (case c__law_one_right => k_is)
    (case k__law_one_right => k_is)
    (case a__law_class => k_is)
    (case l__law_class => k_is)
    (case c__law_class => k_is)
    (case k__law_class => k_is)
    (case a__law_told => k_is)
    (case l__law_told => k_is)
    (case c__law_told => k_is)
    (case k__law_told => k_is)
    (case a__law_are_links => k_is)
    (case l__law_are_links => k_is)
    (case c__law_are_links => k_is)
    (case k__law_are_links => k_is)
    (case a__law_spoilt => k_is)
    (case l__law_spoilt => k_is)
    (case c__law_spoilt => k_is)
    (case k__law_spoilt => k_is)
    (case a__law_refused_right => k_is)
    (case l__law_refused_right => k_is)
    (case c__law_refused_right => k_is)
    (case k__law_refused_right => k_is)
    (case hc__law_refused_right => rfl)
    (case lc__law_refused_right => k_is)
    (case vp__law_refused_right => rfl)
    (case tn__law_refused_right => kernel_rfl)
    (case a__law_links => k_is)
    (case l__law_links => k_is)
    (case c__law_links => k_is)
    (case k__law_links => k_is)
    (case a__law_folded => k_is)
    (case l__law_folded => k_is)
    (case c__law_folded => k_is)
    (case k__law_folded => k_is)
    (case a__law_begun => k_is)
    (case l__law_begun => k_is)
    (case c__law_begun => k_is)
    (case k__law_begun => k_is)
    (case l_law => k_is)
    (case c_law => k_is)
    (case k_law => k_is)
    (case i_BadValue => k_is)
    (case l_i_BadValue => k_is)
    (case c_i_BadValue => k_is)
    (case k_i_BadValue => k_is)
    (case ti_BadValue => k_is)
    (case no_BadValue => k_is)
    (case x_BadValue => k_is)
    (case sa_BadValue => k_is)
    (case ga_BadValue => k_is)
    (case gg_BadValue => k_is)
    (case kc_BadValue => k_is)
    (case ec_BadValue => k_is)
    (case tc_BadValue => k_is)
    (case hd_BadValue => k_is)
    (case ha_BadValue => k_is)
    (case hn_BadValue => k_is)
    (case ht_BadValue => k_is)
    (case hm_BadValue => k_is)
    (case ko_BadValue => kit_is)
    (case kb_BadValue => kit_is)
    (case xm_BadValue => kts_exm)
    (case hr__law_refused_right => decide +kernel)

