import PyProof.Rows.All
import HandS.ForMost
import HandS.ForExc
import HandS.Wide
import HandS.EndBits
import HandS.ExcIs
import HandS.Deep
import HandS.IsInst
import HandS.Conv
import HandS.CallSlots
import KE.GoesMore
import HandS.SortKw
import HandS.Dict
import HandS.Text
import HandS.Iter
import HandS.More
import HandS.Rev
import HandS.ExcValue
import HandS.StrMore
import HandS.TupMul
import HandS.TupAny
import PySem.Challenge.RW_turnbase_k32_no_group
set_option Elab.async false
set_option linter.all false
set_option maxRecDepth 100000
namespace Tb
open PySem PySem.Spec L2

abbrev D := PyData
abbrev Frag := PySem.W.Frag

theorem seqT_mono {K : Frag} {H H' : Hp} {a : Addr} {xs : List V} (e : Same H H') (h : SqT K H a xs) : SqT K H' a xs := by
  rcases h with (h | ⟨o, h⟩) | h
  · exact .inl (.inl (e _ _ h))
  · exact .inl (.inr ⟨o, e _ _ h⟩)
  · exact .inr h
theorem same_upd {H : Hp} {p : Addr} {o : HO} (h : H p = none) : Same H (upd H p o) := fun b x e => by
  rw [upd_ne (ne_of_none e h)]
  exact e

/-- the class by its name -/
def cA (K : Frag) (x : Str) : Addr := match PySem.W.nsIn K mainGlobals x with
  | some (some (.ref c)) => c
  | _ => 0
/-- an exception that was caught -/
def ExT (cls : Value) (a : Addr) : HO := .ext fun h => ∃ (oe : Obj) (vs : Array Value), h.get? a = some oe ∧ Zc cls none oe ∧ oe.data = .fields vs
def five : List String := ["int", "bool", "str", "list", "tuple"]
/-- what isinstance asks of an exception's class -/
structure ExcOk (K : Frag) (x : Str) : Prop where
  c : ExcC K (cA K x)
  ty : ∀ T ∈ five, PySem.W.kitOne K (.ref (cA K x)) (.type T) = some false
/-- what is asked of an own class -/
structure InsOk (K : Frag) (x : Str) : Prop where
  cl : Cls K (cA K x)
  ha : PySem.W.findIn K (.ref (cA K x)) "__class__" = some (some (.builtin "object.__class__"))
  hn : PySem.W.specialIn K (.builtin "object.__class__") "__get__" = some (some (.builtin "getset_descriptor.__get__"))
  htk : PySem.W.takesIn K (.builtin "object.__class__") = some true
  hm : PySem.W.mroIn K (cA K x) (.type "object") = some true
  ty : ∀ T ∈ five, PySem.W.kitOne K (.ref (cA K x)) (.type T) = some false
/-- an exception as data; an object of an own class that nobody changes -/
abbrev excD (x : Str) : D := .dict [(.none, .str x)]
abbrev objD (c : Str) (kvs : List (D × D)) : D := .dict ((.str c, .none) :: kvs)
def keyD : Key → D
  | .inl i => .int i
  | .inr x => .str x
abbrev dkeys (ws : List (Key × V)) : List (D × V) := ws.map fun kv => (keyD kv.1, kv.2)
abbrev fkeys (fs : List (Str × V)) : List (D × V) := fs.map fun kv => (PyData.str kv.1, kv.2)
/-- a dict as data -/
abbrev dicD (kvs : List (D × D)) : D := .dict ((.none, .none) :: kvs)
mutual
inductive Rp (K : Frag) (F : Hp) : V → D → Prop
  | non : Rp K F .non .none
  | bl (b : Bool) : Rp K F (.bl b) (.bool b)
  | int (i : Int) : Rp K F (.int i) (.int i)
  | str (x : Str) : Rp K F (.str x) (.str x)
  | lst {a : Addr} {xs : List V} {ds : List D} : F a = some (.lst xs) → RpAll K F xs ds → Rp K F (.ref a) (.list ds)
  | tup {a : Addr} {xs : List V} {ds : List D} : SqT K F a xs → RpAll K F xs ds → Rp K F (.ref a) (.tuple ds)
  | dic0 {a : Addr} : F a = some (.dK []) → Rp K F (.ref a) (.dict [])
  | exc {a : Addr} {x : Str} : F a = some (ExT (.ref (cA K x)) a) → ExcOk K x → Rp K F (.ref a) (.dict [(.none, .str x)])
  | dic {a : Addr} {o : Obj} {ws : List (Key × V)} {kvs : List (D × D)} : F a = some (.frz o (.dK ws)) → RpDs K F (dkeys ws) kvs → Rp K F (.ref a) (.dict ((.none, .none) :: kvs))
  | obj {a dx : Addr} {c : Str} {fs : List (Str × V)} {kvs : List (D × D)} : F a = some (.ins (cA K c) dx fs) → InsOk K c → (∀ kv ∈ fs, NoAttr K (cA K c) kv.1) → RpDs K F (fkeys fs) kvs → Rp K F (.ref a) (.dict ((.str c, .none) :: kvs))
inductive RpAll (K : Frag) (F : Hp) : List V → List D → Prop
  | nil : RpAll K F [] []
  | cons {v : V} {vs : List V} {d : D} {ds : List D} : Rp K F v d → RpAll K F vs ds → RpAll K F (v :: vs) (d :: ds)
inductive RpDs (K : Frag) (F : Hp) : List (D × V) → List (D × D) → Prop
  | nil : RpDs K F [] []
  | cons {k : D} {v : V} {us : List (D × V)} {d : D} {kvs : List (D × D)} : Rp K F v d → RpDs K F us kvs → RpDs K F ((k, v) :: us) ((k, d) :: kvs)
end
section
variable {K : Frag} {F F' H H' : Hp}
theorem Rp.mono (e : Same F F') (d : D) (v : V) (h : Rp K F v d) : Rp K F' v d :=
  Rp.rec (motive_1 := fun v d _ => Rp K F' v d) (motive_2 := fun vs ds _ => RpAll K F' vs ds) (motive_3 := fun us kvs _ => RpDs K F' us kvs)
    .non .bl .int .str (fun h1 _ r => .lst (e _ _ h1) r) (fun h1 _ r => .tup (seqT_mono e h1) r) (fun h1 => .dic0 (e _ _ h1)) (fun h1 h2 => .exc (e _ _ h1) h2)
    (fun h1 _ r => .dic (e _ _ h1) r) (fun h1 h2 h3 _ r => .obj (e _ _ h1) h2 h3 r) .nil (fun _ _ r1 r2 => .cons r1 r2) .nil (fun _ _ r1 r2 => .cons r1 r2) h
theorem RpAll.mono (e : Same F F') : ∀ (ds : List D) (vs : List V), RpAll K F vs ds → RpAll K F' vs ds
  | [], _, h => by cases h; exact .nil
  | d :: ds, _, h => by
    cases h with
    | cons h1 h2 => exact .cons (Rp.mono e d _ h1) (RpAll.mono e ds _ h2)
theorem RpDs.mono (e : Same F F') : ∀ (kvs : List (D × D)) (us : List (D × V)), RpDs K F us kvs → RpDs K F' us kvs
  | [], _, h => by cases h; exact .nil
  | _ :: kvs, _, h => by
    cases h with
    | cons h1 h2 => exact .cons (Rp.mono e _ _ h1) (RpDs.mono e kvs _ h2)
/-- a field of an object's data -/
def fget : List (D × D) → Str → Option D
  | [], _ => none
  | (.str g, d) :: r, f => if f == g then some d else fget r f
  | _ :: r, f => fget r f
theorem RpDs.look {f : Str} : ∀ {kvs : List (D × D)} {fs : List (Str × V)} {d : D}, RpDs K F (fkeys fs) kvs → fget kvs f = some d → ∃ v, fs.lookup f = some v ∧ Rp K F v d
  | [], _, _, h, e => by cases e
  | (k, d0) :: kvs, [], d, h, e => by cases h
  | (k, d0) :: kvs, (g, v) :: fs, d, h, e => by
    have h' : RpDs K F ((PyData.str g, v) :: fkeys fs) ((k, d0) :: kvs) := h
    cases h' with
    | cons h1 h2 =>
      unfold fget at e
      cases hb : f == g with
      | true =>
        rw [hb, if_pos rfl] at e
        cases e
        exact ⟨v, by rw [List.lookup_cons, hb], h1⟩
      | false =>
        rw [hb, if_neg (by simp)] at e
        obtain ⟨w, hw, r⟩ := RpDs.look h2 e
        exact ⟨w, by rw [List.lookup_cons, hb]; exact hw, r⟩
mutual
theorem Rp.dp : ∀ (d : D) (v : V), PyData.canLay0 d = true → Rp K F v d → Dp K F v d
  | .none, _, _, h => by cases h; exact .non
  | .bool b, _, _, h => by cases h; exact .bl b
  | .int i, _, _, h => by cases h; exact .int i
  | .str x, _, _, h => by cases h; exact .str x
  | .list ds, _, c, h => by
    cases h with
    | lst h1 h2 => exact .lst (SqL.of h1) (RpAll.dp ds _ (by simpa only [PyData.canLay0] using c) h2)
  | .tuple ds, _, c, h => by
    cases h with
    | tup h1 h2 => exact .tup h1 (RpAll.dp ds _ (by simpa only [PyData.canLay0] using c) h2)
  | .dict _, _, c, h => by simp [PyData.canLay0] at c
theorem RpAll.dp : ∀ (ds : List D) (vs : List V), PyData.canLayAll0 ds = true → RpAll K F vs ds → DpAll K F vs ds
  | [], _, _, h => by cases h; exact .nil
  | d :: ds, _, c, h => by
    simp only [PyData.canLayAll0, Bool.and_eq_true] at c
    cases h with
    | cons h1 h2 => exact .cons (Rp.dp d _ c.1 h1) (RpAll.dp ds _ c.2 h2)
end
theorem RpAll.len : ∀ {ds : List D} {vs : List V}, RpAll K F vs ds → vs.length = ds.length
  | [], _, h => by cases h; rfl
  | d :: ds, _, h => by
    cases h with
    | cons h1 h2 => simp [RpAll.len h2]
theorem RpAll.get : ∀ {ds : List D} {vs : List V} {i : Nat} {d : D}, RpAll K F vs ds → ds[i]? = some d → ∃ v, vs[i]? = some v ∧ Rp K F v d
  | [], _, _, _, h, e => by simp at e
  | d :: ds, _, 0, _, h, e => by
    cases h with
    | cons h1 h2 => simp at e; subst e; exact ⟨_, rfl, h1⟩
  | d :: ds, _, i + 1, _, h, e => by
    cases h with
    | cons h1 h2 => simp at e; obtain ⟨v, e1, e2⟩ := RpAll.get h2 e; exact ⟨v, by simpa using e1, e2⟩
theorem RpAll.getV : ∀ {ds : List D} {vs : List V} {i : Nat} {v : V}, RpAll K F vs ds → vs[i]? = some v → ∃ d, ds[i]? = some d ∧ Rp K F v d
  | [], _, _, _, h, e => by cases h; simp at e
  | d :: ds, _, 0, _, h, e => by
    cases h with
    | cons h1 h2 => simp at e; subst e; exact ⟨_, rfl, h1⟩
  | d :: ds, _, i + 1, _, h, e => by
    cases h with
    | cons h1 h2 => simp at e; obtain ⟨v, e1, e2⟩ := RpAll.getV h2 e; exact ⟨v, by simpa using e1, e2⟩
theorem RpAll.append : ∀ {ds es : List D} {vs ws : List V}, RpAll K F vs ds → RpAll K F ws es → RpAll K F (vs ++ ws) (ds ++ es)
  | [], _, _, _, h, h' => by cases h; exact h'
  | d :: ds, _, _, _, h, h' => by
    cases h with
    | cons h1 h2 => exact .cons h1 (RpAll.append h2 h')
theorem RpAll.take : ∀ {ds : List D} {vs : List V} (n : Nat), RpAll K F vs ds → RpAll K F (vs.take n) (ds.take n)
  | _, _, 0, _ => .nil
  | [], _, n + 1, h => by cases h; exact .nil
  | d :: ds, _, n + 1, h => by
    cases h with
    | cons h1 h2 => exact .cons h1 (RpAll.take n h2)
theorem RpAll.drop : ∀ {ds : List D} {vs : List V} (n : Nat), RpAll K F vs ds → RpAll K F (vs.drop n) (ds.drop n)
  | _, _, 0, h => h
  | [], _, n + 1, h => by cases h; exact .nil
  | d :: ds, _, n + 1, h => by
    cases h with
    | cons h1 h2 => exact RpAll.drop n h2
theorem RpAll.set : ∀ {ds : List D} {vs : List V} (n : Nat) {v : V} {d : D}, Rp K F v d → RpAll K F vs ds → RpAll K F (vs.set n v) (ds.set n d)
  | [], _, n, _, _, _, h => by cases h; exact .nil
  | _ :: _, _, 0, _, _, hv, h => by
    cases h with
    | cons h1 h2 => exact .cons hv h2
  | _ :: _, _, n + 1, _, _, hv, h => by
    cases h with
    | cons h1 h2 => exact .cons h1 (RpAll.set n hv h2)
theorem RpAll.erase : ∀ {ds : List D} {vs : List V} (n : Nat), RpAll K F vs ds → RpAll K F (vs.eraseIdx n) (ds.eraseIdx n)
  | [], _, n, h => by cases h; simp; exact .nil
  | _ :: _, _, 0, h => by
    cases h with
    | cons h1 h2 => simpa using h2
  | _ :: _, _, n + 1, h => by
    cases h with
    | cons h1 h2 => simp; exact .cons h1 (RpAll.erase n h2)
theorem RpAll.rev {ds : List D} {vs : List V} (h : RpAll K F vs ds) : RpAll K F vs.reverse ds.reverse := by
  induction ds generalizing vs with
  | nil => cases h; exact .nil
  | cons d ds ih =>
    cases h with
    | cons h1 h2 => simp; exact RpAll.append (ih h2) (.cons h1 .nil)
theorem RpAll.rep {v : V} {d : D} (h : Rp K F v d) : ∀ n, RpAll K F (List.replicate n v) (List.replicate n d)
  | 0 => .nil
  | n + 1 => .cons h (RpAll.rep h n)
theorem RpAll.ints : ∀ ns : List Int, RpAll K F (ns.map V.int) (ns.map PyData.int)
  | [] => .nil
  | n :: r => .cons (.int n) (RpAll.ints r)
theorem RpAll.ofInts : ∀ {ns : List Int} {vs : List V}, RpAll K F vs (ns.map PyData.int) → vs = ns.map V.int
  | [], _, h => by cases h; rfl
  | n :: r, _, h => by
    cases h with
    | cons h1 h2 => cases h1; rw [RpAll.ofInts h2]; rfl
theorem RpAll.ofStrs : ∀ {ns : List Str} {vs : List V}, RpAll K F vs (ns.map PyData.str) → vs = ns.map V.str
  | [], _, h => by cases h; rfl
  | n :: r, _, h => by
    cases h with
    | cons h1 h2 => cases h1; rw [RpAll.ofStrs h2]; rfl
theorem RpAll.strs : ∀ ns : List Str, RpAll K F (ns.map V.str) (ns.map PyData.str)
  | [] => .nil
  | n :: r => .cons (.str n) (RpAll.strs r)
theorem RpAll.ofBools : ∀ {ns : List Bool} {vs : List V}, RpAll K F vs (ns.map PyData.bool) → vs = ns.map V.bl
  | [], _, h => by cases h; rfl
  | n :: r, _, h => by
    cases h with
    | cons h1 h2 => cases h1; rw [RpAll.ofBools h2]; rfl
end

/-! ### trees: objects of one's own within one another -/
inductive Hn where
  | lst
  | dk (ks : List Key)
  /-- a dict that is walked just now -/
  | dkL (od : Obj) (ws : List (Key × V))
  | dt (ks : List (List Key))
  | ob (c : Str) (ns : List Str)
inductive Tr where
  | d (x : D)
  /-- what stands here is in another slot just now -/
  | hl (v : V)
  | nd (p : Addr) (h : Hn) (ts : List Tr)
def kids : HO → List V
  | .lst xs => xs
  | .dK ws => ws.map (·.2)
  | .dT ws => ws.map (·.2)
  | .ins _ _ fs => fs.map (·.2)
  | .frz _ u => kids u
  | _ => []
def HnOk (K : Frag) : Hn → HO → Prop
  | .lst, o => ∃ xs, o = .lst xs
  | .dk ks, o => ∃ ws, o = .dK ws ∧ ws.map (·.1) = ks
  | .dt ks, o => ∃ ws, o = .dT ws ∧ ws.map (·.1) = ks
  | .dkL od ws, o => o = .frz od (.dK ws)
  | .ob c ns, o => InsOk K c ∧ (∀ f ∈ ns, NoAttr K (cA K c) f) ∧ ∃ dx fs, o = .ins (cA K c) dx fs ∧ fs.map (·.1) = ns
mutual
inductive TrOk (K : Frag) (F H : Hp) : V → Tr → List Addr → Prop
  | d {v : V} {x : D} : Rp K F v x → TrOk K F H v (.d x) []
  | hl {v : V} : TrOk K F H v (.hl v) []
  | nd {p : Addr} {o : HO} {h : Hn} {ts : List Tr} {fp : List Addr} : H p = some o → HnOk K h o → TrAll K F H (kids o) ts fp → TrOk K F H (.ref p) (.nd p h ts) (p :: fp)
inductive TrAll (K : Frag) (F H : Hp) : List V → List Tr → List Addr → Prop
  | nil : TrAll K F H [] [] []
  | cons {v : V} {vs : List V} {t : Tr} {ts : List Tr} {f1 f2 : List Addr} : TrOk K F H v t f1 → TrAll K F H vs ts f2 → TrAll K F H (v :: vs) (t :: ts) (f1 ++ f2)
end
/-- the value behind a path -/
def walkV (H : Hp) : V → List Nat → Option V
  | v, [] => some v
  | .ref p, k :: π => match H p with
    | some o => match (kids o)[k]? with
      | some u => walkV H u π
      | none => none
    | none => none
  | _, _ :: _ => none
def Tr.get : Tr → List Nat → Option Tr
  | t, [] => some t
  | .nd _ _ ts, k :: π => match ts[k]? with
    | some t => t.get π
    | none => none
  | _, _ :: _ => none
def Tr.put : Tr → List Nat → Tr → Tr
  | _, [], s => s
  | .nd p h ts, k :: π, s => match ts[k]? with
    | some t => .nd p h (ts.set k (t.put π s))
    | none => .nd p h ts
  | t, _ :: _, _ => t
section
variable {K : Frag} {F F' H H' : Hp}
theorem TrOk.mono (e : Same F F') {v : V} {t : Tr} {fp : List Addr} (h : TrOk K F H v t fp) : (∀ p ∈ fp, ∀ o, H p = some o → H' p = some o) → TrOk K F' H' v t fp :=
  TrOk.rec (motive_1 := fun v t fp _ => (∀ p ∈ fp, ∀ o, H p = some o → H' p = some o) → TrOk K F' H' v t fp) (motive_2 := fun vs ts fp _ => (∀ p ∈ fp, ∀ o, H p = some o → H' p = some o) → TrAll K F' H' vs ts fp)
    (fun r _ => .d (Rp.mono e _ _ r)) (fun _ => .hl) (fun h1 h2 _ ih k => .nd (k _ List.mem_cons_self _ h1) h2 (ih fun p hp => k p (List.mem_cons_of_mem _ hp)))
    (fun _ => .nil) (fun _ _ i1 i2 k => .cons (i1 fun p hp => k p (List.mem_append_left _ hp)) (i2 fun p hp => k p (List.mem_append_right _ hp))) h
theorem TrAll.mono (e : Same F F') {vs : List V} {ts : List Tr} {fp : List Addr} (h : TrAll K F H vs ts fp) : (∀ p ∈ fp, ∀ o, H p = some o → H' p = some o) → TrAll K F' H' vs ts fp := by
  intro k
  induction ts generalizing vs fp with
  | nil => cases h; exact .nil
  | cons t ts ih =>
    cases h with
    | cons h1 h2 => exact .cons (h1.mono e fun p hp => k p (List.mem_append_left _ hp)) (ih h2 fun p hp => k p (List.mem_append_right _ hp))
theorem TrAll.len {vs : List V} {ts : List Tr} {fp : List Addr} (h : TrAll K F H vs ts fp) : vs.length = ts.length := by
  induction ts generalizing vs fp with
  | nil => cases h; rfl
  | cons t ts ih =>
    cases h with
    | cons h1 h2 => rw [List.length_cons, List.length_cons, ih h2]
theorem TrAll.app {vs ws : List V} {ts us : List Tr} {f1 f2 : List Addr} (h : TrAll K F H vs ts f1) (h' : TrAll K F H ws us f2) : TrAll K F H (vs ++ ws) (ts ++ us) (f1 ++ f2) := by
  induction ts generalizing vs f1 with
  | nil => cases h; exact h'
  | cons t ts ih =>
    cases h with
    | cons h1 h2 => rw [List.append_assoc]; exact .cons h1 (ih h2)
theorem TrAll.at {vs : List V} {ts : List Tr} {fp : List Addr} {k : Nat} {t : Tr} (h : TrAll K F H vs ts fp) (e : ts[k]? = some t) :
    ∃ v fa f1 fb, vs[k]? = some v ∧ fp = fa ++ (f1 ++ fb) ∧ TrOk K F H v t f1 ∧ ∀ F' H' t' f1', Same F F' → (∀ p ∈ fa ++ fb, ∀ o, H p = some o → H' p = some o) → TrOk K F' H' v t' f1' → TrAll K F' H' vs (ts.set k t') (fa ++ (f1' ++ fb)) := by
  induction ts generalizing vs fp k with
  | nil => simp at e
  | cons s ts ih =>
    cases h with
    | @cons v vs _ _ g1 g2 h1 h2 =>
      cases k with
      | zero =>
        simp only [List.getElem?_cons_zero, Option.some.injEq] at e
        subst e
        exact ⟨v, [], g1, g2, rfl, rfl, h1, fun F' H' t' f1' e k h => by
          show TrAll K F' H' (v :: vs) (t' :: ts) (f1' ++ g2)
          exact .cons h (h2.mono e fun p hp => k p (by simpa using hp))⟩
      | succ k =>
        simp only [List.getElem?_cons_succ] at e
        obtain ⟨u, fa, f1, fb, e1, e2, h3, put⟩ := ih h2 e
        refine ⟨u, g1 ++ fa, f1, fb, by simpa using e1, by rw [e2, List.append_assoc], h3, fun F' H' t' f1' e k h => ?_⟩
        rw [List.append_assoc]
        exact .cons (h1.mono e fun p hp => k p (List.mem_append_left _ (List.mem_append_left _ hp))) (put F' H' t' f1' e (fun p hp => k p (by
          rcases List.mem_append.mp hp with hp | hp
          · exact List.mem_append_left _ (List.mem_append_right _ hp)
          · exact List.mem_append_right _ hp)) h)
theorem nodup_app {α : Type} {a b : List α} : (a ++ b).Nodup ↔ a.Nodup ∧ b.Nodup ∧ ∀ x ∈ a, x ∉ b := by
  rw [List.nodup_append]
  constructor
  · rintro ⟨h1, h2, h3⟩; exact ⟨h1, h2, fun x hx hb => h3 x hx x hb rfl⟩
  · rintro ⟨h1, h2, h3⟩; exact ⟨h1, h2, fun x hx y hy e => h3 x hx (e ▸ hy)⟩
/-- a part of a tree, and what becomes of the whole when the part changes -/
theorem TrOk.focus : ∀ (π : List Nat) {v : V} {t s : Tr} {fp : List Addr}, TrOk K F H v t fp → fp.Nodup → t.get π = some s → ∃ u fs, walkV H v π = some u ∧ TrOk K F H u s fs ∧ (∀ p ∈ fs, p ∈ fp) ∧ fs.Nodup ∧
    ∀ F' H' s' fs', Same F F' → (∀ p ∈ fp, p ∉ fs → ∀ o, H p = some o → H' p = some o) → TrOk K F' H' u s' fs' → fs'.Nodup → (∀ p ∈ fs', p ∈ fs ∨ p ∉ fp) → ∃ fp', TrOk K F' H' v (t.put π s') fp' ∧ fp'.Nodup ∧ (∀ p ∈ fp', (p ∈ fp ∧ p ∉ fs) ∨ p ∈ fs')
  | [], v, t, s, fp, h, hn, e => by
    have e' : some t = some s := by simpa [Tr.get] using e
    cases e'
    exact ⟨v, fp, by cases v <;> rfl, h, fun p hp => hp, hn, fun F' H' s' fs' _ _ h' n' _ => ⟨fs', by cases t <;> exact h', n', fun p hp => .inr hp⟩⟩
  | k :: π, v, t, s, fp, h, hn, e => by
    cases h with
    | d r => simp [Tr.get] at e
    | hl => simp [Tr.get] at e
    | @nd p o hh ts fp h1 h2 h3 =>
      simp only [Tr.get] at e
      cases ek : ts[k]? with
      | none => rw [ek] at e; cases e
      | some t1 =>
        rw [ek] at e
        obtain ⟨v1, fa, f1, fb, e1, e2, h4, put⟩ := h3.at ek
        subst e2
        obtain ⟨np, hn2⟩ := List.nodup_cons.mp hn
        obtain ⟨na, nfb, dab⟩ := nodup_app.mp hn2
        obtain ⟨n1, nb, d1b⟩ := nodup_app.mp nfb
        obtain ⟨u, fs, w, hs, sub, ns, put2⟩ := TrOk.focus π h4 n1 e
        refine ⟨u, fs, ?_, hs, fun q hq => List.mem_cons_of_mem _ (List.mem_append_right _ (List.mem_append_left _ (sub q hq))), ns, fun F' H' s' fs' ef kp h' n' d' => ?_⟩
        · simp only [walkV, h1, e1]; exact w
        · obtain ⟨f1', h5, n5, s5⟩ := put2 F' H' s' fs' ef (fun q hq hnq => kp q (List.mem_cons_of_mem _ (List.mem_append_right _ (List.mem_append_left _ hq))) hnq) h' n' (fun q hq => by
            rcases d' q hq with z | z
            · exact .inl z
            · exact .inr fun z2 => z (List.mem_cons_of_mem _ (List.mem_append_right _ (List.mem_append_left _ z2))))
          have pfs : p ∉ fs := fun z => np (List.mem_append_right _ (List.mem_append_left _ (sub p z)))
          have out : ∀ q ∈ fa ++ fb, q ∉ fs := fun q hq z => by
            rcases List.mem_append.mp hq with hq | hq
            · exact dab q hq (List.mem_append_left _ (sub q z))
            · exact d1b q (sub q z) hq
          have inn : ∀ q ∈ fa ++ fb, q ∈ p :: (fa ++ (f1 ++ fb)) := fun q hq => by
            rcases List.mem_append.mp hq with hq | hq
            · exact List.mem_cons_of_mem _ (List.mem_append_left _ hq)
            · exact List.mem_cons_of_mem _ (List.mem_append_right _ (List.mem_append_right _ hq))
          have new : ∀ q ∈ f1', q ∈ f1 ∨ q ∉ p :: (fa ++ (f1 ++ fb)) := fun q hq => by
            rcases s5 q hq with ⟨z, _⟩ | z
            · exact .inl z
            · rcases d' q z with z2 | z2
              · exact .inl (sub q z2)
              · exact .inr z2
          refine ⟨p :: (fa ++ (f1' ++ fb)), ?_, ?_, fun q hq => ?_⟩
          · simp only [Tr.put, ek]
            exact .nd (kp p List.mem_cons_self pfs _ h1) h2 (put F' H' _ f1' ef (fun q hq o => kp q (inn q hq) (out q hq) o) h5)
          · refine List.nodup_cons.mpr ⟨fun z => ?_, nodup_app.mpr ⟨na, nodup_app.mpr ⟨n5, nb, fun q hq hb => ?_⟩, fun q hq hb => ?_⟩⟩
            · rcases List.mem_append.mp z with z | z
              · exact np (List.mem_append_left _ z)
              · rcases List.mem_append.mp z with z | z
                · rcases new p z with z2 | z2
                  · exact np (List.mem_append_right _ (List.mem_append_left _ z2))
                  · exact z2 List.mem_cons_self
                · exact np (List.mem_append_right _ (List.mem_append_right _ z))
            · rcases new q hq with z2 | z2
              · exact d1b q z2 hb
              · exact z2 (List.mem_cons_of_mem _ (List.mem_append_right _ (List.mem_append_right _ hb)))
            · rcases List.mem_append.mp hb with hb | hb
              · rcases new q hb with z2 | z2
                · exact dab q hq (List.mem_append_left _ z2)
                · exact z2 (List.mem_cons_of_mem _ (List.mem_append_left _ hq))
              · exact dab q hq (List.mem_append_right _ hb)
          · rcases List.mem_cons.mp hq with rfl | hq
            · exact .inl ⟨List.mem_cons_self, pfs⟩
            · rcases List.mem_append.mp hq with hq | hq
              · exact .inl ⟨inn q (List.mem_append_left _ hq), out q (List.mem_append_left _ hq)⟩
              · rcases List.mem_append.mp hq with hq | hq
                · rcases s5 q hq with ⟨z, z2⟩ | z
                  · exact .inl ⟨List.mem_cons_of_mem _ (List.mem_append_right _ (List.mem_append_left _ z)), z2⟩
                  · exact .inr z
                · exact .inl ⟨inn q (List.mem_append_right _ hq), out q (List.mem_append_right _ hq)⟩
theorem TrOk.there {v : V} {t : Tr} {fp : List Addr} (h : TrOk K F H v t fp) : ∀ p ∈ fp, H p ≠ none :=
  TrOk.rec (motive_1 := fun v t fp _ => ∀ p ∈ fp, H p ≠ none) (motive_2 := fun vs ts fp _ => ∀ p ∈ fp, H p ≠ none)
    (fun _ p hp => nomatch hp) (fun p hp => nomatch hp) (fun h1 _ _ ih p hp => by
      rcases List.mem_cons.mp hp with rfl | hp
      · rw [h1]; simp
      · exact ih p hp) (fun p hp => nomatch hp) (fun _ _ i1 i2 p hp => by
      rcases List.mem_append.mp hp with hp | hp
      · exact i1 p hp
      · exact i2 p hp) h
end

/-- a name's slot -/
inductive Sl where
  /-- nothing is known -/
  | un
  /-- data that nobody changes -/
  | fr (d : D)
  /-- a list of this def's own -/
  | ow (ds : List D)
  /-- a list of another's, that is read alone -/
  | bo (ds : List D)
  /-- a dict of this def's own -/
  | dk (kvs : List (Key × D))
  | dt (kvs : List (List Key × D))
  /-- a tree of this def's own, its root -/
  | tr (v : V) (t : Tr)
  /-- a tree of another's, that is read alone -/
  | bt (v : V) (t : Tr)

abbrev Own := Addr → Option Nat
def SlOk (K : Frag) (H0 F H : Hp) (own : Own) (i : Nat) : Sl → Option V → Prop
  | .un, _ => True
  | .fr d, o => ∃ v, o = some v ∧ Rp K F v d
  | .ow ds, o => ∃ p vs, o = some (.ref p) ∧ own p = some i ∧ H p = some (.lst vs) ∧ RpAll K F vs ds
  | .bo ds, o => ∃ p vs, o = some (.ref p) ∧ SqL K H0 p vs ∧ RpAll K F vs ds
  | .dk kvs, o => ∃ p ws, o = some (.ref p) ∧ own p = some i ∧ H p = some (.dK ws) ∧ Paired (fun (a : Key × V) (b : Key × D) => a.1 = b.1 ∧ Rp K F a.2 b.2) ws kvs
  | .dt kvs, o => ∃ p ws, o = some (.ref p) ∧ own p = some i ∧ H p = some (.dT ws) ∧ Paired (fun (a : List Key × V) (b : List Key × D) => a.1 = b.1 ∧ Rp K F a.2 b.2) ws kvs
  | .tr v t, o => o = some v ∧ ∃ fp, TrOk K F H v t fp ∧ fp.Nodup ∧ ∀ p ∈ fp, own p = some i
  | .bt v t, o => o = some v ∧ ∃ fp, TrOk K F H0 v t fp ∧ fp.Nodup

/-- the heaps grow -/
structure Grow (F H F' H' : Hp) : Prop where
  f : Same F F'
  h : Same H H'
  fh : Same F' H'
  new : ∀ a, F' a ≠ none → F a ≠ none ∨ H a = none
structure Rel (K : Frag) (H0 F0 F : Hp) (own : Own) (E : List Sl) (σ : St) (H : Hp) : Prop where
  len : E.length = σ.length
  g : Grow F0 H0 F H
  ow : ∀ a i, own a = some i → F a = none ∧ H0 a = none ∧ H a ≠ none
  sl : ∀ i s, E[i]? = some s → SlOk K H0 F H own i s (σ.getD i none)

section
variable {K : Frag} {H0 F0 F F' F'' H H' H'' : Hp} {own : Own} {E : List Sl} {σ : St}
theorem none_of_same {A B : Hp} {a : Addr} (s : Same A B) (h : B a = none) : A a = none := s.free h
theorem Grow.refl (s : Same F H) : Grow F H F H := ⟨Same.refl _, Same.refl _, s, fun _ h => .inl h⟩
theorem Grow.trans (a : Grow F H F' H') (b : Grow F' H' F'' H'') : Grow F H F'' H'' :=
  ⟨a.f.trans b.f, a.h.trans b.h, b.fh, fun x h => by
    rcases b.new x h with q | q
    · exact a.new x q
    · exact .inr (none_of_same a.h q)⟩
/-- a new thing laid, not frozen -/
theorem Grow.lay {p : Addr} {o : HO} (s : Same F H) (n : H p = none) : Grow F H F (upd H p o) :=
  ⟨Same.refl _, same_upd n, s.trans (same_upd n), fun _ h => .inl h⟩
/-- a new thing laid and frozen -/
theorem Grow.layF {p : Addr} {o : HO} (s : Same F H) (n : H p = none) : Grow F H (upd F p o) (upd H p o) := by
  refine ⟨same_upd (none_of_same s n), same_upd n, fun b x e => ?_, fun a h => ?_⟩
  · by_cases hb : b = p
    · subst hb; rw [upd_same] at e ⊢; exact e
    · rw [upd_ne hb] at e ⊢; exact s _ _ e
  · by_cases hb : a = p
    · subst hb; exact .inr n
    · rw [upd_ne hb] at h; exact .inl h
/-- a thing that is new since H is frozen -/
theorem Grow.freeze {p : Addr} {o : HO} (g : Grow F H F' H') (n : H p = none) (nf : F' p = none) (e : H' p = some o) : Grow F H (upd F' p o) H' := by
  refine ⟨g.f.trans (same_upd nf), g.h, fun b x q => ?_, fun a h => ?_⟩
  · by_cases hb : b = p
    · subst hb; rw [upd_same] at q; rw [e]; exact q
    · rw [upd_ne hb] at q; exact g.fh _ _ q
  · by_cases hb : a = p
    · subst hb; exact .inr n
    · rw [upd_ne hb] at h; exact g.new _ h
theorem kv_mono {κ : Type} (e : Same F F') : ∀ {ws : List (κ × V)} {kvs : List (κ × D)}, Paired (fun (a : κ × V) (b : κ × D) => a.1 = b.1 ∧ Rp K F a.2 b.2) ws kvs → Paired (fun (a : κ × V) (b : κ × D) => a.1 = b.1 ∧ Rp K F' a.2 b.2) ws kvs := fun h =>
  L2.Paired.mapP h fun _ _ z => ⟨z.1, Rp.mono e _ _ z.2⟩
/-- a slot stays as it is while the frozen part grows and its own object is kept -/
theorem SlOk.stay {own' : Own} {H0' : Hp} {i : Nat} {s : Sl} {o : Option V} (x : SlOk K H0 F H own i s o) (e : Same F F') (h0 : Same H0 H0') (k : ∀ p u, own p = some i → H p = some u → H' p = some u) (ko : ∀ p, own p = some i → own' p = some i) : SlOk K H0' F' H' own' i s o := by
  cases s with
  | un => trivial
  | fr d => obtain ⟨v, e1, r⟩ := x; exact ⟨v, e1, Rp.mono e _ _ r⟩
  | ow ds => obtain ⟨p, vs, e1, e2, e3, r⟩ := x; exact ⟨p, vs, e1, ko _ e2, k _ _ e2 e3, RpAll.mono e _ _ r⟩
  | bo ds => obtain ⟨p, vs, e1, e2, r⟩ := x; exact ⟨p, vs, e1, h0.seq e2, RpAll.mono e _ _ r⟩
  | dk kvs => obtain ⟨p, ws, e1, e2, e3, r⟩ := x; exact ⟨p, ws, e1, ko _ e2, k _ _ e2 e3, kv_mono e r⟩
  | dt kvs => obtain ⟨p, ws, e1, e2, e3, r⟩ := x; exact ⟨p, ws, e1, ko _ e2, k _ _ e2 e3, kv_mono e r⟩
  | tr v t => obtain ⟨e1, fp, h1, h2, h3⟩ := x; exact ⟨e1, fp, h1.mono e fun p hp o q => k p o (h3 p hp) q, h2, fun p hp => ko p (h3 p hp)⟩
  | bt v t => obtain ⟨e1, fp, h1, h2⟩ := x; exact ⟨e1, fp, h1.mono e fun p _ o q => h0 _ _ q, h2⟩
theorem Rel.grow (r : Rel K H0 F0 F own E σ H) (g : Grow F H F' H') : Rel K H0 F0 F' own E σ H' := by
  refine ⟨r.len, r.g.trans g, fun a i e => ?_, fun i s e => (r.sl i s e).stay g.f (Same.refl _) (fun p u _ q => g.h _ _ q) fun _ q => q⟩
  obtain ⟨h1, h2, h3⟩ := r.ow a i e
  refine ⟨?_, h2, fun z => h3 (none_of_same g.h z)⟩
  cases q : F' a with
  | none => rfl
  | some u =>
    rcases g.new a (by rw [q]; simp) with z | z
    · exact absurd h1 z
    · exact absurd z h3
end

/-! ### results -/
inductive Mo where
  | rd | tk | fz | nw
  deriving DecidableEq
def Res (K : Frag) (H F' H' : Hp) : Mo → V → D → Prop
  | .rd, v, d => Rp K F' v d ∨ ∃ p vs ds, v = .ref p ∧ d = .list ds ∧ SqL K H' p vs ∧ RpAll K F' vs ds
  | .tk, v, d => Rp K F' v d ∨ ∃ p vs ds, v = .ref p ∧ d = .list ds ∧ H' p = some (.lst vs) ∧ RpAll K F' vs ds
  | .fz, v, d => Rp K F' v d
  | .nw, v, d => ∃ p vs ds, v = .ref p ∧ d = .list ds ∧ H p = none ∧ F' p = none ∧ H' p = some (.lst vs) ∧ RpAll K F' vs ds
section
variable {K : Frag} {H0 F0 F F' F'' H H' H'' : Hp} {v : V} {d : D} {m : Mo}
theorem Res.keep (g : Grow F' H' F'' H'') (hm : m ≠ .nw) (r : Res K H F' H' m v d) : Res K H'' F'' H'' m v d := by
  cases m with
  | rd =>
    rcases r with r | ⟨p, vs, ds, e1, e2, s, r⟩
    · exact .inl (Rp.mono g.f _ _ r)
    · exact .inr ⟨p, vs, ds, e1, e2, g.h.seq s, RpAll.mono g.f _ _ r⟩
  | tk =>
    rcases r with r | ⟨p, vs, ds, e1, e2, s, r⟩
    · exact .inl (Rp.mono g.f _ _ r)
    · exact .inr ⟨p, vs, ds, e1, e2, g.h _ _ s, RpAll.mono g.f _ _ r⟩
  | fz => exact Rp.mono g.f _ _ r
  | nw => exact absurd rfl hm
theorem Res.old (s : Same H0 H) (r : Res K H F' H' m v d) : Res K H0 F' H' m v d := by
  cases m with
  | rd => exact r
  | tk => exact r
  | fz => exact r
  | nw => obtain ⟨p, vs, ds, e1, e2, n, q⟩ := r; exact ⟨p, vs, ds, e1, e2, none_of_same s n, q⟩
theorem Res.rd_of (r : Res K H F' H' m v d) : Res K H F' H' .rd v d := by
  cases m with
  | rd => exact r
  | tk =>
    rcases r with r | ⟨p, vs, ds, e1, e2, s, r⟩
    · exact .inl r
    · exact .inr ⟨p, vs, ds, e1, e2, SqL.of s, r⟩
  | fz => exact .inl r
  | nw => obtain ⟨p, vs, ds, e1, e2, n, nf, q, r⟩ := r; exact .inr ⟨p, vs, ds, e1, e2, SqL.of q, r⟩
theorem Res.tk_of (hm : m ≠ .rd) (r : Res K H F' H' m v d) : Res K H F' H' .tk v d := by
  cases m with
  | rd => exact absurd rfl hm
  | tk => exact r
  | fz => exact .inl r
  | nw => obtain ⟨p, vs, ds, e1, e2, n, nf, q, r⟩ := r; exact .inr ⟨p, vs, ds, e1, e2, q, r⟩
theorem Res.trk {ds : List D} (s : Same F' H') (r : Res K H F' H' .tk v (.list ds)) : ∃ p vs, v = .ref p ∧ H' p = some (.lst vs) ∧ RpAll K F' vs ds := by
  rcases r with r | ⟨p, vs, ds', rfl, e, q, r⟩
  · cases r with
    | lst h1 h2 => exact ⟨_, _, rfl, s _ _ h1, h2⟩
  · cases e; exact ⟨p, vs, rfl, q, r⟩
theorem Res.dp (s : Same F' H') (r : Res K H F' H' .rd v d) (c : PyData.canLay0 d = true) : Dp K H' v d := by
  rcases r with r | ⟨p, vs, ds, rfl, rfl, q, r⟩
  · exact Rp.dp _ _ c (Rp.mono s _ _ r)
  · exact .lst q (RpAll.dp _ _ (by simpa only [PyData.canLay0] using c) (RpAll.mono s _ _ r))
/-- a list that can be read -/
theorem Res.list {ds : List D} (s : Same F' H') (r : Res K H F' H' .rd v (.list ds)) : ∃ p vs, v = .ref p ∧ SqL K H' p vs ∧ RpAll K F' vs ds := by
  rcases r with r | ⟨p, vs, ds', rfl, e, q, r⟩
  · cases r with
    | lst h1 h2 => exact ⟨_, _, rfl, SqL.of (s _ _ h1), h2⟩
  · cases e; exact ⟨p, vs, rfl, q, r⟩
theorem Res.tuple {ds : List D} (s : Same F' H') (r : Res K H F' H' .rd v (.tuple ds)) : ∃ p vs, v = .ref p ∧ SqT K H' p vs ∧ RpAll K F' vs ds := by
  rcases r with r | ⟨p, vs, ds', rfl, e, q, r⟩
  · cases r with
    | tup h1 h2 => exact ⟨_, _, rfl, seqT_mono s h1, h2⟩
  · cases e
theorem Res.scal {e : D} (hd : ∀ ds, d ≠ .list ds) (r : Res K H F' H' .rd v d) : Rp K F' v d := by
  rcases r with r | ⟨p, vs, ds', rfl, e, q, r⟩
  · exact r
  · exact absurd e (hd _)
theorem Res.int {i : Int} (r : Res K H F' H' .rd v (.int i)) : v = .int i := by
  rcases r with r | ⟨p, vs, ds', rfl, e, q, r⟩
  · cases r; rfl
  · cases e
theorem Res.bool {i : Bool} (r : Res K H F' H' .rd v (.bool i)) : v = .bl i := by
  rcases r with r | ⟨p, vs, ds', rfl, e, q, r⟩
  · cases r; rfl
  · cases e
theorem Res.str {i : Str} (r : Res K H F' H' .rd v (.str i)) : v = .str i := by
  rcases r with r | ⟨p, vs, ds', rfl, e, q, r⟩
  · cases r; rfl
  · cases e
end

/-! ### expressions -/
abbrev WE := List Sl → (D → Prop) → (Str → Prop) → Prop
def tJ (m : Mo) (K : Frag) (W : WX) (w : WE) : TE := fun σ H Q => ∃ H0 F0 F own E KD KX, Rel K H0 F0 F own E σ H ∧ w E KD KX ∧
  (∀ d, KD d → ∀ F' H' v, Grow F H F' H' → Res K H F' H' m v d → Q v H') ∧ (∀ c, KX c → ∀ F' H', Grow F H F' H' → W (.ref (cA K c)) none σ H')
def J (m : Mo) (X : Cx) (W : WX) (e : Expr) (w : WE) : Prop := PE X e (tJ m X.K W w)
theorem pe_imp {X : Cx} {e : Expr} {t t' : TE} (h : PE X e t) (i : ∀ σ H Q, t' σ H Q → t σ H Q) : PE X e t' := ⟨fun pins s σ H Q I q => h.run pins s σ H Q I (i _ _ _ q)⟩
theorem pt_imp {X : Cx} {e : Expr} {t t' : TT} (h : PT X e t) (i : ∀ σ H Q, t' σ H Q → t σ H Q) : PT X e t' := ⟨fun pins s σ H Q I q => h.run pins s σ H Q I (i _ _ _ q)⟩
theorem ps_imp {X : Cx} {e : Stmt} {t t' : TS} (h : PS X e t) (i : ∀ D σ H, t' D σ H → t D σ H) : PS X e t' := ⟨fun pins s σ H D I q => h.run pins s σ H D I (i _ _ _ q)⟩
theorem pss_imp {X : Cx} {e : List Stmt} {t t' : TS} (h : PSs X e t) (i : ∀ D σ H, t' D σ H → t D σ H) : PSs X e t' := ⟨fun pins s σ H D I q => h.run pins s σ H D I (i _ _ _ q)⟩
theorem pi_imp {X : Cx} {tg e : Expr} {t t' : TI} (h : PI X tg e t) (i : ∀ σ H R, t' σ H R → t σ H R) : PI X tg e t' := ⟨fun pins s σ H R I q => h.run pins s σ H R I (i _ _ _ q)⟩

section
variable {X : Cx} {W : WX} {a b e : Expr} {pos : Pos} {m : Mo} {wa wb we : WE}
theorem J.rd (h : J m X W e we) : J .rd X W e we := pe_imp h fun σ H Q ⟨H0, F0, F, own, E, KD, KX, r, q, k, x⟩ =>
  ⟨H0, F0, F, own, E, KD, KX, r, q, fun d hd F' H' v g rs => k d hd F' H' v g rs.rd_of, x⟩
/-- a new list that is no one's any more -/
theorem J.fz (h : J .nw X W e we) : J .fz X W e we := pe_imp h fun σ H Q ⟨H0, F0, F, own, E, KD, KX, r, q, k, x⟩ =>
  ⟨H0, F0, F, own, E, KD, KX, r, q, fun d hd F' H' v g ⟨p, vs, ds, e1, e2, n, nf, eh, ra⟩ => k d hd (upd F' p (.lst vs)) H' v (g.freeze n nf eh) (by
    subst e1 e2
    exact Rp.lst upd_same (RpAll.mono (same_upd nf) _ _ ra)), x⟩

/-- names -/
def wRd (i : Nat) : WE := fun E KD _ => (∃ d, E[i]? = some (.fr d) ∧ KD d) ∨ (∃ ds, (E[i]? = some (.ow ds) ∨ E[i]? = some (.bo ds)) ∧ KD (.list ds))
def wFr (i : Nat) : WE := fun E KD _ => ∃ d, E[i]? = some (.fr d) ∧ KD d
theorem getD_some {σ : St} {i : Nat} {v : V} (h : σ.getD i none = some v) : σ[i]? = some (some v) := by
  rw [List.getD_eq_getElem?_getD] at h
  cases q : σ[i]? with
  | none => rw [q] at h; simp at h
  | some u => rw [q] at h; simp at h; rw [h]
theorem j_fr {i : Nat} (h : PE X e (tVar i)) : J .fz X W e (wFr i) := pe_imp h fun σ H Q ⟨H0, F0, F, own, E, KD, KX, r, q, k, x⟩ => by
  obtain ⟨d, e1, q⟩ := q
  obtain ⟨v, e2, rp⟩ := r.sl _ _ e1
  exact ⟨v, getD_some e2, k d q F H v (Grow.refl r.g.fh) rp⟩
theorem j_rd {i : Nat} (h : PE X e (tVar i)) : J .rd X W e (wRd i) := pe_imp h fun σ H Q ⟨H0, F0, F, own, E, KD, KX, r, q, k, x⟩ => by
  rcases q with ⟨d, e1, q⟩ | ⟨ds, e1 | e1, q⟩
  · obtain ⟨v, e2, rp⟩ := r.sl _ _ e1
    exact ⟨v, getD_some e2, k d q F H v (Grow.refl r.g.fh) (.inl rp)⟩
  · obtain ⟨p, vs, e2, _, e3, rp⟩ := r.sl _ _ e1
    exact ⟨_, getD_some e2, k _ q F H _ (Grow.refl r.g.fh) (.inr ⟨p, vs, ds, rfl, rfl, SqL.of e3, rp⟩)⟩
  · obtain ⟨p, vs, e2, e3, rp⟩ := r.sl _ _ e1
    exact ⟨_, getD_some e2, k _ q F H _ (Grow.refl r.g.fh) (.inr ⟨p, vs, ds, rfl, rfl, r.g.h.seq e3, rp⟩)⟩
def wTk (i : Nat) : WE := fun E KD _ => (∃ d, E[i]? = some (.fr d) ∧ KD d) ∨ (∃ ds, E[i]? = some (.ow ds) ∧ KD (.list ds))
theorem j_tk {i : Nat} (h : PE X e (tVar i)) : J .tk X W e (wTk i) := pe_imp h fun σ H Q ⟨H0, F0, F, own, E, KD, KX, r, q, k, x⟩ => by
  rcases q with ⟨d, e1, q⟩ | ⟨ds, e1, q⟩
  · obtain ⟨v, e2, rp⟩ := r.sl _ _ e1
    exact ⟨v, getD_some e2, k d q F H v (Grow.refl r.g.fh) (.inl rp)⟩
  · obtain ⟨p, vs, e2, _, e3, rp⟩ := r.sl _ _ e1
    exact ⟨_, getD_some e2, k _ q F H _ (Grow.refl r.g.fh) (.inr ⟨p, vs, ds, rfl, rfl, e3, rp⟩)⟩
/-- constants -/
def wC (d : D) : WE := fun _ KD _ => KD d
theorem j_c {v : V} {d : D} (h : PE X e (tC v)) (r : ∀ K F, Rp K F v d) : J .fz X W e (wC d) := pe_imp h fun σ H Q ⟨H0, F0, F, own, E, KD, KX, r', q, k, x⟩ =>
  k d q F H v (Grow.refl r'.g.fh) (r _ _)
theorem j_int {i : Int} {j pos} : J .fz X W (.Constant (.int i) j pos) (wC (.int i)) := j_c pe_int fun _ _ => .int i
theorem j_bl {b : Bool} {j pos} : J .fz X W (.Constant (.bool b) j pos) (wC (.bool b)) := j_c pe_bl fun _ _ => .bl b
theorem j_non {j pos} : J .fz X W (.Constant .none j pos) (wC .none) := j_c pe_non fun _ _ => .non
theorem j_str {x : Str} {j pos} : J .fz X W (.Constant (.str x) j pos) (wC (.str x)) := j_c pe_str fun _ _ => .str x

/-- two parts -/
def wBin (wa wb : WE) (r : D → D → (D → Prop) → Prop) : WE := fun E KD KX => wa E (fun x => wb E (fun y => r x y KD) KX) KX
theorem two {ma mb : Mo} (hma : ma ≠ .nw) {σ : St} {H : Hp} {H0 F0 F : Hp} {own : Own} {E : List Sl} {K : Frag} {K2 : D → D → Prop} {KX : Str → Prop} {R : V → V → Hp → Prop}
    (r : Rel K H0 F0 F own E σ H) (q : wa E (fun x => wb E (fun y => K2 x y) KX) KX)
    (k : ∀ x y, K2 x y → ∀ F' H' v u, Grow F H F' H' → Res K H F' H' ma v x → Res K H F' H' mb u y → R v u H') (x : ∀ c, KX c → ∀ F' H', Grow F H F' H' → W (.ref (cA K c)) none σ H') :
    tJ ma K W wa σ H fun v H1 => tJ mb K W wb σ H1 fun u H2 => R v u H2 :=
  ⟨H0, F0, F, own, E, _, KX, r, q, fun d hd F1 H1 v g1 r1 => ⟨H0, F0, F1, own, E, _, KX, r.grow g1, hd, fun d2 hd2 F2 H2 u g2 r2 => k d d2 hd2 F2 H2 v u (g1.trans g2) ((r1.keep g2 hma).old (g1.trans g2).h) (r2.old g1.h),
    fun c hc F2 H2 g2 => x c hc F2 H2 (g1.trans g2)⟩, x⟩
end
end Tb

set_option Elab.async false
set_option linter.all false
set_option maxRecDepth 100000
namespace Tb
open PySem PySem.Spec L2

/-! ### two-place operations -/
def OpD (ma mb m : Mo) (K : Frag) (r : R2) (r' : D → D → (D → Prop) → Prop) : Prop :=
  ∀ (x y : D) (KD : D → Prop) (v u : V) (H0 F H : Hp) (Q : VK), r' x y KD → Same F H → Res K H0 F H ma v x → Res K H0 F H mb u y →
    (∀ d, KD d → ∀ F' H' z, Grow F H F' H' → Res K H F' H' m z d → Q z H') → r v u H Q
section
variable {X : Cx} {W : WX} {a b e : Expr} {pos : Pos} {m ma mb : Mo} {wa wb we : WE} {r : R2} {r' : D → D → (D → Prop) → Prop}
theorem two_op (hma : ma ≠ .nw) (od : OpD ma mb m X.K r r') {σ : St} {H : Hp} {Q : VK} (h : tJ m X.K W (wBin wa wb r') σ H Q) :
    tOp r (tJ ma X.K W wa) (tJ mb X.K W wb) σ H Q := by
  obtain ⟨H0, F0, F, own, E, KD, KX, rl, q, k, x⟩ := h
  exact two hma rl q (fun x y k2 F' H' v u g rx ry => od x y KD v u H F' H' Q k2 g.fh rx ry fun d hd F2 H2 z g2 rz => k d hd F2 H2 z (g.trans g2) (rz.old g.h)) x
theorem j_op {op : Operator} (ho : OpR X (binaryOp op) r) (od : OpD ma mb m X.K r r') (ha : J ma X W a wa) (hb : J mb X W b wb) (hma : ma ≠ .nw := by decide) :
    J m X W (.BinOp a op b pos) (wBin wa wb r') := pe_imp (pe_op ho ha hb) fun _ _ _ h => two_op hma od h
theorem j_cmp {op : CmpOp} (ho : OpR X (compareOp op) r) (od : OpD ma mb m X.K r r') (ha : J ma X W a wa) (hb : J mb X W b wb) (hm : behindInMarks op b = false) (hma : ma ≠ .nw := by decide) :
    J m X W (.Compare a [op] [b] pos) (wBin wa wb r') := pe_imp (pe_cmpR ho ha hb hm) fun _ _ _ h => two_op hma od h
theorem j_ix (hi : IxR X r) (od : OpD ma mb m X.K r r') (ha : J ma X W a wa) (hb : J mb X W b wb) (hs : PlainIx b) (hma : ma ≠ .nw := by decide) :
    J m X W (.Subscript a b pos) (wBin wa wb r') := pe_imp (pe_ix hi ha hb hs) fun _ _ _ h => two_op hma od h

/-! ints -/
def rII (C : Int → Int → Prop) (g : Int → Int → Int) : D → D → (D → Prop) → Prop := fun x y KD => ∃ i j, x = .int i ∧ y = .int j ∧ C i j ∧ KD (.int (g i j))
def rIB (g : Int → Int → Bool) : D → D → (D → Prop) → Prop := fun x y KD => ∃ i j, x = .int i ∧ y = .int j ∧ KD (.bool (g i j))
theorem odI {K : Frag} {C : Int → Int → Prop} {g : Int → Int → Int} : OpD .rd .rd .fz K (rI C fun i j => .int (g i j)) (rII C g) := fun x y KD v u H0 F H Q ⟨i, j, e1, e2, c, q⟩ s rx ry k => by
  subst e1 e2
  exact ⟨i, j, rx.int, ry.int, c, k _ q F H _ (Grow.refl s) (Rp.int _)⟩
theorem odI0 {K : Frag} {g : Int → Int → Int} : OpD .rd .rd .fz K (rI0 fun i j => .int (g i j)) (rII (fun _ _ => True) g) := fun x y KD v u H0 F H Q ⟨i, j, e1, e2, c, q⟩ s rx ry k => by
  subst e1 e2
  exact ⟨i, j, rx.int, ry.int, k _ q F H _ (Grow.refl s) (Rp.int _)⟩
theorem odB {K : Frag} {g : Int → Int → Bool} : OpD .rd .rd .fz K (rI0 fun i j => .bl (g i j)) (rIB g) := fun x y KD v u H0 F H Q ⟨i, j, e1, e2, q⟩ s rx ry k => by
  subst e1 e2
  exact ⟨i, j, rx.int, ry.int, k _ q F H _ (Grow.refl s) (.bl _)⟩
/-- * of great factors -/
def CMulB (i j : Int) : Prop := i.natAbs.log2 + j.natAbs.log2 < 100000000
theorem CMulB.ok {i j : Int} (h : CMulB i j) : IntMulOk i j := by
  have b : ∀ x : Int, Builtin.Int.intBits x ≤ x.natAbs.log2 + 1 := fun x => by
    unfold Builtin.Int.intBits
    split <;> omega
  have h1 := b i
  have h2 := b j
  have h3 : i.natAbs.log2 + j.natAbs.log2 < 100000000 := h
  have e : bitsLine = 134217728 := by decide
  unfold IntMulOk
  intro z
  rw [Bool.and_eq_true] at z
  have z2 := z.2
  unfold Builtin.Int.intTooBig at z2
  have z3 := of_decide_eq_true z2
  rw [e] at z3
  omega
theorem op_mulB : OpR X (binaryOp .Mult) (rI CMulB fun i j => .int (i * j)) := opI fun _ _ _ _ _ _ _ hc q => PyProof.Rows.mul_int q hc.ok
theorem op_modP : OpR X (binaryOp .Mod) (rI (fun _ j => 0 < j) fun i j => .int (i % j)) := op_mod
abbrev CTrue : Int → Int → Prop := fun _ _ => True
abbrev CPos : Int → Int → Prop := fun _ j => 0 < j
theorem j_add (ha : J ma X W a wa) (hb : J mb X W b wb) : J .fz X W (.BinOp a .Add b pos) (wBin wa wb (rII CTrue (· + ·))) := j_op op_add odI0 ha.rd hb.rd
theorem j_sub (ha : J ma X W a wa) (hb : J mb X W b wb) : J .fz X W (.BinOp a .Sub b pos) (wBin wa wb (rII CTrue (· - ·))) := j_op op_sub odI0 ha.rd hb.rd
theorem j_mul (ha : J ma X W a wa) (hb : J mb X W b wb) : J .fz X W (.BinOp a .Mult b pos) (wBin wa wb (rII CMulB (· * ·))) := j_op op_mulB odI ha.rd hb.rd
theorem j_mod (ha : J ma X W a wa) (hb : J mb X W b wb) : J .fz X W (.BinOp a .Mod b pos) (wBin wa wb (rII CPos (· % ·))) := j_op op_modP odI ha.rd hb.rd
theorem j_div (ha : J ma X W a wa) (hb : J mb X W b wb) : J .fz X W (.BinOp a .FloorDiv b pos) (wBin wa wb (rII CDivW (· / ·))) := j_op op_fdivW odI ha.rd hb.rd
theorem j_pow (ha : J ma X W a wa) (hb : J mb X W b wb) : J .fz X W (.BinOp a .Pow b pos) (wBin wa wb (rII CPow fun i j => i ^ j.toNat)) := j_op op_pow odI ha.rd hb.rd
theorem j_lt (ha : J ma X W a wa) (hb : J mb X W b wb) : J .fz X W (.Compare a [.Lt] [b] pos) (wBin wa wb (rIB fun i j => decide (i < j))) := j_cmp op_lt odB ha.rd hb.rd (nomark _)
theorem j_le (ha : J ma X W a wa) (hb : J mb X W b wb) : J .fz X W (.Compare a [.LtE] [b] pos) (wBin wa wb (rIB fun i j => decide (i ≤ j))) := j_cmp op_le odB ha.rd hb.rd (nomark _)
theorem j_gt (ha : J ma X W a wa) (hb : J mb X W b wb) : J .fz X W (.Compare a [.Gt] [b] pos) (wBin wa wb (rIB fun i j => decide (j < i))) := j_cmp op_gt odB ha.rd hb.rd (nomark _)
theorem j_ge (ha : J ma X W a wa) (hb : J mb X W b wb) : J .fz X W (.Compare a [.GtE] [b] pos) (wBin wa wb (rIB fun i j => decide (j ≤ i))) := j_cmp op_ge odB ha.rd hb.rd (nomark _)
/-! == and != -/
def rEQ : D → D → (D → Prop) → Prop := fun x y KD => SeqAt.shaped x = true ∧ SeqAt.shaped y = true ∧ KD (.bool (PyData.eqv x y))
def rNE : D → D → (D → Prop) → Prop := fun x y KD => SeqAt.shaped x = true ∧ SeqAt.shaped y = true ∧ KD (.bool (!PyData.eqv x y))
theorem shaped_can {d : D} (h : SeqAt.shaped d = true) : PyData.canLay0 d = true := by
  unfold SeqAt.shaped at h
  rw [Bool.and_eq_true] at h
  exact h.1
theorem odEq {K : Frag} : OpD .rd .rd .fz K (rEqD K) rEQ := fun x y KD v u H0 F H Q ⟨s1, s2, q⟩ s rx ry k =>
  ⟨x, y, rx.dp s (shaped_can s1), ry.dp s (shaped_can s2), s1, s2, k _ q F H _ (Grow.refl s) (.bl _)⟩
theorem odNe {K : Frag} : OpD .rd .rd .fz K (rNeD K) rNE := fun x y KD v u H0 F H Q ⟨s1, s2, q⟩ s rx ry k =>
  ⟨x, y, rx.dp s (shaped_can s1), ry.dp s (shaped_can s2), s1, s2, k _ q F H _ (Grow.refl s) (.bl _)⟩
theorem j_eq (hu : X.A.units + 64 < cLine) (ha : J ma X W a wa) (hb : J mb X W b wb) : J .fz X W (.Compare a [.Eq] [b] pos) (wBin wa wb rEQ) := j_cmp (op_eqD hu) odEq ha.rd hb.rd (nomark _)
theorem j_ne (hu : X.A.units + 64 < cLine) (ha : J ma X W a wa) (hb : J mb X W b wb) : J .fz X W (.Compare a [.NotEq] [b] pos) (wBin wa wb rNE) := j_cmp (op_neD hu) odNe ha.rd hb.rd (nomark _)
/-! in a list of data -/
def rIN : D → D → (D → Prop) → Prop := fun x y KD => ∃ ds, y = .list ds ∧ SeqAt.shaped x = true ∧ SeqAt.shaped y = true ∧ KD (.bool (ds.any fun z => PyData.eqv z x))
def rNI : D → D → (D → Prop) → Prop := fun x y KD => ∃ ds, y = .list ds ∧ SeqAt.shaped x = true ∧ SeqAt.shaped y = true ∧ KD (.bool (!ds.any fun z => PyData.eqv z x))
theorem odIn {K : Frag} : OpD .rd .rd .fz K (rInD K) rIN := fun x y KD v u H0 F H Q ⟨ds, e, s1, s2, q⟩ s rx ry k => by
  subst e
  exact ⟨x, ds, rx.dp s (shaped_can s1), ry.dp s (shaped_can s2), s1, s2, k _ q F H _ (Grow.refl s) (.bl _)⟩
theorem odNotIn {K : Frag} : OpD .rd .rd .fz K (rNotInD K) rNI := fun x y KD v u H0 F H Q ⟨ds, e, s1, s2, q⟩ s rx ry k => by
  subst e
  exact ⟨x, ds, rx.dp s (shaped_can s1), ry.dp s (shaped_can s2), s1, s2, k _ q F H _ (Grow.refl s) (.bl _)⟩
theorem j_in (hu : X.A.units + 65 < cLine) (ha : J ma X W a wa) (hb : J mb X W b wb) (hm : behindInMarks .In b = false := by with_unfolding_all rfl) : J .fz X W (.Compare a [.In] [b] pos) (wBin wa wb rIN) := j_cmp (op_inD hu) odIn ha.rd hb.rd hm
theorem j_notin (hu : X.A.units + 65 < cLine) (ha : J ma X W a wa) (hb : J mb X W b wb) (hm : behindInMarks .NotIn b = false := by with_unfolding_all rfl) : J .fz X W (.Compare a [.NotIn] [b] pos) (wBin wa wb rNI) := j_cmp (op_notInD hu) odNotIn ha.rd hb.rd hm
/-! is None -/
def isNo : D → Bool
  | .none => true
  | _ => false
def wIsN (wa : WE) : WE := fun E KD KX => wa E (fun x => KD (.bool (isNo x))) KX
theorem rp_none {K : Frag} {F : Hp} {v : V} : ∀ {d : D}, Rp K F v d → decide (v = V.non) = isNo d
  | .none, h => by cases h; rfl
  | .bool _, h => by cases h; rfl
  | .int _, h => by cases h; rfl
  | .str _, h => by cases h; rfl
  | .list _, h => by cases h; rfl
  | .tuple _, h => by cases h; rfl
  | .dict _, h => by cases h <;> rfl
theorem res_none {K : Frag} {H F H' : Hp} {v : V} {d : D} (h : Res K H F H' .rd v d) : decide (v = V.non) = isNo d := by
  rcases h with h | ⟨p, vs, ds, rfl, rfl, _⟩
  · exact rp_none h
  · rfl
theorem j_isN {j pos'} (ha : J ma X W a wa) : J .fz X W (.Compare a [.Is] [.Constant .none j pos'] pos) (wIsN wa) := pe_imp (pe_cmp (pc_isN ha.rd)) fun σ H Q ⟨H0, F0, F, own, E, KD, KX, r, q, k, x⟩ =>
  ⟨H0, F0, F, own, E, _, KX, r, q, fun d hd F' H' v g rs => k _ hd F' H' _ g (by rw [res_none rs]; exact .bl _), x⟩
def wNotN (wa : WE) : WE := fun E KD KX => wa E (fun x => KD (.bool (!isNo x))) KX
theorem j_notN {j pos'} (ha : J ma X W a wa) : J .fz X W (.Compare a [.IsNot] [.Constant .none j pos'] pos) (wNotN wa) := pe_imp (pe_cmp (pc_notN ha.rd)) fun σ H Q ⟨H0, F0, F, own, E, KD, KX, r, q, k, x⟩ =>
  ⟨H0, F0, F, own, E, _, KX, r, q, fun d hd F' H' v g rs => k _ hd F' H' _ g (by rw [res_none rs]; exact .bl _), x⟩

/-! ### subscripts -/
theorem atI_map {α β : Type} {xs : List α} {ys : List β} (h : xs.length = ys.length) {i : Int} {y : β} (e : atI ys i = some y) : ∃ j : Nat, atI xs i = xs[j]? ∧ ys[j]? = some y := by
  unfold atI at e ⊢
  rw [h]
  cases q : ixN ys.length i with
  | none => rw [q] at e; cases e
  | some j => rw [q] at e; exact ⟨j, rfl, e⟩
def rIXL : D → D → (D → Prop) → Prop := fun x y KD => ∃ ds i d, x = .list ds ∧ y = .int i ∧ atI ds i = some d ∧ KD d
def rIXT : D → D → (D → Prop) → Prop := fun x y KD => ∃ ds i d, x = .tuple ds ∧ y = .int i ∧ atI ds i = some d ∧ KD d
def rIXS : D → D → (D → Prop) → Prop := fun x y KD => ∃ z i c, x = .str z ∧ y = .int i ∧ z.length ≤ sizeLine ∧ atI z.cps.toList i = some c ∧ KD (.str ⟨#[c]⟩)
theorem odIxL {K : Frag} : OpD .rd .rd .fz K (rIxL K) rIXL := fun x y KD v u H0 F H Q ⟨ds, i, d, e1, e2, e3, q⟩ s rx ry k => by
  subst e1 e2
  obtain ⟨p, vs, rfl, sq, ra⟩ := rx.list s
  obtain ⟨j, h1, h2⟩ := atI_map ra.len e3
  obtain ⟨w, h3, rw'⟩ := ra.get h2
  exact ⟨p, vs, i, w, rfl, ry.int, sq, h1.trans h3, k _ q F H _ (Grow.refl s) rw'⟩
theorem odIxT {K : Frag} : OpD .rd .rd .fz K (rIxT K) rIXT := fun x y KD v u H0 F H Q ⟨ds, i, d, e1, e2, e3, q⟩ s rx ry k => by
  subst e1 e2
  obtain ⟨p, vs, rfl, sq, ra⟩ := rx.tuple s
  obtain ⟨j, h1, h2⟩ := atI_map ra.len e3
  obtain ⟨w, h3, rw'⟩ := ra.get h2
  exact ⟨p, vs, i, w, rfl, ry.int, sq, h1.trans h3, k _ q F H _ (Grow.refl s) rw'⟩
theorem odIxS {K : Frag} : OpD .rd .rd .fz K rIxS rIXS := fun x y KD v u H0 F H Q ⟨z, i, c, e1, e2, e3, e4, q⟩ s rx ry k => by
  subst e1 e2
  exact ⟨z, i, c, rx.str, ry.int, e3, e4, k _ q F H _ (Grow.refl s) (Rp.str _)⟩
theorem odOr {K : Frag} {r1 r2 : R2} {r1' r2' : D → D → (D → Prop) → Prop} (h1 : OpD ma mb m K r1 r1') (h2 : OpD ma mb m K r2 r2') : OpD ma mb m K (fun x y H Q => r1 x y H Q ∨ r2 x y H Q) (fun x y KD => r1' x y KD ∨ r2' x y KD) :=
  fun x y KD v u H0 F H Q q s rx ry k => by
    rcases q with q | q
    · exact .inl (h1 x y KD v u H0 F H Q q s rx ry k)
    · exact .inr (h2 x y KD v u H0 F H Q q s rx ry k)
theorem j_ixL (ha : J ma X W a wa) (hb : J mb X W b wb) (hs : PlainIx b := by exact fun _ _ => rfl) : J .fz X W (.Subscript a b pos) (wBin wa wb rIXL) := j_ix ix_list odIxL ha.rd hb.rd hs
theorem j_ixT (ha : J ma X W a wa) (hb : J mb X W b wb) (hs : PlainIx b := by exact fun _ _ => rfl) : J .fz X W (.Subscript a b pos) (wBin wa wb rIXT) := j_ix ix_tup odIxT ha.rd hb.rd hs
theorem j_ixS (ha : J ma X W a wa) (hb : J mb X W b wb) (hs : PlainIx b := by exact fun _ _ => rfl) : J .fz X W (.Subscript a b pos) (wBin wa wb rIXS) := j_ix ix_str odIxS ha.rd hb.rd hs
def rIX : D → D → (D → Prop) → Prop := fun x y KD => rIXL x y KD ∨ rIXT x y KD
theorem j_ixA (ha : J ma X W a wa) (hb : J mb X W b wb) (hs : PlainIx b := by exact fun _ _ => rfl) : J .fz X W (.Subscript a b pos) (wBin wa wb rIX) := j_ix (ix_list.or ix_tup) (odOr odIxL odIxT) ha.rd hb.rd hs

/-! list + list, list * int -/
def rCAT : D → D → (D → Prop) → Prop := fun x y KD => ∃ xs ys, x = .list xs ∧ y = .list ys ∧ xs.length + ys.length ≤ sizeLine ∧ KD (.list (xs ++ ys))
theorem odCat {K : Frag} : OpD .tk .tk .nw K rCat rCAT := fun x y KD v u H0 F H Q ⟨xs, ys, e1, e2, hl, q⟩ s rx ry k => by
  subst e1 e2
  obtain ⟨p, vs, rfl, sq, ra⟩ := rx.trk s
  obtain ⟨p2, vs2, rfl, sq2, ra2⟩ := ry.trk s
  exact ⟨p, p2, vs, vs2, rfl, rfl, sq, sq2, by rw [ra.len, ra2.len]; exact hl, fun z nz => k _ q F _ _ (Grow.lay s nz) ⟨z, _, _, rfl, rfl, nz, none_of_same s nz, upd_same, ra.append ra2⟩⟩
theorem j_cat (ha : J ma X W a wa) (hb : J mb X W b wb) (h1 : ma ≠ .rd := by decide) (h2 : mb ≠ .rd := by decide) : J .nw X W (.BinOp a .Add b pos) (wBin wa wb rCAT) :=
  j_op op_cat odCat (pe_imp ha fun σ H Q ⟨H0, F0, F, own, E, KD, KX, r, q, k, x⟩ => ⟨H0, F0, F, own, E, KD, KX, r, q, fun d hd F' H' v g rs => k d hd F' H' v g (rs.tk_of h1), x⟩)
    (pe_imp hb fun σ H Q ⟨H0, F0, F, own, E, KD, KX, r, q, k, x⟩ => ⟨H0, F0, F, own, E, KD, KX, r, q, fun d hd F' H' v g rs => k d hd F' H' v g (rs.tk_of h2), x⟩)
theorem RpAll.repL {K : Frag} {F : Hp} {vs : List V} {ds : List D} (h : RpAll K F vs ds) : ∀ n, RpAll K F (List.replicate n vs).flatten (List.replicate n ds).flatten
  | 0 => .nil
  | n + 1 => by
    rw [List.replicate_succ, List.replicate_succ, List.flatten_cons, List.flatten_cons]
    exact h.append (RpAll.repL h n)
def rREP : D → D → (D → Prop) → Prop := fun x y KD => ∃ xs k, x = .list xs ∧ y = .int k ∧ -(2 ^ 63) ≤ k ∧ k < 2 ^ 63 ∧ xs.length * k.toNat ≤ sizeLine ∧ KD (.list (List.replicate k.toNat xs).flatten)
theorem odRep {K : Frag} : OpD .tk .rd .nw K rRep rREP := fun x y KD v u H0 F H Q ⟨xs, n, e1, e2, h1, h2, hl, q⟩ s rx ry k => by
  subst e1 e2
  obtain ⟨p, vs, rfl, sq, ra⟩ := rx.trk s
  exact ⟨p, n, vs, rfl, ry.int, sq, h1, h2, by rw [ra.len]; exact hl, fun z nz => k _ q F _ _ (Grow.lay s nz) ⟨z, _, _, rfl, rfl, nz, none_of_same s nz, upd_same, ra.repL _⟩⟩
theorem j_rep (ha : J ma X W a wa) (hb : J mb X W b wb) (h1 : ma ≠ .rd := by decide) : J .nw X W (.BinOp a .Mult b pos) (wBin wa wb rREP) :=
  j_op op_rep odRep (pe_imp ha fun σ H Q ⟨H0, F0, F, own, E, KD, KX, r, q, k, x⟩ => ⟨H0, F0, F, own, E, KD, KX, r, q, fun d hd F' H' v g rs => k d hd F' H' v g (rs.tk_of h1), x⟩) hb.rd
/-! texts -/
def rADDS : D → D → (D → Prop) → Prop := fun x y KD => ∃ i j, x = .str i ∧ y = .str j ∧ i.length + j.length ≤ sizeLine ∧ KD (.str (i ++ j))
theorem j_addS (ha : J ma X W a wa) (hb : J mb X W b wb) : J .fz X W (.BinOp a .Add b pos) (wBin wa wb rADDS) :=
  j_op op_add_str (fun x y KD v u H0 F H Q ⟨i, j, e1, e2, hl, q⟩ s rx ry k => by
    subst e1 e2
    exact ⟨i, j, rx.str, ry.str, hl, k _ q F H _ (Grow.refl s) (Rp.str _)⟩ : OpD .rd .rd .fz X.K _ rADDS) ha.rd hb.rd
/-- -n -/
def wNeg (wa : WE) : WE := fun E KD KX => wa E (fun x => ∃ i, x = .int i ∧ KD (.int (-i))) KX
theorem j_neg (ha : J ma X W a wa) : J .fz X W (.UnaryOp .USub a pos) (wNeg wa) := pe_imp (pe_un un_neg ha.rd) fun σ H Q ⟨H0, F0, F, own, E, KD, KX, r, q, k, x⟩ =>
  ⟨H0, F0, F, own, E, _, KX, r, q, fun d ⟨i, e, hd⟩ F' H' v g rs => by
    subst e
    exact ⟨i, rs.int, k _ hd F' H' _ g (Rp.int _)⟩, x⟩
end

/-! ### tests -/
abbrev WT := List Sl → (Bool → Prop) → (Str → Prop) → Prop
def tJT (K : Frag) (W : WX) (w : WT) : TT := fun σ H Q => ∃ H0 F0 F own E KB KX, Rel K H0 F0 F own E σ H ∧ w E KB KX ∧
  (∀ b, KB b → ∀ F' H', Grow F H F' H' → Q b H') ∧ (∀ c, KX c → ∀ F' H', Grow F H F' H' → W (.ref (cA K c)) none σ H')
def JT (X : Cx) (W : WX) (e : Expr) (w : WT) : Prop := PT X e (tJT X.K W w)
def JW (X : Cx) (W : WX) (e : Expr) (w : WT) : Prop := PW X e (tJT X.K W w)
def wT (we : WE) : WT := fun E KB KX => we E (fun d => ∃ b, d = .bool b ∧ KB b) KX
section
variable {X : Cx} {W : WX} {a b c e : Expr} {pos : Pos} {m ma mb mc : Mo} {wa wb wc we : WE} {r : R2} {r' : D → D → (D → Prop) → Prop} {ta tb : WT} {rest : List Expr}
theorem tj_test {t : TT} {te : TE} (hk : ∀ σ H Q, (te σ H fun x H1 => ∃ k, x = V.bl k ∧ Q k H1) → t σ H Q) (hj : ∀ σ H Q, tJ m X.K W we σ H Q → te σ H Q) : ∀ σ H Q, tJT X.K W (wT we) σ H Q → t σ H Q :=
  fun σ H Q ⟨H0, F0, F, own, E, KB, KX, r, q, k, x⟩ => hk σ H Q (hj σ H _ ⟨H0, F0, F, own, E, _, KX, r, q, fun d ⟨b, e, hb⟩ F' H' v g rs => by
    subst e
    exact ⟨b, rs.rd_of.bool, k b hb F' H' g⟩, x⟩)
/-- an expression that tells a truth, as a test -/
theorem jt_val (h : J m X W e we) (he : ∀ whole, isTrue e X.env whole = (do let v ← whole; standAt e.pos; holding [v] (truthy v)) := by intro _; rfl) : JT X W e (wT we) :=
  pt_imp (pt_val h he) (tj_test (te := tJ m X.K W we) (fun _ _ _ h => h) fun _ _ _ h => h)
theorem jt_cmp {op : CmpOp} (ho : OpR X (compareOp op) r) (od : OpD ma mb .fz X.K r r') (ha : J ma X W a wa) (hb : J mb X W b wb) (hm : behindInMarks op b = false) (hma : ma ≠ .nw := by decide) :
    JT X W (.Compare a [op] [b] pos) (wT (wBin wa wb r')) :=
  pt_imp (pt_cmpR ho ha hb hm) (tj_test (te := tOp r (tJ ma X.K W wa) (tJ mb X.K W wb)) (fun _ _ _ h => h) fun _ _ _ h => two_op hma od h)
theorem jt_lt (ha : J ma X W a wa) (hb : J mb X W b wb) : JT X W (.Compare a [.Lt] [b] pos) (wT (wBin wa wb (rIB fun i j => decide (i < j)))) := jt_cmp op_lt odB ha.rd hb.rd (nomark _)
theorem jt_le (ha : J ma X W a wa) (hb : J mb X W b wb) : JT X W (.Compare a [.LtE] [b] pos) (wT (wBin wa wb (rIB fun i j => decide (i ≤ j)))) := jt_cmp op_le odB ha.rd hb.rd (nomark _)
theorem jt_gt (ha : J ma X W a wa) (hb : J mb X W b wb) : JT X W (.Compare a [.Gt] [b] pos) (wT (wBin wa wb (rIB fun i j => decide (j < i)))) := jt_cmp op_gt odB ha.rd hb.rd (nomark _)
theorem jt_ge (ha : J ma X W a wa) (hb : J mb X W b wb) : JT X W (.Compare a [.GtE] [b] pos) (wT (wBin wa wb (rIB fun i j => decide (j ≤ i)))) := jt_cmp op_ge odB ha.rd hb.rd (nomark _)
theorem jt_eq (hu : X.A.units + 64 < cLine) (ha : J ma X W a wa) (hb : J mb X W b wb) : JT X W (.Compare a [.Eq] [b] pos) (wT (wBin wa wb rEQ)) := jt_cmp (op_eqD hu) odEq ha.rd hb.rd (nomark _)
theorem jt_ne (hu : X.A.units + 64 < cLine) (ha : J ma X W a wa) (hb : J mb X W b wb) : JT X W (.Compare a [.NotEq] [b] pos) (wT (wBin wa wb rNE)) := jt_cmp (op_neD hu) odNe ha.rd hb.rd (nomark _)
theorem jt_in (hu : X.A.units + 65 < cLine) (ha : J ma X W a wa) (hb : J mb X W b wb) (hm : behindInMarks .In b = false := by with_unfolding_all rfl) : JT X W (.Compare a [.In] [b] pos) (wT (wBin wa wb rIN)) := jt_cmp (op_inD hu) odIn ha.rd hb.rd hm
theorem jt_notin (hu : X.A.units + 65 < cLine) (ha : J ma X W a wa) (hb : J mb X W b wb) (hm : behindInMarks .NotIn b = false := by with_unfolding_all rfl) : JT X W (.Compare a [.NotIn] [b] pos) (wT (wBin wa wb rNI)) := jt_cmp (op_notInD hu) odNotIn ha.rd hb.rd hm
theorem jt_isN {j pos'} (ha : J ma X W a wa) : JT X W (.Compare a [.Is] [.Constant .none j pos'] pos) (wT (wIsN wa)) :=
  pt_imp (pt_cmp (pc_isN ha.rd)) fun σ H Q ⟨H0, F0, F, own, E, KB, KX, r, q, k, x⟩ => ⟨H0, F0, F, own, E, _, KX, r, q, fun d ⟨b, e, hb⟩ F' H' v g rs => ⟨_, rfl, by
    have e' := PyData.bool.inj e
    rw [res_none rs, e']
    exact k b hb F' H' g⟩, x⟩
theorem jt_notN {j pos'} (ha : J ma X W a wa) : JT X W (.Compare a [.IsNot] [.Constant .none j pos'] pos) (wT (wNotN wa)) :=
  pt_imp (pt_cmp (pc_notN ha.rd)) fun σ H Q ⟨H0, F0, F, own, E, KB, KX, r, q, k, x⟩ => ⟨H0, F0, F, own, E, _, KX, r, q, fun d ⟨b, e, hb⟩ F' H' v g rs => ⟨_, rfl, by
    have e' := PyData.bool.inj e
    rw [res_none rs, e']
    exact k b hb F' H' g⟩, x⟩
/-! chains -/
def wChain (wa wb wc : WE) (r r' : D → D → (D → Prop) → Prop) : WE := fun E KD KX => wa E (fun x => wb E (fun y => r x y fun z => ∃ k, z = .bool k ∧ if k = true then wc E (fun w => r' y w KD) KX else KD (.bool false)) KX) KX
theorem chain_rd {r1 r2 : R2} {r1' r2' : D → D → (D → Prop) → Prop} (od1 : OpD .rd .rd .fz X.K r1 r1') (od2 : OpD .rd .rd .fz X.K r2 r2') {σ : St} {H : Hp} {Q : VK} (h : tJ .fz X.K W (wChain wa wb wc r1' r2') σ H Q) :
    tChain r1 r2 (tJ .rd X.K W wa) (tJ .rd X.K W wb) (tJ .rd X.K W wc) σ H Q := by
  obtain ⟨H0, F0, F, own, E, KD, KX, rl, q, k, x⟩ := h
  refine two (by decide) rl q (fun d1 d2 k2 F' H' v u g rx ry => od1 d1 d2 _ v u H F' H' _ k2 g.fh rx ry fun z ⟨b, ez, hz⟩ F2 H2 zv g2 rz => ?_) x
  subst ez
  refine ⟨b, Res.bool (Res.rd_of rz), ?_⟩
  cases b with
  | false => exact k _ hz F2 H2 _ (g.trans g2) (.bl _)
  | true =>
    refine ⟨H0, F0, F2, own, E, _, KX, (rl.grow g).grow g2, hz, fun d3 hd3 F3 H3 v3 g3 r3 => ?_, fun c hc F3 H3 g3 => x c hc F3 H3 ((g.trans g2).trans g3)⟩
    exact od2 d2 d3 KD u v3 H F3 H3 Q hd3 g3.fh ((ry.keep (g2.trans g3) (by decide)).old ((g.trans g2).trans g3).h) (r3.old (g.trans g2).h) fun d hd F4 H4 z4 g4 r4 => k d hd F4 H4 z4 (((g.trans g2).trans g3).trans g4) (r4.old ((g.trans g2).trans g3).h)
theorem j_chain {op op' : CmpOp} {r1 r2 : R2} {r1' r2' : D → D → (D → Prop) → Prop} (ho : OpR X (compareOp op) r1) (ho' : OpR X (compareOp op') r2) (od1 : OpD .rd .rd .fz X.K r1 r1') (od2 : OpD .rd .rd .fz X.K r2 r2')
    (ha : J ma X W a wa) (hb : J mb X W b wb) (hc : J mc X W c wc) (hm : lastMarks [op, op'] [b, c] = false := by with_unfolding_all rfl) : J .fz X W (.Compare a [op, op'] [b, c] pos) (wChain wa wb wc r1' r2') :=
  pe_imp (pe_chain ho ho' ha.rd hb.rd hc.rd hm) fun _ _ _ h => chain_rd od1 od2 h
theorem jt_chain {op op' : CmpOp} {r1 r2 : R2} {r1' r2' : D → D → (D → Prop) → Prop} (ho : OpR X (compareOp op) r1) (ho' : OpR X (compareOp op') r2) (od1 : OpD .rd .rd .fz X.K r1 r1') (od2 : OpD .rd .rd .fz X.K r2 r2')
    (ha : J ma X W a wa) (hb : J mb X W b wb) (hc : J mc X W c wc) (hm : lastMarks [op, op'] [b, c] = false := by with_unfolding_all rfl) : JT X W (.Compare a [op, op'] [b, c] pos) (wT (wChain wa wb wc r1' r2')) :=
  pt_imp (pt_chain ho ho' ha.rd hb.rd hc.rd hm) (tj_test (m := .fz) (te := tChain r1 r2 (tJ .rd X.K W wa) (tJ .rd X.K W wb) (tJ .rd X.K W wc)) (fun _ _ _ h => h) fun _ _ _ h => chain_rd od1 od2 h)
/-! and, or, not -/
def wAnd (t u : WT) : WT := fun E KB KX => t E (fun b => if b = true then u E KB KX else KB false) KX
def wOr (t u : WT) : WT := fun E KB KX => t E (fun b => if b = true then KB true else u E KB KX) KX
def wNot (t : WT) : WT := fun E KB KX => t E (fun b => KB (!b)) KX
theorem JW.jt (h : JW X W e ta) : JT X W e ta := PW.pt h
theorem pw_imp {t t' : TT} (h : PW X e t) (i : ∀ σ H Q, t' σ H Q → t σ H Q) : PW X e t' := ⟨fun w pins s σ H Q I q => h.run w pins s σ H Q I (i _ _ _ q)⟩
theorem jw_and (ha : JT X W a ta) (hb : JW X W (.BoolOp .And (b :: rest) pos) tb) : JW X W (.BoolOp .And (a :: b :: rest) pos) (wAnd ta tb) := pw_imp (pw_and ha hb) fun σ H Q ⟨H0, F0, F, own, E, KB, KX, r, q, k, x⟩ =>
  ⟨H0, F0, F, own, E, _, KX, r, q, fun b hb F' H' g => by
    cases b with
    | true => exact iteT ⟨H0, F0, F', own, E, KB, KX, r.grow g, hb, fun b hb F2 H2 g2 => k b hb F2 H2 (g.trans g2), fun c hc F2 H2 g2 => x c hc F2 H2 (g.trans g2)⟩
    | false => exact iteF (k false hb F' H' g), x⟩
theorem jw_or (ha : JT X W a ta) (hb : JW X W (.BoolOp .Or (b :: rest) pos) tb) : JW X W (.BoolOp .Or (a :: b :: rest) pos) (wOr ta tb) := pw_imp (pw_or ha hb) fun σ H Q ⟨H0, F0, F, own, E, KB, KX, r, q, k, x⟩ =>
  ⟨H0, F0, F, own, E, _, KX, r, q, fun b hb F' H' g => by
    cases b with
    | true => exact iteT (k true hb F' H' g)
    | false => exact iteF ⟨H0, F0, F', own, E, KB, KX, r.grow g, hb, fun b hb F2 H2 g2 => k b hb F2 H2 (g.trans g2), fun c hc F2 H2 g2 => x c hc F2 H2 (g.trans g2)⟩, x⟩
theorem jw_and1 (ha : JT X W a ta) : JW X W (.BoolOp .And [a] pos) ta := pw_and1 ha
theorem jw_or1 (ha : JT X W a ta) : JW X W (.BoolOp .Or [a] pos) ta := pw_or1 ha
theorem jt_not (ha : JT X W a ta) : JT X W (.UnaryOp .Not a pos) (wNot ta) := pt_imp (pt_not ha) fun σ H Q ⟨H0, F0, F, own, E, KB, KX, r, q, k, x⟩ =>
  ⟨H0, F0, F, own, E, _, KX, r, q, fun b hb F' H' g => k _ hb F' H' g, x⟩
/-! the same as values -/
def wAndV (wa wb : WE) : WE := fun E KD KX => wa E (fun x => ∃ c, x = .bool c ∧ if c = true then wb E KD KX else KD (.bool false)) KX
def wOrV (wa wb : WE) : WE := fun E KD KX => wa E (fun x => ∃ c, x = .bool c ∧ if c = true then KD (.bool true) else wb E KD KX) KX
def wNotV (wa : WE) : WE := fun E KD KX => wa E (fun x => ∃ c, x = .bool c ∧ KD (.bool (!c))) KX
theorem j_one {op} (h : J m X W a wa) : J m X W (.BoolOp op [a] pos) wa := pe_one h
theorem j_and (ha : J .fz X W a wa) (hb : J .fz X W (.BoolOp .And (b :: rest) pos) wb) : J .fz X W (.BoolOp .And (a :: b :: rest) pos) (wAndV wa wb) := pe_imp (pe_and ha hb) fun σ H Q ⟨H0, F0, F, own, E, KD, KX, r, q, k, x⟩ =>
  ⟨H0, F0, F, own, E, _, KX, r, q, fun d ⟨c, e, hd⟩ F' H' v g rs => by
    subst e
    refine ⟨c, Res.bool (Res.rd_of rs), ?_⟩
    cases c with
    | true => exact iteT ⟨H0, F0, F', own, E, KD, KX, r.grow g, hd, fun d hd F2 H2 v g2 rs => k d hd F2 H2 v (g.trans g2) rs, fun c hc F2 H2 g2 => x c hc F2 H2 (g.trans g2)⟩
    | false => exact iteF (k _ hd F' H' _ g (.bl _)), x⟩
theorem j_or (ha : J .fz X W a wa) (hb : J .fz X W (.BoolOp .Or (b :: rest) pos) wb) : J .fz X W (.BoolOp .Or (a :: b :: rest) pos) (wOrV wa wb) := pe_imp (pe_or ha hb) fun σ H Q ⟨H0, F0, F, own, E, KD, KX, r, q, k, x⟩ =>
  ⟨H0, F0, F, own, E, _, KX, r, q, fun d ⟨c, e, hd⟩ F' H' v g rs => by
    subst e
    refine ⟨c, Res.bool (Res.rd_of rs), ?_⟩
    cases c with
    | true => exact iteT (k _ hd F' H' _ g (.bl _))
    | false => exact iteF ⟨H0, F0, F', own, E, KD, KX, r.grow g, hd, fun d hd F2 H2 v g2 rs => k d hd F2 H2 v (g.trans g2) rs, fun c hc F2 H2 g2 => x c hc F2 H2 (g.trans g2)⟩, x⟩
theorem j_not (ha : J m X W a wa) : J .fz X W (.UnaryOp .Not a pos) (wNotV wa) := pe_imp (pe_not ha) fun σ H Q ⟨H0, F0, F, own, E, KD, KX, r, q, k, x⟩ =>
  ⟨H0, F0, F, own, E, _, KX, r, q, fun d ⟨c, e, hd⟩ F' H' v g rs => by
    subst e
    exact ⟨c, rs.rd_of.bool, k _ hd F' H' _ g (.bl _)⟩, x⟩
/-- a if t else b -/
def wIf (t : WT) (wa wb : WE) : WE := fun E KD KX => t E (fun b => if b = true then wa E KD KX else wb E KD KX) KX
theorem j_if (ht : JT X W c ta) (ha : J m X W a wa) (hb : J m X W b wb) : J m X W (.IfExp c a b pos) (wIf ta wa wb) := pe_imp (pe_ifExp ht ha hb) fun σ H Q ⟨H0, F0, F, own, E, KD, KX, r, q, k, x⟩ =>
  ⟨H0, F0, F, own, E, _, KX, r, q, fun b hb F' H' g => by
    cases b with
    | true => exact iteT ⟨H0, F0, F', own, E, KD, KX, r.grow g, hb, fun d hd F2 H2 v g2 rs => k d hd F2 H2 v (g.trans g2) (rs.old g.h), fun c hc F2 H2 g2 => x c hc F2 H2 (g.trans g2)⟩
    | false => exact iteF ⟨H0, F0, F', own, E, KD, KX, r.grow g, hb, fun d hd F2 H2 v g2 rs => k d hd F2 H2 v (g.trans g2) (rs.old g.h), fun c hc F2 H2 g2 => x c hc F2 H2 (g.trans g2)⟩, x⟩
end
end Tb

set_option Elab.async false
set_option linter.all false
set_option maxRecDepth 100000
namespace Tb
open PySem PySem.Spec L2

/-! ### argument lists -/
abbrev WA := List Sl → (List D → Prop) → (Str → Prop) → Prop
inductive ResAll (K : Frag) (H F' H' : Hp) : List Mo → List V → List D → Prop
  | nil : ResAll K H F' H' [] [] []
  | cons {m ms v vs d ds} : Res K H F' H' m v d → ResAll K H F' H' ms vs ds → ResAll K H F' H' (m :: ms) (v :: vs) (d :: ds)
section
variable {K : Frag} {H H0 F F' F'' H' H'' : Hp}
theorem ResAll.keep (g : Grow F' H' F'' H'') : ∀ {ms : List Mo} {vs : List V} {ds : List D}, (∀ m ∈ ms, m ≠ .nw) → ResAll K H F' H' ms vs ds → ResAll K H'' F'' H'' ms vs ds
  | _, _, _, _, .nil => .nil
  | _, _, _, hm, .cons r t => .cons (r.keep g (hm _ List.mem_cons_self)) (ResAll.keep g (fun m z => hm m (List.mem_cons_of_mem _ z)) t)
theorem ResAll.old (s : Same H0 H) : ∀ {ms : List Mo} {vs : List V} {ds : List D}, ResAll K H F' H' ms vs ds → ResAll K H0 F' H' ms vs ds
  | _, _, _, .nil => .nil
  | _, _, _, .cons r t => .cons (r.old s) (ResAll.old s t)
end
def tJA (ms : List Mo) (K : Frag) (W : WX) (w : WA) : TA := fun σ H Q => ∃ H0 F0 F own E KD KX, Rel K H0 F0 F own E σ H ∧ w E KD KX ∧
  (∀ ds, KD ds → ∀ F' H' vs, Grow F H F' H' → ResAll K H F' H' ms vs ds → Q vs H') ∧ (∀ c, KX c → ∀ F' H', Grow F H F' H' → W (.ref (cA K c)) none σ H')
def JA (ms : List Mo) (X : Cx) (W : WX) (es : List Expr) (w : WA) : Prop := PA X es (tJA ms X.K W w) ∧ ∀ m ∈ ms, m ≠ .nw
theorem pa_imp {X : Cx} {es : List Expr} {t t' : TA} (h : PA X es t) (i : ∀ σ H Q, t' σ H Q → t σ H Q) : PA X es t' := ⟨fun pos pins s σ H Q I q => h.run pos pins s σ H Q I (i _ _ _ q)⟩
def wA0 : WA := fun _ KD _ => KD []
def wA (we : WE) (ws : WA) : WA := fun E KD KX => we E (fun d => ws E (fun ds => KD (d :: ds)) KX) KX
section
variable {X : Cx} {W : WX} {e e2 e3 : Expr} {es : List Expr} {pos p p2 : Pos} {m m2 m3 : Mo} {ms : List Mo} {we we2 we3 : WE} {ws : WA}
theorem ja_nil : JA [] X W [] wA0 := ⟨pa_imp pa_nil fun σ H Q ⟨H0, F0, F, own, E, KD, KX, r, q, k, x⟩ => k [] q F H [] (Grow.refl r.g.fh) .nil, fun _ z => nomatch z⟩
theorem ja_cons (he : J m X W e we) (hs : JA ms X W es ws) (hm : m ≠ .nw := by decide) (hst : starEach (e :: es) X.env = (false, eval e X.env) :: starEach es X.env := by rfl) : JA (m :: ms) X W (e :: es) (wA we ws) :=
  ⟨pa_imp (pa_cons he hs.1 hst) fun σ H Q ⟨H0, F0, F, own, E, KD, KX, r, q, k, x⟩ => ⟨H0, F0, F, own, E, _, KX, r, q, fun d hd F1 H1 v g1 r1 => ⟨H0, F0, F1, own, E, _, KX, r.grow g1, hd, fun ds hds F2 H2 vs g2 r2 =>
    k _ hds F2 H2 _ (g1.trans g2) (.cons ((r1.keep g2 hm).old (g1.trans g2).h) (r2.old g1.h)), fun c hc F2 H2 g2 => x c hc F2 H2 (g1.trans g2)⟩, x⟩, fun m' z => by
    rcases List.mem_cons.mp z with rfl | z
    · exact hm
    · exact hs.2 m' z⟩

/-! ### displays -/
theorem resAll_fz {K : Frag} {H F' H' : Hp} : ∀ {ms : List Mo} {vs : List V} {ds : List D}, (∀ m ∈ ms, m = .fz) → ResAll K H F' H' ms vs ds → RpAll K F' vs ds
  | _, _, _, _, .nil => .nil
  | _, _, _, hm, .cons r t => by
    have e := hm _ List.mem_cons_self
    subst e
    exact .cons r (resAll_fz (fun m z => hm m (List.mem_cons_of_mem _ z)) t)
def wLst (ws : WA) : WE := fun E KD KX => ws E (fun ds => ds.length ≤ sizeLine ∧ KD (.list ds)) KX
def wTup (ws : WA) : WE := fun E KD KX => ws E (fun ds => ds.length ≤ sizeLine ∧ KD (.tuple ds)) KX
theorem j_lst (hs : JA ms X W es ws) (hm : ∀ m ∈ ms, m = .fz := by decide) : J .nw X W (.List es pos) (wLst ws) := pe_imp (pe_lst hs.1) fun σ H Q ⟨H0, F0, F, own, E, KD, KX, r, q, k, x⟩ =>
  ⟨H0, F0, F, own, E, _, KX, r, q, fun ds ⟨hl, hd⟩ F' H' vs g rs => by
    have ra := resAll_fz hm rs
    refine ⟨by rw [ra.len]; exact hl, fun z nz => k _ hd F' _ _ (g.trans (Grow.lay g.fh nz)) ⟨z, _, _, rfl, rfl, none_of_same g.h nz, none_of_same g.fh nz, upd_same, ra⟩⟩, x⟩
theorem j_tup {x1} (hs : JA ms X W es ws) (hm : ∀ m ∈ ms, m = .fz := by decide) : J .fz X W (.Tuple es x1 pos) (wTup ws) := pe_imp (pe_tup hs.1) fun σ H Q ⟨H0, F0, F, own, E, KD, KX, r, q, k, x⟩ =>
  ⟨H0, F0, F, own, E, _, KX, r, q, fun ds ⟨hl, hd⟩ F' H' vs g rs => by
    have ra := resAll_fz hm rs
    refine ⟨by rw [ra.len]; exact hl, fun z nz => k _ hd (upd F' z (.tup vs)) _ _ (g.trans (Grow.layF g.fh nz)) (.tup (SqT.of upd_same) (RpAll.mono (same_upd (none_of_same g.fh nz)) _ _ ra))⟩, x⟩

/-! ### built-ins by name -/
def CbD (ms : List Mo) (m : Mo) (K : Frag) (r : List V → Hp → VK → Prop) (r' : List D → (D → Prop) → Prop) : Prop :=
  ∀ (ds : List D) (KD : D → Prop) (vs : List V) (H0 F H : Hp) (Q : VK), r' ds KD → Same F H → ResAll K H0 F H ms vs ds →
    (∀ d, KD d → ∀ F' H' z, Grow F H F' H' → Res K H F' H' m z d → Q z H') → r vs H Q
def wCall (ws : WA) (r' : List D → (D → Prop) → Prop) : WE := fun E KD KX => ws E (fun ds => r' ds KD) KX
theorem cb_rd {r : List V → Hp → VK → Prop} {r' : List D → (D → Prop) → Prop} (cb : CbD ms m X.K r r') {σ : St} {H : Hp} {Q : VK} (h : tJ m X.K W (wCall ws r') σ H Q) : tCB r (tJA ms X.K W ws) σ H Q := by
  obtain ⟨H0, F0, F, own, E, KD, KX, rl, q, k, x⟩ := h
  exact ⟨H0, F0, F, own, E, _, KX, rl, q, fun ds hd F' H' vs g rs => cb ds KD vs H F' H' Q hd g.fh rs fun d hd F2 H2 z g2 rz => k d hd F2 H2 z (g.trans g2) (rz.old g.h), x⟩
theorem j_blt {x id : String} {x' : Str} {r : List V → Hp → VK → Prop} {r' : List D → (D → Prop) → Prop} (hc : CallR X (.builtin id) r) (cb : CbD ms m X.K r r') (hg : Gl X x') (hm : X.mg x' = none) (hv : bootBuiltins x' = some (.builtin id)) (ha : JA ms X W (e :: es) ws)
    (hn : x' ≠ "__name__" := by decide) (hdb : (x' == ("__debug__" : Str)) = false := by decide)
    (he : starEach (e :: es) X.env = (false, eval e X.env) :: starEach es X.env := by rfl) (hpl : (backTo pos (starEach es X.env)).any (·.1) = false := by rfl) : J m X W (.Call (.Name x' p) (e :: es) [] pos) (wCall ws r') :=
  pe_imp (pe_callB hc hg hm hv ha.1 hn hdb he hpl) fun _ _ _ h => cb_rd cb h
theorem j_bty {T : String} {x' : Str} {r : List V → Hp → VK → Prop} {r' : List D → (D → Prop) → Prop} (hc : CallR X (.type T) r) (cb : CbD ms m X.K r r') (hg : Gl X x') (hm : X.mg x' = none) (hv : bootBuiltins x' = some (.type T)) (ha : JA ms X W (e :: es) ws)
    (hn : x' ≠ "__name__" := by decide) (hdb : (x' == ("__debug__" : Str)) = false := by decide)
    (he : starEach (e :: es) X.env = (false, eval e X.env) :: starEach es X.env := by rfl) (hpl : (backTo pos (starEach es X.env)).any (·.1) = false := by rfl) : J m X W (.Call (.Name x' p) (e :: es) [] pos) (wCall ws r') :=
  pe_imp (pe_callTy hc hg hm hv ha.1 hn hdb he hpl) fun _ _ _ h => cb_rd cb h
theorem ra1 {K : Frag} {H F H' : Hp} {m : Mo} {vs : List V} {d : D} (r : ResAll K H F H' [m] vs [d]) : ∃ v, vs = [v] ∧ Res K H F H' m v d := by
  cases r with
  | cons r t => cases t; exact ⟨_, rfl, r⟩
theorem ra2 {K : Frag} {H F H' : Hp} {m m2 : Mo} {vs : List V} {d d2 : D} (r : ResAll K H F H' [m, m2] vs [d, d2]) : ∃ v v2, vs = [v, v2] ∧ Res K H F H' m v d ∧ Res K H F H' m2 v2 d2 := by
  cases r with
  | cons r t => cases t with | cons r2 t => cases t; exact ⟨_, _, rfl, r, r2⟩
/-- len -/
def lenD : D → Option Nat
  | .list ds => some ds.length
  | .tuple ds => some ds.length
  | .str z => if z.length ≤ sizeLine then some z.length else none
  | _ => none
def rLEN : List D → (D → Prop) → Prop := fun ds KD => ∃ d n, ds = [d] ∧ lenD d = some n ∧ KD (.int n)
theorem cb_len {K : Frag} : CbD [.rd] .fz K (fun xs H Q => (∃ p ys, xs = [.ref p] ∧ (SqL K H p ys ∨ SqT K H p ys) ∧ Q (.int ys.length) H) ∨ ∃ z, xs = [.str z] ∧ z.length ≤ sizeLine ∧ Q (.int z.length) H) rLEN := fun ds KD vs H0 F H Q ⟨d, n, e, hl, q⟩ s ra k => by
  subst e
  obtain ⟨v, rfl, r⟩ := ra1 ra
  cases d with
  | list es =>
    obtain ⟨p, ws, rfl, sq, rr⟩ := r.list s
    cases hl
    exact .inl ⟨p, ws, rfl, .inl sq, by rw [rr.len]; exact k _ q F H _ (Grow.refl s) (Rp.int _)⟩
  | tuple es =>
    obtain ⟨p, ws, rfl, sq, rr⟩ := r.tuple s
    cases hl
    exact .inl ⟨p, ws, rfl, .inr sq, by rw [rr.len]; exact k _ q F H _ (Grow.refl s) (Rp.int _)⟩
  | str z =>
    have ev := r.str
    subst ev
    simp only [lenD] at hl
    by_cases hz : z.length ≤ sizeLine
    · rw [if_pos hz] at hl
      cases hl
      exact .inr ⟨z, rfl, hz, k _ q F H _ (Grow.refl s) (Rp.int _)⟩
    · rw [if_neg hz] at hl; cases hl
  | _ => cases hl
theorem CallR.or {f : Value} {r r' : List V → Hp → VK → Prop} (h : CallR X f r) (h' : CallR X f r') : CallR X f (fun xs H Q => r xs H Q ∨ r' xs H Q) := by
  intro pins s σ H xs us Q I rr q
  rcases q with q | q
  · exact h pins s σ H xs us Q I rr q
  · exact h' pins s σ H xs us Q I rr q
theorem j_len (hm : X.mg "len" = none) (h : J m X W e we) (hg : Gl X "len" := by rfl) (hst : starEach [e] X.env = (false, eval e X.env) :: starEach [] X.env := by rfl) : J .fz X W (.Call (.Name "len" p) [e] [] pos) (wCall (wA we wA0) rLEN) :=
  j_blt (x := "len") (CallR.or call_len_seq call_len_str) cb_len hg hm PySem.boot_len (ja_cons h.rd ja_nil (by decide) hst) (he := hst)
/-- tuple(x), list(x) -/
def rTUP : List D → (D → Prop) → Prop := fun ds KD => (∃ es, ds = [.list es] ∧ KD (.tuple es)) ∨ ∃ es, ds = [.tuple es] ∧ KD (.tuple es)
theorem cb_tup {K : Frag} : CbD [.rd] .fz K (fun xs H Q => ∃ p ys, xs = [.ref p] ∧ ((SqL K H p ys ∧ ∀ l, H l = none → Q (.ref l) (upd H l (.tup ys))) ∨ (SqT K H p ys ∧ Q (.ref p) H))) rTUP := fun ds KD vs H0 F H Q q s ra k => by
  rcases q with ⟨es, e, q⟩ | ⟨es, e, q⟩
  · subst e
    obtain ⟨v, rfl, r⟩ := ra1 ra
    obtain ⟨p, ws, rfl, sq, rr⟩ := r.list s
    exact ⟨p, ws, rfl, .inl ⟨sq, fun l nl => k _ q (upd F l (.tup ws)) _ _ (Grow.layF s nl) (.tup (SqT.of upd_same) (RpAll.mono (same_upd (none_of_same s nl)) _ _ rr))⟩⟩
  · subst e
    obtain ⟨v, rfl, r⟩ := ra1 ra
    have rp : Rp K F v (.tuple es) := Res.scal (e := .none) (fun _ z => nomatch z) r
    cases rp with
    | tup h1 h2 => exact ⟨_, _, rfl, .inr ⟨seqT_mono s h1, k _ q F H _ (Grow.refl s) (.tup h1 h2)⟩⟩
theorem j_tuple (hm : X.mg "tuple" = none) (h : J m X W e we) (hg : Gl X "tuple" := by rfl) (hst : starEach [e] X.env = (false, eval e X.env) :: starEach [] X.env := by rfl) : J .fz X W (.Call (.Name "tuple" p) [e] [] pos) (wCall (wA we wA0) rTUP) :=
  j_bty call_tuple_of cb_tup hg hm PyProof.Rows.boot_tuple (ja_cons h.rd ja_nil (by decide) hst) (he := hst)
def rLIST : List D → (D → Prop) → Prop := fun ds KD => (∃ es, ds = [.list es] ∧ KD (.list es)) ∨ ∃ es, ds = [.tuple es] ∧ KD (.list es)
theorem cb_list {K : Frag} : CbD [.rd] .nw K (fun xs H Q => ∃ p ys, xs = [.ref p] ∧ (SqL K H p ys ∨ SqT K H p ys) ∧ ∀ l, H l = none → Q (.ref l) (upd H l (.lst ys))) rLIST := fun ds KD vs H0 F H Q q s ra k => by
  rcases q with ⟨es, e, q⟩ | ⟨es, e, q⟩
  · subst e
    obtain ⟨v, rfl, r⟩ := ra1 ra
    obtain ⟨p, ws, rfl, sq, rr⟩ := r.list s
    exact ⟨p, ws, rfl, .inl sq, fun l nl => k _ q F _ _ (Grow.lay s nl) ⟨l, _, _, rfl, rfl, nl, none_of_same s nl, upd_same, rr⟩⟩
  · subst e
    obtain ⟨v, rfl, r⟩ := ra1 ra
    obtain ⟨p, ws, rfl, sq, rr⟩ := r.tuple s
    exact ⟨p, ws, rfl, .inr sq, fun l nl => k _ q F _ _ (Grow.lay s nl) ⟨l, _, _, rfl, rfl, nl, none_of_same s nl, upd_same, rr⟩⟩
theorem j_list (hm : X.mg "list" = none) (h : J m X W e we) (hg : Gl X "list" := by rfl) (hst : starEach [e] X.env = (false, eval e X.env) :: starEach [] X.env := by rfl) : J .nw X W (.Call (.Name "list" p) [e] [] pos) (wCall (wA we wA0) rLIST) :=
  j_bty call_list_of cb_list hg hm PyProof.Rows.boot_list (ja_cons h.rd ja_nil (by decide) hst) (he := hst)
/-- list(range(..)), tuple(range(..)) -/
def rangeD (lo : Int) (n : Nat) : List D := (List.range n).map fun i => PyData.int (lo + (i : Nat))
theorem rpAll_map {K : Frag} {F : Hp} {α : Type} {f : α → V} {g : α → D} (h : ∀ a, Rp K F (f a) (g a)) : ∀ l : List α, RpAll K F (l.map f) (l.map g)
  | [] => .nil
  | a :: r => .cons (h a) (rpAll_map h r)
theorem rp_rg {K : Frag} {F : Hp} (a b : Int) : RpAll K F (rgV a b) (rangeD a (b - a).toNat) := rpAll_map (fun i => .int _) _
def wRg1 (we : WE) (k : List D → D) : WE := fun E KD KX => we E (fun d => ∃ n, d = .int n ∧ RgOk 0 n ∧ KD (k (rangeD 0 n.toNat))) KX
def wRg2 (we we2 : WE) (k : List D → D) : WE := fun E KD KX => we E (fun d => we2 E (fun d2 => ∃ a b, d = .int a ∧ d2 = .int b ∧ RgOk a b ∧ KD (k (rangeD a (b - a).toNat))) KX) KX
theorem rg1_rd {R : Int → Int → Hp → Prop} {σ : St} {H : Hp} {H0 F0 F : Hp} {own : Own} {E : List Sl} {K : Frag} {KD : D → Prop} {KX : Str → Prop} {kk : List D → D} (r : Rel K H0 F0 F own E σ H) (q : wRg1 we kk E KD KX)
    (k : ∀ a b : Int, RgOk a b → KD (kk (rangeD a (b - a).toNat)) → ∀ F' H', Grow F H F' H' → R a b H') (x : ∀ c, KX c → ∀ F' H', Grow F H F' H' → W (.ref (cA K c)) none σ H') : tRg1 (tJ .rd K W we) σ H R :=
  ⟨H0, F0, F, own, E, _, KX, r, q, fun d ⟨n, e, ok, hd⟩ F' H' v g rs => by
    subst e
    exact ⟨n, rs.int, k 0 n ok (by rw [Int.sub_zero]; exact hd) F' H' g⟩, x⟩
theorem j_listRg1 {p2 pos2 : Pos} (hc : X.calm = true) (hl : X.mg "list" = none) (hr : X.mg "range" = none) (h : J m X W e we) (hgl : Gl X "list" := by rfl) (hgr : Gl X "range" := by rfl) (hst : starEach [e] X.env = (false, eval e X.env) :: starEach [] X.env := by rfl)
    (hst2 : starEach [(Expr.Call (.Name "range" p2) [e] [] pos2)] X.env = (false, eval (Expr.Call (.Name "range" p2) [e] [] pos2) X.env) :: starEach [] X.env := by rfl) :
    J .nw X W (.Call (.Name "list" p) [.Call (.Name "range" p2) [e] [] pos2] [] pos) (wRg1 we PyData.list) :=
  pe_imp (pe_listRg hc hgl hl (prg_1 hgr hr h.rd hst) hst2) fun σ H Q ⟨H0, F0, F, own, E, KD, KX, r, q, k, x⟩ => rg1_rd r q (fun a b ok hd F' H' g => ⟨ok, fun z nz => k _ hd F' _ _ (g.trans (Grow.lay g.fh nz)) ⟨z, _, _, rfl, rfl, none_of_same g.h nz, none_of_same g.fh nz, upd_same, rp_rg a b⟩⟩) x
theorem j_tupRg1 {p2 pos2 : Pos} (hc : X.calm = true) (hl : X.mg "tuple" = none) (hr : X.mg "range" = none) (h : J m X W e we) (hgl : Gl X "tuple" := by rfl) (hgr : Gl X "range" := by rfl) (hst : starEach [e] X.env = (false, eval e X.env) :: starEach [] X.env := by rfl)
    (hst2 : starEach [(Expr.Call (.Name "range" p2) [e] [] pos2)] X.env = (false, eval (Expr.Call (.Name "range" p2) [e] [] pos2) X.env) :: starEach [] X.env := by rfl) :
    J .fz X W (.Call (.Name "tuple" p) [.Call (.Name "range" p2) [e] [] pos2] [] pos) (wRg1 we PyData.tuple) :=
  pe_imp (pe_tupRg hc hgl hl (prg_1 hgr hr h.rd hst) hst2) fun σ H Q ⟨H0, F0, F, own, E, KD, KX, r, q, k, x⟩ => rg1_rd r q (fun a b ok hd F' H' g => ⟨ok, fun z nz => k _ hd (upd F' z (.tup (rgV a b))) _ _ (g.trans (Grow.layF g.fh nz)) (.tup (SqT.of upd_same) (rp_rg a b))⟩) x
theorem rg2_rd {R : Int → Int → Hp → Prop} {σ : St} {H : Hp} {H0 F0 F : Hp} {own : Own} {E : List Sl} {K : Frag} {KD : D → Prop} {KX : Str → Prop} {kk : List D → D} (r : Rel K H0 F0 F own E σ H) (q : wRg2 we we2 kk E KD KX)
    (k : ∀ a b : Int, RgOk a b → KD (kk (rangeD a (b - a).toNat)) → ∀ F' H', Grow F H F' H' → R a b H') (x : ∀ c, KX c → ∀ F' H', Grow F H F' H' → W (.ref (cA K c)) none σ H') : tRg2 (tJ .rd K W we) (tJ .rd K W we2) σ H R :=
  two (by decide) r q (fun d1 d2 ⟨a, b, e1, e2, ok, hd⟩ F' H' v u g r1 r2 => by
    subst e1 e2
    exact ⟨a, b, r1.int, r2.int, k a b ok hd F' H' g⟩) x
theorem j_listRg2 {p2 pos2 : Pos} (hc : X.calm = true) (hl : X.mg "list" = none) (hr : X.mg "range" = none) (h : J m X W e we) (h2 : J m2 X W e2 we2) (hgl : Gl X "list" := by rfl) (hgr : Gl X "range" := by rfl) (hst : starEach [e, e2] X.env = (false, eval e X.env) :: starEach [e2] X.env := by rfl)
    (hst2 : starEach [e2] X.env = (false, eval e2 X.env) :: starEach [] X.env := by rfl) (hst3 : starEach [(Expr.Call (.Name "range" p2) [e, e2] [] pos2)] X.env = (false, eval (Expr.Call (.Name "range" p2) [e, e2] [] pos2) X.env) :: starEach [] X.env := by rfl)
    (hpl : (backTo pos2 (starEach [e2] X.env)).any (·.1) = false := by rfl) :
    J .nw X W (.Call (.Name "list" p) [.Call (.Name "range" p2) [e, e2] [] pos2] [] pos) (wRg2 we we2 PyData.list) :=
  pe_imp (pe_listRg hc hgl hl (prg_2 hgr hr h.rd h2.rd hst hst2 hpl) hst3) fun σ H Q ⟨H0, F0, F, own, E, KD, KX, r, q, k, x⟩ => rg2_rd r q (fun a b ok hd F' H' g => ⟨ok, fun z nz => k _ hd F' _ _ (g.trans (Grow.lay g.fh nz)) ⟨z, _, _, rfl, rfl, none_of_same g.h nz, none_of_same g.fh nz, upd_same, rp_rg a b⟩⟩) x
/-- sum of ints -/
def rSUM : List D → (D → Prop) → Prop := fun ds KD => ∃ ns : List Int, ds = [.list (ns.map PyData.int)] ∧ KD (.int ns.sum)
theorem j_sum (hc : X.calm = true) (hm : X.mg "sum" = none) (h : J m X W e we) (hg : Gl X "sum" := by rfl) (hst : starEach [e] X.env = (false, eval e X.env) :: starEach [] X.env := by rfl) : J .fz X W (.Call (.Name "sum" p) [e] [] pos) (wCall (wA we wA0) rSUM) :=
  j_blt (x := "sum") (cr_sum hc) (fun ds KD vs H0 F H Q ⟨ns, e, q⟩ s ra k => by
    subst e
    obtain ⟨v, rfl, r⟩ := ra1 ra
    obtain ⟨p, ws, rfl, sq, rr⟩ := r.list s
    rw [RpAll.ofInts rr] at sq
    exact ⟨p, ns, rfl, sq, k _ q F H _ (Grow.refl s) (Rp.int _)⟩ : CbD [.rd] .fz X.K _ rSUM) hg hm (by decide +kernel) (ja_cons h.rd ja_nil (by decide) hst) (he := hst)
/-- all, any of a list of truths -/
def rALL : List D → (D → Prop) → Prop := fun ds KD => ∃ bs : List Bool, ds = [.list (bs.map PyData.bool)] ∧ KD (.bool (bs.all id))
theorem j_all (hc : X.calm = true) (hm : X.mg "all" = none) (h : J m X W e we) (hg : Gl X "all" := by rfl) (hst : starEach [e] X.env = (false, eval e X.env) :: starEach [] X.env := by rfl) : J .fz X W (.Call (.Name "all" p) [e] [] pos) (wCall (wA we wA0) rALL) :=
  j_blt (x := "all") (cr_all hc) (fun ds KD vs H0 F H Q ⟨ns, e, q⟩ s ra k => by
    subst e
    obtain ⟨v, rfl, r⟩ := ra1 ra
    obtain ⟨p, ws, rfl, sq, rr⟩ := r.list s
    rw [RpAll.ofBools rr] at sq
    exact ⟨p, ns, rfl, sq, k _ q F H _ (Grow.refl s) (.bl _)⟩ : CbD [.rd] .fz X.K _ rALL) hg hm (by decide +kernel) (ja_cons h.rd ja_nil (by decide) hst) (he := hst)

/-! ### isinstance -/
def tyD : D → String
  | .none => "NoneType"
  | .bool _ => "bool"
  | .int _ => "int"
  | .str _ => "str"
  | .list _ => "list"
  | .tuple _ => "tuple"
  | .dict _ => "dict"
/-- what isinstance asks of a value and a class -/
def IsG (K : Frag) (H : Hp) (x : V) (u : Value) (b : Bool) : Prop :=
  (∃ t, TyX K H x t ∧ PySem.W.kitOne K t u = some b) ∨ ∃ a D, x = .ref a ∧ H a = some (ExT (.ref D) a) ∧ ExcC K D ∧ PySem.W.kitOne K (.ref D) u = some b
/-- the same for a tuple of classes -/
def IsGT (K : Frag) (H : Hp) (x : V) (us : List Value) (b : Bool) : Prop :=
  (∃ t, TyX K H x t ∧ PySem.W.kitAny K t us = some b) ∨ ∃ a D, x = .ref a ∧ H a = some (ExT (.ref D) a) ∧ ExcC K D ∧ PySem.W.kitAny K (.ref D) us = some b
theorem kit_exc {X : Cx} {pins : List (Addr × Obj)} {σ : L2.St} {H : Hp} {s : Shared} {a D : Addr} (I : Inv X pins σ H s) (C : ExcC X.K D) (h : H a = some (ExT (.ref D) a)) : ∃ P : Heap → Prop, PySem.W.KitX X.K (.ref a) (.ref D) P ∧ P s.heap := by
  obtain ⟨⟨oe, vs, hget, hz, hv⟩, _⟩ := I.hok a _ h
  have J : PySem.W.InstAt s.heap a oe D none := by
    obtain ⟨oc, od, oda, osl⟩ := oe
    obtain ⟨h1, h2⟩ := hz
    dsimp only at h1 h2 hv
    subst h1 h2 hv
    exact ⟨hget, rfl, rfl, trivial⟩
  exact ⟨_, PySem.W.handS_kitx_exc C.hg C.hk C.hs C.hd C.ha C.hn C.ht C.hm, J⟩
theorem call_isG : CallR X (.builtin "isinstance") (fun xs H Q => ∃ (x c : V) (u : Value) (b : Bool), xs = [x, c] ∧ ClsV c u ∧ IsG X.K H x u b ∧ Q (.bl b) H) := by
  intro pins s σ H xs us Q I r h
  obtain ⟨x, c, u, b, rfl, k, g, q⟩ := h
  obtain ⟨u1, u2, rfl, r1, r2⟩ := vals2 r
  have e2 := k.eq r2
  subst e2
  rcases g with ⟨t, ty, e⟩ | ⟨a, D, rfl, ha, C, e⟩
  · obtain ⟨P, Z, p, hx⟩ := kit_of I r1 ty
    exact PySem.W.kia_one Z I.kIn p e hx fun tk => ⟨.bl b, H, I.tok tk, rfl, q⟩
  · cases (show u1 = Value.ref a from r1)
    obtain ⟨P, Z, p⟩ := kit_exc I C ha
    exact PySem.W.kia_one Z I.kIn p e (fun z => nomatch z) fun tk => ⟨.bl b, H, I.tok tk, rfl, q⟩
theorem call_isGT : CallR X (.builtin "isinstance") (fun xs H Q => ∃ (x : V) (tp : Addr) (cs : List V) (us : List Value) (b : Bool), xs = [x, .ref tp] ∧ H tp = some (.tup cs) ∧ Paired ClsV cs us ∧ IsGT X.K H x us b ∧ Q (.bl b) H) := by
  intro pins s σ H xs us Q I r h
  obtain ⟨x, tp, cs, ws, b, rfl, hT, k, g, q⟩ := h
  obtain ⟨u1, u2, rfl, r1, r2⟩ := vals2 r
  cases (show u2 = Value.ref tp from r2)
  obtain ⟨_, its, rv, o, h1, h2, n, h3⟩ := (show ObjOk X.prog X.w H s.heap tp (.tup cs) from I.hok tp _ hT)
  have e3 := ClsV.all k rv
  subst e3
  obtain ⟨oc, od, dt, sl⟩ := o
  simp only at h2 h3
  subst h2 h3
  rcases g with ⟨t, ty, e⟩ | ⟨a, D, rfl, ha, C, e⟩
  · obtain ⟨P, Z, p, hx⟩ := kit_of I r1 ty
    exact PySem.W.kia_tup Z I.kIn p h1 e hx fun tk => ⟨.bl b, H, I.tok tk, rfl, q⟩
  · cases (show u1 = Value.ref a from r1)
    obtain ⟨P, Z, p⟩ := kit_exc I C ha
    exact PySem.W.kia_tup Z I.kIn p h1 e (fun z => nomatch z) fun tk => ⟨.bl b, H, I.tok tk, rfl, q⟩
/-- the class of a thing, as the readings know it -/
def tyV (K : Frag) : D → Value
  | .dict ((.none, .str x) :: _) => .ref (cA K x)
  | .dict ((.str c, _) :: _) => .ref (cA K c)
  | d => .type (tyD d)
theorem isg_of {K : Frag} {H0 F H : Hp} {v : V} {d : D} (s : Same F H) (r : Res K H0 F H .rd v d) : (TyX K H v (tyV K d)) ∨ ∃ a x, v = .ref a ∧ tyV K d = .ref (cA K x) ∧ H a = some (ExT (.ref (cA K x)) a) ∧ ExcC K (cA K x) := by
  rcases r with r | ⟨p, vs, ds, rfl, rfl, sq, _⟩
  · cases r with
    | non => exact .inl (.base .non)
    | bl b => exact .inl (.base (.bl b))
    | int i => exact .inl (.base (.int i))
    | str x => exact .inl (.base (.str x))
    | lst h _ => exact .inl (.base (.lst (s _ _ h)))
    | tup h _ =>
      rcases h with (h | ⟨o, h⟩) | ⟨o, its, n, h, hc, _⟩
      · exact .inl (.base (.tup (s _ _ h)))
      · exact .inl (.fTuple (s _ _ h))
      · exact .inl (.kTuple h hc)
    | dic0 h => exact .inl (.base (.dK (s _ _ h)))
    | exc h c => exact .inr ⟨_, _, rfl, rfl, s _ _ h, c.c⟩
    | dic h _ => exact .inl (.fDict (s _ _ h))
    | obj h c _ _ => exact .inl (.base (.ins (s _ _ h) c.cl c.ha c.hn c.htk c.hm))
  · rcases sq with (h | ⟨o, h⟩) | ⟨o, its, n, h, hc, _⟩
    · exact .inl (.base (.lst h))
    · exact .inl (.base (.frz h))
    · exact .inl (.kList h hc)
theorem isg_one {K : Frag} {H0 F H : Hp} {v : V} {d : D} {u : Value} {b : Bool} (s : Same F H) (r : Res K H0 F H .rd v d) (e : PySem.W.kitOne K (tyV K d) u = some b) : IsG K H v u b := by
  rcases isg_of s r with h | ⟨a, x, rfl, e2, h, c⟩
  · exact .inl ⟨_, h, e⟩
  · exact .inr ⟨a, _, rfl, h, c, by rw [← e2]; exact e⟩
theorem isg_any {K : Frag} {H0 F H : Hp} {v : V} {d : D} {us : List Value} {b : Bool} (s : Same F H) (r : Res K H0 F H .rd v d) (e : PySem.W.kitAny K (tyV K d) us = some b) : IsGT K H v us b := by
  rcases isg_of s r with h | ⟨a, x, rfl, e2, h, c⟩
  · exact .inl ⟨_, h, e⟩
  · exact .inr ⟨a, _, rfl, h, c, by rw [← e2]; exact e⟩
/-- for the five types the answer hangs on no class -/
theorem tyV_five {K : Frag} {H0 F H : Hp} {v : V} {d : D} {T : String} {b : Bool} (hT : T ∈ five) (r : Res K H0 F H .rd v d) (e : kitB (tyD d) T = some b) : PySem.W.kitOne K (tyV K d) (.type T) = some b := by
  have no : kitB "dict" T = some false := by
    simp only [five, List.mem_cons, List.not_mem_nil, or_false] at hT
    rcases hT with rfl | rfl | rfl | rfl | rfl <;> decide +kernel
  rcases r with r | ⟨p, vs, ds, rfl, rfl, sq, _⟩
  · cases r with
    | non => exact kit_ty e
    | bl b => exact kit_ty e
    | int i => exact kit_ty e
    | str x => exact kit_ty e
    | lst h _ => exact kit_ty e
    | tup h _ => exact kit_ty e
    | dic0 h => exact kit_ty e
    | exc h c =>
      have e' : kitB "dict" T = some b := e
      rw [no] at e'
      rw [← e']
      exact c.ty T hT
    | dic h _ => exact kit_ty e
    | obj h c _ _ =>
      have e' : kitB "dict" T = some b := e
      rw [no] at e'
      rw [← e']
      exact c.ty T hT
  · exact kit_ty e
def wIsi (we : WE) (T : String) : WE := fun E KD KX => we E (fun d => ∃ b, kitB (tyD d) T = some b ∧ KD (.bool b)) KX
theorem j_isi {T : String} {xT : Str} {pT : Pos} (hm : X.mg "isinstance" = none) (hmT : X.mg xT = none) (hvT : bootBuiltins xT = some (.type T)) (h : J m X W e we) (hg : Gl X "isinstance" := by rfl) (hgT : Gl X xT := by rfl) (hnT : xT ≠ "__name__" := by decide) (hdT : (xT == ("__debug__" : Str)) = false := by decide)
    (hst : starEach [e, .Name xT pT] X.env = (false, eval e X.env) :: starEach [.Name xT pT] X.env := by rfl) (hst2 : starEach [.Name xT pT] X.env = (false, eval (.Name xT pT) X.env) :: starEach [] X.env := by rfl)
    (hpl : (backTo pos (starEach [.Name xT pT] X.env)).any (·.1) = false := by rfl) (h5 : T ∈ five := by decide) :
    J .fz X W (.Call (.Name "isinstance" p) [e, .Name xT pT] [] pos) (wIsi we T) :=
  pe_imp (pe_callB call_isG hg hm (by decide +kernel) (pa_cons h.rd (pa_cons (pe_bltn (v := .ty T) hgT hmT hvT rfl hnT hdT) pa_nil hst2) hst) (by decide) (by decide) hst hpl) fun σ H Q ⟨H0, F0, F, own, E, KD, KX, r, q, k, x⟩ =>
    ⟨H0, F0, F, own, E, _, KX, r, q, fun d ⟨b, e, hd⟩ F' H' v g rs => ⟨v, .ty T, .type T, b, rfl, .ty T, isg_one g.fh rs (tyV_five h5 rs e), k _ hd F' H' _ g (.bl _)⟩, x⟩
/-- isinstance(x, (T1, T2)) -/
def wIsi2 (we : WE) (T T2 : String) : WE := fun E KD KX => we E (fun d => ∃ b b2, kitB (tyD d) T = some b ∧ kitB (tyD d) T2 = some b2 ∧ KD (.bool (b || b2))) KX
theorem j_isi2 {T T2 : String} {xT xT2 : Str} {pT pT2 : Pos} {kk : Nat} {pos2 : Pos} (hm : X.mg "isinstance" = none) (hmT : X.mg xT = none) (hmT2 : X.mg xT2 = none) (hvT : bootBuiltins xT = some (.type T)) (hvT2 : bootBuiltins xT2 = some (.type T2)) (h : J m X W e we) (hg : Gl X "isinstance" := by rfl) (hgT : Gl X xT := by rfl) (hgT2 : Gl X xT2 := by rfl)
    (hnT : xT ≠ "__name__" := by decide) (hdT : (xT == ("__debug__" : Str)) = false := by decide) (hnT2 : xT2 ≠ "__name__" := by decide) (hdT2 : (xT2 == ("__debug__" : Str)) = false := by decide)
    (hst : starEach [e, .Tuple [.Name xT pT, .Name xT2 pT2] kk pos2] X.env = (false, eval e X.env) :: starEach [.Tuple [.Name xT pT, .Name xT2 pT2] kk pos2] X.env := by rfl) (hst2 : starEach [.Tuple [.Name xT pT, .Name xT2 pT2] kk pos2] X.env = (false, eval (.Tuple [.Name xT pT, .Name xT2 pT2] kk pos2) X.env) :: starEach [] X.env := by rfl)
    (hs1 : starEach [.Name xT pT, .Name xT2 pT2] X.env = (false, eval (.Name xT pT) X.env) :: starEach [.Name xT2 pT2] X.env := by rfl) (hs2 : starEach [.Name xT2 pT2] X.env = (false, eval (.Name xT2 pT2) X.env) :: starEach [] X.env := by rfl)
    (hpl : (backTo pos (starEach [.Tuple [.Name xT pT, .Name xT2 pT2] kk pos2] X.env)).any (·.1) = false := by rfl) (h5 : T ∈ five := by decide) (h52 : T2 ∈ five := by decide) :
    J .fz X W (.Call (.Name "isinstance" p) [e, .Tuple [.Name xT pT, .Name xT2 pT2] kk pos2] [] pos) (wIsi2 we T T2) :=
  pe_imp (pe_callB call_isGT hg hm (by decide +kernel) (pa_cons h.rd (pa_cons (pe_tup (pa_cons (pe_bltn (v := .ty T) hgT hmT hvT rfl hnT hdT) (pa_cons (pe_bltn (v := .ty T2) hgT2 hmT2 hvT2 rfl hnT2 hdT2) pa_nil hs2) hs1)) pa_nil hst2) hst) (by decide) (by decide) hst hpl) fun σ H Q ⟨H0, F0, F, own, E, KD, KX, r, q, k, x⟩ =>
    ⟨H0, F0, F, own, E, _, KX, r, q, fun d ⟨b, b2, e1, e2, hd⟩ F' H' v g rs => by
      refine ⟨by show 2 ≤ sizeLine; decide, fun z nz => ?_⟩
      have g2 := g.trans (Grow.lay (o := .tup [.ty T, .ty T2]) g.fh nz)
      have rs2 := rs.keep (Grow.lay (o := .tup [.ty T, .ty T2]) g.fh nz) (by decide)
      refine ⟨v, z, [.ty T, .ty T2], [.type T, .type T2], b || b2, rfl, upd_same, .cons (.ty T) (.cons (.ty T2) .nil), isg_any g2.fh rs2 ?_, k _ hd F' _ _ g2 (.bl _)⟩
      refine kitAny_cons (tyV_five h5 rs2 e1) (fun z => ?_) fun z => by rw [z]; rfl
      refine kitAny_cons (tyV_five h52 rs2 e2) (fun z2 => ?_) fun z2 => by rw [z, z2]; rfl
      rw [z, z2]; exact kitAny_nil, x⟩

/-! ### slices -/
def cut {α : Type} (xs : List α) (lo hi : Option Int) : List α := (xs.drop (HT.sIx xs.length 0 lo)).take (HT.sIx xs.length xs.length hi - HT.sIx xs.length 0 lo)
theorem RpAll.cut {K : Frag} {F : Hp} {vs : List V} {ds : List D} (h : RpAll K F vs ds) (lo hi : Option Int) : RpAll K F (cutV vs lo hi) (Tb.cut ds lo hi) := by
  unfold cutV Tb.cut
  rw [h.len]
  exact (h.drop _).take _
abbrev WO := List Sl → (Option Int → Prop) → (Str → Prop) → Prop
def tJO (K : Frag) (W : WX) (w : WO) : TO := fun σ H Q => ∃ H0 F0 F own E KD KX, Rel K H0 F0 F own E σ H ∧ w E KD KX ∧
  (∀ o, KD o → ∀ F' H', Grow F H F' H' → Q o H') ∧ (∀ c, KX c → ∀ F' H', Grow F H F' H' → W (.ref (cA K c)) none σ H')
def JO (X : Cx) (W : WX) (e : Option Expr) (w : WO) : Prop := PO X e (tJO X.K W w)
theorem po_imp {X : Cx} {e : Option Expr} {t t' : TO} (h : PO X e t) (i : ∀ σ H Q, t' σ H Q → t σ H Q) : PO X e t' := ⟨fun pins s σ H Q I q => h.run pins s σ H Q I (i _ _ _ q)⟩
def wO0 : WO := fun _ KD _ => KD none
def wO (we : WE) : WO := fun E KD KX => we E (fun d => ∃ i, d = .int i ∧ KD (some i)) KX
theorem jo_none : JO X W none wO0 := po_imp po_none fun σ H Q ⟨H0, F0, F, own, E, KD, KX, r, q, k, x⟩ => k _ q F H (Grow.refl r.g.fh)
theorem jo_some (h : J m X W e we) : JO X W (some e) (wO we) := po_imp (po_some h.rd) fun σ H Q ⟨H0, F0, F, own, E, KD, KX, r, q, k, x⟩ =>
  ⟨H0, F0, F, own, E, _, KX, r, q, fun d ⟨i, e, hd⟩ F' H' v g rs => by
    subst e
    exact ⟨i, rs.int, k _ hd F' H' g⟩, x⟩
def wSl (we : WE) (wl wh : WO) (r' : D → Option Int → Option Int → (D → Prop) → Prop) : WE := fun E KD KX => we E (fun d => wl E (fun l => wh E (fun h => r' d l h KD) KX) KX) KX
def SlD (mx m : Mo) (K : Frag) (r : V → Option Int → Option Int → Hp → VK → Prop) (r' : D → Option Int → Option Int → (D → Prop) → Prop) : Prop :=
  ∀ (x : D) (lo hi : Option Int) (KD : D → Prop) (v : V) (H0 F H : Hp) (Q : VK), r' x lo hi KD → Same F H → Res K H0 F H mx v x →
    (∀ d, KD d → ∀ F' H' z, Grow F H F' H' → Res K H F' H' m z d → Q z H') → r v lo hi H Q
theorem j_slice {lo hi : Option Expr} {wl wh : WO} {mx : Mo} {r : V → Option Int → Option Int → Hp → VK → Prop} {r' : D → Option Int → Option Int → (D → Prop) → Prop} (hr : SlR X r) (sd : SlD mx m X.K r r') (h : J mx X W e we) (hl : JO X W lo wl) (hh : JO X W hi wh) (hmx : mx ≠ .nw := by decide) :
    J m X W (.Subscript e (.Slice lo hi none p2) pos) (wSl we wl wh r') := pe_imp (pe_slice hr h hl hh) fun σ H Q ⟨H0, F0, F, own, E, KD, KX, r, q, k, x⟩ =>
  ⟨H0, F0, F, own, E, _, KX, r, q, fun d hd F1 H1 v g1 r1 => ⟨H0, F0, F1, own, E, _, KX, r.grow g1, hd, fun l hl F2 H2 g2 => ⟨H0, F0, F2, own, E, _, KX, (r.grow g1).grow g2, hl, fun u hu F3 H3 g3 => by
    have g13 := g1.trans (g2.trans g3)
    exact sd d l u KD v H F3 H3 Q hu g3.fh ((r1.keep (g2.trans g3) hmx).old g13.h) fun d hd F4 H4 z g4 rz => k d hd F4 H4 z (g13.trans g4) (rz.old g13.h),
    fun c hc F3 H3 g3 => x c hc F3 H3 ((g1.trans g2).trans g3)⟩, fun c hc F2 H2 g2 => x c hc F2 H2 (g1.trans g2)⟩, x⟩
def rSLL : D → Option Int → Option Int → (D → Prop) → Prop := fun x lo hi KD => ∃ ds, x = .list ds ∧ KD (.list (cut ds lo hi))
theorem j_slL {lo hi : Option Expr} {wl wh : WO} (h : J m X W e we) (hl : JO X W lo wl) (hh : JO X W hi wh) : J .nw X W (.Subscript e (.Slice lo hi none p2) pos) (wSl we wl wh rSLL) :=
  j_slice sl_list (fun x lo hi KD v H0 F H Q ⟨ds, e, q⟩ s r k => by
    subst e
    obtain ⟨p, vs, rfl, sq, ra⟩ := r.list s
    exact ⟨p, vs, rfl, sq, fun z nz => k _ q F _ _ (Grow.lay s nz) ⟨z, _, _, rfl, rfl, nz, none_of_same s nz, upd_same, ra.cut lo hi⟩⟩ : SlD .rd .nw X.K _ rSLL) h.rd hl hh
def rSLT : D → Option Int → Option Int → (D → Prop) → Prop := fun x lo hi KD => ∃ ds, x = .tuple ds ∧ ¬ (HT.sIx ds.length 0 lo = 0 ∧ HT.sIx ds.length ds.length hi = ds.length) ∧ KD (.tuple (cut ds lo hi))
theorem j_slT {lo hi : Option Expr} {wl wh : WO} (h : J m X W e we) (hl : JO X W lo wl) (hh : JO X W hi wh) : J .fz X W (.Subscript e (.Slice lo hi none p2) pos) (wSl we wl wh rSLT) :=
  j_slice sl_tup (fun x lo hi KD v H0 F H Q ⟨ds, e, hn, q⟩ s r k => by
    subst e
    obtain ⟨p, vs, rfl, sq, ra⟩ := r.tuple s
    exact ⟨p, vs, rfl, sq, by rw [ra.len]; exact hn, fun z nz => k _ q (upd F z (.tup (cutV vs lo hi))) _ _ (Grow.layF s nz) (.tup (SqT.of upd_same) (RpAll.mono (same_upd (none_of_same s nz)) _ _ (ra.cut lo hi)))⟩ : SlD .rd .fz X.K _ rSLT) h.rd hl hh
end
end Tb

set_option Elab.async false
set_option linter.all false
set_option maxRecDepth 100000
namespace Tb
open PySem PySem.Spec L2

/-! ### slots change -/
def drop (own : Own) (i : Nat) : Own := fun a => if own a = some i then none else own a
def take (own : Own) (i : Nat) (p : Addr) : Own := fun a => if a = p then some i else if own a = some i then none else own a
theorem drop_some {own : Own} {i j : Nat} {a : Addr} (h : drop own i a = some j) : own a = some j ∧ j ≠ i := by
  unfold drop at h
  split at h
  · cases h
  · rename_i hn
    refine ⟨h, fun e => ?_⟩
    subst e; exact hn h
theorem drop_ne {own : Own} {i j : Nat} {a : Addr} (h : own a = some j) (hj : j ≠ i) : drop own i a = some j := by
  unfold drop
  rw [if_neg (by rw [h]; intro e; exact hj (Option.some.inj e))]
  exact h
theorem take_some {own : Own} {i j : Nat} {p a : Addr} (h : take own i p a = some j) : (a = p ∧ j = i) ∨ (a ≠ p ∧ own a = some j ∧ j ≠ i) := by
  unfold take at h
  split at h
  · rename_i e; exact .inl ⟨e, (Option.some.inj h).symm⟩
  · rename_i e
    split at h
    · cases h
    · rename_i hn
      refine .inr ⟨e, h, fun z => ?_⟩
      subst z; exact hn h
theorem take_ne {own : Own} {i j : Nat} {p a : Addr} (h : own a = some j) (hj : j ≠ i) (hp : a ≠ p) : take own i p a = some j := by
  unfold take
  rw [if_neg hp, if_neg (by rw [h]; intro e; exact hj (Option.some.inj e))]
  exact h
theorem take_self {own : Own} {i : Nat} {p : Addr} : take own i p p = some i := by unfold take; rw [if_pos rfl]
section
variable {K : Frag} {H0 F0 F F' H H' : Hp} {own : Own} {E : List Sl} {σ : St} {i : Nat}
theorem getD_set_self {v : Option V} (h : i < σ.length) : (σ.set i v).getD i none = v := by
  rw [List.getD_eq_getElem?_getD, List.getElem?_set_self h]; rfl
theorem getD_set_ne {v : Option V} {j : Nat} (h : i ≠ j) : (σ.set i v).getD j none = σ.getD j none := by
  rw [List.getD_eq_getElem?_getD, List.getD_eq_getElem?_getD, List.getElem?_set_ne h]
/-- a slot that holds nothing of its own -/
theorem Rel.put (r : Rel K H0 F0 F own E σ H) {s : Sl} {o : Option V} (h : SlOk K H0 F H (drop own i) i s o) : Rel K H0 F0 F (drop own i) (E.set i s) (σ.set i o) H := by
  refine ⟨by rw [List.length_set, List.length_set]; exact r.len, r.g, fun a j e => r.ow a j (drop_some e).1, fun j s' e => ?_⟩
  by_cases hj : i = j
  · subst hj
    by_cases hl : i < E.length
    · rw [List.getElem?_set_self hl] at e
      cases e
      rw [getD_set_self (by rw [← r.len]; exact hl)]
      exact h
    · rw [List.getElem?_eq_none (by rw [List.length_set]; omega)] at e; cases e
  · rw [List.getElem?_set_ne hj] at e
    rw [getD_set_ne hj]
    exact (r.sl j s' e).stay (Same.refl _) (Same.refl _) (fun _ _ _ q => q) fun p q => drop_ne q (Ne.symm hj)
theorem Rel.putFr (r : Rel K H0 F0 F own E σ H) {v : V} {d : D} (h : Rp K F v d) : Rel K H0 F0 F (drop own i) (E.set i (.fr d)) (σ.set i (some v)) H := r.put ⟨v, rfl, h⟩
theorem Rel.putUn (r : Rel K H0 F0 F own E σ H) {o : Option V} : Rel K H0 F0 F (drop own i) (E.set i .un) (σ.set i o) H := r.put True.intro
/-- a slot that holds a thing of its own, just made -/
theorem Rel.putNw (r : Rel K H0 F0 F own E σ H) {s : Sl} {p : Addr} (np : F p = none) (n0 : H0 p = none) (no : ∀ j, own p ≠ some j) (hp : H p ≠ none) (h : SlOk K H0 F H (take own i p) i s (some (.ref p))) :
    Rel K H0 F0 F (take own i p) (E.set i s) (σ.set i (some (.ref p))) H := by
  refine ⟨by rw [List.length_set, List.length_set]; exact r.len, r.g, fun a j e => ?_, fun j s' e => ?_⟩
  · rcases take_some e with ⟨rfl, rfl⟩ | ⟨_, e, _⟩
    · exact ⟨np, n0, hp⟩
    · exact r.ow a j e
  · by_cases hj : i = j
    · subst hj
      by_cases hl : i < E.length
      · rw [List.getElem?_set_self hl] at e
        cases e
        rw [getD_set_self (by rw [← r.len]; exact hl)]
        exact h
      · rw [List.getElem?_eq_none (by rw [List.length_set]; omega)] at e; cases e
    · rw [List.getElem?_set_ne hj] at e
      rw [getD_set_ne hj]
      exact (r.sl j s' e).stay (Same.refl _) (Same.refl _) (fun _ _ _ q => q) fun a q => take_ne q (Ne.symm hj) (fun z => no j (z ▸ q))
theorem Rel.putOw (r : Rel K H0 F0 F own E σ H) (g : Grow F H F' H') {v : V} {d : D} (h : Res K H F' H' .nw v d) : ∃ ds own', d = .list ds ∧ Rel K H0 F0 F' own' (E.set i (.ow ds)) (σ.set i (some v)) H' := by
  obtain ⟨p, vs, ds, rfl, rfl, n, nf, e, ra⟩ := h
  have no : ∀ j, own p ≠ some j := fun j z => (r.ow p j z).2.2 n
  exact ⟨ds, _, rfl, (r.grow g).putNw nf (none_of_same r.g.h n) no (by rw [e]; simp) ⟨p, vs, rfl, take_self, e, ra⟩⟩
/-- what a slot owns is changed -/
theorem Rel.chg (r : Rel K H0 F0 F own E σ H) {s : Sl} {p : Addr} {o : HO} (hi : own p = some i) (h : SlOk K H0 F (upd H p o) own i s (σ.getD i none)) : Rel K H0 F0 F own (E.set i s) σ (upd H p o) := by
  obtain ⟨n1, n2, n3⟩ := r.ow p i hi
  have hh : Same H0 (upd H p o) := fun b x e => by
    rw [upd_ne (ne_of_none e n2)]; exact r.g.h _ _ e
  have hf : Same F (upd H p o) := fun b x e => by
    rw [upd_ne (ne_of_none e n1)]; exact r.g.fh _ _ e
  refine ⟨by rw [List.length_set]; exact r.len, ⟨r.g.f, hh, hf, r.g.new⟩, fun a j e => ?_, fun j s' e => ?_⟩
  · obtain ⟨q1, q2, q3⟩ := r.ow a j e
    refine ⟨q1, q2, ?_⟩
    by_cases ha : a = p
    · subst ha; rw [upd_same]; simp
    · rw [upd_ne ha]; exact q3
  · by_cases hj : i = j
    · subst hj
      by_cases hl : i < E.length
      · rw [List.getElem?_set_self hl] at e
        cases e
        exact h
      · rw [List.getElem?_eq_none (by rw [List.length_set]; omega)] at e; cases e
    · rw [List.getElem?_set_ne hj] at e
      refine (r.sl j s' e).stay (Same.refl _) (Same.refl _) (fun a u q1 q2 => ?_) fun _ q => q
      have ha : a ≠ p := fun z => by
        subst z; rw [hi] at q1; exact hj (Option.some.inj q1)
      rw [upd_ne ha]; exact q2
/-- a list of one's own is no one's any more -/
theorem Rel.fzOw (r : Rel K H0 F0 F own E σ H) {ds : List D} (e : E[i]? = some (.ow ds)) : ∃ F' own', Rel K H0 F0 F' own' (E.set i (.fr (.list ds))) σ H ∧ Same F F' := by
  obtain ⟨p, vs, e1, e2, e3, ra⟩ := r.sl i _ e
  obtain ⟨n1, n2, n3⟩ := r.ow p i e2
  have hs : Same F (upd F p (.lst vs)) := same_upd n1
  refine ⟨upd F p (.lst vs), drop own i, ⟨by rw [List.length_set]; exact r.len, ⟨r.g.f.trans hs, r.g.h, fun b x q => ?_, fun a q => ?_⟩, fun a j q => ?_, fun j s' q => ?_⟩, hs⟩
  · by_cases hb : b = p
    · subst hb; rw [upd_same] at q; rw [← q]; exact e3
    · rw [upd_ne hb] at q; exact r.g.fh _ _ q
  · by_cases hb : a = p
    · subst hb; exact .inr n2
    · rw [upd_ne hb] at q; exact r.g.new _ q
  · obtain ⟨q1, q2⟩ := drop_some q
    obtain ⟨m1, m2, m3⟩ := r.ow a j q1
    have ha : a ≠ p := fun z => by
      subst z; rw [e2] at q1; exact q2 (Option.some.inj q1).symm
    exact ⟨by rw [upd_ne ha]; exact m1, m2, m3⟩
  · by_cases hj : i = j
    · subst hj
      by_cases hl : i < E.length
      · rw [List.getElem?_set_self hl] at q
        cases q
        exact ⟨.ref p, e1, .lst upd_same (RpAll.mono hs _ _ ra)⟩
      · rw [List.getElem?_eq_none (by rw [List.length_set]; omega)] at q; cases q
    · rw [List.getElem?_set_ne hj] at q
      exact (r.sl j s' q).stay hs (Same.refl _) (fun _ _ _ z => z) fun a z => drop_ne z (Ne.symm hj)
end

/-! ### statements -/
structure EndsD where
  nx : List Sl → Prop
  rt : D → List Sl → Prop
  bk : List Sl → Prop := fun _ => False
  ct : List Sl → Prop := fun _ => False
  ex : Str → List Sl → Prop := fun _ _ => False
abbrev WS := EndsD → List Sl → Prop
def tS (m : Mo) (K : Frag) (W : WX) (w : WS) : TS := fun DD σ H => ∃ H0 F0 F own E C, Rel K H0 F0 F own E σ H ∧ w C E ∧
  (∀ F' own' E' σ' H', Rel K H0 F0 F' own' E' σ' H' → C.nx E' → DD.nx σ' H') ∧
  (∀ F' own' E' σ' H', Rel K H0 F0 F' own' E' σ' H' → C.bk E' → DD.bk σ' H') ∧
  (∀ F' own' E' σ' H', Rel K H0 F0 F' own' E' σ' H' → C.ct E' → DD.ct σ' H') ∧
  (∀ d E', C.rt d E' → ∀ F' own' σ' H' v, Rel K H0 F0 F' own' E' σ' H' → Res K H0 F' H' m v d → DD.rt v H') ∧
  (∀ c F' own' E' σ' H', Rel K H0 F0 F' own' E' σ' H' → C.ex c E' → W (.ref (cA K c)) none σ' H')
def S (m : Mo) (X : Cx) (W : WX) (st : Stmt) (w : WS) : Prop := PS X st (tS m X.K W w)
def Ss (m : Mo) (X : Cx) (W : WX) (st : List Stmt) (w : WS) : Prop := PSs X st (tS m X.K W w)
section
variable {X : Cx} {W : WX} {a b c e e2 e3 : Expr} {es : List Expr} {pos p p2 : Pos} {m m1 m2 m3 : Mo} {ms : List Mo} {we we2 we3 : WE} {ws : WA} {wt : WT} {st : Stmt} {sts : List Stmt} {w w2 w3 : WS}
def wNx : WS := fun C E => C.nx E
def wSeq (w w2 : WS) : WS := fun C E => w { C with nx := w2 C } E
theorem ss_nil : Ss m X W [] wNx := pss_imp pss_nil fun DD σ H ⟨H0, F0, F, own, E, C, r, q, kn, kb, kc, kr, kx⟩ => kn _ _ _ _ _ r q
theorem ss_cons (h : S m X W st w) (t : Ss m X W sts w2) : Ss m X W (st :: sts) (wSeq w w2) := pss_imp (pss_cons h t) fun DD σ H ⟨H0, F0, F, own, E, C, r, q, kn, kb, kc, kr, kx⟩ =>
  ⟨H0, F0, F, own, E, _, r, q, fun F' own' E' σ' H' r' q' => ⟨H0, F0, F', own', E', C, r', q', kn, kb, kc, kr, kx⟩, kb, kc, kr, kx⟩
theorem ss_one (h : S m X W st w) : Ss m X W [st] w := pss_one h
theorem s_pass : S m X W (.Pass pos) wNx := ps_imp ps_pass fun DD σ H ⟨H0, F0, F, own, E, C, r, q, kn, kb, kc, kr, kx⟩ => kn _ _ _ _ _ r q
def wBk : WS := fun C E => C.bk E
def wCt : WS := fun C E => C.ct E
theorem s_break : S m X W (.Break pos) wBk := ps_imp ps_break fun DD σ H ⟨H0, F0, F, own, E, C, r, q, kn, kb, kc, kr, kx⟩ => kb _ _ _ _ _ r q
theorem s_continue : S m X W (.Continue pos) wCt := ps_imp ps_continue fun DD σ H ⟨H0, F0, F, own, E, C, r, q, kn, kb, kc, kr, kx⟩ => kc _ _ _ _ _ r q
/-- a statement that isn't reached -/
theorem s_never : S m X W st (fun _ _ => False) := ps_imp ps_never fun DD σ H ⟨H0, F0, F, own, E, C, r, q, _⟩ => q
/-- a list of one's own handed on: from here on nobody changes it -/
def wFz (i : Nat) (w : WS) : WS := fun C E => ∃ ds, E[i]? = some (.ow ds) ∧ w C (E.set i (.fr (.list ds)))
theorem s_fz (i : Nat) (h : S m X W st w) : S m X W st (wFz i w) := ps_imp h fun DD σ H ⟨H0, F0, F, own, E, C, r, ⟨ds, e, q⟩, kn, kb, kc, kr, kx⟩ => by
  obtain ⟨F', own', r', _⟩ := r.fzOw e
  exact ⟨H0, F0, F', own', _, C, r', q, kn, kb, kc, kr, kx⟩
/-- name = e -/
def wSet (i : Nat) (we : WE) : WS := fun C E => we E (fun d => C.nx (E.set i (.fr d))) (fun c => C.ex c E)
def wSetO (i : Nat) (we : WE) : WS := fun C E => we E (fun d => ∃ ds, d = .list ds ∧ C.nx (E.set i (.ow ds))) (fun c => C.ex c E)
theorem set_rd {i : Nat} {DD : Ends} {σ : St} {H : Hp} (h : tS m X.K W (wSet i we) DD σ H) : tAsg (tJ .fz X.K W we) (gName i) DD σ H := by
  obtain ⟨H0, F0, F, own, E, C, r, q, kn, kb, kc, kr, kx⟩ := h
  exact ⟨H0, F0, F, own, E, _, _, r, q, fun d hd F' H' v g rs => kn _ _ _ _ _ ((r.grow g).putFr rs) hd, fun c hc F' H' g => kx c _ _ _ _ _ (r.grow g) hc⟩
theorem setO_rd {i : Nat} {DD : Ends} {σ : St} {H : Hp} (h : tS m X.K W (wSetO i we) DD σ H) : tAsg (tJ .nw X.K W we) (gName i) DD σ H := by
  obtain ⟨H0, F0, F, own, E, C, r, q, kn, kb, kc, kr, kx⟩ := h
  exact ⟨H0, F0, F, own, E, _, _, r, q, fun d ⟨ds, ed, hd⟩ F' H' v g rs => by
    subst ed
    obtain ⟨ds', own', e, r'⟩ := r.putOw (i := i) g rs
    cases e
    exact kn _ _ _ _ _ r' hd, fun c hc F' H' g => kx c _ _ _ _ _ (r.grow g) hc⟩
theorem s_set {i : Nat} {x : Str} {pos' : Pos} (hN : X.N.Nodup) (he : J .fz X W e we) (hi : X.N[i]? = some x := by rfl) (hx : Loc X.env.scope x := by first | exact Or.inl rfl | exact Or.inr rfl) (hs : swapsWith e (some (.Name x pos')) pos.line X.env = pure false := by rfl)
    (hf : X.fn x = true ∨ X.env.scope.names.lookup x = some .local := by first | exact .inl rfl | exact .inr rfl) : S m X W (.Assign [.Name x pos'] e pos) (wSet i we) :=
  ps_imp (ps_set hN hi hx he hs hf) fun _ _ _ h => set_rd h
theorem s_setO {i : Nat} {x : Str} {pos' : Pos} (hN : X.N.Nodup) (he : J .nw X W e we) (hi : X.N[i]? = some x := by rfl) (hx : Loc X.env.scope x := by first | exact Or.inl rfl | exact Or.inr rfl) (hs : swapsWith e (some (.Name x pos')) pos.line X.env = pure false := by rfl)
    (hf : X.fn x = true ∨ X.env.scope.names.lookup x = some .local := by first | exact .inl rfl | exact .inr rfl) : S m X W (.Assign [.Name x pos'] e pos) (wSetO i we) :=
  ps_imp (ps_set hN hi hx he hs hf) fun _ _ _ h => setO_rd h
/-- return -/
def wRet (we : WE) : WS := fun C E => we E (fun d => C.rt d E) (fun c => C.ex c E)
theorem s_ret (he : J m X W e we) : S m X W (.Return (some e) pos) (wRet we) := ps_imp (ps_ret he) fun DD σ H ⟨H0, F0, F, own, E, C, r, q, kn, kb, kc, kr, kx⟩ =>
  ⟨H0, F0, F, own, E, _, _, r, q, fun d hd F' H' v g rs => kr d _ hd F' _ _ H' v (r.grow g) (rs.old r.g.h), fun c hc F' H' g => kx c _ _ _ _ _ (r.grow g) hc⟩
/-- a list of one's own, told -/
def wRetO (i : Nat) : WS := fun C E => ∃ ds, E[i]? = some (.ow ds) ∧ C.rt (.list ds) E
theorem s_retO {i : Nat} (he : PE X e (tVar i)) : S .nw X W (.Return (some e) pos) (wRetO i) := ps_imp (ps_ret he) fun DD σ H ⟨H0, F0, F, own, E, C, r, ⟨ds, e, q⟩, kn, kb, kc, kr, kx⟩ => by
  obtain ⟨p, vs, e1, e2, e3, ra⟩ := r.sl _ _ e
  obtain ⟨n1, n2, n3⟩ := r.ow p _ e2
  exact ⟨_, getD_some e1, kr _ _ q F _ _ H _ r ⟨p, vs, ds, rfl, rfl, n2, n1, e3, ra⟩⟩
/-- if -/
def wIfS (wt : WT) (w w2 : WS) : WS := fun C E => wt E (fun b => if b = true then w C E else w2 C E) (fun c => C.ex c E)
theorem s_if {sb : List Stmt} (hc : JT X W c wt) (ha : Ss m X W sts w) (hb : Ss m X W sb w2) : S m X W (.If c sts sb pos) (wIfS wt w w2) := ps_imp (ps_if hc ha hb) fun DD σ H ⟨H0, F0, F, own, E, C, r, q, kn, kb, kc, kr, kx⟩ =>
  ⟨H0, F0, F, own, E, _, _, r, q, fun b hb F' H' g => by
    cases b with
    | true => exact iteT ⟨H0, F0, F', own, E, C, r.grow g, hb, kn, kb, kc, kr, kx⟩
    | false => exact iteF ⟨H0, F0, F', own, E, C, r.grow g, hb, kn, kb, kc, kr, kx⟩, fun c hc F' H' g => kx c _ _ _ _ _ (r.grow g) hc⟩
/-- x op= e, ints -/
def wAugI (i : Nat) (we : WE) (f : Int → Int → Int) : WS := fun C E => ∃ n, E[i]? = some (.fr (.int n)) ∧ we E (fun d => ∃ k, d = .int k ∧ C.nx (E.set i (.fr (.int (f n k))))) (fun c => C.ex c E)
theorem s_augI {i : Nat} {x : Str} {op : Operator} {f : Int → Int → Int} {pos' : Pos} (hN : X.N.Nodup) (ho : PIp X op (ipI f)) (he : J m1 X W e we) (hi : X.N[i]? = some x := by rfl) (hx : Loc X.env.scope x := by first | exact Or.inl rfl | exact Or.inr rfl)
    (hf : X.fn x = true ∨ X.env.scope.names.lookup x = some .local := by first | exact .inl rfl | exact .inr rfl) : S m X W (.AugAssign (.Name x pos') op e pos) (wAugI i we f) :=
  ps_imp (ps_aug hN hi hx he.rd ho hf) fun DD σ H ⟨H0, F0, F, own, E, C, r, ⟨n, en, q⟩, kn, kb, kc, kr, kx⟩ => by
    obtain ⟨v, e1, rv⟩ := r.sl _ _ en
    cases rv
    exact ⟨_, getD_some e1, H0, F0, F, own, E, _, _, r, q, fun d ⟨k, ed, hd⟩ F' H' v g rs => by
      subst ed
      exact ⟨n, k, rfl, rs.int, kn _ _ _ _ _ ((r.grow g).putFr (.int _)) hd⟩, fun c hc F' H' g => kx c _ _ _ _ _ (r.grow g) hc⟩

/-! lists of one's own change -/
theorem ow_at {K : Frag} {H0 F0 F H : Hp} {own : Own} {E : List Sl} {σ : St} {i : Nat} {ds : List D} (r : Rel K H0 F0 F own E σ H) (e : E[i]? = some (.ow ds)) :
    ∃ p vs, σ[i]? = some (some (.ref p)) ∧ own p = some i ∧ H p = some (.lst vs) ∧ RpAll K F vs ds ∧ σ.getD i none = some (.ref p) := by
  obtain ⟨p, vs, e1, e2, e3, ra⟩ := r.sl i _ e
  exact ⟨p, vs, getD_some e1, e2, e3, ra, e1⟩
theorem ow_chg {K : Frag} {H0 F0 F H : Hp} {own : Own} {E : List Sl} {σ : St} {i : Nat} {ds : List D} {p : Addr} {vs : List V} (r : Rel K H0 F0 F own E σ H) (e1 : σ.getD i none = some (.ref p)) (e2 : own p = some i) (ra : RpAll K F vs ds) :
    Rel K H0 F0 F own (E.set i (.ow ds)) σ (upd H p (.lst vs)) := r.chg e2 ⟨p, vs, e1, e2, upd_same, ra⟩
/-- x.append(e) -/
def wApp (i : Nat) (we : WE) : WS := fun C E => ∃ ds, E[i]? = some (.ow ds) ∧ ds.length < sizeLine ∧ we E (fun d => C.nx (E.set i (.ow (ds ++ [d])))) (fun c => C.ex c E)
theorem s_app {i : Nat} {xe : Expr} {apos cpos : Pos} (hx : PE X xe (tVar i)) (he : J .fz X W e we)
    (hs : swapsWith (.Call (.Attribute xe "append" apos) [e] [] cpos) none pos.line X.env = pure false := by rfl)
    (hbase : attributeBase xe "append" X.env (eval xe X.env) = eval xe X.env := by rfl)
    (hfew : ((backTo cpos (starEach [e] X.env)).all (fun x => !x.1) && (backToKw cpos (keywordEach [] X.env)).all (fun x => x.1.isSome)
      && decide ([e].length + ([] : List Keyword).length + (if ([] : List Keyword).isEmpty then 0 else 1) < 30)) = true := by rfl)
    (hline : (apos.endLine == cpos.line) = true := by rfl) (hst : starEach [e] X.env = (false, eval e X.env) :: starEach [] X.env := by rfl) :
    S m X W (.Expr (.Call (.Attribute xe "append" apos) [e] [] cpos) pos) (wApp i we) :=
  ps_imp (ps_expr (pe_bm PySem.F.plainAttrs_list PySem.F.slot_list_append PySem.F.type_list_append mt_append hx (pa_cons he pa_nil hst) hbase hfew hline hst rfl) hs) fun DD σ H ⟨H0, F0, F, own, E, C, r, ⟨ds, ed, hl, q⟩, kn, kb, kc, kr, kx⟩ => by
    obtain ⟨p, vs, e1, e2, e3, ra, e4⟩ := ow_at r ed
    refine ⟨_, e1, .inl ⟨rfl, vs, SqL.of e3⟩, H0, F0, F, own, E, _, _, r, q, fun d hd F' H' v g rs => ?_, fun c hc F' H' g => kx c _ _ _ _ _ (r.grow g) hc⟩
    have e3' := g.h _ _ e3
    exact ⟨p, vs, v, rfl, rfl, e3', by rw [ra.len]; exact hl, kn _ _ _ _ _ (ow_chg (r.grow g) e4 e2 ((RpAll.mono g.f _ _ ra).append (.cons rs .nil))) hd⟩
/-- x.extend(e) -/
def wExt (i : Nat) (we : WE) : WS := fun C E => ∃ ds, E[i]? = some (.ow ds) ∧ we E (fun d => ∃ es, d = .list es ∧ ds.length + es.length ≤ sizeLine ∧ C.nx (E.set i (.ow (ds ++ es)))) (fun c => C.ex c E)
theorem s_ext {i : Nat} {xe : Expr} {apos cpos : Pos} (hx : PE X xe (tVar i)) (he : J m1 X W e we) (h1 : m1 ≠ .rd := by decide)
    (hs : swapsWith (.Call (.Attribute xe "extend" apos) [e] [] cpos) none pos.line X.env = pure false := by rfl)
    (hbase : attributeBase xe "extend" X.env (eval xe X.env) = eval xe X.env := by rfl)
    (hfew : ((backTo cpos (starEach [e] X.env)).all (fun x => !x.1) && (backToKw cpos (keywordEach [] X.env)).all (fun x => x.1.isSome)
      && decide ([e].length + ([] : List Keyword).length + (if ([] : List Keyword).isEmpty then 0 else 1) < 30)) = true := by rfl)
    (hline : (apos.endLine == cpos.line) = true := by rfl) (hst : starEach [e] X.env = (false, eval e X.env) :: starEach [] X.env := by rfl) :
    S m X W (.Expr (.Call (.Attribute xe "extend" apos) [e] [] cpos) pos) (wExt i we) :=
  ps_imp (ps_expr (pe_bm PySem.F.plainAttrs_list PySem.F.slot_list_extend PySem.F.type_list_extend mt_extend hx (pa_cons he pa_nil hst) hbase hfew hline hst rfl) hs) fun DD σ H ⟨H0, F0, F, own, E, C, r, ⟨ds, ed, q⟩, kn, kb, kc, kr, kx⟩ => by
    obtain ⟨p, vs, e1, e2, e3, ra, e4⟩ := ow_at r ed
    refine ⟨_, e1, .inl ⟨rfl, vs, SqL.of e3⟩, H0, F0, F, own, E, _, _, r, q, fun d ⟨es, eq, hl, hd⟩ F' H' v g rs => ?_, fun c hc F' H' g => kx c _ _ _ _ _ (r.grow g) hc⟩
    subst eq
    have e3' := g.h _ _ e3
    obtain ⟨p2, vs2, rfl, h2, ra2⟩ := (rs.tk_of h1).trk g.fh
    exact ⟨p, p2, vs, vs2, rfl, rfl, e3', h2, by rw [ra.len, ra2.len]; exact hl, kn _ _ _ _ _ (ow_chg (r.grow g) e4 e2 ((RpAll.mono g.f _ _ ra).append ra2)) hd⟩
/-- x[k] = e -/
def wPutI (i : Nat) (wk we : WE) : WS := fun C E => ∃ ds, E[i]? = some (.ow ds) ∧ we E (fun d => wk E (fun k => ∃ n j, k = .int n ∧ ixN ds.length n = some j ∧ C.nx (E.set i (.ow (ds.set j d)))) (fun c => C.ex c E)) (fun c => C.ex c E)
theorem s_putI {i : Nat} {xe ke : Expr} {wk : WE} {pos' : Pos} (hx : PE X xe (tVar i)) (hk : J m1 X W ke wk) (he : J .fz X W e we)
    (ha : ∀ v, assign (.Subscript xe ke pos') X.env v = (do
      let ov ← holding [v] (eval xe X.env)
      let iv ← holding [v, ov] (eval ke X.env)
      standAt pos'
      holding [v, ov, iv] (setItem ov iv v)
      release [v, ov, iv] []) := by intro _; rfl)
    (hs : swapsWithSole [.Subscript xe ke pos'] e pos.line X.env = pure false := by rfl) (hw : swappedStores [.Subscript xe ke pos'] e X.env = pure none := by rfl)
    (h1 : (assignEach [.Subscript xe ke pos'] X.env).map (·.2) = [assign (.Subscript xe ke pos') X.env] := by rfl) : S m X W (.Assign [.Subscript xe ke pos'] e pos) (wPutI i wk we) :=
  ps_imp (ps_asg he (pg_sub hx hk.rd set_list ha) hs hw h1) fun DD σ H ⟨H0, F0, F, own, E, C, r, ⟨ds, ed, q⟩, kn, kb, kc, kr, kx⟩ => by
    obtain ⟨p, vs, e1, e2, e3, ra, e4⟩ := ow_at r ed
    refine ⟨H0, F0, F, own, E, _, _, r, q, fun d hd F' H' v g rs => ⟨_, e1, H0, F0, F', own, E, _, _, r.grow g, hd, fun k ⟨n, j, ek, hj, hn⟩ F2 H2 kv g2 rk => ?_, fun c hc F2 H2 g2 => kx c _ _ _ _ _ ((r.grow g).grow g2) hc⟩, fun c hc F' H' g => kx c _ _ _ _ _ (r.grow g) hc⟩
    subst ek
    have e3' := (g.trans g2).h _ _ e3
    exact ⟨p, vs, n, j, rfl, rk.int, e3', by rw [ra.len]; exact hj, kn _ _ _ _ _ (ow_chg ((r.grow g).grow g2) e4 e2 (RpAll.set j (Rp.mono g2.f _ _ rs) (RpAll.mono (g.trans g2).f _ _ ra))) hn⟩
/-- y.pop(k) -/
def wPopAt (i : Nat) (wk : WE) (K : D → List Sl → Prop) (KX : Str → Prop) (E : List Sl) : Prop := ∃ ds, E[i]? = some (.ow ds) ∧ wk E (fun k => ∃ n j d, k = .int n ∧ -(2 ^ 63) ≤ n ∧ n < 2 ^ 63 ∧ seqIndex? n ds.length = some j ∧ ds[j]? = some d ∧ K d (E.set i (.ow (ds.eraseIdx j)))) KX
def wAppPop (i j : Nat) (wk : WE) : WS := fun C E => ∃ zs, E[j]? = some (.ow zs) ∧ zs.length < sizeLine ∧ wPopAt i wk (fun d E' => C.nx (E'.set j (.ow (zs ++ [d])))) (fun c => C.ex c E) E
def wSetPopAt (i j : Nat) (wk : WE) : WS := fun C E => wPopAt i wk (fun d E' => C.nx (E'.set j (.fr d))) (fun c => C.ex c E) E
def wPopAtS (i : Nat) (wk : WE) : WS := fun C E => wPopAt i wk (fun _ E' => C.nx E') (fun c => C.ex c E) E
theorem popAt_rd {i : Nat} {wk : WE} {σ : St} {H : Hp} {Q : VK} {H0 F0 F : Hp} {own : Own} {E : List Sl} {K : D → List Sl → Prop} {KX : Str → Prop} (r : Rel X.K H0 F0 F own E σ H) (q : wPopAt i wk K KX E)
    (k : ∀ d F' E' H' v, Rel X.K H0 F0 F' own E' σ H' → Rp X.K F' v d → K d E' → Q v H') (x : ∀ c, KX c → ∀ F' H', Grow F H F' H' → W (.ref (cA X.K c)) none σ H') :
    tBM X.K "list" rPopAt (tVar i) (tCons (tJ .rd X.K W wk) tNil) σ H Q := by
  obtain ⟨ds, ed, q⟩ := q
  obtain ⟨p, vs, e1, e2, e3, ra, e4⟩ := ow_at r ed
  refine ⟨_, e1, .inl ⟨rfl, vs, SqL.of e3⟩, H0, F0, F, own, E, _, _, r, q, fun d ⟨n, j, y, ek, h1, h2, hj, hy, hn⟩ F' H' v g rs => ?_, x⟩
  subst ek
  have ra' := RpAll.mono g.f _ _ ra
  obtain ⟨yv, hyv, ry⟩ := ra'.get hy
  have r' := ow_chg (r.grow g) e4 e2 (ra'.erase j)
  exact ⟨p, vs, n, j, yv, rfl, by rw [rs.int], g.h _ _ e3, h1, h2, by rw [ra.len]; exact hj, hyv, k y F' _ _ yv r' ry hn⟩
theorem s_setPopAt {i j : Nat} {xe ke : Expr} {wk : WE} {x : Str} {pos' apos cpos : Pos} (hN : X.N.Nodup) (hx : PE X xe (tVar i)) (hk : J m1 X W ke wk) (hi : X.N[j]? = some x := by rfl) (hl : Loc X.env.scope x := by first | exact Or.inl rfl | exact Or.inr rfl)
    (hs : swapsWith (.Call (.Attribute xe "pop" apos) [ke] [] cpos) (some (.Name x pos')) pos.line X.env = pure false := by rfl)
    (hf : X.fn x = true ∨ X.env.scope.names.lookup x = some .local := by first | exact .inl rfl | exact .inr rfl)
    (hbase : attributeBase xe "pop" X.env (eval xe X.env) = eval xe X.env := by rfl)
    (hfew : ((backTo cpos (starEach [ke] X.env)).all (fun x => !x.1) && (backToKw cpos (keywordEach [] X.env)).all (fun x => x.1.isSome)
      && decide ([ke].length + ([] : List Keyword).length + (if ([] : List Keyword).isEmpty then 0 else 1) < 30)) = true := by rfl)
    (hline : (apos.endLine == cpos.line) = true := by rfl) (hst : starEach [ke] X.env = (false, eval ke X.env) :: starEach [] X.env := by rfl) :
    S m X W (.Assign [.Name x pos'] (.Call (.Attribute xe "pop" apos) [ke] [] cpos) pos) (wSetPopAt i j wk) :=
  ps_imp (ps_set hN hi hl (pe_bm PySem.F.plainAttrs_list PySem.F.slot_list_pop PySem.F.type_list_pop mt_popAt hx (pa_cons hk.rd pa_nil hst) hbase hfew hline hst rfl) hs hf) fun DD σ H ⟨H0, F0, F, own, E, C, r, q, kn, kb, kc, kr, kx⟩ =>
    popAt_rd r q (fun d F' E' H' v r' rp hd => kn _ _ _ _ _ (r'.putFr rp) hd) fun c hc F' H' g => kx c _ _ _ _ _ (r.grow g) hc
/-- z.append(y.pop(k)) -/
theorem s_appPopAt {i j : Nat} {ze xe ke : Expr} {wk : WE} {apos cpos apos2 cpos2 : Pos} (hz : PE X ze (tVar j)) (hx : PE X xe (tVar i)) (hk : J m1 X W ke wk) (hij : i ≠ j)
    (hs : swapsWith (.Call (.Attribute ze "append" apos2) [.Call (.Attribute xe "pop" apos) [ke] [] cpos] [] cpos2) none pos.line X.env = pure false := by rfl)
    (hbase : attributeBase xe "pop" X.env (eval xe X.env) = eval xe X.env := by rfl)
    (hfew : ((backTo cpos (starEach [ke] X.env)).all (fun x => !x.1) && (backToKw cpos (keywordEach [] X.env)).all (fun x => x.1.isSome)
      && decide ([ke].length + ([] : List Keyword).length + (if ([] : List Keyword).isEmpty then 0 else 1) < 30)) = true := by rfl)
    (hline : (apos.endLine == cpos.line) = true := by rfl) (hst : starEach [ke] X.env = (false, eval ke X.env) :: starEach [] X.env := by rfl)
    (hbase2 : attributeBase ze "append" X.env (eval ze X.env) = eval ze X.env := by rfl)
    (hfew2 : ((backTo cpos2 (starEach [.Call (.Attribute xe "pop" apos) [ke] [] cpos] X.env)).all (fun x => !x.1) && (backToKw cpos2 (keywordEach [] X.env)).all (fun x => x.1.isSome)
      && decide ([(Expr.Call (.Attribute xe "pop" apos) [ke] [] cpos)].length + ([] : List Keyword).length + (if ([] : List Keyword).isEmpty then 0 else 1) < 30)) = true := by rfl)
    (hline2 : (apos2.endLine == cpos2.line) = true := by rfl) (hst2 : starEach [.Call (.Attribute xe "pop" apos) [ke] [] cpos] X.env = (false, eval (.Call (.Attribute xe "pop" apos) [ke] [] cpos) X.env) :: starEach [] X.env := by rfl) :
    S m X W (.Expr (.Call (.Attribute ze "append" apos2) [.Call (.Attribute xe "pop" apos) [ke] [] cpos] [] cpos2) pos)
      (wAppPop i j wk) :=
  ps_imp (ps_expr (pe_bm PySem.F.plainAttrs_list PySem.F.slot_list_append PySem.F.type_list_append mt_append hz (pa_cons (pe_bm PySem.F.plainAttrs_list PySem.F.slot_list_pop PySem.F.type_list_pop mt_popAt hx (pa_cons hk.rd pa_nil hst) hbase hfew hline hst rfl) pa_nil hst2) hbase2 hfew2 hline2 hst2 rfl) hs) fun DD σ H ⟨H0, F0, F, own, E, C, r, ⟨zs, ez, hz, q⟩, kn, kb, kc, kr, kx⟩ => by
    obtain ⟨p, vs, e1, e2, e3, ra, e4⟩ := ow_at r ez
    refine ⟨_, e1, .inl ⟨rfl, vs, SqL.of e3⟩, ?_⟩
    obtain ⟨ds, ed, q⟩ := q
    obtain ⟨p2, vs2, f1, f2, f3, ra2, f4⟩ := ow_at r ed
    refine ⟨_, f1, .inl ⟨rfl, vs2, SqL.of f3⟩, H0, F0, F, own, E, _, _, r, q, fun d ⟨n, jj, y, ek, h1, h2, hj, hy, hn⟩ F' H' v g rs => ?_, fun c hc F' H' g => kx c _ _ _ _ _ (r.grow g) hc⟩
    subst ek
    have ra' := RpAll.mono g.f _ _ ra2
    obtain ⟨yv, hyv, ry⟩ := ra'.get hy
    have r' := ow_chg (r.grow g) f4 f2 (ra'.erase jj)
    have hpp : p ≠ p2 := fun z => by
      subst z; rw [e2] at f2; exact hij (Option.some.inj f2).symm
    refine ⟨p2, vs2, n, jj, yv, rfl, by rw [rs.int], g.h _ _ f3, h1, h2, by rw [ra2.len]; exact hj, hyv, ?_⟩
    have e3' : (upd H' p2 (.lst (vs2.eraseIdx jj))) p = some (.lst vs) := by rw [upd_ne hpp]; exact g.h _ _ e3
    exact ⟨p, vs, yv, rfl, rfl, e3', by rw [ra.len]; exact hz, kn _ _ _ _ _ (ow_chg r' e4 e2 ((RpAll.mono g.f _ _ ra).append (.cons ry .nil))) hn⟩
/-- x = y.pop(), and the popped is thrown away -/

def wPop (i : Nat) (K : D → List Sl → Prop) (E : List Sl) : Prop := ∃ ds d, E[i]? = some (.ow ds) ∧ ds[ds.length - 1]? = some d ∧ K d (E.set i (.ow ds.dropLast))
def wSetPop (i j : Nat) : WS := fun C E => wPop i (fun d E' => C.nx (E'.set j (.fr d))) E
theorem rpAll_dropLast {K : Frag} {F : Hp} {vs : List V} {ds : List D} (h : RpAll K F vs ds) : RpAll K F vs.dropLast ds.dropLast := by
  rw [List.dropLast_eq_take, List.dropLast_eq_take, h.len]
  exact h.take _
theorem pop_rd {i : Nat} {σ : St} {H : Hp} {Q : VK} {H0 F0 F : Hp} {own : Own} {E : List Sl} {K : D → List Sl → Prop} (r : Rel X.K H0 F0 F own E σ H) (q : wPop i K E)
    (k : ∀ d E' H' v, Rel X.K H0 F0 F own E' σ H' → Rp X.K F v d → K d E' → Q v H') : tBM0 X.K "list" rPop (tVar i) σ H Q := by
  obtain ⟨ds, d, ed, hy, q⟩ := q
  obtain ⟨p, vs, e1, e2, e3, ra, e4⟩ := ow_at r ed
  obtain ⟨yv, hyv, ry⟩ := ra.get hy
  exact ⟨_, e1, .inl ⟨rfl, vs, SqL.of e3⟩, p, vs, yv, rfl, rfl, e3, by rw [ra.len]; exact hyv, k d _ _ yv (ow_chg r e4 e2 (rpAll_dropLast ra)) ry q⟩
theorem s_setPop {i j : Nat} {xe : Expr} {x : Str} {pos' apos cpos : Pos} (hN : X.N.Nodup) (hx : PE X xe (tVar i)) (hi : X.N[j]? = some x := by rfl) (hl : Loc X.env.scope x := by first | exact Or.inl rfl | exact Or.inr rfl)
    (hs : swapsWith (.Call (.Attribute xe "pop" apos) [] [] cpos) (some (.Name x pos')) pos.line X.env = pure false := by rfl)
    (hf : X.fn x = true ∨ X.env.scope.names.lookup x = some .local := by first | exact .inl rfl | exact .inr rfl)
    (hbase : attributeBase xe "pop" X.env (eval xe X.env) = eval xe X.env := by rfl) (hline : (apos.endLine == cpos.line) = true := by rfl) :
    S m X W (.Assign [.Name x pos'] (.Call (.Attribute xe "pop" apos) [] [] cpos) pos) (wSetPop i j) :=
  ps_imp (ps_set hN hi hl (pe_bm0 PySem.F.plainAttrs_list PySem.F.slot_list_pop PySem.F.type_list_pop mt_pop hx hbase hline) hs hf) fun DD σ H ⟨H0, F0, F, own, E, C, r, q, kn, kb, kc, kr, kx⟩ =>
    pop_rd r q fun d E' H' v r' rp hd => kn _ _ _ _ _ (r'.putFr rp) hd
theorem s_popAt {i : Nat} {xe ke : Expr} {wk : WE} {apos cpos : Pos} (hx : PE X xe (tVar i)) (hk : J m1 X W ke wk)
    (hs : swapsWith (.Call (.Attribute xe "pop" apos) [ke] [] cpos) none pos.line X.env = pure false := by rfl)
    (hbase : attributeBase xe "pop" X.env (eval xe X.env) = eval xe X.env := by rfl)
    (hfew : ((backTo cpos (starEach [ke] X.env)).all (fun x => !x.1) && (backToKw cpos (keywordEach [] X.env)).all (fun x => x.1.isSome)
      && decide ([ke].length + ([] : List Keyword).length + (if ([] : List Keyword).isEmpty then 0 else 1) < 30)) = true := by rfl)
    (hline : (apos.endLine == cpos.line) = true := by rfl) (hst : starEach [ke] X.env = (false, eval ke X.env) :: starEach [] X.env := by rfl) :
    S m X W (.Expr (.Call (.Attribute xe "pop" apos) [ke] [] cpos) pos) (wPopAtS i wk) :=
  ps_imp (ps_expr (pe_bm PySem.F.plainAttrs_list PySem.F.slot_list_pop PySem.F.type_list_pop mt_popAt hx (pa_cons hk.rd pa_nil hst) hbase hfew hline hst rfl) hs) fun DD σ H ⟨H0, F0, F, own, E, C, r, q, kn, kb, kc, kr, kx⟩ =>
    popAt_rd r q (fun d F' E' H' v r' rp hd => kn _ _ _ _ _ r' hd) fun c hc F' H' g => kx c _ _ _ _ _ (r.grow g) hc

/-! ### while -/
def wWhile (wt : WT) (wb : WS) : WS := fun C E => ∃ (I : List Sl → Prop) (mu : List Sl → Nat), I E ∧ ∀ E, I E →
  wt E (fun b => if b = true then wb { C with nx := fun E' => I E' ∧ mu E' < mu E, ct := fun E' => I E' ∧ mu E' < mu E, bk := C.nx } E else C.nx E) (fun c => C.ex c E)
theorem s_while (hp : PassesOwn (model X.prog X.w) X.A X.env X.xe) (hc : JT X W c wt) (hb : Ss m X W sts w) : S m X W (.While c sts [] pos) (wWhile wt w) :=
  ps_imp (ps_while hp hc hb) fun DD σ H ⟨H0, F0, F, own, E, C, r, ⟨I, mu, i0, step⟩, kn, kb, kc, kr, kx⟩ => by
    refine ⟨fun n σ H => ∃ F own E, Rel X.K H0 F0 F own E σ H ∧ I E ∧ n = mu E, ⟨_, F, own, E, r, i0, rfl⟩, ?_⟩
    rintro n σ H ⟨F, own, E, r, hi, rfl⟩
    refine ⟨H0, F0, F, own, E, _, _, r, step E hi, fun b hb F' H' g => ?_, fun c hc F' H' g => kx c _ _ _ _ _ (r.grow g) hc⟩
    cases b with
    | false => exact iteF (kn _ _ _ _ _ (r.grow g) hb)
    | true =>
      refine iteT ⟨fun σ' H' => ∃ F' own' E', Rel X.K H0 F0 F' own' E' σ' H' ∧ I E' ∧ mu E' < mu E, fun σ' H' ⟨F', own', E', r', i', l'⟩ => ⟨_, l', F', own', E', r', i', rfl⟩, H0, F0, F', own, E, _, r.grow g, hb, ?_, ?_, ?_, ?_, ?_⟩
      · exact fun F' own' E' σ' H' r' ⟨i', l'⟩ => ⟨F', own', E', r', i', l'⟩
      · exact kn
      · exact fun F' own' E' σ' H' r' ⟨i', l'⟩ => ⟨F', own', E', r', i', l'⟩
      · exact kr
      · exact kx
end
end Tb

set_option Elab.async false
set_option linter.all false
set_option maxRecDepth 100000
namespace Tb
open PySem PySem.Spec L2

/-! ### targets -/
inductive Pt where
  | one (i : Nat)
  | many (is : List Nat)
def setsS (σ : St) : List Nat → List V → St
  | i :: is, v :: vs => setsS (σ.set i (some v)) is vs
  | _, _ => σ
def setsE (E : List Sl) : List Nat → List D → List Sl
  | i :: is, d :: ds => setsE (E.set i (.fr d)) is ds
  | _, _ => E
def Pt.up : Pt → D → List Sl → (List Sl → Prop) → Prop
  | .one i, d, E, K => K (E.set i (.fr d))
  | .many is, d, E, K => ∃ ds, d = .tuple ds ∧ ds.length = is.length ∧ K (setsE E is ds)
def gNames : List Nat → TGs
  | [] => gNil
  | i :: is => gCons (gName i) (gNames is)
def Pt.g (K : Frag) : Pt → TG
  | .one i => gName i
  | .many is => gTup K is.length (gNames is)
def Pt.is : Pt → List Nat
  | .one i => [i]
  | .many is => is
section
variable {K : Frag} {H0 F0 F F' H H' : Hp}
theorem names_run : ∀ (is : List Nat) (vs : List V) (ds : List D) {own : Own} {E : List Sl} {σ : St} {Q : St → Hp → Prop}, Rel K H0 F0 F own E σ H → RpAll K F vs ds → ds.length = is.length →
    (∀ own', Rel K H0 F0 F own' (setsE E is ds) (setsS σ is vs) H → Q (setsS σ is vs) H) → gNames is vs σ H Q
  | [], _, [], own, E, σ, Q, r, ra, hl, k => by cases ra; exact ⟨rfl, k own r⟩
  | i :: is, _, d :: ds, own, E, σ, Q, r, ra, hl, k => by
    cases ra with
    | cons r1 r2 => exact ⟨_, _, rfl, names_run is _ ds (r.putFr r1) r2 (by simpa using hl) k⟩
  | [], _, _ :: _, _, _, _, _, _, _, hl, _ => by simp at hl
  | _ :: _, _, [], _, _, _, _, _, _, hl, _ => by simp at hl
theorem Pt.run {own : Own} {E : List Sl} {σ : St} (pt : Pt) {v : V} {d : D} {KE : List Sl → Prop} {Q : St → Hp → Prop} (r : Rel K H0 F0 F own E σ H) (rp : Rp K F v d) (u : pt.up d E KE)
    (k : ∀ own' E' vs, Rel K H0 F0 F own' E' (setsS σ pt.is vs) H → KE E' → Q (setsS σ pt.is vs) H) : pt.g K v σ H Q := by
  cases pt with
  | one i => exact k _ _ [v] (r.putFr rp) u
  | many is =>
    obtain ⟨ds, e, hl, u⟩ := u
    subst e
    cases rp with
    | tup h1 h2 => exact ⟨_, _, rfl, seqT_mono r.g.fh h1, by rw [h2.len]; exact hl, names_run is _ ds r h2 hl fun own' r' => k own' _ _ r' u⟩
theorem wipe_set (σ : St) (i : Nat) (x : Option V) : ∀ {ws : List Nat}, i ∈ ws → wipe (σ.set i x) ws = wipe σ ws
  | w :: ws, h => by
    unfold wipe
    by_cases hw : i ∈ ws
    · rw [wipe_set σ i x hw]
    · have e : i = w := by
        rcases List.mem_cons.mp h with e | e
        · exact e
        · exact absurd e hw
      subst e
      apply List.ext_getElem?
      intro j
      by_cases hj : i = j
      · subst hj
        simp only [List.getElem?_set, wipe_length, List.length_set, if_true]
      · rw [List.getElem?_set_ne hj, List.getElem?_set_ne hj, wipe_get hj hw]
where
  wipe_get {σ : St} {i j : Nat} {x : Option V} (hj : i ≠ j) {ws : List Nat} (hw : i ∉ ws) : (wipe (σ.set i x) ws)[j]? = (wipe σ ws)[j]? := by
    induction ws with
    | nil => exact List.getElem?_set_ne hj
    | cons w ws ih =>
      have h1 : i ∉ ws := fun z => hw (List.mem_cons_of_mem _ z)
      unfold wipe
      by_cases hwj : w = j
      · subst hwj
        simp only [List.getElem?_set, wipe_length, List.length_set, if_true]
      · rw [List.getElem?_set_ne hwj, List.getElem?_set_ne hwj]
        exact ih h1
theorem wipe_sets : ∀ (is : List Nat) (vs : List V) (σ : St) {ws : List Nat}, (∀ i ∈ is, i ∈ ws) → wipe (setsS σ is vs) ws = wipe σ ws
  | [], _, σ, _, _ => by unfold setsS; rfl
  | i :: is, [], σ, _, _ => by unfold setsS; rfl
  | i :: is, v :: vs, σ, ws, h => by
    unfold setsS
    rw [wipe_sets is vs _ fun j z => h j (List.mem_cons_of_mem _ z), wipe_set σ i _ (h i List.mem_cons_self)]
theorem wipe_wipe (σ : St) (ws : List Nat) : wipe (wipe σ ws) ws = wipe σ ws := by
  have : ∀ (us : List Nat), (∀ i ∈ us, i ∈ ws) → wipe (wipe σ us) ws = wipe σ ws := by
    intro us
    induction us with
    | nil => intro _; rfl
    | cons u us ih =>
      intro h
      show wipe ((wipe σ us).set u none) ws = _
      rw [wipe_set _ u _ (h u List.mem_cons_self)]
      exact ih fun i z => h i (List.mem_cons_of_mem _ z)
  exact this ws fun _ z => z
def wipeE (E : List Sl) : List Nat → List Sl
  | [] => E
  | w :: ws => (wipeE E ws).set w .un
theorem Rel.wipes {σ : St} {E : List Sl} {own : Own} (r : Rel K H0 F0 F own E σ H) : ∀ ws : List Nat, ∃ own', Rel K H0 F0 F own' (wipeE E ws) (wipe σ ws) H
  | [] => ⟨own, r⟩
  | w :: ws => by
    obtain ⟨own', r'⟩ := r.wipes ws
    exact ⟨_, r'.putUn (i := w) (o := none)⟩
/-- the frozen part as it stands taken for the start -/
theorem Rel.base {σ : St} {E : List Sl} {own : Own} (r : Rel K H0 F0 F own E σ H) : Rel K H0 F F own E σ H := ⟨r.len, ⟨Same.refl _, r.g.h, r.g.fh, fun _ z => .inl z⟩, r.ow, r.sl⟩
theorem Grow.unbase (g : Grow F0 H0 F H) (g2 : Grow F H0 F' H') : Grow F0 H0 F' H' := ⟨g.f.trans g2.f, g2.h, g2.fh, fun a z => by
  rcases g2.new a z with q | q
  · exact g.new a q
  · exact .inr q⟩
theorem Rel.unbase {σ : St} {E : List Sl} {own : Own} (g : Grow F0 H0 F H) (r : Rel K H0 F F' own E σ H') : Rel K H0 F0 F' own E σ H' := ⟨r.len, g.unbase r.g, r.ow, r.sl⟩
end

/-! ### what is walked -/
def ItOk (K : Frag) (H0 F1 : Hp) (I : It) (ds : List D) : Prop := ∀ F H, Same F1 F → Same F H → Same H0 H →
  (∀ i d, ds[i]? = some d → I.go i H ∧ ∀ x H', I.yld i H x H' → ∃ F', Grow F H F' H' ∧ Rp K F' x d) ∧ I.stop ds.length H
abbrev WI := List Sl → (List D → Prop) → (Str → Prop) → Prop
def tI (K : Frag) (W : WX) (w : WI) : TI := fun σ H R => ∃ H0 F0 F own E KI KX, Rel K H0 F0 F own E σ H ∧ w E KI KX ∧
  (∀ ds, KI ds → ∀ F' H' I, Grow F H F' H' → ItOk K H0 F' I ds → R I H') ∧ (∀ c, KX c → ∀ F' H', Grow F H F' H' → W (.ref (cA K c)) none σ H')
def IJ (X : Cx) (W : WX) (tg e : Expr) (w : WI) : Prop := PI X tg e (tI X.K W w)
section
variable {X : Cx} {W : WX} {a b c e e2 e3 tg : Expr} {es : List Expr} {pos p p2 : Pos} {m m1 m2 m3 : Mo} {ms : List Mo} {we we2 we3 : WE} {ws : WA} {wt : WT} {st : Stmt} {sts : List Stmt} {w w2 w3 : WS} {wi : WI}
theorem itl_ok {K : Frag} {H0 F1 : Hp} {q : Addr} {vs : List V} {ds : List D} (hs : ∀ F H, Same F1 F → Same F H → Same H0 H → SqL K H q vs) (hu : ∀ H ys, SqL K H q vs → SqL K H q ys → vs = ys) (ra : RpAll K F1 vs ds) : ItOk K H0 F1 (Itl K q) ds := fun F H h1 h2 h3 => by
  have sq := hs F H h1 h2 h3
  refine ⟨fun i d e => ?_, ⟨vs, sq, by rw [ra.len]; exact Nat.le_refl _⟩⟩
  obtain ⟨v, ev, rv⟩ := ra.get e
  refine ⟨⟨vs, v, sq, ev⟩, fun x H' ⟨eH, hx⟩ => ?_⟩
  subst eH
  have ex := hx vs sq
  rw [ev] at ex
  cases ex
  exact ⟨F, Grow.refl h2, Rp.mono h1 _ _ rv⟩
theorem itl_ok' {K : Frag} {H0 F1 : Hp} {q : Addr} {vs : List V} {ds : List D} (hs : ∀ F H, Same F1 F → Same F H → Same H0 H → SqL K H q vs) (ra : RpAll K F1 vs ds) : ItOk K H0 F1 (Itl K q) ds := fun F H h1 h2 h3 => by
  have sq := hs F H h1 h2 h3
  refine ⟨fun i d e => ?_, ⟨vs, sq, by rw [ra.len]; exact Nat.le_refl _⟩⟩
  obtain ⟨v, ev, rv⟩ := ra.get e
  refine ⟨⟨vs, v, sq, ev⟩, fun x H' ⟨eH, hx⟩ => ?_⟩
  subst eH
  have ex := hx vs sq
  rw [ev] at ex
  cases ex
  exact ⟨F, Grow.refl h2, Rp.mono h1 _ _ rv⟩
def wIL (we : WE) : WI := fun E KI KX => we E (fun d => ∃ ds, d = .list ds ∧ KI ds) KX
theorem i_list (he : J .fz X W e we) : IJ X W tg e (wIL we) := pi_imp (pi_list he) fun σ H R ⟨H0, F0, F, own, E, KI, KX, r, q, k, x⟩ =>
  ⟨H0, F0, F, own, E, _, KX, r, q, fun d ⟨ds, ed, hd⟩ F' H' v g rs => by
    subst ed
    cases rs with
    | lst h1 h2 => exact ⟨_, rfl, ⟨_, SqL.of (g.fh _ _ h1)⟩, k ds hd F' H' _ g (itl_ok' (fun F2 H2 s1 s2 _ => SqL.of (s2 _ _ (s1 _ _ h1))) h2)⟩, x⟩
/-- a list of another's -/
def wIB (i : Nat) : WI := fun E KI _ => ∃ ds, E[i]? = some (.bo ds) ∧ KI ds
theorem i_bo {i : Nat} (he : PE X e (tVar i)) : IJ X W tg e (wIB i) := pi_imp (pi_list he) fun σ H R ⟨H0, F0, F, own, E, KI, KX, r, ⟨ds, ed, q⟩, k, x⟩ => by
  obtain ⟨p, vs, e1, sq, ra⟩ := r.sl _ _ ed
  exact ⟨_, getD_some e1, p, rfl, ⟨vs, r.g.h.seq sq⟩, k ds q F H _ (Grow.refl r.g.fh) (itl_ok' (fun F2 H2 _ _ s3 => s3.seq sq) ra)⟩
def wIT (we : WE) : WI := fun E KI KX => we E (fun d => ∃ ds, d = .tuple ds ∧ KI ds) KX
theorem i_tup (he : J m X W e we) : IJ X W tg e (wIT we) := pi_imp (pi_tup he.rd) fun σ H R ⟨H0, F0, F, own, E, KI, KX, r, q, k, x⟩ =>
  ⟨H0, F0, F, own, E, _, KX, r, q, fun d ⟨ds, ed, hd⟩ F' H' v g rs => by
    subst ed
    have rp : Rp X.K F' v (.tuple ds) := Res.scal (e := .none) (fun _ z => nomatch z) rs
    cases rp with
    | tup h1 h2 =>
      refine ⟨_, rfl, ⟨_, seqT_mono g.fh h1⟩, k ds hd F' H' _ g fun F2 H2 s1 s2 _ => ?_⟩
      have sq := seqT_mono s2 (seqT_mono s1 h1)
      refine ⟨fun i d e => ?_, ⟨_, sq, by rw [h2.len]; exact Nat.le_refl _⟩⟩
      obtain ⟨v, ev, rv⟩ := h2.get e
      refine ⟨⟨_, v, sq, ev⟩, fun x H' ⟨eH, hx⟩ => ?_⟩
      subst eH
      have ex := hx _ sq
      rw [ev] at ex
      cases ex
      exact ⟨F2, Grow.refl s2, Rp.mono s1 _ _ rv⟩, x⟩
theorem range_at {lo : Int} {n i : Nat} {d : D} (h : (rangeD lo n)[i]? = some d) : i < n ∧ d = .int (lo + (i : Nat)) := by
  unfold rangeD at h
  rw [List.getElem?_map] at h
  by_cases hi : i < n
  · rw [List.getElem?_range hi] at h
    exact ⟨hi, (Option.some.inj h).symm⟩
  · rw [List.getElem?_eq_none (by simp; omega)] at h; cases h
theorem range_len (lo : Int) (n : Nat) : (rangeD lo n).length = n := by simp [rangeD]
theorem itr_ok {K : Frag} {H0 F1 : Hp} (lo : Int) (n : Nat) : ItOk K H0 F1 (Itr lo n) (rangeD lo n) := fun F H h1 h2 h3 => by
  refine ⟨fun i d e => ?_, by rw [range_len]; exact Nat.le_refl _⟩
  obtain ⟨hi, rfl⟩ := range_at e
  exact ⟨hi, fun x H' ⟨eH, ex⟩ => by
    subst eH ex
    exact ⟨F, Grow.refl h2, .int _⟩⟩
def wIR1 (we : WE) : WI := fun E KI KX => we E (fun d => ∃ n : Int, d = .int n ∧ n < 2 ^ 62 ∧ -(2 ^ 62) ≤ n ∧ KI (rangeD 0 n.toNat)) KX
theorem i_rg1 (hm : X.mg "range" = none) (he : J m X W e we) (hg : Gl X "range" := by rfl) (hst : starEach [e] X.env = [(false, eval e X.env)] := by rfl) : IJ X W tg (.Call (.Name "range" p) [e] [] pos) (wIR1 we) :=
  pi_imp (pi_range1 hg hm (pa_cons he.rd pa_nil hst) hst) fun σ H R ⟨H0, F0, F, own, E, KI, KX, r, q, k, x⟩ =>
  ⟨H0, F0, F, own, E, _, KX, r, q, fun d ⟨n, ed, h1, h2, hd⟩ F' H' v g rs => by
    subst ed
    exact ⟨n, by rw [rs.int], h2, h1, k _ hd F' H' _ g (itr_ok 0 n.toNat)⟩, x⟩
def wIR2 (we we2 : WE) : WI := fun E KI KX => we E (fun d => we2 E (fun d2 => ∃ a b : Int, d = .int a ∧ d2 = .int b ∧ (-(2 ^ 62) ≤ a ∧ a < 2 ^ 62 ∧ -(2 ^ 62) ≤ b ∧ b < 2 ^ 62) ∧ KI (rangeD a (b - a).toNat)) KX) KX
theorem i_rg2 (hm : X.mg "range" = none) (he : J m X W e we) (he2 : J m2 X W e2 we2) (hg : Gl X "range" := by rfl) (hst : starEach [e, e2] X.env = [(false, eval e X.env), (false, eval e2 X.env)] := by rfl) (hst2 : starEach [e2] X.env = [(false, eval e2 X.env)] := by rfl) (hst3 : starEach [e, e2] X.env = (false, eval e X.env) :: starEach [e2] X.env := by rfl) :
    IJ X W tg (.Call (.Name "range" p) [e, e2] [] pos) (wIR2 we we2) :=
  pi_imp (pi_range2 hg hm (pa_cons he.rd (pa_cons he2.rd pa_nil hst2) hst3) hst hst2) fun σ H R ⟨H0, F0, F, own, E, KI, KX, r, q, k, x⟩ =>
  two (by decide) r q (fun d1 d2 ⟨a, b, e1, e2, bb, hd⟩ F' H' v u g r1 r2 => by
    subst e1 e2
    exact ⟨a, b, by rw [r1.int, r2.int], bb, k _ hd F' H' _ g (itr_ok a (b - a).toNat)⟩) x
/-- range(a, b, -1) and other steps -/
def rangeC (lo c : Int) (n : Nat) : List D := (List.range n).map fun i => PyData.int (lo + (i : Nat) * c)
theorem rangeC_at {lo c : Int} {n i : Nat} {d : D} (h : (rangeC lo c n)[i]? = some d) : i < n ∧ d = .int (lo + (i : Nat) * c) := by
  unfold rangeC at h
  rw [List.getElem?_map] at h
  by_cases hi : i < n
  · rw [List.getElem?_range hi] at h
    exact ⟨hi, (Option.some.inj h).symm⟩
  · rw [List.getElem?_eq_none (by simp; omega)] at h; cases h
def wIR3 (we we2 we3 : WE) : WI := fun E KI KX => we E (fun d => we2 E (fun d2 => we3 E (fun d3 => ∃ (a b c : Int) (n : Nat), d = .int a ∧ d2 = .int b ∧ d3 = .int c ∧ RgC a b c n ∧ KI (rangeC a c n)) KX) KX) KX
theorem i_rg3 (hm : X.mg "range" = none) (he : J m X W e we) (he2 : J m2 X W e2 we2) (he3 : J m3 X W e3 we3) (hg : Gl X "range" := by rfl) (hst : starEach [e, e2, e3] X.env = (false, eval e X.env) :: starEach [e2, e3] X.env := by rfl)
    (hst2 : starEach [e2, e3] X.env = (false, eval e2 X.env) :: starEach [e3] X.env := by rfl) (hst3 : starEach [e3] X.env = (false, eval e3 X.env) :: starEach [] X.env := by rfl) (hpl : (backTo pos (starEach [e2, e3] X.env)).any (·.1) = false := by rfl) :
    IJ X W tg (.Call (.Name "range" p) [e, e2, e3] [] pos) (wIR3 we we2 we3) :=
  pi_imp (pi_range3 hg hm (pa_cons he.rd (pa_cons he2.rd (pa_cons he3.rd pa_nil hst3) hst2) hst) hst hpl) fun σ H R ⟨H0, F0, F, own, E, KI, KX, r, q, k, x⟩ =>
  ⟨H0, F0, F, own, E, _, KX, r, q, fun d1 hd1 F1 H1 v1 g1 r1 => ⟨H0, F0, F1, own, E, _, KX, r.grow g1, hd1, fun d2 hd2 F2 H2 v2 g2 r2 => ⟨H0, F0, F2, own, E, _, KX, (r.grow g1).grow g2, hd2, fun d3 ⟨i, j, k3, n, e1, e2, e3, rg, hd⟩ F3 H3 v3 g3 r3 => by
    subst e1 e2 e3
    refine ⟨i, j, k3, n, by rw [r1.int, r2.int, r3.int], rg, k _ hd F3 H3 _ ((g1.trans g2).trans g3) fun F H h1 h2 h3 => ⟨fun t d e => ?_, by simp [rangeC, Itc]⟩⟩
    obtain ⟨hi, rfl⟩ := rangeC_at e
    exact ⟨hi, fun x H' ⟨eH, ex⟩ => by
      subst eH ex
      exact ⟨F, Grow.refl h2, .int _⟩⟩, fun c hc F3 H3 g3 => x c hc F3 H3 ((g1.trans g2).trans g3)⟩, fun c hc F2 H2 g2 => x c hc F2 H2 (g1.trans g2)⟩, x⟩
/-- enumerate of a list -/
def enumD (ds : List D) : List D := (List.range ds.length).map fun i => PyData.tuple [.int (i : Nat), ds.getD i .none]
theorem enumD_at {ds : List D} {i : Nat} {d : D} (h : (enumD ds)[i]? = some d) : ∃ y, ds[i]? = some y ∧ d = .tuple [.int (i : Nat), y] := by
  unfold enumD at h
  rw [List.getElem?_map] at h
  by_cases hi : i < ds.length
  · rw [List.getElem?_range hi] at h
    refine ⟨ds[i], by simp [hi], ?_⟩
    rw [← Option.some.inj h]
    simp [List.getD_eq_getElem?_getD, hi]
  · rw [List.getElem?_eq_none (by simp; omega)] at h; cases h
def wIE (we : WE) : WI := fun E KI KX => we E (fun d => ∃ ds, d = .list ds ∧ KI (enumD ds)) KX
theorem ite_ok {K : Frag} {H0 F1 : Hp} {q : Addr} {vs : List V} {ds : List D} (hs : ∀ F H, Same F1 F → Same F H → Same H0 H → SqL K H q vs) (ra : RpAll K F1 vs ds) : ItOk K H0 F1 (Ite K q) (enumD ds) := fun F H h1 h2 h3 => by
  have sq := hs F H h1 h2 h3
  refine ⟨fun i d e => ?_, ⟨vs, sq, by rw [ra.len]; simp [enumD]⟩⟩
  obtain ⟨y, ey, rfl⟩ := enumD_at e
  obtain ⟨v, ev, rv⟩ := ra.get ey
  refine ⟨⟨vs, v, sq, ev⟩, fun x H' ⟨T, x1, e1, nT, eH, hx⟩ => ?_⟩
  subst eH e1
  have ex := hx vs sq
  rw [ev] at ex
  cases ex
  exact ⟨_, Grow.layF h2 nT, .tup (SqT.of upd_same) (.cons (.int _) (.cons (Rp.mono (h1.trans (same_upd (none_of_same h2 nT))) _ _ rv) .nil))⟩
theorem i_enum {elts : List Expr} {kk : Nat} {tpos : Pos} (hm : X.mg "enumerate" = none) (he : J .fz X W e we) (hg : Gl X "enumerate" := by rfl) (hst : starEach [e] X.env = [(false, eval e X.env)] := by rfl) :
    IJ X W (.Tuple elts kk tpos) (.Call (.Name "enumerate" p) [e] [] pos) (wIE we) :=
  pi_imp (pi_enum hg hm (pa_cons he pa_nil hst) hst) fun σ H R ⟨H0, F0, F, own, E, KI, KX, r, q, k, x⟩ =>
  ⟨H0, F0, F, own, E, _, KX, r, q, fun d ⟨ds, ed, hd⟩ F' H' v g rs => by
    subst ed
    cases rs with
    | lst h1 h2 => exact ⟨_, _, rfl, SqL.of (g.fh _ _ h1), k _ hd F' H' _ g (ite_ok (fun F2 H2 s1 s2 _ => SqL.of (s2 _ _ (s1 _ _ h1))) h2)⟩, x⟩

/-! ### for -/
def wFor (wi : WI) (pt : Pt) (wb : WS) : WS := fun C E => wi E (fun ds => ∃ I : Nat → List Sl → Prop, I 0 E ∧
  (∀ i d E, ds[i]? = some d → I i E → pt.up d E (wb { C with nx := I (i + 1), ct := I (i + 1), bk := C.nx })) ∧ ∀ E, I ds.length E → C.nx E) (fun c => C.ex c E)
theorem s_for (hp : PassesOwn (model X.prog X.w) X.A X.env X.xe) (hc : X.calm = true) (hi : IJ X W tg e wi) {pt : Pt} (hg : PG X tg (pt.g X.K)) (hb : Ss m X W sts w)
    (hs : ∀ x, foldedSetIterable e X.env x = pure x := by intro _; rfl) : S m X W (.For tg e sts [] pos) (wFor wi pt w) :=
  ps_imp (ps_for hp hc hi hg hb hs) fun DD σ H ⟨H0, F0, F, own, E, C, r, q, kn, kb, kc, kr, kx⟩ =>
  ⟨H0, F0, F, own, E, _, _, r, q, fun ds ⟨I, i0, step, done⟩ F1 H1 J g ok => by
    have r1 := r.grow g
    refine ⟨fun i n σ H => ∃ F own E, Rel X.K H0 F1 F own E σ H ∧ I i E ∧ i ≤ ds.length ∧ n = ds.length - i, ⟨_, F1, own, E, r1.base, i0, Nat.zero_le _, rfl⟩, ?_⟩
    rintro i n σ H ⟨F, own, E, rr, hI, hle, rfl⟩
    obtain ⟨go, stop⟩ := ok F H rr.g.f rr.g.fh rr.g.h
    by_cases hlt : i < ds.length
    · have ed : ds[i]? = some ds[i] := List.getElem?_eq_getElem hlt
      obtain ⟨g1, yl⟩ := go i ds[i] ed
      refine .inr ⟨g1, fun σ' H' => ∃ F' own' E', Rel X.K H0 F1 F' own' E' σ' H' ∧ I (i + 1) E', fun σ' H' ⟨F', own', E', r', i'⟩ => ⟨ds.length - (i + 1), by omega, F', own', E', r', i', hlt, rfl⟩, fun x H' y => ?_⟩
      obtain ⟨F2, g2, rp⟩ := yl x H' y
      refine pt.run (rr.grow g2) rp (step i _ E ed hI) fun own' E' vs r' h' => ⟨H0, F1, F2, own', E', _, r', h', ?_, ?_, ?_, ?_, ?_⟩
      · exact fun F' own' E' σ' H' r' i' => ⟨F', own', E', r', i'⟩
      · exact fun F' own' E' σ' H' r' i' => kn _ _ _ _ _ (r'.unbase r1.g) i'
      · exact fun F' own' E' σ' H' r' i' => ⟨F', own', E', r', i'⟩
      · exact fun d E2 hd F' own2 σ2 H' v r2 rs => kr d E2 hd F' own2 σ2 H' v (r2.unbase r1.g) rs
      · exact fun c F' own' E' σ' H' r' h' => kx c _ _ _ _ _ (r'.unbase r1.g) h'
    · have e : i = ds.length := by omega
      subst e
      exact .inl ⟨stop, kn _ _ _ _ _ (rr.unbase r1.g) (done E hI)⟩,
  fun c hc F' H' g => kx c _ _ _ _ _ (r.grow g) hc⟩

/-! ### comprehensions -/
def W0 : WX := fun _ _ _ _ => False
def wLc (wi : WI) (pt : Pt) (wt : WT) (we : WE) (ws : List Nat) : WE := fun E KD KX => wi E (fun ds => ds.length ≤ sizeLine ∧ ∃ f : D → Option D,
  (∀ d ∈ ds, pt.up d (wipeE E ws) fun E' => wt E' (fun b => if b = true then we E' (fun y => f d = some y) (fun _ => False) else f d = none) (fun _ => False)) ∧ KD (.list (ds.filterMap f))) KX
def wYes : WT := fun _ KB _ => KB true
def er (H : Hp) (p : Addr) : Hp := fun b => if b = p then none else H b
theorem er_self {H : Hp} {p : Addr} : er H p p = none := by unfold er; rw [if_pos rfl]
theorem er_ne {H : Hp} {p b : Addr} (h : b ≠ p) : er H p b = H b := by unfold er; rw [if_neg h]
theorem er_upd {H : Hp} {p : Addr} {o : HO} : er (upd H p o) p = er H p := by
  funext b; unfold er upd; split <;> rfl
theorem er_back {H : Hp} {p : Addr} {o : HO} (h : H p = some o) : upd (er H p) p o = H := by
  funext b; unfold er upd; split
  · rename_i e; subst e; exact h.symm
  · rename_i e; exact if_neg e
theorem er_none {H : Hp} {p : Addr} (h : H p = none) : er H p = H := by
  funext b; unfold er; split
  · rename_i e; subst e; exact h.symm
  · rfl
theorem Grow.er {F F' H H' : Hp} {p : Addr} (g : Grow F H F' H') (hf : F p = none) {o : HO} (hp : H p = some o) : Grow F (Tb.er H p) F' (Tb.er H' p) ∧ F' p = none ∧ H' p = some o := by
  have n : F' p = none := by
    cases q : F' p with
    | none => rfl
    | some u =>
      rcases g.new p (by rw [q]; simp) with z | z
      · exact absurd hf z
      · rw [hp] at z; cases z
  refine ⟨⟨g.f, fun b x e => ?_, fun b x e => ?_, fun a h => ?_⟩, n, g.h _ _ hp⟩
  · by_cases hb : b = p
    · subst hb; rw [er_self] at e; cases e
    · rw [er_ne hb] at e ⊢; exact g.h _ _ e
  · by_cases hb : b = p
    · subst hb; rw [n] at e; cases e
    · rw [er_ne hb]; exact g.fh _ _ e
  · rcases g.new a h with z | z
    · exact .inl z
    · refine .inr ?_
      by_cases hb : a = p
      · subst hb; exact er_self
      · rw [er_ne hb]; exact z
theorem Grow.unEr {F F' H H' : Hp} {p : Addr} {o o' : HO} (g : Grow F H F' (Tb.er H' p)) (n : H p = none) (e : H' p = some o) : Grow F H F' H' := by
  have q := g.trans (Grow.lay (o := o) g.fh er_self)
  rw [er_back e] at q
  exact q
theorem lc_rd {pt : Pt} {ws : List Nat} {σ : St} {H : Hp} {Q : VK} (hws : ∀ i ∈ pt.is, i ∈ ws) (h : tJ .nw X.K W (wLc wi pt wt we ws) σ H Q) :
    tLc (tI X.K W wi) (pt.g X.K) (tJT X.K W0 wt) (tJ .fz X.K W0 we) ws σ H Q := by
  obtain ⟨H0, F0, F, own, E, KD, KX, r, q, k, x⟩ := h
  refine ⟨H0, F0, F, own, E, _, _, r, q, fun ds ⟨hl, f, step, done⟩ F1 H1 J g ok P nP => ?_, x⟩
  have r1 := r.grow g
  have nF1 : F1 P = none := none_of_same g.fh nP
  refine ⟨fun i n Hc => ∃ Fc acc, Grow F1 H1 Fc (er Hc P) ∧ Hc P = some (.lst acc) ∧ Fc P = none ∧ RpAll X.K Fc acc ((ds.take i).filterMap f) ∧ i ≤ ds.length ∧ n = ds.length - i, ⟨_, F1, [], ?_, upd_same, nF1, .nil, Nat.zero_le _, rfl⟩, ?_⟩
  · rw [er_upd, er_none nP]; exact Grow.refl g.fh
  rintro i n Hc ⟨Fc, acc, gc, eP, nFc, ra, hle, rfl⟩
  have gc' : Grow F1 H1 Fc Hc := Grow.unEr (o' := .lst []) gc nP eP
  have rc := r1.grow gc'
  obtain ⟨go, stop⟩ := ok Fc Hc gc'.f gc'.fh rc.g.h
  by_cases hlt : i < ds.length
  · have ed : ds[i]? = some ds[i] := List.getElem?_eq_getElem hlt
    obtain ⟨g1, yl⟩ := go i ds[i] ed
    refine .inr ⟨g1, fun H' => ∃ F' acc', Grow F1 H1 F' (er H' P) ∧ H' P = some (.lst acc') ∧ F' P = none ∧ RpAll X.K F' acc' ((ds.take (i + 1)).filterMap f), fun H' ⟨F', acc', a1, a2, a3, a4⟩ => ⟨ds.length - (i + 1), by omega, F', acc', a1, a2, a3, a4, hlt, rfl⟩, fun xv H' y => ?_⟩
    obtain ⟨F2, g2, rp⟩ := yl xv H' y
    obtain ⟨ownw, rw'⟩ := (rc.grow g2).wipes ws
    have tk : (ds.take (i + 1)).filterMap f = (ds.take i).filterMap f ++ (match f ds[i] with | some y => [y] | none => []) := by
      rw [List.take_add_one, ed, List.filterMap_append]
      congr 1
      show List.filterMap f [ds[i]] = _
      rw [List.filterMap_cons]
      cases f ds[i] <;> rfl
    refine pt.run rw' rp (step ds[i] (List.getElem_mem hlt)) fun own' E' vs r' h' => ?_
    refine ⟨by rw [wipe_sets _ _ _ hws, wipe_wipe], H0, F0, F2, own', E', _, _, r', h', fun b hb F3 H3 g3 => ?_, fun c hc => hc.elim⟩
    have g23 := g2.trans g3
    cases b with
    | false =>
      refine iteF ?_
      have hb' : f ds[i] = none := hb
      obtain ⟨q1, q2, q3⟩ := g23.er nFc eP
      exact ⟨F3, acc, gc.trans q1, q3, q2, by rw [tk, hb', List.append_nil]; exact RpAll.mono g23.f _ _ ra⟩
    | true =>
      refine iteT ⟨H0, F0, F3, own', E', _, _, r'.grow g3, hb, fun yv hy F4 H4 v g4 rs => ?_, fun c hc => hc.elim⟩
      have g24 := g23.trans g4
      obtain ⟨q1, q2, q3⟩ := g24.er nFc eP
      refine ⟨acc, q3, ?_, F4, acc ++ [v], by rw [er_upd]; exact gc.trans q1, upd_same, q2, ?_⟩
      · have h1 := List.length_filterMap_le f (ds.take i)
        rw [List.length_take] at h1
        rw [ra.len]
        omega
      · rw [tk, hy]
        exact (RpAll.mono g24.f _ _ ra).append (.cons rs .nil)
  · have e : i = ds.length := by omega
    subst e
    refine .inl ⟨stop, k _ done Fc Hc _ (g.trans gc') ⟨P, acc, _, rfl, rfl, none_of_same g.h nP, nFc, eP, ?_⟩⟩
    rw [List.take_length] at ra
    exact ra
theorem j_lc {scope : Scope} {own : List (Str × Nat)} {pt : Pt} {ifs : List Expr} (hc : X.calm = true) (hN : X.N.Nodup) (hi : IJ X W tg e wi) (ok : BlkOk X.N X.env.scope scope own)
    (hg : ∀ (s : Shared) (H : Hp) (C : Addr) (cl : List (Str × Addr)) (fp : List Addr), PG (X.blk s H scope (compEnvC scope cl C X.env) fp) tg (pt.g X.K))
    (ht : ∀ (s : Shared) (H : Hp) (C : Addr) (cl : List (Str × Addr)) (fp : List Addr), PTs (X.blk s H scope (compEnvC scope cl C X.env) fp) ifs (tJT X.K W0 wt))
    (he : ∀ (s : Shared) (H : Hp) (C : Addr) (cl : List (Str × Addr)) (fp : List Addr), J .fz (X.blk s H scope (compEnvC scope cl C X.env) fp) W0 e2 we) (hws : ∀ i ∈ pt.is, i ∈ own.map (·.2)) (hs : ∀ x, foldedSetIterable e X.env x = pure x := by intro _; rfl) :
    J .nw X W (.ListComp e2 [⟨tg, e, ifs, 0⟩] scope pos) (wLc wi pt wt we (own.map (·.2))) :=
  pe_imp (pe_lc (te := tJ .fz X.K W0 we) hc hN hi ok hg ht he hs) fun _ _ _ h => lc_rd hws h
theorem jts_nil : PTs X [] (tJT X.K W0 wYes) := by
  refine ⟨fun pins s σ H Q I h => pts_nil.run pins s σ H Q I ?_⟩
  obtain ⟨H0, F0, F, own, E, KB, KX, r, q, k, x⟩ := h
  exact k true q F H (Grow.refl r.g.fh)
theorem jts_one {c : Expr} (h : JT X W0 c wt) : PTs X [c] (tJT X.K W0 wt) := pts_one h
/-- name = [..] -/
theorem s_setLc {i : Nat} {y : Str} {py spos : Pos} {scope : Scope} {own : List (Str × Nat)} {pt : Pt} {ifs : List Expr} (hc : X.calm = true) (hN : X.N.Nodup) (hsw : swapsWith (.ListComp e2 [⟨tg, e, ifs, 0⟩] scope pos) (some (.Name y py)) spos.line X.env = pure true) (hi : IJ X W tg e wi) (ok : BlkOk X.N X.env.scope scope own)
    (hg : ∀ (s : Shared) (H : Hp) (C : Addr) (cl : List (Str × Addr)) (fp : List Addr), PG (X.blk s H scope (compEnvC scope cl C X.env) fp) tg (pt.g X.K))
    (ht : ∀ (s : Shared) (H : Hp) (C : Addr) (cl : List (Str × Addr)) (fp : List Addr), PTs (X.blk s H scope (compEnvC scope cl C X.env) fp) ifs (tJT X.K W0 wt))
    (he : ∀ (s : Shared) (H : Hp) (C : Addr) (cl : List (Str × Addr)) (fp : List Addr), J .fz (X.blk s H scope (compEnvC scope cl C X.env) fp) W0 e2 we) (hws : ∀ i ∈ pt.is, i ∈ own.map (·.2)) (hy : X.N[i]? = some y := by rfl) (hyl : X.env.scope.names.lookup y = some .local := by rfl) (hs : ∀ x, foldedSetIterable e X.env x = pure x := by intro _; rfl) :
    S m X W (.Assign [.Name y py] (.ListComp e2 [⟨tg, e, ifs, 0⟩] scope pos) spos) (wSetO i (wLc wi pt wt we (own.map (·.2)))) :=
  ps_imp (ps_setLc (te := tJ .fz X.K W0 we) hc hN hy hyl hsw hi ok hg ht he hs) fun DD σ H h => by
    obtain ⟨H0, F0, F, own', E, C, r, q, kn, kb, kc, kr, kx⟩ := h
    exact lc_rd hws ⟨H0, F0, F, own', E, _, _, r, q, fun d ⟨ds, ed, hd⟩ F' H' v g rs => by
      subst ed
      obtain ⟨ds', own'', e, r'⟩ := r.putOw (i := i) g rs
      cases e
      exact kn _ _ _ _ _ r' hd, fun c hc F' H' g => kx c _ _ _ _ _ (r.grow g) hc⟩

/-! ### defs -/
/-- what a def is worth: from its arguments' data to what is told, or refused -/
abbrev Ct := List D → (D → Prop) → (Str → Prop) → Prop
def spD (ms : List Mo) (m : Mo) (g : Ct) (K : Frag) : Sp := fun vs H Q E => ∃ F ds KD KX, Same F H ∧ ResAll K H F H ms vs ds ∧ g ds KD KX ∧
  (∀ d, KD d → ∀ F' H' v, Grow F H F' H' → Res K H F' H' m v d → Q v H') ∧ (∀ c, KX c → ∀ F' H', Grow F H F' H' → E (.ref (cA K c)) none H')
def wFn (ws : WA) (g : Ct) : WE := fun E KD KX => ws E (fun ds => g ds KD KX) KX
theorem resAll_app {K : Frag} {H F H' : Hp} : ∀ {ms : List Mo} {vs : List V} {ds : List D} {ms2 : List Mo} {vs2 : List V} {ds2 : List D}, ResAll K H F H' ms vs ds → ResAll K H F H' ms2 vs2 ds2 → ResAll K H F H' (ms ++ ms2) (vs ++ vs2) (ds ++ ds2)
  | _, _, _, _, _, _, .nil, h => h
  | _, _, _, _, _, _, .cons r t, h => .cons r (resAll_app t h)
theorem j_call {CX : CXT} {k : Nat} {f : Addr} {fd : FuncData} {ps : List Str} {g : Ct} {x : Str} {dvs : List V} {dd : List Value} {ds0 : List D} {msd : List Mo} (Fn : FnOk X.prog X.w X.K X.mg X.base CX k f fd ps (spD (ms ++ msd) m g X.K)) (hr : Room k X.A) (hg : Gl X x) (hm : X.mg x = some (.ref f)) (hk : PySem.W.keepIn X.K (.ref f) = true)
    (hb : Binds X.K fd ps dd) (hd : Vals dvs dd) (hdr : ∀ H F, ResAll X.K H F H msd dvs ds0) (hx : ∀ σ, PassesAt CX X σ (L2.WE W σ))
    (ha : JA ms X W (e :: es) ws) (hdb : (x == ("__debug__" : Str)) = false := by decide) (he : starEach (e :: es) X.env = (false, eval e X.env) :: starEach es X.env := by rfl) (hpl : (backTo pos (starEach es X.env)).any (·.1) = false := by rfl) :
    J m X W (.Call (.Name x p) (e :: es) [] pos) (wFn ws fun ds => g (ds ++ ds0)) :=
  pe_imp (pe_callSD Fn hr hg hm hk hb hd hx ha.1 hdb he hpl) fun σ H Q ⟨H0, F0, F, own, E, KD, KX, r, q, kk, xx⟩ =>
  ⟨H0, F0, F, own, E, _, KX, r, q, fun ds hd F1 H1 vs g1 ra => ⟨F1, ds ++ ds0, KD, KX, g1.fh, resAll_app (ResAll.keep (Grow.refl g1.fh) ha.2 ra) (hdr H1 F1), hd, fun d hd F2 H2 v g2 rs => kk d hd F2 H2 v (g1.trans g2) (rs.old g1.h), fun c hc F2 H2 g2 => xx c hc F2 H2 (g1.trans g2)⟩, xx⟩
end
end Tb

set_option Elab.async false
set_option linter.all false
set_option maxRecDepth 100000
namespace Tb
open PySem PySem.Spec L2
open PyProof.Rows (envOfC)

/-! ### a def's body keeps its promise -/
def slOf : Mo → D → Sl
  | .rd, .list ds => .bo ds
  | _, d => .fr d
def startE : List Mo → List D → Nat → List Sl
  | m :: ms, d :: ds, n + 1 => slOf m d :: startE ms ds n
  | _, _, n => List.replicate n .un
theorem startE_len : ∀ (ms : List Mo) (ds : List D) (n : Nat), (startE ms ds n).length = n
  | [], _, n => by unfold startE; simp
  | _ :: _, [], n => by unfold startE; simp
  | _ :: _, _ :: _, 0 => by unfold startE; rfl
  | m :: ms, d :: ds, n + 1 => by unfold startE; simp [startE_len ms ds n]
theorem startE_at {K : Frag} {F H : Hp} {own : Own} (s : Same F H) : ∀ {ms : List Mo} {vs : List V} {ds : List D} (n i j : Nat) (sl : Sl), ResAll K H F H ms vs ds → (∀ m ∈ ms, m = .rd ∨ m = .fz) → (startE ms ds n)[i]? = some sl → SlOk K H F H own j sl ((vs.map some ++ List.replicate (n - vs.length) none).getD i none)
  | [], _, _, n, i, j, sl, .nil, _, e => by
    unfold startE at e
    rw [List.getElem?_replicate] at e
    split at e
    · cases e; trivial
    · cases e
  | _ :: _, _ :: _, _ :: _, 0, i, j, sl, .cons r t, hm, e => by
    unfold startE at e
    simp at e
  | m :: ms, v :: vs, d :: ds, n + 1, 0, j, sl, .cons r t, hm, e => by
    unfold startE at e
    simp only [List.getElem?_cons_zero, Option.some.injEq] at e
    subst e
    show SlOk K H F H own j (slOf m d) (some v)
    rcases hm m List.mem_cons_self with rfl | rfl
    · cases d with
      | list ds' =>
        obtain ⟨p, vs', rfl, sq, ra⟩ := Res.list s r
        exact ⟨p, vs', rfl, sq, ra⟩
      | none => exact ⟨v, rfl, Res.scal (e := .none) (fun _ z => nomatch z) r⟩
      | bool b => exact ⟨v, rfl, Res.scal (e := .none) (fun _ z => nomatch z) r⟩
      | int b => exact ⟨v, rfl, Res.scal (e := .none) (fun _ z => nomatch z) r⟩
      | str b => exact ⟨v, rfl, Res.scal (e := .none) (fun _ z => nomatch z) r⟩
      | tuple b => exact ⟨v, rfl, Res.scal (e := .none) (fun _ z => nomatch z) r⟩
      | dict b => exact ⟨v, rfl, Res.scal (e := .none) (fun _ z => nomatch z) r⟩
    · exact ⟨v, by cases d <;> rfl, by cases d <;> exact r⟩
  | m :: ms, v :: vs, d :: ds, n + 1, i + 1, j, sl, .cons r t, hm, e => by
    unfold startE at e
    simp only [List.getElem?_cons_succ] at e
    have ih := startE_at (own := own) s n i j sl t (fun m z => hm m (List.mem_cons_of_mem _ z)) e
    have e2 : n + 1 - (v :: vs).length = n - vs.length := by simp
    rw [e2]
    simpa using ih
theorem resAll_len {K : Frag} {H F' H' : Hp} : ∀ {ms : List Mo} {vs : List V} {ds : List D}, ResAll K H F' H' ms vs ds → vs.length = ms.length ∧ ds.length = ms.length
  | _, _, _, .nil => ⟨rfl, rfl⟩
  | _, _, _, .cons r t => by simp [resAll_len t]
section
variable {P : Program} {w : World} {K : Frag} {mg : Str → Option Value} {base : Heap}
abbrev WD (E : XK) : WX := fun cls d _ H => E cls d H
abbrev cxD (P : Program) (w : World) (K : Frag) (mg : Str → Option Value) (base : Heap) (N : List Str) (qual : Str) (scope : Scope) (f : Addr) (cd : Value) (A : Around) (outer : List Env) (s : Shared) (H : Hp) (E : XK) : Cx :=
  cxOf (L2.CX P w) P w K mg base N qual scope f cd A outer s H E
theorem fn_mk {x qual : Str} {st : Stmt} {f : Addr} {fd : FuncData} {N ps : List Str} {k : Nat} (ms : List Mo) (m : Mo) (g : Ct) (Fu : Fun K x qual st f fd) (Sc : FnScope N ps (defScope st)) (hl : ms.length = ps.length := by rfl) (hm : ∀ z ∈ ms, z = .rd ∨ z = .fz := by decide)
    (body : ∀ (cdv : Value) (A : Around) (outer : List Env) (s : Shared) (H : Hp) (E : XK), Room k (A.deeper (envOfC qual (defScope st) s.heap.objs.size f cdv)) →
      ∃ ww, Ss m (cxD P w K mg base N qual (defScope st) f cdv A outer s H E) (WD E) (defBody st) ww ∧
        ∀ ds KD KX, g ds KD KX → ww { nx := fun _ => m = .fz ∧ KD .none, rt := fun d _ => KD d, ex := fun c _ => KX c } (startE ms ds N.length)) :
    FnOk P w K mg base (L2.CX P w) (k + 1) f fd ps (spD ms m g K) := by
  refine Fu.okX Sc (fun vs H Q E h => ?_) fun cdv A outer s H vs Q E hr h => ?_
  · obtain ⟨F, ds, KD, KX, sm, ra, _⟩ := h
    rw [(resAll_len ra).1]; exact hl
  · obtain ⟨F, ds, KD, KX, sm, ra, hg, k1, k2⟩ := h
    obtain ⟨ww, hb, hw⟩ := body cdv A outer s H E hr
    refine ⟨_, hb, H, F, F, fun _ => none, _, _, ⟨?_, Grow.refl sm, (fun _ _ z => nomatch z), fun i sl e => startE_at sm N.length i i sl ra hm e⟩, hw ds KD KX hg, ?_, ?_, ?_, ?_, ?_⟩
    · rw [startE_len]
      unfold L2.start
      have h1 := (resAll_len ra).1
      have h2 : ps.length ≤ N.length := by have := congrArg List.length Sc.pre; rw [List.length_take] at this; omega
      simp only [List.length_append, List.length_map, List.length_replicate]
      omega
    · rintro F' own' E' σ' H' r ⟨rfl, hk⟩
      exact k1 _ hk F' H' _ r.g .non
    · exact fun _ _ _ _ _ _ z => z.elim
    · exact fun _ _ _ _ _ _ z => z.elim
    · exact fun d _ hd F' own' σ' H' v rr rs => k1 d hd F' H' v rr.g rs
    · exact fun c F' own' E' σ' H' r hc => k2 c hc F' H' r.g
theorem cxD_takes {N : List Str} {qual : Str} {scope : Scope} {f : Addr} {cd : Value} {A : Around} {outer : List Env} {s : Shared} {H : Hp} {E : XK} : Takes (cxD P w K mg base N qual scope f cd A outer s H E) (WD E) := takes_of rfl rfl rfl rfl
theorem cxD_own {N : List Str} {qual : Str} {scope : Scope} {f : Addr} {cd : Value} {A : Around} {outer : List Env} {s : Shared} {H : Hp} {E : XK} :
    PassesOwn (model (cxD P w K mg base N qual scope f cd A outer s H E).prog (cxD P w K mg base N qual scope f cd A outer s H E).w) (cxD P w K mg base N qual scope f cd A outer s H E).A (cxD P w K mg base N qual scope f cd A outer s H E).env (cxD P w K mg base N qual scope f cd A outer s H E).xe := passes_of rfl
end
/-! ### the law -/
def spLaw (g : Ct) (K : Frag) : Sp := spD [.rd] .fz g K
theorem lawCX {P : Program} {w : World} (H : Hp) (s : Shared) (e : Value) (s' : Shared) (h : L2.CX P w [] H s (fun _ _ _ => False) e s') : False := by
  obtain ⟨_, _, _, _, _, _, _, _, _, _, _, _, z⟩ := h
  exact z
theorem law_start {g : Ct} {K : Frag} {H : Hp} {a : Addr} {ns : List Int} (sq : SqL K H a (ns.map V.int)) (hg : g [.list (ns.map PyData.int)] (fun d => d = .bool true) (fun _ => False)) : spLaw g K [.ref a] H (fun v _ => v = .bl true) (fun _ _ _ => False) :=
  ⟨H, _, _, _, Same.refl _, .cons (.inr ⟨a, _, _, rfl, rfl, sq, RpAll.ints ns⟩) .nil, hg, fun d hd F' H' v _ rs => by
    subst hd
    cases rs; rfl, fun c hc => hc.elim⟩

/-! ### reading by simp -/
section
variable {E : List Sl} {KD : D → Prop} {KX : Str → Prop} {i : Nat} {d : D} {ds : List D}
theorem wRd_fr (h : E[i]? = some (.fr d)) : wRd i E KD KX = KD d := by
  unfold wRd; rw [h]; simp
theorem wRd_ow (h : E[i]? = some (.ow ds)) : wRd i E KD KX = KD (.list ds) := by
  unfold wRd; rw [h]; simp
theorem wRd_bo (h : E[i]? = some (.bo ds)) : wRd i E KD KX = KD (.list ds) := by
  unfold wRd; rw [h]; simp
theorem wTk_fr (h : E[i]? = some (.fr d)) : wTk i E KD KX = KD d := by
  unfold wTk; rw [h]; simp
theorem wTk_ow (h : E[i]? = some (.ow ds)) : wTk i E KD KX = KD (.list ds) := by
  unfold wTk; rw [h]; simp
theorem wFr_fr (h : E[i]? = some (.fr d)) : wFr i E KD KX = KD d := by
  unfold wFr; rw [h]; simp
end
end Tb

set_option Elab.async false
set_option linter.all false
set_option maxRecDepth 100000
namespace Tb
open PySem PySem.Spec L2

/-! ### reading by simp -/
@[simp] def rdS : Option Sl → (D → Prop) → Prop
  | some (.fr d), k => k d
  | some (.ow ds), k => k (.list ds)
  | some (.bo ds), k => k (.list ds)
  | _, _ => False
@[simp] def tkS : Option Sl → (D → Prop) → Prop
  | some (.fr d), k => k d
  | some (.ow ds), k => k (.list ds)
  | _, _ => False
@[simp] def frS : Option Sl → (D → Prop) → Prop
  | some (.fr d), k => k d
  | _, _ => False
@[simp] def owS : Option Sl → (List D → Prop) → Prop
  | some (.ow d), k => k d
  | _, _ => False
@[simp] def boS : Option Sl → (List D → Prop) → Prop
  | some (.bo d), k => k d
  | _, _ => False
theorem rdS_fr {d : D} {k : D → Prop} : rdS (some (.fr d)) k = k d := rfl
theorem rdS_ow {d : List D} {k : D → Prop} : rdS (some (.ow d)) k = k (.list d) := rfl
theorem rdS_bo {d : List D} {k : D → Prop} : rdS (some (.bo d)) k = k (.list d) := rfl
theorem tkS_fr {d : D} {k : D → Prop} : tkS (some (.fr d)) k = k d := rfl
theorem tkS_ow {d : List D} {k : D → Prop} : tkS (some (.ow d)) k = k (.list d) := rfl
theorem frS_fr {d : D} {k : D → Prop} : frS (some (.fr d)) k = k d := rfl
theorem owS_ow {d : List D} {k : List D → Prop} : owS (some (.ow d)) k = k d := rfl
theorem boS_bo {d : List D} {k : List D → Prop} : boS (some (.bo d)) k = k d := rfl
section
variable {E : List Sl} {C : EndsD} {KD KD' : D → Prop} {KX : Str → Prop} {KI : List D → Prop} {KA : List D → Prop} {KB : Bool → Prop} {i j : Nat} {d : D} {ds : List D} {we we2 we3 wk : WE} {ws : WA} {wt wt2 : WT} {w w2 : WS} {wi : WI} {pt : Pt}
theorem wRd_eq : wRd i E KD KX = rdS E[i]? KD := by
  apply propext
  unfold wRd
  cases E[i]? with
  | none => simp
  | some s => cases s <;> simp
theorem wTk_eq : wTk i E KD KX = tkS E[i]? KD := by
  apply propext
  unfold wTk
  cases E[i]? with
  | none => simp
  | some s => cases s <;> simp
theorem wFr_eq : wFr i E KD KX = frS E[i]? KD := by
  apply propext
  unfold wFr
  cases E[i]? with
  | none => simp
  | some s => cases s <;> simp
theorem exOw {P : List D → Prop} : (∃ ds, E[i]? = some (.ow ds) ∧ P ds) = owS E[i]? P := by
  apply propext
  cases E[i]? with
  | none => simp
  | some s => cases s <;> simp
theorem exBo {P : List D → Prop} : (∃ ds, E[i]? = some (.bo ds) ∧ P ds) = boS E[i]? P := by
  apply propext
  cases E[i]? with
  | none => simp
  | some s => cases s <;> simp
theorem wC_eq {x : D} : wC x E KD KX = KD x := rfl
theorem wBin_eq {r : D → D → (D → Prop) → Prop} : wBin we we2 r E KD KX = we E (fun x => we2 E (fun y => r x y KD) KX) KX := rfl
theorem rII_eq {C : Int → Int → Prop} {g : Int → Int → Int} {x y : Int} : rII C g (.int x) (.int y) KD = (C x y ∧ KD (.int (g x y))) := by
  apply propext; simp [rII]
theorem rIB_eq {g : Int → Int → Bool} {x y : Int} : rIB g (.int x) (.int y) KD = KD (.bool (g x y)) := by
  apply propext; simp [rIB]
theorem rEQ_eq {x y : D} : rEQ x y KD = (SeqAt.shaped x = true ∧ SeqAt.shaped y = true ∧ KD (.bool (PyData.eqv x y))) := rfl
theorem rNE_eq {x y : D} : rNE x y KD = (SeqAt.shaped x = true ∧ SeqAt.shaped y = true ∧ KD (.bool (!PyData.eqv x y))) := rfl
theorem rIN_eq {x : D} {ys : List D} : rIN x (.list ys) KD = (SeqAt.shaped x = true ∧ SeqAt.shaped (.list ys) = true ∧ KD (.bool (ys.any fun z => PyData.eqv z x))) := by
  apply propext; simp [rIN]
theorem rNI_eq {x : D} {ys : List D} : rNI x (.list ys) KD = (SeqAt.shaped x = true ∧ SeqAt.shaped (.list ys) = true ∧ KD (.bool (!ys.any fun z => PyData.eqv z x))) := by
  apply propext; simp [rNI]
theorem rIXL_eq {x : Int} : rIXL (.list ds) (.int x) KD = ∃ d, atI ds x = some d ∧ KD d := by
  apply propext; simp [rIXL]
theorem rIXT_eq {x : Int} : rIXT (.tuple ds) (.int x) KD = ∃ d, atI ds x = some d ∧ KD d := by
  apply propext; simp [rIXT]
theorem rIX_eqL {x : Int} : rIX (.list ds) (.int x) KD = ∃ d, atI ds x = some d ∧ KD d := by
  apply propext; simp [rIX, rIXL, rIXT]
theorem rIX_eqT {x : Int} : rIX (.tuple ds) (.int x) KD = ∃ d, atI ds x = some d ∧ KD d := by
  apply propext; simp [rIX, rIXL, rIXT]
theorem rIXS_eq {z : Str} {x : Int} : rIXS (.str z) (.int x) KD = (z.length ≤ sizeLine ∧ ∃ c, atI z.cps.toList x = some c ∧ KD (.str ⟨#[c]⟩)) := by
  apply propext; simp [rIXS]
theorem rCAT_eq {xs ys : List D} : rCAT (.list xs) (.list ys) KD = (xs.length + ys.length ≤ sizeLine ∧ KD (.list (xs ++ ys))) := by
  apply propext; simp [rCAT]
theorem rREP_eq {xs : List D} {k : Int} : rREP (.list xs) (.int k) KD = (-(2 ^ 63) ≤ k ∧ k < 2 ^ 63 ∧ xs.length * k.toNat ≤ sizeLine ∧ KD (.list (List.replicate k.toNat xs).flatten)) := by
  apply propext; simp [rREP]
theorem rADDS_eq {x y : Str} : rADDS (.str x) (.str y) KD = (x.length + y.length ≤ sizeLine ∧ KD (.str (x ++ y))) := by
  apply propext; simp [rADDS]
theorem wNeg_eq : wNeg we E KD KX = we E (fun x => ∃ i, x = .int i ∧ KD (.int (-i))) KX := rfl
theorem wIsN_eq : wIsN we E KD KX = we E (fun x => KD (.bool (isNo x))) KX := rfl
theorem wNotN_eq : wNotN we E KD KX = we E (fun x => KD (.bool (!isNo x))) KX := rfl
theorem wT_eq : wT we E KB KX = we E (fun d => ∃ b, d = .bool b ∧ KB b) KX := rfl
theorem exBool {b : Bool} {P : Bool → Prop} : (∃ c, PyData.bool b = .bool c ∧ P c) = P b := by
  apply propext; simp
theorem exInt {b : Int} {P : Int → Prop} : (∃ c, PyData.int b = .int c ∧ P c) = P b := by
  apply propext; simp
theorem exList {b : List D} {P : List D → Prop} : (∃ c, PyData.list b = .list c ∧ P c) = P b := by
  apply propext; simp
theorem exTup {b : List D} {P : List D → Prop} : (∃ c, PyData.tuple b = .tuple c ∧ P c) = P b := by
  apply propext; simp
theorem exStr {b : Str} {P : Str → Prop} : (∃ c, PyData.str b = .str c ∧ P c) = P b := by
  apply propext; simp
theorem wChain_eq {r r' : D → D → (D → Prop) → Prop} : wChain we we2 we3 r r' E KD KX = we E (fun x => we2 E (fun y => r x y fun z => ∃ k, z = .bool k ∧ if k = true then we3 E (fun w => r' y w KD) KX else KD (.bool false)) KX) KX := rfl
theorem wAnd_eq : wAnd wt wt2 E KB KX = wt E (fun b => if b = true then wt2 E KB KX else KB false) KX := rfl
theorem wOr_eq : wOr wt wt2 E KB KX = wt E (fun b => if b = true then KB true else wt2 E KB KX) KX := rfl
theorem wNot_eq : wNot wt E KB KX = wt E (fun b => KB (!b)) KX := rfl
theorem wAndV_eq : wAndV we we2 E KD KX = we E (fun x => ∃ c, x = .bool c ∧ if c = true then we2 E KD KX else KD (.bool false)) KX := rfl
theorem wOrV_eq : wOrV we we2 E KD KX = we E (fun x => ∃ c, x = .bool c ∧ if c = true then KD (.bool true) else we2 E KD KX) KX := rfl
theorem wNotV_eq : wNotV we E KD KX = we E (fun x => ∃ c, x = .bool c ∧ KD (.bool (!c))) KX := rfl
theorem wIf_eq : wIf wt we we2 E KD KX = wt E (fun b => if b = true then we E KD KX else we2 E KD KX) KX := rfl
theorem wA0_eq : wA0 E KA KX = KA [] := rfl
theorem wA_eq : wA we ws E KA KX = we E (fun d => ws E (fun ds => KA (d :: ds)) KX) KX := rfl
theorem wLst_eq : wLst ws E KD KX = ws E (fun ds => ds.length ≤ sizeLine ∧ KD (.list ds)) KX := rfl
theorem wTup_eq : wTup ws E KD KX = ws E (fun ds => ds.length ≤ sizeLine ∧ KD (.tuple ds)) KX := rfl
theorem wCall_eq {r : List D → (D → Prop) → Prop} : wCall ws r E KD KX = ws E (fun ds => r ds KD) KX := rfl
theorem wFn_eq {g : Ct} : wFn ws g E KD KX = ws E (fun ds => g ds KD KX) KX := rfl
theorem rLEN_eq : rLEN [d] KD = ∃ n : Nat, lenD d = some n ∧ KD (.int n) := by
  apply propext; simp [rLEN]
theorem rLEN_list : rLEN [.list ds] KD = KD (.int ds.length) := by
  apply propext; simp [rLEN, lenD]
theorem rLEN_tup : rLEN [.tuple ds] KD = KD (.int ds.length) := by
  apply propext; simp [rLEN, lenD]
theorem rLEN_str {z : Str} : rLEN [.str z] KD = (z.length ≤ sizeLine ∧ KD (.int z.length)) := by
  apply propext
  simp only [rLEN_eq, lenD]
  constructor
  · rintro ⟨n, h, q⟩
    by_cases hz : z.length ≤ sizeLine
    · rw [if_pos hz] at h; cases h; exact ⟨hz, q⟩
    · rw [if_neg hz] at h; cases h
  · rintro ⟨h, q⟩
    exact ⟨_, if_pos h, q⟩
theorem rTUP_list : rTUP [.list ds] KD = KD (.tuple ds) := by
  apply propext; simp [rTUP]
theorem rTUP_tup : rTUP [.tuple ds] KD = KD (.tuple ds) := by
  apply propext; simp [rTUP]
theorem rLIST_list : rLIST [.list ds] KD = KD (.list ds) := by
  apply propext; simp [rLIST]
theorem rLIST_tup : rLIST [.tuple ds] KD = KD (.list ds) := by
  apply propext; simp [rLIST]
theorem wRg1_eq {k : List D → D} : wRg1 we k E KD KX = we E (fun d => ∃ n, d = .int n ∧ RgOk 0 n ∧ KD (k (rangeD 0 n.toNat))) KX := rfl
theorem wRg2_eq {k : List D → D} : wRg2 we we2 k E KD KX = we E (fun d => we2 E (fun d2 => ∃ a b, d = .int a ∧ d2 = .int b ∧ RgOk a b ∧ KD (k (rangeD a (b - a).toNat))) KX) KX := rfl
theorem wIsi_eq {T : String} : wIsi we T E KD KX = we E (fun d => ∃ b, kitB (tyD d) T = some b ∧ KD (.bool b)) KX := rfl
theorem wIsi2_eq {T T2 : String} : wIsi2 we T T2 E KD KX = we E (fun d => ∃ b b2, kitB (tyD d) T = some b ∧ kitB (tyD d) T2 = some b2 ∧ KD (.bool (b || b2))) KX := rfl
theorem wO0_eq {KO : Option Int → Prop} : wO0 E KO KX = KO none := rfl
theorem wO_eq {KO : Option Int → Prop} : wO we E KO KX = we E (fun d => ∃ i, d = .int i ∧ KO (some i)) KX := rfl
theorem wSl_eq {wl wh : WO} {r : D → Option Int → Option Int → (D → Prop) → Prop} : wSl we wl wh r E KD KX = we E (fun d => wl E (fun l => wh E (fun h => r d l h KD) KX) KX) KX := rfl
theorem rSLL_eq {lo hi : Option Int} : rSLL (.list ds) lo hi KD = KD (.list (cut ds lo hi)) := by
  apply propext; simp [rSLL]
theorem rSLT_eq {lo hi : Option Int} : rSLT (.tuple ds) lo hi KD = (¬ (HT.sIx ds.length 0 lo = 0 ∧ HT.sIx ds.length ds.length hi = ds.length) ∧ KD (.tuple (cut ds lo hi))) := by
  apply propext; simp [rSLT]
theorem wNx_eq : wNx C E = C.nx E := rfl
theorem wSeq_eq : wSeq w w2 C E = w { C with nx := w2 C } E := rfl
theorem wFz_eq : wFz i w C E = owS E[i]? (fun ds => w C (E.set i (.fr (.list ds)))) := exOw
theorem wSet_eq : wSet i we C E = we E (fun d => C.nx (E.set i (.fr d))) (fun c => C.ex c E) := rfl
theorem wSetO_eq : wSetO i we C E = we E (fun d => ∃ ds, d = .list ds ∧ C.nx (E.set i (.ow ds))) (fun c => C.ex c E) := rfl
theorem wRet_eq : wRet we C E = we E (fun d => C.rt d E) (fun c => C.ex c E) := rfl
theorem wRetO_eq : wRetO i C E = owS E[i]? (fun ds => C.rt (.list ds) E) := exOw
theorem wIfS_eq : wIfS wt w w2 C E = wt E (fun b => if b = true then w C E else w2 C E) (fun c => C.ex c E) := rfl
theorem wAugI_eq {f : Int → Int → Int} : wAugI i we f C E = ∃ n, E[i]? = some (.fr (.int n)) ∧ we E (fun d => ∃ k, d = .int k ∧ C.nx (E.set i (.fr (.int (f n k))))) (fun c => C.ex c E) := rfl
theorem wApp_eq : wApp i we C E = owS E[i]? (fun ds => ds.length < sizeLine ∧ we E (fun d => C.nx (E.set i (.ow (ds ++ [d])))) (fun c => C.ex c E)) := exOw
theorem wExt_eq : wExt i we C E = owS E[i]? (fun ds => we E (fun d => ∃ es, d = .list es ∧ ds.length + es.length ≤ sizeLine ∧ C.nx (E.set i (.ow (ds ++ es)))) (fun c => C.ex c E)) := exOw
theorem wPutI_eq : wPutI i wk we C E = owS E[i]? (fun ds => we E (fun d => wk E (fun k => ∃ n j, k = .int n ∧ ixN ds.length n = some j ∧ C.nx (E.set i (.ow (ds.set j d)))) (fun c => C.ex c E)) (fun c => C.ex c E)) := exOw
theorem wPopAt_eq {K : D → List Sl → Prop} : wPopAt i wk K KX E = owS E[i]? (fun ds => wk E (fun k => ∃ n j d, k = .int n ∧ -(2 ^ 63) ≤ n ∧ n < 2 ^ 63 ∧ seqIndex? n ds.length = some j ∧ ds[j]? = some d ∧ K d (E.set i (.ow (ds.eraseIdx j)))) KX) := exOw
theorem wAppPop_eq : wAppPop i j wk C E = owS E[j]? (fun zs => zs.length < sizeLine ∧ wPopAt i wk (fun d E' => C.nx (E'.set j (.ow (zs ++ [d])))) (fun c => C.ex c E) E) := exOw
theorem wSetPopAt_eq : wSetPopAt i j wk C E = wPopAt i wk (fun d E' => C.nx (E'.set j (.fr d))) (fun c => C.ex c E) E := rfl
theorem wPopAtS_eq : wPopAtS i wk C E = wPopAt i wk (fun _ E' => C.nx E') (fun c => C.ex c E) E := rfl
theorem wSetPop_eq : wSetPop i j C E = owS E[i]? (fun ds => ∃ d, ds[ds.length - 1]? = some d ∧ C.nx ((E.set i (.ow ds.dropLast)).set j (.fr d))) := by
  rw [← exOw]
  apply propext
  unfold wSetPop wPop
  constructor
  · rintro ⟨ds, d, h1, h2, h3⟩; exact ⟨ds, h1, d, h2, h3⟩
  · rintro ⟨ds, h1, d, h2, h3⟩; exact ⟨ds, d, h1, h2, h3⟩
theorem wBk_eq : wBk C E = C.bk E := rfl
theorem wCt_eq : wCt C E = C.ct E := rfl
theorem wFor_eq : wFor wi pt w C E = wi E (fun ds => ∃ I : Nat → List Sl → Prop, I 0 E ∧ (∀ i d E, ds[i]? = some d → I i E → pt.up d E (w { C with nx := I (i + 1), ct := I (i + 1), bk := C.nx })) ∧ ∀ E, I ds.length E → C.nx E) (fun c => C.ex c E) := rfl
theorem wWhile_eq : wWhile wt w C E = ∃ (I : List Sl → Prop) (mu : List Sl → Nat), I E ∧ ∀ E, I E →
  wt E (fun b => if b = true then w { C with nx := fun E' => I E' ∧ mu E' < mu E, ct := fun E' => I E' ∧ mu E' < mu E, bk := C.nx } E else C.nx E) (fun c => C.ex c E) := rfl
theorem wIL_eq : wIL we E KI KX = we E (fun d => ∃ ds, d = .list ds ∧ KI ds) KX := rfl
theorem wIT_eq : wIT we E KI KX = we E (fun d => ∃ ds, d = .tuple ds ∧ KI ds) KX := rfl
theorem wIB_eq : wIB i E KI KX = boS E[i]? KI := by
  unfold wIB; exact exBo
theorem wIE_eq : wIE we E KI KX = we E (fun d => ∃ ds, d = .list ds ∧ KI (enumD ds)) KX := rfl
theorem wIR1_eq : wIR1 we E KI KX = we E (fun d => ∃ n : Int, d = .int n ∧ n < 2 ^ 62 ∧ -(2 ^ 62) ≤ n ∧ KI (rangeD 0 n.toNat)) KX := rfl
theorem wIR2_eq : wIR2 we we2 E KI KX = we E (fun d => we2 E (fun d2 => ∃ a b : Int, d = .int a ∧ d2 = .int b ∧ (-(2 ^ 62) ≤ a ∧ a < 2 ^ 62 ∧ -(2 ^ 62) ≤ b ∧ b < 2 ^ 62) ∧ KI (rangeD a (b - a).toNat)) KX) KX := rfl
theorem wIR3_eq : wIR3 we we2 we3 E KI KX = we E (fun d => we2 E (fun d2 => we3 E (fun d3 => ∃ (a b c : Int) (n : Nat), d = .int a ∧ d2 = .int b ∧ d3 = .int c ∧ RgC a b c n ∧ KI (rangeC a c n)) KX) KX) KX := rfl
theorem wLc_eq {is : List Nat} : wLc wi pt wt we is E KD KX = wi E (fun ds => ds.length ≤ sizeLine ∧ ∃ f : D → Option D,
  (∀ d ∈ ds, pt.up d (wipeE E is) fun E' => wt E' (fun b => if b = true then we E' (fun y => f d = some y) (fun _ => False) else f d = none) (fun _ => False)) ∧ KD (.list (ds.filterMap f))) KX := rfl
theorem wYes_eq : wYes E KB KX = KB true := rfl
theorem up_one : (Pt.one i).up d E = fun K => K (E.set i (.fr d)) := rfl
theorem up_many {is : List Nat} {K : List Sl → Prop} : (Pt.many is).up (.tuple ds) E K = (ds.length = is.length ∧ K (setsE E is ds)) := by
  apply propext; simp [Pt.up]
theorem ex2Int {a b : Int} {P : Int → Int → Prop} : (∃ x y, PyData.int a = .int x ∧ PyData.int b = .int y ∧ P x y) = P a b := by
  apply propext; simp
end
/-! ### further statements -/
section
variable {X : Cx} {W : WX} {e e2 tg : Expr} {pos : Pos} {m : Mo} {we : WE} {wt : WT} {wi : WI} {st : Stmt} {w : WS}
/-- a list of one's own handed on, if it is still one's own -/
def wFzT (i : Nat) (w : WS) : WS := fun C E => (∃ ds, E[i]? = some (.ow ds) ∧ w C (E.set i (.fr (.list ds)))) ∨ (∃ d, E[i]? = some (.fr d) ∧ w C E)
theorem s_fzT (i : Nat) (h : S m X W st w) : S m X W st (wFzT i w) := ps_imp h fun DD σ H ⟨H0, F0, F, own, E, C, r, q, kn, kb, kc, kr, kx⟩ => by
  rcases q with ⟨ds, e, q⟩ | ⟨d, e, q⟩
  · obtain ⟨F', own', r', _⟩ := r.fzOw e
    exact ⟨H0, F0, F', own', _, C, r', q, kn, kb, kc, kr, kx⟩
  · exact ⟨H0, F0, F, own, E, C, r, q, kn, kb, kc, kr, kx⟩
def fzS : Option Sl → List Sl → Nat → (List Sl → Prop) → Prop
  | some (.ow ds), E, i, k => k (E.set i (.fr (.list ds)))
  | some (.fr _), E, _, k => k E
  | _, _, _, _ => False
theorem fzS_ow {ds : List D} {E : List Sl} {i : Nat} {k : List Sl → Prop} : fzS (some (.ow ds)) E i k = k (E.set i (.fr (.list ds))) := rfl
theorem fzS_fr {d : D} {E : List Sl} {i : Nat} {k : List Sl → Prop} : fzS (some (.fr d)) E i k = k E := rfl
theorem wFzT_eq {C : EndsD} {E : List Sl} {i : Nat} : wFzT i w C E = fzS E[i]? E i (w C) := by
  apply propext
  unfold wFzT
  cases E[i]? with
  | none => simp [fzS]
  | some s => cases s <;> simp [fzS]
theorem s_setLcF {i : Nat} {y : Str} {py spos : Pos} {scope : Scope} {own : List (Str × Nat)} {pt : Pt} {ifs : List Expr} (hc : X.calm = true) (hN : X.N.Nodup) (hsw : swapsWith (.ListComp e2 [⟨tg, e, ifs, 0⟩] scope pos) (some (.Name y py)) spos.line X.env = pure true) (hi : IJ X W tg e wi) (ok : BlkOk X.N X.env.scope scope own)
    (hg : ∀ (s : Shared) (H : Hp) (C : Addr) (cl : List (Str × Addr)) (fp : List Addr), PG (X.blk s H scope (compEnvC scope cl C X.env) fp) tg (pt.g X.K))
    (ht : ∀ (s : Shared) (H : Hp) (C : Addr) (cl : List (Str × Addr)) (fp : List Addr), PTs (X.blk s H scope (compEnvC scope cl C X.env) fp) ifs (tJT X.K W0 wt))
    (he : ∀ (s : Shared) (H : Hp) (C : Addr) (cl : List (Str × Addr)) (fp : List Addr), J .fz (X.blk s H scope (compEnvC scope cl C X.env) fp) W0 e2 we) (hws : ∀ i ∈ pt.is, i ∈ own.map (·.2)) (hy : X.N[i]? = some y := by rfl) (hyl : X.env.scope.names.lookup y = some .local := by rfl) (hs : ∀ x, foldedSetIterable e X.env x = pure x := by intro _; rfl) :
    S m X W (.Assign [.Name y py] (.ListComp e2 [⟨tg, e, ifs, 0⟩] scope pos) spos) (wSet i (wLc wi pt wt we (own.map (·.2)))) :=
  ps_imp (ps_setLc (te := tJ .fz X.K W0 we) hc hN hy hyl hsw hi ok hg ht he hs) fun DD σ H h => by
    obtain ⟨H0, F0, F, own', E, C, r, q, kn, kb, kc, kr, kx⟩ := h
    exact lc_rd hws ⟨H0, F0, F, own', E, _, _, r, q, fun d hd F' H' v g ⟨p, vs, ds, e1, e2, n, nf, eh, ra⟩ => by
      subst e1 e2
      have g2 := g.freeze n nf eh
      exact kn _ _ _ _ _ ((r.grow g2).putFr (.lst upd_same (RpAll.mono (same_upd nf) _ _ ra))) hd, fun c hc F' H' g => kx c _ _ _ _ _ (r.grow g) hc⟩
/-- a, b = e -/
def wSetP (pt : Pt) (we : WE) : WS := fun C E => we E (fun d => pt.up d E C.nx) (fun c => C.ex c E)
theorem s_setP {pt : Pt} (he : J .fz X W e we) (hg : PG X tg (pt.g X.K)) (hs : swapsWithSole [tg] e pos.line X.env = pure false := by rfl) (hw : swappedStores [tg] e X.env = pure none := by rfl)
    (h1 : (assignEach [tg] X.env).map (·.2) = [assign tg X.env] := by rfl) : S m X W (.Assign [tg] e pos) (wSetP pt we) :=
  ps_imp (ps_asg he hg hs hw h1) fun DD σ H ⟨H0, F0, F, own, E, C, r, q, kn, kb, kc, kr, kx⟩ =>
    ⟨H0, F0, F, own, E, _, _, r, q, fun d hd F' H' v g rs => pt.run (r.grow g) rs hd fun own' E' vs r' h => kn _ _ _ _ _ r' h, fun c hc F' H' g => kx c _ _ _ _ _ (r.grow g) hc⟩
theorem wSetP_eq {pt : Pt} {C : EndsD} {E : List Sl} : wSetP pt we C E = we E (fun d => pt.up d E C.nx) (fun c => C.ex c E) := rfl
end
/-! isinstance of the usual types -/
def isInt : D → Bool
  | .int _ => true
  | .bool _ => true
  | _ => false
def isBool : D → Bool
  | .bool _ => true
  | _ => false
def isStr : D → Bool
  | .str _ => true
  | _ => false
def isList : D → Bool
  | .list _ => true
  | _ => false
def isTup : D → Bool
  | .tuple _ => true
  | _ => false
def kTy (T : String) (f : String → Bool) : Bool := ["NoneType", "bool", "int", "str", "list", "tuple", "dict"].all fun a => decide (kitB a T = some (f a))
theorem kTy_at {T : String} {f : String → Bool} (h : kTy T f = true) (d : D) : kitB (tyD d) T = some (f (tyD d)) := by
  unfold kTy at h
  simp only [List.all_cons, List.all_nil, Bool.and_true, Bool.and_eq_true, decide_eq_true_eq] at h
  obtain ⟨h1, h2, h3, h4, h5, h6, h7⟩ := h
  cases d with
  | none => exact h1
  | bool _ => exact h2
  | int _ => exact h3
  | str _ => exact h4
  | list _ => exact h5
  | tuple _ => exact h6
  | dict _ => exact h7
theorem kit_int (d : D) : kitB (tyD d) "int" = some (isInt d) := by
  rw [kTy_at (T := "int") (f := fun a => a == "int" || a == "bool") (by decide +kernel) d]
  cases d <;> rfl
theorem kit_bool (d : D) : kitB (tyD d) "bool" = some (isBool d) := by
  rw [kTy_at (T := "bool") (f := fun a => a == "bool") (by decide +kernel) d]
  cases d <;> rfl
theorem kit_str (d : D) : kitB (tyD d) "str" = some (isStr d) := by
  rw [kTy_at (T := "str") (f := fun a => a == "str") (by decide +kernel) d]
  cases d <;> rfl
theorem kit_list (d : D) : kitB (tyD d) "list" = some (isList d) := by
  rw [kTy_at (T := "list") (f := fun a => a == "list") (by decide +kernel) d]
  cases d <;> rfl
theorem kit_tuple (d : D) : kitB (tyD d) "tuple" = some (isTup d) := by
  rw [kTy_at (T := "tuple") (f := fun a => a == "tuple") (by decide +kernel) d]
  cases d <;> rfl
theorem exSome {α : Type} {b : α} {P : α → Prop} : (∃ c, some b = some c ∧ P c) = P b := by
  apply propext; simp
section
variable {E : List Sl} {KD : D → Prop} {KX : Str → Prop} {we : WE}
theorem isi_gen {T : String} {g : D → Bool} (h : ∀ d, kitB (tyD d) T = some (g d)) : wIsi we T E KD KX = we E (fun d => KD (.bool (g d))) KX := by
  unfold wIsi
  congr 1
  funext d
  rw [h d]
  exact exSome
theorem isi_int : wIsi we "int" E KD KX = we E (fun d => KD (.bool (isInt d))) KX := isi_gen kit_int
theorem isi_bool : wIsi we "bool" E KD KX = we E (fun d => KD (.bool (isBool d))) KX := isi_gen kit_bool
theorem isi_str : wIsi we "str" E KD KX = we E (fun d => KD (.bool (isStr d))) KX := isi_gen kit_str
theorem isi_list : wIsi we "list" E KD KX = we E (fun d => KD (.bool (isList d))) KX := isi_gen kit_list
theorem isi_tuple : wIsi we "tuple" E KD KX = we E (fun d => KD (.bool (isTup d))) KX := isi_gen kit_tuple
theorem isi2_lt : wIsi2 we "list" "tuple" E KD KX = we E (fun d => KD (.bool (isList d || isTup d))) KX := by
  unfold wIsi2
  congr 1
  funext d
  rw [kit_list d, kit_tuple d]
  apply propext; simp
end
theorem hu65 {k : Nat} {A : Around} (r : Room k A) : A.units + 65 < cLine := by have := r.un; omega
theorem slOf_rd (d : D) : slOf .rd d = .fr d ∨ ∃ es, d = .list es := by
  cases d with
  | list es => exact .inr ⟨es, rfl⟩
  | _ => exact .inl rfl
theorem rdS_slOf (m : Mo) (d : D) (k : D → Prop) : rdS (some (slOf m d)) k = k d := by
  cases m <;> cases d <;> rfl
theorem erase_perm {α : Type} : ∀ {l : List α} {i : Nat} (h : i < l.length), (l[i] :: l.eraseIdx i).Perm l
  | a :: l, 0, _ => .refl _
  | a :: l, i + 1, h => by
    have h' : i < l.length := by simpa using h
    show (l[i] :: a :: l.eraseIdx i).Perm (a :: l)
    exact (List.Perm.swap _ _ _).trans (.cons _ (erase_perm h'))
theorem filterMap_some {α β : Type} (f : α → β) (l : List α) : l.filterMap (fun a => some (f a)) = l.map f := by
  induction l with
  | nil => rfl
  | cons a r ih => simp [ih]
theorem atI_cast {α : Type} (l : List α) (n : Nat) : atI l (n : Int) = l[n]? := by
  unfold atI ixN
  rw [if_pos (Int.natCast_nonneg n)]
  by_cases h : n < l.length
  · rw [if_pos (by omega)]; simp
  · rw [if_neg (by omega)]; simp; omega
theorem atI_pos {α : Type} (l : List α) (n : Int) (h : 0 ≤ n) : atI l n = l[n.toNat]? := by
  obtain ⟨k, rfl⟩ := Int.eq_ofNat_of_zero_le h
  rw [atI_cast, Int.toNat_natCast]
theorem ixN_cast (k n : Nat) (h : n < k) : ixN k (n : Int) = some n := by
  unfold ixN
  rw [if_pos (Int.natCast_nonneg n), if_pos (by omega)]
  simp
theorem shaped_int (i : Int) : (SeqAt.shaped (.int i) = true) = True := by simp [SeqAt.shaped, PyData.canLay0, PyData.depth]
theorem shaped_bool (i : Bool) : (SeqAt.shaped (.bool i) = true) = True := by simp [SeqAt.shaped, PyData.canLay0, PyData.depth]
theorem shaped_none : (SeqAt.shaped .none = true) = True := by simp [SeqAt.shaped, PyData.canLay0, PyData.depth]
theorem eqv_int (a b : Int) : PyData.eqv (.int a) (.int b) = (a == b) := by simp [PyData.eqv]
theorem seqIx (k n : Nat) (h : k < n) : seqIndex? (k : Int) n = some k := by
  have := seqIndex_of (k := (k : Int)) (n := n) (by omega) (by omega)
  rw [this]; simp
theorem cdiv_small {i : Int} {j : Nat} (h : 0 < j) (h2 : j ≤ 1000000) : CDivW i (j : Int) := wide_div (b := 30) (by omega) (by rw [Int.natAbs_natCast]; exact Nat.lt_of_le_of_lt h2 (by decide)) (by decide) (by decide)
theorem size_big {n : Nat} (h : n ≤ 1000000) : n ≤ sizeLine := by rw [sizeLine_eq]; omega
theorem size_big' {n : Nat} (h : n ≤ 1000000) : n < sizeLine := by rw [sizeLine_eq]; omega
end Tb

set_option Elab.async false
set_option linter.all false
set_option maxRecDepth 100000
/-! ### enumerate of a tuple -/
namespace PySem
set_option maxHeartbeats 1000000 in
theorem enumMakesT {v : Value} {ob : Obj} {Hp0 : Heap → Prop} (B : Begins v ob Hp0) :
    Meets (Builtin.«enumerate.__new__» ⟨[.type "enumerate", v], []⟩) (fun _ R s => Hp0 s.heap ∧
      R (.ok (.ret (.ref (s.heap.push ob).objs.size))) { s with heap := (s.heap.push ob).push { cls := .type "enumerate", data := .fields #[.none, .bool false, .ref s.heap.objs.size, rawInt 0, .none, .none] } }) :=
  .of_wp fun prog w A R s hh => by
    obtain ⟨hp, ge, dr, tk, os⟩ := s
    obtain ⟨hb, hh⟩ := hh
    have hsub := sub_enumerate
    have it1 : ∀ {A' : Around} {E : Value → Shared → Prop} {Q : Value → Shared → Prop}, Q (.ref hp.objs.size) ⟨hp.push ob, ge, dr, tk, os⟩ → wpAny (model prog w) A' (pyIter v) Q E ⟨hp, ge, dr, tk, os⟩ :=
      fun q => B.iter prog w _ _ ⟨hp, ge, dr, tk, os⟩ _ hb q
    wp_walk using it1
    refine wpAny_stack_any fun st => wpAny_pure ?_
    split
    · rename_i cl _ _ _ _ _
      cases (cl == Value.type "enumerate") <;> (wp_walk using it1; exact ⟨_, rfl, hh⟩)
    · wp_walk using it1
      exact ⟨_, rfl, hh⟩
theorem enumBeginsT {prog : Program} {w : World} {A : Around} {E : Value → Shared → Prop} {s : Shared} {v : Value} {ob : Obj} {Hp0 : Heap → Prop} {Q : Value → Shared → Prop} (B : Begins v ob Hp0) (hb : Hp0 s.heap)
    (hk : ∀ h', IsEnum h' (s.heap.objs.size + 1) s.heap.objs.size 0 .none → h'.get? s.heap.objs.size = some ob → (∀ b o, s.heap.get? b = some o → h'.get? b = some o) → Q (.ref (s.heap.objs.size + 1)) { s with heap := h' }) :
    wpAny (model prog w) A (call (.type "enumerate") [v]) Q E s := by
  refine callType_new F.called_enumerate (by decide) (F.typeCall_enumerate_1 _) (F.newCall_enumerate_1 _) (fun obj => F.args_object_init_2 obj _) F.entry_enumerate_new (enumMakesT B) ⟨hb, ?_⟩
  have hz : (s.heap.push ob).objs.size = s.heap.objs.size + 1 := Heap.size_push ..
  show _ ∧ _
  rw [hz]
  have he : IsEnum ((s.heap.push ob).push { cls := .type "enumerate", data := .fields #[.none, .bool false, .ref s.heap.objs.size, rawInt 0, .none, .none] }) (s.heap.objs.size + 1) s.heap.objs.size 0 .none := by
    have q := Heap.get?_push_size (s.heap.push ob) (o := { cls := .type "enumerate", data := .fields #[.none, .bool false, .ref s.heap.objs.size, rawInt 0, .none, .none] }) rfl
    rwa [hz] at q
  exact ⟨⟨_, he, rfl⟩, hk _ he (Heap.get?_push_of_some _ (Heap.get?_push_size _ B.free)) fun b o x => Heap.get?_push_of_some _ (Heap.get?_push_of_some _ x)⟩
end PySem
namespace Tb
open PySem PySem.Spec L2
def Iet (K : Frag) (a : Addr) : It :=
  ⟨fun i H => ∃ (xs : List V) (x : V), SqT K H a xs ∧ xs[i]? = some x, fun i H v H' => ∃ T x, v = .ref T ∧ H T = none ∧ H' = upd H T (.tup [.int (i : Nat), x]) ∧ ∀ xs, SqT K H a xs → xs[i]? = some x,
    fun i H => ∃ xs : List V, SqT K H a xs ∧ xs.length = i⟩
theorem turn_enumT {P : Program} {w : World} {K : Frag} {elts : List Expr} {kk : Nat} {tpos : Pos} (a e it : Addr) (ha : a ≠ it) :
    Turn P w K (.Tuple elts kk tpos) (Iet K a) [e, it] e (fun i h => (∃ old, IsEnum h e it ((i : Nat) : Int) old) ∧ h.IsTupleIter it a i ∧ e ≠ it) where
  mem := by simp
  obj := fun i h st b hb => by
    obtain ⟨⟨old, he⟩, ⟨o, ho, hc, hd⟩, _⟩ := st
    rcases (show b = e ∨ b = it by simpa using hb) with rfl | rfl
    · exact ⟨_, he, fun v q => nomatch q⟩
    · exact ⟨o, ho, fun v q => by rw [hd] at q; cases q⟩
  keep := fun i h h' st k => ⟨st.1.imp fun old he => k e (by simp) _ he, st.2.1.at fun o q => k it (by simp) o q, st.2.2⟩
  item := by
    intro X hP hw hK hc i pins s σ H E I hf st hg
    subst hP hw hK
    obtain ⟨⟨old, he⟩, hit, hne⟩ := st
    obtain ⟨xs, x, hq, hx⟩ := hg
    obtain ⟨its, rv, p, hz⟩ := I.tuple hq
    obtain ⟨u, hu, ru⟩ := rv.get hx
    have hel : e < s.heap.objs.size := Heap.lt_size he
    have hil : it < s.heap.objs.size := by obtain ⟨_, q, _⟩ := hit; exact Heap.lt_size q
    have hlt : i < its.toArray.size := by
      have := (List.getElem?_eq_some_iff.mp hu).1
      simpa using this
    have hea : e ≠ a := fun z => by
      obtain ⟨o, ho, hcl, _⟩ := p
      subst z
      rw [he] at ho; cases ho
      exact absurd (show Value.type "enumerate" = Value.type "tuple" from hcl) (by decide)
    have Dr := Draws.tuple (prog := X.prog) (w := X.w) (A := X.A.in1) (I.ok.hd hc) it a ha its.toArray
    refine wpAny_pyNext_enum_itemD Dr he ⟨hit, p⟩ hlt hne (by simp; exact ⟨hne, hea⟩) fun y h' tk hy ho hst' hT hsz hk => ?_
    have ey : y = u := by
      have : its.toArray[i]? = some u := by simpa using hu
      rw [this] at hy; exact (Option.some.inj hy).symm
    subst ey
    refine ⟨_, rfl, wpAny_letOwnedTupleGo_enum (s := { s with heap := h', toks := tk + 1 }) ho fun h'' he' sb => ?_⟩
    have hT2 : h''.get? s.heap.objs.size = some { cls := .type "tuple", data := .seq #[.int i tk, y] } := (sb.2 _ (Nat.ne_of_gt hel)).trans hT
    have new : ObjOk X.prog X.w (upd H s.heap.objs.size (.tup [.int (i : Nat), x])) h'' s.heap.objs.size (.tup [.int (i : Nat), x]) :=
      ⟨by show 2 ≤ sizeLine; decide, [.int i tk, y], .cons ⟨_, rfl⟩ (.cons ru .nil), ⟨_, hT2, rfl, _, rfl⟩⟩
    have I1 : Inv X pins σ (upd H s.heap.objs.size (.tup [.int (i : Nat), x])) { s with heap := h'', toks := tk + 1 } :=
      I.turnedNew (ch := [e, it]) (fun b ob hb q => (sb.2 b (fun z => hb (by simp [z]))).trans (hk b ob (fun z => hb (by simp [z])) (fun z => hb (by simp [z])) q)) hf (Nat.le_refl _) new
    have ei : ((i + 1 : Nat) : Int) = (i : Int) + 1 := rfl
    refine ⟨.ref s.heap.objs.size, _, I1, rfl, ⟨_, x, rfl, I.hok.fresh (Nat.le_refl _), rfl, fun ys hy => by rw [I.tuple_inj hy hq]; exact hx⟩, ⟨⟨y, by rw [ei]; exact he'⟩, hst'.1.at fun o q => (sb.2 it (Ne.symm hne)).trans q, hne⟩, fun b hb => ?_⟩
    have hb' : b < s.heap.objs.size := by
      rcases (show b = e ∨ b = it by simpa using hb) with rfl | rfl
      · exact hel
      · exact hil
    rw [upd_ne (Nat.ne_of_lt hb')]
    exact (hf b hb).1
  done := by
    intro X hP hw hK hc i pins s σ H E I hf st hg
    subst hP hw hK
    obtain ⟨⟨old, he⟩, hit, hne⟩ := st
    obtain ⟨xs, hq, hx⟩ := hg
    obtain ⟨its, rv, p, hz⟩ := I.tuple hq
    obtain ⟨f0, f1, f2, f3, f4, f5⟩ := hf it (by simp)
    have hl : its.toArray.size = i := by
      have := rv.length
      simp; omega
    have Dr := Draws.tuple (prog := X.prog) (w := X.w) (A := X.A.in1) (I.ok.hd hc) it a ha its.toArray
    exact wpAny_pyNext_enum_endD Dr he (by rw [hl]; exact ⟨hit, p⟩) fun h' eb => ⟨rfl, I.turned (t' := s.toks) (fun b o hb q => eb b o hb q) f0 f1 f3 f4 f5⟩
  self := fun A i s Q E st h => let ⟨⟨_, he⟩, _⟩ := st; wpAny_pyIter_enum he h
def iEnumT (K : Frag) (ta : TA) : TI := fun σ H R => ta σ H fun vs H1 => ∃ a xs, vs = [.ref a] ∧ SqT K H1 a xs ∧ R (Iet K a) H1
theorem pi_enumT {X : Cx} {e : Expr} {ta : TA} {p pos tpos : Pos} {elts : List Expr} {kk : Nat} (hg : Gl X "enumerate") (hm : X.mg "enumerate" = none) (ha : PA X [e] ta) (hs : starEach [e] X.env = [(false, eval e X.env)] := by rfl) :
    PI X (.Tuple elts kk tpos) (.Call (.Name "enumerate" p) [e] [] pos) (iEnumT X.K ta) := by
  refine ⟨fun pins s σ H R I h => ?_⟩
  refine PyProof.Rows.Call_ (ld_blt I hg hm PyProof.Rows.boot_enumerate (PyProof.Rows.callWith_type1 (thn (ha.run pos pins s σ H _ I h) fun us s1 ⟨vs, H1, I1, r1, q1⟩ => ?_) hs rfl))
  obtain ⟨a, xs, ex, hq, q⟩ := q1
  subst ex
  cases r1 with
  | cons r rr =>
    cases rr
    cases r
    obtain ⟨its, rv, p', hz⟩ := I1.tuple hq
    have hal : a < s1.heap.objs.size := by
      obtain ⟨o, ho, _⟩ := p'; exact Heap.lt_size ho
    refine enumBeginsT (begins_tuple a its.toArray) p' fun h' he hit hk => wpAny_pyIter_enum he ?_
    have I2 : Inv X pins σ H1 { s1 with heap := h' } := I1.kept (t' := s1.toks) hk
    refine ⟨s1.heap.objs.size + 1, [s1.heap.objs.size + 1, s1.heap.objs.size], _, _, H1, rfl, I2, turn_enumT a (s1.heap.objs.size + 1) s1.heap.objs.size (Nat.ne_of_lt hal), ⟨⟨.none, he⟩, ⟨_, hit, rfl, rfl⟩, Nat.succ_ne_self _⟩, fun b hb => ?_, q⟩
    have hle : s1.heap.objs.size ≤ b := by
      rcases (show b = s1.heap.objs.size + 1 ∨ b = s1.heap.objs.size by simpa using hb) with rfl | rfl
      · exact Nat.le_add_right _ _
      · exact Nat.le_refl _
    exact I1.fpOk hle (I1.hok.fresh hle)
section
variable {X : Cx} {W : WX} {e : Expr} {pos p : Pos} {m : Mo} {we : WE}
def wIET (we : WE) : WI := fun E KI KX => we E (fun d => ∃ ds, d = .tuple ds ∧ KI (enumD ds)) KX
theorem iet_ok {K : Frag} {H0 F1 : Hp} {q : Addr} {vs : List V} {ds : List D} (hs : SqT K F1 q vs) (ra : RpAll K F1 vs ds) : ItOk K H0 F1 (Iet K q) (enumD ds) := fun F H h1 h2 h3 => by
  have sq := seqT_mono h2 (seqT_mono h1 hs)
  refine ⟨fun i d e => ?_, ⟨vs, sq, by rw [ra.len]; simp [enumD]⟩⟩
  obtain ⟨y, ey, rfl⟩ := enumD_at e
  obtain ⟨v, ev, rv⟩ := ra.get ey
  refine ⟨⟨vs, v, sq, ev⟩, fun x H' ⟨T, x1, e1, nT, eH, hx⟩ => ?_⟩
  subst eH e1
  have ex := hx vs sq
  rw [ev] at ex
  cases ex
  exact ⟨_, Grow.layF h2 nT, .tup (SqT.of upd_same) (.cons (.int _) (.cons (Rp.mono (h1.trans (same_upd (none_of_same h2 nT))) _ _ rv) .nil))⟩
theorem i_enumT {elts : List Expr} {kk : Nat} {tpos : Pos} (hm : X.mg "enumerate" = none) (he : J m X W e we) (hg : Gl X "enumerate" := by rfl) (hst : starEach [e] X.env = [(false, eval e X.env)] := by rfl) :
    IJ X W (.Tuple elts kk tpos) (.Call (.Name "enumerate" p) [e] [] pos) (wIET we) :=
  pi_imp (pi_enumT hg hm (pa_cons he.rd pa_nil hst) hst) fun σ H R ⟨H0, F0, F, own, E, KI, KX, r, q, k, x⟩ =>
  ⟨H0, F0, F, own, E, _, KX, r, q, fun d ⟨ds, ed, hd⟩ F' H' v g rs => by
    subst ed
    have rp : Rp X.K F' v (.tuple ds) := Res.scal (e := .none) (fun _ z => nomatch z) rs
    cases rp with
    | tup h1 h2 => exact ⟨_, _, rfl, seqT_mono g.fh h1, k _ hd F' H' _ g (iet_ok h1 h2)⟩, x⟩
theorem wIET_eq {E : List Sl} {KI : List D → Prop} {KX : Str → Prop} : wIET we E KI KX = we E (fun d => ∃ ds, d = .tuple ds ∧ KI (enumD ds)) KX := rfl
end
end Tb

set_option Elab.async false
set_option linter.all false
set_option maxRecDepth 100000
set_option maxHeartbeats 1000000
namespace Tb
section
open PySem PySem.Spec PySem.W PyProof.Rows PySem.Challenge L2
variable {X : Cx} {W : WX} {e : Expr} {we : WE} {m : Mo} {p pos : Pos}
/-! ### sorted of ints, downward -/
def rSORT (b : Bool) : List D → (D → Prop) → Prop := fun ds KD => ∃ ns : List Int, ds = [.list (ns.map PyData.int)] ∧ ∀ ns' : List Int, ns'.Perm ns → OrdB b ns' → KD (.list (ns'.map PyData.int))
theorem rp_ints {K : Frag} {F : Hp} : ∀ ns : List Int, RpAll K F (ns.map V.int) (ns.map PyData.int)
  | [] => .nil
  | n :: ns => .cons (.int n) (rp_ints ns)
theorem cb_sortR {K : Frag} {b : Bool} : CbD [.rd] .nw K (fun vs H Q => rSortedKw K b [.bl b] vs [.bl b] H Q) (rSORT b) := fun ds KD vs H0 F H Q ⟨ns, e, q⟩ s ra k => by
  subst e
  obtain ⟨v, rfl, r⟩ := ra1 ra
  obtain ⟨p, ws, rfl, sq, rr⟩ := r.list s
  rw [RpAll.ofInts rr] at sq
  exact ⟨p, ns, rfl, rfl, sq, fun ns' l hp ho nl => k _ (q ns' hp ho) F _ _ (Grow.lay s nl) ⟨l, _, _, rfl, rfl, nl, none_of_same s nl, upd_same, rp_ints ns'⟩⟩
theorem j_sortedR {b : Bool} {j : Nat} {bp kpos : Pos} (hm : X.mg "sorted" = none) (h : J m X W e we) (hg : Gl X "sorted" := by rfl) (hst : starEach [e] X.env = (false, eval e X.env) :: starEach [] X.env := by rfl)
    (he : backTo pos (starEach [e] X.env) = (false, eval e X.env) :: backTo pos (starEach [] X.env) := by rfl) (hpl : (backTo pos (starEach [e] X.env)).any (·.1) = false := by rfl)
    (hall : (backToKw pos (keywordEach [⟨some "reverse", .Constant (.bool b) j bp, kpos⟩] X.env)).all (·.1.isSome) = true := by rfl) (hnone : (backToKw pos (keywordEach [⟨some "reverse", .Constant (.bool b) j bp, kpos⟩] X.env)).any (·.1.isNone) = false := by rfl)
    (hks : (backToKw pos (keywordEach [⟨some "reverse", .Constant (.bool b) j bp, kpos⟩] X.env)).filterMap (·.1) = [Str.ofString "reverse"] := by rfl) :
    J .nw X W (.Call (.Name "sorted" p) [e] [⟨some "reverse", .Constant (.bool b) j bp, kpos⟩] pos) (wCall (wA we wA0) (rSORT b)) :=
  pe_imp (pe_callBK (cr_sortedRev (b := b)) hg hm (by decide +kernel) (ja_cons h.rd ja_nil (by decide) hst).1 (pk_cons pe_bl pk_nil) (he := he) (hpl := hpl) (hall := hall) (hnone := hnone) (hks := hks)) fun σ H Q h => cb_rd cb_sortR h
end
end Tb

set_option Elab.async false
set_option linter.all false
set_option maxRecDepth 100000
set_option maxHeartbeats 1000000
/-! ### dicts of one's own, keys ints and texts -/
namespace Tb
open PySem PySem.Spec L2
def valD (kvs : List (Key × D)) (k : Key) : Option D := (kvs.find? fun kv => decide (kv.1 = k)).map (·.2)
def putD (kvs : List (Key × D)) (k : Key) (d : D) : List (Key × D) :=
  if (kvs.any fun kv => decide (kv.1 = k)) = true then kvs.map (fun kv => if kv.1 = k then (kv.1, d) else kv) else kvs ++ [(k, d)]
theorem valD_nil {k : Key} : valD [] k = none := rfl
theorem valD_pos {p : Key × D} {r : List (Key × D)} {k : Key} (e : p.1 = k) : valD (p :: r) k = some p.2 := by simp [valD, List.find?_cons, e]
theorem valD_neg {p : Key × D} {r : List (Key × D)} {k : Key} (e : ¬ p.1 = k) : valD (p :: r) k = valD r k := by simp [valD, List.find?_cons, e]
theorem valD_any (k : Key) : ∀ kvs : List (Key × D), (kvs.any fun kv => decide (kv.1 = k)) = (valD kvs k).isSome
  | [] => rfl
  | p :: r => by
    by_cases e : p.1 = k
    · rw [valD_pos e]; simp [e]
    · rw [valD_neg e, ← valD_any k r]; simp [e]
theorem valD_map (k j : Key) (d : D) : ∀ kvs : List (Key × D), valD (kvs.map fun kv => if kv.1 = k then (kv.1, d) else kv) j = (valD kvs j).map fun x => if j = k then d else x
  | [] => rfl
  | p :: r => by
    rw [List.map_cons]
    by_cases e : p.1 = k
    · rw [if_pos e]
      by_cases e2 : p.1 = j
      · rw [valD_pos (p := (p.1, d)) e2, valD_pos e2]
        have : j = k := e2.symm.trans e
        simp [this]
      · rw [valD_neg (p := (p.1, d)) e2, valD_neg e2, valD_map k j d r]
    · rw [if_neg e]
      by_cases e2 : p.1 = j
      · rw [valD_pos e2, valD_pos e2]
        have : ¬ j = k := fun z => e (e2.trans z)
        simp [this]
      · rw [valD_neg e2, valD_neg e2, valD_map k j d r]
theorem valD_snoc (k j : Key) (d : D) : ∀ kvs : List (Key × D), valD kvs k = none → valD (kvs ++ [(k, d)]) j = if j = k then some d else valD kvs j
  | [], _ => by
    by_cases e : k = j
    · subst e; rw [if_pos rfl]; exact valD_pos rfl
    · rw [if_neg (fun z => e z.symm)]; exact valD_neg (p := (k, d)) e
  | p :: r, h => by
    have hk : ¬ p.1 = k := fun e => by rw [valD_pos e] at h; cases h
    rw [valD_neg hk] at h
    rw [List.cons_append]
    by_cases e : p.1 = j
    · rw [valD_pos e, valD_pos e, if_neg (fun z => hk (e.trans z))]
    · rw [valD_neg e, valD_neg e, valD_snoc k j d r h]
theorem valD_put (kvs : List (Key × D)) (k j : Key) (d : D) : valD (putD kvs k d) j = if j = k then some d else valD kvs j := by
  unfold putD
  rw [valD_any]
  cases h : valD kvs k with
  | none => rw [if_neg (by simp)]; exact valD_snoc k j d kvs h
  | some x =>
    rw [if_pos (by simp), valD_map]
    by_cases e : j = k
    · subst e; rw [h]; simp
    · rw [if_neg e]
      cases valD kvs j <;> simp [e]
theorem putD_len (kvs : List (Key × D)) (k : Key) (d : D) : (putD kvs k d).length ≤ kvs.length + 1 := by
  unfold putD
  split
  · rw [List.length_map]; omega
  · rw [List.length_append]; exact Nat.le_refl _
section
variable {K : Frag} {H0 F0 F F' H H' : Hp} {own : Own} {E : List Sl} {σ : St} {i : Nat}
abbrev PD (K : Frag) (F : Hp) : List (Key × V) → List (Key × D) → Prop := Paired fun (a : Key × V) (b : Key × D) => a.1 = b.1 ∧ Rp K F a.2 b.2
theorem pd_val {ws : List (Key × V)} {kvs : List (Key × D)} (h : PD K F ws kvs) (k : Key) : (valV ws k = none ∧ valD kvs k = none) ∨ ∃ v d, valV ws k = some v ∧ valD kvs k = some d ∧ Rp K F v d := by
  induction h with
  | nil => exact .inl ⟨rfl, rfl⟩
  | @cons a b as bs h t ih =>
    by_cases e : a.1 = k
    · exact .inr ⟨_, _, valV_pos e, valD_pos (h.1.symm.trans e), h.2⟩
    · rw [valV_neg e, valD_neg (fun z => e (h.1.trans z))]; exact ih
theorem pd_some {ws : List (Key × V)} {kvs : List (Key × D)} (h : PD K F ws kvs) (k : Key) : (valV ws k).isSome = (valD kvs k).isSome := by
  rcases pd_val h k with ⟨a, b⟩ | ⟨v, d, a, b, _⟩ <;> rw [a, b] <;> rfl
theorem pd_repl {ws : List (Key × V)} {kvs : List (Key × D)} (h : PD K F ws kvs) (k : Key) {v : V} {d : D} (r : Rp K F v d) : PD K F (ws.map fun kv => if kv.1 = k then (kv.1, v) else kv) (kvs.map fun kv => if kv.1 = k then (kv.1, d) else kv) := by
  induction h with
  | nil => exact .nil
  | @cons a b as bs h t ih =>
    rw [List.map_cons, List.map_cons]
    refine .cons ?_ ih
    by_cases e : a.1 = k
    · rw [if_pos e, if_pos (h.1.symm.trans e)]; exact ⟨h.1, r⟩
    · rw [if_neg e, if_neg (fun z => e (h.1.trans z))]; exact h
theorem pd_snoc {ws : List (Key × V)} {kvs : List (Key × D)} (h : PD K F ws kvs) (k : Key) {v : V} {d : D} (r : Rp K F v d) : PD K F (ws ++ [(k, v)]) (kvs ++ [(k, d)]) := by
  induction h with
  | nil => exact .cons ⟨rfl, r⟩ .nil
  | @cons a b as bs h t ih => exact .cons h ih
theorem pd_put {ws : List (Key × V)} {kvs : List (Key × D)} (h : PD K F ws kvs) (k : Key) {v : V} {d : D} (r : Rp K F v d) : PD K F (putK ws k v) (putD kvs k d) := by
  unfold putK putD
  rw [valV_any, valD_any, pd_some h k]
  split
  · exact pd_repl h k r
  · exact pd_snoc h k r
theorem pd_len {ws : List (Key × V)} {kvs : List (Key × D)} (h : PD K F ws kvs) : ws.length = kvs.length := Paired.length h
theorem rp_key {v : V} : ∀ {k : Key}, Rp K F v (keyD k) → v = kV k
  | .inl i, h => by cases h; rfl
  | .inr x, h => by cases h; rfl
theorem res_key {v : V} : ∀ {k : Key}, Res K H F' H' .rd v (keyD k) → v = kV k
  | .inl i, h => h.int
  | .inr x, h => h.str
theorem Rel.poke {p : Addr} {o : HO} (r : Rel K H0 F0 F own E σ H) (n1 : F p = none) (n2 : H0 p = none) (no : ∀ j, own p ≠ some j) : Rel K H0 F0 F own E σ (upd H p o) := by
  have hh : Same H0 (upd H p o) := fun b x e => by
    rw [upd_ne (ne_of_none e n2)]; exact r.g.h _ _ e
  have hf : Same F (upd H p o) := fun b x e => by
    rw [upd_ne (ne_of_none e n1)]; exact r.g.fh _ _ e
  refine ⟨r.len, ⟨r.g.f, hh, hf, r.g.new⟩, fun a j e => ?_, fun j s' e => ?_⟩
  · obtain ⟨q1, q2, q3⟩ := r.ow a j e
    refine ⟨q1, q2, ?_⟩
    by_cases ha : a = p
    · subst ha; rw [upd_same]; simp
    · rw [upd_ne ha]; exact q3
  · refine (r.sl j s' e).stay (Same.refl _) (Same.refl _) (fun a u q1 q2 => ?_) fun _ q => q
    have ha : a ≠ p := fun z => no j (z ▸ q1)
    rw [upd_ne ha]; exact q2
theorem dk_at {kvs : List (Key × D)} (r : Rel K H0 F0 F own E σ H) (e : E[i]? = some (.dk kvs)) :
    ∃ p ws, σ[i]? = some (some (.ref p)) ∧ own p = some i ∧ H p = some (.dK ws) ∧ PD K F ws kvs ∧ σ.getD i none = some (.ref p) := by
  obtain ⟨p, ws, e1, e2, e3, ra⟩ := r.sl i _ e
  exact ⟨p, ws, getD_some e1, e2, e3, ra, e1⟩
theorem dk_chg {kvs : List (Key × D)} {p : Addr} {ws : List (Key × V)} (r : Rel K H0 F0 F own E σ H) (e1 : σ.getD i none = some (.ref p)) (e2 : own p = some i) (ra : PD K F ws kvs) :
    Rel K H0 F0 F own (E.set i (.dk kvs)) σ (upd H p (.dK ws)) := r.chg e2 ⟨p, ws, e1, e2, upd_same, ra⟩
end
section
variable {X : Cx} {W : WX} {a b c e e2 : Expr} {pos p p2 : Pos} {m m1 m2 : Mo} {we we2 : WE}
/-- x = {} -/
def wSetD (i : Nat) : WS := fun C E => C.nx (E.set i (.dk []))
theorem s_setD {i : Nat} {x : Str} {pos' dp : Pos} (hN : X.N.Nodup) (hi : X.N[i]? = some x := by rfl) (hx : Loc X.env.scope x := by first | exact Or.inl rfl | exact Or.inr rfl) (hs : swapsWith (.Dict [] [] dp) (some (.Name x pos')) pos.line X.env = pure false := by rfl)
    (hf : X.fn x = true ∨ X.env.scope.names.lookup x = some .local := by first | exact .inl rfl | exact .inr rfl) : S m X W (.Assign [.Name x pos'] (.Dict [] [] dp) pos) (wSetD i) :=
  ps_imp (ps_set hN hi hx pe_dnewK hs hf) fun DD σ H ⟨H0, F0, F, own, E, C, r, q, kn, kb, kc, kr, kx⟩ q0 nq => by
    have g : Grow F H F (upd H q0 (.dK [])) := Grow.lay r.g.fh nq
    have no : ∀ j, own q0 ≠ some j := fun j z => (r.ow q0 j z).2.2 nq
    exact kn _ _ _ _ _ ((r.grow g).putNw (none_of_same r.g.fh nq) (none_of_same r.g.h nq) no (s := .dk []) (by rw [upd_same]; simp) (by exact ⟨q0, [], rfl, take_self, upd_same, .nil⟩)) q
/-- x = {k: e} -/
def wSetD1 (i : Nat) (wk we : WE) : WS := fun C E => wk E (fun k => we E (fun d => ∃ ky, k = keyD ky ∧ C.nx (E.set i (.dk [(ky, d)]))) (fun c => C.ex c E)) (fun c => C.ex c E)
theorem s_setD1 {i : Nat} {x : Str} {ke : Expr} {wk : WE} {pos' dp : Pos} (hN : X.N.Nodup) (hk : J m1 X W ke wk) (he : J .fz X W e we) (hm1 : m1 ≠ .nw := by decide) (hi : X.N[i]? = some x := by rfl) (hx : Loc X.env.scope x := by first | exact Or.inl rfl | exact Or.inr rfl) (hs : swapsWith (.Dict [some ke] [e] dp) (some (.Name x pos')) pos.line X.env = pure false := by rfl)
    (hf : X.fn x = true ∨ X.env.scope.names.lookup x = some .local := by first | exact .inl rfl | exact .inr rfl) : S m X W (.Assign [.Name x pos'] (.Dict [some ke] [e] dp) pos) (wSetD1 i wk we) :=
  ps_imp (ps_set hN hi hx (pe_disp (pps_cons hk.rd he pps_nil) rfl rfl (by simp) (by simp)) hs hf) fun DD σ H ⟨H0, F0, F, own, E, C, r, q, kn, kb, kc, kr, kx⟩ q0 nq => by
    have g0 : Grow F H F (upd H q0 (.dK [])) := Grow.lay r.g.fh nq
    have nF := none_of_same r.g.fh nq
    refine ⟨H0, F0, F, own, E, _, _, r.grow g0, q, fun k hk1 F1 H1 kv g1 rk => ⟨H0, F0, F1, own, E, _, _, (r.grow g0).grow g1, hk1, fun d ⟨ky, ek, hd⟩ F2 H2 v g2 rv => ?_, fun c hc F2 H2 g2 => kx c _ _ _ _ _ (((r.grow g0).grow g1).grow g2) hc⟩, fun c hc F1 H1 g1 => kx c _ _ _ _ _ ((r.grow g0).grow g1) hc⟩
    subst ek
    have ekv := res_key rk
    subst ekv
    have g12 := g1.trans g2
    have eq0 : H2 q0 = some (.dK []) := g12.h _ _ upd_same
    have nF2 : F2 q0 = none := by
      cases z : F2 q0 with
      | none => rfl
      | some u =>
        rcases g12.new q0 (by rw [z]; simp) with w | w
        · exact absurd nF w
        · rw [upd_same] at w; cases w
    refine ⟨eq0, [(ky, v)], rfl, by simp, ?_⟩
    have no : ∀ j, own q0 ≠ some j := fun j z => (r.ow q0 j z).2.2 nq
    have r2 := ((r.grow g0).grow g12).poke (o := .dK (mergeK [] [(ky, v)])) nF2 (none_of_same r.g.h nq) no
    exact kn _ _ _ _ _ (r2.putNw (s := .dk [(ky, d)]) nF2 (none_of_same r.g.h nq) no (by rw [upd_same]; simp) (by exact ⟨q0, _, rfl, take_self, upd_same, .cons ⟨rfl, rv⟩ .nil⟩)) hd
/-- x[k] of a dict -/
def wDIx (i : Nat) (wk : WE) : WE := fun E KD KX => ∃ kvs, E[i]? = some (.dk kvs) ∧ wk E (fun k => ∃ ky d, k = keyD ky ∧ valD kvs ky = some d ∧ KD d) KX
theorem j_dix {i : Nat} {o ke : Expr} {wk : WE} (hu : X.A.units + 65 < cLine) (ho : PE X o (tVar i)) (hk : J m1 X W ke wk) (hs : NoSl ke := by exact fun _ _ => rfl) : J .fz X W (.Subscript o ke pos) (wDIx i wk) :=
  pe_imp (pe_dget (by omega) ho hk.rd hs) fun σ H Q ⟨H0, F0, F, own, E, KD, KX, r, ⟨kvs, ed, q⟩, k, x⟩ => by
    obtain ⟨p, ws, e1, e2, e3, ra, e4⟩ := dk_at r ed
    refine ⟨_, e1, H0, F0, F, own, E, _, KX, r, q, fun d ⟨ky, d', ek, hv, hd⟩ F' H' kv g rk => ?_, x⟩
    subst ek
    have ekv := res_key rk
    subst ekv
    rcases pd_val ra ky with ⟨_, z⟩ | ⟨v, d2, z1, z2, rv⟩
    · rw [z] at hv; cases hv
    · rw [z2] at hv; cases hv
      exact ⟨p, v, rfl, .inl ⟨ws, ky, .inl (g.h _ _ e3), rfl, z1.symm⟩, k _ hd F' H' v g (Rp.mono g.f _ _ rv)⟩
/-- k in x -/
def wDIn (i : Nat) (wk : WE) : WE := fun E KD KX => ∃ kvs, E[i]? = some (.dk kvs) ∧ wk E (fun k => ∃ ky, k = keyD ky ∧ KD (.bool (valD kvs ky).isSome)) KX
def wDNi (i : Nat) (wk : WE) : WE := fun E KD KX => ∃ kvs, E[i]? = some (.dk kvs) ∧ wk E (fun k => ∃ ky, k = keyD ky ∧ KD (.bool (!(valD kvs ky).isSome))) KX
theorem din_rd {i : Nat} {wk : WE} {o : Expr} {f : Bool → Bool} {σ : St} {H : Hp} {Q : VK} (h : tJ .fz X.K W (fun E KD KX => ∃ kvs, E[i]? = some (.dk kvs) ∧ wk E (fun k => ∃ ky, k = keyD ky ∧ KD (.bool (f (valD kvs ky).isSome))) KX) σ H Q) :
    tJ .rd X.K W wk σ H fun y H1 => tVar i σ H1 fun x H2 => ∃ a o, x = .ref a ∧ DGet H2 a y o ∧ Q (.bl (f o.isSome)) H2 := by
  obtain ⟨H0, F0, F, own, E, KD, KX, r, ⟨kvs, ed, q⟩, k, x⟩ := h
  obtain ⟨p, ws, e1, e2, e3, ra, e4⟩ := dk_at r ed
  refine ⟨H0, F0, F, own, E, _, KX, r, q, fun d ⟨ky, ek, hd⟩ F' H' kv g rk => ?_, x⟩
  subst ek
  have ekv := res_key rk
  subst ekv
  refine ⟨_, e1, p, _, rfl, .inl ⟨ws, ky, .inl (g.h _ _ e3), rfl, rfl⟩, ?_⟩
  rw [pd_some ra ky]
  exact k _ hd F' H' _ g (.bl _)
theorem j_din {i : Nat} {o ke : Expr} {wk : WE} (hu : X.A.units + 65 < cLine) (ho : PE X o (tVar i)) (hk : J m1 X W ke wk) (hm : behindInMarks .In o = false := by with_unfolding_all rfl) : J .fz X W (.Compare ke [.In] [o] pos) (wDIn i wk) :=
  pe_imp (pe_cmp (pc_din (by omega) hk.rd ho) hm) fun _ _ _ h => din_rd (f := id) (o := o) h
theorem j_dnotin {i : Nat} {o ke : Expr} {wk : WE} (hu : X.A.units + 65 < cLine) (ho : PE X o (tVar i)) (hk : J m1 X W ke wk) (hm : behindInMarks .NotIn o = false := by with_unfolding_all rfl) : J .fz X W (.Compare ke [.NotIn] [o] pos) (wDNi i wk) :=
  pe_imp (pe_cmp (pc_dnotin (by omega) hk.rd ho) hm) fun _ _ _ h => din_rd (f := fun b => !b) (o := o) h
theorem tb_of {t : TE} {we : WE} (h : ∀ σ H Q, tJ .fz X.K W we σ H Q → t σ H Q) : ∀ σ H Q, tJT X.K W (wT we) σ H Q → tB t σ H Q := by
  intro σ H Q ⟨H0, F0, F, own, E, KB, KX, r, q, k, x⟩
  exact h _ _ _ ⟨H0, F0, F, own, E, _, KX, r, q, fun d ⟨b, e, hb⟩ F' H' v g rs => by
    subst e
    cases rs
    exact ⟨b, rfl, k b hb F' H' g⟩, x⟩
theorem jt_din {i : Nat} {o ke : Expr} {wk : WE} (hu : X.A.units + 65 < cLine) (ho : PE X o (tVar i)) (hk : J m1 X W ke wk) (hm : behindInMarks .In o = false := by with_unfolding_all rfl) : JT X W (.Compare ke [.In] [o] pos) (wT (wDIn i wk)) :=
  pt_imp (pt_cmp (pc_din (by omega) hk.rd ho) hm) (tb_of fun _ _ _ h => din_rd (f := id) (o := o) h)
theorem jt_dnotin {i : Nat} {o ke : Expr} {wk : WE} (hu : X.A.units + 65 < cLine) (ho : PE X o (tVar i)) (hk : J m1 X W ke wk) (hm : behindInMarks .NotIn o = false := by with_unfolding_all rfl) : JT X W (.Compare ke [.NotIn] [o] pos) (wT (wDNi i wk)) :=
  pt_imp (pt_cmp (pc_dnotin (by omega) hk.rd ho) hm) (tb_of fun _ _ _ h => din_rd (f := fun b => !b) (o := o) h)
/-- x[k] = e -/
def wDPut (i : Nat) (wk we : WE) : WS := fun C E => ∃ kvs, E[i]? = some (.dk kvs) ∧ kvs.length < sizeLine ∧ we E (fun d => wk E (fun k => ∃ ky, k = keyD ky ∧ C.nx (E.set i (.dk (putD kvs ky d)))) (fun c => C.ex c E)) (fun c => C.ex c E)
theorem s_dput {i : Nat} {xe ke : Expr} {wk : WE} {pos' : Pos} (hu : X.A.units + 65 < cLine) (hx : PE X xe (tVar i)) (hk : J m1 X W ke wk) (he : J .fz X W e we)
    (hs : swapsWith e (some (.Subscript xe ke pos')) pos.line X.env = pure false := by rfl) : S m X W (.Assign [.Subscript xe ke pos'] e pos) (wDPut i wk we) :=
  ps_imp (ps_dput (by omega) hx hk.rd he hs) fun DD σ H ⟨H0, F0, F, own, E, C, r, ⟨kvs, ed, hl, q⟩, kn, kb, kc, kr, kx⟩ => by
    obtain ⟨p, ws, e1, e2, e3, ra, e4⟩ := dk_at r ed
    refine ⟨H0, F0, F, own, E, _, _, r, q, fun d hd F' H' v g rs => ⟨_, e1, H0, F0, F', own, E, _, _, r.grow g, hd, fun k ⟨ky, ek, hn⟩ F2 H2 kv g2 rk => ?_, fun c hc F2 H2 g2 => kx c _ _ _ _ _ ((r.grow g).grow g2) hc⟩, fun c hc F' H' g => kx c _ _ _ _ _ (r.grow g) hc⟩
    subst ek
    have ekv := res_key rk
    subst ekv
    have e3' := (g.trans g2).h _ _ e3
    exact ⟨p, _, rfl, .inl ⟨ws, ky, e3', rfl, by rw [pd_len ra]; exact hl, rfl⟩, kn _ _ _ _ _ (dk_chg ((r.grow g).grow g2) e4 e2 (pd_put (kv_mono (g.trans g2).f ra) ky (Rp.mono g2.f _ _ rs))) hn⟩
end
end Tb

set_option Elab.async false
set_option linter.all false
set_option maxRecDepth 100000
set_option maxHeartbeats 1000000
/-! ### how the dict's terms read; texts; more of lists and numbers -/
namespace Tb
open PySem PySem.Spec L2
section
variable {E : List Sl} {KD : D → Prop} {KX : Str → Prop} {C : EndsD} {i : Nat} {wk we wo : WE}
@[simp] def dkS : Option Sl → (List (Key × D) → Prop) → Prop
  | some (.dk kvs), K => K kvs
  | _, _ => False
theorem dkS_dk {kvs : List (Key × D)} {K : List (Key × D) → Prop} : dkS (some (.dk kvs)) K = K kvs := rfl
theorem exDk {P : List (Key × D) → Prop} : (∃ kvs, E[i]? = some (.dk kvs) ∧ P kvs) = dkS E[i]? P := by
  apply propext
  cases h : E[i]? with
  | none => simp
  | some s => cases s <;> simp
theorem exKeyI {n : Int} {P : Key → Prop} : (∃ ky, PyData.int n = keyD ky ∧ P ky) = P (.inl n) := by
  apply propext
  constructor
  · rintro ⟨ky, e, p⟩
    cases ky with
    | inl m => cases e; exact p
    | inr m => cases e
  · exact fun p => ⟨.inl n, rfl, p⟩
theorem exKeyS {n : Str} {P : Key → Prop} : (∃ ky, PyData.str n = keyD ky ∧ P ky) = P (.inr n) := by
  apply propext
  constructor
  · rintro ⟨ky, e, p⟩
    cases ky with
    | inl m => cases e
    | inr m => cases e; exact p
  · exact fun p => ⟨.inr n, rfl, p⟩
theorem wSetD_eq : wSetD i C E = C.nx (E.set i (.dk [])) := rfl
theorem wSetD1_eq : wSetD1 i wk we C E = wk E (fun k => we E (fun d => ∃ ky, k = keyD ky ∧ C.nx (E.set i (.dk [(ky, d)]))) (fun c => C.ex c E)) (fun c => C.ex c E) := rfl
theorem wDIx_eq : wDIx i wk E KD KX = dkS E[i]? (fun kvs => wk E (fun k => ∃ ky, k = keyD ky ∧ ∃ d, valD kvs ky = some d ∧ KD d) KX) := by
  rw [← exDk]
  unfold wDIx
  congr; funext kvs; congr; funext k
  apply propext
  exact ⟨fun ⟨ky, d, a, b, c⟩ => ⟨ky, a, d, b, c⟩, fun ⟨ky, a, d, b, c⟩ => ⟨ky, d, a, b, c⟩⟩
theorem wDIn_eq : wDIn i wk E KD KX = dkS E[i]? (fun kvs => wk E (fun k => ∃ ky, k = keyD ky ∧ KD (.bool (valD kvs ky).isSome)) KX) := exDk
theorem wDNi_eq : wDNi i wk E KD KX = dkS E[i]? (fun kvs => wk E (fun k => ∃ ky, k = keyD ky ∧ KD (.bool (!(valD kvs ky).isSome))) KX) := exDk
theorem wDPut_eq : wDPut i wk we C E = dkS E[i]? (fun kvs => kvs.length < sizeLine ∧ we E (fun d => wk E (fun k => ∃ ky, k = keyD ky ∧ C.nx (E.set i (.dk (putD kvs ky d)))) (fun c => C.ex c E)) (fun c => C.ex c E)) := exDk
end
section
variable {X : Cx} {W : WX} {a b c e e2 xe ke : Expr} {pos p p2 : Pos} {m ma mb m1 m2 : Mo} {we we2 wa wb wk : WE}
/-! ### texts -/
def rSTRI : List D → (D → Prop) → Prop := fun ds KD => ∃ i : Int, ds = [.int i] ∧ i.natAbs.log2 < 1920 ∧ KD (.str (toString i))
theorem j_strI (hm : X.mg "str" = none) (h : J m X W e we) (hg : Gl X "str" := by rfl) (hst : starEach [e] X.env = (false, eval e X.env) :: starEach [] X.env := by rfl) : J .fz X W (.Call (.Name "str" p) [e] [] pos) (wCall (wA we wA0) rSTRI) :=
  j_bty call_str_int (fun ds KD vs H0 F H Q ⟨i, ed, hz, q⟩ s ra k => by
    subst ed
    obtain ⟨v, rfl, r⟩ := ra1 ra
    have := r.int
    subst this
    exact ⟨i, rfl, hz, k _ q F H _ (Grow.refl s) (Rp.str _)⟩ : CbD [.rd] .fz X.K _ rSTRI) hg hm (by decide +kernel) (ja_cons h.rd ja_nil (by decide) hst) (he := hst)
def wJoin (wo we : WE) : WE := fun E KD KX => wo E (fun x => ∃ a, x = .str a ∧ we E (fun d => ∃ ys : List Str, d = .list (ys.map PyData.str) ∧ (ys.map (·.length)).sum + ys.length * a.length ≤ 16777216 ∧ KD (.str (Str.join a ys))) KX) KX
theorem j_join {apos : Pos} (ha : J ma X W a wa) (he : J m X W e we) (hs : starEach [e] X.env = [(false, eval e X.env)] := by rfl) (hbase : attributeBase a "join" X.env (eval a X.env) = eval a X.env := by rfl) (hline : (apos.endLine == pos.line) = true := by rfl) :
    J .fz X W (.Call (.Attribute a "join" apos) [e] [] pos) (wJoin wa we) :=
  pe_imp (pe_join ha.rd he.rd hs hbase hline) fun σ H Q ⟨H0, F0, F, own, E, KD, KX, r, q, k, x⟩ =>
    ⟨H0, F0, F, own, E, _, KX, r, q, fun d ⟨s, ed, hd⟩ F' H' v g rs => by
      subst ed
      have := rs.str
      subst this
      exact ⟨⟨s, rfl⟩, H0, F0, F', own, E, _, KX, r.grow g, hd, fun d2 ⟨ys, ed2, hz, hq⟩ F2 H2 v2 g2 rs2 => by
        subst ed2
        obtain ⟨pp, ws, rfl, sq, rr⟩ := rs2.list g2.fh
        rw [RpAll.ofStrs rr] at sq
        exact ⟨s, pp, ys, rfl, rfl, .inl sq, hz, by rw [TL.join_eq]; exact k _ hq F2 H2 _ (g.trans g2) (Rp.str _)⟩, fun c hc F2 H2 g2 => x c hc _ _ (g.trans g2)⟩, x⟩
theorem wJoin_eq {E : List Sl} {KD : D → Prop} {KX : Str → Prop} {wo we : WE} : wJoin wo we E KD KX = wo E (fun x => ∃ a, x = .str a ∧ we E (fun d => ∃ ys : List Str, d = .list (ys.map PyData.str) ∧ (ys.map (·.length)).sum + ys.length * a.length ≤ 16777216 ∧ KD (.str (Str.join a ys))) KX) KX := rfl
/-! ### sorted of fewer than 64 ints -/
def rSORT0 : List D → (D → Prop) → Prop := fun ds KD => ∃ ns : List Int, ds = [.list (ns.map PyData.int)] ∧ ns.length < 64 ∧ ∀ ns' : List Int, ns'.Perm ns → ns'.Pairwise (· ≤ ·) → KD (.list (ns'.map PyData.int))
theorem j_sorted (hm : X.mg "sorted" = none) (h : J m X W e we) (hg : Gl X "sorted" := by rfl) (hst : starEach [e] X.env = (false, eval e X.env) :: starEach [] X.env := by rfl) : J .nw X W (.Call (.Name "sorted" p) [e] [] pos) (wCall (wA we wA0) rSORT0) :=
  j_blt (x := "sorted") cr_sorted (fun ds KD vs H0 F H Q ⟨ns, ed, hl, q⟩ s ra k => by
    subst ed
    obtain ⟨v, rfl, r⟩ := ra1 ra
    obtain ⟨pp, ws, rfl, sq, rr⟩ := r.list s
    rw [RpAll.ofInts rr] at sq
    exact ⟨pp, ns, rfl, sq, hl, fun ns' l hp ho nl => k _ (q ns' hp ho) F _ _ (Grow.lay s nl) ⟨l, _, _, rfl, rfl, nl, none_of_same s nl, upd_same, rp_ints ns'⟩⟩ : CbD [.rd] .nw X.K _ rSORT0) hg hm (by decide +kernel) (ja_cons h.rd ja_nil (by decide) hst) (he := hst)
/-! ### numbers -/
def rMAX2 : List D → (D → Prop) → Prop := fun ds KD => ∃ i j : Int, ds = [.int i, .int j] ∧ KD (.int (if j > i then j else i))
def rMIN2 : List D → (D → Prop) → Prop := fun ds KD => ∃ i j : Int, ds = [.int i, .int j] ∧ KD (.int (if j < i then j else i))
def rDIVMOD : List D → (D → Prop) → Prop := fun ds KD => ∃ i j : Int, ds = [.int i, .int j] ∧ CDiv i j ∧ KD (.tuple [.int (i / j), .int (i % j)])
theorem j_max2 (hc : X.calm = true) (hm : X.mg "max" = none) (h : J m1 X W e we) (h2 : J m2 X W e2 we2) (hg : Gl X "max" := by rfl) (hst : starEach [e, e2] X.env = (false, eval e X.env) :: starEach [e2] X.env := by rfl) (hst2 : starEach [e2] X.env = (false, eval e2 X.env) :: starEach [] X.env := by rfl)
    (hpl : (backTo pos (starEach [e2] X.env)).any (·.1) = false := by rfl) : J .fz X W (.Call (.Name "max" p) [e, e2] [] pos) (wCall (wA we (wA we2 wA0)) rMAX2) :=
  j_blt (x := "max") (call_max2 hc) (fun ds KD vs H0 F H Q ⟨i, j, ed, q⟩ s ra k => by
    subst ed
    obtain ⟨v, v2, rfl, r, r2⟩ := ra2 ra
    have := r.int
    have := r2.int
    subst_vars
    exact ⟨i, j, rfl, k _ q F H _ (Grow.refl s) (Rp.int _)⟩ : CbD [.rd, .rd] .fz X.K _ rMAX2) hg hm (by decide +kernel) (ja_cons h.rd (ja_cons h2.rd ja_nil (by decide) hst2) (by decide) hst) (he := hst) (hpl := hpl)
theorem j_min2 (hc : X.calm = true) (hm : X.mg "min" = none) (h : J m1 X W e we) (h2 : J m2 X W e2 we2) (hg : Gl X "min" := by rfl) (hst : starEach [e, e2] X.env = (false, eval e X.env) :: starEach [e2] X.env := by rfl) (hst2 : starEach [e2] X.env = (false, eval e2 X.env) :: starEach [] X.env := by rfl)
    (hpl : (backTo pos (starEach [e2] X.env)).any (·.1) = false := by rfl) : J .fz X W (.Call (.Name "min" p) [e, e2] [] pos) (wCall (wA we (wA we2 wA0)) rMIN2) :=
  j_blt (x := "min") (call_min2 hc) (fun ds KD vs H0 F H Q ⟨i, j, ed, q⟩ s ra k => by
    subst ed
    obtain ⟨v, v2, rfl, r, r2⟩ := ra2 ra
    have := r.int
    have := r2.int
    subst_vars
    exact ⟨i, j, rfl, k _ q F H _ (Grow.refl s) (Rp.int _)⟩ : CbD [.rd, .rd] .fz X.K _ rMIN2) hg hm (by decide +kernel) (ja_cons h.rd (ja_cons h2.rd ja_nil (by decide) hst2) (by decide) hst) (he := hst) (hpl := hpl)
theorem j_divmod (hm : X.mg "divmod" = none) (h : J m1 X W e we) (h2 : J m2 X W e2 we2) (hg : Gl X "divmod" := by rfl) (hst : starEach [e, e2] X.env = (false, eval e X.env) :: starEach [e2] X.env := by rfl) (hst2 : starEach [e2] X.env = (false, eval e2 X.env) :: starEach [] X.env := by rfl)
    (hpl : (backTo pos (starEach [e2] X.env)).any (·.1) = false := by rfl) : J .fz X W (.Call (.Name "divmod" p) [e, e2] [] pos) (wCall (wA we (wA we2 wA0)) rDIVMOD) :=
  j_blt (x := "divmod") call_divmod (fun ds KD vs H0 F H Q ⟨i, j, ed, hc, q⟩ s ra k => by
    subst ed
    obtain ⟨v, v2, rfl, r, r2⟩ := ra2 ra
    have := r.int
    have := r2.int
    subst_vars
    exact ⟨i, j, rfl, hc, fun l nl => k _ q (upd F l _) _ _ (Grow.layF s nl) (.tup (SqT.of upd_same) (.cons (.int _) (.cons (.int _) .nil)))⟩ : CbD [.rd, .rd] .fz X.K _ rDIVMOD) hg hm (by decide +kernel) (ja_cons h.rd (ja_cons h2.rd ja_nil (by decide) hst2) (by decide) hst) (he := hst) (hpl := hpl)
theorem j_shl (ha : J ma X W a wa) (hb : J mb X W b wb) : J .fz X W (.BinOp a .LShift b pos) (wBin wa wb (rII CPow fun i j => i * 2 ^ j.toNat)) := j_op op_shl odI ha.rd hb.rd
theorem j_shr (ha : J ma X W a wa) (hb : J mb X W b wb) : J .fz X W (.BinOp a .RShift b pos) (wBin wa wb (rII (fun _ j => 0 ≤ j) fun i j => i / 2 ^ j.toNat)) := j_op op_shr odI ha.rd hb.rd
theorem j_band (ha : J ma X W a wa) (hb : J mb X W b wb) : J .fz X W (.BinOp a .BitAnd b pos) (wBin wa wb (rII CTrue Builtin.bitAnd)) := j_op op_and odI0 ha.rd hb.rd
theorem j_bor (ha : J ma X W a wa) (hb : J mb X W b wb) : J .fz X W (.BinOp a .BitOr b pos) (wBin wa wb (rII CTrue Builtin.bitOr)) := j_op op_or odI0 ha.rd hb.rd
/-! ### lists -/
/-- x.clear() -/
def wClr (i : Nat) : WS := fun C E => ∃ ds, E[i]? = some (.ow ds) ∧ C.nx (E.set i (.ow []))
/-- x.insert(k, e), k not below 0 -/
def wIns (i : Nat) (wk we : WE) : WS := fun C E => ∃ ds, E[i]? = some (.ow ds) ∧ ds.length < sizeLine ∧ wk E (fun k => we E (fun d => ∃ n : Int, k = .int n ∧ 0 ≤ n ∧ n < 2 ^ 63 ∧ C.nx (E.set i (.ow (ds.take n.toNat ++ [d] ++ ds.drop n.toNat)))) (fun c => C.ex c E)) (fun c => C.ex c E)
theorem s_ins {i : Nat} {apos cpos : Pos} (hx : PE X xe (tVar i)) (hk : J m1 X W ke wk) (he : J .fz X W e we) (hm1 : m1 ≠ .nw := by decide)
    (hs : swapsWith (.Call (.Attribute xe "insert" apos) [ke, e] [] cpos) none pos.line X.env = pure false := by rfl)
    (hbase : attributeBase xe "insert" X.env (eval xe X.env) = eval xe X.env := by rfl)
    (hfew : ((backTo cpos (starEach [ke, e] X.env)).all (fun x => !x.1) && (backToKw cpos (keywordEach [] X.env)).all (fun x => x.1.isSome)
      && decide ([ke, e].length + ([] : List Keyword).length + (if ([] : List Keyword).isEmpty then 0 else 1) < 30)) = true := by rfl)
    (hline : (apos.endLine == cpos.line) = true := by rfl) (hst : starEach [ke, e] X.env = (false, eval ke X.env) :: starEach [e] X.env := by rfl) (hst2 : starEach [e] X.env = (false, eval e X.env) :: starEach [] X.env := by rfl)
    (hpl : (backTo cpos (starEach [e] X.env)).any (·.1) = false := by rfl) :
    S m X W (.Expr (.Call (.Attribute xe "insert" apos) [ke, e] [] cpos) pos) (wIns i wk we) :=
  ps_imp (ps_expr (pe_bm PySem.F.plainAttrs_list PySem.F.slot_list_insert PySem.F.type_list_insert mt_insert hx (pa_cons hk.rd (pa_cons he pa_nil hst2) hst) hbase hfew hline hst hpl) hs) fun DD σ H ⟨H0, F0, F, own, E, C, r, ⟨ds, ed, hl, q⟩, kn, kb, kc, kr, kx⟩ => by
    obtain ⟨pp, vs, e1, e2, e3, ra, e4⟩ := ow_at r ed
    refine ⟨_, e1, .inl ⟨rfl, vs, SqL.of e3⟩, H0, F0, F, own, E, _, _, r, q, fun k hk1 F1 H1 kv g1 rk => ⟨H0, F0, F1, own, E, _, _, r.grow g1, hk1, fun d ⟨n, ek, h0, h1, hd⟩ F' H' v g rs => ?_, fun c hc F' H' g => kx c _ _ _ _ _ ((r.grow g1).grow g) hc⟩, fun c hc F' H' g => kx c _ _ _ _ _ (r.grow g) hc⟩
    subst ek
    have ekv := rk.int
    subst ekv
    have e3' := (g1.trans g).h _ _ e3
    have ra' := RpAll.mono (g1.trans g).f _ _ ra
    refine ⟨pp, vs, n, v, rfl, rfl, e3', by rw [ra.len]; exact hl, h0, h1, kn _ _ _ _ _ (ow_chg ((r.grow g1).grow g) e4 e2 ?_) hd⟩
    exact ((RpAll.take _ ra').append (.cons rs .nil)).append (RpAll.drop _ ra')
theorem wIns_eq {C : EndsD} {E : List Sl} {i : Nat} : wIns i wk we C E = owS E[i]? (fun ds => ds.length < sizeLine ∧ wk E (fun k => we E (fun d => ∃ n : Int, k = .int n ∧ 0 ≤ n ∧ n < 2 ^ 63 ∧ C.nx (E.set i (.ow (ds.take n.toNat ++ [d] ++ ds.drop n.toNat)))) (fun c => C.ex c E)) (fun c => C.ex c E)) := exOw
end
end Tb

set_option Elab.async false
set_option linter.all false
set_option maxRecDepth 100000
set_option maxHeartbeats 1000000
/-! ### a list's clear and reverse; a text walked; text slices; tuple + tuple -/
namespace Tb
open PySem PySem.Spec L2
section
variable {X : Cx} {W : WX} {a b c e e2 xe ke : Expr} {pos p p2 : Pos} {m ma mb m1 m2 : Mo} {we we2 wa wb wk : WE} {C : EndsD} {E : List Sl} {tg : Expr}
theorem s_clr {i : Nat} {apos cpos : Pos} (hx : PE X xe (tVar i))
    (hs : swapsWith (.Call (.Attribute xe "clear" apos) [] [] cpos) none pos.line X.env = pure false := by rfl)
    (hbase : attributeBase xe "clear" X.env (eval xe X.env) = eval xe X.env := by rfl) (hline : (apos.endLine == cpos.line) = true := by rfl) :
    S m X W (.Expr (.Call (.Attribute xe "clear" apos) [] [] cpos) pos) (wClr i) :=
  ps_imp (ps_expr (pe_bm0 PySem.F.plainAttrs_list PySem.F.slot_list_clear PySem.F.type_list_clear mt_clear hx hbase hline) hs) fun DD σ H ⟨H0, F0, F, own, E, C, r, ⟨ds, ed, q⟩, kn, kb, kc, kr, kx⟩ => by
    obtain ⟨pp, vs, e1, e2, e3, ra, e4⟩ := ow_at r ed
    exact ⟨_, e1, .inl ⟨rfl, vs, SqL.of e3⟩, pp, vs, rfl, rfl, e3, kn _ _ _ _ _ (ow_chg r e4 e2 .nil) q⟩
theorem wClr_eq {i : Nat} : wClr i C E = owS E[i]? (fun _ => C.nx (E.set i (.ow []))) := exOw
def wRvS (i : Nat) : WS := fun C E => ∃ ds, E[i]? = some (.ow ds) ∧ C.nx (E.set i (.ow ds.reverse))
theorem rpAll_rev {K : Frag} {F : Hp} {vs : List V} {ds : List D} (h : RpAll K F vs ds) : RpAll K F vs.reverse ds.reverse := by
  induction ds generalizing vs with
  | nil => cases h; exact .nil
  | cons d ds ih =>
    cases h with
    | cons h1 h2 =>
      rw [List.reverse_cons, List.reverse_cons]
      exact (ih h2).append (.cons h1 .nil)
theorem s_rev {i : Nat} {apos cpos : Pos} (hx : PE X xe (tVar i))
    (hs : swapsWith (.Call (.Attribute xe "reverse" apos) [] [] cpos) none pos.line X.env = pure false := by rfl)
    (hbase : attributeBase xe "reverse" X.env (eval xe X.env) = eval xe X.env := by rfl) (hline : (apos.endLine == cpos.line) = true := by rfl) :
    S m X W (.Expr (.Call (.Attribute xe "reverse" apos) [] [] cpos) pos) (wRvS i) :=
  ps_imp (ps_expr (pe_bm0 PySem.F.plainAttrs_list PySem.F.slot_list_reverse PySem.F.type_list_reverse mt_reverse hx hbase hline) hs) fun DD σ H ⟨H0, F0, F, own, E, C, r, ⟨ds, ed, q⟩, kn, kb, kc, kr, kx⟩ => by
    obtain ⟨pp, vs, e1, e2, e3, ra, e4⟩ := ow_at r ed
    exact ⟨_, e1, .inl ⟨rfl, vs, SqL.of e3⟩, pp, vs, rfl, rfl, e3, kn _ _ _ _ _ (ow_chg r e4 e2 (rpAll_rev ra)) q⟩
theorem wRvS_eq {i : Nat} : wRvS i C E = owS E[i]? (fun ds => C.nx (E.set i (.ow ds.reverse))) := exOw
/-- tuple + tuple -/
def rCATT : D → D → (D → Prop) → Prop := fun x y KD => ∃ xs ys, x = .tuple xs ∧ y = .tuple ys ∧ xs ≠ [] ∧ xs.length + ys.length ≤ sizeLine ∧ KD (.tuple (xs ++ ys))
theorem odCatT {K : Frag} : OpD .rd .rd .fz K (rCatT K) rCATT := fun x y KD v u H0 F H Q ⟨xs, ys, e1, e2, hx, hl, q⟩ s rx ry k => by
  subst e1 e2
  have rpx : Rp K F v (.tuple xs) := Res.scal (e := .none) (fun _ z => nomatch z) rx
  obtain ⟨p, vs, rfl, sq, ra⟩ := rx.tuple s
  obtain ⟨p2, vs2, rfl, sq2, ra2⟩ := ry.tuple s
  refine ⟨p, p2, vs, vs2, rfl, rfl, sq, sq2, fun z => ?_, by rw [ra.len, ra2.len]; exact hl, fun z => ?_, fun z p3 nz => ?_⟩
  · subst z; cases ra; exact hx rfl
  · subst z
    cases ra2
    rw [List.append_nil] at q
    exact k _ q F H _ (Grow.refl s) rpx
  · exact k _ q (upd F p3 _) _ _ (Grow.layF s nz) (.tup (SqT.of upd_same) (RpAll.mono (same_upd (none_of_same s nz)) _ _ (ra.append ra2)))
theorem j_catT (ha : J ma X W a wa) (hb : J mb X W b wb) : J .fz X W (.BinOp a .Add b pos) (wBin wa wb rCATT) := j_op op_catT odCatT ha.rd hb.rd
theorem rCATT_eq {xs ys : List D} {KD : D → Prop} : rCATT (.tuple xs) (.tuple ys) KD = (xs ≠ [] ∧ xs.length + ys.length ≤ sizeLine ∧ KD (.tuple (xs ++ ys))) := by
  apply propext; simp [rCATT]
end
end Tb

set_option Elab.async false
set_option linter.all false
set_option maxRecDepth 100000
set_option maxHeartbeats 1000000
/-! ### texts: slices, split, walked, signs in a text, numbers read; constants of the module -/
namespace Tb
open PySem PySem.Spec L2
section
variable {X : Cx} {W : WX} {a b c e e2 xe ke : Expr} {pos p p2 : Pos} {m ma mb m1 m2 : Mo} {we we2 wa wb wk wo : WE} {E : List Sl} {tg : Expr} {KD : D → Prop} {KX : Str → Prop}
def rSLS : D → Option Int → Option Int → (D → Prop) → Prop := fun x lo hi KD => ∃ z, x = .str z ∧ z.length ≤ sizeLine ∧ KD (.str (cutS z lo hi))
theorem j_slS {lo hi : Option Expr} {wl wh : WO} (h : J m X W e we) (hl : JO X W lo wl) (hh : JO X W hi wh) : J .fz X W (.Subscript e (.Slice lo hi none p2) pos) (wSl we wl wh rSLS) :=
  j_slice sl_str (fun x lo hi KD v H0 F H Q ⟨z, ed, hz, q⟩ s r k => by
    subst ed
    have := r.str
    subst this
    exact ⟨z, rfl, hz, k _ q F H _ (Grow.refl s) (Rp.str _)⟩ : SlD .rd .fz X.K _ rSLS) h.rd hl hh
theorem rSLS_eq {z : Str} {lo hi : Option Int} : rSLS (.str z) lo hi KD = (z.length ≤ sizeLine ∧ KD (.str (cutS z lo hi))) := by
  apply propext; simp [rSLS]
def wSplit (wo we : WE) : WE := fun E KD KX => wo E (fun x => ∃ s, x = .str s ∧ we E (fun d => ∃ t, d = .str t ∧ (t.length == 0) = false ∧ s.length + 2 ≤ sizeLine ∧ KD (.list ((Txt.split s t).map PyData.str))) KX) KX
theorem j_split {apos : Pos} (ha : J ma X W a wa) (he : J m X W e we) (hs : starEach [e] X.env = [(false, eval e X.env)] := by rfl) (hbase : attributeBase a "split" X.env (eval a X.env) = eval a X.env := by rfl) (hline : (apos.endLine == pos.line) = true := by rfl) :
    J .nw X W (.Call (.Attribute a "split" apos) [e] [] pos) (wSplit wa we) :=
  pe_imp (pe_split ha.rd he.rd hs hbase hline) fun σ H Q ⟨H0, F0, F, own, E, KD, KX, r, q, k, x⟩ =>
    ⟨H0, F0, F, own, E, _, KX, r, q, fun d ⟨s, ed, hd⟩ F' H' v g rs => by
      subst ed
      have := rs.str
      subst this
      exact ⟨⟨s, rfl⟩, H0, F0, F', own, E, _, KX, r.grow g, hd, fun d2 ⟨t, ed2, h0, hz, hq⟩ F2 H2 v2 g2 rs2 => by
        subst ed2
        have := rs2.str
        subst this
        have g12 := g.trans g2
        exact ⟨s, t, rfl, rfl, h0, hz, fun l nl => k _ hq F2 _ _ (g12.trans (Grow.lay g12.fh nl)) ⟨l, _, _, rfl, rfl, none_of_same g12.h nl, none_of_same g12.fh nl, upd_same, RpAll.strs _⟩⟩, fun c hc F2 H2 g2 => x c hc _ _ (g.trans g2)⟩, x⟩
theorem wSplit_eq : wSplit wo we E KD KX = wo E (fun x => ∃ s, x = .str s ∧ we E (fun d => ∃ t, d = .str t ∧ (t.length == 0) = false ∧ s.length + 2 ≤ sizeLine ∧ KD (.list ((Txt.split s t).map PyData.str))) KX) KX := rfl
def signs (z : Str) : List D := z.cps.toList.map fun c => .str ⟨#[c]⟩
def wISt (we : WE) : WI := fun E KI KX => we E (fun d => ∃ z, d = .str z ∧ KI (signs z)) KX
theorem its_ok {K : Frag} {H0 F1 : Hp} {z : Str} : ItOk K H0 F1 (Its z) (signs z) := fun F H h1 h2 h3 => by
  refine ⟨fun i d ed => ?_, by show z.cps.size ≤ (signs z).length; simp [signs]⟩
  unfold signs at ed
  rw [List.getElem?_map] at ed
  cases hc : z.cps.toList[i]? with
  | none => rw [hc] at ed; cases ed
  | some c =>
    rw [hc] at ed
    cases ed
    have hi := (List.getElem?_eq_some_iff.mp hc).1
    rw [Array.length_toList] at hi
    rw [Array.getElem?_toList] at hc
    refine ⟨hi, fun x H' ⟨eH, c', hc', ex⟩ => ?_⟩
    rw [hc] at hc'
    cases hc'
    subst eH ex
    exact ⟨F, Grow.refl h2, Rp.str _⟩
theorem i_str (he : J m X W e we) : IJ X W tg e (wISt we) := pi_imp (pi_str he.rd) fun σ H R ⟨H0, F0, F, own, E, KI, KX, r, q, k, x⟩ =>
  ⟨H0, F0, F, own, E, _, KX, r, q, fun d ⟨z, ed, hd⟩ F' H' v g rs => by
    subst ed
    exact ⟨z, rs.str, k _ hd F' H' _ g its_ok⟩, x⟩
theorem wISt_eq {KI : List D → Prop} : wISt we E KI KX = we E (fun d => ∃ z, d = .str z ∧ KI (signs z)) KX := rfl
def inS (i j : Str) : Bool := !(Builtin.Str.occurrences j i 0 j.length 1).isEmpty
def rINS (f : Bool → Bool) : D → D → (D → Prop) → Prop := fun x y KD => ∃ i j, x = .str i ∧ y = .str j ∧ KD (.bool (f (inS i j)))
theorem odInS {K : Frag} : OpD .rd .rd .fz K (fun x y H Q => ∃ i j, x = .str i ∧ y = .str j ∧ Q (.bl (!(Builtin.Str.occurrences j i 0 j.length 1).isEmpty)) H) (rINS id) := fun x y KD v u H0 F H Q ⟨i, j, e1, e2, q⟩ s rx ry k => by
  subst e1 e2
  exact ⟨i, j, rx.str, ry.str, k _ q F H _ (Grow.refl s) (Rp.bl _)⟩
theorem odNiS {K : Frag} : OpD .rd .rd .fz K (fun x y H Q => ∃ i j, x = .str i ∧ y = .str j ∧ Q (.bl (!(!(Builtin.Str.occurrences j i 0 j.length 1).isEmpty))) H) (rINS fun b => !b) := fun x y KD v u H0 F H Q ⟨i, j, e1, e2, q⟩ s rx ry k => by
  subst e1 e2
  exact ⟨i, j, rx.str, ry.str, k _ q F H _ (Grow.refl s) (Rp.bl _)⟩
theorem j_inS (ha : J ma X W a wa) (hb : J mb X W b wb) (hm : behindInMarks .In b = false := by with_unfolding_all rfl) : J .fz X W (.Compare a [.In] [b] pos) (wBin wa wb (rINS id)) := j_cmp op_in_str odInS ha.rd hb.rd hm
theorem j_notinS (ha : J ma X W a wa) (hb : J mb X W b wb) (hm : behindInMarks .NotIn b = false := by with_unfolding_all rfl) : J .fz X W (.Compare a [.NotIn] [b] pos) (wBin wa wb (rINS fun b => !b)) := j_cmp op_notIn_str odNiS ha.rd hb.rd hm
theorem jt_inS (ha : J ma X W a wa) (hb : J mb X W b wb) (hm : behindInMarks .In b = false := by with_unfolding_all rfl) : JT X W (.Compare a [.In] [b] pos) (wT (wBin wa wb (rINS id))) := jt_cmp op_in_str odInS ha.rd hb.rd hm
theorem jt_notinS (ha : J ma X W a wa) (hb : J mb X W b wb) (hm : behindInMarks .NotIn b = false := by with_unfolding_all rfl) : JT X W (.Compare a [.NotIn] [b] pos) (wT (wBin wa wb (rINS fun b => !b))) := jt_cmp op_notIn_str odNiS ha.rd hb.rd hm
theorem rINS_eq {f : Bool → Bool} {i j : Str} : rINS f (.str i) (.str j) KD = KD (.bool (f (inS i j))) := by
  apply propext; simp [rINS]
def rINTS : List D → (D → Prop) → Prop := fun ds KD => ∃ z n, ds = [.str z] ∧ PySem.intText? z = some n ∧ z.length ≤ 640 ∧ KD (.int n)
theorem j_intS (hm : X.mg "int" = none) (h : J m X W e we) (hg : Gl X "int" := by rfl) (hst : starEach [e] X.env = (false, eval e X.env) :: starEach [] X.env := by rfl) : J .fz X W (.Call (.Name "int" p) [e] [] pos) (wCall (wA we wA0) rINTS) :=
  j_bty call_int_str (fun ds KD vs H0 F H Q ⟨z, n, ed, hn, hz, q⟩ s ra k => by
    subst ed
    obtain ⟨v, rfl, r⟩ := ra1 ra
    have := r.str
    subst this
    exact ⟨z, n, rfl, hn, hz, k _ q F H _ (Grow.refl s) (Rp.int _)⟩ : CbD [.rd] .fz X.K _ rINTS) hg hm (by decide +kernel) (ja_cons h.rd ja_nil (by decide) hst) (he := hst)
/-- a constant of the module -/
theorem j_glob {x : Str} {v : V} {d : D} (hm : ∃ u, X.mg x = some u ∧ RelV v u) (r : ∀ K F, Rp K F v d) (hg : Gl X x := by rfl) (hd : (x == ("__debug__" : Str)) = false := by decide) : J .fz X W (.Name x pos) (wC d) := by
  obtain ⟨u, h1, h2⟩ := hm
  exact j_c (pe_glob hg h1 h2 hd) r
end
end Tb

set_option Elab.async false
set_option linter.all false
set_option maxRecDepth 100000
set_option maxHeartbeats 1000000
/-! ### x.pop(), reversed walked, int(truth) -/
namespace Tb
section
open PySem PySem.Spec L2 RT
variable {X : Cx} {W : WX} {a b c e e2 xe ke : Expr} {pos p p2 : Pos} {m ma mb m1 m2 : Mo} {we we2 wa wb wk wo : WE} {E : List Sl} {tg : Expr} {KD : D → Prop} {KX : Str → Prop} {C : EndsD}
def wPopS (i : Nat) : WS := fun C E => wPop i (fun _ E' => C.nx E') E
theorem s_pop {i : Nat} {apos cpos : Pos} (hx : PE X xe (tVar i))
    (hs : swapsWith (.Call (.Attribute xe "pop" apos) [] [] cpos) none pos.line X.env = pure false := by rfl)
    (hbase : attributeBase xe "pop" X.env (eval xe X.env) = eval xe X.env := by rfl) (hline : (apos.endLine == cpos.line) = true := by rfl) :
    S m X W (.Expr (.Call (.Attribute xe "pop" apos) [] [] cpos) pos) (wPopS i) :=
  ps_imp (ps_expr (pe_bm0 PySem.F.plainAttrs_list PySem.F.slot_list_pop PySem.F.type_list_pop mt_pop hx hbase hline) hs) fun DD σ H ⟨H0, F0, F, own, E, C, r, q, kn, kb, kc, kr, kx⟩ =>
    pop_rd r q fun d E' H' v r' rp hd => kn _ _ _ _ _ r' hd
theorem wPopS_eq {i : Nat} : wPopS i C E = owS E[i]? (fun ds => ∃ d, ds[ds.length - 1]? = some d ∧ C.nx (E.set i (.ow ds.dropLast))) := by
  rw [← exOw]
  apply propext
  unfold wPopS wPop
  constructor
  · rintro ⟨ds, d, h1, h2, h3⟩; exact ⟨ds, h1, d, h2, h3⟩
  · rintro ⟨ds, h1, d, h2, h3⟩; exact ⟨ds, d, h1, h2, h3⟩
/-- reversed(x) walked -/
def wIRvL (we : WE) : WI := fun E KI KX => we E (fun d => ∃ ds, d = .list ds ∧ KI ds.reverse) KX
def wIRvT (we : WE) : WI := fun E KI KX => we E (fun d => ∃ ds, d = .tuple ds ∧ KI ds.reverse) KX
theorem rev_ix {α : Type} {ds : List α} {i : Nat} {d : α} (h : ds.reverse[i]? = some d) : i < ds.length ∧ ds[ds.length - 1 - i]? = some d := by
  have hi : i < ds.length := by
    have := (List.getElem?_eq_some_iff.mp h).1
    rwa [List.length_reverse] at this
  rw [List.getElem?_reverse hi] at h
  exact ⟨hi, h⟩
theorem itv_ok {K : Frag} {H0 F1 : Hp} {q : Addr} {vs : List V} {ds : List D} (hs : ∀ F H, Same F1 F → Same F H → Same H0 H → SqL K H q vs) (ra : RpAll K F1 vs ds) : ItOk K H0 F1 (Itv K q vs.length) ds.reverse := fun F H h1 h2 h3 => by
  have sq := hs F H h1 h2 h3
  refine ⟨fun i d e => ?_, ?_⟩
  · obtain ⟨hi, e'⟩ := rev_ix e
    obtain ⟨v, ev, rv⟩ := ra.get e'
    refine ⟨⟨by rw [ra.len]; exact hi, vs, v, sq, by rw [ra.len]; exact ev⟩, fun x H' ⟨eH, hx⟩ => ?_⟩
    subst eH
    have ex := hx vs sq
    rw [ra.len, ev] at ex
    cases ex
    exact ⟨F, Grow.refl h2, Rp.mono h1 _ _ rv⟩
  · show vs.length ≤ ds.reverse.length
    rw [List.length_reverse, ra.len]; exact Nat.le_refl _
theorem itvT_ok {K : Frag} {H0 F1 : Hp} {q : Addr} {vs : List V} {ds : List D} (hs : SqT K F1 q vs) (ra : RpAll K F1 vs ds) : ItOk K H0 F1 (ItvT K q vs.length) ds.reverse := fun F H h1 h2 h3 => by
  have sq := seqT_mono h2 (seqT_mono h1 hs)
  refine ⟨fun i d e => ?_, ?_⟩
  · obtain ⟨hi, e'⟩ := rev_ix e
    obtain ⟨v, ev, rv⟩ := ra.get e'
    refine ⟨⟨by rw [ra.len]; exact hi, vs, v, sq, by rw [ra.len]; exact ev⟩, fun x H' ⟨eH, hx⟩ => ?_⟩
    subst eH
    have ex := hx vs sq
    rw [ra.len, ev] at ex
    cases ex
    exact ⟨F, Grow.refl h2, Rp.mono h1 _ _ rv⟩
  · show vs.length ≤ ds.reverse.length
    rw [List.length_reverse, ra.len]; exact Nat.le_refl _
theorem i_revL (hm : X.mg "reversed" = none) (he : J .fz X W e we) (hg : Gl X "reversed" := by rfl) (hst : starEach [e] X.env = (false, eval e X.env) :: starEach [] X.env := by rfl) : IJ X W tg (.Call (.Name "reversed" p) [e] [] pos) (wIRvL we) :=
  pi_imp (pi_revA hg hm he hst) fun σ H R ⟨H0, F0, F, own, E, KI, KX, r, q, k, x⟩ =>
  ⟨H0, F0, F, own, E, _, KX, r, q, fun d ⟨ds, ed, hd⟩ F' H' v g rs => by
    subst ed
    cases rs with
    | lst h1 h2 => exact ⟨_, _, rfl, .inl ⟨SqL.of (g.fh _ _ h1), k _ hd F' H' _ g (itv_ok (fun F2 H2 s1 s2 _ => SqL.of (s2 _ _ (s1 _ _ h1))) h2)⟩⟩, x⟩
theorem i_revT (hm : X.mg "reversed" = none) (he : J m X W e we) (hg : Gl X "reversed" := by rfl) (hst : starEach [e] X.env = (false, eval e X.env) :: starEach [] X.env := by rfl) : IJ X W tg (.Call (.Name "reversed" p) [e] [] pos) (wIRvT we) :=
  pi_imp (pi_revA hg hm he.rd hst) fun σ H R ⟨H0, F0, F, own, E, KI, KX, r, q, k, x⟩ =>
  ⟨H0, F0, F, own, E, _, KX, r, q, fun d ⟨ds, ed, hd⟩ F' H' v g rs => by
    subst ed
    have rp : Rp X.K F' v (.tuple ds) := Res.scal (e := .none) (fun _ z => nomatch z) rs
    cases rp with
    | tup h1 h2 => exact ⟨_, _, rfl, .inr ⟨seqT_mono g.fh h1, k _ hd F' H' _ g (itvT_ok h1 h2)⟩⟩, x⟩
theorem wIRvL_eq {KI : List D → Prop} : wIRvL we E KI KX = we E (fun d => ∃ ds, d = .list ds ∧ KI ds.reverse) KX := rfl
theorem wIRvT_eq {KI : List D → Prop} : wIRvT we E KI KX = we E (fun d => ∃ ds, d = .tuple ds ∧ KI ds.reverse) KX := rfl
/-- int(a truth) -/
def rINTB : List D → (D → Prop) → Prop := fun ds KD => ∃ b, ds = [.bool b] ∧ KD (.int (if b = true then 1 else 0))
theorem j_intB (hm : X.mg "int" = none) (h : J m X W e we) (hg : Gl X "int" := by rfl) (hst : starEach [e] X.env = (false, eval e X.env) :: starEach [] X.env := by rfl) : J .fz X W (.Call (.Name "int" p) [e] [] pos) (wCall (wA we wA0) rINTB) :=
  j_bty call_int1 (fun ds KD vs H0 F H Q ⟨b, ed, q⟩ s ra k => by
    subst ed
    obtain ⟨v, rfl, r⟩ := ra1 ra
    have := r.bool
    subst this
    exact .inr ⟨b, rfl, k _ q F H _ (Grow.refl s) (Rp.int _)⟩ : CbD [.rd] .fz X.K _ rINTB) hg hm (by decide +kernel) (ja_cons h.rd ja_nil (by decide) hst) (he := hst)
theorem rINTB_eq {b : Bool} : rINTB [.bool b] KD = KD (.int (if b = true then 1 else 0)) := by
  apply propext; simp [rINTB]
end
end Tb

set_option Elab.async false
set_option linter.all false
set_option maxRecDepth 100000
set_option maxHeartbeats 2000000
/-! ### a clause that names several classes -/
namespace PySem.W
open PySem PySem.Spec PySem.Calls PyProof.Rows
section
variable {M : Model} {K : Frag} {A : Around} {E : Value → Shared → Prop} {s : Shared}
theorem tb_loop1 {f : Value → PUnit → Sem (ForInStep PUnit)} : ∀ (cs : List Value) {Q : PUnit → Shared → Prop}, (∀ c ∈ cs, ∀ {Q : ForInStep PUnit → Shared → Prop}, Q (.yield ⟨⟩) s → wpAny M A (f c ⟨⟩) Q E s) → Q ⟨⟩ s → wpAny M A (forIn cs ⟨⟩ f) Q E s
  | [], Q, _, q => by
    rw [List.forIn_nil]
    exact wpAny_pure q
  | c :: cs, Q, h, q => by
    rw [List.forIn_cons]
    refine wpAny_bind (h c List.mem_cons_self ?_)
    exact tb_loop1 cs (fun d hd => h d (List.mem_cons_of_mem _ hd)) q
theorem tb_loop2 {β : Type} {f : Value → β → Sem (ForInStep β)} {cls : Value} {x0 x1 : β} : ∀ (cs : List Value) {b : Bool} {Q : β → Shared → Prop}, exmAny K cls cs = some b →
    (∀ c ∈ cs, ∀ b, exmOne K cls c = some b → ∀ {Q : ForInStep β → Shared → Prop}, Q (if b = true then .done x1 else .yield x0) s → wpAny M A (f c x0) Q E s) → Q (if b = true then x1 else x0) s → wpAny M A (forIn cs x0 f) Q E s
  | [], b, Q, e, _, q => by
    rw [List.forIn_nil]
    have e' : some false = some b := e
    cases e'
    exact wpAny_pure q
  | c :: cs, b, Q, e, h, q => by
    obtain ⟨b1, d1, h1, h2, rfl⟩ := exmAny_cons e
    rw [List.forIn_cons]
    refine wpAny_bind (h c List.mem_cons_self b1 h1 ?_)
    cases b1 with
    | true => exact wpAny_pure q
    | false =>
      rw [Bool.false_or] at q
      exact tb_loop2 cs h2 (fun d hd => h d (List.mem_cons_of_mem _ hd)) q
theorem exmAny_mem {cls c : Value} : ∀ {cs : List Value} {b : Bool}, exmAny K cls cs = some b → c ∈ cs → ∃ b1, exmOne K cls c = some b1
  | [], _, _, h => nomatch h
  | d :: cs, b, e, h => by
    obtain ⟨b1, d1, h1, h2, _⟩ := exmAny_cons e
    rcases List.mem_cons.mp h with rfl | h
    · exact ⟨b1, h1⟩
    · exact exmAny_mem h2 h
theorem exm_any {cls : Value} {cs : List Value} {tp e : Addr} {b : Bool} {h : Heap} {dd : Option Addr} {n : Nat} {sl : Array (Option Value)} (X : K.In h) (LT : Looks M h (typeOf (.ref e)) cls) (hp : h.get? tp = some ⟨.type "tuple", dd, .seq cs.toArray n, sl⟩) (hx : exmAny K cls cs = some b) :
    Looks M h (excMatches (.ref e) (.ref tp)) b := by
  intro A Q E s k₀ q
  obtain ⟨hh, g, d, tk, os⟩ := s
  have k : ∀ b o, h.get? b = some o → hh.get? b = some o := k₀
  have LT0 : Looks M h (isInstance (.ref tp) (.type "tuple")) true := ((Looks.ld hp).andThen .now).andThen (Looks.of_pure isSubtype_tuple_tuple)
  have LT := LT.keeps k
  have LT0 := LT0.keeps k
  have hp' := k _ _ hp
  unfold excMatches
  refine wpAny_bind (LT0.at ?_)
  dsimp only
  rw [if_pos rfl]
  first
    | refine wpAny_bind (wpAny_seqItems hp' rfl ?_)
    | refine wpAny_bind (wpAny_bind (wpAny_seqItems hp' rfl (wpAny_pure ?_)))
  dsimp only [Option.getD_some, Option.getD]
  refine wpAny_bind (wpAny_pure ?_)
  refine wpAny_bind (tb_loop1 cs (fun c hc Q1 q1 => ?_) ?_)
  · obtain ⟨b1, h1⟩ := exmAny_mem hx hc
    obtain ⟨e1, _⟩ := exm_cls (M := M) X h1
    have e1 := e1.keeps k
    refine wpAny_bind (e1.at ?_)
    simp only [Bool.not_true, Bool.false_eq_true, if_false]
    exact wpAny_pure q1
  refine wpAny_bind (LT.at ?_)
  refine wpAny_bind (tb_loop2 (x0 := (none, ())) (x1 := (some true, ())) cs hx (fun c hc b1 h1 Q1 q1 => ?_) ?_)
  · obtain ⟨_, S1⟩ := exm_cls (M := M) X h1
    have S1 := S1.keeps k
    refine wpAny_bind (S1.at ?_)
    cases b1 with
    | true => exact wpAny_pure q1
    | false => exact wpAny_pure q1
  cases b with
  | true => exact wpAny_pure q
  | false => exact wpAny_pure q
end
end PySem.W

namespace Tb
open PySem PySem.Spec PyProof.Rows L2
/-! ### try, the exception kept -/
section
variable {X : Cx} {pins : List (Addr × Obj)} {σ : L2.St} {H : Hp} {s sI : Shared} {B : Heap} {l : List Env} {a L : Addr} {Z : Obj → Prop} {h h' : Heap}
theorem fly_keeps (k : ∀ b o, h.get? b = some o → h'.get? b = some o) (x : HandSPX.FlyingZ B l a Z h) : HandSPX.FlyingZ B l a Z h' := by
  obtain ⟨x1, x2, x3, oe, vs, T, oT, ts, he, hz, hd, h1, hnT, hTe, hT, hdT, h3⟩ := x
  exact ⟨fun b o q => k b o (x1 b o q), x2, x3.of_keeps fun b o q _ => ⟨o, k b o q, rfl⟩, oe, vs, T, oT, ts, k _ _ he, hz, hd, h1, hnT, hTe, k _ _ hT, hdT, h3⟩
theorem up_keeps (k : ∀ b o, h.get? b = some o → h'.get? b = some o) : h.UpToSlots h' := fun b o q _ => ⟨o.slots, k b o q⟩
theorem Inv.track {o : HO} (J : Inv X pins σ H sI) (I : Inv X pins σ H s) (hx : X.ex = []) (n : sI.heap.get? a = none) (na : H a = none) (new : ObjOk X.prog X.w (upd H a o) s.heap a o) : Inv X pins σ (upd H a o) s := by
  have n0 : ∀ b u, X.s_0.heap.get? b = some u → b ≠ a := fun b u q z => by
    obtain ⟨u', e⟩ := J.base.there b u q (by rw [hx]; exact fun z => nomatch z)
    rw [z, n] at e; cases e
  have nL : X.env.locals ≠ a := fun z => by
    obtain ⟨m, ⟨o, _, _, ho, _⟩, _⟩ := J.loc
    rw [z, n] at ho; cases ho
  have nc : ∀ x c, X.env.cells.lookup x = some c → c ≠ a := fun x c e z => by
    obtain ⟨v, o, ho, _⟩ := J.cell x c e
    rw [z, n] at ho; cases ho
  refine ⟨I.ok, I.os, I.bare, ⟨I.base.keep, I.base.slot, fun b u q nb hb => ?_, I.base.there, fun b xs q => ?_, fun b u xs q => ?_, fun b ps q => ?_⟩, I.loc, I.cell, ?_, fun x c e => ?_, fun p hp => ?_, I.hok.laidN (fun _ _ q => q) na new, I.len⟩
  · rw [upd_ne (n0 b u q)]; exact I.base.free b u q nb hb
  · have z := I.base.tups b xs q
    rw [upd_ne (ne_of_none z na)]; exact z
  · have z := I.base.frzs b u xs q
    rw [upd_ne (ne_of_none z na)]; exact z
  · obtain ⟨m, z⟩ := I.base.tbls b ps q
    exact ⟨m, by rw [upd_ne (ne_of_none z na)]; exact z⟩
  · rw [upd_ne nL]; exact I.free
  · rw [upd_ne (nc x c e)]; exact I.freeC x c e
  · obtain ⟨p1, p2, p3, p4, p5⟩ := I.pin p hp
    obtain ⟨q1, _⟩ := J.pin p hp
    exact ⟨p1, by rw [upd_ne (fun z => by rw [z, n] at q1; cases q1)]; exact p2, p3, p4, p5⟩
theorem Inv.suiteT (I : Inv X pins σ H s) (a : Addr) : Inv (X.suite a (X.pn ++ pins)) [] σ H s :=
  ⟨I.ok.suite _ _, I.os, I.bare, I.base, I.loc, I.cell, I.free, I.freeC, fun p hp => I.pin p (by rw [List.append_nil] at hp; exact hp), I.hok, I.len⟩
theorem Inv.unsuiteT {pn' : List (Addr × Obj)} (I : Inv (X.suite a (X.pn ++ pins)) pn' σ H s) (ok : X.Ok) : Inv X pins σ H s :=
  ⟨ok, I.os, I.bare, I.base, I.loc, I.cell, I.free, I.freeC, fun p hp => I.pin p (List.mem_append_left _ hp), I.hok, I.len⟩
end
/-- a clause's test: it tells whether the exception is of these classes; all is kept -/
def TestOk (X : Cx) (t : Expr) (cs : List Value) : Prop := ∀ (a : Addr) (pn : List (Addr × Obj)) (cls : Value) (b : Bool) (s : Shared) (σ : L2.St) (H : Hp), Inv (X.suite a pn) [] σ H s →
  PySem.W.Looks (model X.prog X.w) s.heap (typeOf (.ref a)) cls → PySem.W.exmAny X.K cls cs = some b →
  ∀ (Q : Bool → Shared → Prop) (E : Value → Shared → Prop), (∀ h', (∀ b o, s.heap.get? b = some o → h'.get? b = some o) → Q b { s with heap := h' }) →
    wpAny (model X.prog X.w) (X.A.mark (some (.ref a))) (eval t X.env) (fun c s1 => wpAny (model X.prog X.w) (X.A.mark (some (.ref a))) (excMatches (.ref a) c) Q E s1) E s
theorem test_one {X : Cx} {x : Str} {c : Value} {np : Pos} (hc : Names X x c) : TestOk X (.Name x np) [c] := fun a pn cls b s σ H I LT e Q E k => by
  obtain ⟨b1, d1, h1, h2, rfl⟩ := PySem.W.exmAny_cons e
  have e2 : some false = some d1 := h2
  cases e2
  have LM := PySem.W.exm_one (M := model X.prog X.w) I.kIn LT h1
  have q : wpAny (model X.prog X.w) (X.A.mark (some (.ref a))) (excMatches (.ref a) c) Q E s := LM.here (by rw [Bool.or_false] at k; exact k s.heap fun _ _ q => q)
  obtain ⟨hg, hdbg, hm | ⟨hm, hv, hnn⟩⟩ := hc
  · exact ld_glob (X := X.suite a pn) I hg hm q hdbg
  · exact ld_blt (X := X.suite a pn) I hg hm hv q hnn hdbg
inductive NamesAll (X : Cx) : List Expr → List Value → Prop
  | nil : NamesAll X [] []
  | cons {x : Str} {c : Value} {p : Pos} {es : List Expr} {cs : List Value} : Names X x c → starEach (.Name x p :: es) X.env = (false, eval (.Name x p) X.env) :: starEach es X.env → NamesAll X es cs → NamesAll X (.Name x p :: es) (c :: cs)
theorem NamesAll.run {X : Cx} {a : Addr} {pn : List (Addr × Obj)} {s : Shared} {σ : L2.St} {H : Hp} {E : Value → Shared → Prop} {pos : Pos} (I : Inv (X.suite a pn) [] σ H s) : ∀ {es : List Expr} {cs : List Value} {Q : List Value → Shared → Prop}, NamesAll X es cs → Q cs s →
    wpAny (model X.prog X.w) (X.A.mark (some (.ref a))) (spliced (backTo pos (starEach es X.env))) Q E s
  | _, _, Q, .nil, q => args_nil q
  | _, _, Q, .cons hc hs r, q => by
    refine args_cons ?_ hs
    obtain ⟨hg, hdbg, hm | ⟨hm, hv, hnn⟩⟩ := hc
    · exact ld_glob (X := X.suite a pn) I hg hm (NamesAll.run I r q) hdbg
    · exact ld_blt (X := X.suite a pn) I hg hm hv (NamesAll.run I r q) hnn hdbg
theorem test_tup {X : Cx} {es : List Expr} {cs : List Value} {kk : Nat} {pos : Pos} (h : NamesAll X es cs) (hl : cs.length ≤ 1000) : TestOk X (.Tuple es kk pos) cs := fun a pn cls b s σ H I LT e Q E k => by
  refine Tuple_ (NamesAll.run I h (wpAny_newTuple ?_ (by rw [sizeLine_eq]; omega)))
  have kp : ∀ b o, s.heap.get? b = some o → (s.heap.push { cls := .type "tuple", data := .seq cs.toArray }).get? b = some o := fun b o q => Heap.get?_push_of_some _ q
  have LM := PySem.W.exm_any (M := model X.prog X.w) (I.kIn.keeps kp) (LT.keeps kp) (Heap.get?_push_size _ rfl) e
  exact LM.at (k _ kp)
/-- a clause: its classes, its name's slot, what its suite asks -/
structure Hd where
  cs : List Value
  i : Option Nat
  ts : TS
def setO (σ : L2.St) (i : Option Nat) (v : Option V) : L2.St := match i with
  | some i => σ.set i v
  | none => σ
def dEnds (i : Option Nat) (D : Ends) : Ends := { nx := fun σ' H' => D.nx (setO σ' i none) H', rt := D.rt, bk := fun σ' H' => D.bk (setO σ' i none) H', ct := fun σ' H' => D.ct (setO σ' i none) H' }
def wHdT (K : PySem.W.Frag) (Wout : WX) (D : Ends) : List Hd → WX
  | [] => Wout
  | h :: r => fun cls d σ H => ∃ b, PySem.W.exmAny K cls h.cs = some b ∧ (b = true → d = none ∧ ∀ a, H a = none → h.ts (dEnds h.i D) (setO σ h.i (some (.ref a))) (upd H a (ExT cls a))) ∧ (b = false → wHdT K Wout D r cls d σ H)
inductive HdsT (X : Cx) : List ExceptHandler → List Hd → Prop
  | nil : HdsT X [] []
  | cons {t : Expr} {cs : List Value} {ts : TS} {b₀ : Stmt} {suite : List Stmt} {pos' : Pos} {hds : List ExceptHandler} {l : List Hd} (ht : TestOk X t cs)
      (hsu : ∀ (a : Addr) (pn : List (Addr × Obj)), PSs (X.suite a pn) (b₀ :: suite) ts) (r : HdsT X hds l) : HdsT X (.ExceptHandler (some t) none (b₀ :: suite) pos' :: hds) (⟨cs, none, ts⟩ :: l)
  | consN {t : Expr} {n : Str} {i : Nat} {cs : List Value} {ts : TS} {b₀ : Stmt} {suite : List Stmt} {pos' : Pos} {hds : List ExceptHandler} {l : List Hd} (ht : TestOk X t cs) (hi : X.N[i]? = some n) (hln : X.env.kindOf n = some .local)
      (hsu : ∀ (a : Addr) (pn : List (Addr × Obj)), PSs (X.suite a pn) (b₀ :: suite) ts) (r : HdsT X hds l) : HdsT X (.ExceptHandler (some t) (some n) (b₀ :: suite) pos' :: hds) (⟨cs, some i, ts⟩ :: l)
section
variable {X : Cx} {body : List Stmt} {h₀ : ExceptHandler} {hds : List ExceptHandler} {l : List Hd} {pos : Pos} {tb : WX → TS} {Wout : WX}
theorem ps_tryT (hs : X.stack = X.env :: X.outer) (hf : X.env.frame = some X.env.locals) (hN : X.N.Nodup) (hx : X.ex = []) (tk : Takes X Wout)
    (hb : ∀ (W : WX) (pn : List (Addr × Obj)) (xe : Value → Shared → Prop), Takes (X.tr pn xe) W → PassesOwn (model X.prog X.w) X.A X.env xe → PSs (X.tr pn xe) body (tb W))
    (hh : HdsT X (h₀ :: hds) l) : PS X (.Try body (h₀ :: hds) [] [] pos) (fun D σ H => tb (wHdT X.K Wout D l) D σ H) := by
  refine ⟨fun pins s σ H D I h => ?_⟩
  have ok := I.ok
  have hfr : X.A.frames = some (X.env :: X.outer) := by rw [ok.frames, hs]
  refine wpAny_Try_except ?_
  refine wpAny_mono ((hb (wHdT X.K Wout D l) (X.pn ++ pins) (fun e s₁ => wpAny (model X.prog X.w) X.A (noteFrame e X.env) (fun _ s₂ => wpAny (model X.prog X.w) X.A (setFlight e none) (fun _ s₃ =>
    wpAny (model X.prog X.w) X.A (handleBy e X.env (h₀ :: hds)) (SP X pins D) X.xe s₃) X.xe s₂) X.xe s₁) (fun u s' xx => ?_) PassesOwn.looking).run [] s σ H D (I.toTry _) h) (fun f s1 hsp => ?_) (fun e s1 he => he)
  · -- the catch
    obtain ⟨a, B, sI, pins', σ', H', cls, d, rfl, J', nb, up, sky, na, os, ag, w⟩ := xx
    have J : Inv X pins σ' H' sI := J'.ofTry ok
    have sky' : Sky B (X.env :: X.outer) a (Zc cls d) X.env.locals s'.heap := by rw [← hs]; exact sky
    show wpAny (model X.prog X.w) X.A (noteFrame (.ref a) X.env) _ _ _
    refine Sky.land Zc.steady hfr hf sky' fun h3 fl3 up3 => ?_
    have notFr : ∀ {h : Heap} {o : Obj} {vs : Array Value}, h.FunFrames B (X.env :: X.outer) → h.get? a = some o → o.data = .fields vs → a ∉ frs (X.env :: X.outer) := fun {h o vs} ff e dd hm => by
      obtain ⟨_, o', e', hnf⟩ := ff.mem hm
      rw [e] at e'; cases e'
      exact hnf _ dd
    obtain ⟨oe3, vs3, he3, hz3, hd3⟩ := fl3.there
    have nfr := notFr fl3.2.2.1 he3 hd3
    have nI : sI.heap.get? a = none := by
      cases e : sI.heap.get? a with
      | none => rfl
      | some o =>
        have z := nb a o e (by rw [hs]; exact nfr)
        rw [fl3.2.1] at z; cases z
    have go : ∀ {hds' : List ExceptHandler} {l' : List Hd}, HdsT X hds' l' → ∀ h3 : Heap, HandSPX.FlyingZ B (X.env :: X.outer) a (Zc cls d) h3 → sI.heap.UpToSlots h3 → wHdT X.K Wout D l' cls d σ' H' →
        wpAny (model X.prog X.w) X.A (handleBy (.ref a) X.env hds') (SP X pins D) X.xe { s' with heap := h3 } := by
      intro hds' l' hk
      induction hk with
      | nil =>
        intro h3 fl3 up3 w
        refine wpAny_handleBy_nil ?_
        obtain ⟨k1, k2, k3, oe, vs, T, oT, ts', he, hz, hd, h1, hr⟩ := id fl3
        unfold PySem.passOn
        refine wpAny_bind (wpAny_field he hd h1 ?_)
        rw [if_neg (show ¬ ((Value.ref T == Value.none) = true) from by simp)]
        have fin : wpAny (model X.prog X.w) X.A (setFlight (.ref a) X.env.frame) (fun _ s4 => wpAny (model X.prog X.w) X.A (throw (.ref a) : Sem Flow) (SP X pins D) X.xe s4) X.xe { s' with heap := h3 } := by
          rw [hf]
          refine HandSPX.setFlight_upZ fl3 fun h4 hh4 up4 => wpAny_throw (tk _ _ ?_)
          exact ⟨a, B, sI, pins, σ', H', cls, d, rfl, J, nb, up3.trans up4, .inr (.inr (by rw [hs]; exact hh4)), na, os, ag, w⟩
        first
          | exact wpAny_bind (wpAny_pure (wpAny_bind fin))
          | exact wpAny_bind fin
      | @cons t cs ts b₀ suite pos' hds2 l2 ht hsu r ih =>
        intro h3 fl3 up3 w
        obtain ⟨b, hb1, hyes, hno⟩ := w
        have J3 : Inv X pins σ' H' { s' with heap := h3 } := J.landed nb fl3.1 up3 os ag
        obtain ⟨oe3, vs3, he3, hz3, hd3⟩ := fl3.there
        have LT : PySem.W.Looks (model X.prog X.w) h3 (typeOf (.ref a)) cls := fun A Q E s k q => wpAny_typeOf_ref (k _ _ he3) (by rw [hz3.1]; exact q)
        refine wpAny_handleBy_cons (codeAny_handlers_test ?_) (by intro q; cases q)
        refine ht a (X.pn ++ pins) cls b _ σ' H' (Inv.suiteT J3 a) LT hb1 _ _ fun h5 k5 => ?_
        have fl5 := fly_keeps k5 fl3
        have up5 := up3.trans (up_keeps k5)
        cases b with
        | true =>
          obtain ⟨rfl, hy⟩ := hyes rfl
          refine codeAny_handlers_suite ?_
          refine HandSPX.lands_againZ fl5 fun h4 fl4 up4 => ?_
          have J4 : Inv X pins σ' H' { s' with heap := h4 } := J.landed nb fl4.1 (up5.trans up4) os ag
          obtain ⟨oe4, vs4, he4, hz4, hd4⟩ := fl4.there
          have J5 := Inv.track (o := ExT cls a) J J4 hx nI na ⟨⟨oe4, vs4, he4, hz4, hd4⟩, ⟨oe4, he4⟩, fun _ _ ⟨o, v, q, r⟩ k => ⟨o, v, k o q, r⟩⟩
          have S5 := Inv.suiteT J5 a
          refine wpAny_mono ((hsu a (X.pn ++ pins)).run [] _ _ _ _ S5 (hy a na)) (fun f s6 hsp => ?_) (fun _ _ z => False.elim z)
          cases f with
          | next =>
            obtain ⟨σ6, H6, S6, q6⟩ := hsp
            exact ⟨_, _, Inv.unsuiteT S6 ok, q6⟩
          | brk =>
            obtain ⟨σ6, H6, S6, q6⟩ := hsp
            exact ⟨_, _, Inv.unsuiteT S6 ok, q6⟩
          | cont =>
            obtain ⟨σ6, H6, S6, q6⟩ := hsp
            exact ⟨_, _, Inv.unsuiteT S6 ok, q6⟩
          | ret u =>
            obtain ⟨v6, σ6, H6, S6, r6, q6⟩ := hsp
            exact ⟨_, _, _, Inv.unsuiteT S6 ok, r6, q6⟩
        | false =>
          show wpAny _ X.A (handleBy (.ref a) X.env hds2) _ _ _
          exact ih h5 fl5 up5 (hno rfl)
      | @consN t n i cs ts b₀ suite pos' hds2 l2 ht hi hln hsu r ih =>
        intro h3 fl3 up3 w
        obtain ⟨b, hb1, hyes, hno⟩ := w
        have J3 : Inv X pins σ' H' { s' with heap := h3 } := J.landed nb fl3.1 up3 os ag
        obtain ⟨oe3, vs3, he3, hz3, hd3⟩ := fl3.there
        have LT : PySem.W.Looks (model X.prog X.w) h3 (typeOf (.ref a)) cls := fun A Q E s k q => wpAny_typeOf_ref (k _ _ he3) (by rw [hz3.1]; exact q)
        refine wpAny_handleBy_cons (codeAny_handlers_test ?_) (by intro q; cases q)
        refine ht a (X.pn ++ pins) cls b _ σ' H' (Inv.suiteT J3 a) LT hb1 _ _ fun h5 k5 => ?_
        have fl5 := fly_keeps k5 fl3
        have up5 := up3.trans (up_keeps k5)
        have hloc : Loc X.env.scope n := .inl hln
        cases b with
        | true =>
          obtain ⟨rfl, hy⟩ := hyes rfl
          refine codeAny_handlers_suite_as ?_
          refine HandSPX.lands_againZ fl5 fun h4 fl4 up4 => ?_
          have J4 : Inv X pins σ' H' { s' with heap := h4 } := J.landed nb fl4.1 (up5.trans up4) os ag
          obtain ⟨oe4, vs4, he4, hz4, hd4⟩ := fl4.there
          have J5 := Inv.track (o := ExT cls a) J J4 hx nI na ⟨⟨oe4, vs4, he4, hz4, hd4⟩, ⟨oe4, he4⟩, fun _ _ ⟨o, v, q, r⟩ k => ⟨o, v, k o q, r⟩⟩
          have S5 := Inv.suiteT J5 a
          refine store_ok (X := X.suite a (X.pn ++ pins)) (v := .ref a) S5 hN hi hloc rfl (fun s5 S5 => ?_) (.inr hln)
          refine wpAny_mono ((hsu a (X.pn ++ pins)).run [] s5 _ _ _ S5 (hy a na)) (fun f s6 hsp => ?_) (fun _ _ z => False.elim z)
          have end_ : ∀ {σ6 : L2.St} {H6 : Hp} {Q : Shared → Prop}, Inv (X.suite a (X.pn ++ pins)) [] σ6 H6 s6 → (∀ s7, Inv X pins (σ6.set i none) H6 s7 → Q s7) →
              wpAny (model X.prog X.w) X.A (do bindName X.env n .none; unbindBehindTheSuite X.env n pos') (fun _ s7 => Q s7) X.xe s6 := fun {σ6 H6 Q} S6 hq => gone_ok (Inv.unsuiteT S6 ok) hN hi hln hq
          cases f with
          | next =>
            obtain ⟨σ6, H6, S6, q6⟩ := hsp
            exact end_ S6 fun s7 J7 => ⟨_, _, J7, q6⟩
          | brk =>
            obtain ⟨σ6, H6, S6, q6⟩ := hsp
            exact end_ S6 fun s7 J7 => ⟨_, _, J7, q6⟩
          | cont =>
            obtain ⟨σ6, H6, S6, q6⟩ := hsp
            exact end_ S6 fun s7 J7 => ⟨_, _, J7, q6⟩
          | ret u =>
            obtain ⟨v6, σ6, H6, S6, r6, q6⟩ := hsp
            exact end_ S6 fun s7 J7 => ⟨_, _, _, J7, r6, q6⟩
        | false =>
          show wpAny _ X.A (handleBy (.ref a) X.env hds2) _ _ _
          exact ih h5 fl5 up5 (hno rfl)
    exact go hh h3 fl3 (up.trans up3) w
  · cases f with
    | next =>
      obtain ⟨σ', H', J', q⟩ := hsp
      exact wpAny_execs_nil ⟨σ', H', J'.ofTry ok, q⟩
    | brk =>
      obtain ⟨σ', H', J', q⟩ := hsp
      exact ⟨σ', H', J'.ofTry ok, q⟩
    | cont =>
      obtain ⟨σ', H', J', q⟩ := hsp
      exact ⟨σ', H', J'.ofTry ok, q⟩
    | ret u =>
      obtain ⟨v, σ', H', J', r, q⟩ := hsp
      exact ⟨v, σ', H', J'.ofTry ok, r, q⟩
end
end Tb

namespace Tb
section
open PySem PySem.Spec L2
/-! ### the refusals' classes -/
def subX (x y : Str) : Bool := x == y || y == Str.ofString "TurnError"
def bmVE : List Value := [.type "ValueError", .type "Exception", .type "BaseException", .type "object"]
def seven : List String := ["NoneType", "bool", "int", "str", "list", "tuple", "dict"]
def exB (K : Frag) (x : Str) : Bool := decide (PySem.W.nsIn K mainGlobals x = some (some (.ref (cA K x)))) && PySem.W.excIn K (cA K x) bmVE "ValueError.__new__" && PySem.W.keepIn K (.ref (cA K x))
  && decide (PySem.W.subIn K (.ref (cA K x)) (.type "BaseException") = some true) && decide (PySem.W.typeIn K (.ref (cA K x)) = some (.type "type"))
  && decide (PySem.W.findIn K (.ref (cA K x)) "__getattribute__" = some (some (.builtin "BaseException.__getattribute__"))) && decide (PySem.W.findIn K (.ref (cA K x)) "__getattr__" = some none) && PySem.W.hasDictIn K (cA K x)
  && decide (PySem.W.findIn K (.ref (cA K x)) "__class__" = some (some (.builtin "object.__class__"))) && decide (PySem.W.specialIn K (.builtin "object.__class__") "__get__" = some (some (.builtin "getset_descriptor.__get__")))
  && decide (PySem.W.takesIn K (.builtin "object.__class__") = some true) && decide (PySem.W.mroIn K (cA K x) (.type "object") = some true)
  && five.all (fun T => decide (PySem.W.kitOne K (.ref (cA K x)) (.type T) = some false)) && decide (PySem.W.kitOne K (.ref (cA K x)) (.type "ValueError") = some true)
  && seven.all (fun T => decide (PySem.W.kitOne K (.type T) (.ref (cA K x)) = some false))
def xtB (K : Frag) (names : List Str) : Bool := names.all fun x => exB K x && names.all fun y => decide (PySem.W.exmOne K (.ref (cA K x)) (.ref (cA K y)) = some (subX x y)) && decide (PySem.W.kitOne K (.ref (cA K x)) (.ref (cA K y)) = some (subX x y))
/-- what is known of one class -/
structure XOne (K : Frag) (mg : Str → Option Value) (x : Str) : Prop where
  g : mg x = some (.ref (cA K x))
  ex : PySem.W.excIn K (cA K x) bmVE "ValueError.__new__" = true
  kp : PySem.W.keepIn K (.ref (cA K x)) = true
  tP : PySem.W.typeIn K (.ref (cA K x)) = some (.type "type")
  ok : ExcOk K x
  val : PySem.W.kitOne K (.ref (cA K x)) (.type "ValueError") = some true
  no : ∀ T ∈ seven, PySem.W.kitOne K (.type T) (.ref (cA K x)) = some false
structure XT (K : Frag) (mg : Str → Option Value) (names : List Str) : Prop where
  one : ∀ x ∈ names, XOne K mg x
  exm : ∀ x ∈ names, ∀ y ∈ names, PySem.W.exmOne K (.ref (cA K x)) (.ref (cA K y)) = some (subX x y)
  isa : ∀ x ∈ names, ∀ y ∈ names, PySem.W.kitOne K (.ref (cA K x)) (.ref (cA K y)) = some (subX x y)
theorem xt_mk {K : Frag} {h : Heap} {mg : Str → Option Value} {names : List Str} (X : K.In h) (G : h.Ns mainGlobals mg) (e : xtB K names = true) : XT K mg names := by
  unfold xtB at e
  rw [List.all_eq_true] at e
  refine ⟨fun x hx => ?_, fun x hx y hy => ?_, fun x hx y hy => ?_⟩
  · have z := e x hx
    rw [Bool.and_eq_true] at z
    have z1 := z.1
    unfold exB at z1
    simp only [Bool.and_eq_true, decide_eq_true_eq, List.all_eq_true] at z1
    obtain ⟨⟨⟨⟨⟨⟨⟨⟨⟨⟨⟨⟨⟨⟨a1, a2⟩, a3⟩, a4⟩, a5⟩, a6⟩, a7⟩, a8⟩, a9⟩, a10⟩, a11⟩, a12⟩, a13⟩, a14⟩, a15⟩ := z1
    exact ⟨PySem.W.mg_of X G a1, a2, a3, a5, ⟨⟨a6, a7, a4, a8, a9, a10, a11, a12⟩, a13⟩, a14, a15⟩
  · have z := e x hx
    rw [Bool.and_eq_true, List.all_eq_true] at z
    have z2 := z.2 y hy
    rw [Bool.and_eq_true, decide_eq_true_eq, decide_eq_true_eq] at z2
    exact z2.1
  · have z := e x hx
    rw [Bool.and_eq_true, List.all_eq_true] at z
    have z2 := z.2 y hy
    rw [Bool.and_eq_true, decide_eq_true_eq, decide_eq_true_eq] at z2
    exact z2.2
theorem XT.any {K : Frag} {mg : Str → Option Value} {names : List Str} (T : XT K mg names) {x : Str} (hx : x ∈ names) : ∀ cs : List Str, (∀ y ∈ cs, y ∈ names) → PySem.W.exmAny K (.ref (cA K x)) (cs.map fun y => .ref (cA K y)) = some (cs.any (subX x))
  | [], _ => rfl
  | c :: cs, h => by
    have h1 := T.exm x hx c (h c List.mem_cons_self)
    have h2 := XT.any T hx cs fun y hy => h y (List.mem_cons_of_mem _ hy)
    show (match PySem.W.exmOne K (.ref (cA K x)) (.ref (cA K c)), PySem.W.exmAny K (.ref (cA K x)) (cs.map fun y => .ref (cA K y)) with
      | some b, some d => some (b || d)
      | _, _ => none) = _
    rw [h1, h2]; rfl
section
variable {X : Cx} {W : WX} {e ce t : Expr} {p pos pos2 : Pos} {m m1 : Mo} {we : WE} {w wb : WS} {sts : List Stmt}
/-- raise X('..') -/
def wRaise (x : Str) : WS := fun C E => C.ex x E
theorem s_raise {x msg : Str} {j : Nat} {p2 : Pos} (hc : X.calm = true) (R : XOne X.K X.mg x) (tk : Takes X W) (hg : Gl X x := by rfl) (hdb : (x == ("__debug__" : Str)) = false := by decide) :
    S m X W (.Raise (some (.Call (.Name x p) [.Constant (.str msg) j p2] [] pos)) none pos2) (wRaise x) :=
  ps_imp (ps_raise hc tk (pmk_own PySem.F.excBase_ValueError R.ex R.g R.kp (raises_own R.ok.c.hs R.tP) hg hdb)) fun DD σ H ⟨H0, F0, F, own, E, C, r, q, kn, kb, kc, kr, kx⟩ => kx _ _ _ _ _ _ r q
theorem wRaise_eq {x : Str} {C : EndsD} {E : List Sl} : wRaise x C E = C.ex x E := rfl
/-! ### try -/
abbrev HdS := List Str × Option Nat × WS
def setEO (E : List Sl) (i : Option Nat) (s : Sl) : List Sl := match i with
  | some i => E.set i s
  | none => E
def cEnds (i : Option Nat) (C : EndsD) : EndsD := { nx := fun E' => C.nx (setEO E' i .un), rt := C.rt, bk := fun E' => C.bk (setEO E' i .un), ct := fun E' => C.ct (setEO E' i .un), ex := fun _ _ => False }
def wHs (K : Frag) (C : EndsD) : List HdS → Str → List Sl → Prop
  | [], c, E => C.ex c E
  | h :: r, c, E => ExcOk K c ∧ ∃ b, PySem.W.exmAny K (.ref (cA K c)) (h.1.map fun y => .ref (cA K y)) = some b ∧ if b = true then h.2.2 (cEnds h.2.1 C) (setEO E h.2.1 (.fr (excD c))) else wHs K C r c E
def wTry (K : Frag) (wb : WS) (hs : List HdS) : WS := fun C E => wb { C with ex := wHs K C hs } E
def toHd (m : Mo) (K : Frag) (h : HdS) : Hd := ⟨h.1.map fun y => .ref (cA K y), h.2.1, tS m K W0 h.2.2⟩
inductive HdsS (m : Mo) (X : Cx) : List ExceptHandler → List HdS → Prop
  | nil : HdsS m X [] []
  | cons {t : Expr} {cs : List Str} {w : WS} {b₀ : Stmt} {suite : List Stmt} {pos' : Pos} {hds : List ExceptHandler} {l : List HdS} (ht : TestOk X t (cs.map fun y => .ref (cA X.K y)))
      (hsu : ∀ (a : Addr) (pn : List (Addr × Obj)), Ss m (X.suite a pn) W0 (b₀ :: suite) w) (r : HdsS m X hds l) : HdsS m X (.ExceptHandler (some t) none (b₀ :: suite) pos' :: hds) ((cs, none, w) :: l)
  | consN {t : Expr} {n : Str} {i : Nat} {cs : List Str} {w : WS} {b₀ : Stmt} {suite : List Stmt} {pos' : Pos} {hds : List ExceptHandler} {l : List HdS} (ht : TestOk X t (cs.map fun y => .ref (cA X.K y))) (hi : X.N[i]? = some n) (hln : X.env.kindOf n = some .local)
      (hsu : ∀ (a : Addr) (pn : List (Addr × Obj)), Ss m (X.suite a pn) W0 (b₀ :: suite) w) (r : HdsS m X hds l) : HdsS m X (.ExceptHandler (some t) (some n) (b₀ :: suite) pos' :: hds) ((cs, some i, w) :: l)
theorem HdsS.toT {hds : List ExceptHandler} {l : List HdS} (h : HdsS m X hds l) : HdsT X hds (l.map (toHd m X.K)) := by
  induction h with
  | nil => exact .nil
  | cons ht hsu r ih => exact .cons ht (fun a pn => hsu a pn) ih
  | consN ht hi hln hsu r ih => exact .consN ht hi hln (fun a pn => hsu a pn) ih
theorem hs_rd {K : Frag} {DD : Ends} {C : EndsD} {H0 F0 : Hp}
    (kn : ∀ F' own' E' σ' H', Rel K H0 F0 F' own' E' σ' H' → C.nx E' → DD.nx σ' H') (kb : ∀ F' own' E' σ' H', Rel K H0 F0 F' own' E' σ' H' → C.bk E' → DD.bk σ' H') (kc : ∀ F' own' E' σ' H', Rel K H0 F0 F' own' E' σ' H' → C.ct E' → DD.ct σ' H')
    (kr : ∀ d E', C.rt d E' → ∀ F' own' σ' H' v, Rel K H0 F0 F' own' E' σ' H' → Res K H0 F' H' m v d → DD.rt v H') (kx : ∀ c F' own' E' σ' H', Rel K H0 F0 F' own' E' σ' H' → C.ex c E' → W (.ref (cA K c)) none σ' H') :
    ∀ (hs : List HdS) (c : Str) (F : Hp) (own : Own) (E : List Sl) (σ : L2.St) (H : Hp), Rel K H0 F0 F own E σ H → wHs K C hs c E → wHdT K W DD (hs.map (toHd m K)) (.ref (cA K c)) none σ H
  | [], c, F, own, E, σ, H, r, q => kx _ _ _ _ _ _ r q
  | h :: hs, c, F, own, E, σ, H, r, q => by
    obtain ⟨ok, b, hb, q⟩ := q
    refine ⟨b, hb, fun eb => ⟨rfl, fun a na => ?_⟩, fun eb => ?_⟩
    · subst eb
      rw [if_pos rfl] at q
      obtain ⟨cs, i, w⟩ := h
      have g := Grow.layF (p := a) (o := ExT (.ref (cA K c)) a) r.g.fh na
      have r2 := r.grow g
      cases i with
      | none => exact ⟨H0, F0, _, own, E, cEnds none C, r2, q, fun F' own' E' σ' H' r' hn => kn _ _ _ _ _ r' hn, fun F' own' E' σ' H' r' hn => kb _ _ _ _ _ r' hn, fun F' own' E' σ' H' r' hn => kc _ _ _ _ _ r' hn, kr, fun c F' own' E' σ' H' r' hn => hn.elim⟩
      | some i =>
        exact ⟨H0, F0, _, _, _, cEnds (some i) C, r2.putFr (.exc upd_same ok), q, fun F' own' E' σ' H' r' hn => kn _ _ _ _ _ (r'.putUn (i := i) (o := none)) hn, fun F' own' E' σ' H' r' hn => kb _ _ _ _ _ (r'.putUn (i := i) (o := none)) hn,
          fun F' own' E' σ' H' r' hn => kc _ _ _ _ _ (r'.putUn (i := i) (o := none)) hn, kr, fun c F' own' E' σ' H' r' hn => hn.elim⟩
    · subst eb
      rw [if_neg (by decide)] at q
      exact hs_rd kn kb kc kr kx hs c F own E σ H r q
theorem s_try {h₀ : ExceptHandler} {hds : List ExceptHandler} {l : List HdS} (hN : X.N.Nodup) (tk : Takes X W)
    (hb : ∀ (W : WX) (pn : List (Addr × Obj)) (xe : Value → Shared → Prop), Takes (X.tr pn xe) W → PassesOwn (model X.prog X.w) X.A X.env xe → Ss m (X.tr pn xe) W sts wb) (hh : HdsS m X (h₀ :: hds) l)
    (hs : X.stack = X.env :: X.outer := by rfl) (hf : X.env.frame = some X.env.locals := by rfl) (hx : X.ex = [] := by rfl) : S m X W (.Try sts (h₀ :: hds) [] [] pos) (wTry X.K wb l) :=
  ps_imp (ps_tryT (tb := fun W => tS m X.K W wb) hs hf hN hx tk (fun W pn xe t po => hb W pn xe t po) hh.toT) fun DD σ H ⟨H0, F0, F, own, E, C, r, q, kn, kb, kc, kr, kx⟩ =>
    ⟨H0, F0, F, own, E, _, r, q, kn, kb, kc, kr, fun c F' own' E' σ' H' r' q' => hs_rd kn kb kc kr kx l c F' own' E' σ' H' r' q'⟩
theorem wTry_eq {K : Frag} {C : EndsD} {E : List Sl} {l : List HdS} : wTry K wb l C E = wb { C with ex := wHs K C l } E := rfl
theorem XT.wHs {K : Frag} {mg : Str → Option Value} {names : List Str} (T : XT K mg names) {C : EndsD} {E : List Sl} {x : Str} (hx : x ∈ names) {cs : List Str} {i : Option Nat} {w : WS} {r : List HdS} (hcs : ∀ y ∈ cs, y ∈ names) {b : Bool} (hb : cs.any (subX x) = b)
    (q : if b = true then w (cEnds i C) (setEO E i (.fr (excD x))) else Tb.wHs K C r x E) : Tb.wHs K C ((cs, i, w) :: r) x E := ⟨(T.one x hx).ok, b, by rw [← hb]; exact T.any hx cs hcs, q⟩
theorem names_one {x : Str} {np : Pos} (R : XOne X.K X.mg x) (hg : Gl X x := by rfl) (hd : (x == ("__debug__" : Str)) = false := by decide) : TestOk X (.Name x np) ([x].map fun y => .ref (cA X.K y)) := test_one ⟨hg, hd, .inl R.g⟩
theorem nall_nil : NamesAll X [] (([] : List Str).map fun y => .ref (cA X.K y)) := .nil
theorem nall_cons {x : Str} {np : Pos} {es : List Expr} {cs : List Str} (R : XOne X.K X.mg x) (h : NamesAll X es (cs.map fun y => .ref (cA X.K y))) (hg : Gl X x := by rfl) (hd : (x == ("__debug__" : Str)) = false := by decide)
    (hs : starEach (.Name x np :: es) X.env = (false, eval (.Name x np) X.env) :: starEach es X.env := by rfl) : NamesAll X (.Name x np :: es) ((x :: cs).map fun y => .ref (cA X.K y)) := .cons ⟨hg, hd, .inl R.g⟩ hs h
theorem names_tup {es : List Expr} {cs : List Str} {kk : Nat} {pos : Pos} (h : NamesAll X es (cs.map fun y => .ref (cA X.K y))) (hl : cs.length ≤ 1000) : TestOk X (.Tuple es kk pos) (cs.map fun y => .ref (cA X.K y)) := test_tup h (by rw [List.length_map]; exact hl)
/-! ### isinstance of own classes -/
def wIsC (K : Frag) (we : WE) (u : Value) : WE := fun E KD KX => we E (fun d => ∃ b, PySem.W.kitOne K (tyV K d) u = some b ∧ KD (.bool b)) KX
theorem j_isC {K : Frag} {v : V} {u : Value} {xT : Str} {pT : Pos} (hK : X.K = K) (hm : X.mg "isinstance" = none) (hc : ClsV v u) (hv : PE X (.Name xT pT) (tC v)) (h : J m X W e we) (hg : Gl X "isinstance" := by rfl)
    (hst : starEach [e, .Name xT pT] X.env = (false, eval e X.env) :: starEach [.Name xT pT] X.env := by rfl) (hst2 : starEach [.Name xT pT] X.env = (false, eval (.Name xT pT) X.env) :: starEach [] X.env := by rfl)
    (hpl : (backTo pos (starEach [.Name xT pT] X.env)).any (·.1) = false := by rfl) : J .fz X W (.Call (.Name "isinstance" p) [e, .Name xT pT] [] pos) (wIsC K we u) := by
  subst hK
  exact pe_imp (pe_callB call_isG hg hm (by decide +kernel) (pa_cons h.rd (pa_cons hv pa_nil hst2) hst) (by decide) (by decide) hst hpl) fun σ H Q ⟨H0, F0, F, own, E, KD, KX, r, q, k, x⟩ =>
    ⟨H0, F0, F, own, E, _, KX, r, q, fun d ⟨b, e, hd⟩ F' H' z g rs => ⟨z, v, u, b, rfl, hc, isg_one g.fh rs e, k _ hd F' H' _ g (.bl _)⟩, x⟩
theorem j_isOwn {K : Frag} {mg : Str → Option Value} {x : Str} {pT : Pos} (hm : mg "isinstance" = none) (R : XOne K mg x) (h : J m X W e we) (hK : X.K = K := by rfl) (hmg : X.mg = mg := by rfl) (hgx : Gl X x := by rfl) (hdx : (x == ("__debug__" : Str)) = false := by decide) (hg : Gl X "isinstance" := by rfl)
    (hst : starEach [e, .Name x pT] X.env = (false, eval e X.env) :: starEach [.Name x pT] X.env := by rfl) (hst2 : starEach [.Name x pT] X.env = (false, eval (.Name x pT) X.env) :: starEach [] X.env := by rfl)
    (hpl : (backTo pos (starEach [.Name x pT] X.env)).any (·.1) = false := by rfl) : J .fz X W (.Call (.Name "isinstance" p) [e, .Name x pT] [] pos) (wIsC K we (.ref (cA K x))) :=
  j_isC hK (by rw [hmg]; exact hm) (.own _) (pe_glob hgx (by rw [hmg]; exact R.g) rfl hdx) h hg hst hst2 hpl
theorem j_isVE {K : Frag} {mg : Str → Option Value} {names : List Str} {pT : Pos} (T : XT K mg names) (hm : mg "isinstance" = none) (hmT : mg "ValueError" = none) (h : J m X W e we) (hK : X.K = K := by rfl) (hmg : X.mg = mg := by rfl) (hg : Gl X "isinstance" := by rfl) (hgT : Gl X "ValueError" := by rfl)
    (hst : starEach [e, .Name "ValueError" pT] X.env = (false, eval e X.env) :: starEach [.Name "ValueError" pT] X.env := by rfl) (hst2 : starEach [.Name "ValueError" pT] X.env = (false, eval (.Name "ValueError" pT) X.env) :: starEach [] X.env := by rfl)
    (hpl : (backTo pos (starEach [.Name "ValueError" pT] X.env)).any (·.1) = false := by rfl) : J .fz X W (.Call (.Name "isinstance" p) [e, .Name "ValueError" pT] [] pos) (wIsC K we (.type "ValueError")) :=
  j_isC hK (by rw [hmg]; exact hm) (.ty _) (pe_bltn (v := .ty "ValueError") hgT (by rw [hmg]; exact hmT) (by decide +kernel) rfl (by decide) (by decide)) h hg hst hst2 hpl
/-- isinstance(x, (A, B, ..)), own classes -/
def wIsT (K : Frag) (we : WE) (cs : List Str) : WE := fun E KD KX => we E (fun d => ∃ b, PySem.W.kitAny K (tyV K d) (cs.map fun y => .ref (cA K y)) = some b ∧ KD (.bool b)) KX
def PaN (K : Frag) (X : Cx) (es : List Expr) (cs : List Str) : Prop := PA X es (fun _ H Q => Q (cs.map fun y => V.ref (cA K y)) H)
theorem pan_nil {K : Frag} : PaN K X [] [] := pa_imp pa_nil fun σ H Q h => h
theorem pan_cons {K : Frag} {mg : Str → Option Value} {x : Str} {np : Pos} {es : List Expr} {cs : List Str} (R : XOne K mg x) (h : PaN K X es cs) (hmg : X.mg = mg := by rfl) (hg : Gl X x := by rfl) (hd : (x == ("__debug__" : Str)) = false := by decide)
    (hs : starEach (.Name x np :: es) X.env = (false, eval (.Name x np) X.env) :: starEach es X.env := by rfl) : PaN K X (.Name x np :: es) (x :: cs) := pa_imp (pa_cons (pe_glob (v := .ref (cA K x)) hg (by rw [hmg]; exact R.g) rfl hd) h hs) fun σ H Q h => h
theorem clsV_all {K : Frag} : ∀ cs : List Str, Paired ClsV (cs.map fun y => V.ref (cA K y)) (cs.map fun y => Value.ref (cA K y))
  | [] => .nil
  | c :: cs => .cons (.own _) (clsV_all cs)
theorem j_isT {K : Frag} {mg : Str → Option Value} {es : List Expr} {cs : List Str} {kk : Nat} {pT : Pos} (hm : mg "isinstance" = none) (hn : PaN K X es cs) (hl : cs.length ≤ 1000) (h : J m X W e we) (hK : X.K = K := by rfl) (hmg : X.mg = mg := by rfl) (hg : Gl X "isinstance" := by rfl)
    (hst : starEach [e, .Tuple es kk pT] X.env = (false, eval e X.env) :: starEach [.Tuple es kk pT] X.env := by rfl) (hst2 : starEach [.Tuple es kk pT] X.env = (false, eval (.Tuple es kk pT) X.env) :: starEach [] X.env := by rfl)
    (hpl : (backTo pos (starEach [.Tuple es kk pT] X.env)).any (·.1) = false := by rfl) : J .fz X W (.Call (.Name "isinstance" p) [e, .Tuple es kk pT] [] pos) (wIsT K we cs) := by
  subst hK
  exact pe_imp (pe_callB call_isGT hg (by rw [hmg]; exact hm) (by decide +kernel) (pa_cons h.rd (pa_cons (pe_tup hn) pa_nil hst2) hst) (by decide) (by decide) hst hpl) fun σ H Q ⟨H0, F0, F, own, E, KD, KX, r, q, k, x⟩ =>
    ⟨H0, F0, F, own, E, _, KX, r, q, fun d ⟨b, eb, hd⟩ F' H' v g rs => by
      refine ⟨by rw [List.length_map, sizeLine_eq]; omega, fun z nz => ?_⟩
      have g2 := g.trans (Grow.lay (o := .tup (cs.map fun y => V.ref (cA X.K y))) g.fh nz)
      have rs2 := rs.keep (Grow.lay (o := .tup (cs.map fun y => V.ref (cA X.K y))) g.fh nz) (by decide)
      exact ⟨v, z, _, _, b, rfl, upd_same, clsV_all cs, isg_any g2.fh rs2 eb, k _ hd F' _ _ g2 (.bl _)⟩, x⟩
theorem wIsC_eq {K : Frag} {u : Value} {E : List Sl} {KD : D → Prop} {KX : Str → Prop} : wIsC K we u E KD KX = we E (fun d => ∃ b, PySem.W.kitOne K (tyV K d) u = some b ∧ KD (.bool b)) KX := rfl
theorem wIsT_eq {K : Frag} {cs : List Str} {E : List Sl} {KD : D → Prop} {KX : Str → Prop} : wIsT K we cs E KD KX = we E (fun d => ∃ b, PySem.W.kitAny K (tyV K d) (cs.map fun y => .ref (cA K y)) = some b ∧ KD (.bool b)) KX := rfl
/-! what isinstance answers -/
theorem XT.isX {K : Frag} {mg : Str → Option Value} {names : List Str} (T : XT K mg names) {x y : Str} (hx : x ∈ names) (hy : y ∈ names) : PySem.W.kitOne K (tyV K (excD x)) (.ref (cA K y)) = some (subX x y) := T.isa x hx y hy
theorem XT.isN {K : Frag} {mg : Str → Option Value} {names : List Str} (T : XT K mg names) {y : Str} (hy : y ∈ names) : PySem.W.kitOne K (tyV K .none) (.ref (cA K y)) = some false := (T.one y hy).no "NoneType" (by decide)
theorem XT.isV {K : Frag} {mg : Str → Option Value} {names : List Str} (T : XT K mg names) {x : Str} (hx : x ∈ names) : PySem.W.kitOne K (tyV K (excD x)) (.type "ValueError") = some true := (T.one x hx).val
theorem kit_any_of {K : Frag} {t : Value} {f : Str → Bool} : ∀ cs : List Str, (∀ y ∈ cs, PySem.W.kitOne K t (.ref (cA K y)) = some (f y)) → PySem.W.kitAny K t (cs.map fun y => .ref (cA K y)) = some (cs.any f)
  | [], _ => rfl
  | c :: cs, h => by
    have h1 := h c List.mem_cons_self
    have h2 := kit_any_of cs fun y hy => h y (List.mem_cons_of_mem _ hy)
    show (match PySem.W.kitOne K t (.ref (cA K c)) with
      | some true => some true
      | some false => PySem.W.kitAny K t (cs.map fun y => .ref (cA K y))
      | none => none) = _
    rw [h1, List.any_cons]
    cases f c with
    | true => rfl
    | false => exact h2
theorem XT.isXs {K : Frag} {mg : Str → Option Value} {names : List Str} (T : XT K mg names) {x : Str} (hx : x ∈ names) {cs : List Str} (hc : ∀ y ∈ cs, y ∈ names) : PySem.W.kitAny K (tyV K (excD x)) (cs.map fun y => .ref (cA K y)) = some (cs.any (subX x)) := kit_any_of cs fun y hy => T.isX hx (hc y hy)
end
end
end Tb

set_option Elab.async false
set_option linter.all false
set_option maxRecDepth 100000
set_option maxHeartbeats 1000000
/-! ### an expression thrown away; {} as data -/
namespace Tb
section
open PySem PySem.Spec L2
variable {X : Cx} {W : WX} {a b c e e2 xe ke : Expr} {pos p p2 : Pos} {m ma mb m1 m2 : Mo} {we we2 wa wb wk wo : WE} {E : List Sl} {tg : Expr} {KD : D → Prop} {KX : Str → Prop} {C : EndsD}
def wExp (we : WE) : WS := fun C E => we E (fun _ => C.nx E) (fun c => C.ex c E)
theorem s_expr (he : J m1 X W e we) (hs : swapsWith e none pos.line X.env = pure false := by rfl) : S m X W (.Expr e pos) (wExp we) :=
  ps_imp (ps_expr he hs) fun DD σ H ⟨H0, F0, F, own, E, C, r, q, kn, kb, kc, kr, kx⟩ =>
    ⟨H0, F0, F, own, E, _, _, r, q, fun d hd F' H' v g rs => kn _ _ _ _ _ (r.grow g) hd, fun c hc F' H' g => kx c _ _ _ _ _ (r.grow g) hc⟩
theorem wExp_eq : wExp we C E = we E (fun _ => C.nx E) (fun c => C.ex c E) := rfl
theorem j_dic0 : J .fz X W (.Dict [] [] pos) (wC (.dict [])) := pe_imp pe_dnewK fun σ H Q ⟨H0, F0, F, own, E, KD, KX, r, q, k, x⟩ =>
  fun d nd => k _ q (upd F d (.dK [])) _ _ (Grow.layF r.g.fh nd) (.dic0 upd_same)
end
end Tb

set_option Elab.async false
set_option linter.all false
set_option maxRecDepth 100000
set_option maxHeartbeats 2000000
/-! ### the refusals' classes, asked piece by piece -/
namespace Tb
section
open PySem PySem.Spec L2
structure XF (K : Frag) (c : Addr) : Prop where
  a2 : PySem.W.excIn K c [.type "ValueError", .type "Exception", .type "BaseException", .type "object"] "ValueError.__new__" = true
  a3 : PySem.W.keepIn K (.ref c) = true
  a4 : PySem.W.subIn K (.ref c) (.type "BaseException") = some true
  a5 : PySem.W.typeIn K (.ref c) = some (.type "type")
  a6 : PySem.W.findIn K (.ref c) "__getattribute__" = some (some (.builtin "BaseException.__getattribute__"))
  a7 : PySem.W.findIn K (.ref c) "__getattr__" = some none
  a8 : PySem.W.hasDictIn K c = true
  a9 : PySem.W.findIn K (.ref c) "__class__" = some (some (.builtin "object.__class__"))
  b1 : PySem.W.specialIn K (.builtin "object.__class__") "__get__" = some (some (.builtin "getset_descriptor.__get__"))
  b2 : PySem.W.takesIn K (.builtin "object.__class__") = some true
  b3 : PySem.W.mroIn K c (.type "object") = some true
  c1 : PySem.W.kitOne K (.ref c) (.type "int") = some false
  c2 : PySem.W.kitOne K (.ref c) (.type "bool") = some false
  c3 : PySem.W.kitOne K (.ref c) (.type "str") = some false
  c4 : PySem.W.kitOne K (.ref c) (.type "list") = some false
  c5 : PySem.W.kitOne K (.ref c) (.type "tuple") = some false
  d : PySem.W.kitOne K (.ref c) (.type "ValueError") = some true
  e0 : PySem.W.kitOne K (.type "NoneType") (.ref c) = some false
  e1 : PySem.W.kitOne K (.type "bool") (.ref c) = some false
  e2 : PySem.W.kitOne K (.type "int") (.ref c) = some false
  e3 : PySem.W.kitOne K (.type "str") (.ref c) = some false
  e4 : PySem.W.kitOne K (.type "list") (.ref c) = some false
  e5 : PySem.W.kitOne K (.type "tuple") (.ref c) = some false
  e6 : PySem.W.kitOne K (.type "dict") (.ref c) = some false
def XPairs (K : Frag) (x : Str) (c : Addr) : List (Str × Addr) → Prop
  | [] => True
  | (y, a) :: r => PySem.W.kitOne K (.ref c) (.ref a) = some (subX x y) ∧ PySem.W.exmOne K (.ref c) (.ref a) = some (subX x y) ∧ XPairs K x c r
def XAll (K : Frag) (all : List (Str × Addr)) : List (Str × Addr) → Prop
  | [] => True
  | (x, c) :: r => XF K c ∧ XPairs K x c all ∧ XAll K all r
/-- what the names stand for -/
inductive XNs (K : Frag) : List Str → List (Str × Addr) → Prop
  | nil : XNs K [] []
  | cons {x : Str} {c : Addr} {xs : List Str} {l : List (Str × Addr)} (h : PySem.W.nsIn K mainGlobals x = some (some (.ref c))) (r : XNs K xs l) : XNs K (x :: xs) ((x, c) :: l)
variable {K : Frag}
theorem cA_of {x : Str} {c : Addr} (h : PySem.W.nsIn K mainGlobals x = some (some (.ref c))) : cA K x = c := by unfold cA; rw [h]
theorem XNs.at {names : List Str} {l : List (Str × Addr)} (h : XNs K names l) : ∀ x ∈ names, ∃ c, (x, c) ∈ l ∧ PySem.W.nsIn K mainGlobals x = some (some (.ref c)) := by
  induction h with
  | nil => intro x hx; cases hx
  | cons h r ih =>
    intro y hy
    rcases List.mem_cons.mp hy with rfl | hy
    · exact ⟨_, List.mem_cons_self, h⟩
    · obtain ⟨c, h1, h2⟩ := ih y hy
      exact ⟨c, List.mem_cons_of_mem _ h1, h2⟩
theorem XPairs.at {x : Str} {c : Addr} : ∀ {l : List (Str × Addr)}, XPairs K x c l → ∀ q ∈ l, PySem.W.kitOne K (.ref c) (.ref q.2) = some (subX x q.1) ∧ PySem.W.exmOne K (.ref c) (.ref q.2) = some (subX x q.1)
  | [], _, _, hq => nomatch hq
  | (y, a) :: r, h, q, hq => by
    rcases List.mem_cons.mp hq with rfl | hq
    · exact ⟨h.1, h.2.1⟩
    · exact XPairs.at h.2.2 q hq
theorem XAll.at {all : List (Str × Addr)} : ∀ {l : List (Str × Addr)}, XAll K all l → ∀ q ∈ l, XF K q.2 ∧ XPairs K q.1 q.2 all
  | [], _, _, hq => nomatch hq
  | (y, a) :: r, h, q, hq => by
    rcases List.mem_cons.mp hq with rfl | hq
    · exact ⟨h.1, h.2.1⟩
    · exact XAll.at h.2.2 q hq
theorem xt_of {h : Heap} {mg : Str → Option Value} {names : List Str} {l : List (Str × Addr)} (X : K.In h) (G : h.Ns mainGlobals mg) (N : XNs K names l) (A : XAll K l l) : XT K mg names := by
  refine ⟨fun x hx => ?_, fun x hx y hy => ?_, fun x hx y hy => ?_⟩
  · obtain ⟨c, m, e⟩ := N.at x hx
    obtain ⟨f, _⟩ := A.at _ m
    have ec := cA_of e
    subst ec
    refine ⟨PySem.W.mg_of X G e, f.a2, f.a3, f.a5, ⟨⟨f.a6, f.a7, f.a4, f.a8, f.a9, f.b1, f.b2, f.b3⟩, fun T hT => ?_⟩, f.d, fun T hT => ?_⟩
    · simp only [five, List.mem_cons, List.not_mem_nil, or_false] at hT
      rcases hT with rfl | rfl | rfl | rfl | rfl
      · exact f.c1
      · exact f.c2
      · exact f.c3
      · exact f.c4
      · exact f.c5
    · simp only [seven, List.mem_cons, List.not_mem_nil, or_false] at hT
      rcases hT with rfl | rfl | rfl | rfl | rfl | rfl | rfl
      · exact f.e0
      · exact f.e1
      · exact f.e2
      · exact f.e3
      · exact f.e4
      · exact f.e5
      · exact f.e6
  · obtain ⟨c, m, e⟩ := N.at x hx
    obtain ⟨c2, m2, e2⟩ := N.at y hy
    rw [cA_of e, cA_of e2]
    exact ((A.at _ m).2.at _ m2).2
  · obtain ⟨c, m, e⟩ := N.at x hx
    obtain ⟨c2, m2, e2⟩ := N.at y hy
    rw [cA_of e, cA_of e2]
    exact ((A.at _ m).2.at _ m2).1
end
end Tb

set_option Elab.async false
set_option linter.all false
set_option maxRecDepth 100000
set_option maxHeartbeats 2000000
/-! ### is True, is False -/
namespace Tb
section
open PySem PySem.Spec L2 PyProof.Rows
variable {X : Cx} {W : WX} {a b : Expr} {pos : Pos} {m ma mb : Mo} {wa wb : WE}
def rBB0 (f : Bool → Bool → Bool) : R2 := fun x y H Q => ∃ c d, x = .bl c ∧ y = .bl d ∧ Q (.bl (f c d)) H
def rBB (f : Bool → Bool → Bool) : D → D → (D → Prop) → Prop := fun x y KD => ∃ c d, x = .bool c ∧ y = .bool d ∧ KD (.bool (f c d))
theorem res_bool {K : Frag} {H0 F H : Hp} {v : V} {c : Bool} {m : Mo} (h : Res K H0 F H m v (.bool c)) (hm : m ≠ .nw := by decide) : v = .bl c := by
  cases m with
  | nw => exact absurd rfl hm
  | rd =>
    rcases h with h | ⟨_, _, _, _, e, _⟩
    · cases h; rfl
    · cases e
  | tk =>
    rcases h with h | ⟨_, _, _, _, e, _⟩
    · cases h; rfl
    · cases e
  | fz => cases h; rfl
theorem odBB {K : Frag} {f : Bool → Bool → Bool} : OpD .rd .rd .fz K (rBB0 f) (rBB f) := fun x y KD v u H0 F H Q ⟨i, j, e1, e2, q⟩ s rx ry k => by
  subst e1 e2
  exact ⟨i, j, res_bool rx, res_bool ry, k _ q F H _ (Grow.refl s) (.bl _)⟩
theorem op_isB : OpR X (compareOp .Is) (rBB0 fun c d => c == d) := by
  intro pins s σ H x y v u Q I rx ry h
  obtain ⟨c, d, rfl, rfl, q⟩ := h
  cases rx
  cases ry
  exact is_bool ⟨.bl _, H, I, rfl, q⟩
theorem op_isnB : OpR X (compareOp .IsNot) (rBB0 fun c d => !(c == d)) := by
  intro pins s σ H x y v u Q I rx ry h
  obtain ⟨c, d, rfl, rfl, q⟩ := h
  cases rx
  cases ry
  exact isnot_bool ⟨.bl _, H, I, rfl, q⟩
theorem j_isB (ha : J ma X W a wa) (hb : J mb X W b wb) : J .fz X W (.Compare a [.Is] [b] pos) (wBin wa wb (rBB fun c d => c == d)) := j_cmp op_isB odBB ha.rd hb.rd (nomark _)
theorem j_isnB (ha : J ma X W a wa) (hb : J mb X W b wb) : J .fz X W (.Compare a [.IsNot] [b] pos) (wBin wa wb (rBB fun c d => !(c == d))) := j_cmp op_isnB odBB ha.rd hb.rd (nomark _)
theorem jt_isB (ha : J ma X W a wa) (hb : J mb X W b wb) : JT X W (.Compare a [.Is] [b] pos) (wT (wBin wa wb (rBB fun c d => c == d))) := jt_cmp op_isB odBB ha.rd hb.rd (nomark _)
theorem jt_isnB (ha : J ma X W a wa) (hb : J mb X W b wb) : JT X W (.Compare a [.IsNot] [b] pos) (wT (wBin wa wb (rBB fun c d => !(c == d)))) := jt_cmp op_isnB odBB ha.rd hb.rd (nomark _)
theorem rBB_eq {f : Bool → Bool → Bool} {c d : Bool} {KD : D → Prop} : rBB f (.bool c) (.bool d) KD = KD (.bool (f c d)) := propext ⟨fun ⟨_, _, e1, e2, h⟩ => by cases e1; cases e2; exact h, fun h => ⟨c, d, rfl, rfl, h⟩⟩
end
end Tb

set_option Elab.async false
set_option linter.all false
set_option maxRecDepth 100000
set_option maxHeartbeats 2000000
/-! ### effects: expressions that change what is one's own -/
namespace Tb
section
open PySem PySem.Spec L2
/-- what a value in flight is, and its own objects -/
def OwnS (K : Frag) (F H : Hp) : Sl → V → List Addr → Prop
  | .un, _, fp => fp = []
  | .fr d, v, fp => fp = [] ∧ Rp K F v d
  | .ow ds, v, fp => ∃ p vs, v = .ref p ∧ fp = [p] ∧ H p = some (.lst vs) ∧ RpAll K F vs ds
  | .dk kvs, v, fp => ∃ p ws, v = .ref p ∧ fp = [p] ∧ H p = some (.dK ws) ∧ PD K F ws kvs
  | .tr u t, v, fp => u = v ∧ TrOk K F H v t fp ∧ fp.Nodup
  | _, _, _ => False
section
variable {K : Frag} {H0 F0 F F' F'' H H' H'' : Hp} {own own' own'' : Own} {E : List Sl} {σ : L2.St} {s : Sl} {v : V} {fp : List Addr} {i : Nat}
theorem OwnS.mono (e : Same F F') (k : ∀ p ∈ fp, ∀ o, H p = some o → H' p = some o) (x : OwnS K F H s v fp) : OwnS K F' H' s v fp := by
  cases s with
  | un => exact x
  | fr d => exact ⟨x.1, Rp.mono e _ _ x.2⟩
  | ow ds =>
    obtain ⟨p, vs, e1, e2, e3, ra⟩ := x
    subst e2
    exact ⟨p, vs, e1, rfl, k p List.mem_cons_self _ e3, RpAll.mono e _ _ ra⟩
  | dk kvs =>
    obtain ⟨p, vs, e1, e2, e3, ra⟩ := x
    subst e2
    exact ⟨p, vs, e1, rfl, k p List.mem_cons_self _ e3, kv_mono e ra⟩
  | tr u t => exact ⟨x.1, x.2.1.mono e k, x.2.2⟩
  | bo _ => exact x
  | dt _ => exact x
  | bt _ _ => exact x
theorem OwnS.there (x : OwnS K F H s v fp) : ∀ p ∈ fp, H p ≠ none := by
  cases s with
  | un => cases x; exact fun _ h => nomatch h
  | fr d => rw [x.1]; exact fun _ h => nomatch h
  | ow ds =>
    obtain ⟨p, vs, e1, e2, e3, ra⟩ := x
    subst e2
    intro q hq
    rw [List.mem_singleton.mp hq, e3]; simp
  | dk kvs =>
    obtain ⟨p, vs, e1, e2, e3, ra⟩ := x
    subst e2
    intro q hq
    rw [List.mem_singleton.mp hq, e3]; simp
  | tr u t => exact x.2.1.there
  | bo _ => exact x.elim
  | dt _ => exact x.elim
  | bt _ _ => exact x.elim
theorem OwnS.nodup (x : OwnS K F H s v fp) : fp.Nodup := by
  cases s with
  | un => cases x; exact List.nodup_nil
  | fr d => rw [x.1]; exact List.nodup_nil
  | ow ds => obtain ⟨p, vs, e1, e2, e3, ra⟩ := x; subst e2; simp
  | dk ds => obtain ⟨p, vs, e1, e2, e3, ra⟩ := x; subst e2; simp
  | tr u t => exact x.2.2
  | bo _ => exact x.elim
  | dt _ => exact x.elim
  | bt _ _ => exact x.elim
/-- what was no one's stays as it is -/
structure Eff (F : Hp) (own : Own) (H : Hp) (F' : Hp) (own' : Own) (H' : Hp) : Prop where
  f : Same F F'
  keep : ∀ p o, H p = some o → (∀ j, own p ≠ some j) → H' p = some o ∧ (∀ j, own' p ≠ some j) ∧ (F p = none → F' p = none)
theorem Eff.trans (a : Eff F own H F' own' H') (b : Eff F' own' H' F'' own'' H'') : Eff F own H F'' own'' H'' :=
  ⟨a.f.trans b.f, fun p o h n => by
    obtain ⟨h1, n1, f1⟩ := a.keep p o h n
    obtain ⟨h2, n2, f2⟩ := b.keep p o h1 n1
    exact ⟨h2, n2, fun z => f2 (f1 z)⟩⟩
theorem Eff.refl : Eff F own H F own H := ⟨Same.refl _, fun p o h n => ⟨h, n, fun z => z⟩⟩
theorem Eff.grow (g : Grow F H F' H') : Eff F own H F' own H' := ⟨g.f, fun p o h n => ⟨g.h _ _ h, n, fun z => by
  cases e : F' p with
  | none => rfl
  | some u =>
    rcases g.new p (by rw [e]; simp) with w | w
    · exact absurd z w
    · rw [h] at w; cases w⟩⟩
/-- in flight: no one's -/
structure Fly (K : Frag) (H0 F H : Hp) (own : Own) (s : Sl) (v : V) (fp : List Addr) : Prop where
  o : OwnS K F H s v fp
  f : ∀ p ∈ fp, F p = none
  h : ∀ p ∈ fp, H0 p = none
  n : ∀ p ∈ fp, ∀ j, own p ≠ some j
theorem Fly.eff (x : Fly K H0 F H own s v fp) (e : Eff F own H F' own' H') : Fly K H0 F' H' own' s v fp := by
  have z : ∀ p ∈ fp, ∃ o, H p = some o := fun p hp => by
    have := x.o.there p hp
    cases q : H p with
    | none => exact absurd q this
    | some o => exact ⟨o, rfl⟩
  refine ⟨x.o.mono e.f fun p hp o q => (e.keep p o q (x.n p hp)).1, fun p hp => ?_, x.h, fun p hp => ?_⟩
  · obtain ⟨o, q⟩ := z p hp
    exact (e.keep p o q (x.n p hp)).2.2 (x.f p hp)
  · obtain ⟨o, q⟩ := z p hp
    exact (e.keep p o q (x.n p hp)).2.1
def Prov (own : Own) (H : Hp) (fp : List Addr) : Prop := ∀ p ∈ fp, (∃ j, own p = some j) ∨ H p = none
/-- a slot takes what is in flight -/
theorem Rel.putS (r : Rel K H0 F0 F own E σ H) (x : Fly K H0 F H own s v fp) : ∃ own', Rel K H0 F0 F own' (E.set i s) (σ.set i (some v)) H := by
  refine ⟨fun a => if a ∈ fp then some i else if own a = some i then none else own a, ⟨by rw [List.length_set, List.length_set]; exact r.len, r.g, fun a j q => ?_, fun j s' q => ?_⟩⟩
  · try dsimp only at q
    split at q
    · rename_i hm
      exact ⟨x.f a hm, x.h a hm, x.o.there a hm⟩
    · split at q
      · cases q
      · exact r.ow a j q
  · by_cases hj : i = j
    · subst hj
      by_cases hl : i < E.length
      · rw [List.getElem?_set_self hl] at q
        cases q
        rw [getD_set_self (by rw [← r.len]; exact hl)]
        have o := x.o
        cases s with
        | un => trivial
        | fr d => exact ⟨v, rfl, o.2⟩
        | ow ds =>
          obtain ⟨p, vs, e1, e2, e3, ra⟩ := o
          subst e1 e2
          exact ⟨p, vs, rfl, by simp, e3, ra⟩
        | dk ds =>
          obtain ⟨p, vs, e1, e2, e3, ra⟩ := o
          subst e1 e2
          exact ⟨p, vs, rfl, by simp, e3, ra⟩
        | tr u t =>
          obtain ⟨rfl, h1, h2⟩ := o
          exact ⟨rfl, fp, h1, h2, fun q hq => by dsimp only; rw [if_pos hq]⟩
        | bo _ => exact o.elim
        | dt _ => exact o.elim
        | bt _ _ => exact o.elim
      · rw [List.getElem?_eq_none (by rw [List.length_set]; omega)] at q; cases q
    · rw [List.getElem?_set_ne hj] at q
      rw [getD_set_ne hj]
      refine (r.sl j s' q).stay (Same.refl _) (Same.refl _) (fun a u oa ha => ha) fun a oa => ?_
      try dsimp only
      rw [if_neg (fun z => x.n a z j oa), if_neg (fun z => by rw [z] at oa; exact hj (Option.some.inj oa))]
      exact oa
/-- is it one's own thing -/
def isOwn : Sl → Bool
  | .ow _ => true
  | .dk _ => true
  | .tr _ _ => true
  | .fr _ => true
  | _ => false
theorem Rel.lose (r : Rel K H0 F0 F own E σ H) (i : Nat) : Rel K H0 F0 F (drop own i) (E.set i .un) σ H := by
  refine ⟨by rw [List.length_set]; exact r.len, r.g, fun a j e => r.ow a j (drop_some e).1, fun j s' e => ?_⟩
  by_cases hj : i = j
  · subst hj
    by_cases hl : i < E.length
    · rw [List.getElem?_set_self hl] at e
      cases e; trivial
    · rw [List.getElem?_eq_none (by rw [List.length_set]; omega)] at e; cases e
  · rw [List.getElem?_set_ne hj] at e
    exact (r.sl j s' e).stay (Same.refl _) (Same.refl _) (fun _ _ _ q => q) fun p q => drop_ne q (Ne.symm hj)
/-- what a slot holds goes into flight -/
theorem Rel.takeS (r : Rel K H0 F0 F own E σ H) (e : E[i]? = some s) (hs : isOwn s = true) : ∃ v fp, σ.getD i none = some v ∧ Fly K H0 F H (drop own i) s v fp ∧ (∀ p ∈ fp, own p = some i) := by
  have x := r.sl i s e
  have dn : ∀ {p : Addr}, own p = some i → ∀ j, drop own i p ≠ some j := fun h j z => by
    obtain ⟨z1, z2⟩ := drop_some z
    rw [h] at z1; exact z2 (Option.some.inj z1).symm
  cases s with
  | fr d =>
    obtain ⟨v, e1, rp⟩ := x
    exact ⟨v, [], e1, ⟨⟨rfl, rp⟩, (fun _ h => nomatch h), (fun _ h => nomatch h), (fun _ h => nomatch h)⟩, (fun _ h => nomatch h)⟩
  | ow ds =>
    obtain ⟨p, vs, e1, e2, e3, ra⟩ := x
    obtain ⟨y1, y2, y3⟩ := r.ow p i e2
    exact ⟨_, [p], e1, ⟨⟨p, vs, rfl, rfl, e3, ra⟩, fun q hq => by rw [List.mem_singleton.mp hq]; exact y1, fun q hq => by rw [List.mem_singleton.mp hq]; exact y2, fun q hq => by rw [List.mem_singleton.mp hq]; exact dn e2⟩, fun q hq => by rw [List.mem_singleton.mp hq]; exact e2⟩
  | dk ds =>
    obtain ⟨p, vs, e1, e2, e3, ra⟩ := x
    obtain ⟨y1, y2, y3⟩ := r.ow p i e2
    exact ⟨_, [p], e1, ⟨⟨p, vs, rfl, rfl, e3, ra⟩, fun q hq => by rw [List.mem_singleton.mp hq]; exact y1, fun q hq => by rw [List.mem_singleton.mp hq]; exact y2, fun q hq => by rw [List.mem_singleton.mp hq]; exact dn e2⟩, fun q hq => by rw [List.mem_singleton.mp hq]; exact e2⟩
  | tr u t =>
    obtain ⟨e1, fp, h1, h2, h3⟩ := x
    exact ⟨u, fp, e1, ⟨⟨rfl, h1, h2⟩, fun q hq => (r.ow q i (h3 q hq)).1, fun q hq => (r.ow q i (h3 q hq)).2.1, fun q hq => dn (h3 q hq)⟩, h3⟩
  | un => cases hs
  | bo _ => cases hs
  | dt _ => cases hs
  | bt _ _ => cases hs
theorem Eff.lose : Eff F own H F (drop own i) H := ⟨Same.refl _, fun p o h n => ⟨h, fun j z => n j (drop_some z).1, fun z => z⟩⟩
end
/-! ### expressions -/
abbrev WEE := List Sl → (Sl → List Sl → Prop) → (Str → List Sl → Prop) → Prop
def tE (K : Frag) (W : WX) (w : WEE) : TE := fun σ H Q => ∃ H0 F0 F own E KS KX, Rel K H0 F0 F own E σ H ∧ w E KS KX ∧
  (∀ s E', KS s E' → ∀ F' own' H' v fp, Rel K H0 F0 F' own' E' σ H' → Eff F own H F' own' H' → Fly K H0 F' H' own' s v fp → Prov own H fp → Q v H') ∧
  (∀ c E', KX c E' → ∀ F' own' H', Rel K H0 F0 F' own' E' σ H' → Eff F own H F' own' H' → W (.ref (cA K c)) none σ H')
def EJ (X : Cx) (W : WX) (e : Expr) (w : WEE) : Prop := PE X e (tE X.K W w)
abbrev WTE := List Sl → (Bool → List Sl → Prop) → (Str → List Sl → Prop) → Prop
def tET (K : Frag) (W : WX) (w : WTE) : TT := fun σ H Q => ∃ H0 F0 F own E KB KX, Rel K H0 F0 F own E σ H ∧ w E KB KX ∧
  (∀ b E', KB b E' → ∀ F' own' H', Rel K H0 F0 F' own' E' σ H' → Eff F own H F' own' H' → Q b H') ∧
  (∀ c E', KX c E' → ∀ F' own' H', Rel K H0 F0 F' own' E' σ H' → Eff F own H F' own' H' → W (.ref (cA K c)) none σ H')
def ET (X : Cx) (W : WX) (e : Expr) (w : WTE) : Prop := PT X e (tET X.K W w)
def EW (X : Cx) (W : WX) (e : Expr) (w : WTE) : Prop := PW X e (tET X.K W w)
section
variable {X : Cx} {W : WX} {a b c e : Expr} {rest : List Expr} {pos p : Pos} {m m1 : Mo} {we : WE} {wt : WT} {ee : WEE} {te te2 : WTE} {i : Nat}
theorem fly_fr {K : Frag} {H0 F H : Hp} {own : Own} {v : V} {d : D} (r : Rp K F v d) : Fly K H0 F H own (.fr d) v [] := ⟨⟨rfl, r⟩, (fun _ h => nomatch h), (fun _ h => nomatch h), (fun _ h => nomatch h)⟩
theorem prov_nil {own : Own} {H : Hp} : Prov own H [] := fun _ h => nomatch h
/-- a plain reading -/
def wEf (we : WE) : WEE := fun E KS KX => we E (fun d => KS (.fr d) E) (fun c => KX c E)
theorem ej_fz (h : J .fz X W e we) : EJ X W e (wEf we) := pe_imp h fun σ H Q ⟨H0, F0, F, own, E, KS, KX, r, q, k, x⟩ =>
  ⟨H0, F0, F, own, E, _, _, r, q, fun d hd F' H' v g rs => k _ E hd F' own H' v [] (r.grow g) (.grow g) (fly_fr rs) prov_nil, fun c hc F' H' g => x c E hc F' own H' (r.grow g) (.grow g)⟩
/-- a new list -/
def wEn (we : WE) : WEE := fun E KS KX => we E (fun d => ∃ ds, d = .list ds ∧ KS (.ow ds) E) (fun c => KX c E)
theorem ej_nw (h : J .nw X W e we) : EJ X W e (wEn we) := pe_imp h fun σ H Q ⟨H0, F0, F, own, E, KS, KX, r, q, k, x⟩ =>
  ⟨H0, F0, F, own, E, _, _, r, q, fun d ⟨ds, ed, hd⟩ F' H' v g rs => by
    subst ed
    obtain ⟨p, vs, ds', e1, e2, n, nf, eh, ra⟩ := rs
    cases e2
    subst e1
    have no : ∀ j, own p ≠ some j := fun j z => (r.ow p j z).2.2 n
    exact k _ E hd F' own H' _ [p] (r.grow g) (.grow g) ⟨⟨p, vs, rfl, rfl, eh, ra⟩, fun q hq => by rw [List.mem_singleton.mp hq]; exact nf, fun q hq => by rw [List.mem_singleton.mp hq]; exact none_of_same r.g.h n, fun q hq => by rw [List.mem_singleton.mp hq]; exact no⟩ (fun q hq => by rw [List.mem_singleton.mp hq]; exact .inr n),
    fun c hc F' H' g => x c E hc F' own H' (r.grow g) (.grow g)⟩
/-- a new list taken for a tree -/
def wEtr (ee : WEE) : WEE := fun E KS KX => ee E (fun s E' => ∃ ds, s = .ow ds ∧ ∀ p, KS (.tr (.ref p) (.nd p .lst (ds.map Tr.d))) E') KX
theorem trAll_d {K : Frag} {F H : Hp} : ∀ {ds : List D} {vs : List V} {fp : List Addr}, TrAll K F H vs (ds.map Tr.d) fp → RpAll K F vs ds ∧ fp = []
  | [], _, _, h => by cases h; exact ⟨.nil, rfl⟩
  | d :: ds, _, _, h => by
    cases h with
    | cons h1 h2 =>
      cases h1 with
      | d r =>
        obtain ⟨a, rfl⟩ := trAll_d h2
        exact ⟨.cons r a, rfl⟩
theorem trAll_of {K : Frag} {F H : Hp} : ∀ {ds : List D} {vs : List V}, RpAll K F vs ds → TrAll K F H vs (ds.map Tr.d) []
  | [], _, h => by cases h; exact .nil
  | d :: ds, _, h => by
    cases h with
    | cons h1 h2 => exact TrAll.cons (f1 := []) (.d h1) (trAll_of h2)
theorem ow_tree {K : Frag} {F H : Hp} {ds : List D} {v : V} {fp : List Addr} (x : OwnS K F H (.ow ds) v fp) : ∃ p, v = .ref p ∧ OwnS K F H (.tr (.ref p) (.nd p .lst (ds.map Tr.d))) v fp := by
  obtain ⟨p, vs, e1, e2, e3, ra⟩ := x
  subst e1 e2
  exact ⟨p, rfl, rfl, .nd e3 ⟨vs, rfl⟩ (trAll_of ra), by simp⟩
theorem ej_tree (h : EJ X W e ee) : EJ X W e (wEtr ee) := pe_imp h fun σ H Q ⟨H0, F0, F, own, E, KS, KX, r, q, k, x⟩ =>
  ⟨H0, F0, F, own, E, _, KX, r, q, fun s E' ⟨ds, es, hk⟩ F' own' H' v fp r' ef fl pv => by
    subst es
    obtain ⟨p, ev, o⟩ := ow_tree fl.o
    exact k _ E' (hk p) F' own' H' v fp r' ef ⟨o, fl.f, fl.h, fl.n⟩ pv, x⟩
/-- a name's thing goes into flight -/
def wEtake (i : Nat) : WEE := fun E KS _ => ∃ s, E[i]? = some s ∧ isOwn s = true ∧ KS s (E.set i .un)
theorem ej_take (h : PE X e (tVar i)) : EJ X W e (wEtake i) := pe_imp h fun σ H Q ⟨H0, F0, F, own, E, KS, KX, r, ⟨s, es, hs, q⟩, k, x⟩ => by
  obtain ⟨v, fp, e1, fl, ho⟩ := r.takeS es hs
  exact ⟨v, getD_some e1, k _ _ q F _ H v fp (r.lose i) .lose fl fun p hp => .inl ⟨i, ho p hp⟩⟩
/-! tests -/
def wTe (ee : WEE) : WTE := fun E KB KX => ee E (fun s E' => ∃ b, s = .fr (.bool b) ∧ KB b E') KX
theorem et_val (h : EJ X W e ee) (he : ∀ whole, isTrue e X.env whole = (do let v ← whole; standAt e.pos; holding [v] (truthy v)) := by intro _; rfl) : ET X W e (wTe ee) :=
  pt_imp (pt_val h he) fun σ H Q ⟨H0, F0, F, own, E, KB, KX, r, q, k, x⟩ => ⟨H0, F0, F, own, E, _, KX, r, q, fun s E' ⟨b, es, hb⟩ F' own' H' v fp r' ef fl pv => by
    subst es
    have rp : Rp X.K F' v (.bool b) := fl.o.2
    cases rp
    exact ⟨b, rfl, k b E' hb F' own' H' r' ef⟩, x⟩
def wTp (wt : WT) : WTE := fun E KB KX => wt E (fun b => KB b E) (fun c => KX c E)
theorem et_pure (h : JT X W e wt) : ET X W e (wTp wt) := pt_imp h fun σ H Q ⟨H0, F0, F, own, E, KB, KX, r, q, k, x⟩ =>
  ⟨H0, F0, F, own, E, _, _, r, q, fun b hb F' H' g => k b E hb F' own H' (r.grow g) (.grow g), fun c hc F' H' g => x c E hc F' own H' (r.grow g) (.grow g)⟩
def wAndE (t u : WTE) : WTE := fun E KB KX => t E (fun b E' => if b = true then u E' KB KX else KB false E') KX
def wOrE (t u : WTE) : WTE := fun E KB KX => t E (fun b E' => if b = true then KB true E' else u E' KB KX) KX
def wNotE (t : WTE) : WTE := fun E KB KX => t E (fun b E' => KB (!b) E') KX
theorem EW.et (h : EW X W e te) : ET X W e te := PW.pt h
theorem ew_and (ha : ET X W a te) (hb : EW X W (.BoolOp .And (b :: rest) pos) te2) : EW X W (.BoolOp .And (a :: b :: rest) pos) (wAndE te te2) := pw_imp (pw_and ha hb) fun σ H Q ⟨H0, F0, F, own, E, KB, KX, r, q, k, x⟩ =>
  ⟨H0, F0, F, own, E, _, KX, r, q, fun b E' hb F' own' H' r' ef => by
    cases b with
    | true => exact iteT ⟨H0, F0, F', own', E', KB, KX, r', hb, fun b E2 hb F2 own2 H2 r2 ef2 => k b E2 hb F2 own2 H2 r2 (ef.trans ef2), fun c E2 hc F2 own2 H2 r2 ef2 => x c E2 hc F2 own2 H2 r2 (ef.trans ef2)⟩
    | false => exact iteF (k false E' hb F' own' H' r' ef), x⟩
theorem ew_or (ha : ET X W a te) (hb : EW X W (.BoolOp .Or (b :: rest) pos) te2) : EW X W (.BoolOp .Or (a :: b :: rest) pos) (wOrE te te2) := pw_imp (pw_or ha hb) fun σ H Q ⟨H0, F0, F, own, E, KB, KX, r, q, k, x⟩ =>
  ⟨H0, F0, F, own, E, _, KX, r, q, fun b E' hb F' own' H' r' ef => by
    cases b with
    | true => exact iteT (k true E' hb F' own' H' r' ef)
    | false => exact iteF ⟨H0, F0, F', own', E', KB, KX, r', hb, fun b E2 hb F2 own2 H2 r2 ef2 => k b E2 hb F2 own2 H2 r2 (ef.trans ef2), fun c E2 hc F2 own2 H2 r2 ef2 => x c E2 hc F2 own2 H2 r2 (ef.trans ef2)⟩, x⟩
theorem ew_and1 (ha : ET X W a te) : EW X W (.BoolOp .And [a] pos) te := pw_and1 ha
theorem ew_or1 (ha : ET X W a te) : EW X W (.BoolOp .Or [a] pos) te := pw_or1 ha
theorem et_not (ha : ET X W a te) : ET X W (.UnaryOp .Not a pos) (wNotE te) := pt_imp (pt_not ha) fun σ H Q ⟨H0, F0, F, own, E, KB, KX, r, q, k, x⟩ =>
  ⟨H0, F0, F, own, E, _, KX, r, q, fun b E' hb F' own' H' r' ef => k _ E' hb F' own' H' r' ef, x⟩
end
/-! ### statements -/
structure EndsS where
  nx : List Sl → Prop
  rt : Sl → List Sl → Prop
  bk : List Sl → Prop := fun _ => False
  ct : List Sl → Prop := fun _ => False
  ex : Str → List Sl → Prop := fun _ _ => False
abbrev WSS := EndsS → List Sl → Prop
def tT (K : Frag) (W : WX) (w : WSS) : TS := fun DD σ H => ∃ H0 F0 F own E C, Rel K H0 F0 F own E σ H ∧ w C E ∧
  (∀ F' own' E' σ' H', Rel K H0 F0 F' own' E' σ' H' → C.nx E' → DD.nx σ' H') ∧
  (∀ F' own' E' σ' H', Rel K H0 F0 F' own' E' σ' H' → C.bk E' → DD.bk σ' H') ∧
  (∀ F' own' E' σ' H', Rel K H0 F0 F' own' E' σ' H' → C.ct E' → DD.ct σ' H') ∧
  (∀ s E', C.rt s E' → ∀ F' own' σ' H' v fp, Rel K H0 F0 F' own' E' σ' H' → Fly K H0 F' H' own' s v fp → DD.rt v H') ∧
  (∀ c F' own' E' σ' H', Rel K H0 F0 F' own' E' σ' H' → C.ex c E' → W (.ref (cA K c)) none σ' H')
def T1 (X : Cx) (W : WX) (st : Stmt) (w : WSS) : Prop := PS X st (tT X.K W w)
def Ts (X : Cx) (W : WX) (st : List Stmt) (w : WSS) : Prop := PSs X st (tT X.K W w)
section
variable {X : Cx} {W : WX} {a b c e e2 tg : Expr} {es : List Expr} {pos p p2 : Pos} {m m1 m2 : Mo} {we we2 : WE} {ee : WEE} {te : WTE} {wi : WI} {st : Stmt} {sts sb : List Stmt} {ws : WS} {w w2 w3 : WSS}
/-- a statement of the plain kind -/
def wLf (ws : WS) : WSS := fun C E => ws { nx := C.nx, rt := fun d E' => C.rt (.fr d) E', bk := C.bk, ct := C.ct, ex := C.ex } E
theorem t_lift (h : S .fz X W st ws) : T1 X W st (wLf ws) := ps_imp h fun DD σ H ⟨H0, F0, F, own, E, C, r, q, kn, kb, kc, kr, kx⟩ =>
  ⟨H0, F0, F, own, E, _, r, q, kn, kb, kc, fun d E' hd F' own' σ' H' v r' rs => kr _ E' hd F' own' σ' H' v [] r' (fly_fr rs), kx⟩
def wNxS : WSS := fun C E => C.nx E
def wSeqS (w w2 : WSS) : WSS := fun C E => w { C with nx := w2 C } E
theorem ts_nil : Ts X W [] wNxS := pss_imp pss_nil fun DD σ H ⟨H0, F0, F, own, E, C, r, q, kn, kb, kc, kr, kx⟩ => kn _ _ _ _ _ r q
theorem ts_cons (h : T1 X W st w) (t : Ts X W sts w2) : Ts X W (st :: sts) (wSeqS w w2) := pss_imp (pss_cons h t) fun DD σ H ⟨H0, F0, F, own, E, C, r, q, kn, kb, kc, kr, kx⟩ =>
  ⟨H0, F0, F, own, E, _, r, q, fun F' own' E' σ' H' r' q' => ⟨H0, F0, F', own', E', C, r', q', kn, kb, kc, kr, kx⟩, kb, kc, kr, kx⟩
theorem ts_one (h : T1 X W st w) : Ts X W [st] w := pss_one h
/-- x = e -/
def wSetE (i : Nat) (ee : WEE) : WSS := fun C E => ee E (fun s E' => C.nx (E'.set i s)) (fun c E' => C.ex c E')
theorem t_set {i : Nat} {x : Str} {pos' : Pos} (hN : X.N.Nodup) (he : EJ X W e ee) (hi : X.N[i]? = some x := by rfl) (hx : Loc X.env.scope x := by first | exact Or.inl rfl | exact Or.inr rfl) (hs : swapsWith e (some (.Name x pos')) pos.line X.env = pure false := by rfl)
    (hf : X.fn x = true ∨ X.env.scope.names.lookup x = some .local := by first | exact .inl rfl | exact .inr rfl) : T1 X W (.Assign [.Name x pos'] e pos) (wSetE i ee) :=
  ps_imp (ps_set hN hi hx he hs hf) fun DD σ H ⟨H0, F0, F, own, E, C, r, q, kn, kb, kc, kr, kx⟩ =>
    ⟨H0, F0, F, own, E, _, _, r, q, fun s E' hs F' own' H' v fp r' ef fl pv => by
      obtain ⟨own2, r2⟩ := r'.putS fl
      exact kn _ _ _ _ _ r2 hs, fun c E' hc F' own' H' r' ef => kx c _ _ _ _ _ r' hc⟩
/-- return e -/
def wRetE (ee : WEE) : WSS := fun C E => ee E (fun s E' => C.rt s E') (fun c E' => C.ex c E')
theorem t_ret (he : EJ X W e ee) : T1 X W (.Return (some e) pos) (wRetE ee) := ps_imp (ps_ret he) fun DD σ H ⟨H0, F0, F, own, E, C, r, q, kn, kb, kc, kr, kx⟩ =>
  ⟨H0, F0, F, own, E, _, _, r, q, fun s E' hs F' own' H' v fp r' ef fl pv => kr s E' hs F' own' σ H' v fp r' fl, fun c E' hc F' own' H' r' ef => kx c _ _ _ _ _ r' hc⟩
/-- e thrown away -/
def wExpE (ee : WEE) : WSS := fun C E => ee E (fun _ E' => C.nx E') (fun c E' => C.ex c E')
theorem t_expr (he : EJ X W e ee) (hs : swapsWith e none pos.line X.env = pure false := by rfl) : T1 X W (.Expr e pos) (wExpE ee) := ps_imp (ps_expr he hs) fun DD σ H ⟨H0, F0, F, own, E, C, r, q, kn, kb, kc, kr, kx⟩ =>
  ⟨H0, F0, F, own, E, _, _, r, q, fun s E' hs F' own' H' v fp r' ef fl pv => kn _ _ _ _ _ r' hs, fun c E' hc F' own' H' r' ef => kx c _ _ _ _ _ r' hc⟩
/-- if -/
def wIfE (te : WTE) (w w2 : WSS) : WSS := fun C E => te E (fun b E' => if b = true then w C E' else w2 C E') (fun c E' => C.ex c E')
theorem t_if (hc : ET X W c te) (ha : Ts X W sts w) (hb : Ts X W sb w2) : T1 X W (.If c sts sb pos) (wIfE te w w2) := ps_imp (ps_if hc ha hb) fun DD σ H ⟨H0, F0, F, own, E, C, r, q, kn, kb, kc, kr, kx⟩ =>
  ⟨H0, F0, F, own, E, _, _, r, q, fun b E' hb F' own' H' r' ef => by
    cases b with
    | true => exact iteT ⟨H0, F0, F', own', E', C, r', hb, kn, kb, kc, kr, kx⟩
    | false => exact iteF ⟨H0, F0, F', own', E', C, r', hb, kn, kb, kc, kr, kx⟩, fun c E' hc F' own' H' r' ef => kx c _ _ _ _ _ r' hc⟩
/-- while -/
def wWhileE (te : WTE) (wb : WSS) : WSS := fun C E => ∃ (I : List Sl → Prop) (mu : List Sl → Nat), I E ∧ ∀ E, I E →
  te E (fun b E1 => if b = true then wb { C with nx := fun E' => I E' ∧ mu E' < mu E, ct := fun E' => I E' ∧ mu E' < mu E, bk := C.nx } E1 else C.nx E1) (fun c E' => C.ex c E')
theorem t_while (hp : PassesOwn (model X.prog X.w) X.A X.env X.xe) (hc : ET X W c te) (hb : Ts X W sts w) : T1 X W (.While c sts [] pos) (wWhileE te w) :=
  ps_imp (ps_while hp hc hb) fun DD σ H ⟨H0, F0, F, own, E, C, r, ⟨I, mu, i0, step⟩, kn, kb, kc, kr, kx⟩ => by
    refine ⟨fun n σ H => ∃ F own E, Rel X.K H0 F0 F own E σ H ∧ I E ∧ n = mu E, ⟨_, F, own, E, r, i0, rfl⟩, ?_⟩
    rintro n σ H ⟨F, own, E, r, hi, rfl⟩
    refine ⟨H0, F0, F, own, E, _, _, r, step E hi, fun b E' hb F' own' H' r' ef => ?_, fun c E' hc F' own' H' r' ef => kx c _ _ _ _ _ r' hc⟩
    cases b with
    | false => exact iteF (kn _ _ _ _ _ r' hb)
    | true =>
      refine iteT ⟨fun σ' H' => ∃ F' own' E', Rel X.K H0 F0 F' own' E' σ' H' ∧ I E' ∧ mu E' < mu E, fun σ' H' ⟨F', own', E', r', i', l'⟩ => ⟨_, l', F', own', E', r', i', rfl⟩, H0, F0, F', own', E', _, r', hb, ?_, ?_, ?_, ?_, ?_⟩
      · exact fun F' own' E' σ' H' r' ⟨i', l'⟩ => ⟨F', own', E', r', i', l'⟩
      · exact kn
      · exact fun F' own' E' σ' H' r' ⟨i', l'⟩ => ⟨F', own', E', r', i', l'⟩
      · exact kr
      · exact kx
/-- for -/
def wForE (wi : WI) (pt : Pt) (wb : WSS) : WSS := fun C E => wi E (fun ds => ∃ I : Nat → List Sl → Prop, I 0 E ∧
  (∀ i d E, ds[i]? = some d → I i E → pt.up d E (wb { C with nx := I (i + 1), ct := I (i + 1), bk := C.nx })) ∧ ∀ E, I ds.length E → C.nx E) (fun c => C.ex c E)
theorem t_for (hp : PassesOwn (model X.prog X.w) X.A X.env X.xe) (hc : X.calm = true) (hi : IJ X W tg e wi) {pt : Pt} (hg : PG X tg (pt.g X.K)) (hb : Ts X W sts w)
    (hs : ∀ x, foldedSetIterable e X.env x = pure x := by intro _; rfl) : T1 X W (.For tg e sts [] pos) (wForE wi pt w) :=
  ps_imp (ps_for hp hc hi hg hb hs) fun DD σ H ⟨H0, F0, F, own, E, C, r, q, kn, kb, kc, kr, kx⟩ =>
  ⟨H0, F0, F, own, E, _, _, r, q, fun ds ⟨I, i0, step, done⟩ F1 H1 J g ok => by
    have r1 := r.grow g
    refine ⟨fun i n σ H => ∃ F own E, Rel X.K H0 F1 F own E σ H ∧ I i E ∧ i ≤ ds.length ∧ n = ds.length - i, ⟨_, F1, own, E, r1.base, i0, Nat.zero_le _, rfl⟩, ?_⟩
    rintro i n σ H ⟨F, own, E, rr, hI, hle, rfl⟩
    obtain ⟨go, stop⟩ := ok F H rr.g.f rr.g.fh rr.g.h
    by_cases hlt : i < ds.length
    · have ed : ds[i]? = some ds[i] := List.getElem?_eq_getElem hlt
      obtain ⟨g1, yl⟩ := go i ds[i] ed
      refine .inr ⟨g1, fun σ' H' => ∃ F' own' E', Rel X.K H0 F1 F' own' E' σ' H' ∧ I (i + 1) E', fun σ' H' ⟨F', own', E', r', i'⟩ => ⟨ds.length - (i + 1), by omega, F', own', E', r', i', hlt, rfl⟩, fun x H' y => ?_⟩
      obtain ⟨F2, g2, rp⟩ := yl x H' y
      refine pt.run (rr.grow g2) rp (step i _ E ed hI) fun own' E' vs r' h' => ⟨H0, F1, F2, own', E', _, r', h', ?_, ?_, ?_, ?_, ?_⟩
      · exact fun F' own' E' σ' H' r' i' => ⟨F', own', E', r', i'⟩
      · exact fun F' own' E' σ' H' r' i' => kn _ _ _ _ _ (r'.unbase r1.g) i'
      · exact fun F' own' E' σ' H' r' i' => ⟨F', own', E', r', i'⟩
      · exact fun d E2 hd F' own2 σ2 H' v fp r2 rs => kr d E2 hd F' own2 σ2 H' v fp (r2.unbase r1.g) rs
      · exact fun c F' own' E' σ' H' r' h' => kx c _ _ _ _ _ (r'.unbase r1.g) h'
    · have e : i = ds.length := by omega
      subst e
      exact .inl ⟨stop, kn _ _ _ _ _ (rr.unbase r1.g) (done E hI)⟩,
  fun c hc F' H' g => kx c _ _ _ _ _ (r.grow g) hc⟩
end
end
end Tb

set_option Elab.async false
set_option linter.all false
set_option maxRecDepth 100000
set_option maxHeartbeats 2000000
/-! ### places in trees of one's own -/
namespace Tb
section
open PySem PySem.Spec L2
section
variable {K : Frag} {H0 F0 F F' H H' : Hp} {own : Own} {E : List Sl} {σ : L2.St}
theorem walk_mono (s : Same H H') : ∀ (π : List Nat) {v u : V}, walkV H v π = some u → walkV H' v π = some u
  | [], v, u, h => by cases v <;> exact h
  | k :: π, v, u, h => by
    cases v with
    | ref p =>
      simp only [walkV] at h ⊢
      cases e : H p with
      | none => rw [e] at h; cases h
      | some o =>
        rw [e] at h
        rw [s _ _ e]
        dsimp only at h ⊢
        cases e2 : (kids o)[k]? with
        | none => rw [e2] at h; cases h
        | some w => rw [e2] at h; exact walk_mono s π h
    | _ => cases h
theorem get_app : ∀ (π : List Nat) {t c : Tr} {p : Addr} {h : Hn} {ts : List Tr} {k : Nat}, t.get π = some (.nd p h ts) → ts[k]? = some c → t.get (π ++ [k]) = some c
  | [], t, c, p, h, ts, k, e, hk => by
    have e' : t = .nd p h ts := by cases t <;> (simp only [Tr.get, Option.some.injEq] at e; exact e)
    subst e'
    simp only [List.nil_append, Tr.get, hk]
  | j :: π, t, c, p, h, ts, k, e, hk => by
    cases t with
    | nd p2 h2 ts2 =>
      simp only [List.cons_append, Tr.get] at e ⊢
      cases e2 : ts2[j]? with
      | none => rw [e2] at e; cases e
      | some w => rw [e2] at e; exact get_app π e hk
    | _ => simp [Tr.get] at e
theorem tree_ok (r : Rel K H0 F0 F own E σ H) {i : Nat} {v : V} {t : Tr} (e : E[i]? = some (.tr v t)) : σ.getD i none = some v ∧ ∃ fp, TrOk K F H v t fp ∧ fp.Nodup ∧ ∀ p ∈ fp, own p = some i := r.sl i _ e
/-- what stands at a place -/
theorem place_ok (r : Rel K H0 F0 F own E σ H) {i : Nat} {v : V} {t s : Tr} {π : List Nat} (e : E[i]? = some (.tr v t)) (g : t.get π = some s) : ∃ u fs, walkV H v π = some u ∧ TrOk K F H u s fs := by
  obtain ⟨_, fp, h1, h2, _⟩ := tree_ok r e
  obtain ⟨u, fs, w, hs, _⟩ := h1.focus π h2 g
  exact ⟨u, fs, w, hs⟩
theorem place_at (r : Rel K H0 F0 F own E σ H) {i : Nat} {v u : V} {t s : Tr} {π : List Nat} (e : E[i]? = some (.tr v t)) (g : t.get π = some s) (w : walkV H v π = some u) : ∃ fs, TrOk K F H u s fs := by
  obtain ⟨u', fs, w', hs⟩ := place_ok r e g
  rw [w] at w'; cases w'
  exact ⟨fs, hs⟩
theorem nd_at {u : V} {p : Addr} {h : Hn} {ts : List Tr} {fs : List Addr} (x : TrOk K F H u (.nd p h ts) fs) : u = .ref p ∧ ∃ o fp, H p = some o ∧ HnOk K h o ∧ TrAll K F H (kids o) ts fp ∧ fs = p :: fp := by
  cases x with
  | nd h1 h2 h3 => exact ⟨rfl, _, _, h1, h2, h3, rfl⟩
theorem node_at (r : Rel K H0 F0 F own E σ H) {i : Nat} {v : V} {t : Tr} {π : List Nat} {p : Addr} {h : Hn} {ts : List Tr} (e : E[i]? = some (.tr v t)) (g : t.get π = some (.nd p h ts)) :
    walkV H v π = some (.ref p) ∧ ∃ o fp, H p = some o ∧ HnOk K h o ∧ TrAll K F H (kids o) ts fp := by
  obtain ⟨u, fs, w, hs⟩ := place_ok r e g
  obtain ⟨rfl, o, fp, h1, h2, h3, _⟩ := nd_at hs
  exact ⟨w, o, fp, h1, h2, h3⟩
theorem walk_app : ∀ (π : List Nat) {v u : V} {p : Addr} {o : HO} {k : Nat}, walkV H v π = some (.ref p) → H p = some o → (kids o)[k]? = some u → walkV H v (π ++ [k]) = some u
  | [], v, u, p, o, k, h, ho, hk => by
    have e : v = .ref p := by cases v <;> (simp only [walkV, Option.some.injEq] at h; exact h)
    subst e
    simp only [List.nil_append, walkV, ho, hk]
  | j :: π, v, u, p, o, k, h, ho, hk => by
    cases v with
    | ref q =>
      simp only [List.cons_append, walkV] at h ⊢
      cases e : H q with
      | none => rw [e] at h; cases h
      | some o2 =>
        rw [e] at h
        dsimp only at h ⊢
        cases e2 : (kids o2)[j]? with
        | none => rw [e2] at h; cases h
        | some w => rw [e2] at h; exact walk_app π h ho hk
    | _ => simp [walkV] at h
theorem TrAll.thereA : ∀ {vs : List V} {ts : List Tr} {fp : List Addr}, TrAll K F H vs ts fp → ∀ p ∈ fp, H p ≠ none
  | _, [], _, h, p, hp => by cases h; cases hp
  | _, t :: ts, _, h, p, hp => by
    cases h with
    | cons h1 h2 =>
      rcases List.mem_append.mp hp with hp | hp
      · exact h1.there p hp
      · exact TrAll.thereA h2 p hp
/-- an object of a tree of one's own changes -/
theorem Rel.chgT (r : Rel K H0 F0 F own E σ H) {i : Nat} {v : V} {t : Tr} {π : List Nat} {h h' : Hn} {ts ts' : List Tr} {p : Addr} {o o' : HO} (e : E[i]? = some (.tr v t)) (g : t.get π = some (.nd p h ts)) (ho : H p = some o) (hn : HnOk K h' o')
    (k : ∀ fp0, TrAll K F H (kids o) ts fp0 → p ∉ fp0 → fp0.Nodup → (∀ q ∈ fp0, own q = some i) → own p = some i →
      ∃ fp1, TrAll K F (upd H p o') (kids o') ts' fp1 ∧ fp1.Nodup ∧ p ∉ fp1 ∧ ∀ q ∈ fp1, q ∈ fp0 ∨ (H q ≠ none ∧ F q = none ∧ H0 q = none ∧ ∀ j, own q ≠ some j)) :
    ∃ own', Rel K H0 F0 F own' (E.set i (.tr v (t.put π (.nd p h' ts')))) σ (upd H p o') := by
  obtain ⟨e1, fp, hT, hN, hO⟩ := r.sl i _ e
  obtain ⟨u, fs, w', hs, sub, ns, put⟩ := hT.focus π hN g
  obtain ⟨rfl, o2, fp0, hp, _, hall, efs⟩ := nd_at hs
  rw [ho] at hp; cases hp
  subst efs
  obtain ⟨np, n0⟩ := List.nodup_cons.mp ns
  have op : own p = some i := hO p (sub p List.mem_cons_self)
  obtain ⟨fp1, hall1, n1, np1, new⟩ := k fp0 hall np n0 (fun q hq => hO q (sub q (List.mem_cons_of_mem _ hq))) op
  obtain ⟨n1', n2', n3'⟩ := r.ow p i op
  obtain ⟨fp', hT', hN', hs'⟩ := put F (upd H p o') (.nd p h' ts') (p :: fp1) (Same.refl _) (fun q hq hnq o3 e3 => by
    rw [upd_ne (fun z => hnq (by rw [z]; exact List.mem_cons_self))]; exact e3) (.nd upd_same hn hall1) (List.nodup_cons.mpr ⟨np1, n1⟩) (fun q hq => by
    rcases List.mem_cons.mp hq with rfl | hq
    · exact .inl List.mem_cons_self
    · rcases new q hq with z | ⟨_, _, _, z⟩
      · exact .inl (List.mem_cons_of_mem _ z)
      · exact .inr fun z2 => z i (hO q z2))
  have cls : ∀ q ∈ fp', own q = some i ∨ (H q ≠ none ∧ F q = none ∧ H0 q = none ∧ ∀ j, own q ≠ some j) := fun q hq => by
    rcases hs' q hq with ⟨z, _⟩ | z
    · exact .inl (hO q z)
    · rcases List.mem_cons.mp z with rfl | z
      · exact .inl op
      · rcases new q z with z | z
        · exact .inl (hO q (sub q (List.mem_cons_of_mem _ z)))
        · exact .inr z
  have nz : ∀ q, H q ≠ none → upd H p o' q ≠ none := fun q hq => by
    by_cases hqp : q = p
    · subst hqp; rw [upd_same]; simp
    · rw [upd_ne hqp]; exact hq
  refine ⟨fun a => if a ∈ fp' then some i else if own a = some i then none else own a, ⟨by rw [List.length_set]; exact r.len, ⟨r.g.f, fun b x q => ?_, fun b x q => ?_, r.g.new⟩, fun a j q => ?_, fun j s q => ?_⟩⟩
  · rw [upd_ne (ne_of_none q n2')]; exact r.g.h _ _ q
  · rw [upd_ne (ne_of_none q n1')]; exact r.g.fh _ _ q
  · try dsimp only at q
    split at q
    · rename_i hm
      rcases cls a hm with z | ⟨z1, z2, z3, _⟩
      · obtain ⟨y1, y2, y3⟩ := r.ow a i z
        exact ⟨y1, y2, nz a y3⟩
      · exact ⟨z2, z3, nz a z1⟩
    · split at q
      · cases q
      · obtain ⟨y1, y2, y3⟩ := r.ow a j q
        exact ⟨y1, y2, nz a y3⟩
  · by_cases hj : i = j
    · subst hj
      by_cases hl : i < E.length
      · rw [List.getElem?_set_self hl] at q
        cases q
        exact ⟨e1, fp', hT', hN', fun q hq => by dsimp only; rw [if_pos hq]⟩
      · rw [List.getElem?_eq_none (by rw [List.length_set]; omega)] at q; cases q
    · rw [List.getElem?_set_ne hj] at q
      refine (r.sl j s q).stay (Same.refl _) (Same.refl _) (fun a x oa ha => ?_) fun a oa => ?_
      · rw [upd_ne (fun z => by subst z; rw [op] at oa; exact hj (Option.some.inj oa))]; exact ha
      · try dsimp only
        have h1 : a ∉ fp' := fun z => by
          rcases cls a z with z | ⟨_, _, _, z⟩
          · rw [z] at oa; exact hj (Option.some.inj oa)
          · exact z j oa
        rw [if_neg h1, if_neg (fun z => by rw [z] at oa; exact hj (Option.some.inj oa))]
        exact oa
/-- .. a child that was in flight is put behind, the others stay -/
theorem kid_new {i : Nat} {p : Addr} {o' : HO} {xs : List V} {ts : List Tr} {fp0 fs : List Addr} {u : V} {c : Tr} (hall : TrAll K F H xs ts fp0) (np : p ∉ fp0) (n0 : fp0.Nodup) (o0 : ∀ q ∈ fp0, own q = some i) (op : own p = some i)
    (x : TrOk K F H u c fs) (xn : fs.Nodup) (xf : ∀ q ∈ fs, F q = none) (xh : ∀ q ∈ fs, H0 q = none) (xo : ∀ q ∈ fs, ∀ j, own q ≠ some j) :
    ∃ fp1, TrAll K F (upd H p o') (xs ++ [u]) (ts ++ [c]) fp1 ∧ fp1.Nodup ∧ p ∉ fp1 ∧ ∀ q ∈ fp1, q ∈ fp0 ∨ (H q ≠ none ∧ F q = none ∧ H0 q = none ∧ ∀ j, own q ≠ some j) := by
  refine ⟨fp0 ++ (fs ++ []), ?_, nodup_app.mpr ⟨n0, by rw [List.append_nil]; exact xn, fun q p1 p2 => ?_⟩, fun hp => ?_, fun q hq => ?_⟩
  · refine TrAll.app (hall.mono (Same.refl _) fun q hq o2 e2 => by rw [upd_ne (fun z : q = p => np (by rw [← z]; exact hq))]; exact e2) (.cons (x.mono (Same.refl _) fun q hq o2 e2 => ?_) .nil)
    rw [upd_ne (fun z => xo q hq i (by rw [z]; exact op))]; exact e2
  · rw [List.append_nil] at p2; exact xo q p2 i (o0 q p1)
  · rw [List.append_nil] at hp
    rcases List.mem_append.mp hp with hp | hp
    · exact np hp
    · exact xo p hp i op
  · rw [List.append_nil] at hq
    rcases List.mem_append.mp hq with hq | hq
    · exact .inl hq
    · exact .inr ⟨x.there q hq, xf q hq, xh q hq, xo q hq⟩
/-- .. a child is exchanged for what was in flight -/
theorem kid_set {i : Nat} {p : Addr} {o' : HO} {xs : List V} {ts : List Tr} {fp0 fs : List Addr} {u : V} {c c0 : Tr} {k : Nat} (hk : ts[k]? = some c0) (hall : TrAll K F H xs ts fp0) (np : p ∉ fp0) (n0 : fp0.Nodup) (o0 : ∀ q ∈ fp0, own q = some i) (op : own p = some i)
    (x : TrOk K F H u c fs) (xn : fs.Nodup) (xf : ∀ q ∈ fs, F q = none) (xh : ∀ q ∈ fs, H0 q = none) (xo : ∀ q ∈ fs, ∀ j, own q ≠ some j) :
    ∃ fp1, TrAll K F (upd H p o') (xs.set k u) (ts.set k c) fp1 ∧ fp1.Nodup ∧ p ∉ fp1 ∧ ∀ q ∈ fp1, q ∈ fp0 ∨ (H q ≠ none ∧ F q = none ∧ H0 q = none ∧ ∀ j, own q ≠ some j) := by
  have cut : ∀ {xs : List V} {ts : List Tr} {fp : List Addr} {k : Nat}, TrAll K F H xs ts fp → ts[k]? = some c0 → ∃ fa f1 fb, fp = fa ++ (f1 ++ fb) ∧ ∀ H', (∀ q ∈ fa ++ fb, ∀ o, H q = some o → H' q = some o) → TrOk K F H' u c fs → TrAll K F H' (xs.set k u) (ts.set k c) (fa ++ (fs ++ fb)) := by
    intro xs ts
    induction ts generalizing xs with
    | nil => intro fp k h e; simp at e
    | cons s ts ih =>
      intro fp k h e
      cases h with
      | @cons v vs _ _ g1 g2 h1 h2 =>
        cases k with
        | zero => exact ⟨[], g1, g2, rfl, fun H' kk z => TrAll.cons (f1 := fs) z (h2.mono (Same.refl _) fun q hq => kk q (by simpa using hq))⟩
        | succ k =>
          obtain ⟨fa, f1, fb, e1, put⟩ := ih h2 (by simpa using e)
          refine ⟨g1 ++ fa, f1, fb, by rw [e1, List.append_assoc], fun H' kk z => ?_⟩
          rw [List.append_assoc]
          exact .cons (h1.mono (Same.refl _) fun q hq => kk q (List.mem_append_left _ (List.mem_append_left _ hq))) (put H' (fun q hq => kk q (by
            rcases List.mem_append.mp hq with hq | hq
            · exact List.mem_append_left _ (List.mem_append_right _ hq)
            · exact List.mem_append_right _ hq)) z)
  obtain ⟨fa, f1, fb, rfl, put⟩ := cut hall hk
  obtain ⟨na, nfb, dab⟩ := nodup_app.mp n0
  obtain ⟨n1, nb, d1b⟩ := nodup_app.mp nfb
  have inn : ∀ q ∈ fa ++ fb, q ∈ fa ++ (f1 ++ fb) := fun q hq => by
    rcases List.mem_append.mp hq with hq | hq
    · exact List.mem_append_left _ hq
    · exact List.mem_append_right _ (List.mem_append_right _ hq)
  refine ⟨fa ++ (fs ++ fb), put _ (fun q hq o e => by rw [upd_ne (fun z : q = p => np (by rw [← z]; exact inn q hq))]; exact e) (x.mono (Same.refl _) fun q hq o e => by rw [upd_ne (fun z => xo q hq i (by rw [z]; exact op))]; exact e), ?_, fun hp => ?_, fun q hq => ?_⟩
  · refine nodup_app.mpr ⟨na, nodup_app.mpr ⟨xn, nb, fun q h1 h2 => xo q h1 i (o0 q (inn q (List.mem_append_right _ h2)))⟩, fun q h1 h2 => ?_⟩
    rcases List.mem_append.mp h2 with h2 | h2
    · exact xo q h2 i (o0 q (inn q (List.mem_append_left _ h1)))
    · exact dab q h1 (List.mem_append_right _ h2)
  · rcases List.mem_append.mp hp with hp | hp
    · exact np (inn p (List.mem_append_left _ hp))
    · rcases List.mem_append.mp hp with hp | hp
      · exact xo p hp i op
      · exact np (inn p (List.mem_append_right _ hp))
  · rcases List.mem_append.mp hq with hq | hq
    · exact .inl (inn q (List.mem_append_left _ hq))
    · rcases List.mem_append.mp hq with hq | hq
      · exact .inr ⟨x.there q hq, xf q hq, xh q hq, xo q hq⟩
      · exact .inl (inn q (List.mem_append_right _ hq))
end
/-- as a part of a tree -/
def asT : Sl → Option Tr
  | .fr d => some (.d d)
  | .tr _ t => some t
  | _ => none
theorem asT_ok {K : Frag} {F H : Hp} {s : Sl} {c : Tr} {v : V} {fp : List Addr} (e : asT s = some c) (x : OwnS K F H s v fp) : TrOk K F H v c fp := by
  cases s with
  | fr d => cases e; rw [x.1]; exact .d x.2
  | tr u t => cases e; exact x.2.1
  | _ => cases e
/-- how a part is told: the thing itself stays where it is -/
def rawS : Tr → Sl
  | .d d => .fr d
  | .hl u => .tr u (.hl u)
  | .nd p _ _ => .tr (.ref p) (.hl (.ref p))
theorem raw_ok {K : Frag} {F H : Hp} {u : V} {s : Tr} {fs : List Addr} (x : TrOk K F H u s fs) : OwnS K F H (rawS s) u [] := by
  cases x with
  | d r => exact ⟨rfl, r⟩
  | hl => exact ⟨rfl, .hl, List.nodup_nil⟩
  | nd h1 h2 h3 => exact ⟨rfl, .hl, List.nodup_nil⟩
/-! ### places read -/
abbrev WP := List Sl → (Nat → List Nat → Tr → Prop) → (Str → Prop) → Prop
def tP (K : Frag) (W : WX) (w : WP) : TE := fun σ H Q => ∃ H0 F0 F own E KP KX, Rel K H0 F0 F own E σ H ∧ w E KP KX ∧
  (∀ i π s v t, KP i π s → E[i]? = some (.tr v t) → t.get π = some s → ∀ F' H' u, Grow F H F' H' → walkV H' v π = some u → Q u H') ∧ (∀ c, KX c → ∀ F' H', Grow F H F' H' → W (.ref (cA K c)) none σ H')
def PJ (X : Cx) (W : WX) (e : Expr) (w : WP) : Prop := PE X e (tP X.K W w)
section
variable {X : Cx} {W : WX} {a b c e e2 e3 xe ke tg : Expr} {es : List Expr} {pos p p2 : Pos} {m ma mb m1 m2 : Mo} {we we2 wa wb wk wo : WE} {ee : WEE} {wp : WP} {E : List Sl} {KD : D → Prop} {KX : Str → Prop}
def wPV (i : Nat) : WP := fun E KP _ => ∃ v t, E[i]? = some (.tr v t) ∧ KP i [] t
theorem pj_var {i : Nat} (h : PE X e (tVar i)) : PJ X W e (wPV i) := pe_imp h fun σ H Q ⟨H0, F0, F, own, E, KP, KX, r, ⟨v, t, e, q⟩, k, x⟩ =>
  ⟨v, getD_some (tree_ok r e).1, k i [] t v t q e (by cases t <;> rfl) F H v (Grow.refl r.g.fh) (by cases v <;> rfl)⟩
/-- a name that stands for a part of a tree -/
def wPA (i : Nat) : WP := fun E KP _ => ∃ p, E[i]? = some (.tr (.ref p) (.hl (.ref p))) ∧ ∃ j π v t h ts, E[j]? = some (.tr v t) ∧ t.get π = some (.nd p h ts) ∧ KP j π (.nd p h ts)
theorem pj_al {i : Nat} (h : PE X e (tVar i)) : PJ X W e (wPA i) := pe_imp h fun σ H Q ⟨H0, F0, F, own, E, KP, KX, r, ⟨p, e, j, π, v, t, h, ts, ej, eg, q⟩, k, x⟩ =>
  ⟨_, getD_some (tree_ok r e).1, k j π _ v t q ej eg F H _ (Grow.refl r.g.fh) (node_at r ej eg).1⟩
/-- place.f -/
def wPAt (wp : WP) (f : Str) : WP := fun E KP KX => wp E (fun i π s => ∃ p c ns ts k ch, s = .nd p (.ob c ns) ts ∧ ns.findIdx? (fun g => g == f) = some k ∧ ts[k]? = some ch ∧ KP i (π ++ [k]) ch) KX
theorem look_idx {f : Str} : ∀ {fs : List (Str × V)} {k : Nat} {v : V}, (fs.map (·.1)).findIdx? (fun g => g == f) = some k → (fs.map (·.2))[k]? = some v → fs.lookup f = some v
  | [], _, _, h, _ => by simp at h
  | (g, x) :: fs, k, v, h, e => by
    rw [List.map_cons, List.findIdx?_cons] at h
    rw [List.lookup_cons]
    cases hb : g == f with
    | true =>
      rw [hb] at h
      have hb' : (f == g) = true := by rw [beq_iff_eq] at hb ⊢; exact hb.symm
      simp only [if_true] at h
      cases h
      rw [hb']
      simpa using e
    | false =>
      rw [hb] at h
      have hb' : (f == g) = false := by
        rw [beq_eq_false_iff_ne] at hb ⊢; exact fun z => hb z.symm
      rw [hb']
      simp only [Bool.false_eq_true, if_false, Option.map_eq_some_iff] at h
      obtain ⟨j, h1, rfl⟩ := h
      exact look_idx h1 (by simpa using e)
theorem pj_at {f : Str} (ho : PJ X W e wp) (hb : attributeBase e f X.env (eval e X.env) = eval e X.env := by rfl) : PJ X W (.Attribute e f pos) (wPAt wp f) :=
  pe_imp (pe_fld ho hb) fun σ H Q ⟨H0, F0, F, own, E, KP, KX, r, q, k, x⟩ =>
    ⟨H0, F0, F, own, E, _, KX, r, q, fun i π s v t ⟨p, c, ns, ts, kk, ch, es, hk, hc, hp⟩ hT hg F1 H1 u g1 w1 => by
      subst es
      have r1 := r.grow g1
      obtain ⟨w, o, fp, ho, ⟨ic, na, dx, fs, rfl, ens⟩, ha⟩ := node_at r1 hT hg
      rw [w1] at w; cases w
      obtain ⟨cv, fa, f1, fb, e1, _⟩ := ha.at hc
      subst ens
      have hf : f ∈ fs.map (·.1) := by
        rw [List.findIdx?_eq_some_iff_getElem] at hk
        obtain ⟨h1, h2, _⟩ := hk
        have := beq_iff_eq.mp h2
        rw [← this]; exact List.getElem_mem h1
      exact ⟨p, _, dx, fs, cv, rfl, ho, ic.cl, na f hf, look_idx hk e1, k i _ ch v t hp hT (get_app π hg hc) F1 H1 cv g1 (walk_app π w1 ho e1)⟩, x⟩
/-- place[k] -/
def wPIx (wp : WP) (wk : WE) : WP := fun E KP KX => wp E (fun i π s => wk E (fun d => ∃ n j p ts c, s = .nd p .lst ts ∧ d = .int n ∧ ixN ts.length n = some j ∧ ts[j]? = some c ∧ KP i (π ++ [j]) c) KX) KX
theorem pj_ix (ho : PJ X W e wp) (hk : J m1 X W ke wk) (hs : PlainIx ke := by exact fun _ _ => rfl) : PJ X W (.Subscript e ke pos) (wPIx wp wk) :=
  pe_imp (pe_ix ix_list ho hk.rd hs) fun σ H Q ⟨H0, F0, F, own, E, KP, KX, r, q, k, x⟩ =>
    ⟨H0, F0, F, own, E, _, KX, r, q, fun i π s v t hw hT hg F1 H1 u g1 w1 => ⟨H0, F0, F1, own, E, _, KX, r.grow g1, hw, fun d ⟨n, j, p, ts, c, es, ed, hj, hc, hp⟩ F2 H2 kv g2 rk => by
      subst es ed
      have r2 := (r.grow g1).grow g2
      have w2 := walk_mono g2.h π w1
      obtain ⟨w, o, fp, ho, ⟨xs, rfl⟩, ha⟩ := node_at r2 hT hg
      rw [w2] at w; cases w
      obtain ⟨cv, fa, f1, fb, e1, _, _, _⟩ := ha.at hc
      have hl : xs.length = ts.length := ha.len
      refine ⟨p, xs, n, cv, rfl, rk.int, SqL.of ho, ?_, k i _ c v t hp hT (get_app π hg hc) F2 H2 cv (g1.trans g2) (walk_app π w2 ho e1)⟩
      unfold atI
      rw [hl, hj]
      exact e1, fun c hc F2 H2 g2 => x c hc _ _ (g1.trans g2)⟩, x⟩
/-- place[key] -/
def kIdx (ks : List Key) (k : Key) : Option Nat := ks.findIdx? fun j => decide (j = k)
def wPDg (wp : WP) (wk : WE) : WP := fun E KP KX => wp E (fun i π s => wk E (fun d => ∃ ky j p ks ts c, s = .nd p (.dk ks) ts ∧ d = keyD ky ∧ kIdx ks ky = some j ∧ ts[j]? = some c ∧ KP i (π ++ [j]) c) KX) KX
theorem val_idx {k : Key} : ∀ {ws : List (Key × V)} {j : Nat} {v : V}, kIdx (ws.map (·.1)) k = some j → (ws.map (·.2))[j]? = some v → valV ws k = some v
  | [], _, _, h, _ => by simp [kIdx] at h
  | p :: ws, j, v, h, e => by
    unfold kIdx at h
    rw [List.map_cons, List.findIdx?_cons] at h
    by_cases hb : p.1 = k
    · rw [valV_pos hb]
      rw [decide_eq_true hb] at h
      simp only [if_true] at h
      cases h
      simpa using e
    · rw [valV_neg hb]
      rw [decide_eq_false hb] at h
      simp only [Bool.false_eq_true, if_false, Option.map_eq_some_iff] at h
      obtain ⟨i, h1, rfl⟩ := h
      exact val_idx h1 (by simpa using e)
theorem val_idx_none {k : Key} : ∀ {ws : List (Key × V)}, kIdx (ws.map (·.1)) k = none → valV ws k = none
  | [], h => rfl
  | p :: ws, h => by
    unfold kIdx at h
    rw [List.map_cons, List.findIdx?_cons] at h
    by_cases hb : p.1 = k
    · rw [decide_eq_true hb] at h; simp at h
    · rw [valV_neg hb]
      rw [decide_eq_false hb] at h
      simp only [Bool.false_eq_true, if_false, Option.map_eq_none_iff] at h
      exact val_idx_none h
theorem kIdx_lt {ks : List Key} {k : Key} {j : Nat} (h : kIdx ks k = some j) : ∃ hj : j < ks.length, ks[j] = k := by
  unfold kIdx at h
  rw [List.findIdx?_eq_some_iff_getElem] at h
  obtain ⟨h1, h2, _⟩ := h
  exact ⟨h1, of_decide_eq_true h2⟩
theorem pj_dg (hu : X.A.units + 65 < cLine) (ho : PJ X W e wp) (hk : J m1 X W ke wk) (hs : NoSl ke := by exact fun _ _ => rfl) : PJ X W (.Subscript e ke pos) (wPDg wp wk) :=
  pe_imp (pe_dget (by omega) ho hk.rd hs) fun σ H Q ⟨H0, F0, F, own, E, KP, KX, r, q, k, x⟩ =>
    ⟨H0, F0, F, own, E, _, KX, r, q, fun i π s v t hw hT hg F1 H1 u g1 w1 => ⟨H0, F0, F1, own, E, _, KX, r.grow g1, hw, fun d ⟨ky, j, p, ks, ts, c, es, ed, hj, hc, hp⟩ F2 H2 kv g2 rk => by
      subst es ed
      have ekv := res_key rk
      subst ekv
      have r2 := (r.grow g1).grow g2
      have w2 := walk_mono g2.h π w1
      obtain ⟨w, o, fp, ho, ⟨ws, rfl, ek⟩, ha⟩ := node_at r2 hT hg
      rw [w2] at w; cases w
      subst ek
      obtain ⟨cv, fa, f1, fb, e1, _⟩ := ha.at hc
      refine ⟨p, cv, rfl, .inl ⟨ws, ky, .inl ho, rfl, ?_⟩, k i _ c v t hp hT (get_app π hg hc) F2 H2 cv (g1.trans g2) (walk_app π w2 ho e1)⟩
      exact (val_idx hj e1).symm, fun c hc F2 H2 g2 => x c hc _ _ (g1.trans g2)⟩, x⟩
/-- a place's data -/
def wPD (wp : WP) : WE := fun E KD KX => wp E (fun _ _ s => ∃ d, s = .d d ∧ KD d) KX
theorem j_pd (ho : PJ X W e wp) : J .fz X W e (wPD wp) := pe_imp ho fun σ H Q ⟨H0, F0, F, own, E, KD, KX, r, q, k, x⟩ =>
  ⟨H0, F0, F, own, E, _, KX, r, q, fun i π s v t ⟨d, es, hd⟩ hT hg F' H' u g w => by
    obtain ⟨fs, hT2⟩ := place_at (r.grow g) hT hg w
    subst es
    cases hT2 with
    | d rp => exact k _ hd F' H' u g rp, x⟩
/-- a place's list of data, to be read -/
def wPL (wp : WP) : WE := fun E KD KX => wp E (fun _ _ s => ∃ (p : Addr) (ds : List D), s = .nd p .lst (ds.map Tr.d) ∧ KD (.list ds)) KX
theorem j_plL (ho : PJ X W e wp) : J .tk X W e (wPL wp) := pe_imp ho fun σ H Q ⟨H0, F0, F, own, E, KD, KX, r, q, k, x⟩ =>
  ⟨H0, F0, F, own, E, _, KX, r, q, fun i π s v t hw hT hg F' H' u g w => by
    obtain ⟨fs, hT2⟩ := place_at (r.grow g) hT hg w
    obtain ⟨p, ds, rfl, hd⟩ := hw
    obtain ⟨rfl, o, fp, ho, ⟨xs, rfl⟩, ha, _⟩ := nd_at hT2
    exact k _ hd F' H' _ g (.inr ⟨p, xs, ds, rfl, rfl, ho, (trAll_d ha).1⟩), x⟩
/-- a place told: data, or the thing itself, which stays where it is -/
def wEraw (wp : WP) : WEE := fun E KS KX => wp E (fun _ _ s => KS (rawS s) E) (fun c => KX c E)
theorem ej_pl (ho : PJ X W e wp) : EJ X W e (wEraw wp) := pe_imp ho fun σ H Q ⟨H0, F0, F, own, E, KS, KX, r, q, k, x⟩ =>
  ⟨H0, F0, F, own, E, _, _, r, q, fun i π s v t hw hT hg F' H' u g w => by
    obtain ⟨fs, hT2⟩ := place_at (r.grow g) hT hg w
    exact k _ E hw F' own H' u [] (r.grow g) (.grow g) ⟨raw_ok hT2, (fun _ h => nomatch h), (fun _ h => nomatch h), (fun _ h => nomatch h)⟩ prov_nil, fun c hc F' H' g => x c E hc F' own H' (r.grow g) (.grow g)⟩
/-- an alias's own value -/
def wEal (i : Nat) : WEE := fun E KS _ => ∃ u, E[i]? = some (.tr u (.hl u)) ∧ KS (.tr u (.hl u)) E
theorem ej_al {i : Nat} (h : PE X e (tVar i)) : EJ X W e (wEal i) := pe_imp h fun σ H Q ⟨H0, F0, F, own, E, KS, KX, r, ⟨u, eu, q⟩, k, x⟩ =>
  ⟨u, getD_some (tree_ok r eu).1, k _ E q F own H u [] r .refl ⟨⟨rfl, .hl, List.nodup_nil⟩, (fun _ h => nomatch h), (fun _ h => nomatch h), (fun _ h => nomatch h)⟩ prov_nil⟩
/-- len of a place -/
def lenT : Tr → Option Nat
  | .nd _ .lst ts => some ts.length
  | .nd _ (.dk ks) _ => some ks.length
  | _ => none
def wPLen (wp : WP) : WE := fun E KD KX => wp E (fun _ _ s => ∃ n : Nat, lenT s = some n ∧ KD (.int n)) KX
theorem j_lenP (hm : X.mg "len" = none) (ho : PJ X W e wp) (hg : Gl X "len" := by rfl) (hst : starEach [e] X.env = (false, eval e X.env) :: starEach [] X.env := by rfl) : J .fz X W (.Call (.Name "len" p) [e] [] pos) (wPLen wp) :=
  pe_imp (pe_callB (x := "len") (CallR.or call_len_seq call_lenD) hg hm PySem.boot_len (pa_cons ho pa_nil hst) (by decide) (by decide) hst (by rfl)) fun σ H Q ⟨H0, F0, F, own, E, KD, KX, r, q, k, x⟩ => by
    show tP X.K W wp σ H _
    refine ⟨H0, F0, F, own, E, _, KX, r, q, fun i π s v t hw hT hg F' H' u g w => ?_, x⟩
    obtain ⟨n, hn, hd⟩ := hw
    obtain ⟨fs, hT2⟩ := place_at (r.grow g) hT hg w
    cases s with
    | d _ => cases hn
    | hl _ => cases hn
    | nd p h ts =>
      obtain ⟨rfl, o, fp, ho, hh, ha, _⟩ := nd_at hT2
      cases h with
      | lst =>
        obtain ⟨xs, rfl⟩ := hh
        cases hn
        have hl : xs.length = ts.length := ha.len
        exact .inl ⟨p, xs, rfl, .inl (SqL.of ho), by rw [hl]; exact k _ hd F' H' _ g (Rp.int _)⟩
      | dk ks =>
        obtain ⟨ws, rfl, ek⟩ := hh
        subst ek
        cases hn
        refine .inr ⟨p, ws, rfl, ho, ?_⟩
        rw [List.length_map] at hd
        exact k _ hd F' H' _ g (Rp.int _)
      | _ => cases hn
/-- key in place -/
def wPIn (f : Bool → Bool) (wp : WP) (wk : WE) : WE := fun E KD KX => wk E (fun d => wp E (fun _ _ s => ∃ ky p ks ts, s = .nd p (.dk ks) ts ∧ d = keyD ky ∧ KD (.bool (f (kIdx ks ky).isSome))) KX) KX
theorem pin_rd {f : Bool → Bool} {σ : L2.St} {H : Hp} {Q : VK} (h : tJ .fz X.K W (wPIn f wp wk) σ H Q) :
    tJ .rd X.K W wk σ H fun y H1 => tP X.K W wp σ H1 fun x H2 => ∃ a o, x = .ref a ∧ DGet H2 a y o ∧ Q (.bl (f o.isSome)) H2 := by
  obtain ⟨H0, F0, F, own, E, KD, KX, r, q, k, x⟩ := h
  refine ⟨H0, F0, F, own, E, _, KX, r, q, fun d hd F' H' kv g rk => ⟨H0, F0, F', own, E, _, KX, r.grow g, hd, fun i π s v t ⟨ky, p, ks, ts, es, ed, hb⟩ hT hg F2 H2 u g2 w2 => ?_, fun c hc F2 H2 g2 => x c hc F2 H2 (g.trans g2)⟩, x⟩
  subst es ed
  have ekv := res_key rk
  subst ekv
  obtain ⟨w, o, fp, ho, ⟨ws, rfl, ek⟩, ha⟩ := node_at ((r.grow g).grow g2) hT hg
  rw [w2] at w; cases w
  subst ek
  refine ⟨p, valV ws ky, rfl, .inl ⟨ws, ky, .inl ho, rfl, rfl⟩, ?_⟩
  have e : (valV ws ky).isSome = (kIdx (ws.map (·.1)) ky).isSome := by
    cases e1 : kIdx (ws.map (·.1)) ky with
    | none => rw [val_idx_none e1]; rfl
    | some j =>
      obtain ⟨hj, _⟩ := kIdx_lt e1
      rw [val_idx e1 (List.getElem?_eq_getElem (by rw [List.length_map] at hj ⊢; exact hj))]; rfl
  rw [e]
  exact k _ hb F2 H2 _ (g.trans g2) (.bl _)
theorem j_pdin (hu : X.A.units + 65 < cLine) (ho : PJ X W e wp) (hk : J m1 X W ke wk) (hm : behindInMarks .In e = false := by with_unfolding_all rfl) : J .fz X W (.Compare ke [.In] [e] pos) (wPIn id wp wk) :=
  pe_imp (pe_cmp (pc_din (by omega) hk.rd ho) hm) fun _ _ _ h => pin_rd (f := id) h
theorem j_pdnotin (hu : X.A.units + 65 < cLine) (ho : PJ X W e wp) (hk : J m1 X W ke wk) (hm : behindInMarks .NotIn e = false := by with_unfolding_all rfl) : J .fz X W (.Compare ke [.NotIn] [e] pos) (wPIn (fun b => !b) wp wk) :=
  pe_imp (pe_cmp (pc_dnotin (by omega) hk.rd ho) hm) fun _ _ _ h => pin_rd (f := fun b => !b) h
theorem jt_pdin (hu : X.A.units + 65 < cLine) (ho : PJ X W e wp) (hk : J m1 X W ke wk) (hm : behindInMarks .In e = false := by with_unfolding_all rfl) : JT X W (.Compare ke [.In] [e] pos) (wT (wPIn id wp wk)) :=
  pt_imp (pt_cmp (pc_din (by omega) hk.rd ho) hm) (tb_of fun _ _ _ h => pin_rd (f := id) h)
theorem jt_pdnotin (hu : X.A.units + 65 < cLine) (ho : PJ X W e wp) (hk : J m1 X W ke wk) (hm : behindInMarks .NotIn e = false := by with_unfolding_all rfl) : JT X W (.Compare ke [.NotIn] [e] pos) (wT (wPIn (fun b => !b) wp wk)) :=
  pt_imp (pt_cmp (pc_dnotin (by omega) hk.rd ho) hm) (tb_of fun _ _ _ h => pin_rd (f := fun b => !b) h)
/-- a part of a list at a place: a new list of the same things -/
def hlT : Tr → Tr
  | .nd p _ _ => .hl (.ref p)
  | t => t
def leafs (ts : List Tr) : List Tr := ts.map hlT
theorem hl_ok {K : Frag} {F H : Hp} : ∀ {ts : List Tr} {vs : List V} {fp : List Addr}, TrAll K F H vs ts fp → TrAll K F H vs (leafs ts) []
  | [], _, _, h => by cases h; exact .nil
  | t :: ts, _, _, h => by
    cases h with
    | cons h1 h2 =>
      refine TrAll.cons (f1 := []) ?_ (hl_ok h2)
      cases h1 with
      | d r => exact .d r
      | hl => exact .hl
      | nd _ _ _ => exact .hl
theorem trAll_take {K : Frag} {F H : Hp} : ∀ (n : Nat) {ts : List Tr} {vs : List V}, TrAll K F H vs ts [] → TrAll K F H (vs.take n) (ts.take n) []
  | 0, _, _, _ => .nil
  | n + 1, [], _, h => by cases h; exact .nil
  | n + 1, t :: ts, _, h => by
    generalize ef : ([] : List Addr) = f at h
    cases h with
    | @cons v vs _ _ f1 f2 h1 h2 =>
      obtain ⟨e1, e2⟩ := List.append_eq_nil_iff.mp ef.symm
      subst e1 e2
      exact TrAll.cons (f1 := []) h1 (trAll_take n h2)
theorem trAll_drop {K : Frag} {F H : Hp} : ∀ (n : Nat) {ts : List Tr} {vs : List V}, TrAll K F H vs ts [] → TrAll K F H (vs.drop n) (ts.drop n) []
  | 0, _, _, h => h
  | n + 1, [], _, h => by cases h; exact .nil
  | n + 1, t :: ts, _, h => by
    generalize ef : ([] : List Addr) = f at h
    cases h with
    | @cons v vs _ _ f1 f2 h1 h2 =>
      obtain ⟨e1, e2⟩ := List.append_eq_nil_iff.mp ef.symm
      subst e1 e2
      exact trAll_drop n h2
def wESl (wp : WP) (wl wh : WO) : WEE := fun E KS KX => wp E (fun _ _ s => wl E (fun l => wh E (fun h => ∃ p ts, s = .nd p .lst ts ∧ ∀ q, KS (.tr (.ref q) (.nd q .lst (cut (leafs ts) l h))) E) (fun c => KX c E)) (fun c => KX c E)) (fun c => KX c E)
theorem ej_slP {lo hi : Option Expr} {wl wh : WO} (ho : PJ X W e wp) (hl : JO X W lo wl) (hh : JO X W hi wh) : EJ X W (.Subscript e (.Slice lo hi none p2) pos) (wESl wp wl wh) :=
  pe_imp (pe_slice sl_list ho hl hh) fun σ H Q ⟨H0, F0, F, own, E, KS, KX, r, q, k, x⟩ =>
    ⟨H0, F0, F, own, E, _, _, r, q, fun i π s v t hw hT hg F1 H1 u g1 w1 => ⟨H0, F0, F1, own, E, _, _, r.grow g1, hw, fun l hl F2 H2 g2 => ⟨H0, F0, F2, own, E, _, _, (r.grow g1).grow g2, hl, fun h ⟨p, ts, es, hk⟩ F3 H3 g3 => by
      subst es
      have r3 := ((r.grow g1).grow g2).grow g3
      have g13 := g1.trans (g2.trans g3)
      obtain ⟨w, o, fp, ho, ⟨xs, rfl⟩, ha⟩ := node_at r3 hT hg
      rw [walk_mono (g2.trans g3).h π w1] at w; cases w
      refine ⟨p, xs, rfl, SqL.of ho, fun z nz => ?_⟩
      have g4 : Grow F3 H3 F3 (upd H3 z (.lst (cutV xs l h))) := Grow.lay g3.fh nz
      have no : ∀ j, own z ≠ some j := fun j y => (r3.ow z j y).2.2 nz
      have hall : TrAll X.K F3 (upd H3 z (.lst (cutV xs l h))) (cutV xs l h) (cut (leafs ts) l h) [] := by
        have h0 := (hl_ok ha).mono (Same.refl _) (H' := upd H3 z (.lst (cutV xs l h))) (fun _ hp => nomatch hp)
        unfold cutV Tb.cut
        have el : (leafs ts).length = xs.length := by unfold leafs; rw [List.length_map]; exact ha.len.symm
        rw [el]
        exact trAll_take _ (trAll_drop _ h0)
      refine k _ E (hk z) F3 own _ _ [z] (r3.grow g4) (.grow (g13.trans g4)) ⟨⟨rfl, .nd upd_same ⟨_, rfl⟩ hall, by simp⟩, fun q hq => ?_, fun q hq => ?_, fun q hq => ?_⟩ fun q hq => ?_
      · rw [List.mem_singleton.mp hq]; exact none_of_same g3.fh nz
      · rw [List.mem_singleton.mp hq]; exact none_of_same r3.g.h nz
      · rw [List.mem_singleton.mp hq]; exact no
      · rw [List.mem_singleton.mp hq]; exact .inr (none_of_same g13.h nz),
      fun c hc F3 H3 g3 => x c E hc F3 own H3 (((r.grow g1).grow g2).grow g3) (.grow ((g1.trans g2).trans g3))⟩, fun c hc F2 H2 g2 => x c E hc F2 own H2 ((r.grow g1).grow g2) (.grow (g1.trans g2))⟩, fun c hc F' H' g => x c E hc F' own H' (r.grow g) (.grow g)⟩
end
end
end Tb

set_option Elab.async false
set_option linter.all false
set_option maxRecDepth 100000
set_option maxHeartbeats 2000000
/-! ### places changed; new dicts; walks over things -/
namespace Tb
section
open PySem PySem.Spec L2
section
variable {X : Cx} {W : WX} {a b c e e2 e3 xe ke tg : Expr} {es : List Expr} {pos p p2 : Pos} {m ma mb m1 m2 : Mo} {we we2 wa wb wk wo : WE} {ee : WEE} {wp : WP} {E : List Sl} {KD : D → Prop} {KX : Str → Prop} {sts : List Stmt} {w : WSS}
/-- place.append(e) -/
def wPAppE (wp : WP) (ee : WEE) : WSS := fun C E => wp E (fun i π s => ∃ p ts, s = .nd p .lst ts ∧ ee E (fun s' E' => ∃ c, asT s' = some c ∧ ∃ v t ts', E'[i]? = some (.tr v t) ∧ t.get π = some (.nd p .lst ts') ∧ ts'.length < sizeLine ∧
  C.nx (E'.set i (.tr v (t.put π (.nd p .lst (ts' ++ [c])))))) (fun c E' => C.ex c E')) (fun c => C.ex c E)
theorem t_papp {apos cpos : Pos} (hx : PJ X W xe wp) (he : EJ X W e ee)
    (hs : swapsWith (.Call (.Attribute xe "append" apos) [e] [] cpos) none pos.line X.env = pure false := by rfl)
    (hbase : attributeBase xe "append" X.env (eval xe X.env) = eval xe X.env := by rfl)
    (hfew : ((backTo cpos (starEach [e] X.env)).all (fun x => !x.1) && (backToKw cpos (keywordEach [] X.env)).all (fun x => x.1.isSome)
      && decide ([e].length + ([] : List Keyword).length + (if ([] : List Keyword).isEmpty then 0 else 1) < 30)) = true := by rfl)
    (hline : (apos.endLine == cpos.line) = true := by rfl) (hst : starEach [e] X.env = (false, eval e X.env) :: starEach [] X.env := by rfl) :
    T1 X W (.Expr (.Call (.Attribute xe "append" apos) [e] [] cpos) pos) (wPAppE wp ee) :=
  ps_imp (ps_expr (pe_bm PySem.F.plainAttrs_list PySem.F.slot_list_append PySem.F.type_list_append mt_append hx (pa_cons he pa_nil hst) hbase hfew hline hst rfl) hs) fun DD σ H ⟨H0, F0, F, own, E, C, r, q, kn, kb, kc, kr, kx⟩ =>
    ⟨H0, F0, F, own, E, _, _, r, q, fun i π s v t ⟨p, ts, es, hw⟩ hT hg F1 H1 u g1 w1 => by
      subst es
      have r1 := r.grow g1
      obtain ⟨w, o, fp, ho, ⟨xs, rfl⟩, ha⟩ := node_at r1 hT hg
      rw [w1] at w; cases w
      refine ⟨.inl ⟨rfl, xs, SqL.of ho⟩, H0, F0, F1, own, E, _, _, r1, hw, fun s' E' ⟨c, hc, v', t', ts', e1, e2, hl, hn⟩ F2 own2 H2 cv fc r2 ef fl pv => ?_, fun c E' hc F2 own2 H2 r2 ef => kx c _ _ _ _ _ r2 hc⟩
      obtain ⟨_, o2, fp2, ho2, ⟨xs2, rfl⟩, ha2⟩ := node_at r2 e1 e2
      obtain ⟨own', r3⟩ := Rel.chgT (h' := .lst) (o' := .lst (xs2 ++ [cv])) (ts' := ts' ++ [c]) r2 e1 e2 ho2 ⟨_, rfl⟩ fun fp0 hall np n0 o0 op =>
        kid_new hall np n0 o0 op (asT_ok hc fl.o) fl.o.nodup fl.f fl.h fl.n
      have hlx : xs2.length = ts'.length := ha2.len
      exact ⟨p, xs2, cv, rfl, rfl, ho2, by rw [hlx]; exact hl, kn _ _ _ _ _ r3 hn⟩, fun c hc F' H' g => kx c _ _ _ _ _ (r.grow g) hc⟩
/-- place[k] = e -/
def dputT (ks : List Key) (ts : List Tr) (ky : Key) (c : Tr) : List Key × List Tr := match kIdx ks ky with
  | some j => (ks, ts.set j c)
  | none => (ks ++ [ky], ts ++ [c])
def wPDput (wp : WP) (wk : WE) (ee : WEE) : WSS := fun C E => ee E (fun s E1 => ∃ c, asT s = some c ∧ wp E1 (fun i π pl => wk E1 (fun kd => ∃ ky p ks ts v t, kd = keyD ky ∧ pl = .nd p (.dk ks) ts ∧ ks.Nodup ∧ ks.length < sizeLine ∧ E1[i]? = some (.tr v t) ∧
  C.nx (E1.set i (.tr v (t.put π (.nd p (.dk (dputT ks ts ky c).1) (dputT ks ts ky c).2))))) (fun c => C.ex c E1)) (fun c => C.ex c E1)) (fun c E1 => C.ex c E1)
theorem putK_some {ws : List (Key × V)} {k : Key} {j : Nat} {v : V} (hn : (ws.map (·.1)).Nodup) (h : kIdx (ws.map (·.1)) k = some j) : putK ws k v = ws.set j (k, v) := by
  have hs : (ws.any fun kv => decide (kv.1 = k)) = true := by
    obtain ⟨hj, e⟩ := kIdx_lt h
    rw [List.any_eq_true]
    rw [List.length_map] at hj
    exact ⟨ws[j], List.getElem_mem hj, by rw [List.getElem_map] at e; exact decide_eq_true e⟩
  unfold putK
  rw [if_pos hs]
  clear hs
  induction ws generalizing j with
  | nil => simp [kIdx] at h
  | cons p ws ih =>
    rw [List.map_cons] at hn
    obtain ⟨n1, n2⟩ := List.nodup_cons.mp hn
    unfold kIdx at h
    rw [List.map_cons, List.findIdx?_cons] at h
    by_cases hb : p.1 = k
    · rw [decide_eq_true hb] at h
      simp only [if_true] at h
      cases h
      rw [List.map_cons, if_pos hb, List.set_cons_zero, hb]
      congr 1
      have : ∀ q ∈ ws, (if q.1 = k then (q.1, v) else q) = q := fun q hq => by
        rw [if_neg (fun z => n1 (by rw [hb, ← z]; exact List.mem_map_of_mem hq))]
      rw [List.map_congr_left this, List.map_id']
    · rw [decide_eq_false hb] at h
      simp only [Bool.false_eq_true, if_false, Option.map_eq_some_iff] at h
      obtain ⟨i, h1, rfl⟩ := h
      rw [List.map_cons, if_neg hb, List.set_cons_succ, ih n2 h1]
theorem putK_none {ws : List (Key × V)} {k : Key} {v : V} (h : kIdx (ws.map (·.1)) k = none) : putK ws k v = ws ++ [(k, v)] := by
  unfold putK
  rw [valV_any, val_idx_none h]
  rfl
theorem dputT_len {ks : List Key} {ts : List Tr} {ky : Key} {c : Tr} (h : ks.length = ts.length) : (dputT ks ts ky c).1.length = (dputT ks ts ky c).2.length := by
  unfold dputT
  split
  · rw [List.length_set]; exact h
  · rw [List.length_append, List.length_append, h]; rfl
theorem t_pdput (hu : X.A.units + 65 < cLine) {xe ke : Expr} {pos' : Pos} (hx : PJ X W xe wp) (hk : J m1 X W ke wk) (he : EJ X W e ee)
    (hs : swapsWith e (some (.Subscript xe ke pos')) pos.line X.env = pure false := by rfl) : T1 X W (.Assign [.Subscript xe ke pos'] e pos) (wPDput wp wk ee) :=
  ps_imp (ps_dput (by omega) hx hk.rd he hs) fun DD σ H ⟨H0, F0, F, own, E, C, r, q, kn, kb, kc, kr, kx⟩ =>
    ⟨H0, F0, F, own, E, _, _, r, q, fun s E1 ⟨c, hc, hw⟩ F1 own1 H1 cv fc r1 ef1 fl pv => ⟨H0, F0, F1, own1, E1, _, _, r1, hw, fun i π pl v t hw2 hT hg F2 H2 u g2 w2 => ⟨H0, F0, F2, own1, E1, _, _, r1.grow g2, hw2, fun kd ⟨ky, p, ks, ts, v', t', ek, es, hnd, hl, ei, hn⟩ F3 H3 kv g3 rk => by
      rw [hT] at ei
      cases ei
      subst ek es
      have ekv := res_key rk
      subst ekv
      have g23 := g2.trans g3
      have r3 := r1.grow g23
      have fl3 := fl.eff (.grow (own := own1) g23)
      obtain ⟨w, o, fp, ho, ⟨ws, rfl, ek⟩, ha⟩ := node_at r3 hT hg
      rw [walk_mono g3.h π w2] at w; cases w
      subst ek
      have hlw : ws.length = ts.length := by have := ha.len; simpa [kids] using this
      refine ⟨p, _, rfl, DPut.k ho (by rw [List.length_map] at hl; exact hl), ?_⟩
      obtain ⟨own', r4⟩ := Rel.chgT (h' := .dk (dputT (ws.map (·.1)) ts ky c).1) (o' := .dK (putK ws ky cv)) (ts' := (dputT (ws.map (·.1)) ts ky c).2) r3 hT hg ho ⟨_, rfl, by
          cases hi : kIdx (ws.map (·.1)) ky with
          | some j =>
            rw [putK_some hnd hi]
            unfold dputT
            rw [hi]
            obtain ⟨hj, ej⟩ := kIdx_lt hi
            rw [List.map_set]
            apply List.ext_getElem?
            intro n
            by_cases hnj : j = n
            · subst hnj
              rw [List.getElem?_set_self hj, List.getElem?_eq_getElem hj, ej]
            · rw [List.getElem?_set_ne hnj]
          | none =>
            rw [putK_none hi]
            unfold dputT
            rw [hi, List.map_append]; rfl⟩ fun fp0 hall np n0 o0 op => by
        cases hi : kIdx (ws.map (·.1)) ky with
        | some j =>
          obtain ⟨hj, ej⟩ := kIdx_lt hi
          have e1 : kids (.dK (putK ws ky cv)) = (ws.map (·.2)).set j cv := by
            rw [putK_some hnd hi]; show (ws.set j (ky, cv)).map (·.2) = _
            rw [List.map_set]
          have e2 : (dputT (ws.map (·.1)) ts ky c).2 = ts.set j c := by unfold dputT; rw [hi]
          rw [e1, e2]
          have hjt : j < ts.length := by rw [List.length_map] at hj; omega
          exact kid_set (List.getElem?_eq_getElem hjt) hall np n0 o0 op (asT_ok hc fl3.o) fl3.o.nodup fl3.f fl3.h fl3.n
        | none =>
          have e1 : kids (.dK (putK ws ky cv)) = ws.map (·.2) ++ [cv] := by
            rw [putK_none hi]; show (ws ++ [(ky, cv)]).map (·.2) = _
            rw [List.map_append]; rfl
          have e2 : (dputT (ws.map (·.1)) ts ky c).2 = ts ++ [c] := by unfold dputT; rw [hi]
          rw [e1, e2]
          exact kid_new hall np n0 o0 op (asT_ok hc fl3.o) fl3.o.nodup fl3.f fl3.h fl3.n
      exact kn _ _ _ _ _ r4 hn, fun c hc F3 H3 g3 => kx c _ _ _ _ _ ((r1.grow g2).grow g3) hc⟩, fun c hc F2 H2 g2 => kx c _ _ _ _ _ (r1.grow g2) hc⟩, fun c E1 hc F1 own1 H1 r1 ef => kx c _ _ _ _ _ r1 hc⟩
/-- place.f = e -/
def fputT (ns : List Str) (ts : List Tr) (f : Str) (c : Tr) : List Str × List Tr := match ns.findIdx? (fun g => g == f) with
  | some j => (ns, ts.set j c)
  | none => (ns ++ [f], ts ++ [c])
def wFldE (wp : WP) (f cn : Str) (ee : WEE) : WSS := fun C E => ee E (fun s E1 => ∃ c, asT s = some c ∧ wp E1 (fun i π pl => ∃ p ns ts v t, pl = .nd p (.ob cn ns) ts ∧ ns.length < 1000 ∧ E1[i]? = some (.tr v t) ∧
  C.nx (E1.set i (.tr v (t.put π (.nd p (.ob cn (fputT ns ts f c).1) (fputT ns ts f c).2))))) (fun c => C.ex c E1)) (fun c E1 => C.ex c E1)
theorem putF_some {f : Str} {v : V} : ∀ {fs : List (Str × V)} {j : Nat}, (fs.map (·.1)).findIdx? (fun g => g == f) = some j → (putF f v fs).map (·.1) = fs.map (·.1) ∧ (putF f v fs).map (·.2) = (fs.map (·.2)).set j v
  | [], _, h => by simp at h
  | (g, x) :: fs, j, h => by
    rw [List.map_cons, List.findIdx?_cons] at h
    unfold putF
    by_cases hb : g = f
    · rw [if_pos hb]
      have : (g == f) = true := beq_iff_eq.mpr hb
      dsimp only at h
      rw [this] at h
      simp only [if_true] at h
      cases h
      exact ⟨rfl, rfl⟩
    · rw [if_neg hb]
      have : (g == f) = false := by rw [beq_eq_false_iff_ne]; exact hb
      dsimp only at h
      rw [this] at h
      simp only [Bool.false_eq_true, if_false, Option.map_eq_some_iff] at h
      obtain ⟨i, h1, rfl⟩ := h
      obtain ⟨a, b⟩ := putF_some (v := v) h1
      exact ⟨by rw [List.map_cons, a]; rfl, by rw [List.map_cons, b]; rfl⟩
theorem putF_none {f : Str} {v : V} : ∀ {fs : List (Str × V)}, (fs.map (·.1)).findIdx? (fun g => g == f) = none → putF f v fs = fs ++ [(f, v)]
  | [], h => rfl
  | (g, x) :: fs, h => by
    rw [List.map_cons, List.findIdx?_cons] at h
    unfold putF
    by_cases hb : g = f
    · have : (g == f) = true := beq_iff_eq.mpr hb
      dsimp only at h
      rw [this] at h; simp at h
    · rw [if_neg hb]
      have : (g == f) = false := by rw [beq_eq_false_iff_ne]; exact hb
      dsimp only at h
      rw [this] at h
      simp only [Bool.false_eq_true, if_false, Option.map_eq_none_iff] at h
      rw [putF_none h]; rfl
theorem t_fld {xe : Expr} {f cn : Str} {pos' : Pos} (hx : PJ X W xe wp) (he : EJ X W e ee) (hna : NoAttr X.K (cA X.K cn) f)
    (hs : swapsWith e (some (.Attribute xe f pos')) pos.line X.env = pure false := by rfl) : T1 X W (.Assign [.Attribute xe f pos'] e pos) (wFldE wp f cn ee) :=
  ps_imp (ps_fld hx he hs) fun DD σ H ⟨H0, F0, F, own, E, C, r, q, kn, kb, kc, kr, kx⟩ =>
    ⟨H0, F0, F, own, E, _, _, r, q, fun s E1 ⟨c, hc, hw⟩ F1 own1 H1 cv fc r1 ef1 fl pv => ⟨H0, F0, F1, own1, E1, _, _, r1, hw, fun i π pl v t ⟨p, ns, ts, v', t', es, hl, ei, hn⟩ hT hg F2 H2 u g2 w2 => by
      rw [hT] at ei
      cases ei
      subst es
      have r2 := r1.grow g2
      have fl2 := fl.eff (.grow (own := own1) g2)
      obtain ⟨w, o, fp, ho, ⟨ic, na, dx, fs, rfl, ens⟩, ha⟩ := node_at r2 hT hg
      rw [w2] at w; cases w
      subst ens
      refine ⟨p, _, dx, fs, rfl, ho, ic.cl, hna, by rw [List.length_map] at hl; exact hl, ?_⟩
      have hlw : fs.length = ts.length := by have := ha.len; simpa [kids] using this
      obtain ⟨own', r4⟩ := Rel.chgT (h' := .ob cn (fputT (fs.map (·.1)) ts f c).1) (o' := .ins (cA X.K cn) dx (putF f cv fs)) (ts' := (fputT (fs.map (·.1)) ts f c).2) r2 hT hg ho (by
          cases hi : (fs.map (·.1)).findIdx? (fun g => g == f) with
          | some j =>
            have e1 : (fputT (fs.map (·.1)) ts f c).1 = fs.map (·.1) := by unfold fputT; rw [hi]
            rw [e1]
            exact ⟨ic, na, dx, _, rfl, (putF_some hi).1⟩
          | none =>
            have e1 : (fputT (fs.map (·.1)) ts f c).1 = fs.map (·.1) ++ [f] := by unfold fputT; rw [hi]
            rw [e1]
            refine ⟨ic, fun g hg => ?_, dx, _, rfl, by rw [putF_none hi, List.map_append]; rfl⟩
            rcases List.mem_append.mp hg with hg | hg
            · exact na g hg
            · rw [List.mem_singleton.mp hg]; exact hna) fun fp0 hall np n0 o0 op => by
        cases hi : (fs.map (·.1)).findIdx? (fun g => g == f) with
        | some j =>
          have e1 : kids (.ins (cA X.K cn) dx (putF f cv fs)) = (fs.map (·.2)).set j cv := (putF_some hi).2
          have e2 : (fputT (fs.map (·.1)) ts f c).2 = ts.set j c := by unfold fputT; rw [hi]
          rw [e1, e2]
          have hjt : j < ts.length := by
            rw [List.findIdx?_eq_some_iff_getElem] at hi
            obtain ⟨h1, _⟩ := hi
            rw [List.length_map] at h1; omega
          exact kid_set (List.getElem?_eq_getElem hjt) hall np n0 o0 op (asT_ok hc fl2.o) fl2.o.nodup fl2.f fl2.h fl2.n
        | none =>
          have e1 : kids (.ins (cA X.K cn) dx (putF f cv fs)) = fs.map (·.2) ++ [cv] := by
            rw [putF_none hi]; show (fs ++ [(f, cv)]).map (·.2) = _
            rw [List.map_append]; rfl
          have e2 : (fputT (fs.map (·.1)) ts f c).2 = ts ++ [c] := by unfold fputT; rw [hi]
          rw [e1, e2]
          exact kid_new hall np n0 o0 op (asT_ok hc fl2.o) fl2.o.nodup fl2.f fl2.h fl2.n
      exact kn _ _ _ _ _ r4 hn, fun c hc F2 H2 g2 => kx c _ _ _ _ _ (r1.grow g2) hc⟩, fun c E1 hc F1 own1 H1 r1 ef => kx c _ _ _ _ _ r1 hc⟩
/-- xs.extend(e), xs a list of one's own -/
def wExtE (i : Nat) (ee : WEE) : WSS := fun C E => owS E[i]? (fun _ => ee E (fun s E' => owS E'[i]? fun ds => ∃ es, (s = .ow es ∨ s = .fr (.list es)) ∧ ds.length + es.length ≤ sizeLine ∧ C.nx (E'.set i (.ow (ds ++ es)))) (fun c E' => C.ex c E'))
theorem owS_ex {o : Option Sl} {k : List D → Prop} (h : owS o k) : ∃ ds, o = some (.ow ds) ∧ k ds := by
  cases o with
  | none => exact h.elim
  | some s => cases s with
    | ow ds => exact ⟨ds, rfl, h⟩
    | _ => exact h.elim
theorem t_ext {i : Nat} {xe : Expr} {apos cpos : Pos} (hx : PE X xe (tVar i)) (he : EJ X W e ee)
    (hs : swapsWith (.Call (.Attribute xe "extend" apos) [e] [] cpos) none pos.line X.env = pure false := by rfl)
    (hbase : attributeBase xe "extend" X.env (eval xe X.env) = eval xe X.env := by rfl)
    (hfew : ((backTo cpos (starEach [e] X.env)).all (fun x => !x.1) && (backToKw cpos (keywordEach [] X.env)).all (fun x => x.1.isSome)
      && decide ([e].length + ([] : List Keyword).length + (if ([] : List Keyword).isEmpty then 0 else 1) < 30)) = true := by rfl)
    (hline : (apos.endLine == cpos.line) = true := by rfl) (hst : starEach [e] X.env = (false, eval e X.env) :: starEach [] X.env := by rfl) :
    T1 X W (.Expr (.Call (.Attribute xe "extend" apos) [e] [] cpos) pos) (wExtE i ee) :=
  ps_imp (ps_expr (pe_bm PySem.F.plainAttrs_list PySem.F.slot_list_extend PySem.F.type_list_extend mt_extend hx (pa_cons he pa_nil hst) hbase hfew hline hst rfl) hs) fun DD σ H ⟨H0, F0, F, own, E, C, r, q, kn, kb, kc, kr, kx⟩ => by
    obtain ⟨ds, ed, q⟩ := owS_ex q
    obtain ⟨p, vs, e1, e2, e3, ra, e4⟩ := ow_at r ed
    refine ⟨_, e1, .inl ⟨rfl, vs, SqL.of e3⟩, H0, F0, F, own, E, _, _, r, q, fun s E' hk F' own' H' v fp r' ef fl pv => ?_, fun c E' hc F' own' H' r' ef => kx c _ _ _ _ _ r' hc⟩
    obtain ⟨ds', ed', es, eq, hl, hd⟩ := owS_ex hk
    obtain ⟨p', vs', e1', e2', e3', ra', e4'⟩ := ow_at r' ed'
    rw [e1] at e1'
    have epp : p = p' := by
      have := Option.some.inj (Option.some.inj e1')
      cases this; rfl
    subst epp
    have : ∃ p2 vs2, v = .ref p2 ∧ H' p2 = some (.lst vs2) ∧ RpAll X.K F' vs2 es := by
      rcases eq with rfl | rfl
      · obtain ⟨p2, vs2, ev, _, h2, ra2⟩ := fl.o
        exact ⟨p2, vs2, ev, h2, ra2⟩
      · have rp : Rp X.K F' v (.list es) := fl.o.2
        cases rp with
        | lst h1 h2 => exact ⟨_, _, rfl, r'.g.fh _ _ h1, h2⟩
    obtain ⟨p2, vs2, rfl, h2, ra2⟩ := this
    exact ⟨p, p2, vs', vs2, rfl, rfl, e3', h2, by rw [ra'.len, ra2.len]; exact hl, kn _ _ _ _ _ (ow_chg r' e4' e2' (ra'.append ra2)) hd⟩
/-- xs.pop() as a value -/
def wEpop (i : Nat) : WEE := fun E KS _ => owS E[i]? fun ds => ∃ d, ds[ds.length - 1]? = some d ∧ KS (.fr d) (E.set i (.ow ds.dropLast))
theorem ej_pop {i : Nat} {xe : Expr} {apos cpos : Pos} (hx : PE X xe (tVar i))
    (hbase : attributeBase xe "pop" X.env (eval xe X.env) = eval xe X.env := by rfl) (hline : (apos.endLine == cpos.line) = true := by rfl) : EJ X W (.Call (.Attribute xe "pop" apos) [] [] cpos) (wEpop i) :=
  pe_imp (pe_bm0 PySem.F.plainAttrs_list PySem.F.slot_list_pop PySem.F.type_list_pop mt_pop hx hbase hline) fun σ H Q ⟨H0, F0, F, own, E, KS, KX, r, q, k, x⟩ => by
    obtain ⟨ds, ed, d, hy, q⟩ := owS_ex q
    obtain ⟨p, vs, e1, e2, e3, ra, e4⟩ := ow_at r ed
    obtain ⟨yv, hyv, ry⟩ := ra.get hy
    refine ⟨_, e1, .inl ⟨rfl, vs, SqL.of e3⟩, p, vs, yv, rfl, rfl, e3, by rw [ra.len]; exact hyv, k _ _ q F own _ yv [] (ow_chg r e4 e2 (rpAll_dropLast ra)) ⟨Same.refl _, fun b o h n => ⟨?_, n, fun z => z⟩⟩ (fly_fr ry) prov_nil⟩
    rw [upd_ne (fun z => n i (by rw [z]; exact e2))]; exact h
/-- a, b = e -/
def wSetPE (pt : Pt) (ee : WEE) : WSS := fun C E => ee E (fun s E' => ∃ d, s = .fr d ∧ pt.up d E' C.nx) (fun c E' => C.ex c E')
theorem t_setP {pt : Pt} (he : EJ X W e ee) (hg : PG X tg (pt.g X.K)) (hs : swapsWithSole [tg] e pos.line X.env = pure false := by rfl) (hw : swappedStores [tg] e X.env = pure none := by rfl)
    (h1 : (assignEach [tg] X.env).map (·.2) = [assign tg X.env] := by rfl) : T1 X W (.Assign [tg] e pos) (wSetPE pt ee) :=
  ps_imp (ps_asg he hg hs hw h1) fun DD σ H ⟨H0, F0, F, own, E, C, r, q, kn, kb, kc, kr, kx⟩ =>
    ⟨H0, F0, F, own, E, _, _, r, q, fun s E' ⟨d, es, hd⟩ F' own' H' v fp r' ef fl pv => by
      subst es
      exact pt.run r' fl.o.2 hd fun own' E' vs r' h => kn _ _ _ _ _ r' h, fun c E' hc F' own' H' r' ef => kx c _ _ _ _ _ r' hc⟩
/-- {} and {k: e} as trees -/
def wEd0 : WEE := fun E KS _ => ∀ p, KS (.tr (.ref p) (.nd p (.dk []) [])) E
theorem fly_new {K : Frag} {H0 F0 F H : Hp} {own : Own} {E : List Sl} {σ : L2.St} {q : Addr} {o : HO} {h : Hn} {ts : List Tr} (r : Rel K H0 F0 F own E σ H) (nq : H q = none) (hn : HnOk K h o) (ha : TrAll K F (upd H q o) (kids o) ts []) :
    Fly K H0 F (upd H q o) own (.tr (.ref q) (.nd q h ts)) (.ref q) [q] ∧ Prov own H [q] :=
  ⟨⟨⟨rfl, .nd upd_same hn ha, by simp⟩, fun a ha => by rw [List.mem_singleton.mp ha]; exact none_of_same r.g.fh nq, fun a ha => by rw [List.mem_singleton.mp ha]; exact none_of_same r.g.h nq, fun a ha => by rw [List.mem_singleton.mp ha]; exact fun j z => (r.ow q j z).2.2 nq⟩,
    fun a ha => by rw [List.mem_singleton.mp ha]; exact .inr nq⟩
theorem ej_dict0 : EJ X W (.Dict [] [] pos) wEd0 := pe_imp pe_dnewK fun σ H Q ⟨H0, F0, F, own, E, KS, KX, r, q, k, x⟩ q0 nq => by
  have g : Grow F H F (upd H q0 (.dK [])) := Grow.lay r.g.fh nq
  obtain ⟨f1, f2⟩ := fly_new (h := .dk []) (ts := []) r nq ⟨[], rfl, rfl⟩ .nil
  exact k _ E (q q0) F own _ _ [q0] (r.grow g) (.grow g) f1 f2
def wEd1 (wk we : WE) : WEE := fun E KS KX => wk E (fun k => we E (fun d => ∃ ky, k = keyD ky ∧ ∀ p, KS (.tr (.ref p) (.nd p (.dk [ky]) [.d d])) E) (fun c => KX c E)) (fun c => KX c E)
theorem ej_dict1 (hk : J m1 X W ke wk) (he : J .fz X W e we) : EJ X W (.Dict [some ke] [e] pos) (wEd1 wk we) :=
  pe_imp (pe_disp (pps_cons hk.rd he pps_nil) rfl rfl (by simp) (by simp)) fun σ H Q ⟨H0, F0, F, own, E, KS, KX, r, q, kk, x⟩ q0 nq => by
    have g0 : Grow F H F (upd H q0 (.dK [])) := Grow.lay r.g.fh nq
    have nF := none_of_same r.g.fh nq
    refine ⟨H0, F0, F, own, E, _, _, r.grow g0, q, fun k hk1 F1 H1 kv g1 rk => ⟨H0, F0, F1, own, E, _, _, (r.grow g0).grow g1, hk1, fun d ⟨ky, ek, hd⟩ F2 H2 v g2 rv => ?_, fun c hc F2 H2 g2 => x c E hc F2 own H2 (((r.grow g0).grow g1).grow g2) (.grow ((g0.trans g1).trans g2))⟩, fun c hc F1 H1 g1 => x c E hc F1 own H1 ((r.grow g0).grow g1) (.grow (g0.trans g1))⟩
    subst ek
    have ekv := res_key rk
    subst ekv
    have g12 := g1.trans g2
    have eq0 : H2 q0 = some (.dK []) := g12.h _ _ upd_same
    have nF2 : F2 q0 = none := by
      cases z : F2 q0 with
      | none => rfl
      | some u =>
        rcases g12.new q0 (by rw [z]; simp) with w | w
        · exact absurd nF w
        · rw [upd_same] at w; cases w
    refine ⟨eq0, [(ky, v)], rfl, by simp, ?_⟩
    have no : ∀ j, own q0 ≠ some j := fun j z => (r.ow q0 j z).2.2 nq
    have r2 := ((r.grow g0).grow g12).poke (o := .dK (mergeK [] [(ky, v)])) nF2 (none_of_same r.g.h nq) no
    have g02 := g0.trans g12
    refine kk _ E (hd q0) F2 own _ _ [q0] r2 ⟨g02.f, fun b o h n => ?_⟩ ⟨⟨rfl, .nd upd_same ⟨_, rfl, rfl⟩ (TrAll.cons (f1 := []) (.d rv) .nil), by simp⟩, fun a ha => by rw [List.mem_singleton.mp ha]; exact nF2, fun a ha => by rw [List.mem_singleton.mp ha]; exact none_of_same r.g.h nq, fun a ha => by rw [List.mem_singleton.mp ha]; exact no⟩ (fun a ha => by rw [List.mem_singleton.mp ha]; exact .inr nq)
    have hb : b ≠ q0 := ne_of_none h nq
    exact ⟨by rw [upd_ne hb]; exact g02.h _ _ h, n, fun z => ((Eff.grow (own := own) g02).keep b o h n).2.2 z⟩
/-! walks over things that are someone's -/
abbrev WIR := List Sl → (List Sl → List Sl → Prop) → (Str → List Sl → Prop) → Prop
def ItOkR (K : Frag) (H0 F1 : Hp) (I : It) (ss : List Sl) : Prop := ∀ F H, Same F1 F → Same F H → Same H0 H →
  (∀ i s, ss[i]? = some s → I.go i H ∧ ∀ x H', I.yld i H x H' → ∃ F', Grow F H F' H' ∧ OwnS K F' H' s x []) ∧ I.stop ss.length H
def tIR (K : Frag) (W : WX) (w : WIR) : TI := fun σ H R => ∃ H0 F0 F own E KI KX, Rel K H0 F0 F own E σ H ∧ w E KI KX ∧
  (∀ ss E', KI ss E' → ∀ F' own' H' I, Rel K H0 F0 F' own' E' σ H' → Eff F own H F' own' H' → ItOkR K H0 F' I ss → R I H') ∧ (∀ c E', KX c E' → ∀ F' own' H', Rel K H0 F0 F' own' E' σ H' → Eff F own H F' own' H' → W (.ref (cA K c)) none σ H')
def IR (X : Cx) (W : WX) (tg e : Expr) (w : WIR) : Prop := PI X tg e (tIR X.K W w)
def leafB : Tr → Bool
  | .nd _ _ _ => false
  | _ => true
def wIRn (ee : WEE) : WIR := fun E KI KX => ee E (fun s E' => ∃ q ts, s = .tr (.ref q) (.nd q .lst ts) ∧ (ts.all leafB) = true ∧ KI (ts.map rawS) E') KX
theorem leaf_at {K : Frag} {F H : Hp} : ∀ {ts : List Tr} {vs : List V} {fp : List Addr}, TrAll K F H vs ts fp → (ts.all leafB) = true → ∀ {i : Nat} {t : Tr}, ts[i]? = some t → ∃ v, vs[i]? = some v ∧ ∀ F' H', Same F F' → OwnS K F' H' (rawS t) v []
  | [], _, _, _, _, _, _, e => by simp at e
  | t :: ts, _, _, .cons h1 h2, hl, 0, t', e => by
    simp only [List.getElem?_cons_zero, Option.some.injEq] at e
    subst e
    rw [List.all_cons, Bool.and_eq_true] at hl
    refine ⟨_, rfl, fun F' H' s => ?_⟩
    cases h1 with
    | d r => exact ⟨rfl, Rp.mono s _ _ r⟩
    | hl => exact ⟨rfl, .hl, List.nodup_nil⟩
    | nd _ _ _ => cases hl.1
  | t :: ts, _, _, .cons h1 h2, hl, i + 1, t', e => by
    rw [List.all_cons, Bool.and_eq_true] at hl
    simp only [List.getElem?_cons_succ] at e
    obtain ⟨v, e1, e2⟩ := leaf_at h2 hl.2 e
    exact ⟨v, by simpa using e1, e2⟩
theorem Rel.freezeFly {K : Frag} {H0 F0 F H : Hp} {own : Own} {E : List Sl} {σ : L2.St} {q : Addr} {o : HO} (r : Rel K H0 F0 F own E σ H) (nf : F q = none) (nh : H0 q = none) (no : ∀ j, own q ≠ some j) (e : H q = some o) : Rel K H0 F0 (upd F q o) own E σ H := by
  refine ⟨r.len, ⟨r.g.f.trans (same_upd nf), r.g.h, fun b x z => ?_, fun a z => ?_⟩, fun a i z => ?_, fun i s z => (r.sl i s z).stay (same_upd nf) (Same.refl _) (fun _ _ _ w => w) fun _ w => w⟩
  · by_cases hb : b = q
    · subst hb; rw [upd_same] at z; rw [e]; exact z
    · rw [upd_ne hb] at z; exact r.g.fh _ _ z
  · by_cases hb : a = q
    · subst hb; exact .inr nh
    · rw [upd_ne hb] at z; exact r.g.new _ z
  · obtain ⟨y1, y2, y3⟩ := r.ow a i z
    exact ⟨by rw [upd_ne (fun w => no i (by rw [← w]; exact z))]; exact y1, y2, y3⟩
theorem ir_new (he : EJ X W e ee) : IR X W tg e (wIRn ee) := pi_imp (pi_list he) fun σ H R ⟨H0, F0, F, own, E, KI, KX, r, q, k, x⟩ =>
  ⟨H0, F0, F, own, E, _, KX, r, q, fun s E' ⟨z, ts, es, hl, hk⟩ F' own' H' v fp r' ef fl pv => by
    subst es
    obtain ⟨ev, hT, _⟩ := fl.o
    subst ev
    obtain ⟨_, o, fp2, ho, ⟨xs, rfl⟩, ha, efp⟩ := nd_at hT
    have hz : z ∈ fp := by rw [efp]; exact List.mem_cons_self
    refine ⟨z, rfl, ⟨xs, SqL.of ho⟩, k _ E' hk (upd F' z (.lst xs)) own' H' _ (r'.freezeFly (fl.f z hz) (fl.h z hz) (fl.n z hz) ho) ⟨ef.f.trans (same_upd (fl.f z hz)), fun b o2 h n => ?_⟩ fun F2 H2 s1 s2 s3 => ?_⟩
    · obtain ⟨a1, a2, a3⟩ := ef.keep b o2 h n
      refine ⟨a1, a2, fun w => ?_⟩
      have : b ≠ z := fun w2 => by
        rcases pv z hz with ⟨j, y⟩ | y
        · exact n j (by rw [w2]; exact y)
        · rw [w2, y] at h; cases h
      rw [upd_ne this]; exact a3 w
    · have sq : SqL X.K H2 z xs := SqL.of (s2 _ _ (s1 _ _ upd_same))
      refine ⟨fun i s e => ?_, ⟨xs, sq, ?_⟩⟩
      · rw [List.getElem?_map] at e
        cases et : ts[i]? with
        | none => rw [et] at e; cases e
        | some t =>
          rw [et] at e
          cases e
          obtain ⟨u, eu, ok⟩ := leaf_at ha hl et
          refine ⟨⟨xs, u, sq, eu⟩, fun y H3 ⟨eH, hy⟩ => ?_⟩
          subst eH
          have ex := hy xs sq
          have eu' : xs[i]? = some u := eu
          rw [eu'] at ex
          cases ex
          exact ⟨F2, Grow.refl s2, ok F2 _ ((same_upd (fl.f z hz)).trans s1)⟩
      · rw [List.length_map]
        have hlx : xs.length = ts.length := ha.len
        rw [hlx]; exact Nat.le_refl _, x⟩
def wForR (ir : WIR) (i : Nat) (wb : WSS) : WSS := fun C E => ir E (fun ss E1 => ∃ I : Nat → List Sl → Prop, I 0 E1 ∧
  (∀ n s E, ss[n]? = some s → I n E → wb { C with nx := I (n + 1), ct := I (n + 1), bk := C.nx } (E.set i s)) ∧ ∀ E, I ss.length E → C.nx E) (fun c E' => C.ex c E')
theorem t_forR {ir : WIR} {i : Nat} (hp : PassesOwn (model X.prog X.w) X.A X.env X.xe) (hc : X.calm = true) (hi : IR X W tg e ir) (hg : PG X tg (gName i)) (hb : Ts X W sts w)
    (hs : ∀ x, foldedSetIterable e X.env x = pure x := by intro _; rfl) : T1 X W (.For tg e sts [] pos) (wForR ir i w) :=
  ps_imp (ps_for hp hc hi hg hb hs) fun DD σ H ⟨H0, F0, F, own, E, C, r, q, kn, kb, kc, kr, kx⟩ =>
  ⟨H0, F0, F, own, E, _, _, r, q, fun ss E1 ⟨I, i0, step, done⟩ F1 own1 H1 J r1 ef ok => by
    refine ⟨fun n k σ H => ∃ F own E, Rel X.K H0 F1 F own E σ H ∧ I n E ∧ n ≤ ss.length ∧ k = ss.length - n, ⟨_, F1, own1, E1, r1.base, i0, Nat.zero_le _, rfl⟩, ?_⟩
    rintro n k σ H ⟨F, own, E, rr, hI, hle, rfl⟩
    obtain ⟨go, stop⟩ := ok F H rr.g.f rr.g.fh rr.g.h
    by_cases hlt : n < ss.length
    · have ed : ss[n]? = some ss[n] := List.getElem?_eq_getElem hlt
      obtain ⟨g1, yl⟩ := go n ss[n] ed
      refine .inr ⟨g1, fun σ' H' => ∃ F' own' E', Rel X.K H0 F1 F' own' E' σ' H' ∧ I (n + 1) E', fun σ' H' ⟨F', own', E', r', i'⟩ => ⟨ss.length - (n + 1), by omega, F', own', E', r', i', hlt, rfl⟩, fun x H' y => ?_⟩
      obtain ⟨F2, g2, rp⟩ := yl x H' y
      obtain ⟨own2, r2⟩ := (rr.grow g2).putS (i := i) (s := ss[n]) (v := x) (fp := []) ⟨rp, (fun _ h => nomatch h), (fun _ h => nomatch h), (fun _ h => nomatch h)⟩
      show tT X.K W w _ (σ.set i (some x)) H'
      refine ⟨H0, F1, F2, own2, _, _, r2, step n _ E ed hI, ?_, ?_, ?_, ?_, ?_⟩
      · exact fun F' own' E' σ' H' r' i' => ⟨F', own', E', r', i'⟩
      · exact fun F' own' E' σ' H' r' i' => kn _ _ _ _ _ (r'.unbase r1.g) i'
      · exact fun F' own' E' σ' H' r' i' => ⟨F', own', E', r', i'⟩
      · exact fun d E2 hd F' own2 σ2 H' v fp r2 rs => kr d E2 hd F' own2 σ2 H' v fp (r2.unbase r1.g) rs
      · exact fun c F' own' E' σ' H' r' h' => kx c _ _ _ _ _ (r'.unbase r1.g) h'
    · have e : n = ss.length := by omega
      subst e
      exact .inl ⟨stop, kn _ _ _ _ _ (rr.unbase r1.g) (done E hI)⟩,
  fun c E' hc F' own' H' r' ef => kx c _ _ _ _ _ r' hc⟩
end
end
end Tb

set_option Elab.async false
set_option linter.all false
set_option maxRecDepth 100000
set_option maxHeartbeats 2000000
/-! ### calls that change what is lent to them -/
namespace L2
open PySem PySem.Spec PyProof.Rows
section
variable {X : Cx} {CX : CXT} {k : Nat} {f C : Addr} {fd : FuncData} {ps : List Str} {sp : Sp} {dvs : List V} {ds : List Value} {E : St → XK} {x m : Str} {p pos apos : Pos} {e o : Expr} {es : List Expr} {ta : TE} {t : TA}
def tMethSD (C : Addr) (m : Str) (sp : Sp) (dvs : List V) (E : St → XK) (ta : TE) (t : TA) : TE := fun σ H Q => ta σ H fun x H1 => ∃ a dx fs, x = .ref a ∧ H1 a = some (.ins C dx fs) ∧ fs.lookup m = none ∧ t σ H1 fun vs H2 => sp (x :: (vs ++ dvs)) H2 Q (E σ)
theorem pe_methSD {pl : Sem Bool} (he : PE X o ta) (c : Cls X.K C) (hm : Meth X.K C m f) (F : FnOk X.prog X.w X.K X.mg X.base CX k f fd ps sp) (hr : Room k X.A) (hb : Binds X.K fd ps ds) (hd : Vals dvs ds) (hx : ∀ σ, PassesAt CX X σ (E σ)) (ha : PA X (e :: es) t)
    (hst : starEach (e :: es) X.env = (false, eval e X.env) :: starEach es X.env := by rfl) (hpl : (backTo pos (starEach es X.env)).any (·.1) = false := by rfl)
    (ht : eval (.Call (.Attribute o m apos) (e :: es) [] pos) X.env = (do
      let ov ← eval o X.env
      standAt apos.atName
      let (f, first) ← holding [ov] (getMethod ov m pl)
      callWith pos f first (backTo pos (starEach (e :: es) X.env)) (backToKw pos (keywordEach [] X.env))) := by rfl) :
    PE X (.Call (.Attribute o m apos) (e :: es) [] pos) (tMethSD C m sp dvs E ta t) := by
  refine ⟨fun pins s σ H Q I h => ?_⟩
  refine PySem.W.methodCall_KW (pl := pl) (thn (he.run pins s σ H _ I h) fun u s1 ⟨x, H1, I1, rx, a, dx, fs, ex, ea, l, q⟩ => ?_) ht
  subst ex
  obtain rfl : u = Value.ref a := rx
  refine getmeth_ok I1 ea c hm l ?_
  refine PySem.W.callWith_K (first := [.ref a]) (h₀ := X.base) I.ok.mod.kin hm.kp (thn (ha.run pos pins s1 σ H1 _ I1 q) fun us s2 ⟨vs, H2, I2, r, q2⟩ => ⟨I2.kIn, ?_⟩) hst hpl
  exact run_fnSD (us := .ref a :: us) (vs := .ref a :: vs) F hr hb hd (hx σ) I2 (.cons rfl r) q2
theorem pe_meth0SD {pl : Sem Bool} (he : PE X o ta) (c : Cls X.K C) (hm : Meth X.K C m f) (F : FnOk X.prog X.w X.K X.mg X.base CX k f fd ps sp) (hr : Room k X.A) (hb : Binds X.K fd ps ds) (hd : Vals dvs ds) (hx : ∀ σ, PassesAt CX X σ (E σ))
    (ht : eval (.Call (.Attribute o m apos) [] [] pos) X.env = (do
      let ov ← eval o X.env
      standAt apos.atName
      let (f, first) ← holding [ov] (getMethod ov m pl)
      callWith pos f first (backTo pos (starEach [] X.env)) (backToKw pos (keywordEach [] X.env))) := by rfl) :
    PE X (.Call (.Attribute o m apos) [] [] pos) (tMethSD C m sp dvs E ta tNil) := by
  refine ⟨fun pins s σ H Q I h => ?_⟩
  refine PySem.W.methodCall_KW (pl := pl) (thn (he.run pins s σ H _ I h) fun u s1 ⟨x, H1, I1, rx, a, dx, fs, ex, ea, l, q⟩ => ?_) ht
  subst ex
  obtain rfl : u = Value.ref a := rx
  refine getmeth_ok I1 ea c hm l ?_
  exact PySem.W.callWith_K0 (first := [.ref a]) I1.kIn hm.kp (run_fnSD (us := [.ref a]) (vs := [.ref a]) F hr hb hd (hx σ) I1 (.cons rfl .nil) q)
theorem run_makeSD {pins : List (Addr × Obj)} {σ : St} {H : Hp} {s : Shared} {Q : VK} {us : List Value} {vs : List V} (M : Mk X.K C f) (F : FnOk X.prog X.w X.K X.mg X.base CX k f fd ps sp) (hr : Room (k + 1) X.A) (hb : Binds X.K fd ps ds) (hd : Vals dvs ds)
    (hx : PassesAt CX X σ (E σ)) (I : Inv X pins σ H s) (r : Vals vs us)
    (h : ∀ x dx, H x = none → H dx = none → dx ≠ x → sp (.ref x :: (vs ++ dvs)) (upd (upd H dx (.own x)) x (.ins C dx [])) (fun v H2 => v = .non ∧ Q (.ref x) H2) (E σ)) :
    wpAny (model X.prog X.w) X.A (call (.ref C) us) (EP X pins σ Q) X.xe s := by
  have hq := h (s.heap.objs.size + 1) s.heap.objs.size (I.hok.fresh (Nat.le_succ _)) (I.hok.fresh (Nat.le_refl _)) (Nat.ne_of_lt (Nat.lt_succ_self _))
  have I2 := Inv.made (C := C) I
  have r2 : Vals (V.ref (s.heap.objs.size + 1) :: (vs ++ dvs)) (Value.ref (s.heap.objs.size + 1) :: (us ++ ds)) := .cons rfl (r.append hd)
  have hl : (Value.ref (s.heap.objs.size + 1) :: us ++ ds).length = ps.length := by
    have e := r2.length
    rw [F.len _ _ _ _ hq] at e
    exact e.symm
  refine wpAny_call (make_map (f := f) I.kIn M.makes M.init (beq_iff_eq.mp M.fn) (codeAny_mono (F.run _ X.stack _ _ ⟨Value.ref (s.heap.objs.size + 1) :: us, []⟩ (Value.ref (s.heap.objs.size + 1) :: (us ++ ds)) _ _ (E σ) (hr.make C us [])
    (I2.env0.make C us []) (hb _ (Value.ref (s.heap.objs.size + 1) :: us) I2.kIn hl) r2 hq) fun r s' hq' => ?_))
  cases r with
  | error e => exact hx pins _ _ e s' I2 hq'
  | ok fl =>
    cases fl with
    | ret u =>
      obtain ⟨v, H', I3, rv, ev, q3⟩ := I2.after hq'
      subst ev
      exact ⟨rv, ⟨V.ref (s.heap.objs.size + 1), H', I3, rfl, q3⟩⟩
    | next => exact False.elim hq'
    | brk => exact False.elim hq'
    | cont => exact False.elim hq'
def tMakeSD (C : Addr) (sp : Sp) (dvs : List V) (E : St → XK) (t : TA) : TE := fun σ H Q => t σ H fun vs H1 => ∀ x dx, H1 x = none → H1 dx = none → dx ≠ x → sp (.ref x :: (vs ++ dvs)) (upd (upd H1 dx (.own x)) x (.ins C dx [])) (fun v H2 => v = .non ∧ Q (.ref x) H2) (E σ)
theorem pe_makeSD (M : Mk X.K C f) (F : FnOk X.prog X.w X.K X.mg X.base CX k f fd ps sp) (hr : Room (k + 1) X.A) (hg : Gl X x) (hm : X.mg x = some (.ref C)) (hb : Binds X.K fd ps ds) (hd : Vals dvs ds) (hx : ∀ σ, PassesAt CX X σ (E σ))
    (ha : PA X (e :: es) t) (hdb : (x == ("__debug__" : Str)) = false := by decide) (he : starEach (e :: es) X.env = (false, eval e X.env) :: starEach es X.env := by rfl) (hpl : (backTo pos (starEach es X.env)).any (·.1) = false := by rfl) :
    PE X (.Call (.Name x p) (e :: es) [] pos) (tMakeSD C sp dvs E t) := by
  refine ⟨fun pins s σ H Q I h => ?_⟩
  refine wpAny_Call_Name_kw (ld_glob I hg hm ?_ hdb)
  refine PySem.W.callWith_K (h₀ := X.base) I.ok.mod.kin M.kp (thn (ha.run pos pins s σ H _ I h) fun us s1 ⟨vs, H1, I1, r, q⟩ => ⟨I1.kIn, ?_⟩) he hpl
  exact run_makeSD M F hr hb hd (hx σ) I1 r q
end
end L2

namespace Tb
section
open PySem PySem.Spec L2
open PyProof.Rows (envOfC)
/-! ### many in flight -/
inductive OwnL (K : Frag) (F H : Hp) : List Sl → List V → List (List Addr) → Prop
  | nil : OwnL K F H [] [] []
  | cons {s : Sl} {ss : List Sl} {v : V} {vs : List V} {f : List Addr} {fs : List (List Addr)} : OwnS K F H s v f → OwnL K F H ss vs fs → OwnL K F H (s :: ss) (v :: vs) (f :: fs)
/-- an argument: as in flight, or a list of another's -/
def OwnB (K : Frag) (F B H : Hp) : Sl → V → List Addr → Prop
  | .bo ds, v, fp => fp = [] ∧ ∃ p vs, v = .ref p ∧ SqL K B p vs ∧ RpAll K F vs ds
  | s, v, fp => OwnS K F H s v fp
inductive ArgsB (K : Frag) (F B H : Hp) : List Sl → List V → List (List Addr) → Prop
  | nil : ArgsB K F B H [] [] []
  | cons {s : Sl} {ss : List Sl} {v : V} {vs : List V} {f : List Addr} {fs : List (List Addr)} : OwnB K F B H s v f → ArgsB K F B H ss vs fs → ArgsB K F B H (s :: ss) (v :: vs) (f :: fs)
def erL (H : Hp) (L : List Addr) : Hp := fun a => if a ∈ L then none else H a
theorem erL_in {H : Hp} {L : List Addr} {a : Addr} (h : a ∈ L) : erL H L a = none := by unfold erL; rw [if_pos h]
theorem erL_out {H : Hp} {L : List Addr} {a : Addr} (h : a ∉ L) : erL H L a = H a := by unfold erL; rw [if_neg h]
theorem erL_same {H : Hp} {L : List Addr} : Same (erL H L) H := fun b o e => by
  by_cases hb : b ∈ L
  · rw [erL_in hb] at e; cases e
  · rw [erL_out hb] at e; exact e
theorem erL_nil {H : Hp} : erL H [] = H := by funext a; unfold erL; simp
def lentV (li : List Nat) (vs : List V) : List V := li.map fun i => vs.getD i .non
abbrev CtS := List Sl → (Sl → List Sl → Prop) → (Str → List Sl → Prop) → Prop
/-- what a def keeps that changes what is lent to it -/
def spS (np : Nat) (li : List Nat) (g : CtS) (K : Frag) : Sp := fun vs H Q E => ∃ F as fps KS KX, Same F H ∧ as.length = np ∧ ArgsB K F (erL H fps.flatten) H as vs fps ∧ fps.flatten.Nodup ∧ (∀ p ∈ fps.flatten, F p = none) ∧ g as KS KX ∧
  (∀ s outs, KS s outs → ∀ F' H' v fr fos, Grow F (erL H fps.flatten) F' H' → OwnS K F' H' s v fr → OwnL K F' H' outs (lentV li vs) fos → (fr ++ fos.flatten).Nodup → (∀ p ∈ fr ++ fos.flatten, F' p = none ∧ erL H fps.flatten p = none) → Q v H') ∧
  (∀ c outs, KX c outs → ∀ F' H' fos, Grow F (erL H fps.flatten) F' H' → OwnL K F' H' outs (lentV li vs) fos → fos.flatten.Nodup → (∀ p ∈ fos.flatten, F' p = none ∧ erL H fps.flatten p = none) → E (.ref (cA K c)) none H')
section
variable {K : Frag} {H0 F0 F F' B H H' : Hp} {own own' : Own} {E : List Sl} {σ : L2.St}
theorem OwnL.len {ss : List Sl} {vs : List V} {fs : List (List Addr)} (h : OwnL K F H ss vs fs) : ss.length = vs.length := by
  induction h with
  | nil => rfl
  | cons _ _ ih => rw [List.length_cons, List.length_cons, ih]
theorem ArgsB.len {ss : List Sl} {vs : List V} {fs : List (List Addr)} (h : ArgsB K F B H ss vs fs) : ss.length = vs.length := by
  induction h with
  | nil => rfl
  | cons _ _ ih => rw [List.length_cons, List.length_cons, ih]
theorem OwnB.of {s : Sl} {v : V} {fp : List Addr} (x : OwnS K F H s v fp) : OwnB K F B H s v fp := by
  cases s with
  | bo _ => exact x.elim
  | _ => exact x
theorem OwnB.there {s : Sl} {v : V} {fp : List Addr} (x : OwnB K F B H s v fp) : ∀ p ∈ fp, H p ≠ none := by
  cases s with
  | bo _ => rw [x.1]; exact fun _ h => nomatch h
  | un => exact OwnS.there (K := K) (F := F) (v := v) (s := .un) x
  | fr d => exact OwnS.there (K := K) (F := F) (v := v) (s := .fr d) x
  | ow d => exact OwnS.there (K := K) (F := F) (v := v) (s := .ow d) x
  | dk d => exact OwnS.there (K := K) (F := F) (v := v) (s := .dk d) x
  | dt d => exact x.elim
  | tr u t => exact OwnS.there (K := K) (F := F) (v := v) (s := .tr u t) x
  | bt u t => exact x.elim
theorem ArgsB.there {ss : List Sl} {vs : List V} {fs : List (List Addr)} (h : ArgsB K F B H ss vs fs) : ∀ p ∈ fs.flatten, H p ≠ none := by
  induction h with
  | nil => exact fun _ h => nomatch h
  | cons h1 _ ih =>
    intro p hp
    rw [List.flatten_cons] at hp
    rcases List.mem_append.mp hp with hp | hp
    · exact h1.there p hp
    · exact ih p hp
theorem OwnL.there {ss : List Sl} {vs : List V} {fs : List (List Addr)} (h : OwnL K F H ss vs fs) : ∀ p ∈ fs.flatten, H p ≠ none := by
  induction h with
  | nil => exact fun _ h => nomatch h
  | cons h1 _ ih =>
    intro p hp
    rw [List.flatten_cons] at hp
    rcases List.mem_append.mp hp with hp | hp
    · exact h1.there p hp
    · exact ih p hp
theorem OwnL.mono {ss : List Sl} {vs : List V} {fs : List (List Addr)} (e : Same F F') (h : OwnL K F H ss vs fs) : (∀ p ∈ fs.flatten, ∀ o, H p = some o → H' p = some o) → OwnL K F' H' ss vs fs := by
  induction h with
  | nil => exact fun _ => .nil
  | cons h1 _ ih =>
    intro k
    exact .cons (h1.mono e fun p hp => k p (by rw [List.flatten_cons]; exact List.mem_append_left _ hp)) (ih fun p hp => k p (by rw [List.flatten_cons]; exact List.mem_append_right _ hp))
/-! ### who owns what at a def's start -/
def ownF : List (List Addr) → Nat → Own
  | [], _ => fun _ => none
  | f :: r, n => fun a => if a ∈ f then some n else ownF r (n + 1) a
theorem ownF_some {a : Addr} {j : Nat} : ∀ {fs : List (List Addr)} {n : Nat}, ownF fs n a = some j → a ∈ fs.flatten ∧ n ≤ j
  | [], _, h => nomatch h
  | f :: r, n, h => by
    unfold ownF at h
    rw [List.flatten_cons]
    split at h
    · rename_i hm; cases h; exact ⟨List.mem_append_left _ hm, Nat.le_refl _⟩
    · obtain ⟨h1, h2⟩ := ownF_some h
      exact ⟨List.mem_append_right _ h1, by omega⟩
theorem slOk_of {s : Sl} {v : V} {fp : List Addr} {i : Nat} (x : OwnB K F B H s v fp) (o : ∀ p ∈ fp, own p = some i) : SlOk K B F H own i s (some v) := by
  cases s with
  | un => trivial
  | fr d => exact ⟨v, rfl, x.2⟩
  | ow ds => obtain ⟨p, vs, e1, e2, e3, ra⟩ := x; subst e1 e2; exact ⟨p, vs, rfl, o p List.mem_cons_self, e3, ra⟩
  | dk ds => obtain ⟨p, vs, e1, e2, e3, ra⟩ := x; subst e1 e2; exact ⟨p, vs, rfl, o p List.mem_cons_self, e3, ra⟩
  | tr u t => obtain ⟨rfl, h1, h2⟩ := x; exact ⟨rfl, fp, h1, h2, o⟩
  | bo ds => obtain ⟨_, p, vs, e1, sq, ra⟩ := x; subst e1; exact ⟨p, vs, rfl, sq, ra⟩
  | dt _ => exact x.elim
  | bt _ _ => exact x.elim
theorem args_at {as : List Sl} {vs : List V} {fps : List (List Addr)} (h : ArgsB K F B H as vs fps) : ∀ (n : Nat) (own : Own), (∀ i p, p ∈ fps.getD i [] → own p = some (n + i)) → ∀ i s, as[i]? = some s → SlOk K B F H own (n + i) s ((vs.map some)[i]?.getD none) := by
  induction h with
  | nil => intro n own _ i s e; simp at e
  | @cons s ss v vs f fs h1 h2 ih =>
    intro n own ho i s' e
    cases i with
    | zero =>
      simp only [List.getElem?_cons_zero, Option.some.injEq] at e
      subst e
      show SlOk K B F H own n s (some v)
      exact slOk_of h1 fun p hp => ho 0 p (by simpa using hp)
    | succ i =>
      simp only [List.getElem?_cons_succ] at e
      have := ih (n + 1) own (fun j p hp => by rw [ho (j + 1) p (by simpa using hp)]; congr 1; omega) i s' e
      rw [show n + 1 + i = n + (i + 1) by omega] at this
      simpa using this
theorem ownF_at : ∀ {fps : List (List Addr)} {n : Nat}, fps.flatten.Nodup → ∀ i p, p ∈ fps.getD i [] → ownF fps n p = some (n + i)
  | [], _, _, i, p, h => by simp at h
  | f :: r, n, hn, 0, p, h => by
    have h' : p ∈ f := by simpa using h
    unfold ownF; rw [if_pos h']; rfl
  | f :: r, n, hn, i + 1, p, h => by
    rw [List.flatten_cons] at hn
    obtain ⟨_, n2, d⟩ := nodup_app.mp hn
    have h' : p ∈ r.getD i [] := by simpa using h
    have hm : p ∈ r.flatten := by
      rw [List.getD_eq_getElem?_getD] at h'
      cases q : r[i]? with
      | none => rw [q] at h'; cases h'
      | some g => rw [q] at h'; exact List.mem_flatten.mpr ⟨g, List.mem_of_getElem? q, h'⟩
    unfold ownF
    rw [if_neg fun z => d p z hm, ownF_at n2 i p h']
    congr 1; omega
end
def startS (as : List Sl) (n : Nat) : List Sl := as ++ List.replicate (n - as.length) .un
def trS : Option Sl → (V → Tr → Prop) → Prop
  | some (.tr v t), k => k v t
  | _, _ => False
theorem trS_ex {o : Option Sl} {k : V → Tr → Prop} (h : trS o k) : ∃ v t, o = some (.tr v t) ∧ k v t := by
  cases o with
  | none => exact h.elim
  | some s => cases s with
    | tr v t => exact ⟨v, t, rfl, h⟩
    | _ => exact h.elim
def lentS : List Nat → List Sl → List Sl → (List Sl → Prop) → Prop
  | [], _, _, k => k []
  | i :: r, as, E, k => trS as[i]? fun v _ => trS E[i]? fun v' t' => v = v' ∧ lentS r as E fun l => k (.tr v' t' :: l)
section
variable {P : Program} {w : World} {K : Frag} {mg : Str → Option Value} {base : Heap}
theorem args_v {K : Frag} {F B H : Hp} {as : List Sl} {vs : List V} {fps : List (List Addr)} (h : ArgsB K F B H as vs fps) : ∀ {i : Nat} {u : V} {t : Tr}, as[i]? = some (.tr u t) → vs.getD i .non = u := by
  induction h with
  | nil => intro i u t e; simp at e
  | cons h1 h2 ih =>
    intro i u t e
    cases i with
    | zero =>
      simp only [List.getElem?_cons_zero, Option.some.injEq] at e
      subst e
      exact h1.1.symm
    | succ i =>
      simp only [List.getElem?_cons_succ] at e
      have := ih e
      simpa using this
theorem lent_out {K : Frag} {H0 F0 B F F' H H' : Hp} {own' : Own} {E' as : List Sl} {σ' : L2.St} {vs : List V} {fps : List (List Addr)} (a : ArgsB K F B H as vs fps) (r : Rel K H0 F0 F' own' E' σ' H') : ∀ {li : List Nat} {k : List Sl → Prop}, li.Nodup → lentS li as E' k →
    ∃ outs fos, OwnL K F' H' outs (lentV li vs) fos ∧ fos.flatten.Nodup ∧ (∀ p ∈ fos.flatten, ∃ j ∈ li, own' p = some j) ∧ k outs
  | [], k, _, h => ⟨[], [], .nil, List.nodup_nil, (fun _ z => nomatch z), h⟩
  | i :: li, k, hn, h => by
    obtain ⟨n1, n2⟩ := List.nodup_cons.mp hn
    obtain ⟨v, t, e1, h⟩ := trS_ex h
    obtain ⟨v', t', e2, rfl, h⟩ := trS_ex h
    obtain ⟨outs, fos, h1, h2, h3, h4⟩ := lent_out a r n2 h
    obtain ⟨_, fp, q1, q2, q3⟩ := r.sl i _ e2
    refine ⟨_, fp :: fos, .cons (v := vs.getD i .non) (by rw [args_v a e1]; exact ⟨rfl, q1, q2⟩) h1, ?_, fun p hp => ?_, h4⟩
    · rw [List.flatten_cons]
      refine nodup_app.mpr ⟨q2, h2, fun p p1 p2 => ?_⟩
      obtain ⟨j, hj, e⟩ := h3 p p2
      rw [q3 p p1] at e
      cases e
      exact n1 hj
    · rw [List.flatten_cons] at hp
      rcases List.mem_append.mp hp with hp | hp
      · exact ⟨i, List.mem_cons_self, q3 p hp⟩
      · obtain ⟨j, hj, e⟩ := h3 p hp
        exact ⟨j, List.mem_cons_of_mem _ hj, e⟩
theorem fn_mkS {x qual : Str} {st : Stmt} {f : Addr} {fd : FuncData} {N ps : List Str} {k : Nat} (np : Nat) (li : List Nat) (g : CtS) (Fu : Fun K x qual st f fd) (Sc : FnScope N ps (defScope st)) (hl : np = ps.length := by rfl) (hli : li.Nodup := by decide)
    (body : ∀ (cdv : Value) (A : Around) (outer : List Env) (s : Shared) (H : Hp) (E : XK), Room k (A.deeper (envOfC qual (defScope st) s.heap.objs.size f cdv)) →
      ∃ ww, Ts (cxD P w K mg base N qual (defScope st) f cdv A outer s H E) (WD E) (defBody st) ww ∧
        ∀ as KS KX, as.length = np → g as KS KX → ww { nx := fun E' => lentS li as E' (KS (.fr .none)), rt := fun s E' => lentS li as E' (KS s), ex := fun c E' => lentS li as E' (KX c) } (startS as N.length)) :
    FnOk P w K mg base (L2.CX P w) (k + 1) f fd ps (spS np li g K) := by
  refine Fu.okX Sc (fun vs H Q E h => ?_) fun cdv A outer s H vs Q E hr h => ?_
  · obtain ⟨F, as, fps, KS, KX, sm, ln, ra, _⟩ := h
    rw [← ra.len, ln]; exact hl
  · obtain ⟨F, as, fps, KS, KX, sm, ln, ra, hnd, hF, hg, k1, k2⟩ := h
    obtain ⟨ww, hb, hw⟩ := body cdv A outer s H E hr
    have hps : ps.length ≤ N.length := by have := congrArg List.length Sc.pre; rw [List.length_take] at this; omega
    have r0 : Rel K (erL H fps.flatten) F F (ownF fps 0) (startS as N.length) (L2.start N vs) H := by
      refine ⟨?_, ⟨Same.refl _, erL_same, sm, fun _ h => .inl h⟩, fun a i e => ?_, fun i sl e => ?_⟩
      · unfold startS L2.start
        simp only [List.length_append, List.length_map, List.length_replicate]
        rw [ra.len]
      · have hm := (ownF_some e).1
        exact ⟨hF a hm, erL_in hm, ra.there a hm⟩
      · unfold startS at e
        by_cases hi : i < as.length
        · rw [List.getElem?_append_left hi] at e
          have := args_at ra 0 (ownF fps 0) (fun i p hp => ownF_at hnd i p hp) i sl e
          rw [Nat.zero_add] at this
          have e2 : (L2.start N vs).getD i none = (vs.map some)[i]?.getD none := by
            unfold L2.start
            rw [List.getD_eq_getElem?_getD, List.getElem?_append_left (by rw [List.length_map, ← ra.len]; exact hi)]
          rw [e2]; exact this
        · rw [List.getElem?_append_right (by omega), List.getElem?_replicate] at e
          split at e
          · cases e; trivial
          · cases e
    have fin : ∀ {F' : Hp} {own' : Own} {E' : List Sl} {σ' : L2.St} {H' : Hp}, Rel K (erL H fps.flatten) F F' own' E' σ' H' → ∀ {k : List Sl → Prop}, lentS li as E' k →
        ∃ outs fos, OwnL K F' H' outs (lentV li vs) fos ∧ fos.flatten.Nodup ∧ (∀ p ∈ fos.flatten, F' p = none ∧ erL H fps.flatten p = none) ∧ (∀ p ∈ fos.flatten, ∃ j, own' p = some j) ∧ k outs := by
      intro F' own' E' σ' H' r k h
      obtain ⟨outs, fos, h1, h2, h3, h4⟩ := lent_out ra r hli h
      refine ⟨outs, fos, h1, h2, fun p hp => ?_, fun p hp => ?_, h4⟩
      · obtain ⟨j, _, e⟩ := h3 p hp
        obtain ⟨y1, y2, _⟩ := r.ow p j e
        exact ⟨y1, y2⟩
      · obtain ⟨j, _, e⟩ := h3 p hp
        exact ⟨j, e⟩
    refine ⟨_, hb, erL H fps.flatten, F, F, ownF fps 0, _, _, r0, hw as KS KX ln hg, ?_, ?_, ?_, ?_, ?_⟩
    · intro F' own' E' σ' H' r hk
      obtain ⟨outs, fos, h1, h2, h3, _, h4⟩ := fin r hk
      exact k1 _ _ h4 F' H' _ [] fos r.g ⟨rfl, .non⟩ h1 h2 h3
    · exact fun _ _ _ _ _ _ z => z.elim
    · exact fun _ _ _ _ _ _ z => z.elim
    · intro s E' hk F' own' σ' H' v fp r fl
      obtain ⟨outs, fos, h1, h2, h3, h5, h4⟩ := fin r hk
      refine k1 _ _ h4 F' H' v fp fos r.g fl.o h1 (nodup_app.mpr ⟨fl.o.nodup, h2, fun p p1 p2 => ?_⟩) fun p hp => ?_
      · obtain ⟨j, e⟩ := h5 p p2
        exact fl.n p p1 j e
      · rcases List.mem_append.mp hp with hp | hp
        · exact ⟨fl.f p hp, fl.h p hp⟩
        · exact h3 p hp
    · intro c F' own' E' σ' H' r hk
      obtain ⟨outs, fos, h1, h2, h3, _, h4⟩ := fin r hk
      exact k2 _ _ h4 F' H' fos r.g h1 h2 h3
end
end
end Tb

set_option Elab.async false
set_option linter.all false
set_option maxRecDepth 100000
set_option maxHeartbeats 2000000
/-! ### the caller's side: lending -/
namespace Tb
section
open PySem PySem.Spec L2
section
variable {K : Frag} {H0 F0 F F' H H' : Hp} {own : Own} {E : List Sl} {σ : L2.St}
/-- a part of a tree goes into flight -/
theorem Rel.takeT (r : Rel K H0 F0 F own E σ H) {i : Nat} {u : V} {t s : Tr} {π : List Nat} (e : E[i]? = some (.tr u t)) (g : t.get π = some s) : ∃ w fs own', TrOk K F H w s fs ∧ fs.Nodup ∧ (∀ p ∈ fs, own p = some i ∧ ∀ j, own' p ≠ some j) ∧
    (∀ p j, own' p = some j → own p = some j) ∧ Rel K H0 F0 F own' (E.set i (.tr u (t.put π (.hl w)))) σ H := by
  obtain ⟨e1, fp, h1, h2, h3⟩ := r.sl i _ e
  obtain ⟨w, fs, _, hs, sub, ns, put⟩ := h1.focus π h2 g
  obtain ⟨fp', h4, n4, s4⟩ := put F H (.hl w) [] (Same.refl _) (fun _ _ _ _ z => z) .hl List.nodup_nil (fun _ z => nomatch z)
  refine ⟨w, fs, fun a => if a ∈ fs then none else own a, hs, ns, fun p hp => ⟨h3 p (sub p hp), fun j z => by dsimp only at z; rw [if_pos hp] at z; cases z⟩, fun p j z => ?_, ⟨by rw [List.length_set]; exact r.len, r.g, fun a j z => ?_, fun j s' z => ?_⟩⟩
  · try dsimp only at z
    split at z
    · cases z
    · exact z
  · try dsimp only at z
    split at z
    · cases z
    · exact r.ow a j z
  · by_cases hj : i = j
    · subst hj
      by_cases hl : i < E.length
      · rw [List.getElem?_set_self hl] at z
        cases z
        refine ⟨e1, fp', h4, n4, fun p hp => ?_⟩
        rcases s4 p hp with ⟨a, b⟩ | a
        · try dsimp only
          rw [if_neg b]; exact h3 p a
        · cases a
      · rw [List.getElem?_eq_none (by rw [List.length_set]; omega)] at z; cases z
    · rw [List.getElem?_set_ne hj] at z
      refine (r.sl j s' z).stay (Same.refl _) (Same.refl _) (fun _ _ _ q => q) fun p q => ?_
      try dsimp only
      rw [if_neg fun m => hj (by have := h3 p (sub p m); rw [this] at q; exact Option.some.inj q)]
      exact q
/-- .. and comes back -/
theorem Rel.backT (r : Rel K H0 F0 F own E σ H) {i : Nat} {u w : V} {t s' : Tr} {π : List Nat} {fs : List Addr} (e : E[i]? = some (.tr u t)) (g : t.get π = some (.hl w)) (fl : Fly K H0 F H own (.tr w s') w fs) :
    ∃ own', (∀ p j, own' p = some j → own p = some j ∨ p ∈ fs) ∧ Rel K H0 F0 F own' (E.set i (.tr u (t.put π s'))) σ H := by
  obtain ⟨e1, fp, h1, h2, h3⟩ := r.sl i _ e
  obtain ⟨w', f0, _, hs, sub, ns, put⟩ := h1.focus π h2 g
  cases hs
  obtain ⟨_, hT, hN⟩ := fl.o
  obtain ⟨fp', h4, n4, s4⟩ := put F H s' fs (Same.refl _) (fun _ _ _ _ z => z) hT hN (fun q hq => .inr fun z => fl.n q hq i (h3 q z))
  refine ⟨fun a => if a ∈ fs then some i else own a, fun p j z => ?_, ⟨by rw [List.length_set]; exact r.len, r.g, fun a j z => ?_, fun j s'' z => ?_⟩⟩
  · try dsimp only at z
    split at z
    · rename_i m; exact .inr m
    · exact .inl z
  · try dsimp only at z
    split at z
    · rename_i m; exact ⟨fl.f a m, fl.h a m, fl.o.there a m⟩
    · exact r.ow a j z
  · by_cases hj : i = j
    · subst hj
      by_cases hl : i < E.length
      · rw [List.getElem?_set_self hl] at z
        cases z
        refine ⟨e1, fp', h4, n4, fun p hp => ?_⟩
        try dsimp only
        by_cases hm : p ∈ fs
        · rw [if_pos hm]
        · rw [if_neg hm]
          rcases s4 p hp with ⟨a, b⟩ | a
          · exact h3 p a
          · exact absurd a hm
      · rw [List.getElem?_eq_none (by rw [List.length_set]; omega)] at z; cases z
    · rw [List.getElem?_set_ne hj] at z
      refine (r.sl j s'' z).stay (Same.refl _) (Same.refl _) (fun _ _ _ q => q) fun p q => ?_
      try dsimp only
      rw [if_neg fun m => fl.n p m j q]
      exact q
/-- the heap grows while what is in flight changes -/
theorem Rel.growEr (r : Rel K H0 F0 F own E σ H) {FP : List Addr} (g : Grow F (erL H FP) F' H') (h : ∀ p ∈ FP, H0 p = none ∧ ∀ j, own p ≠ some j) : Rel K H0 F0 F' own E σ H' := by
  have nf : ∀ p, (∃ j, own p = some j) → F' p = none ∧ ∀ o, H p = some o → H' p = some o := fun p ⟨j, z⟩ => by
    have np : p ∉ FP := fun m => (h p m).2 j z
    obtain ⟨y1, y2, y3⟩ := r.ow p j z
    refine ⟨?_, fun o q => g.h _ _ (by rw [erL_out np]; exact q)⟩
    cases q : F' p with
    | none => rfl
    | some u =>
      rcases g.new p (by rw [q]; simp) with w | w
      · exact absurd y1 w
      · rw [erL_out np] at w; exact absurd w y3
  refine ⟨r.len, ⟨r.g.f.trans g.f, fun b o q => g.h _ _ ?_, g.fh, fun a q => ?_⟩, fun a i z => ?_, fun i s z => (r.sl i s z).stay g.f (Same.refl _) (fun p u q1 q2 => (nf p ⟨i, q1⟩).2 u q2) fun _ w => w⟩
  · rw [erL_out fun m => by rw [(h b m).1] at q; cases q]
    exact r.g.h _ _ q
  · rcases g.new a q with w | w
    · exact r.g.new a w
    · refine .inr ?_
      by_cases m : a ∈ FP
      · exact (h a m).1
      · rw [erL_out m] at w; exact none_of_same r.g.h w
  · obtain ⟨y1, y2, y3⟩ := r.ow a i z
    refine ⟨(nf a ⟨i, z⟩).1, y2, ?_⟩
    cases q : H a with
    | none => exact absurd q y3
    | some o => rw [(nf a ⟨i, z⟩).2 o q]; simp
end
/-- how an argument is handed over -/
inductive Ag where
  | val
  | rd (i : Nat)
  | lent (i : Nat) (π : List Nat)
def lendOut : List Ag → List Sl → List Sl → (List Sl → List Sl → Prop) → Prop
  | [], _, E, k => k [] E
  | .lent i π :: gs, s :: as, E, k => trS (some s) fun u _ => ∃ p h ts, u = .ref p ∧ trS E[i]? fun u t => t.get π = some (.nd p h ts) ∧ lendOut gs as (E.set i (.tr u (t.put π (.hl (.ref p))))) fun as' E' => k (.tr (.ref p) (.nd p h ts) :: as') E'
  | _ :: gs, s :: as, E, k => lendOut gs as E fun as' E' => k (s :: as') E'
  | _ :: _, [], _, _ => False
def lendIn : List Ag → List Sl → List Sl → (List Sl → Prop) → Prop
  | [], _, E, k => k E
  | .lent i π :: gs, s :: outs, E, k => trS (some s) fun w t' => trS E[i]? fun u t => t.get π = some (.hl w) ∧ lendIn gs outs (E.set i (.tr u (t.put π t'))) k
  | .lent _ _ :: _, [], _, _ => False
  | _ :: gs, outs, E, k => lendIn gs outs E k
def boS' : Option Sl → (List D → Prop) → Prop
  | some (.ow d), k => k d
  | some (.bo d), k => k d
  | some (.fr (.list d)), k => k d
  | _, _ => False
/-- lists that are lent to be read alone -/
def rdIn : List Ag → List Sl → List Sl → (List Sl → Prop) → Prop
  | [], _, _, k => k []
  | .rd i :: gs, _ :: as, E, k => boS' E[i]? fun ds => rdIn gs as E fun as' => k (.bo ds :: as')
  | _ :: gs, s :: as, E, k => rdIn gs as E fun as' => k (s :: as')
  | _ :: _, [], _, _ => False
def lentG : List Ag → List V → List V
  | .lent _ _ :: gs, v :: vs => v :: lentG gs vs
  | _ :: gs, _ :: vs => lentG gs vs
  | _, _ => []
def lentI : List Ag → Nat → List Nat
  | [], _ => []
  | .lent _ _ :: gs, n => n :: lentI gs (n + 1)
  | _ :: gs, n => lentI gs (n + 1)
def RdOk (σ : L2.St) : List Ag → List V → Prop
  | [], [] => True
  | .rd i :: gs, v :: vs => σ.getD i none = some v ∧ RdOk σ gs vs
  | _ :: gs, _ :: vs => RdOk σ gs vs
  | _, _ => False
theorem rdOk_len {σ : L2.St} : ∀ {gs : List Ag} {vs : List V}, RdOk σ gs vs → gs.length = vs.length
  | [], [], _ => rfl
  | [], _ :: _, h => h.elim
  | .val :: _, [], h => h.elim
  | .rd _ :: _, [], h => h.elim
  | .lent _ _ :: _, [], h => h.elim
  | .val :: gs, _ :: vs, h => congrArg (· + 1) (rdOk_len (gs := gs) (vs := vs) h)
  | .rd i :: gs, v :: vs, h => congrArg (· + 1) (rdOk_len (gs := gs) (vs := vs) h.2)
  | .lent _ _ :: gs, _ :: vs, h => congrArg (· + 1) (rdOk_len (gs := gs) (vs := vs) h)
theorem lent_eq : ∀ {gs : List Ag} {vs : List V} {pre : List V}, gs.length = vs.length → lentV (lentI gs pre.length) (pre ++ vs) = lentG gs vs
  | [], [], pre, _ => rfl
  | [], _ :: _, pre, h => by simp at h
  | .val :: _, [], pre, h => by simp at h
  | .rd _ :: _, [], pre, h => by simp at h
  | .lent _ _ :: _, [], pre, h => by simp at h
  | .val :: gs, v :: vs, pre, h => by
    have := lent_eq (gs := gs) (vs := vs) (pre := pre ++ [v]) (by simpa using h)
    rw [List.length_append, List.append_assoc] at this
    exact this
  | .rd _ :: gs, v :: vs, pre, h => by
    have := lent_eq (gs := gs) (vs := vs) (pre := pre ++ [v]) (by simpa using h)
    rw [List.length_append, List.append_assoc] at this
    exact this
  | .lent _ _ :: gs, v :: vs, pre, h => by
    have := lent_eq (gs := gs) (vs := vs) (pre := pre ++ [v]) (by simpa using h)
    rw [List.length_append, List.append_assoc] at this
    show (pre ++ v :: vs).getD pre.length .non :: lentV (lentI gs (pre.length + 1)) (pre ++ v :: vs) = v :: lentG gs vs
    rw [← this]
    congr 1
    rw [List.getD_eq_getElem?_getD, List.getElem?_append_right (Nat.le_refl _), Nat.sub_self]; rfl
section
variable {K : Frag} {H0 F0 F F' B H H' : Hp} {own : Own} {σ : L2.St}
theorem lend_rd : ∀ {gs : List Ag} {ss : List Sl} {vs : List V} {fps : List (List Addr)} {E : List Sl} {own : Own} {k : List Sl → List Sl → Prop}, Rel K H0 F0 F own E σ H → OwnL K F H ss vs fps → fps.flatten.Nodup → (∀ p ∈ fps.flatten, F p = none ∧ H0 p = none ∧ ∀ j, own p ≠ some j) → gs.length = vs.length → lendOut gs ss E k →
    ∃ as' E' fps' own', Rel K H0 F0 F own' E' σ H ∧ OwnL K F H as' vs fps' ∧ fps'.flatten.Nodup ∧ (∀ p ∈ fps'.flatten, F p = none ∧ H0 p = none ∧ ∀ j, own' p ≠ some j) ∧ k as' E' ∧ (∀ p j, own' p = some j → own p = some j) ∧ (∀ p ∈ fps'.flatten, p ∈ fps.flatten ∨ ∃ j, own p = some j) := by
  intro gs
  induction gs with
  | nil =>
    intro ss vs fps E own k r o hn hf hl h
    cases o with
    | nil => exact ⟨[], E, [], own, r, .nil, hn, (fun _ z => nomatch z), h, fun _ _ z => z, fun _ z => nomatch z⟩
    | cons _ _ => simp at hl
  | cons g gs ih =>
    intro ss vs fps E own k r o hn hf hl h
    cases o with
    | nil => simp at hl
    | @cons s ss v vs f fs o1 o2 =>
      rw [List.flatten_cons] at hn hf
      obtain ⟨n1, n2, d⟩ := nodup_app.mp hn
      have plain : ∀ {k' : List Sl → List Sl → Prop}, lendOut gs ss E (fun as' E' => k' (s :: as') E') → ∃ as' E' fps' own', Rel K H0 F0 F own' E' σ H ∧ OwnL K F H as' (v :: vs) fps' ∧ fps'.flatten.Nodup ∧ (∀ p ∈ fps'.flatten, F p = none ∧ H0 p = none ∧ ∀ j, own' p ≠ some j) ∧ k' as' E' ∧ (∀ p j, own' p = some j → own p = some j) ∧ (∀ p ∈ fps'.flatten, p ∈ f ++ fs.flatten ∨ ∃ j, own p = some j) := by
        intro k' h
        obtain ⟨as', E', fps', own', r', o', hn', hf', hk, ho, hp⟩ := ih r o2 n2 (fun p hp => hf p (List.mem_append_right _ hp)) (by simpa using hl) h
        refine ⟨_, E', f :: fps', own', r', .cons o1 o', ?_, fun p hp' => ?_, hk, ho, fun p hp' => ?_⟩
        · rw [List.flatten_cons]
          refine nodup_app.mpr ⟨n1, hn', fun p p1 p2 => ?_⟩
          rcases hp p p2 with z | ⟨j, z⟩
          · exact d p p1 z
          · exact (hf p (List.mem_append_left _ p1)).2.2 j z
        · rw [List.flatten_cons] at hp'
          rcases List.mem_append.mp hp' with hp' | hp'
          · obtain ⟨a1, a2, a3⟩ := hf p (List.mem_append_left _ hp')
            exact ⟨a1, a2, fun j z => a3 j (ho p j z)⟩
          · exact hf' p hp'
        · rw [List.flatten_cons] at hp'
          rcases List.mem_append.mp hp' with hp' | hp'
          · exact .inl (List.mem_append_left _ hp')
          · rcases hp p hp' with z | z
            · exact .inl (List.mem_append_right _ z)
            · exact .inr z
      cases g with
      | val => exact plain h
      | rd i => exact plain h
      | lent i π =>
        obtain ⟨u0, t0, es, p, hh, ts, eu, h'⟩ := trS_ex h
        obtain ⟨u, t, ei, eg, h2⟩ := trS_ex h'
        cases es
        subst eu
        obtain ⟨w, fs0, own1, hT, hN, hO, hsub, r1⟩ := r.takeT ei eg
        obtain ⟨ew, _⟩ := nd_at hT
        subst ew
        obtain ⟨ev, hT0, _⟩ := o1
        obtain ⟨as', E', fps', own', r', o', hn', hf', hk, ho, hp⟩ := ih r1 o2 n2 (fun q hq => by
          obtain ⟨a1, a2, a3⟩ := hf q (List.mem_append_right _ hq)
          exact ⟨a1, a2, fun j z => a3 j (hsub q j z)⟩) (by simpa using hl) h2
        refine ⟨_, E', fs0 :: fps', own', r', .cons (s := .tr (.ref p) (.nd p hh ts)) ⟨ev, by rw [← ev]; exact hT, hN⟩ o', ?_, fun q hq => ?_, hk, fun q j z => hsub q j (ho q j z), fun q hq => ?_⟩
        · rw [List.flatten_cons]
          refine nodup_app.mpr ⟨hN, hn', fun q q1 q2 => ?_⟩
          rcases hp q q2 with z | ⟨j, z⟩
          · exact (hf q (List.mem_append_right _ z)).2.2 i (hO q q1).1
          · exact (hO q q1).2 j z
        · rw [List.flatten_cons] at hq
          rcases List.mem_append.mp hq with hq | hq
          · obtain ⟨y1, y2, _⟩ := r.ow q i (hO q hq).1
            exact ⟨y1, y2, fun j z => (hO q hq).2 j (ho q j z)⟩
          · exact hf' q hq
        · rw [List.flatten_cons] at hq
          rcases List.mem_append.mp hq with hq | hq
          · exact .inr ⟨i, (hO q hq).1⟩
          · rcases hp q hq with z | ⟨j, z⟩
            · exact .inl (by rw [List.flatten_cons]; exact List.mem_append_right _ z)
            · exact .inr ⟨j, hsub q j z⟩
theorem boS_ex {o : Option Sl} {k : List D → Prop} (h : boS' o k) : ∃ ds, (o = some (.ow ds) ∨ o = some (.bo ds) ∨ o = some (.fr (.list ds))) ∧ k ds := by
  cases o with
  | none => exact h.elim
  | some s => cases s with
    | ow ds => exact ⟨ds, .inl rfl, h⟩
    | bo ds => exact ⟨ds, .inr (.inl rfl), h⟩
    | fr d => cases d with
      | list ds => exact ⟨ds, .inr (.inr rfl), h⟩
      | _ => exact h.elim
    | _ => exact h.elim
theorem rd_rd {FP : List Addr} {E : List Sl} {own : Own} (r : Rel K H0 F0 F own E σ H) (hFP : ∀ p ∈ FP, F p = none ∧ H0 p = none ∧ ∀ j, own p ≠ some j) : ∀ {gs : List Ag} {ss : List Sl} {vs : List V} {fps : List (List Addr)} {k : List Sl → Prop}, OwnL K F H ss vs fps → RdOk σ gs vs → rdIn gs ss E k →
    ∃ as' fps', ArgsB K F (erL H FP) H as' vs fps' ∧ fps'.flatten.Sublist fps.flatten ∧ k as' := by
  intro gs
  induction gs with
  | nil =>
    intro ss vs fps k o hr h
    cases o with
    | nil => exact ⟨[], [], .nil, .slnil, h⟩
    | cons _ _ => exact hr.elim
  | cons g gs ih =>
    intro ss vs fps k o hr h
    cases o with
    | nil => cases g <;> exact hr.elim
    | @cons s ss v vs f fs o1 o2 =>
      cases g with
      | val =>
        obtain ⟨as', fps', a, b, c⟩ := ih o2 hr h
        exact ⟨_, f :: fps', .cons (.of o1) a, by rw [List.flatten_cons, List.flatten_cons]; exact (List.Sublist.refl _).append b, c⟩
      | lent i π =>
        obtain ⟨as', fps', a, b, c⟩ := ih o2 hr h
        exact ⟨_, f :: fps', .cons (.of o1) a, by rw [List.flatten_cons, List.flatten_cons]; exact (List.Sublist.refl _).append b, c⟩
      | rd i =>
        obtain ⟨hv, hr⟩ := hr
        obtain ⟨ds, es, h⟩ := boS_ex h
        obtain ⟨as', fps', a, b, c⟩ := ih o2 hr h
        refine ⟨_, [] :: fps', .cons (s := .bo ds) ⟨rfl, ?_⟩ a, by rw [List.flatten_cons, List.flatten_cons]; exact (List.nil_sublist _).append b, c⟩
        rcases es with e | e | e
        · obtain ⟨p, xs, e1, e2, e3, ra⟩ := r.sl i _ e
          rw [hv] at e1; cases e1
          exact ⟨p, xs, rfl, SqL.of (by rw [erL_out fun m => (hFP p m).2.2 i e2]; exact e3), ra⟩
        · obtain ⟨p, xs, e1, e2, ra⟩ := r.sl i _ e
          rw [hv] at e1; cases e1
          refine ⟨p, xs, rfl, ?_, ra⟩
          have sm : Same H0 (erL H FP) := fun b o q => by
            rw [erL_out fun m => by rw [(hFP b m).2.1] at q; cases q]
            exact r.g.h _ _ q
          exact sm.seq e2
        · obtain ⟨w, e1, rp⟩ := r.sl i _ e
          rw [hv] at e1; cases e1
          cases rp with
          | lst h1 h2 => exact ⟨_, _, rfl, SqL.of (by rw [erL_out fun m => by rw [(hFP _ m).1] at h1; cases h1]; exact r.g.fh _ _ h1), h2⟩
theorem back_rd : ∀ {gs : List Ag} {outs : List Sl} {vs : List V} {fos : List (List Addr)} {E : List Sl} {own : Own} {k : List Sl → Prop}, Rel K H0 F0 F own E σ H → OwnL K F H outs (lentG gs vs) fos → fos.flatten.Nodup → (∀ p ∈ fos.flatten, F p = none ∧ H0 p = none ∧ ∀ j, own p ≠ some j) → gs.length = vs.length → lendIn gs outs E k →
    ∃ E' own', Rel K H0 F0 F own' E' σ H ∧ k E' ∧ (∀ p j, own' p = some j → own p = some j ∨ p ∈ fos.flatten) := by
  intro gs
  induction gs with
  | nil =>
    intro outs vs fos E own k r o hn hf hl h
    exact ⟨E, own, r, h, fun _ _ z => .inl z⟩
  | cons g gs ih =>
    intro outs vs fos E own k r o hn hf hl h
    cases vs with
    | nil => simp at hl
    | cons v vs =>
      have hl' : gs.length = vs.length := by simpa using hl
      cases g with
      | val => exact ih r o hn hf hl' (by cases outs <;> exact h)
      | rd i => exact ih r o hn hf hl' (by cases outs <;> exact h)
      | lent i π =>
        have o' : OwnL K F H outs (v :: lentG gs vs) fos := o
        cases o' with
        | @cons s ss _ _ f fs o1 o2 =>
          obtain ⟨w, t', es, h'⟩ := trS_ex h
          obtain ⟨u, t, ei, eg, h2⟩ := trS_ex h'
          cases es
          rw [List.flatten_cons] at hn hf
          obtain ⟨n1, n2, d⟩ := nodup_app.mp hn
          have ew : w = v := o1.1
          subst ew
          obtain ⟨own1, hsub, r1⟩ := r.backT ei eg ⟨o1, fun p hp => (hf p (List.mem_append_left _ hp)).1, fun p hp => (hf p (List.mem_append_left _ hp)).2.1, fun p hp => (hf p (List.mem_append_left _ hp)).2.2⟩
          obtain ⟨E', own', r', hk, hs⟩ := ih r1 o2 n2 (fun p hp => ⟨(hf p (List.mem_append_right _ hp)).1, (hf p (List.mem_append_right _ hp)).2.1, fun j z => by
            rcases hsub p j z with z | z
            · exact (hf p (List.mem_append_right _ hp)).2.2 j z
            · exact d p z hp⟩) hl' h2
          refine ⟨E', own', r', hk, fun p j z => ?_⟩
          rw [List.flatten_cons]
          rcases hs p j z with z | z
          · rcases hsub p j z with z | z
            · exact .inl z
            · exact .inr (List.mem_append_left _ z)
          · exact .inr (List.mem_append_right _ z)
end
/-! ### arguments -/
abbrev WEA := List Sl → (List Sl → List Sl → Prop) → (Str → List Sl → Prop) → Prop
def tEA (gs : List Ag) (K : Frag) (W : WX) (w : WEA) : TA := fun σ H Q => ∃ H0 F0 F own E KS KX, Rel K H0 F0 F own E σ H ∧ w E KS KX ∧
  (∀ ss E', KS ss E' → ∀ F' own' H' vs fps, Rel K H0 F0 F' own' E' σ H' → Eff F own H F' own' H' → OwnL K F' H' ss vs fps → fps.flatten.Nodup → (∀ p ∈ fps.flatten, F' p = none ∧ H0 p = none ∧ ∀ j, own' p ≠ some j) → Prov own H fps.flatten → RdOk σ gs vs → Q vs H') ∧
  (∀ c E', KX c E' → ∀ F' own' H', Rel K H0 F0 F' own' E' σ H' → Eff F own H F' own' H' → W (.ref (cA K c)) none σ H')
def EA (gs : List Ag) (X : Cx) (W : WX) (es : List Expr) (w : WEA) : Prop := PA X es (tEA gs X.K W w)
theorem prov_eff {F F' H H' : Hp} {own own' : Own} {fp : List Addr} (ef : Eff F own H F' own' H') (pv : Prov own' H' fp) : Prov own H fp := fun p hp => by
  cases q : H p with
  | none => exact .inr rfl
  | some o =>
    by_cases h : ∃ j, own p = some j
    · exact .inl h
    · have hn : ∀ j, own p ≠ some j := fun j z => h ⟨j, z⟩
      obtain ⟨a1, a2, _⟩ := ef.keep p o q hn
      rcases pv p hp with ⟨j, z⟩ | z
      · exact absurd z (a2 j)
      · rw [a1] at z; cases z
section
variable {X : Cx} {W : WX} {a b c e o : Expr} {es : List Expr} {pos p apos : Pos} {m m1 : Mo} {ms : List Mo} {we : WE} {ee eo : WEE} {ws : WEA} {gs : List Ag} {g : Ag} {wa : WA}
def wEA0 : WEA := fun E KS _ => KS [] E
def wEAc (ee : WEE) (ws : WEA) : WEA := fun E KS KX => ee E (fun s E1 => ws E1 (fun ss E2 => KS (s :: ss) E2) KX) KX
def wEAr (ws : WEA) : WEA := fun E KS KX => ws E (fun ss E2 => KS (.un :: ss) E2) KX
theorem ea_nil : EA [] X W [] wEA0 := pa_imp pa_nil fun σ H Q ⟨H0, F0, F, own, E, KS, KX, r, q, k, x⟩ => k [] E q F own H [] [] r .refl .nil List.nodup_nil (fun _ z => nomatch z) (fun _ z => nomatch z) trivial
/-- two in flight, one behind the other -/
theorem fly_two {K : Frag} {H0 F F1 F2 H H1 H2 : Hp} {own own1 own2 : Own} {s : Sl} {v : V} {f : List Addr} {ss : List Sl} {vs : List V} {fs : List (List Addr)} (ef1 : Eff F own H F1 own1 H1) (fl : Fly K H0 F1 H1 own1 s v f) (pv : Prov own H f) (ef2 : Eff F1 own1 H1 F2 own2 H2)
    (o : OwnL K F2 H2 ss vs fs) (n : fs.flatten.Nodup) (hf : ∀ p ∈ fs.flatten, F2 p = none ∧ H0 p = none ∧ ∀ j, own2 p ≠ some j) (pv2 : Prov own1 H1 fs.flatten) :
    OwnL K F2 H2 (s :: ss) (v :: vs) (f :: fs) ∧ (f :: fs).flatten.Nodup ∧ (∀ p ∈ (f :: fs).flatten, F2 p = none ∧ H0 p = none ∧ ∀ j, own2 p ≠ some j) ∧ Prov own H (f :: fs).flatten := by
  have fl2 := fl.eff ef2
  refine ⟨.cons fl2.o o, ?_, fun p hp => ?_, fun p hp => ?_⟩
  · rw [List.flatten_cons]
    refine nodup_app.mpr ⟨fl2.o.nodup, n, fun p p1 p2 => ?_⟩
    rcases pv2 p p2 with ⟨j, z⟩ | z
    · exact fl.n p p1 j z
    · exact fl.o.there p p1 z
  · rw [List.flatten_cons] at hp
    rcases List.mem_append.mp hp with hp | hp
    · exact ⟨fl2.f p hp, fl2.h p hp, fl2.n p hp⟩
    · exact hf p hp
  · rw [List.flatten_cons] at hp
    rcases List.mem_append.mp hp with hp | hp
    · exact pv p hp
    · exact prov_eff ef1 pv2 p hp
def noRd : Ag → Bool
  | .rd _ => false
  | _ => true
theorem rdOk_cons {σ : L2.St} {v : V} {vs : List V} (h : noRd g = true) (r : RdOk σ gs vs) : RdOk σ (g :: gs) (v :: vs) := by
  cases g with
  | rd _ => cases h
  | _ => exact r
theorem ea_cons (he : EJ X W e ee) (hs : EA gs X W es ws) (hg : noRd g = true := by rfl) (hst : starEach (e :: es) X.env = (false, eval e X.env) :: starEach es X.env := by rfl) : EA (g :: gs) X W (e :: es) (wEAc ee ws) :=
  pa_imp (pa_cons he hs hst) fun σ H Q ⟨H0, F0, F, own, E, KS, KX, r, q, k, x⟩ => ⟨H0, F0, F, own, E, _, KX, r, q, fun s E1 hs1 F1 own1 H1 v f r1 ef1 fl pv => ⟨H0, F0, F1, own1, E1, _, KX, r1, hs1, fun ss E2 hs2 F2 own2 H2 vs fs r2 ef2 o n hf pv2 rd => by
    obtain ⟨a1, a2, a3, a4⟩ := fly_two ef1 fl pv ef2 o n hf pv2
    exact k _ E2 hs2 F2 own2 H2 _ _ r2 (ef1.trans ef2) a1 a2 a3 a4 (rdOk_cons hg rd), fun c E2 hc F2 own2 H2 r2 ef2 => x c E2 hc F2 own2 H2 r2 (ef1.trans ef2)⟩, x⟩
theorem ea_rd {i : Nat} (he : PE X e (tVar i)) (hs : EA gs X W es ws) (hst : starEach (e :: es) X.env = (false, eval e X.env) :: starEach es X.env := by rfl) : EA (.rd i :: gs) X W (e :: es) (fun E KS KX => (∃ s, E[i]? = some s ∧ (isOwn s = true ∨ ∃ ds, s = .bo ds)) ∧ wEAr ws E KS KX) :=
  pa_imp (pa_cons he hs hst) fun σ H Q ⟨H0, F0, F, own, E, KS, KX, r, ⟨⟨s, es, ho⟩, q⟩, k, x⟩ => by
    have : ∃ v, σ.getD i none = some v := by
      have z := r.sl i s es
      rcases ho with ho | ⟨ds, rfl⟩
      · obtain ⟨v, _, e1, _⟩ := r.takeS es ho
        exact ⟨v, e1⟩
      · obtain ⟨p, vs, e1, _⟩ := z
        exact ⟨_, e1⟩
    obtain ⟨v, ev⟩ := this
    refine ⟨v, getD_some ev, H0, F0, F, own, E, _, KX, r, q, fun ss E2 hs2 F2 own2 H2 vs fs r2 ef2 o n hf pv2 rd => k _ E2 hs2 F2 own2 H2 _ ([] :: fs) r2 ef2 (.cons (s := .un) rfl o) n hf pv2 ⟨ev, rd⟩, x⟩
/-! ### calls -/
theorem fn_len (K : Frag) {np : Nat} {li : List Nat} {g : CtS} {vs : List V} {H : Hp} {Q : VK} {E : XK} (h : spS np li g K vs H Q E) : vs.length = np := by
  obtain ⟨F, as, fps, KS, KX, sm, ln, ra, _⟩ := h
  rw [← ra.len, ln]
/-- the call itself -/
theorem call_rd {K : Frag} {H0 F0 F H Fs Hs : Hp} {own owns : Own} {E : List Sl} {σ : L2.St} {W : WX} {np : Nat} {li : List Nat} {g : CtS} {vs : List V} {ss : List Sl} {fps : List (List Addr)} {KS : Sl → List Sl → Prop} {KX : Str → List Sl → Prop} {Q : VK}
    (hli : lentI gs 0 = li) (hnp : gs.length = np) (r : Rel K H0 F0 F own E σ H) (ef : Eff Fs owns Hs F own H) (o : OwnL K F H ss vs fps) (hn : fps.flatten.Nodup) (hf : ∀ p ∈ fps.flatten, F p = none ∧ H0 p = none ∧ ∀ j, own p ≠ some j) (pv : Prov owns Hs fps.flatten) (rd : RdOk σ gs vs)
    (h : lendOut gs ss E fun as E2 => rdIn gs as E2 fun as' => g as' (fun s outs => lendIn gs outs E2 (fun E3 => KS s E3)) (fun c outs => lendIn gs outs E2 (fun E3 => KX c E3)))
    (k : ∀ s E', KS s E' → ∀ F' own' H' v fp, Rel K H0 F0 F' own' E' σ H' → Eff Fs owns Hs F' own' H' → Fly K H0 F' H' own' s v fp → Prov owns Hs fp → Q v H')
    (x : ∀ c E', KX c E' → ∀ F' own' H', Rel K H0 F0 F' own' E' σ H' → Eff Fs owns Hs F' own' H' → W (.ref (cA K c)) none σ H') : spS np li g K vs H Q (fun cls d H' => W cls d σ H') := by
  have hgl := rdOk_len rd
  obtain ⟨as, E2, fps', own2, r2, o2, hn2, hf2, hk, hsub, hfp⟩ := lend_rd r o hn hf hgl h
  obtain ⟨as', fps2, ab, sb, hg⟩ := rd_rd r2 hf2 o2 rd hk
  have lv : lentV li vs = lentG gs vs := by
    have := lent_eq (gs := gs) (vs := vs) (pre := []) hgl
    rw [← hli]; simpa using this
  -- the footprint that the callee is handed may be smaller than what was in flight
  have hf3 : ∀ p ∈ fps2.flatten, F p = none ∧ H0 p = none ∧ ∀ j, own2 p ≠ some j := fun p hp => hf2 p (sb.subset hp)
  have ab' : ArgsB K F (erL H fps2.flatten) H as' vs fps2 := by
    have e : Same (erL H fps'.flatten) (erL H fps2.flatten) := fun b u q => by
      by_cases hb : b ∈ fps2.flatten
      · rw [erL_in (sb.subset hb)] at q; cases q
      · rw [erL_out hb]; exact erL_same _ _ q
    have mono : ∀ {ss : List Sl} {vs : List V} {fs : List (List Addr)}, ArgsB K F (erL H fps'.flatten) H ss vs fs → ArgsB K F (erL H fps2.flatten) H ss vs fs := by
      intro ss vs fs z
      induction z with
      | nil => exact .nil
      | cons z1 _ ih =>
        refine .cons ?_ ih
        rename_i s _ _ _ _ _ _
        cases s with
        | bo ds => obtain ⟨a, p, xs, b, c, d⟩ := z1; exact ⟨a, p, xs, b, e.seq c, d⟩
        | _ => exact z1
    exact mono ab
  have step : ∀ {F' H' : Hp}, Grow F (erL H fps2.flatten) F' H' → ∀ {E3 : List Sl} {own3 : Own} {outs : List Sl} {fos : List (List Addr)}, (∀ p ∈ fos.flatten, F' p = none ∧ erL H fps2.flatten p = none) → (∀ p j, own3 p = some j → own2 p = some j ∨ p ∈ fos.flatten) → Eff Fs owns Hs F' own3 H' := by
    intro F' H' g' E3 own3 outs fos hfo hs3
    refine ⟨ef.f.trans g'.f, fun p ob e no => ?_⟩
    obtain ⟨a1, a2, a3⟩ := ef.keep p ob e no
    have np2 : p ∉ fps2.flatten := fun m => by
      rcases hfp p (sb.subset m) with z | ⟨j, z⟩
      · rcases pv p z with ⟨j, y⟩ | y
        · exact no j y
        · rw [e] at y; cases y
      · exact a2 j z
    have e1 : erL H fps2.flatten p = some ob := by rw [erL_out np2]; exact a1
    refine ⟨g'.h _ _ e1, fun j z => ?_, fun z => ?_⟩
    · rcases hs3 p j z with z | z
      · exact a2 j (hsub p j z)
      · have := (hfo p z).2; rw [e1] at this; cases this
    · cases q : F' p with
      | none => rfl
      | some u =>
        rcases g'.new p (by rw [q]; simp) with w | w
        · exact absurd (a3 z) w
        · rw [e1] at w; cases w
  have prov : ∀ {fr : List Addr}, (∀ p ∈ fr, erL H fps2.flatten p = none) → Prov owns Hs fr := fun h p hp => by
    cases q : Hs p with
    | none => exact .inr rfl
    | some ob =>
      by_cases ho : ∃ j, owns p = some j
      · exact .inl ho
      · have no : ∀ j, owns p ≠ some j := fun j z => ho ⟨j, z⟩
        obtain ⟨a1, a2, a3⟩ := ef.keep p ob q no
        have := h p hp
        by_cases m : p ∈ fps2.flatten
        · rcases hfp p (sb.subset m) with z | ⟨j, z⟩
          · rcases pv p z with ⟨j, y⟩ | y
            · exact absurd y (no j)
            · rw [q] at y; cases y
          · exact absurd z (a2 j)
        · rw [erL_out m, a1] at this; cases this
  have h0 : ∀ p, erL H fps2.flatten p = none → H0 p = none := fun p z => by
    by_cases m : p ∈ fps2.flatten
    · exact (hf3 p m).2.1
    · rw [erL_out m] at z; exact none_of_same r2.g.h z
  have no2 : ∀ p, erL H fps2.flatten p = none → ∀ j, own2 p ≠ some j := fun p z j y => by
    by_cases m : p ∈ fps2.flatten
    · exact (hf3 p m).2.2 j y
    · rw [erL_out m] at z; exact (r2.ow p j y).2.2 z
  refine ⟨F, as', fps2, _, _, r.g.fh, ?_, ab', sb.nodup hn2, fun p hp => (hf3 p hp).1, hg, fun s outs hs F' H' v fr fos g' os ol hnd hnone => ?_, fun c outs hc F' H' fos g' ol hnd hnone => ?_⟩
  · rw [ab.len, ← hgl, hnp]
  · rw [lv] at ol
    obtain ⟨d1, d2, d3⟩ := nodup_app.mp hnd
    have r3 := r2.growEr g' fun p hp => ⟨(hf3 p hp).2.1, (hf3 p hp).2.2⟩
    obtain ⟨E3, own3, r4, hk4, hs4⟩ := back_rd r3 ol d2 (fun p hp => ⟨(hnone p (List.mem_append_right _ hp)).1, h0 p (hnone p (List.mem_append_right _ hp)).2, no2 p (hnone p (List.mem_append_right _ hp)).2⟩) hgl hs
    refine k s E3 hk4 F' own3 H' v fr r4 (step g' (E3 := E3) (outs := outs) (fun p hp => hnone p (List.mem_append_right _ hp)) hs4) ⟨os, fun p hp => (hnone p (List.mem_append_left _ hp)).1, fun p hp => h0 p (hnone p (List.mem_append_left _ hp)).2, fun p hp j z => ?_⟩ (prov fun p hp => (hnone p (List.mem_append_left _ hp)).2)
    rcases hs4 p j z with z | z
    · exact no2 p (hnone p (List.mem_append_left _ hp)).2 j z
    · exact d3 p hp z
  · rw [lv] at ol
    have r3 := r2.growEr g' fun p hp => ⟨(hf3 p hp).2.1, (hf3 p hp).2.2⟩
    obtain ⟨E3, own3, r4, hk4, hs4⟩ := back_rd r3 ol hnd (fun p hp => ⟨(hnone p hp).1, h0 p (hnone p hp).2, no2 p (hnone p hp).2⟩) hgl hc
    exact x c E3 hk4 F' own3 H' r4 (step g' (E3 := E3) (outs := outs) hnone hs4)
def wECall (gs : List Ag) (ws : WEA) (g : CtS) : WEE := fun E KS KX => ws E (fun ss E1 => lendOut gs ss E1 fun as E2 => rdIn gs as E2 fun as' => g as' (fun s outs => lendIn gs outs E2 (fun E3 => KS s E3)) (fun c outs => lendIn gs outs E2 (fun E3 => KX c E3))) KX
theorem ej_call {k : Nat} {f : Addr} {fd : FuncData} {ps : List Str} {np : Nat} {li : List Nat} {g : CtS} {x : Str} (Fn : FnOk X.prog X.w X.K X.mg X.base (L2.CX X.prog X.w) k f fd ps (spS np li g X.K)) (hr : Room k X.A) (hg : Gl X x) (hm : X.mg x = some (.ref f)) (hk : PySem.W.keepIn X.K (.ref f) = true)
    (hb : Binds X.K fd ps []) (hx : ∀ σ, PassesAt (L2.CX X.prog X.w) X σ (L2.WE W σ)) (ha : EA gs X W (e :: es) ws) (hli : lentI gs 0 = li := by rfl) (hnp : gs.length = np := by rfl)
    (hdb : (x == ("__debug__" : Str)) = false := by decide) (he : starEach (e :: es) X.env = (false, eval e X.env) :: starEach es X.env := by rfl) (hpl : (backTo pos (starEach es X.env)).any (·.1) = false := by rfl) :
    EJ X W (.Call (.Name x p) (e :: es) [] pos) (wECall gs ws g) :=
  pe_imp (pe_callSD Fn hr hg hm hk hb .nil hx ha hdb he hpl) fun σ H Q ⟨H0, F0, F, own, E, KS, KX, r, q, k, x⟩ =>
    ⟨H0, F0, F, own, E, _, KX, r, q, fun ss E1 h F1 own1 H1 vs fps r1 ef o n hf pv rd => by
      show spS np li g X.K (vs ++ []) H1 Q _
      rw [List.append_nil]
      exact call_rd hli hnp r1 ef o n hf pv rd h k x, x⟩
end
end
end Tb

set_option Elab.async false
set_option linter.all false
set_option maxRecDepth 100000
set_option maxHeartbeats 2000000
/-! ### objects and dicts as data; calls of defs that change their own things alone -/
namespace Tb
section
open PySem PySem.Spec L2
section
variable {K : Frag} {H0 F0 F F' H H' : Hp}
theorem RpDs.none {f : Str} : ∀ {kvs : List (D × D)} {fs : List (Str × V)}, RpDs K F (fkeys fs) kvs → fget kvs f = none → fs.lookup f = none
  | [], [], h, e => rfl
  | [], _ :: _, h, e => by cases h
  | (k, d0) :: kvs, [], h, e => by cases h
  | (k, d0) :: kvs, (g, v) :: fs, h, e => by
    have h' : RpDs K F ((PyData.str g, v) :: fkeys fs) ((k, d0) :: kvs) := h
    cases h' with
    | cons h1 h2 =>
      unfold fget at e
      cases hb : f == g with
      | true => rw [hb, if_pos rfl] at e; cases e
      | false =>
        rw [hb, if_neg (by simp)] at e
        rw [List.lookup_cons, hb]
        exact RpDs.none h2 e
abbrev dicK (kvs : List (Key × D)) : D := dicD (kvs.map fun p => (keyD p.1, p.2))
theorem keyD_inj : ∀ {a b : Key}, keyD a = keyD b → a = b
  | .inl _, .inl _, h => by cases h; rfl
  | .inr _, .inr _, h => by cases h; rfl
  | .inl _, .inr _, h => nomatch h
  | .inr _, .inl _, h => nomatch h
theorem rpDs_pd : ∀ {ws : List (Key × V)} {kvs : List (Key × D)}, RpDs K F (dkeys ws) (kvs.map fun p => (keyD p.1, p.2)) → PD K F ws kvs
  | [], [], h => .nil
  | [], _ :: _, h => by cases h
  | _ :: _, [], h => by cases h
  | (k, v) :: ws, (k', d) :: kvs, h => by
    have h' : RpDs K F ((keyD k, v) :: dkeys ws) ((keyD k', d) :: kvs.map fun p => (keyD p.1, p.2)) := h
    generalize ek : keyD k' = q at h'
    cases h' with
    | cons h1 h2 => exact .cons ⟨(keyD_inj ek).symm, h1⟩ (rpDs_pd h2)
theorem pd_rpDs : ∀ {ws : List (Key × V)} {kvs : List (Key × D)}, PD K F ws kvs → RpDs K F (dkeys ws) (kvs.map fun p => (keyD p.1, p.2))
  | _, _, .nil => .nil
  | _, _, .cons (a := a) (b := b) h t => by
    have e : a.1 = b.1 := h.1
    show RpDs K F ((keyD a.1, a.2) :: dkeys _) ((keyD b.1, b.2) :: _)
    rw [e]
    exact .cons h.2 (pd_rpDs t)
theorem rp_dic {v : V} {kvs : List (Key × D)} (h : Rp K F v (dicK kvs)) : ∃ a o ws, v = .ref a ∧ F a = some (.frz o (.dK ws)) ∧ PD K F ws kvs := by
  cases h with
  | dic h1 h2 => exact ⟨_, _, _, rfl, h1, rpDs_pd h2⟩
theorem rp_obj {v : V} {c : Str} {kvs : List (D × D)} (h : Rp K F v (objD c kvs)) : ∃ a dx fs, v = .ref a ∧ F a = some (.ins (cA K c) dx fs) ∧ InsOk K c ∧ (∀ kv ∈ fs, NoAttr K (cA K c) kv.1) ∧ RpDs K F (fkeys fs) kvs := by
  cases h with
  | obj h1 h2 h3 h4 => exact ⟨_, _, _, rfl, h1, h2, h3, h4⟩
theorem res_rp {v : V} {d : D} (hd : ∀ ds, d ≠ .list ds) (r : Res K H F' H' .rd v d) : Rp K F' v d := Res.scal (e := .none) hd r
theorem lookup_mem {f : Str} {v : V} : ∀ {fs : List (Str × V)}, fs.lookup f = some v → ∃ kv ∈ fs, kv.1 = f
  | [], h => nomatch h
  | (g, x) :: fs, h => by
    rw [List.lookup_cons] at h
    cases hb : f == g with
    | true => exact ⟨_, List.mem_cons_self, (beq_iff_eq.mp hb).symm⟩
    | false =>
      rw [hb] at h
      obtain ⟨kv, h1, h2⟩ := lookup_mem h
      exact ⟨kv, List.mem_cons_of_mem _ h1, h2⟩
end
section
variable {X : Cx} {W : WX} {a b c e o ke tg : Expr} {es : List Expr} {pos p p2 apos : Pos} {m m1 m2 : Mo} {ms : List Mo} {we we2 wk wo : WE} {ws : WA} {E : List Sl} {KD : D → Prop} {KX : Str → Prop}
/-! fields -/
def wAtD (we : WE) (f : Str) : WE := fun E KD KX => we E (fun d => ∃ c kvs x, d = objD c kvs ∧ fget kvs f = some x ∧ KD x) KX
theorem j_at {f : Str} (he : J m X W e we) (hb : attributeBase e f X.env (eval e X.env) = eval e X.env := by rfl) : J .fz X W (.Attribute e f pos) (wAtD we f) :=
  pe_imp (pe_fld he.rd hb) fun σ H Q ⟨H0, F0, F, own, E, KD, KX, r, q, k, x⟩ =>
    ⟨H0, F0, F, own, E, _, KX, r, q, fun d ⟨cn, kvs, y, ed, hy, hd⟩ F' H' v g rs => by
      subst ed
      obtain ⟨a, dx, fs, rfl, h1, h2, h3, h4⟩ := rp_obj (res_rp (fun _ z => nomatch z) rs)
      obtain ⟨u, hu, ru⟩ := h4.look hy
      obtain ⟨kv, hm, ek⟩ := lookup_mem hu
      exact ⟨a, _, dx, fs, u, rfl, g.fh _ _ h1, h2.cl, by rw [← ek]; exact h3 kv hm, hu, k _ hd F' H' u g ru⟩, x⟩
/-! dicts as data -/
def dicS (d : D) (k : List (Key × D) → Prop) : Prop := ∃ kvs, d = dicK kvs ∧ k kvs
theorem dicK_inj : ∀ {a b : List (Key × D)}, (a.map fun p => (keyD p.1, p.2)) = (b.map fun p => (keyD p.1, p.2)) → a = b
  | [], [], _ => rfl
  | [], _ :: _, h => nomatch h
  | _ :: _, [], h => nomatch h
  | (k, d) :: a, (k', d') :: b, h => by
    simp only [List.map_cons, List.cons.injEq, Prod.mk.injEq] at h
    rw [keyD_inj h.1.1, h.1.2, dicK_inj h.2]
theorem dicS_dic {kvs : List (Key × D)} {k : List (Key × D) → Prop} : dicS (dicK kvs) k = k kvs := propext ⟨fun ⟨b, e, h⟩ => by
  have e2 : (kvs.map fun p => (keyD p.1, p.2)) = b.map fun p => (keyD p.1, p.2) := by
    injection e with e; injection e
  rw [dicK_inj e2]; exact h, fun h => ⟨kvs, rfl, h⟩⟩
def wDDg (wo wk : WE) : WE := fun E KD KX => wo E (fun d => wk E (fun kd => dicS d fun kvs => ∃ ky x, kd = keyD ky ∧ valD kvs ky = some x ∧ KD x) KX) KX
theorem j_ddix (hu : X.A.units + 65 < cLine) (ho : J m X W o wo) (hk : J m1 X W ke wk) (hs : NoSl ke := by exact fun _ _ => rfl) : J .fz X W (.Subscript o ke pos) (wDDg wo wk) :=
  pe_imp (pe_dget (by omega) ho.rd hk.rd hs) fun σ H Q ⟨H0, F0, F, own, E, KD, KX, r, q, k, x⟩ =>
    ⟨H0, F0, F, own, E, _, KX, r, q, fun d hd F1 H1 v g1 r1 => ⟨H0, F0, F1, own, E, _, KX, r.grow g1, hd, fun kd ⟨kvs, ed, ky, y, ek, hy, hd2⟩ F2 H2 kv g2 r2 => by
      subst ed ek
      have ekv := res_key r2
      subst ekv
      obtain ⟨a, ob, ws, rfl, h1, h2⟩ := rp_dic (Rp.mono g2.f _ _ (res_rp (fun _ z => nomatch z) r1))
      rcases pd_val h2 ky with ⟨_, z⟩ | ⟨u, d2, z1, z2, ru⟩
      · rw [z] at hy; cases hy
      · rw [z2] at hy; cases hy
        exact ⟨a, u, rfl, .inl ⟨ws, ky, .inr ⟨ob, g2.fh _ _ h1⟩, rfl, z1.symm⟩, k _ hd2 F2 H2 u (g1.trans g2) ru⟩, fun c hc F2 H2 g2 => x c hc F2 H2 (g1.trans g2)⟩, x⟩
def wDDin (f : Bool → Bool) (wo wk : WE) : WE := fun E KD KX => wk E (fun kd => wo E (fun d => dicS d fun kvs => ∃ ky, kd = keyD ky ∧ KD (.bool (f (valD kvs ky).isSome))) KX) KX
theorem ddin_rd {f : Bool → Bool} {σ : L2.St} {H : Hp} {Q : VK} (h : tJ .fz X.K W (wDDin f wo wk) σ H Q) :
    tJ .rd X.K W wk σ H fun y H1 => tJ .rd X.K W wo σ H1 fun x H2 => ∃ a o, x = .ref a ∧ DGet H2 a y o ∧ Q (.bl (f o.isSome)) H2 := by
  obtain ⟨H0, F0, F, own, E, KD, KX, r, q, k, x⟩ := h
  refine ⟨H0, F0, F, own, E, _, KX, r, q, fun kd hd F1 H1 kv g1 r1 => ⟨H0, F0, F1, own, E, _, KX, r.grow g1, hd, fun d ⟨kvs, ed, ky, ek, hb⟩ F2 H2 v g2 r2 => ?_, fun c hc F2 H2 g2 => x c hc F2 H2 (g1.trans g2)⟩, x⟩
  subst ed ek
  have ekv := res_key r1
  subst ekv
  obtain ⟨a, ob, ws, rfl, h1, h2⟩ := rp_dic (res_rp (fun _ z => nomatch z) r2)
  refine ⟨a, valV ws ky, rfl, .inl ⟨ws, ky, .inr ⟨ob, g2.fh _ _ h1⟩, rfl, rfl⟩, ?_⟩
  rw [pd_some h2 ky]
  exact k _ hb F2 H2 _ (g1.trans g2) (.bl _)
theorem j_ddin (hu : X.A.units + 65 < cLine) (ho : J m X W o wo) (hk : J m1 X W ke wk) (hm : behindInMarks .In o = false := by with_unfolding_all rfl) : J .fz X W (.Compare ke [.In] [o] pos) (wDDin id wo wk) :=
  pe_imp (pe_cmp (pc_din (by omega) hk.rd ho.rd) hm) fun _ _ _ h => ddin_rd (f := id) h
theorem j_ddnotin (hu : X.A.units + 65 < cLine) (ho : J m X W o wo) (hk : J m1 X W ke wk) (hm : behindInMarks .NotIn o = false := by with_unfolding_all rfl) : J .fz X W (.Compare ke [.NotIn] [o] pos) (wDDin (fun b => !b) wo wk) :=
  pe_imp (pe_cmp (pc_dnotin (by omega) hk.rd ho.rd) hm) fun _ _ _ h => ddin_rd (f := fun b => !b) h
theorem jt_ddin (hu : X.A.units + 65 < cLine) (ho : J m X W o wo) (hk : J m1 X W ke wk) (hm : behindInMarks .In o = false := by with_unfolding_all rfl) : JT X W (.Compare ke [.In] [o] pos) (wT (wDDin id wo wk)) :=
  pt_imp (pt_cmp (pc_din (by omega) hk.rd ho.rd) hm) (tb_of fun _ _ _ h => ddin_rd (f := id) h)
theorem jt_ddnotin (hu : X.A.units + 65 < cLine) (ho : J m X W o wo) (hk : J m1 X W ke wk) (hm : behindInMarks .NotIn o = false := by with_unfolding_all rfl) : JT X W (.Compare ke [.NotIn] [o] pos) (wT (wDDin (fun b => !b) wo wk)) :=
  pt_imp (pt_cmp (pc_dnotin (by omega) hk.rd ho.rd) hm) (tb_of fun _ _ _ h => ddin_rd (f := fun b => !b) h)
theorem call_lenR : CallR X (.builtin "len") (fun xs H Q => ∃ a kvs, xs = [V.ref a] ∧ Rd H a (.dK kvs) ∧ Q (.int kvs.length) H) := by
  intro pins s σ H xs us Q I r h
  obtain ⟨a, kvs, rfl, ha, q⟩ := h
  obtain ⟨u, rfl, ru⟩ := vals1 r
  cases ru
  exact d_len I ha fun t s' I' => ⟨.int kvs.length, H, I', ⟨t, rfl⟩, q⟩
def rLEND : List D → (D → Prop) → Prop := fun ds KD => ∃ d, ds = [d] ∧ dicS d fun kvs => KD (.int kvs.length)
theorem j_lenDD (hm : X.mg "len" = none) (h : J m X W e we) (hg : Gl X "len" := by rfl) (hst : starEach [e] X.env = (false, eval e X.env) :: starEach [] X.env := by rfl) : J .fz X W (.Call (.Name "len" p) [e] [] pos) (wCall (wA we wA0) rLEND) :=
  j_blt (x := "len") call_lenR (fun ds KD vs H0 F H Q ⟨d, e, kvs, ed, q⟩ s ra k => by
    subst e ed
    obtain ⟨v, rfl, r⟩ := ra1 ra
    obtain ⟨a, ob, ws, rfl, h1, h2⟩ := rp_dic (res_rp (fun _ z => nomatch z) r)
    refine ⟨a, ws, rfl, .inr ⟨ob, s _ _ h1⟩, ?_⟩
    rw [pd_len h2]
    exact k _ q F H _ (Grow.refl s) (Rp.int _) : CbD [.rd] .fz X.K _ rLEND) hg hm PySem.boot_len (ja_cons h.rd ja_nil (by decide) hst) (he := hst)
/-- list(d), sorted(d) (int keys) -/
def rLISTD : List D → (D → Prop) → Prop := fun ds KD => ∃ d, ds = [d] ∧ dicS d fun kvs => KD (.list (kvs.map fun p => keyD p.1))
theorem rp_keyD {k : Key} : Rp K F (kV k) (keyD k) := by cases k <;> constructor
theorem pd_keys {K : Frag} {F : Hp} {ws : List (Key × V)} {kvs : List (Key × D)} (h : PD K F ws kvs) : RpAll K F (ws.map fun kv => kV kv.1) (kvs.map fun p => keyD p.1) := by
  induction h with
  | nil => exact .nil
  | @cons a b as bs h t ih =>
    have e : a.1 = b.1 := h.1
    rw [List.map_cons, List.map_cons, e]
    exact .cons rp_keyD ih
theorem j_listDD (hc : X.calm = true) (hm : X.mg "list" = none) (h : J m X W e we) (hg : Gl X "list" := by rfl) (hst : starEach [e] X.env = (false, eval e X.env) :: starEach [] X.env := by rfl) : J .nw X W (.Call (.Name "list" p) [e] [] pos) (wCall (wA we wA0) rLISTD) :=
  j_bty (call_listD hc) (fun ds KD vs H0 F H Q ⟨d, e, kvs, ed, q⟩ s ra k => by
    subst e ed
    obtain ⟨v, rfl, r⟩ := ra1 ra
    obtain ⟨a, ob, ws, rfl, h1, h2⟩ := rp_dic (res_rp (fun _ z => nomatch z) r)
    exact ⟨a, ws, rfl, .inr ⟨ob, s _ _ h1⟩, fun l nl => k _ q F _ _ (Grow.lay s nl) ⟨l, _, _, rfl, rfl, nl, none_of_same s nl, upd_same, pd_keys h2⟩⟩ : CbD [.rd] .nw X.K _ rLISTD) hg hm PyProof.Rows.boot_list (ja_cons h.rd ja_nil (by decide) hst) (he := hst)
def rSORTD : List D → (D → Prop) → Prop := fun ds KD => ∃ d, ds = [d] ∧ dicS d fun kvs => ∃ ks : List Int, kvs.map (·.1) = ks.map Sum.inl ∧ ks.length < 64 ∧ ∀ ys : List Int, ys.Perm ks → ys.Pairwise (· ≤ ·) → KD (.list (ys.map PyData.int))
theorem pd_fst {K : Frag} {F : Hp} {ws : List (Key × V)} {kvs : List (Key × D)} (h : PD K F ws kvs) : ws.map (·.1) = kvs.map (·.1) := by
  induction h with
  | nil => rfl
  | @cons a b as bs h t ih =>
    have e : a.1 = b.1 := h.1
    rw [List.map_cons, List.map_cons, e, ih]
theorem j_sortedDD (hc : X.calm = true) (hm : X.mg "sorted" = none) (h : J m X W e we) (hg : Gl X "sorted" := by rfl) (hst : starEach [e] X.env = (false, eval e X.env) :: starEach [] X.env := by rfl) : J .nw X W (.Call (.Name "sorted" p) [e] [] pos) (wCall (wA we wA0) rSORTD) :=
  j_blt (x := "sorted") (call_sortedDI hc) (fun ds KD vs H0 F H Q ⟨d, e, kvs, ed, ks, hk, hl, q⟩ s ra k => by
    subst e ed
    obtain ⟨v, rfl, r⟩ := ra1 ra
    obtain ⟨a, ob, ws, rfl, h1, h2⟩ := rp_dic (res_rp (fun _ z => nomatch z) r)
    exact ⟨a, ws, ks, rfl, .inr ⟨ob, s _ _ h1⟩, (pd_fst h2).trans hk, hl, fun ys l hp ho nl => k _ (q ys hp ho) F _ _ (Grow.lay s nl) ⟨l, _, _, rfl, rfl, nl, none_of_same s nl, upd_same, RpAll.ints ys⟩⟩ : CbD [.rd] .nw X.K _ rSORTD) hg hm (by decide +kernel) (ja_cons h.rd ja_nil (by decide) hst) (he := hst)
/-- for k in d -/
def wIKd (we : WE) : WI := fun E KI KX => we E (fun d => dicS d fun kvs => KI (kvs.map fun p => keyD p.1)) KX
theorem i_keysD (he : J m X W e we) : IJ X W tg e (wIKd we) := pi_imp (pi_keys he.rd) fun σ H R ⟨H0, F0, F, own, E, KI, KX, r, q, k, x⟩ =>
  ⟨H0, F0, F, own, E, _, KX, r, q, fun d ⟨kvs, ed, hd⟩ F' H' v g rs => by
    subst ed
    obtain ⟨a, ob, ws, rfl, h1, h2⟩ := rp_dic (res_rp (fun _ z => nomatch z) rs)
    have hlen := pd_len h2
    refine ⟨a, ob, rfl, .inl ⟨ws, g.fh _ _ h1, k _ hd F' H' _ g fun F2 H2 s1 s2 s3 => ?_⟩⟩
    have h3 : H2 a = some (.frz ob (.dK ws)) := s2 _ _ (s1 _ _ h1)
    refine ⟨fun i d e => ?_, ⟨h3, by rw [List.length_map, ← hlen]; exact Nat.le_refl _⟩⟩
    obtain ⟨kv, ekv, rkv⟩ := (pd_keys h2).get e
    rw [List.getElem?_map] at ekv
    cases ew : ws[i]? with
    | none => rw [ew] at ekv; cases ekv
    | some w =>
      rw [ew] at ekv
      cases ekv
      have hi : i < ws.length := (List.getElem?_eq_some_iff.mp ew).1
      refine ⟨⟨h3, hi⟩, fun y H3 ⟨eH, k', v', e1, e2⟩ => ?_⟩
      subst eH
      rw [ew] at e1
      cases e1
      subst e2
      exact ⟨F2, Grow.refl s2, Rp.mono s1 _ _ rkv⟩, x⟩
/-- for k, v in d.items() -/
def wIItd (we : WE) : WI := fun E KI KX => we E (fun d => dicS d fun kvs => KI (kvs.map fun p => .tuple [keyD p.1, p.2])) KX
theorem pd_get {K : Frag} {F : Hp} {ws : List (Key × V)} {kvs : List (Key × D)} (h : PD K F ws kvs) : ∀ {i : Nat} {q : Key × D}, kvs[i]? = some q → ∃ v, ws[i]? = some (q.1, v) ∧ Rp K F v q.2 := by
  induction h with
  | nil => intro i q e; simp at e
  | @cons a b as bs h t ih =>
    intro i q e
    cases i with
    | zero =>
      simp only [List.getElem?_cons_zero, Option.some.injEq] at e
      subst e
      refine ⟨a.2, ?_, h.2⟩
      rw [List.getElem?_cons_zero, ← h.1]
    | succ i =>
      simp only [List.getElem?_cons_succ] at e
      obtain ⟨v, h1, h2⟩ := ih e
      exact ⟨v, by simpa using h1, h2⟩
theorem i_itemsD {elts : List Expr} {kk : Nat} {tpos cpos : Pos} (he : J m X W e we) (hbase : attributeBase e "items" X.env (eval e X.env) = eval e X.env := by rfl) (hline : (apos.endLine == cpos.line) = true := by rfl) :
    IJ X W (.Tuple elts kk tpos) (.Call (.Attribute e "items" apos) [] [] cpos) (wIItd we) := pi_imp (pi_items he.rd hbase hline) fun σ H R ⟨H0, F0, F, own, E, KI, KX, r, q, k, x⟩ =>
  ⟨H0, F0, F, own, E, _, KX, r, q, fun d ⟨kvs, ed, hd⟩ F' H' v g rs => by
    subst ed
    obtain ⟨a, ob, ws, rfl, h1, h2⟩ := rp_dic (res_rp (fun _ z => nomatch z) rs)
    have hlen := pd_len h2
    refine ⟨a, ob, ws, rfl, g.fh _ _ h1, k _ hd F' H' _ g fun F2 H2 s1 s2 s3 => ?_⟩
    have h3 : H2 a = some (.frz ob (.dK ws)) := s2 _ _ (s1 _ _ h1)
    refine ⟨fun i d e => ?_, ⟨h3, by rw [List.length_map, ← hlen]; exact Nat.le_refl _⟩⟩
    rw [List.getElem?_map] at e
    cases eq : kvs[i]? with
    | none => rw [eq] at e; cases e
    | some q =>
      rw [eq] at e
      cases e
      obtain ⟨w, ew, rw'⟩ := pd_get h2 eq
      have hi : i < ws.length := (List.getElem?_eq_some_iff.mp ew).1
      refine ⟨⟨h3, hi⟩, fun y H3 ⟨T, k', v', e1, e2, nT, eH⟩ => ?_⟩
      rw [ew] at e1
      cases e1
      subst e2 eH
      exact ⟨_, Grow.layF s2 nT, .tup (SqT.of upd_same) (.cons rp_keyD (.cons (Rp.mono (s1.trans (same_upd (none_of_same s2 nT))) _ _ rw') .nil))⟩, x⟩
/-! ### calls -/
def slots : List Mo → List D → List Sl
  | m :: ms, d :: ds => slOf m d :: slots ms ds
  | _, _ => []
def slR : Mo → Sl → (D → Prop) → Prop
  | .nw, .ow ds, k => k (.list ds)
  | .fz, .fr d, k => k d
  | _, _, _ => False
theorem slots_ok {K : Frag} {F H : Hp} (s : Same F H) : ∀ {ms : List Mo} {vs : List V} {ds : List D}, (∀ m ∈ ms, m = .rd ∨ m = .fz) → ResAll K H F H ms vs ds → ArgsB K F H H (slots ms ds) vs (ms.map fun _ => [])
  | _, _, _, _, .nil => .nil
  | m :: ms, v :: vs, d :: ds, hm, .cons r t => by
    refine .cons ?_ (slots_ok s (fun m z => hm m (List.mem_cons_of_mem _ z)) t)
    rcases hm m List.mem_cons_self with rfl | rfl
    · cases d with
      | list es =>
        obtain ⟨q, xs, rfl, sq, ra⟩ := Res.list s r
        exact ⟨rfl, q, xs, rfl, sq, ra⟩
      | none => exact ⟨rfl, res_rp (fun _ z => nomatch z) r⟩
      | bool _ => exact ⟨rfl, res_rp (fun _ z => nomatch z) r⟩
      | int _ => exact ⟨rfl, res_rp (fun _ z => nomatch z) r⟩
      | str _ => exact ⟨rfl, res_rp (fun _ z => nomatch z) r⟩
      | tuple _ => exact ⟨rfl, res_rp (fun _ z => nomatch z) r⟩
      | dict _ => exact ⟨rfl, res_rp (fun _ z => nomatch z) r⟩
    · cases d <;> exact ⟨rfl, r⟩
theorem flat_nil {α β : Type} (l : List α) : (l.map fun _ => ([] : List β)).flatten = [] := by
  induction l with
  | nil => rfl
  | cons _ _ ih => rw [List.map_cons, List.flatten_cons, ih]; rfl
theorem ArgsB.app {K : Frag} {F B H : Hp} {ss : List Sl} {vs : List V} {fs : List (List Addr)} {ss2 : List Sl} {vs2 : List V} {fs2 : List (List Addr)} (a : ArgsB K F B H ss vs fs) (b : ArgsB K F B H ss2 vs2 fs2) : ArgsB K F B H (ss ++ ss2) (vs ++ vs2) (fs ++ fs2) := by
  induction a with
  | nil => exact b
  | cons h _ ih => exact .cons h ih
theorem slR_ok {K : Frag} {F' H H' : Hp} {mr : Mo} {s : Sl} {v : V} {fr : List Addr} {k : D → Prop} (h : slR mr s k) (o : OwnS K F' H' s v fr) (hf : ∀ p ∈ fr, F' p = none ∧ H p = none) : ∃ d, k d ∧ Res K H F' H' mr v d := by
  cases mr with
  | fz => cases s with
    | fr d => exact ⟨d, h, o.2⟩
    | _ => exact h.elim
  | nw => cases s with
    | ow ds =>
      obtain ⟨p, vs, rfl, rfl, h2, ra⟩ := o
      obtain ⟨a, b⟩ := hf p List.mem_cons_self
      exact ⟨_, h, p, vs, ds, rfl, rfl, b, a, h2, ra⟩
    | _ => exact h.elim
  | rd => cases s <;> exact h.elim
  | tk => cases s <;> exact h.elim
/-- a def that changes things of its own alone, from data to data -/
def wFnS (mr : Mo) (ms : List Mo) (ws : WA) (g : CtS) (ds0 : List D) : WE := fun E KD KX => ws E (fun ds => g (slots ms ds ++ ds0.map .fr) (fun s _ => slR mr s KD) (fun c _ => KX c)) KX
theorem dvs_ok {K : Frag} {F H : Hp} : ∀ {dvs : List V} {ds0 : List D}, RpAll K F dvs ds0 → ArgsB K F H H (ds0.map Sl.fr) dvs (ds0.map fun _ => [])
  | _, _, .nil => .nil
  | _, _, .cons h t => .cons ⟨rfl, h⟩ (dvs_ok t)
theorem data_call {K : Frag} {H F : Hp} {ms : List Mo} {vs dvs : List V} {ds ds0 : List D} {np : Nat} {g : CtS} {mr : Mo} {KD : D → Prop} {KX : Str → Prop} {Q : VK} {Ex : XK} (hms : ∀ m ∈ ms, m = .rd ∨ m = .fz) (hnp : ms.length + ds0.length = np) (s : Same F H) (rs : ResAll K H F H ms vs ds) (hd0 : RpAll K F dvs ds0)
    (h : g (slots ms ds ++ ds0.map .fr) (fun s _ => slR mr s KD) (fun c _ => KX c))
    (k : ∀ d, KD d → ∀ F' H' v, Grow F H F' H' → Res K H F' H' mr v d → Q v H') (x : ∀ c, KX c → ∀ F' H', Grow F H F' H' → Ex (.ref (cA K c)) none H') : spS np [] g K (vs ++ dvs) H Q Ex := by
  have a := (slots_ok s hms rs).app (dvs_ok hd0)
  have ef : (ms.map (fun _ => ([] : List Addr)) ++ ds0.map fun _ => []).flatten = [] := by rw [List.flatten_append, flat_nil, flat_nil]; rfl
  have hl : (slots ms ds).length = ms.length := by rw [(slots_ok s hms rs).len]; exact (resAll_len rs).1
  refine ⟨F, _, _, _, _, s, by rw [List.length_append, List.length_map, hl]; exact hnp, by rw [ef, erL_nil]; exact a, by rw [ef]; exact List.nodup_nil, by rw [ef]; exact (fun _ z => nomatch z), h, fun s' outs hs F' H' v fr fos g' os ol hnd hnone => ?_, fun c outs hc F' H' fos g' ol hnd hnone => ?_⟩
  · rw [ef, erL_nil] at g' hnone
    obtain ⟨d, hd, rd⟩ := slR_ok (H := H) hs os fun p hp => hnone p (List.mem_append_left _ hp)
    exact k d hd F' H' v g' rd
  · rw [ef, erL_nil] at g'
    exact x c hc F' H' g'
theorem j_callF {k : Nat} {f : Addr} {fd : FuncData} {ps : List Str} {np : Nat} {g : CtS} {x : Str} {mr : Mo} {dvs : List V} {dd : List Value} {ds0 : List D} (Fn : FnOk X.prog X.w X.K X.mg X.base (L2.CX X.prog X.w) k f fd ps (spS np [] g X.K)) (hr : Room k X.A) (hg : Gl X x) (hm : X.mg x = some (.ref f)) (hk : PySem.W.keepIn X.K (.ref f) = true)
    (hb : Binds X.K fd ps dd) (hd : Vals dvs dd) (hd0 : ∀ F, RpAll X.K F dvs ds0) (hx : ∀ σ, PassesAt (L2.CX X.prog X.w) X σ (L2.WE W σ)) (ha : JA ms X W (e :: es) ws) (hms : ∀ m ∈ ms, m = .rd ∨ m = .fz := by decide) (hnp : ms.length + ds0.length = np := by rfl)
    (hdb : (x == ("__debug__" : Str)) = false := by decide) (he : starEach (e :: es) X.env = (false, eval e X.env) :: starEach es X.env := by rfl) (hpl : (backTo pos (starEach es X.env)).any (·.1) = false := by rfl) :
    J mr X W (.Call (.Name x p) (e :: es) [] pos) (wFnS mr ms ws g ds0) :=
  pe_imp (pe_callSD Fn hr hg hm hk hb hd hx ha.1 hdb he hpl) fun σ H Q ⟨H0, F0, F, own, E, KD, KX, r, q, kk, xx⟩ =>
  ⟨H0, F0, F, own, E, _, KX, r, q, fun ds h F1 H1 vs g1 ra => data_call hms hnp g1.fh (ResAll.keep (Grow.refl g1.fh) ha.2 ra) (hd0 F1) h (fun d hd F2 H2 v g2 rs => kk d hd F2 H2 v (g1.trans g2) (rs.old g1.h)) fun c hc F2 H2 g2 => xx c hc F2 H2 (g1.trans g2), xx⟩
/-! methods of objects that are data -/
def wMethD (wo : WE) (ws : WA) (cn mn : Str) (g : Ct) : WE := fun E KD KX => wo E (fun d => (∃ kvs, d = objD cn kvs ∧ fget kvs mn = none) ∧ ws E (fun ds => g (d :: ds) KD KX) KX) KX
theorem j_methD {k : Nat} {f : Addr} {fd : FuncData} {ps : List Str} {g : Ct} {cn mn : Str} {dvs : List V} {dd : List Value} {ds0 : List D} {msd : List Mo} (Fn : FnOk X.prog X.w X.K X.mg X.base (L2.CX X.prog X.w) k f fd ps (spD (.fz :: (ms ++ msd)) m g X.K)) (hr : Room k X.A) (c : Cls X.K (cA X.K cn)) (hmt : Meth X.K (cA X.K cn) mn f)
    (hb : Binds X.K fd ps dd) (hd : Vals dvs dd) (hdr : ∀ H F, ResAll X.K H F H msd dvs ds0) (hx : ∀ σ, PassesAt (L2.CX X.prog X.w) X σ (L2.WE W σ)) (ho : J .fz X W o wo) (ha : JA ms X W (e :: es) ws) {pl : Sem Bool}
    (hst : starEach (e :: es) X.env = (false, eval e X.env) :: starEach es X.env := by rfl) (hpl : (backTo pos (starEach es X.env)).any (·.1) = false := by rfl)
    (ht : eval (.Call (.Attribute o mn apos) (e :: es) [] pos) X.env = (do
      let ov ← eval o X.env
      standAt apos.atName
      let (f, first) ← holding [ov] (getMethod ov mn pl)
      callWith pos f first (backTo pos (starEach (e :: es) X.env)) (backToKw pos (keywordEach [] X.env))) := by rfl) :
    J m X W (.Call (.Attribute o mn apos) (e :: es) [] pos) (wMethD wo ws cn mn fun ds => g (ds ++ ds0)) :=
  pe_imp (pe_methSD (pl := pl) ho c hmt Fn hr hb hd hx ha.1 hst hpl ht) fun σ H Q ⟨H0, F0, F, own, E, KD, KX, r, q, kk, xx⟩ =>
  ⟨H0, F0, F, own, E, _, KX, r, q, fun d ⟨⟨kvs, ed, hn⟩, hd1⟩ F1 H1 v g1 rs => by
    subst ed
    have rp : Rp X.K F1 v (objD cn kvs) := rs
    obtain ⟨a, dx, fs, rfl, h1, h2, h3, h4⟩ := rp_obj rp
    refine ⟨a, dx, fs, rfl, g1.fh _ _ h1, h4.none hn, H0, F0, F1, own, E, _, KX, r.grow g1, hd1, fun ds hd2 F2 H2 vs g2 ra => ?_, fun c hc F2 H2 g2 => xx c hc F2 H2 (g1.trans g2)⟩
    have g12 := g1.trans g2
    exact ⟨F2, _ :: (ds ++ ds0), KD, KX, g2.fh, .cons (Rp.mono g2.f _ _ rp) (resAll_app (ResAll.keep (Grow.refl g2.fh) ha.2 ra) (hdr H2 F2)), hd2, fun d hd F3 H3 v g3 rs => kk d hd F3 H3 v (g12.trans g3) (rs.old g12.h), fun c hc F3 H3 g3 => xx c hc F3 H3 (g12.trans g3)⟩, xx⟩
def wMeth0D (wo : WE) (cn mn : Str) (g : Ct) : WE := fun E KD KX => wo E (fun d => (∃ kvs, d = objD cn kvs ∧ fget kvs mn = none) ∧ g [d] KD KX) KX
theorem j_meth0D {k : Nat} {f : Addr} {fd : FuncData} {ps : List Str} {g : Ct} {cn mn : Str} (Fn : FnOk X.prog X.w X.K X.mg X.base (L2.CX X.prog X.w) k f fd ps (spD [.fz] m g X.K)) (hr : Room k X.A) (c : Cls X.K (cA X.K cn)) (hmt : Meth X.K (cA X.K cn) mn f)
    (hb : Binds X.K fd ps []) (hx : ∀ σ, PassesAt (L2.CX X.prog X.w) X σ (L2.WE W σ)) (ho : J .fz X W o wo) {pl : Sem Bool}
    (ht : eval (.Call (.Attribute o mn apos) [] [] pos) X.env = (do
      let ov ← eval o X.env
      standAt apos.atName
      let (f, first) ← holding [ov] (getMethod ov mn pl)
      callWith pos f first (backTo pos (starEach [] X.env)) (backToKw pos (keywordEach [] X.env))) := by rfl) :
    J m X W (.Call (.Attribute o mn apos) [] [] pos) (wMeth0D wo cn mn g) :=
  pe_imp (pe_meth0SD (pl := pl) ho c hmt Fn hr hb .nil hx ht) fun σ H Q ⟨H0, F0, F, own, E, KD, KX, r, q, kk, xx⟩ =>
  ⟨H0, F0, F, own, E, _, KX, r, q, fun d ⟨⟨kvs, ed, hn⟩, hd1⟩ F1 H1 v g1 rs => by
    subst ed
    have rp : Rp X.K F1 v (objD cn kvs) := rs
    obtain ⟨a, dx, fs, rfl, h1, h2, h3, h4⟩ := rp_obj rp
    refine ⟨a, dx, fs, rfl, g1.fh _ _ h1, h4.none hn, ?_⟩
    exact ⟨F1, [_], KD, KX, g1.fh, .cons rp .nil, hd1, fun d hd F3 H3 v g3 rs => kk d hd F3 H3 v (g1.trans g3) (rs.old g1.h), fun c hc F3 H3 g3 => xx c hc F3 H3 (g1.trans g3)⟩, xx⟩
/-! a new object that nobody changes behind its __init__ -/
def wMakeF (cn : Str) (ms : List Mo) (ws : WA) (g : CtS) (ds0 : List D) : WE := fun E KD KX => ws E (fun ds => ∀ x, g (.tr (.ref x) (.nd x (.ob cn []) []) :: (slots ms ds ++ ds0.map .fr)) (fun s outs => s = .fr .none ∧ ∃ (ns : List Str) (ds' : List D), outs = [.tr (.ref x) (.nd x (.ob cn ns) (ds'.map Tr.d))] ∧
  KD (objD cn (List.zip (ns.map PyData.str) ds'))) (fun c _ => KX c)) KX
theorem rpDs_zip {K : Frag} {F : Hp} : ∀ {fs : List (Str × V)} {ds : List D}, RpAll K F (fs.map (·.2)) ds → RpDs K F (fkeys fs) (List.zip ((fs.map (·.1)).map PyData.str) ds)
  | [], _, h => by cases h; exact .nil
  | (f, v) :: fs, _, h => by
    have h' : RpAll K F (v :: fs.map (·.2)) _ := h
    cases h' with
    | cons h1 h2 => exact .cons h1 (rpDs_zip h2)
theorem j_makeF {k : Nat} {f : Addr} {fd : FuncData} {ps : List Str} {np : Nat} {g : CtS} {x cn : Str} {dvs : List V} {dd : List Value} {ds0 : List D} (M : Mk X.K (cA X.K cn) f) (ic : InsOk X.K cn) (Fn : FnOk X.prog X.w X.K X.mg X.base (L2.CX X.prog X.w) k f fd ps (spS np [0] g X.K)) (hr : Room (k + 1) X.A) (hg : Gl X x) (hm : X.mg x = some (.ref (cA X.K cn)))
    (hb : Binds X.K fd ps dd) (hd : Vals dvs dd) (hd0 : ∀ F, RpAll X.K F dvs ds0) (hx : ∀ σ, PassesAt (L2.CX X.prog X.w) X σ (L2.WE W σ)) (ha : JA ms X W (e :: es) ws) (hms : ∀ m ∈ ms, m = .rd ∨ m = .fz := by decide) (hnp : 1 + (ms.length + ds0.length) = np := by rfl)
    (hdb : (x == ("__debug__" : Str)) = false := by decide) (he : starEach (e :: es) X.env = (false, eval e X.env) :: starEach es X.env := by rfl) (hpl : (backTo pos (starEach es X.env)).any (·.1) = false := by rfl) :
    J .fz X W (.Call (.Name x p) (e :: es) [] pos) (wMakeF cn ms ws g ds0) :=
  pe_imp (pe_makeSD M Fn hr hg hm hb hd hx ha.1 hdb he hpl) fun σ H Q ⟨H0, F0, F, own, E, KD, KX, r, q, kk, xx⟩ =>
  ⟨H0, F0, F, own, E, _, KX, r, q, fun ds h F1 H1 vs g1 ra x dx nx ndx nedx => by
    have gl1 : Grow F1 H1 F1 (upd H1 dx (.own x)) := Grow.lay g1.fh ndx
    have nx' : upd H1 dx (.own x) x = none := by rw [upd_ne (Ne.symm nedx)]; exact nx
    have gl2 : Grow F1 (upd H1 dx (.own x)) F1 (upd (upd H1 dx (.own x)) x (.ins (cA X.K cn) dx [])) := Grow.lay gl1.fh nx'
    have gl := gl1.trans gl2
    have ra1 := ResAll.keep gl ha.2 ra
    have a := (slots_ok gl.fh hms ra1).app (dvs_ok (H := upd (upd H1 dx (.own x)) x (.ins (cA X.K cn) dx [])) (hd0 F1))
    have ef : (ms.map (fun _ => ([] : List Addr)) ++ ds0.map fun _ => []).flatten = [] := by rw [List.flatten_append, flat_nil, flat_nil]; rfl
    have ef2 : ([x] :: (ms.map (fun _ => ([] : List Addr)) ++ ds0.map fun _ => [])).flatten = [x] := by rw [List.flatten_cons, ef]; rfl
    have hl : (slots ms ds).length = ms.length := by rw [(slots_ok gl.fh hms ra1).len]; exact (resAll_len ra1).1
    have eH : erL (upd (upd H1 dx (.own x)) x (.ins (cA X.K cn) dx [])) [x] = upd H1 dx (.own x) := by
      funext b
      by_cases hb : b = x
      · subst hb; rw [erL_in List.mem_cons_self, nx']
      · rw [erL_out (by simpa using hb), upd_ne hb]
    have aB : ArgsB X.K F1 (upd H1 dx (.own x)) (upd (upd H1 dx (.own x)) x (.ins (cA X.K cn) dx [])) (slots ms ds ++ ds0.map .fr) (vs ++ dvs) (ms.map (fun _ => ([] : List Addr)) ++ ds0.map fun _ => []) := by
      have a0 := (slots_ok gl1.fh hms (ResAll.keep gl1 ha.2 ra)).app (dvs_ok (H := upd H1 dx (.own x)) (hd0 F1))
      have mono : ∀ {B H2 : Hp} {ss : List Sl} {vs : List V} {fs : List (List Addr)}, fs.flatten = [] → ArgsB X.K F1 B B ss vs fs → ArgsB X.K F1 B H2 ss vs fs := by
        intro B H2 ss vs fs hfs z
        induction z with
        | nil => exact .nil
        | @cons s ss v vs f fs z1 z2 ih =>
          rw [List.flatten_cons] at hfs
          obtain ⟨e1, e2⟩ := List.append_eq_nil_iff.mp hfs
          subst e1
          refine .cons ?_ (ih e2)
          cases s with
          | bo ds => exact z1
          | un => exact z1
          | fr _ => exact z1
          | ow _ => obtain ⟨_, _, _, z, _⟩ := z1; cases z
          | dk _ => obtain ⟨_, _, _, z, _⟩ := z1; cases z
          | tr u t => exact ⟨z1.1, z1.2.1.mono (Same.refl _) fun _ hp => (nomatch hp), List.nodup_nil⟩
          | dt _ => exact z1.elim
          | bt _ _ => exact z1.elim
      exact mono ef a0
    refine ⟨F1, _, [x] :: (ms.map (fun _ => []) ++ ds0.map fun _ => []), _, _, gl.fh, ?_, .cons (s := .tr (.ref x) (.nd x (.ob cn []) [])) ⟨rfl, .nd upd_same ⟨ic, (fun _ z => nomatch z), dx, [], rfl, rfl⟩ .nil, by simp⟩ (by rw [ef2, eH]; exact aB), by rw [ef2]; simp, ?_, h x, fun s' outs ⟨es, ns, ds', eo, hk⟩ F' H' v fr fos g' os ol hnd hnone => ?_, fun c outs hc F' H' fos g' ol hnd hnone => ?_⟩
    · rw [List.length_cons, List.length_append, List.length_map, hl]; omega
    · rw [ef2]
      intro p hp
      rw [List.mem_singleton.mp hp]
      exact none_of_same gl1.fh nx'
    · subst es eo
      have : v = .non := by obtain ⟨_, rp⟩ := os; cases rp; rfl
      subst this
      refine ⟨rfl, ?_⟩
      rw [ef2, eH] at g' hnone
      cases ol with
      | @cons _ _ _ _ f1 fs1 o1 o2 =>
        obtain ⟨_, hT, _⟩ := o1
        obtain ⟨_, ob, fp2, hob, ⟨_, na, dx', fs', rfl, ens⟩, ha', efp⟩ := nd_at hT
        have hx : x ∈ fr ++ (f1 :: fs1).flatten := by rw [List.flatten_cons, efp]; simp
        have nF : F' x = none := (hnone x hx).1
        obtain ⟨rall, _⟩ := trAll_d ha'
        subst ens
        refine kk _ hk (upd F' x (.ins (cA X.K cn) dx' fs')) H' _ ?_ ?_
        · exact (g1.trans (gl1.trans g')).freeze (none_of_same g1.h nx) nF hob
        · refine .obj upd_same ic (fun kv hkv => na kv.1 (List.mem_map_of_mem hkv)) ?_
          exact rpDs_zip (RpAll.mono (same_upd nF) _ _ rall)
    · rw [ef2, eH] at g'
      exact xx c hc F' H' (g1.trans (gl1.trans g')), xx⟩
end
end
end Tb

set_option Elab.async false
set_option linter.all false
set_option maxRecDepth 100000
set_option maxHeartbeats 2000000
/-! ### new objects as trees; methods of what is lent; things frozen; dicts walked -/
namespace L2
open PySem PySem.Spec PyProof.Rows
/-- dicts locked for good -/
def lockH (od : Addr → Obj) (L : List Addr) (H : Hp) : Hp := fun a => if a ∈ L then (H a).map (.frz (od a)) else H a
theorem Inv.locks {X : Cx} {pins : List (Addr × Obj)} {σ : St} {s : Shared} : ∀ {L : List Addr} {H : Hp}, Inv X pins σ H s → L.Nodup → (∀ d ∈ L, ∃ ws, H d = some (.dK ws)) → ∃ od, Inv X pins σ (lockH od L H) s
  | [], H, I, _, _ => ⟨fun _ => default, by
      have : lockH (fun _ => default) [] H = H := by funext a; unfold lockH; simp
      rw [this]; exact I⟩
  | d :: L, H, I, hn, h => by
    obtain ⟨n1, n2⟩ := List.nodup_cons.mp hn
    obtain ⟨ws, hd⟩ := h d List.mem_cons_self
    obtain ⟨od0, I1⟩ := I.lock hd True.intro
    obtain ⟨od, I2⟩ := Inv.locks (L := L) I1 n2 fun b hb => by
      obtain ⟨w, e⟩ := h b (List.mem_cons_of_mem _ hb)
      exact ⟨w, by rw [upd_ne (fun z => n1 (by rw [← z]; exact hb))]; exact e⟩
    refine ⟨fun a => if a = d then od0 else od a, ?_⟩
    have e : lockH (fun a => if a = d then od0 else od a) (d :: L) H = lockH od L (upd H d (.frz od0 (.dK ws))) := by
      funext a
      unfold lockH
      by_cases ha : a = d
      · subst ha
        rw [if_pos List.mem_cons_self, if_neg n1, upd_same, hd]
        show some (HO.frz (if a = a then od0 else od a) (.dK ws)) = _
        rw [if_pos rfl]
      · rw [upd_ne ha]
        by_cases hb : a ∈ L
        · rw [if_pos (List.mem_cons_of_mem _ hb), if_pos hb]
          show Option.map (HO.frz (if a = d then od0 else od a)) (H a) = _
          rw [if_neg ha]
        · rw [if_neg (fun z => by
            rcases List.mem_cons.mp z with z | z
            · exact ha z
            · exact hb z), if_neg hb]
    rw [e]; exact I2
theorem ps_locks {X : Cx} {st : Stmt} {t : TS} (h : PS X st t) : PS X st (fun D σ H => ∃ L : List Addr, L.Nodup ∧ (∀ d ∈ L, ∃ ws, H d = some (.dK ws)) ∧ ∀ od, t D σ (lockH od L H)) := by
  refine ⟨fun pins s σ H D I ⟨L, hn, hd, hw⟩ => ?_⟩
  obtain ⟨od, I1⟩ := I.locks hn hd
  exact h.run pins s σ _ D I1 (hw od)
end L2
namespace Tb
section
open PySem PySem.Spec L2 RT
section
variable {X : Cx} {W : WX} {a b c e e2 xe ke tg : Expr} {es : List Expr} {pos p p2 : Pos} {m ma mb m1 m2 : Mo} {we we2 wa wb wk wo : WE} {wi : WI} {wt : WT} {E : List Sl} {KD : D → Prop} {KX : Str → Prop} {C : EndsD} {wp : WP}
/-- what is walked while nobody changes anything -/
def tIc (K : Frag) (W : WX) (w : WI) : TI := fun σ H R => ∃ H0 F0 F own E KI KX, Rel K H0 F0 F own E σ H ∧ w E KI KX ∧
  (∀ ds, KI ds → ∀ F' H' I, Grow F H F' H' → ItOk K H' F' I ds → R I H') ∧ (∀ c, KX c → ∀ F' H', Grow F H F' H' → W (.ref (cA K c)) none σ H')
def IJc (X : Cx) (W : WX) (tg e : Expr) (w : WI) : Prop := PI X tg e (tIc X.K W w)
theorem lcC_rd {pt : Pt} {ws : List Nat} {σ : St} {H : Hp} {Q : VK} (hws : ∀ i ∈ pt.is, i ∈ ws) (h : tJ .nw X.K W (wLc wi pt wt we ws) σ H Q) :
    tLc (tIc X.K W wi) (pt.g X.K) (tJT X.K W0 wt) (tJ .fz X.K W0 we) ws σ H Q := by
  obtain ⟨H0, F0, F, own, E, KD, KX, r, q, k, x⟩ := h
  refine ⟨H0, F0, F, own, E, _, _, r, q, fun ds ⟨hl, f, step, done⟩ F1 H1 J g ok P nP => ?_, x⟩
  have r1 := r.grow g
  have nF1 : F1 P = none := none_of_same g.fh nP
  refine ⟨fun i n Hc => ∃ Fc acc, Grow F1 H1 Fc (er Hc P) ∧ Hc P = some (.lst acc) ∧ Fc P = none ∧ RpAll X.K Fc acc ((ds.take i).filterMap f) ∧ i ≤ ds.length ∧ n = ds.length - i, ⟨_, F1, [], ?_, upd_same, nF1, .nil, Nat.zero_le _, rfl⟩, ?_⟩
  · rw [er_upd, er_none nP]; exact Grow.refl g.fh
  rintro i n Hc ⟨Fc, acc, gc, eP, nFc, ra, hle, rfl⟩
  have gc' : Grow F1 H1 Fc Hc := Grow.unEr (o' := .lst []) gc nP eP
  have rc := r1.grow gc'
  obtain ⟨go, stop⟩ := ok Fc Hc gc'.f gc'.fh gc'.h
  by_cases hlt : i < ds.length
  · have ed : ds[i]? = some ds[i] := List.getElem?_eq_getElem hlt
    obtain ⟨g1, yl⟩ := go i ds[i] ed
    refine .inr ⟨g1, fun H' => ∃ F' acc', Grow F1 H1 F' (er H' P) ∧ H' P = some (.lst acc') ∧ F' P = none ∧ RpAll X.K F' acc' ((ds.take (i + 1)).filterMap f), fun H' ⟨F', acc', a1, a2, a3, a4⟩ => ⟨ds.length - (i + 1), by omega, F', acc', a1, a2, a3, a4, hlt, rfl⟩, fun xv H' y => ?_⟩
    obtain ⟨F2, g2, rp⟩ := yl xv H' y
    obtain ⟨ownw, rw'⟩ := (rc.grow g2).wipes ws
    have tk : (ds.take (i + 1)).filterMap f = (ds.take i).filterMap f ++ (match f ds[i] with | some y => [y] | none => []) := by
      rw [List.take_add_one, ed, List.filterMap_append]
      congr 1
      show List.filterMap f [ds[i]] = _
      rw [List.filterMap_cons]
      cases f ds[i] <;> rfl
    refine pt.run rw' rp (step ds[i] (List.getElem_mem hlt)) fun own' E' vs r' h' => ?_
    refine ⟨by rw [wipe_sets _ _ _ hws, wipe_wipe], H0, F0, F2, own', E', _, _, r', h', fun b hb F3 H3 g3 => ?_, fun c hc => hc.elim⟩
    have g23 := g2.trans g3
    cases b with
    | false =>
      refine iteF ?_
      have hb' : f ds[i] = none := hb
      obtain ⟨q1, q2, q3⟩ := g23.er nFc eP
      exact ⟨F3, acc, gc.trans q1, q3, q2, by rw [tk, hb', List.append_nil]; exact RpAll.mono g23.f _ _ ra⟩
    | true =>
      refine iteT ⟨H0, F0, F3, own', E', _, _, r'.grow g3, hb, fun yv hy F4 H4 v g4 rs => ?_, fun c hc => hc.elim⟩
      have g24 := g23.trans g4
      obtain ⟨q1, q2, q3⟩ := g24.er nFc eP
      refine ⟨acc, q3, ?_, F4, acc ++ [v], by rw [er_upd]; exact gc.trans q1, upd_same, q2, ?_⟩
      · have h1 := List.length_filterMap_le f (ds.take i)
        rw [List.length_take] at h1
        rw [ra.len]
        omega
      · rw [tk, hy]
        exact (RpAll.mono g24.f _ _ ra).append (.cons rs .nil)
  · have e : i = ds.length := by omega
    subst e
    refine .inl ⟨stop, k _ done Fc Hc _ (g.trans gc') ⟨P, acc, _, rfl, rfl, none_of_same g.h nP, nFc, eP, ?_⟩⟩
    rw [List.take_length] at ra
    exact ra
theorem j_lcC {scope : Scope} {own : List (Str × Nat)} {pt : Pt} {ifs : List Expr} (hc : X.calm = true) (hN : X.N.Nodup) (hi : IJc X W tg e wi) (ok : BlkOk X.N X.env.scope scope own)
    (hg : ∀ (s : Shared) (H : Hp) (C : Addr) (cl : List (Str × Addr)) (fp : List Addr), PG (X.blk s H scope (compEnvC scope cl C X.env) fp) tg (pt.g X.K))
    (ht : ∀ (s : Shared) (H : Hp) (C : Addr) (cl : List (Str × Addr)) (fp : List Addr), PTs (X.blk s H scope (compEnvC scope cl C X.env) fp) ifs (tJT X.K W0 wt))
    (he : ∀ (s : Shared) (H : Hp) (C : Addr) (cl : List (Str × Addr)) (fp : List Addr), J .fz (X.blk s H scope (compEnvC scope cl C X.env) fp) W0 e2 we) (hws : ∀ i ∈ pt.is, i ∈ own.map (·.2)) (hs : ∀ x, foldedSetIterable e X.env x = pure x := by intro _; rfl) :
    J .nw X W (.ListComp e2 [⟨tg, e, ifs, 0⟩] scope pos) (wLc wi pt wt we (own.map (·.2))) :=
  pe_imp (pe_lc (te := tJ .fz X.K W0 we) hc hN hi ok hg ht he hs) fun _ _ _ h => lcC_rd hws h
/-- name = [..] -/
theorem s_setLcC {i : Nat} {y : Str} {py spos : Pos} {scope : Scope} {own : List (Str × Nat)} {pt : Pt} {ifs : List Expr} (hc : X.calm = true) (hN : X.N.Nodup) (hsw : swapsWith (.ListComp e2 [⟨tg, e, ifs, 0⟩] scope pos) (some (.Name y py)) spos.line X.env = pure true) (hi : IJc X W tg e wi) (ok : BlkOk X.N X.env.scope scope own)
    (hg : ∀ (s : Shared) (H : Hp) (C : Addr) (cl : List (Str × Addr)) (fp : List Addr), PG (X.blk s H scope (compEnvC scope cl C X.env) fp) tg (pt.g X.K))
    (ht : ∀ (s : Shared) (H : Hp) (C : Addr) (cl : List (Str × Addr)) (fp : List Addr), PTs (X.blk s H scope (compEnvC scope cl C X.env) fp) ifs (tJT X.K W0 wt))
    (he : ∀ (s : Shared) (H : Hp) (C : Addr) (cl : List (Str × Addr)) (fp : List Addr), J .fz (X.blk s H scope (compEnvC scope cl C X.env) fp) W0 e2 we) (hws : ∀ i ∈ pt.is, i ∈ own.map (·.2)) (hy : X.N[i]? = some y := by rfl) (hyl : X.env.scope.names.lookup y = some .local := by rfl) (hs : ∀ x, foldedSetIterable e X.env x = pure x := by intro _; rfl) :
    S m X W (.Assign [.Name y py] (.ListComp e2 [⟨tg, e, ifs, 0⟩] scope pos) spos) (wSetO i (wLc wi pt wt we (own.map (·.2)))) :=
  ps_imp (ps_setLc (te := tJ .fz X.K W0 we) hc hN hy hyl hsw hi ok hg ht he hs) fun DD σ H h => by
    obtain ⟨H0, F0, F, own', E, C, r, q, kn, kb, kc, kr, kx⟩ := h
    exact lcC_rd hws ⟨H0, F0, F, own', E, _, _, r, q, fun d ⟨ds, ed, hd⟩ F' H' v g rs => by
      subst ed
      obtain ⟨ds', own'', e, r'⟩ := r.putOw (i := i) g rs
      cases e
      exact kn _ _ _ _ _ r' hd, fun c hc F' H' g => kx c _ _ _ _ _ (r.grow g) hc⟩



/-- the keys of a dict at a place, which is locked -/
def wIKp (wp : WP) : WI := fun E KI KX => wp E (fun _ _ s => ∃ p od ws ts, s = .nd p (.dkL od ws) ts ∧ KI (ws.map fun kv => keyD kv.1)) KX
theorem ic_keysP (he : PJ X W e wp) : IJc X W tg e (wIKp wp) := pi_imp (pi_keys he) fun σ H R ⟨H0, F0, F, own, E, KI, KX, r, q, k, x⟩ =>
  ⟨H0, F0, F, own, E, _, KX, r, q, fun i π s v t ⟨p, od, ws, ts, es, hd⟩ hT hg F' H' u g w => by
    subst es
    obtain ⟨w', o, fp, ho, hn, ha⟩ := node_at (r.grow g) hT hg
    rw [w] at w'; cases w'
    have hn' : o = .frz od (.dK ws) := hn
    subst hn'
    refine ⟨p, od, rfl, .inl ⟨ws, ho, k _ hd F' H' _ g fun F2 H2 s1 s2 s3 => ?_⟩⟩
    have h3 := s3 _ _ ho
    refine ⟨fun i d e => ?_, ⟨h3, by rw [List.length_map]; exact Nat.le_refl _⟩⟩
    rw [List.getElem?_map] at e
    cases ew : ws[i]? with
    | none => rw [ew] at e; cases e
    | some w =>
      rw [ew] at e
      cases e
      refine ⟨⟨h3, (List.getElem?_eq_some_iff.mp ew).1⟩, fun y H3 ⟨eH, k', v', e1, e2⟩ => ?_⟩
      subst eH
      rw [ew] at e1
      cases e1
      subst e2
      exact ⟨F2, Grow.refl s2, rp_keyD⟩, x⟩
end
/-- the statement runs while a dict of a tree is locked -/
def wLock (w : WSS) : WSS := fun C E => ∃ j π v t p ks ts, E[j]? = some (.tr v t) ∧ t.get π = some (.nd p (.dk ks) ts) ∧ ∀ od ws, ws.map (·.1) = ks → w { nx := fun E' => ∃ v' t' ts', E'[j]? = some (.tr v' t') ∧ t'.get π = some (.nd p (.dkL od ws) ts') ∧ C.nx (E'.set j (.tr v' (t'.put π (.nd p (.dk ks) ts')))), rt := fun _ _ => False } (E.set j (.tr v (t.put π (.nd p (.dkL od ws) ts))))
section
variable {X : Cx} {W : WX} {a b c e e2 xe ke tg : Expr} {es : List Expr} {pos p p2 : Pos} {m : Mo} {ms : List Mo} {wi : WI} {st : Stmt} {w : WSS} {ws : WA} {E : List Sl}
theorem kids_same {K : Frag} {F H0 H : Hp} {own : Own} {p : Addr} {o o' : HO} {ts : List Tr} (hk : kids o' = kids o) : ∀ fp0, TrAll K F H (kids o) ts fp0 → p ∉ fp0 → fp0.Nodup →
    ∃ fp1, TrAll K F (upd H p o') (kids o') ts fp1 ∧ fp1.Nodup ∧ p ∉ fp1 ∧ ∀ q ∈ fp1, q ∈ fp0 ∨ (H q ≠ none ∧ F q = none ∧ H0 q = none ∧ ∀ j, own q ≠ some j) := fun fp0 h np n0 =>
  ⟨fp0, by rw [hk]; exact h.mono (Same.refl _) fun q hq o2 e2 => by rw [upd_ne (fun z : q = p => np (by rw [← z]; exact hq))]; exact e2, n0, np, fun q hq => .inl hq⟩
theorem t_lock (h : T1 X W st w) : T1 X W st (wLock w) := ps_imp (ps_lock h) fun DD σ H ⟨H0, F0, F, own, E, C, r, ⟨j, π, v, t, p, ks, ts, ej, eg, hw⟩, kn, kb, kc, kr, kx⟩ => by
  obtain ⟨_, o, fp, ho, ⟨ws, rfl, ek⟩, ha⟩ := node_at r ej eg
  refine ⟨p, _, ho, True.intro, fun od => ?_⟩
  obtain ⟨own', r2⟩ := Rel.chgT (h' := .dkL od ws) (o' := .frz od (.dK ws)) (ts' := ts) r ej eg ho rfl fun fp0 hall np n0 o0 op => kids_same rfl fp0 hall np n0
  refine ⟨H0, F0, F, own', _, _, r2, hw od ws ek, ?_, ?_, ?_, ?_, ?_⟩
  · rintro F' own2 E' σ' H' r' ⟨v', t', ts', ej', eg', hn⟩
    obtain ⟨_, o2, fp2, ho2, hn2, ha2⟩ := node_at r' ej' eg'
    have hn2' : o2 = .frz od (.dK ws) := hn2
    subst hn2'
    obtain ⟨own3, r3⟩ := Rel.chgT (h' := .dk ks) (o' := .dK ws) (ts' := ts') r' ej' eg' ho2 ⟨ws, rfl, ek⟩ fun fp0 hall np n0 o0 op => kids_same rfl fp0 hall np n0
    exact ⟨ho2, kn _ _ _ _ _ r3 hn⟩
  · exact fun _ _ _ _ _ _ z => z.elim
  · exact fun _ _ _ _ _ _ z => z.elim
  · exact fun _ _ z => z.elim
  · exact fun _ _ _ _ _ _ _ z => z.elim
end
/-! ### things frozen -/
mutual
def datT : Tr → Option D
  | .d x => some x
  | .hl _ => none
  | .nd _ .lst ts => (datTs ts).map PyData.list
  | .nd _ (.ob c ns) ts => (datTs ts).map fun ds => objD c (List.zip (ns.map PyData.str) ds)
  | .nd _ (.dk ks) ts => (datTs ts).map fun ds => dicK (List.zip ks ds)
  | .nd _ (.dkL _ _) _ => none
  | .nd _ (.dt _) _ => none
def datTs : List Tr → Option (List D)
  | [] => some []
  | t :: ts => match datT t, datTs ts with
    | some d, some ds => some (d :: ds)
    | _, _ => none
end
def lockO (od : Addr → Obj) (p : Addr) : HO → HO
  | .dK ws => .frz (od p) (.dK ws)
  | o => o
section
variable {K : Frag} {H0 F0 F F' H H' : Hp} {own : Own} {E : List Sl} {σ : L2.St}
theorem rpAll_zipK : ∀ {ws : List (Key × V)} {ds : List D}, RpAll K F (ws.map (·.2)) ds → PD K F ws (List.zip (ws.map (·.1)) ds)
  | [], _, h => by cases h; exact .nil
  | (k, v) :: ws, _, h => by
    have h' : RpAll K F (v :: ws.map (·.2)) _ := h
    cases h' with
    | cons h1 h2 => exact .cons ⟨rfl, h1⟩ (rpAll_zipK h2)
theorem TrOk.frozen {od : Addr → Obj} (e : Same F F') {v : V} {t : Tr} {fp : List Addr} (h : TrOk K F H v t fp) : ∀ d, datT t = some d → (∀ p ∈ fp, F' p = H' p) → (∀ p ∈ fp, ∀ o, H p = some o → H' p = some (lockO od p o)) → Rp K F' v d :=
  TrOk.rec (motive_1 := fun v t fp _ => ∀ d, datT t = some d → (∀ p ∈ fp, F' p = H' p) → (∀ p ∈ fp, ∀ o, H p = some o → H' p = some (lockO od p o)) → Rp K F' v d)
    (motive_2 := fun vs ts fp _ => ∀ ds, datTs ts = some ds → (∀ p ∈ fp, F' p = H' p) → (∀ p ∈ fp, ∀ o, H p = some o → H' p = some (lockO od p o)) → RpAll K F' vs ds)
    (fun {v x} r d ed _ _ => by
      simp only [datT, Option.some.injEq] at ed
      subst ed
      exact Rp.mono e _ _ r)
    (fun {v} d ed _ _ => by simp [datT] at ed)
    (fun {p o h ts fp} h1 h2 h3 ih d ed hF hH => by
      have eF : F' p = some (lockO od p o) := by rw [hF p List.mem_cons_self]; exact hH p List.mem_cons_self _ h1
      have kF : ∀ q ∈ fp, F' q = H' q := fun q hq => hF q (List.mem_cons_of_mem _ hq)
      have kH : ∀ q ∈ fp, ∀ o, H q = some o → H' q = some (lockO od q o) := fun q hq => hH q (List.mem_cons_of_mem _ hq)
      cases h with
      | lst =>
        simp only [datT, Option.map_eq_some_iff] at ed
        obtain ⟨ds, e1, rfl⟩ := ed
        obtain ⟨xs, rfl⟩ := h2
        exact .lst eF (ih ds e1 kF kH)
      | ob c ns =>
        simp only [datT, Option.map_eq_some_iff] at ed
        obtain ⟨ds, e1, rfl⟩ := ed
        obtain ⟨ic, na, dx, fs, rfl, ens⟩ := h2
        subst ens
        exact .obj eF ic (fun kv hkv => na kv.1 (List.mem_map_of_mem hkv)) (rpDs_zip (ih ds e1 kF kH))
      | dk ks =>
        simp only [datT, Option.map_eq_some_iff] at ed
        obtain ⟨ds, e1, rfl⟩ := ed
        obtain ⟨ws, rfl, ek⟩ := h2
        subst ek
        exact .dic eF (pd_rpDs (rpAll_zipK (ih ds e1 kF kH)))
      | dkL _ _ => simp [datT] at ed
      | dt _ => simp [datT] at ed)
    (fun ds ed _ _ => by
      simp only [datTs, Option.some.injEq] at ed
      subst ed
      exact .nil)
    (fun {v vs t ts f1 f2} h1 h2 i1 i2 ds ed hF hH => by
      simp only [datTs] at ed
      split at ed
      · rename_i d ds' e1 e2
        cases ed
        exact .cons (i1 d e1 (fun p hp => hF p (List.mem_append_left _ hp)) fun p hp => hH p (List.mem_append_left _ hp)) (i2 ds' e2 (fun p hp => hF p (List.mem_append_right _ hp)) fun p hp => hH p (List.mem_append_right _ hp))
      · cases ed) h
def isDK : Option HO → Bool
  | some (.dK _) => true
  | _ => false
/-- a part of a tree is frozen for good -/
theorem Rel.frzT (r : Rel K H0 F0 F own E σ H) {i : Nat} {u : V} {t s : Tr} {π : List Nat} {d : D} (e : E[i]? = some (.tr u t)) (g : t.get π = some s) (hd : datT s = some d) :
    ∃ L : List Addr, L.Nodup ∧ (∀ d ∈ L, ∃ ws, H d = some (.dK ws)) ∧ ∀ od, ∃ F' own', Rel K H0 F0 F' own' (E.set i (.tr u (t.put π (.d d)))) σ (lockH od L H) ∧ (π = [] → Rel K H0 F0 F' own' (E.set i (.fr d)) σ (lockH od L H)) := by
  obtain ⟨e1, fp, h1, h2, h3⟩ := r.sl i _ e
  obtain ⟨w, fs, ew, hs, sub, ns, put⟩ := h1.focus π h2 g
  have hL : ∀ {od : Addr → Obj}, ∀ p ∈ fs, ∀ o, H p = some o → lockH od (fs.filter fun p => isDK (H p)) H p = some (lockO od p o) := fun {od} p hp o ho => by
    unfold lockH
    by_cases hk : isDK (H p) = true
    · rw [if_pos (List.mem_filter.mpr ⟨hp, hk⟩), ho]
      rw [ho] at hk
      cases o <;> first | rfl | cases hk
    · have hz : p ∉ fs.filter (fun p => isDK (H p)) := fun z => hk (List.mem_filter.mp z).2
      rw [if_neg hz, ho]
      rw [ho] at hk
      cases o <;> first | rfl | exact absurd rfl hk
  have nL : ∀ {od : Addr → Obj}, ∀ p, p ∉ fs → lockH od (fs.filter fun p => isDK (H p)) H p = H p := fun {od} p hp => by
    unfold lockH
    have hz : p ∉ fs.filter (fun p => isDK (H p)) := fun z => hp (List.mem_filter.mp z).1
    rw [if_neg hz]
  have own_i : ∀ p ∈ fs, own p = some i := fun p hp => h3 p (sub p hp)
  refine ⟨fs.filter fun p => isDK (H p), ns.filter _, fun b hb => ?_, fun od => ?_⟩
  · have := (List.mem_filter.mp hb).2
    cases q : H b with
    | none => rw [q] at this; cases this
    | some o => rw [q] at this; cases o <;> first | exact ⟨_, rfl⟩ | cases this
  have sF : Same F (fun a => if a ∈ fs then lockH od (fs.filter fun p => isDK (H p)) H a else F a) := fun b o q => by
    try dsimp only
    rw [if_neg (fun z => by have := (r.ow b i (own_i b z)).1; rw [this] at q; cases q)]
    exact q
  have rp : Rp K (fun a => if a ∈ fs then lockH od (fs.filter fun p => isDK (H p)) H a else F a) w d := hs.frozen (od := od) (H' := lockH od (fs.filter fun p => isDK (H p)) H) sF d hd (fun p hp => by (try dsimp only); rw [if_pos hp]) hL
  have core : ∀ s', SlOk K H0 (fun a => if a ∈ fs then lockH od (fs.filter fun p => isDK (H p)) H a else F a) (lockH od (fs.filter fun p => isDK (H p)) H) (fun a => if a ∈ fs then none else own a) i s' (σ.getD i none) →
      Rel K H0 F0 (fun a => if a ∈ fs then lockH od (fs.filter fun p => isDK (H p)) H a else F a) (fun a => if a ∈ fs then none else own a) (E.set i s') σ (lockH od (fs.filter fun p => isDK (H p)) H) := by
    intro s' hs'
    refine ⟨by rw [List.length_set]; exact r.len, ⟨r.g.f.trans sF, fun b o q => ?_, fun b o q => ?_, fun b q => ?_⟩, fun b j q => ?_, fun j s2 q => ?_⟩
    · rw [nL b fun z => by have := (r.ow b i (own_i b z)).2.1; rw [this] at q; cases q]
      exact r.g.h _ _ q
    · try dsimp only at q
      split at q
      · exact q
      · rename_i hb; rw [nL b hb]; exact r.g.fh _ _ q
    · try dsimp only at q
      split at q
      · rename_i hb; exact .inr (r.ow b i (own_i b hb)).2.1
      · exact r.g.new b q
    · try dsimp only at q
      split at q
      · cases q
      · rename_i hb
        obtain ⟨y1, y2, y3⟩ := r.ow b j q
        exact ⟨by (try dsimp only); rw [if_neg hb]; exact y1, y2, by rw [nL b hb]; exact y3⟩
    · by_cases hj : i = j
      · subst hj
        by_cases hl : i < E.length
        · rw [List.getElem?_set_self hl] at q
          cases q
          exact hs'
        · rw [List.getElem?_eq_none (by rw [List.length_set]; omega)] at q; cases q
      · rw [List.getElem?_set_ne hj] at q
        have no : ∀ p, own p = some j → p ∉ fs := fun p z m => hj (by rw [own_i p m] at z; exact Option.some.inj z)
        exact (r.sl j s2 q).stay sF (Same.refl _) (fun p o z1 z2 => by rw [nL p (no p z1)]; exact z2) fun p z => by (try dsimp only); rw [if_neg (no p z)]; exact z
  refine ⟨_, _, core _ ?_, fun hπ => core _ ?_⟩
  · obtain ⟨fp', h4, n4, s4⟩ := put (fun a => if a ∈ fs then lockH od (fs.filter fun p => isDK (H p)) H a else F a) (lockH od (fs.filter fun p => isDK (H p)) H) (.d d) [] sF (fun p hp hn o q => by rw [nL p hn]; exact q) (.d rp) List.nodup_nil (fun _ z => nomatch z)
    refine ⟨e1, fp', h4, n4, fun p hp => ?_⟩
    rcases s4 p hp with ⟨a, b⟩ | a
    · (try dsimp only); rw [if_neg b]; exact h3 p a
    · cases a
  · subst hπ
    have : w = u := by
      cases u <;> (simp only [walkV, Option.some.injEq] at ew; exact ew.symm)
    subst this
    exact ⟨w, e1, rp⟩
end
section
variable {X : Cx} {W : WX} {a b c e e2 xe ke tg : Expr} {es : List Expr} {pos p p2 : Pos} {m : Mo} {ms : List Mo} {wi : WI} {st : Stmt} {w : WSS} {ws : WA} {E : List Sl}
def wFrz (i : Nat) (π : List Nat) (w : WSS) : WSS := fun C E => trS E[i]? fun v t => ∃ s d, t.get π = some s ∧ datT s = some d ∧ w C (E.set i (.tr v (t.put π (.d d))))
theorem t_frz (i : Nat) (π : List Nat) (h : T1 X W st w) : T1 X W st (wFrz i π w) := ps_imp (ps_locks h) fun DD σ H ⟨H0, F0, F, own, E, C, r, q, kn, kb, kc, kr, kx⟩ => by
  obtain ⟨v, t, ei, s, d, eg, ed, hw⟩ := trS_ex q
  obtain ⟨L, hn, hd, hr⟩ := r.frzT ei eg ed
  refine ⟨L, hn, hd, fun od => ?_⟩
  obtain ⟨F', own', r', _⟩ := hr od
  exact ⟨H0, F0, F', own', _, C, r', hw, kn, kb, kc, kr, kx⟩
/-- a whole tree frozen: data from here on -/
def wFrzA (i : Nat) (w : WSS) : WSS := fun C E => trS E[i]? fun v t => ∃ d, datT t = some d ∧ w C (E.set i (.fr d))
theorem t_frzA (i : Nat) (h : T1 X W st w) : T1 X W st (wFrzA i w) := ps_imp (ps_locks h) fun DD σ H ⟨H0, F0, F, own, E, C, r, q, kn, kb, kc, kr, kx⟩ => by
  obtain ⟨v, t, ei, d, ed, hw⟩ := trS_ex q
  obtain ⟨L, hn, hd, hr⟩ := r.frzT (π := []) ei (by cases t <;> rfl) ed
  refine ⟨L, hn, hd, fun od => ?_⟩
  obtain ⟨F', own', _, r'⟩ := hr od
  exact ⟨H0, F0, F', own', _, C, r' rfl, hw, kn, kb, kc, kr, kx⟩
/-! ### new trees -/
def NewT (K : Frag) (H F' H' : Hp) (v : V) (t : Tr) : Prop := ∃ fp, TrOk K F' H' v t fp ∧ fp.Nodup ∧ ∀ p ∈ fp, H p = none ∧ F' p = none
abbrev WN := List Sl → (Tr → Prop) → (Str → Prop) → Prop
def tN (K : Frag) (W : WX) (w : WN) : TE := fun σ H Q => ∃ H0 F0 F own E KT KX, Rel K H0 F0 F own E σ H ∧ w E KT KX ∧
  (∀ t, KT t → ∀ F' H' v, Grow F H F' H' → NewT K H F' H' v t → Q v H') ∧ (∀ c, KX c → ∀ F' H', Grow F H F' H' → W (.ref (cA K c)) none σ H')
def JN (X : Cx) (W : WX) (e : Expr) (w : WN) : Prop := PE X e (tN X.K W w)
/-- a new object, its __init__ run -/
def wNMake (cn : Str) (ms : List Mo) (ws : WA) (g : CtS) : WN := fun E KT KX => ws E (fun ds => ∀ x, g (.tr (.ref x) (.nd x (.ob cn []) []) :: slots ms ds) (fun s outs => s = .fr .none ∧ ∃ t, outs = [.tr (.ref x) t] ∧ KT t) (fun c _ => KX c)) KX
theorem jn_make {k : Nat} {f : Addr} {fd : FuncData} {ps : List Str} {np : Nat} {g : CtS} {x cn : Str} (M : Mk X.K (cA X.K cn) f) (ic : InsOk X.K cn) (Fn : FnOk X.prog X.w X.K X.mg X.base (L2.CX X.prog X.w) k f fd ps (spS np [0] g X.K)) (hr : Room (k + 1) X.A) (hg : Gl X x) (hm : X.mg x = some (.ref (cA X.K cn)))
    (hb : Binds X.K fd ps []) (hx : ∀ σ, PassesAt (L2.CX X.prog X.w) X σ (L2.WE W σ)) (ha : JA ms X W (e :: es) ws) (hms : ∀ m ∈ ms, m = .rd ∨ m = .fz := by decide) (hnp : 1 + ms.length = np := by rfl)
    (hdb : (x == ("__debug__" : Str)) = false := by decide) (he : starEach (e :: es) X.env = (false, eval e X.env) :: starEach es X.env := by rfl) (hpl : (backTo pos (starEach es X.env)).any (·.1) = false := by rfl) :
    JN X W (.Call (.Name x p) (e :: es) [] pos) (wNMake cn ms ws g) :=
  pe_imp (pe_makeSD M Fn hr hg hm hb .nil hx ha.1 hdb he hpl) fun σ H Q ⟨H0, F0, F, own, E, KD, KX, r, q, kk, xx⟩ =>
  ⟨H0, F0, F, own, E, _, KX, r, q, fun ds h F1 H1 vs g1 ra x dx nx ndx nedx => by
    have gl1 : Grow F1 H1 F1 (upd H1 dx (.own x)) := Grow.lay g1.fh ndx
    have nx' : upd H1 dx (.own x) x = none := by rw [upd_ne (Ne.symm nedx)]; exact nx
    have gl2 : Grow F1 (upd H1 dx (.own x)) F1 (upd (upd H1 dx (.own x)) x (.ins (cA X.K cn) dx [])) := Grow.lay gl1.fh nx'
    have gl := gl1.trans gl2
    have ef2 : ([x] :: (ms.map (fun _ => ([] : List Addr)))).flatten = [x] := by rw [List.flatten_cons, flat_nil]; rfl
    have eH : erL (upd (upd H1 dx (.own x)) x (.ins (cA X.K cn) dx [])) [x] = upd H1 dx (.own x) := by
      funext b
      by_cases hb : b = x
      · subst hb; rw [erL_in List.mem_cons_self, nx']
      · rw [erL_out (by simpa using hb), upd_ne hb]
    have a0 := slots_ok gl1.fh hms (ResAll.keep gl1 ha.2 ra)
    have hl : (slots ms ds).length = ms.length := by rw [a0.len]; exact (resAll_len ra).1
    have mono : ∀ {B H2 : Hp} {ss : List Sl} {vs : List V} {fs : List (List Addr)}, fs.flatten = [] → ArgsB X.K F1 B B ss vs fs → ArgsB X.K F1 B H2 ss vs fs := by
      intro B H2 ss vs fs hfs z
      induction z with
      | nil => exact .nil
      | @cons s ss v vs f fs z1 z2 ih =>
        rw [List.flatten_cons] at hfs
        obtain ⟨e1, e2⟩ := List.append_eq_nil_iff.mp hfs
        subst e1
        refine .cons ?_ (ih e2)
        cases s with
        | bo ds => exact z1
        | un => exact z1
        | fr _ => exact z1
        | ow _ => obtain ⟨_, _, _, z, _⟩ := z1; cases z
        | dk _ => obtain ⟨_, _, _, z, _⟩ := z1; cases z
        | tr u t => exact ⟨z1.1, z1.2.1.mono (Same.refl _) fun _ hp => (nomatch hp), List.nodup_nil⟩
        | dt _ => exact z1.elim
        | bt _ _ => exact z1.elim
    show spS np [0] g X.K (.ref x :: (vs ++ [])) _ _ _
    rw [List.append_nil]
    refine ⟨F1, _, [x] :: (ms.map (fun _ => [])), _, _, gl.fh, ?_, .cons (s := .tr (.ref x) (.nd x (.ob cn []) [])) ⟨rfl, .nd upd_same ⟨ic, (fun _ z => nomatch z), dx, [], rfl, rfl⟩ .nil, by simp⟩ (by rw [ef2, eH]; exact mono (flat_nil _) a0), by rw [ef2]; simp, ?_, h x, fun s' outs ⟨es, t, eo, hk⟩ F' H' v fr fos g' os ol hnd hnone => ?_, fun c outs hc F' H' fos g' ol hnd hnone => ?_⟩
    · rw [List.length_cons, hl]; omega
    · rw [ef2]
      intro p hp
      rw [List.mem_singleton.mp hp]
      exact none_of_same gl1.fh nx'
    · subst es eo
      have : v = .non := by obtain ⟨_, rp⟩ := os; cases rp; rfl
      subst this
      refine ⟨rfl, ?_⟩
      rw [ef2, eH] at g' hnone
      cases ol with
      | @cons _ _ _ _ f1 fs1 o1 o2 =>
        obtain ⟨_, hT, hN⟩ := o1
        refine kk _ hk F' H' _ (g1.trans (gl1.trans g')) ⟨f1, hT, hN, fun p hp => ?_⟩
        obtain ⟨b1, b2⟩ := hnone p (List.mem_append_right _ (by rw [List.flatten_cons]; exact List.mem_append_left _ hp))
        exact ⟨none_of_same (g1.trans gl1).h b2, b1⟩
    · rw [ef2, eH] at g'
      exact xx c hc F' H' (g1.trans (gl1.trans g')), xx⟩
/-- a new tree in flight -/
def wEnew (wn : WN) : WEE := fun E KS KX => wn E (fun t => ∃ p h ts, t = .nd p h ts ∧ KS (.tr (.ref p) t) E) (fun c => KX c E)
theorem ej_new {wn : WN} (h : JN X W e wn) : EJ X W e (wEnew wn) := pe_imp h fun σ H Q ⟨H0, F0, F, own, E, KS, KX, r, q, k, x⟩ =>
  ⟨H0, F0, F, own, E, _, _, r, q, fun t ⟨p, hh, ts, et, hk⟩ F' H' v g ⟨fp, hT, hN, hf⟩ => by
    subst et
    obtain ⟨ev, _⟩ := nd_at hT
    subst ev
    exact k _ E hk F' own H' _ fp (r.grow g) (.grow g) ⟨⟨rfl, hT, hN⟩, fun q hq => (hf q hq).2, fun q hq => none_of_same r.g.h (hf q hq).1, fun q hq j z => (r.ow q j z).2.2 (hf q hq).1⟩ (fun q hq => .inr (hf q hq).1),
    fun c hc F' H' g => x c E hc F' own H' (r.grow g) (.grow g)⟩
/-- [new(x) for x in ..] -/
inductive All2 (R : D → Tr → Prop) : List D → List Tr → Prop
  | nil : All2 R [] []
  | cons {d : D} {t : Tr} {ds : List D} {ts : List Tr} : R d t → All2 R ds ts → All2 R (d :: ds) (t :: ts)
theorem All2.snoc {R : D → Tr → Prop} {ds : List D} {ts : List Tr} {d : D} {t : Tr} (h : All2 R ds ts) (r : R d t) : All2 R (ds ++ [d]) (ts ++ [t]) := by
  induction h with
  | nil => exact .cons r .nil
  | cons h1 _ ih => exact .cons h1 ih
theorem All2.len {R : D → Tr → Prop} {ds : List D} {ts : List Tr} (h : All2 R ds ts) : ds.length = ts.length := by
  induction h with
  | nil => rfl
  | cons _ _ ih => rw [List.length_cons, List.length_cons, ih]
def wLcN (wi : WI) (pt : Pt) (wn : WN) (vs : List Nat) : WEE := fun E KS KX => wi E (fun ds => ds.length ≤ sizeLine ∧ ∃ R : D → Tr → Prop, (∀ d ∈ ds, pt.up d (wipeE E vs) fun E' => wn E' (fun t => R d t) (fun _ => False)) ∧
  ∀ P ts, All2 R ds ts → KS (.tr (.ref P) (.nd P .lst ts)) E) (fun c => KX c E)
theorem lcN_rd {pt : Pt} {wn : WN} {vs : List Nat} {σ : L2.St} {H : Hp} {Q : VK} (hws : ∀ i ∈ pt.is, i ∈ vs) (h : tE X.K W (wLcN wi pt wn vs) σ H Q) :
    tLc (tI X.K W wi) (pt.g X.K) (tJT X.K W0 wYes) (tN X.K W0 wn) vs σ H Q := by
  obtain ⟨H0, F0, F, own, E, KS, KX, r, q, k, x⟩ := h
  refine ⟨H0, F0, F, own, E, _, _, r, q, fun ds ⟨hl, R, step, done⟩ F1 H1 J g ok P nP => ?_, fun c hc F' H' g => x c E hc F' own H' (r.grow g) (.grow g)⟩
  have r1 := r.grow g
  have nF1 : F1 P = none := none_of_same g.fh nP
  refine ⟨fun i n Hc => ∃ Fc acc ts fp, Grow F1 H1 Fc (er Hc P) ∧ Hc P = some (.lst acc) ∧ Fc P = none ∧ TrAll X.K Fc Hc acc ts fp ∧ fp.Nodup ∧ (∀ p ∈ fp, p ≠ P ∧ H1 p = none ∧ Fc p = none) ∧ All2 R (ds.take i) ts ∧ i ≤ ds.length ∧ n = ds.length - i,
    ⟨_, F1, [], [], [], ?_, upd_same, nF1, .nil, List.nodup_nil, (fun _ z => nomatch z), .nil, Nat.zero_le _, rfl⟩, ?_⟩
  · rw [er_upd, er_none nP]; exact Grow.refl g.fh
  rintro i n Hc ⟨Fc, acc, ts, fp, gc, eP, nFc, ha, hfn, hfp, hR, hle, rfl⟩
  have gc' : Grow F1 H1 Fc Hc := Grow.unEr (o' := .lst []) gc nP eP
  have rc := r1.grow gc'
  obtain ⟨go, stop⟩ := ok Fc Hc gc'.f gc'.fh rc.g.h
  by_cases hlt : i < ds.length
  · have ed : ds[i]? = some ds[i] := List.getElem?_eq_getElem hlt
    obtain ⟨g1, yl⟩ := go i ds[i] ed
    refine .inr ⟨g1, fun H' => ∃ F' acc' ts' fp', Grow F1 H1 F' (er H' P) ∧ H' P = some (.lst acc') ∧ F' P = none ∧ TrAll X.K F' H' acc' ts' fp' ∧ fp'.Nodup ∧ (∀ p ∈ fp', p ≠ P ∧ H1 p = none ∧ F' p = none) ∧ All2 R (ds.take (i + 1)) ts',
      fun H' ⟨F', acc', ts', fp', a1, a2, a3, a4, a5, a6, a7⟩ => ⟨ds.length - (i + 1), by omega, F', acc', ts', fp', a1, a2, a3, a4, a5, a6, a7, hlt, rfl⟩, fun xv H' y => ?_⟩
    obtain ⟨F2, g2, rp⟩ := yl xv H' y
    obtain ⟨ownw, rw'⟩ := (rc.grow g2).wipes vs
    have tk : ds.take (i + 1) = ds.take i ++ [ds[i]] := by rw [List.take_add_one, ed]; rfl
    refine pt.run rw' rp (step ds[i] (List.getElem_mem hlt)) fun own' E' us r' h' => ?_
    refine ⟨by rw [wipe_sets _ _ _ hws, wipe_wipe], H0, F0, F2, own', E', fun b => b = true, fun _ => False, r', rfl, fun b hb F3 H3 g3 => ?_, fun c hc => hc.elim⟩
    subst hb
    refine iteT ⟨H0, F0, F3, own', E', _, _, r'.grow g3, h', fun t ht F4 H4 v g4 ⟨f4, hT, hN, hf4⟩ => ?_, fun c hc => hc.elim⟩
    have g24 := (g2.trans g3).trans g4
    obtain ⟨q1, q2, q3⟩ := g24.er nFc eP
    have new : ∀ p ∈ f4, Hc p = none := fun p hp => none_of_same (g2.trans g3).h (hf4 p hp).1
    have neP : ∀ p ∈ f4, p ≠ P := fun p hp z => by have := new p hp; rw [z, eP] at this; cases this
    have dis : ∀ p ∈ fp, p ∉ f4 := fun p hp z => (TrAll.thereA ha p hp) (new p z)
    have keepF : ∀ p ∈ fp, F4 p = none := fun p hp => by
      cases q : F4 p with
      | none => rfl
      | some u =>
        rcases g24.new p (by rw [q]; simp) with z | z
        · exact absurd (hfp p hp).2.2 z
        · exact absurd z (TrAll.thereA ha p hp)
    refine ⟨acc, q3, ?_, F4, acc ++ [v], ts ++ [t], fp ++ (f4 ++ []), by rw [er_upd]; exact gc.trans q1, upd_same, q2, ?_, ?_, fun p hp => ?_, by rw [tk]; exact hR.snoc ht⟩
    · have e1 : acc.length = ts.length := ha.len
      have e2 := hR.len
      rw [List.length_take] at e2
      omega
    · refine TrAll.app (ha.mono g24.f fun p hp o e => by rw [upd_ne (hfp p hp).1]; exact g24.h _ _ e) (.cons (hT.mono (Same.refl _) fun p hp o e => by rw [upd_ne (neP p hp)]; exact e) .nil)
    · rw [List.append_nil]; exact nodup_app.mpr ⟨hfn, hN, dis⟩
    · rw [List.append_nil] at hp
      rcases List.mem_append.mp hp with hp | hp
      · exact ⟨(hfp p hp).1, (hfp p hp).2.1, keepF p hp⟩
      · exact ⟨neP p hp, none_of_same gc'.h (new p hp), (hf4 p hp).2⟩
  · have e : i = ds.length := by omega
    subst e
    rw [List.take_length] at hR
    have gg := g.trans gc'
    refine .inl ⟨stop, k _ E (done P ts hR) Fc own Hc _ (P :: fp) (r.grow gg) (.grow gg) ⟨⟨rfl, .nd eP ⟨acc, rfl⟩ ha, List.nodup_cons.mpr ⟨fun z => (hfp P z).1 rfl, hfn⟩⟩, fun p hp => ?_, fun p hp => ?_, fun p hp => ?_⟩ fun p hp => ?_⟩
    · rcases List.mem_cons.mp hp with rfl | hp
      · exact nFc
      · exact (hfp p hp).2.2
    · rcases List.mem_cons.mp hp with rfl | hp
      · exact none_of_same r1.g.h nP
      · exact none_of_same r1.g.h (hfp p hp).2.1
    · rcases List.mem_cons.mp hp with rfl | hp
      · exact fun j z => (r1.ow _ j z).2.2 nP
      · exact fun j z => (r1.ow _ j z).2.2 (hfp p hp).2.1
    · rcases List.mem_cons.mp hp with rfl | hp
      · exact .inr (none_of_same g.h nP)
      · exact .inr (none_of_same g.h (hfp p hp).2.1)
theorem ej_lcN {scope : Scope} {own : List (Str × Nat)} {pt : Pt} {wn : WN} (hc : X.calm = true) (hN : X.N.Nodup) (hi : IJ X W tg e wi) (ok : BlkOk X.N X.env.scope scope own)
    (hg : ∀ (s : Shared) (H : Hp) (C : Addr) (cl : List (Str × Addr)) (fp : List Addr), PG (X.blk s H scope (compEnvC scope cl C X.env) fp) tg (pt.g X.K))
    (he : ∀ (s : Shared) (H : Hp) (C : Addr) (cl : List (Str × Addr)) (fp : List Addr), JN (X.blk s H scope (compEnvC scope cl C X.env) fp) W0 e2 wn) (hws : ∀ i ∈ pt.is, i ∈ own.map (·.2)) (hs : ∀ x, foldedSetIterable e X.env x = pure x := by intro _; rfl) :
    EJ X W (.ListComp e2 [⟨tg, e, [], 0⟩] scope pos) (wLcN wi pt wn (own.map (·.2))) :=
  pe_imp (pe_lc (tt := tJT X.K W0 wYes) (te := tN X.K W0 wn) hc hN hi ok hg (fun _ _ _ _ _ => jts_nil) he hs) fun _ _ _ h => lcN_rd hws h
/-! ### methods of what is lent -/
def isO (cn mn : Str) : Ag → Sl → List Sl → Prop
  | .lent i π, s, E => trS E[i]? fun _ t => ∃ p ns ts, s = .tr (.ref p) (.hl (.ref p)) ∧ t.get π = some (.nd p (.ob cn ns) ts) ∧ ns.contains mn = false
  | _, .fr d, _ => ∃ kvs, d = objD cn kvs ∧ fget kvs mn = none
  | _, _, _ => False
def wEMeth (gs : List Ag) (g0 : Ag) (wo : WEE) (ws : WEA) (cn mn : Str) (g : CtS) : WEE := fun E KS KX => wo E (fun s0 E0 => isO cn mn g0 s0 E0 ∧ ws E0 (fun ss E1 => lendOut (g0 :: gs) (s0 :: ss) E1 fun as E2 => rdIn (g0 :: gs) as E2 fun as' =>
  g as' (fun s outs => lendIn (g0 :: gs) outs E2 (fun E3 => KS s E3)) (fun c outs => lendIn (g0 :: gs) outs E2 (fun E3 => KX c E3))) KX) KX
theorem isO_ok {K : Frag} {H0 F0 F H : Hp} {own : Own} {E : List Sl} {σ : L2.St} {cn mn : Str} {g0 : Ag} {s : Sl} {v : V} {fp : List Addr} (r : Rel K H0 F0 F own E σ H) (o : OwnS K F H s v fp) (h : isO cn mn g0 s E) : ∃ a dx fs, v = .ref a ∧ H a = some (.ins (cA K cn) dx fs) ∧ fs.lookup mn = none := by
  have fr : ∀ {d : D}, OwnS K F H (.fr d) v fp → (∃ kvs, d = objD cn kvs ∧ fget kvs mn = none) → ∃ a dx fs, v = .ref a ∧ H a = some (.ins (cA K cn) dx fs) ∧ fs.lookup mn = none := by
    rintro d ⟨_, rp⟩ ⟨kvs, rfl, hn⟩
    obtain ⟨a, dx, fs, rfl, h1, h2, h3, h4⟩ := rp_obj rp
    exact ⟨a, dx, fs, rfl, r.g.fh _ _ h1, h4.none hn⟩
  cases g0 with
  | lent i π =>
    obtain ⟨u, t, ei, p, ns, ts, es, eg, hc⟩ := trS_ex h
    subst es
    obtain ⟨ev, _⟩ := o
    obtain ⟨_, ob, fp2, ho, ⟨ic, na, dx, fs, rfl, ens⟩, _⟩ := node_at r ei eg
    subst ens
    refine ⟨p, dx, fs, ev.symm, ho, ?_⟩
    cases q : fs.lookup mn with
    | none => rfl
    | some y =>
      obtain ⟨kv, hm, ek⟩ := lookup_mem q
      have : (fs.map (·.1)).contains mn = true := by
        rw [List.contains_iff_mem]
        rw [← ek]; exact List.mem_map_of_mem hm
      rw [hc] at this; cases this
  | val => cases s with
    | fr d => exact fr o h
    | _ => exact h.elim
  | rd i => cases s with
    | fr d => exact fr o h
    | _ => exact h.elim
theorem ej_meth {k : Nat} {f : Addr} {fd : FuncData} {ps : List Str} {np : Nat} {li : List Nat} {g : CtS} {cn mn : Str} {gs : List Ag} {g0 : Ag} {o : Expr} {apos : Pos} {wo : WEE} {ws : WEA} (Fn : FnOk X.prog X.w X.K X.mg X.base (L2.CX X.prog X.w) k f fd ps (spS np li g X.K)) (hr : Room k X.A) (c : Cls X.K (cA X.K cn)) (hmt : Meth X.K (cA X.K cn) mn f)
    (hb : Binds X.K fd ps []) (hx : ∀ σ, PassesAt (L2.CX X.prog X.w) X σ (L2.WE W σ)) (ho : EJ X W o wo) (ha : EA gs X W (e :: es) ws) (hg0 : noRd g0 = true := by rfl) (hli : lentI (g0 :: gs) 0 = li := by rfl) (hnp : (g0 :: gs).length = np := by rfl) {pl : Sem Bool}
    (hst : starEach (e :: es) X.env = (false, eval e X.env) :: starEach es X.env := by rfl) (hpl : (backTo pos (starEach es X.env)).any (·.1) = false := by rfl)
    (ht : eval (.Call (.Attribute o mn apos) (e :: es) [] pos) X.env = (do
      let ov ← eval o X.env
      standAt apos.atName
      let (f, first) ← holding [ov] (getMethod ov mn pl)
      callWith pos f first (backTo pos (starEach (e :: es) X.env)) (backToKw pos (keywordEach [] X.env))) := by rfl) :
    EJ X W (.Call (.Attribute o mn apos) (e :: es) [] pos) (wEMeth gs g0 wo ws cn mn g) :=
  pe_imp (pe_methSD (pl := pl) ho c hmt Fn hr hb .nil hx ha hst hpl ht) fun σ H Q ⟨H0, F0, F, own, E, KS, KX, r, q, k, x⟩ =>
    ⟨H0, F0, F, own, E, _, KX, r, q, fun s0 E0 ⟨hO, h⟩ F0' own0 H0' v f r0 ef0 fl pv => by
      obtain ⟨a, dx, fs, rfl, hH, hlk⟩ := isO_ok r0 fl.o hO
      refine ⟨a, dx, fs, rfl, hH, hlk, H0, F0, F0', own0, E0, _, KX, r0, h, fun ss E1 h2 F1 own1 H1 vs fps r1 ef1 o n hf pv1 rd => ?_, fun c E2 hc F2 own2 H2 r2 ef2 => x c E2 hc F2 own2 H2 r2 (ef0.trans ef2)⟩
      obtain ⟨a1, a2, a3, a4⟩ := fly_two ef0 fl pv ef1 o n hf pv1
      rw [List.append_nil]
      exact call_rd hli hnp r1 (ef0.trans ef1) a1 a2 a3 a4 (rdOk_cons hg0 rd) h2 k x, x⟩
end
end
end Tb

set_option Elab.async false
set_option linter.all false
set_option maxRecDepth 100000
set_option maxHeartbeats 2000000
/-! ### reading by simp, of what changes things -/
namespace Tb
section
open PySem PySem.Spec L2
variable {E : List Sl} {C : EndsS} {KS : Sl → List Sl → Prop} {KA : List Sl → List Sl → Prop} {KX : Str → List Sl → Prop} {KD : D → Prop} {KY : Str → Prop} {KB : Bool → List Sl → Prop} {KP : Nat → List Nat → Tr → Prop} {KT : Tr → Prop} {KI : List D → Prop}
  {we wk wo we2 : WE} {ee eo : WEE} {ws : WS} {wt : WT} {te te2 : WTE} {w w2 : WSS} {wp : WP} {wi : WI} {wn : WN} {pt : Pt} {i j : Nat} {d : D} {ds : List D} {v : V} {t s : Tr} {p : Addr} {h : Hn} {ts : List Tr} {π : List Nat} {wl wh : WO} {wa : WA} {wea : WEA} {gs : List Ag} {f cn mn : Str} {ms : List Mo} {vs : List Nat} {k : Nat}
theorem get0 : t.get [] = some t := by cases t <;> rfl
theorem getS : (Tr.nd p h ts).get (k :: π) = match ts[k]? with | some t => t.get π | none => none := rfl
theorem put0 : t.put [] s = s := by cases t <;> rfl
theorem putS : (Tr.nd p h ts).put (k :: π) s = match ts[k]? with | some t => .nd p h (ts.set k (t.put π s)) | none => .nd p h ts := rfl
theorem trS_tr {k : V → Tr → Prop} : trS (some (.tr v t)) k = k v t := rfl
theorem exTr {o : Option Sl} {P : V → Tr → Prop} : (∃ v t, o = some (.tr v t) ∧ P v t) = trS o P := by
  apply propext
  exact ⟨fun ⟨v, t, e, h⟩ => by subst e; exact h, fun h => trS_ex h⟩
/-- a slot that goes into flight -/
def takeS : Option Sl → (Sl → Prop) → Prop
  | some (.ow ds), k => k (.ow ds)
  | some (.dk ds), k => k (.dk ds)
  | some (.tr v t), k => k (.tr v t)
  | some (.fr d), k => k (.fr d)
  | _, _ => False
theorem takeS_ow {k : Sl → Prop} : takeS (some (.ow ds)) k = k (.ow ds) := rfl
theorem takeS_tr {k : Sl → Prop} : takeS (some (.tr v t)) k = k (.tr v t) := rfl
theorem takeS_fr {k : Sl → Prop} : takeS (some (.fr d)) k = k (.fr d) := rfl
theorem wEtake_eq : wEtake i E KS KX = takeS E[i]? fun s => KS s (E.set i .un) := by
  apply propext
  unfold wEtake
  constructor
  · rintro ⟨s, e, ho, h⟩
    rw [e]
    cases s <;> first | exact h | cases ho
  · intro h
    cases e : E[i]? with
    | none => rw [e] at h; exact h.elim
    | some s => rw [e] at h; cases s <;> first | exact ⟨_, rfl, rfl, h⟩ | exact h.elim
theorem wEf_eq : wEf we E KS KX = we E (fun d => KS (.fr d) E) (fun c => KX c E) := rfl
theorem wEn_eq : wEn we E KS KX = we E (fun d => ∃ ds, d = .list ds ∧ KS (.ow ds) E) (fun c => KX c E) := rfl
def owT (s : Sl) (k : List D → Prop) : Prop := ∃ ds, s = .ow ds ∧ k ds
theorem owT_ow {k : List D → Prop} : owT (.ow ds) k = k ds := propext ⟨fun ⟨_, e, h⟩ => by cases e; exact h, fun h => ⟨_, rfl, h⟩⟩
theorem wEtr_eq : wEtr ee E KS KX = ee E (fun s E' => owT s fun ds => ∀ p, KS (.tr (.ref p) (.nd p .lst (ds.map Tr.d))) E') KX := rfl
def frB (s : Sl) (k : Bool → Prop) : Prop := ∃ b, s = .fr (.bool b) ∧ k b
theorem frB_fr {b : Bool} {k : Bool → Prop} : frB (.fr (.bool b)) k = k b := propext ⟨fun ⟨_, e, h⟩ => by cases e; exact h, fun h => ⟨_, rfl, h⟩⟩
theorem wTe_eq : wTe ee E KB KX = ee E (fun s E' => frB s fun b => KB b E') KX := rfl
theorem wTp_eq : wTp wt E KB KX = wt E (fun b => KB b E) (fun c => KX c E) := rfl
theorem wAndE_eq : wAndE te te2 E KB KX = te E (fun b E' => if b = true then te2 E' KB KX else KB false E') KX := rfl
theorem wOrE_eq : wOrE te te2 E KB KX = te E (fun b E' => if b = true then KB true E' else te2 E' KB KX) KX := rfl
theorem wNotE_eq : wNotE te E KB KX = te E (fun b E' => KB (!b) E') KX := rfl
theorem wLf_eq : wLf ws C E = ws { nx := C.nx, rt := fun d E' => C.rt (.fr d) E', bk := C.bk, ct := C.ct, ex := C.ex } E := rfl
theorem wNxS_eq : wNxS C E = C.nx E := rfl
theorem wSeqS_eq : wSeqS w w2 C E = w { C with nx := w2 C } E := rfl
theorem wSetE_eq : wSetE i ee C E = ee E (fun s E' => C.nx (E'.set i s)) (fun c E' => C.ex c E') := rfl
theorem wRetE_eq : wRetE ee C E = ee E (fun s E' => C.rt s E') (fun c E' => C.ex c E') := rfl
theorem wExpE_eq : wExpE ee C E = ee E (fun _ E' => C.nx E') (fun c E' => C.ex c E') := rfl
theorem wIfE_eq : wIfE te w w2 C E = te E (fun b E' => if b = true then w C E' else w2 C E') (fun c E' => C.ex c E') := rfl
theorem wWhileE_eq : wWhileE te w C E = ∃ (I : List Sl → Prop) (mu : List Sl → Nat), I E ∧ ∀ E, I E →
  te E (fun b E1 => if b = true then w { C with nx := fun E' => I E' ∧ mu E' < mu E, ct := fun E' => I E' ∧ mu E' < mu E, bk := C.nx } E1 else C.nx E1) (fun c E' => C.ex c E') := rfl
theorem wForE_eq : wForE wi pt w C E = wi E (fun ds => ∃ I : Nat → List Sl → Prop, I 0 E ∧ (∀ i d E, ds[i]? = some d → I i E → pt.up d E (w { C with nx := I (i + 1), ct := I (i + 1), bk := C.nx })) ∧ ∀ E, I ds.length E → C.nx E) (fun c => C.ex c E) := rfl
theorem wPV_eq : wPV i E KP KY = trS E[i]? fun _ t => KP i [] t := exTr
def alS : Option Sl → (Addr → Prop) → Prop
  | some (.tr (.ref p) (.hl (.ref q))), k => p = q ∧ k p
  | _, _ => False
theorem alS_al {k : Addr → Prop} : alS (some (.tr (.ref p) (.hl (.ref p)))) k = k p := by unfold alS; simp
/-- a node by its address -/
def NdIn (E : List Sl) (p : Addr) (k : Nat → List Nat → Tr → Prop) : Prop := ∃ j π v t h ts, E[j]? = some (.tr v t) ∧ t.get π = some (.nd p h ts) ∧ k j π (.nd p h ts)
theorem wPA_eq : wPA i E KP KY = alS E[i]? fun p => NdIn E p KP := by
  apply propext
  unfold wPA NdIn
  constructor
  · rintro ⟨p, e, h⟩
    rw [e]; exact ⟨rfl, h⟩
  · intro h
    cases e : E[i]? with
    | none => rw [e] at h; exact h.elim
    | some s =>
      rw [e] at h
      cases s with
      | tr v t =>
        cases v with
        | ref p =>
          cases t with
          | hl u =>
            cases u with
            | ref q =>
              obtain ⟨rfl, h⟩ := h
              exact ⟨p, rfl, h⟩
            | _ => exact h.elim
          | _ => exact h.elim
        | _ => exact h.elim
      | _ => exact h.elim
/-- a field of a node -/
def atT (s : Tr) (f : Str) (k : Nat → Tr → Prop) : Prop := ∃ p c ns ts j ch, s = .nd p (.ob c ns) ts ∧ ns.findIdx? (fun g => g == f) = some j ∧ ts[j]? = some ch ∧ k j ch
theorem atT_ob {c : Str} {ns : List Str} {k : Nat → Tr → Prop} {j : Nat} {ch : Tr} (h : ns.findIdx? (fun g => g == f) = some j) (h2 : ts[j]? = some ch) (hk : k j ch) : atT (.nd p (.ob c ns) ts) f k := ⟨p, c, ns, ts, j, ch, rfl, h, h2, hk⟩
theorem wPAt_eq : wPAt wp f E KP KY = wp E (fun i π s => atT s f fun k ch => KP i (π ++ [k]) ch) KY := rfl
def ixT (s : Tr) (d : D) (k : Nat → Tr → Prop) : Prop := ∃ n j p ts c, s = .nd p .lst ts ∧ d = .int n ∧ ixN ts.length n = some j ∧ ts[j]? = some c ∧ k j c
theorem wPIx_eq : wPIx wp wk E KP KY = wp E (fun i π s => wk E (fun d => ixT s d fun j c => KP i (π ++ [j]) c) KY) KY := rfl
theorem ixT_nat {n : Nat} {c : Tr} {k : Nat → Tr → Prop} (h : ts[n]? = some c) (hk : k n c) : ixT (.nd p .lst ts) (.int (n : Int)) k :=
  ⟨_, n, p, ts, c, rfl, rfl, ixN_cast _ _ (List.getElem?_eq_some_iff.mp h).1, h, hk⟩
def dgT (s : Tr) (d : D) (k : Nat → Tr → Prop) : Prop := ∃ ky j p ks ts c, s = .nd p (.dk ks) ts ∧ d = keyD ky ∧ kIdx ks ky = some j ∧ ts[j]? = some c ∧ k j c
theorem wPDg_eq : wPDg wp wk E KP KY = wp E (fun i π s => wk E (fun d => dgT s d fun j c => KP i (π ++ [j]) c) KY) KY := rfl
theorem dgT_int {n : Int} {ks : List Key} {j : Nat} {c : Tr} {k : Nat → Tr → Prop} (h : kIdx ks (.inl n) = some j) (h2 : ts[j]? = some c) (hk : k j c) : dgT (.nd p (.dk ks) ts) (.int n) k := ⟨.inl n, j, p, ks, ts, c, rfl, rfl, h, h2, hk⟩
def dT (s : Tr) (k : D → Prop) : Prop := ∃ d, s = .d d ∧ k d
theorem dT_d {k : D → Prop} : dT (.d d) k = k d := propext ⟨fun ⟨_, e, h⟩ => by cases e; exact h, fun h => ⟨_, rfl, h⟩⟩
theorem wPD_eq : wPD wp E KD KY = wp E (fun _ _ s => dT s KD) KY := rfl
def lstT (s : Tr) (k : List D → Prop) : Prop := ∃ (p : Addr) (ds : List D), s = .nd p .lst (ds.map Tr.d) ∧ k ds
theorem tr_inj : ∀ {a b : List D}, a.map Tr.d = b.map Tr.d → a = b
  | [], [], _ => rfl
  | [], _ :: _, h => nomatch h
  | _ :: _, [], h => nomatch h
  | x :: a, y :: b, h => by
    simp only [List.map_cons, List.cons.injEq, Tr.d.injEq] at h
    rw [h.1, tr_inj h.2]
theorem lstT_map {k : List D → Prop} : lstT (.nd p .lst (ds.map Tr.d)) k = k ds := propext ⟨fun ⟨q, b, e, h⟩ => by
    injection e with _ _ e
    rw [tr_inj e]; exact h, fun h => ⟨p, ds, rfl, h⟩⟩
theorem wPL_eq : wPL wp E KD KY = wp E (fun _ _ s => lstT s fun ds => KD (.list ds)) KY := rfl
theorem rawS_d : rawS (.d d) = .fr d := rfl
theorem rawS_nd : rawS (.nd p h ts) = .tr (.ref p) (.hl (.ref p)) := rfl
theorem rawS_hl : rawS (.hl v) = .tr v (.hl v) := rfl
theorem wEraw_eq : wEraw wp E KS KX = wp E (fun _ _ s => KS (rawS s) E) (fun c => KX c E) := rfl
def hlS : Option Sl → (V → Prop) → Prop
  | some (.tr v (.hl u)), k => v = u ∧ k u
  | _, _ => False
theorem hlS_hl {k : V → Prop} : hlS (some (.tr v (.hl v))) k = k v := by unfold hlS; simp
theorem wEal_eq : wEal i E KS KX = hlS E[i]? fun u => KS (.tr u (.hl u)) E := by
  apply propext
  unfold wEal
  constructor
  · rintro ⟨u, e, h⟩
    rw [e]; exact ⟨rfl, h⟩
  · intro h
    cases e : E[i]? with
    | none => rw [e] at h; exact h.elim
    | some s =>
      rw [e] at h
      cases s with
      | tr v t =>
        cases t with
        | hl u => obtain ⟨rfl, h⟩ := h; exact ⟨_, rfl, h⟩
        | _ => exact h.elim
      | _ => exact h.elim
def lenS (s : Tr) (k : Int → Prop) : Prop := ∃ n : Nat, lenT s = some n ∧ k n
theorem lenS_lst {k : Int → Prop} : lenS (.nd p .lst ts) k = k ts.length := propext ⟨fun ⟨_, e, h⟩ => by cases e; exact h, fun h => ⟨_, rfl, h⟩⟩
theorem lenS_dk {ks : List Key} {k : Int → Prop} : lenS (.nd p (.dk ks) ts) k = k ks.length := propext ⟨fun ⟨_, e, h⟩ => by cases e; exact h, fun h => ⟨_, rfl, h⟩⟩
theorem wPLen_eq : wPLen wp E KD KY = wp E (fun _ _ s => lenS s fun n => KD (.int n)) KY := rfl
def inT (s : Tr) (d : D) (k : Bool → Prop) : Prop := ∃ ky p ks ts, s = .nd p (.dk ks) ts ∧ d = keyD ky ∧ k (kIdx ks ky).isSome
theorem inT_int {n : Int} {ks : List Key} {k : Bool → Prop} : inT (.nd p (.dk ks) ts) (.int n) k = k (kIdx ks (.inl n)).isSome := propext ⟨fun ⟨ky, q, ks', ts', e, e2, h⟩ => by
    cases e
    have : ky = .inl n := keyD_inj (a := ky) (b := .inl n) e2.symm
    subst this; exact h, fun h => ⟨.inl n, p, ks, ts, rfl, rfl, h⟩⟩
theorem wPIn_eq {g : Bool → Bool} : wPIn g wp wk E KD KY = wk E (fun d => wp E (fun _ _ s => inT s d fun b => KD (.bool (g b))) KY) KY := rfl
def ndL (s : Tr) (k : Addr → List Tr → Prop) : Prop := ∃ p ts, s = .nd p .lst ts ∧ k p ts
theorem ndL_lst {k : Addr → List Tr → Prop} : ndL (.nd p .lst ts) k = k p ts := propext ⟨fun ⟨_, _, e, h⟩ => by cases e; exact h, fun h => ⟨_, _, rfl, h⟩⟩
theorem wESl_eq : wESl wp wl wh E KS KX = wp E (fun _ _ s => wl E (fun l => wh E (fun h => ndL s fun p ts => ∀ q, KS (.tr (.ref q) (.nd q .lst (cut (leafs ts) l h))) E) (fun c => KX c E)) (fun c => KX c E)) (fun c => KX c E) := rfl
/-- as a part -/
def asS (s : Sl) (k : Tr → Prop) : Prop := ∃ c, asT s = some c ∧ k c
theorem asS_fr {k : Tr → Prop} : asS (.fr d) k = k (.d d) := propext ⟨fun ⟨_, e, h⟩ => by cases e; exact h, fun h => ⟨_, rfl, h⟩⟩
theorem asS_tr {k : Tr → Prop} : asS (.tr v t) k = k t := propext ⟨fun ⟨_, e, h⟩ => by cases e; exact h, fun h => ⟨_, rfl, h⟩⟩
theorem wPAppE_eq : wPAppE wp ee C E = wp E (fun i π s => ndL s fun p ts => ee E (fun s' E' => asS s' fun c => trS E'[i]? fun v t => ∃ ts', t.get π = some (.nd p .lst ts') ∧ ts'.length < sizeLine ∧
    C.nx (E'.set i (.tr v (t.put π (.nd p .lst (ts' ++ [c])))))) (fun c E' => C.ex c E')) (fun c => C.ex c E) := by
  unfold wPAppE ndL asS
  congr 1
  funext i π s
  congr 1; funext p; congr 1; funext ts; congr 2
  funext s' E'; congr 1; funext c; congr 1
  apply propext
  constructor
  · rintro ⟨v, t, ts', e, a⟩
    show trS E'[i]? _
    rw [e]; exact ⟨ts', a⟩
  · intro h
    obtain ⟨v, t, e, ts', a⟩ := trS_ex h
    exact ⟨v, t, ts', e, a⟩
def dkT (s : Tr) (k : Addr → List Key → List Tr → Prop) : Prop := ∃ p ks ts, s = .nd p (.dk ks) ts ∧ k p ks ts
theorem dkT_dk {ks : List Key} {k : Addr → List Key → List Tr → Prop} : dkT (.nd p (.dk ks) ts) k = k p ks ts := propext ⟨fun ⟨_, _, _, e, h⟩ => by cases e; exact h, fun h => ⟨_, _, _, rfl, h⟩⟩
def keyS (d : D) (k : Key → Prop) : Prop := ∃ ky, d = keyD ky ∧ k ky
theorem keyS_int {n : Int} {k : Key → Prop} : keyS (.int n) k = k (.inl n) := propext ⟨fun ⟨ky, e, h⟩ => by
    have : ky = .inl n := keyD_inj (a := ky) (b := .inl n) e.symm
    subst this; exact h, fun h => ⟨.inl n, rfl, h⟩⟩
theorem keyS_str {n : Str} {k : Key → Prop} : keyS (.str n) k = k (.inr n) := propext ⟨fun ⟨ky, e, h⟩ => by
    have : ky = .inr n := keyD_inj (a := ky) (b := .inr n) e.symm
    subst this; exact h, fun h => ⟨.inr n, rfl, h⟩⟩
theorem wPDput_eq : wPDput wp wk ee C E = ee E (fun s E1 => asS s fun c => wp E1 (fun i π pl => wk E1 (fun kd => keyS kd fun ky => dkT pl fun p ks ts => trS E1[i]? fun v t => ks.Nodup ∧ ks.length < sizeLine ∧
    C.nx (E1.set i (.tr v (t.put π (.nd p (.dk (dputT ks ts ky c).1) (dputT ks ts ky c).2))))) (fun c => C.ex c E1)) (fun c => C.ex c E1)) (fun c E1 => C.ex c E1) := by
  unfold wPDput asS keyS dkT
  congr 1
  funext s E1; congr 1; funext c; congr 2
  funext i π pl; congr 1; funext kd; apply propext
  constructor
  · rintro ⟨ky, p, ks, ts, v, t, a, b, c, d, e, g⟩
    exact ⟨ky, a, p, ks, ts, b, by rw [e]; exact ⟨c, d, g⟩⟩
  · rintro ⟨ky, a, p, ks, ts, b, h⟩
    obtain ⟨v, t, e, c, d, g⟩ := trS_ex h
    exact ⟨ky, p, ks, ts, v, t, a, b, c, d, e, g⟩
def obT (s : Tr) (cn : Str) (k : Addr → List Str → List Tr → Prop) : Prop := ∃ p ns ts, s = .nd p (.ob cn ns) ts ∧ k p ns ts
theorem obT_ob {ns : List Str} {k : Addr → List Str → List Tr → Prop} : obT (.nd p (.ob cn ns) ts) cn k = k p ns ts := propext ⟨fun ⟨_, _, _, e, h⟩ => by cases e; exact h, fun h => ⟨_, _, _, rfl, h⟩⟩
theorem wFldE_eq : wFldE wp f cn ee C E = ee E (fun s E1 => asS s fun c => wp E1 (fun i π pl => obT pl cn fun p ns ts => trS E1[i]? fun v t => ns.length < 1000 ∧
    C.nx (E1.set i (.tr v (t.put π (.nd p (.ob cn (fputT ns ts f c).1) (fputT ns ts f c).2))))) (fun c => C.ex c E1)) (fun c E1 => C.ex c E1) := by
  unfold wFldE asS obT
  congr 1
  funext s E1; congr 1; funext c; congr 2
  funext i π pl; apply propext
  constructor
  · rintro ⟨p, ns, ts, v, t, b, c, e, g⟩
    exact ⟨p, ns, ts, b, by rw [e]; exact ⟨c, g⟩⟩
  · rintro ⟨p, ns, ts, b, h⟩
    obtain ⟨v, t, e, c, g⟩ := trS_ex h
    exact ⟨p, ns, ts, v, t, b, c, e, g⟩
def lsS (s : Sl) (k : List D → Prop) : Prop := ∃ es, (s = .ow es ∨ s = .fr (.list es)) ∧ k es
theorem lsS_ow {k : List D → Prop} : lsS (.ow ds) k = k ds := propext ⟨fun ⟨_, e, h⟩ => by
    rcases e with e | e <;> cases e
    exact h, fun h => ⟨_, .inl rfl, h⟩⟩
theorem lsS_fr {k : List D → Prop} : lsS (.fr (.list ds)) k = k ds := propext ⟨fun ⟨_, e, h⟩ => by
    rcases e with e | e <;> cases e
    exact h, fun h => ⟨_, .inr rfl, h⟩⟩
theorem wExtE_eq : wExtE i ee C E = owS E[i]? (fun _ => ee E (fun s E' => owS E'[i]? fun ds => lsS s fun es => ds.length + es.length ≤ sizeLine ∧ C.nx (E'.set i (.ow (ds ++ es)))) (fun c E' => C.ex c E')) := rfl
theorem wEpop_eq : wEpop i E KS KX = owS E[i]? fun ds => ∃ d, ds[ds.length - 1]? = some d ∧ KS (.fr d) (E.set i (.ow ds.dropLast)) := rfl
def frS' (s : Sl) (k : D → Prop) : Prop := ∃ d, s = .fr d ∧ k d
theorem frS'_fr {k : D → Prop} : frS' (.fr d) k = k d := propext ⟨fun ⟨_, e, h⟩ => by cases e; exact h, fun h => ⟨_, rfl, h⟩⟩
theorem wSetPE_eq : wSetPE pt ee C E = ee E (fun s E' => frS' s fun d => pt.up d E' C.nx) (fun c E' => C.ex c E') := rfl
theorem wEd0_eq : wEd0 E KS KX = ∀ p, KS (.tr (.ref p) (.nd p (.dk []) [])) E := rfl
theorem wEd1_eq : wEd1 wk we E KS KX = wk E (fun k => we E (fun d => keyS k fun ky => ∀ p, KS (.tr (.ref p) (.nd p (.dk [ky]) [.d d])) E) (fun c => KX c E)) (fun c => KX c E) := rfl
def ndLf (s : Sl) (k : List Tr → Prop) : Prop := ∃ q ts, s = .tr (.ref q) (.nd q .lst ts) ∧ (ts.all leafB) = true ∧ k ts
theorem ndLf_lst {k : List Tr → Prop} : ndLf (.tr (.ref p) (.nd p .lst ts)) k = ((ts.all leafB) = true ∧ k ts) := propext ⟨fun ⟨_, _, e, h⟩ => by cases e; exact h, fun h => ⟨_, _, rfl, h⟩⟩
theorem wIRn_eq {KI : List Sl → List Sl → Prop} : wIRn ee E KI KX = ee E (fun s E' => ndLf s fun ts => KI (ts.map rawS) E') KX := rfl
theorem wForR_eq {ir : WIR} : wForR ir i w C E = ir E (fun ss E1 => ∃ I : Nat → List Sl → Prop, I 0 E1 ∧
  (∀ n s E, ss[n]? = some s → I n E → w { C with nx := I (n + 1), ct := I (n + 1), bk := C.nx } (E.set i s)) ∧ ∀ E, I ss.length E → C.nx E) (fun c E' => C.ex c E') := rfl
/-! calls -/
variable {as : List Sl} {k2 : List Sl → List Sl → Prop} {k1 : List Sl → Prop} {a : Sl}
theorem lo_nil : lendOut [] as E k2 = k2 [] E := by cases as <;> rfl
theorem lo_val : lendOut (.val :: gs) (a :: as) E k2 = lendOut gs as E fun as' E' => k2 (a :: as') E' := rfl
theorem lo_rd : lendOut (.rd i :: gs) (a :: as) E k2 = lendOut gs as E fun as' E' => k2 (a :: as') E' := rfl
def ndQ (v : V) (o : Option Tr) (k : Addr → Hn → List Tr → Prop) : Prop := ∃ p h ts, v = .ref p ∧ o = some (.nd p h ts) ∧ k p h ts
theorem ndQ_nd {k : Addr → Hn → List Tr → Prop} : ndQ (.ref p) (some (.nd p h ts)) k = k p h ts := propext ⟨fun ⟨_, _, _, _, e, h⟩ => by cases e; exact h, fun h => ⟨_, _, _, rfl, rfl, h⟩⟩
theorem lo_lent : lendOut (.lent i π :: gs) (.tr v s :: as) E k2 = trS E[i]? fun u t => ndQ v (t.get π) fun p h ts => lendOut gs as (E.set i (.tr u (t.put π (.hl (.ref p))))) fun as' E' => k2 (.tr (.ref p) (.nd p h ts) :: as') E' := by
  apply propext
  constructor
  · rintro ⟨p, h, ts, e, hh⟩
    obtain ⟨u, t, e2, e3, hh⟩ := trS_ex hh
    rw [e2]
    exact ⟨p, h, ts, e, e3, hh⟩
  · intro hh
    obtain ⟨u, t, e2, p, h, ts, e, e3, hh⟩ := trS_ex hh
    exact ⟨p, h, ts, e, by rw [e2]; exact ⟨e3, hh⟩⟩
theorem li_nil : lendIn [] as E k1 = k1 E := by cases as <;> rfl
theorem li_val : lendIn (.val :: gs) as E k1 = lendIn gs as E k1 := by cases as <;> rfl
theorem li_rd : lendIn (.rd i :: gs) as E k1 = lendIn gs as E k1 := by cases as <;> rfl
theorem li_lent : lendIn (.lent i π :: gs) (.tr v s :: as) E k1 = trS E[i]? fun u t => t.get π = some (.hl v) ∧ lendIn gs as (E.set i (.tr u (t.put π s))) k1 := rfl
theorem ri_nil : rdIn [] as E k1 = k1 [] := by cases as <;> rfl
theorem ri_val : rdIn (.val :: gs) (a :: as) E k1 = rdIn gs as E fun as' => k1 (a :: as') := rfl
theorem ri_lent : rdIn (.lent i π :: gs) (a :: as) E k1 = rdIn gs as E fun as' => k1 (a :: as') := rfl
theorem ri_rd : rdIn (.rd i :: gs) (a :: as) E k1 = boS' E[i]? fun ds => rdIn gs as E fun as' => k1 (.bo ds :: as') := rfl
theorem boS_ow : boS' (some (.ow ds)) k1' = k1' ds := rfl
theorem boS_bo' {k : List D → Prop} : boS' (some (.bo ds)) k = k ds := rfl
theorem boS_fr {k : List D → Prop} : boS' (some (.fr (.list ds))) k = k ds := rfl
theorem ls_nil : lentS [] as E k1 = k1 [] := rfl
theorem ls_cons {li : List Nat} : lentS (i :: li) as E k1 = trS as[i]? fun v _ => trS E[i]? fun v' t' => v = v' ∧ lentS li as E fun l => k1 (.tr v' t' :: l) := rfl
theorem wEA0_eq : wEA0 E KA KX = KA [] E := rfl
theorem wEAc_eq : wEAc ee wea E KA KX = ee E (fun s E1 => wea E1 (fun ss E2 => KA (s :: ss) E2) KX) KX := rfl
theorem wEAr_eq : wEAr wea E KA KX = wea E (fun ss E2 => KA (.un :: ss) E2) KX := rfl
theorem wECall_eq {g : CtS} : wECall gs wea g E KS KX = wea E (fun ss E1 => lendOut gs ss E1 fun as E2 => rdIn gs as E2 fun as' => g as' (fun s outs => lendIn gs outs E2 (fun E3 => KS s E3)) (fun c outs => lendIn gs outs E2 (fun E3 => KX c E3))) KX := rfl
theorem wEMeth_eq {g : CtS} {g0 : Ag} : wEMeth gs g0 eo wea cn mn g E KS KX = eo E (fun s0 E0 => isO cn mn g0 s0 E0 ∧ wea E0 (fun ss E1 => lendOut (g0 :: gs) (s0 :: ss) E1 fun as E2 => rdIn (g0 :: gs) as E2 fun as' =>
  g as' (fun s outs => lendIn (g0 :: gs) outs E2 (fun E3 => KS s E3)) (fun c outs => lendIn (g0 :: gs) outs E2 (fun E3 => KX c E3))) KX) KX := rfl
def obQ (o : Option Tr) (s : Sl) (cn mn : Str) : Prop := ∃ p ns ts, s = .tr (.ref p) (.hl (.ref p)) ∧ o = some (.nd p (.ob cn ns) ts) ∧ ns.contains mn = false
theorem obQ_ob {ns : List Str} : obQ (some (.nd p (.ob cn ns) ts)) (.tr (.ref p) (.hl (.ref p))) cn mn = (ns.contains mn = false) := propext ⟨fun ⟨_, _, _, e, e2, h⟩ => by cases e2; exact h, fun h => ⟨_, _, _, rfl, rfl, h⟩⟩
theorem isO_lent {s : Sl} : isO cn mn (.lent i π) s E = trS E[i]? fun _ t => obQ (t.get π) s cn mn := rfl
theorem isO_val : isO cn mn .val (.fr d) E = ∃ kvs, d = objD cn kvs ∧ fget kvs mn = none := rfl
theorem wAtD_eq : wAtD we f E KD KY = we E (fun d => ∃ c kvs x, d = objD c kvs ∧ fget kvs f = some x ∧ KD x) KY := rfl
def atD (d : D) (f : Str) (k : D → Prop) : Prop := ∃ c kvs x, d = objD c kvs ∧ fget kvs f = some x ∧ k x
theorem wAtD_eq2 : wAtD we f E KD KY = we E (fun d => atD d f KD) KY := rfl
def atK (o : Option D) (k : D → Prop) : Prop := ∃ x, o = some x ∧ k x
theorem atK_some {x : D} {k : D → Prop} : atK (some x) k = k x := propext ⟨fun ⟨_, e, h⟩ => by cases e; exact h, fun h => ⟨_, rfl, h⟩⟩
theorem atD_obj {c : Str} {kvs : List (D × D)} {k : D → Prop} : atD (objD c kvs) f k = atK (fget kvs f) k := propext ⟨fun ⟨_, _, x, e, h⟩ => by cases e; exact ⟨x, h⟩, fun ⟨x, h⟩ => ⟨_, _, x, rfl, h⟩⟩
theorem wDDg_eq : wDDg wo wk E KD KY = wo E (fun d => wk E (fun kd => dicS d fun kvs => keyS kd fun ky => atK (valD kvs ky) KD) KY) KY := by
  unfold wDDg dicS keyS atK
  congr 1; funext d; congr 1; funext kd; apply propext
  exact ⟨fun ⟨kvs, a, ky, x, b, c, e⟩ => ⟨kvs, a, ky, b, x, c, e⟩, fun ⟨kvs, a, ky, b, x, c, e⟩ => ⟨kvs, a, ky, x, b, c, e⟩⟩
theorem wDDin_eq {g : Bool → Bool} : wDDin g wo wk E KD KY = wk E (fun kd => wo E (fun d => dicS d fun kvs => keyS kd fun ky => KD (.bool (g (valD kvs ky).isSome))) KY) KY := rfl
theorem rLEND_eq : rLEND [d] KD = dicS d fun kvs => KD (.int kvs.length) := propext ⟨fun ⟨_, e, h⟩ => by cases e; exact h, fun h => ⟨_, rfl, h⟩⟩
theorem rLISTD_eq : rLISTD [d] KD = dicS d fun kvs => KD (.list (kvs.map fun p => keyD p.1)) := propext ⟨fun ⟨_, e, h⟩ => by cases e; exact h, fun h => ⟨_, rfl, h⟩⟩
theorem rSORTD_eq : rSORTD [d] KD = dicS d fun kvs => ∃ ks : List Int, kvs.map (·.1) = ks.map Sum.inl ∧ ks.length < 64 ∧ ∀ ys : List Int, ys.Perm ks → ys.Pairwise (· ≤ ·) → KD (.list (ys.map PyData.int)) := propext ⟨fun ⟨_, e, h⟩ => by cases e; exact h, fun h => ⟨_, rfl, h⟩⟩
theorem wIKd_eq : wIKd we E KI KY = we E (fun d => dicS d fun kvs => KI (kvs.map fun p => keyD p.1)) KY := rfl
theorem wIItd_eq : wIItd we E KI KY = we E (fun d => dicS d fun kvs => KI (kvs.map fun p => .tuple [keyD p.1, p.2])) KY := rfl
theorem wFnS_eq {mr : Mo} {g : CtS} {ds0 : List D} : wFnS mr ms wa g ds0 E KD KY = wa E (fun ds => g (slots ms ds ++ ds0.map .fr) (fun s _ => slR mr s KD) (fun c _ => KY c)) KY := rfl
theorem slots_nil : slots [] ds = [] := by cases ds <;> rfl
theorem slots_fz {m : Mo} {ms : List Mo} : slots (m :: ms) (d :: ds) = slOf m d :: slots ms ds := rfl
theorem slOf_fz : slOf .fz d = .fr d := by cases d <;> rfl
theorem slR_fz : slR .fz (.fr d) KD = KD d := rfl
theorem slR_nw : slR .nw (.ow ds) KD = KD (.list ds) := rfl
theorem wMethD_eq {g : Ct} : wMethD wo wa cn mn g E KD KY = wo E (fun d => (∃ kvs, d = objD cn kvs ∧ fget kvs mn = none) ∧ wa E (fun ds => g (d :: ds) KD KY) KY) KY := rfl
theorem wMeth0D_eq {g : Ct} : wMeth0D wo cn mn g E KD KY = wo E (fun d => (∃ kvs, d = objD cn kvs ∧ fget kvs mn = none) ∧ g [d] KD KY) KY := rfl
theorem isObjD {kvs : List (D × D)} : (∃ kvs', objD cn kvs = objD cn kvs' ∧ fget kvs' mn = none) = (fget kvs mn = none) := propext ⟨fun ⟨_, e, h⟩ => by cases e; exact h, fun h => ⟨_, rfl, h⟩⟩
theorem wMakeF_eq {g : CtS} {ds0 : List D} : wMakeF cn ms wa g ds0 E KD KY = wa E (fun ds => ∀ x, g (.tr (.ref x) (.nd x (.ob cn []) []) :: (slots ms ds ++ ds0.map .fr)) (fun s outs => s = .fr .none ∧ ∃ (ns : List Str) (ds' : List D), outs = [.tr (.ref x) (.nd x (.ob cn ns) (ds'.map Tr.d))] ∧
  KD (objD cn (List.zip (ns.map PyData.str) ds'))) (fun c _ => KY c)) KY := rfl
def lkT (s : Tr) (k : List (Key × V) → Prop) : Prop := ∃ p od ws ts, s = .nd p (.dkL od ws) ts ∧ k ws
theorem lkT_lk {od : Obj} {ws : List (Key × V)} {k : List (Key × V) → Prop} : lkT (.nd p (.dkL od ws) ts) k = k ws := propext ⟨fun ⟨_, _, _, _, e, h⟩ => by cases e; exact h, fun h => ⟨_, _, _, _, rfl, h⟩⟩
theorem wIKp_eq : wIKp wp E KI KY = wp E (fun _ _ s => lkT s fun ws => KI (ws.map fun kv => keyD kv.1)) KY := rfl
theorem wFrz_eq : wFrz i π w C E = trS E[i]? fun v t => ∃ s d, t.get π = some s ∧ datT s = some d ∧ w C (E.set i (.tr v (t.put π (.d d)))) := rfl
theorem wFrzA_eq : wFrzA i w C E = trS E[i]? fun v t => ∃ d, datT t = some d ∧ w C (E.set i (.fr d)) := rfl
theorem wNMake_eq {g : CtS} : wNMake cn ms wa g E KT KY = wa E (fun ds => ∀ x, g (.tr (.ref x) (.nd x (.ob cn []) []) :: slots ms ds) (fun s outs => s = .fr .none ∧ ∃ t, outs = [.tr (.ref x) t] ∧ KT t) (fun c _ => KY c)) KY := rfl
def ndS (t : Tr) (k : Addr → Prop) : Prop := ∃ p h ts, t = .nd p h ts ∧ k p
theorem ndS_nd {k : Addr → Prop} : ndS (.nd p h ts) k = k p := propext ⟨fun ⟨_, _, _, e, h⟩ => by cases e; exact h, fun h => ⟨_, _, _, rfl, h⟩⟩
theorem wEnew_eq : wEnew wn E KS KX = wn E (fun t => ndS t fun p => KS (.tr (.ref p) t) E) (fun c => KX c E) := by
  unfold wEnew ndS
  congr 1
theorem wLcN_eq : wLcN wi pt wn vs E KS KX = wi E (fun ds => ds.length ≤ sizeLine ∧ ∃ R : D → Tr → Prop, (∀ d ∈ ds, pt.up d (wipeE E vs) fun E' => wn E' (fun t => R d t) (fun _ => False)) ∧
  ∀ P ts, All2 R ds ts → KS (.tr (.ref P) (.nd P .lst ts)) E) (fun c => KX c E) := rfl
end
end Tb

set_option Elab.async false
set_option linter.all false
set_option maxRecDepth 100000
set_option maxHeartbeats 2000000
/-! ### list + list, any that can be read -/
namespace L2
open PySem PySem.Spec PyProof.Rows
section
variable {X : Cx}
theorem op_catR : OpR X (binaryOp .Add) (fun x y H Q => ∃ l b xs zs, x = .ref l ∧ y = .ref b ∧ SqL X.K H l xs ∧ SqL X.K H b zs ∧ xs.length + zs.length ≤ sizeLine ∧ ∀ p, H p = none → Q (.ref p) (upd H p (.lst (xs ++ zs)))) := by
  intro pins s σ H x y v u Q I rx ry h
  obtain ⟨l, b, xs, zs, rfl, rfl, hH, hB, hz, q⟩ := h
  cases rx
  cases ry
  obtain ⟨its, r, hl, _⟩ := I.list hH
  obtain ⟨its2, r2, hl2, _⟩ := I.list hB
  obtain ⟨⟨cls, dd, data, sl⟩, ho, hc, n, hd⟩ := hl.isList
  obtain ⟨⟨cls2, dd2, data2, sl2⟩, ho2, hc2, n2, hd2⟩ := hl2.isList
  simp only at hc hd hc2 hd2
  subst hc hd hc2 hd2
  have e : its.toArray ++ its2.toArray = (its ++ its2).toArray := by simp
  have l1 := r.length
  have l2 := r2.length
  refine concat_meets ⟨_, ho, rfl⟩ ⟨_, ho2, rfl⟩ noFill_list_add seq_list_add PySem.F.slot_list_add PySem.F.entry_list_add (PySem.F.args_list_add_2 _ _) (list_addW l b its.toArray its2.toArray n n2 dd dd2 sl sl2 (by simp; omega)) ⟨ho, ho2, ?_⟩
  rw [e]
  exact ⟨.ref _, _, I.lnew (t' := s.toks) (r.append r2) (by rw [List.length_append]; omega), rfl, q _ I.fresh⟩
end
end L2
namespace Tb
section
open PySem PySem.Spec L2
variable {X : Cx} {W : WX} {a b : Expr} {pos : Pos} {ma mb : Mo} {wa wb : WE}
theorem j_catR (ha : J ma X W a wa) (hb : J mb X W b wb) : J .nw X W (.BinOp a .Add b pos) (wBin wa wb rCAT) :=
  j_op op_catR (fun x y KD v u H0 F H Q ⟨xs, ys, e1, e2, hl, q⟩ s rx ry k => by
    subst e1 e2
    obtain ⟨p, vs, rfl, sq, ra⟩ := rx.list s
    obtain ⟨p2, vs2, rfl, sq2, ra2⟩ := ry.list s
    exact ⟨p, p2, vs, vs2, rfl, rfl, sq, sq2, by rw [ra.len, ra2.len]; exact hl, fun z nz => k _ q F _ _ (Grow.lay s nz) ⟨z, _, _, rfl, rfl, nz, none_of_same s nz, upd_same, ra.append ra2⟩⟩ : OpD .rd .rd .nw X.K _ rCAT) ha.rd hb.rd
end
end Tb

set_option Elab.async false
set_option linter.all false
set_option maxRecDepth 100000
set_option maxHeartbeats 2000000
/-! ### operators whose left part changes something; tuples of such -/
namespace Tb
section
open PySem PySem.Spec L2
variable {X : Cx} {W : WX} {a b e ke : Expr} {es : List Expr} {pos : Pos} {m mb m1 : Mo} {wb wk : WE} {ee : WEE} {ws : WEA} {gs : List Ag} {r : R2} {r' : D → D → (D → Prop) → Prop}
def wECmp (ee : WEE) (wb : WE) (r' : D → D → (D → Prop) → Prop) : WEE := fun E KS KX => ee E (fun s E1 => frS' s fun x => wb E1 (fun y => r' x y fun d => KS (.fr d) E1) (fun c => KX c E1)) KX
theorem op_rdE (od : OpD .rd .rd .fz X.K r r') {σ : L2.St} {H : Hp} {Q : VK} (h : tE X.K W (wECmp ee wb r') σ H Q) : tOp r (tE X.K W ee) (tJ .rd X.K W wb) σ H Q := by
  obtain ⟨H0, F0, F, own, E, KS, KX, rl, q, k, x⟩ := h
  refine ⟨H0, F0, F, own, E, _, KX, rl, q, fun s E1 ⟨x1, es, h1⟩ F1 own1 H1 v fp r1 ef1 fl pv => ⟨H0, F0, F1, own1, E1, _, _, r1, h1, fun y h2 F2 H2 u g2 ry => ?_, fun c hc F2 H2 g2 => x c E1 hc F2 own1 H2 (r1.grow g2) (ef1.trans (.grow g2))⟩, x⟩
  subst es
  have fl2 := fl.eff (.grow (own := own1) g2)
  exact od x1 y _ v u H F2 H2 Q h2 g2.fh (.inl fl2.o.2) (ry.rd_of.keep (Grow.refl g2.fh) (by decide) |>.old (Same.refl _) |> fun z => by
    rcases z with z | ⟨p, vs, ds, e1, e2, sq, ra⟩
    · exact .inl z
    · exact .inr ⟨p, vs, ds, e1, e2, sq, ra⟩) fun d hd F3 H3 z g3 rz => k _ E1 hd F3 own1 H3 z [] ((r1.grow g2).grow g3) ((ef1.trans (.grow g2)).trans (.grow g3)) (fly_fr rz) prov_nil
theorem ej_cmp {op : CmpOp} (ho : OpR X (compareOp op) r) (od : OpD .rd .rd .fz X.K r r') (ha : EJ X W a ee) (hb : J .rd X W b wb) (hm : behindInMarks op b = false) : EJ X W (.Compare a [op] [b] pos) (wECmp ee wb r') :=
  pe_imp (pe_cmpR ho ha hb hm) fun _ _ _ h => op_rdE od h
theorem et_cmp {op : CmpOp} (ho : OpR X (compareOp op) r) (od : OpD .rd .rd .fz X.K r r') (ha : EJ X W a ee) (hb : J .rd X W b wb) (hm : behindInMarks op b = false) : ET X W (.Compare a [op] [b] pos) (wTe (wECmp ee wb r')) :=
  pt_imp (pt_cmpR ho ha hb hm) fun σ H Q ⟨H0, F0, F, own, E, KB, KX, rl, q, k, x⟩ => by
    refine op_rdE od (Q := fun v H1 => ∃ c, v = V.bl c ∧ Q c H1) ⟨H0, F0, F, own, E, _, KX, rl, q, fun s E' ⟨b, es, hb⟩ F' own' H' v fp r' ef fl pv => ?_, x⟩
    subst es
    have rp : Rp X.K F' v (.bool b) := fl.o.2
    cases rp
    exact ⟨b, rfl, k b E' hb F' own' H' r' ef⟩
theorem ej_ixT (ha : EJ X W a ee) (hk : J m1 X W ke wk) (hs : PlainIx ke := by exact fun _ _ => rfl) : EJ X W (.Subscript a ke pos) (wECmp ee wk rIX) :=
  pe_imp (pe_ix (ix_list.or ix_tup) ha hk.rd hs) fun _ _ _ h => op_rdE (odOr odIxL odIxT) h
def wETup (ws : WEA) : WEE := fun E KS KX => ws E (fun ss E' => ∃ ds : List D, ss = ds.map Sl.fr ∧ ds.length ≤ sizeLine ∧ KS (.fr (.tuple ds)) E') KX
theorem ownL_fr {K : Frag} {F H : Hp} : ∀ {ds : List D} {vs : List V} {fps : List (List Addr)}, OwnL K F H (ds.map Sl.fr) vs fps → RpAll K F vs ds
  | [], _, _, h => by cases h; exact .nil
  | d :: ds, _, _, h => by
    cases h with
    | cons h1 h2 => exact .cons h1.2 (ownL_fr h2)
theorem ej_tup {x1} (ha : EA gs X W es ws) : EJ X W (.Tuple es x1 pos) (wETup ws) := pe_imp (pe_tup ha) fun σ H Q ⟨H0, F0, F, own, E, KS, KX, r, q, k, x⟩ =>
  ⟨H0, F0, F, own, E, _, KX, r, q, fun ss E' ⟨ds, es, hl, hd⟩ F' own' H' vs fps r' ef o n hf pv rd => by
    subst es
    have ra := ownL_fr o
    refine ⟨by rw [ra.len]; exact hl, fun z nz => ?_⟩
    have g2 : Grow F' H' (upd F' z (.tup vs)) (upd H' z (.tup vs)) := Grow.layF r'.g.fh nz
    exact k _ E' hd _ own' _ _ [] (r'.grow g2) (ef.trans (.grow g2)) (fly_fr (.tup (SqT.of upd_same) (RpAll.mono (same_upd (none_of_same r'.g.fh nz)) _ _ ra))) prov_nil, x⟩
section
variable {E : List Sl} {KS : Sl → List Sl → Prop} {KX : Str → List Sl → Prop}
theorem wECmp_eq : wECmp ee wb r' E KS KX = ee E (fun s E1 => frS' s fun x => wb E1 (fun y => r' x y fun d => KS (.fr d) E1) (fun c => KX c E1)) KX := rfl
def frsS : List Sl → (List D → Prop) → Prop
  | [], k => k []
  | .fr d :: r, k => frsS r fun ds => k (d :: ds)
  | _, _ => False
theorem frsS_nil {k : List D → Prop} : frsS [] k = k [] := rfl
theorem frsS_cons {d : D} {r : List Sl} {k : List D → Prop} : frsS (.fr d :: r) k = frsS r fun ds => k (d :: ds) := rfl
theorem frsS_iff {ss : List Sl} {k : List D → Prop} : (∃ ds : List D, ss = ds.map Sl.fr ∧ k ds) ↔ frsS ss k := by
  induction ss generalizing k with
  | nil => exact ⟨fun ⟨ds, e, h⟩ => (by cases ds with | nil => exact h | cons _ _ => cases e), fun h => ⟨[], rfl, h⟩⟩
  | cons s ss ih =>
    cases s with
    | fr d =>
      rw [frsS_cons, ← ih]
      constructor
      · rintro ⟨ds, e, h⟩
        cases ds with
        | nil => cases e
        | cons a ds =>
          simp only [List.map_cons, List.cons.injEq, Sl.fr.injEq] at e
          rw [e.1]; exact ⟨ds, e.2, h⟩
      · rintro ⟨ds, e, h⟩
        exact ⟨d :: ds, by rw [e]; rfl, h⟩
    | _ => exact ⟨fun ⟨ds, e, h⟩ => (by cases ds <;> cases e), fun h => (show False from h).elim⟩
theorem wETup_eq : wETup ws E KS KX = ws E (fun ss E' => frsS ss fun ds => ds.length ≤ sizeLine ∧ KS (.fr (.tuple ds)) E') KX := by
  unfold wETup
  congr 1
  funext ss E'
  exact propext frsS_iff
end
end
end Tb

set_option Elab.async false
set_option linter.all false
set_option maxRecDepth 100000
set_option maxHeartbeats 2000000
/-! ### x *= e; two names stored at once -/
namespace Tb
section
open PySem PySem.Spec L2
variable {X : Cx} {W : WX} {e : Expr} {we : WE} {pos : Pos} {m m1 : Mo}
def ipIC (C : Int → Int → Prop) (f : Int → Int → Int) : TIp := fun x y H Q => ∃ i j, x = .int i ∧ y = .int j ∧ C i j ∧ Q (.int (f i j)) H
theorem ip_mulB : PIp X .Mult (ipIC CMulB fun i j => i * j) := by
  intro pins s σ H x y v u Q I r1 r2 h
  obtain ⟨i, j, e1, e2, c, q⟩ := h
  subst e1; subst e2
  obtain ⟨t, rfl⟩ := r1
  obtain ⟨t', rfl⟩ := r2
  exact PySem.P.imul_int ⟨.int _, H, I.tok _, ⟨_, rfl⟩, q⟩ c.ok
/-- x op= e, ints, with a bound -/
def wAugM (i : Nat) (we : WE) (P : Int → Int → Prop) (f : Int → Int → Int) : WS := fun C E => ∃ n, E[i]? = some (.fr (.int n)) ∧ we E (fun d => ∃ k, d = .int k ∧ P n k ∧ C.nx (E.set i (.fr (.int (f n k))))) (fun c => C.ex c E)
theorem s_augM {i : Nat} {x : Str} {op : Operator} {P : Int → Int → Prop} {f : Int → Int → Int} {pos' : Pos} (hN : X.N.Nodup) (ho : PIp X op (ipIC P f)) (he : J m1 X W e we) (hi : X.N[i]? = some x := by rfl) (hx : Loc X.env.scope x := by first | exact Or.inl rfl | exact Or.inr rfl)
    (hf : X.fn x = true ∨ X.env.scope.names.lookup x = some .local := by first | exact .inl rfl | exact .inr rfl) : S m X W (.AugAssign (.Name x pos') op e pos) (wAugM i we P f) :=
  ps_imp (ps_aug hN hi hx he.rd ho hf) fun DD σ H ⟨H0, F0, F, own, E, C, r, ⟨n, en, q⟩, kn, kb, kc, kr, kx⟩ => by
    obtain ⟨v, e1, rv⟩ := r.sl _ _ en
    cases rv
    exact ⟨_, getD_some e1, H0, F0, F, own, E, _, _, r, q, fun d ⟨k, ed, hp, hd⟩ F' H' v g rs => by
      subst ed
      exact ⟨n, k, rfl, rs.int, hp, kn _ _ _ _ _ ((r.grow g).putFr (.int _)) hd⟩, fun c hc F' H' g => kx c _ _ _ _ _ (r.grow g) hc⟩
theorem wAugM_eq {i : Nat} {P : Int → Int → Prop} {f : Int → Int → Int} {C : EndsD} {E : List Sl} : wAugM i we P f C E = ∃ n, E[i]? = some (.fr (.int n)) ∧ we E (fun d => ∃ k, d = .int k ∧ P n k ∧ C.nx (E.set i (.fr (.int (f n k))))) (fun c => C.ex c E) := rfl
/-- x, y = a, b -/
def wPar (i j : Nat) (wa : WA) : WS := fun C E => wa E (fun ds => ∃ d e, ds = [d, e] ∧ C.nx ((E.set i (.fr d)).set j (.fr e))) (fun c => C.ex c E)
theorem s_par {i j : Nat} {x y : Str} {a b : Expr} {wa : WA} {px py pt pt2 : Pos} {kt k2} (hc : X.calm = true) (hN : X.N.Nodup) (ha : JA [.fz, .fz] X W [a, b] wa) (hij : i ≠ j := by decide)
    (hi : X.N[i]? = some x := by rfl) (hj : X.N[j]? = some y := by rfl) (hx : X.env.scope.names.lookup x = some .local := by rfl) (hy : X.env.scope.names.lookup y = some .local := by rfl)
    (hw : swappedStores [.Tuple [.Name x px, .Name y py] kt pt] (.Tuple [a, b] k2 pt2) X.env = pure (some [x, y]) := by rfl)
    (hs : swapsWithSole [.Tuple [.Name x px, .Name y py] kt pt] (.Tuple [a, b] k2 pt2) pos.line X.env = pure false := by rfl) :
    S m X W (.Assign [.Tuple [.Name x px, .Name y py] kt pt] (.Tuple [a, b] k2 pt2) pos) (wPar i j wa) :=
  ps_imp (ps_par hc hN hi hj hij hx hy ha.1 hw hs) fun DD σ H ⟨H0, F0, F, own, E, C, r, q, kn, kb, kc, kr, kx⟩ =>
    ⟨H0, F0, F, own, E, _, _, r, q, fun ds ⟨d, e, ed, hd⟩ F' H' vs g rs => by
      subst ed
      have ra := resAll_fz (by decide) rs
      cases ra with
      | cons r1 ra =>
        cases ra with
        | cons r2 ra =>
          cases ra
          exact ⟨_, _, rfl, kn _ _ _ _ _ (((r.grow g).putFr r1).putFr r2) hd⟩, fun c hc F' H' g => kx c _ _ _ _ _ (r.grow g) hc⟩
def exPair (ds : List D) (k : D → D → Prop) : Prop := ∃ d e, ds = [d, e] ∧ k d e
theorem exPair_two {d e : D} {k : D → D → Prop} : exPair [d, e] k = k d e := propext ⟨fun ⟨_, _, h, q⟩ => by cases h; exact q, fun q => ⟨_, _, rfl, q⟩⟩
theorem wPar_eq {i j : Nat} {wa : WA} {C : EndsD} {E : List Sl} : wPar i j wa C E = wa E (fun ds => exPair ds fun d e => C.nx ((E.set i (.fr d)).set j (.fr e))) (fun c => C.ex c E) := rfl
end
end Tb

set_option Elab.async false
set_option linter.all false
set_option maxRecDepth 100000
set_option maxHeartbeats 4000000
/-! ### a tuple no time or once -/
namespace Tb
section
open PySem PySem.Spec PyProof.Rows L2
theorem tuple_mul1 (l : Addr) (items : Array Value) (n : Nat) (dd : Option Addr) (sl : Array (Option Value)) (u : Tok) :
    Meets (Builtin.«tuple.__mul__» ⟨[.ref l, .int 1 u], []⟩) (fun _ R s => s.heap.get? l = some { cls := .type "tuple", dict := dd, data := .seq items n, slots := sl } ∧ R (.ok (.ret (Value.ref l))) s) :=
  .of_wp fun prog w A R s h => by
    obtain ⟨hp, g, d, tk, os⟩ := s
    obtain ⟨hl, h⟩ := h
    have f1 := AutoSeq1.idx_int
    have c1 : (items.isEmpty || (1 : Int) == 1) = true := by simp
    wp_walk using wpAny_loadPart' hl
    exact ⟨_, rfl, h⟩
theorem tuple_mul0 (l : Addr) (items : Array Value) (n : Nat) (dd : Option Addr) (sl : Array (Option Value)) (u : Tok) (hi : items.isEmpty = false) :
    Meets (Builtin.«tuple.__mul__» ⟨[.ref l, .int 0 u], []⟩) (fun _ R s => s.heap.get? l = some { cls := .type "tuple", dict := dd, data := .seq items n, slots := sl } ∧
      R (.ok (.ret (Value.ref s.heap.objs.size))) { s with heap := s.heap.push { cls := Value.type "tuple", data := Data.seq #[] }, toks := s.toks }) :=
  .of_wp fun prog w A R s h => by
    obtain ⟨hp, g, d, tk, os⟩ := s
    obtain ⟨hl, h⟩ := h
    have f1 := AutoSeq1.idx_int
    have c1 : (items.isEmpty || (0 : Int) == 1) = false := by rw [hi]; rfl
    have c2 : (decide ((0 : Int) ≤ 0) || items.isEmpty) = true := by simp
    wp_walk using wpAny_loadPart' hl
    exact ⟨_, rfl, h⟩
def rRepB (K : PySem.W.Frag) : R2 := fun x y H Q => ∃ l k xs, x = .ref l ∧ y = .int k ∧ SqT K H l xs ∧ xs ≠ [] ∧ ((k = 1 ∧ Q (.ref l) H) ∨ (k = 0 ∧ ∀ p, H p = none → Q (.ref p) (upd H p (.tup []))))
variable {X : Cx} {W : WX} {a b : Expr} {wa wb : WE} {ma mb : Mo} {pos : Pos}
theorem op_repB : OpR X (binaryOp .Mult) (rRepB X.K) := by
  intro pins s σ H x y v u Q I rx ry h
  obtain ⟨l, k, xs, rfl, rfl, hT, hne, q⟩ := h
  cases rx
  obtain ⟨t, rfl⟩ := ry
  obtain ⟨its, r, ⟨⟨cls, dd, data, sl⟩, ho, hc, n, hd⟩, hs⟩ := I.tuple hT
  simp only at hc hd
  subst hc hd
  have hle : its.length = xs.length := r.length.symm
  have hn : its ≠ [] := fun e => hne (by
    rw [e] at hle
    exact List.eq_nil_of_length_eq_zero hle.symm)
  have hi : its.toArray.isEmpty = false := by
    cases its with
    | nil => exact absurd rfl hn
    | cons a b => rfl
  rcases q with ⟨rfl, q⟩ | ⟨rfl, q⟩
  · refine wpAny_binaryOp_repeat_ref (T := "tuple") (U := "int") (by decide) ⟨_, ho, rfl⟩ (fun s' => typeIs_int s' _ t) noFill_tuple_mul F.fills_int_mul F.slot_int_rmul repeat_tuple F.slot_int_index.lookup
      (call_meets F.slot_int_rmul (typeIs_int s _ t) F.entry_int_rmul (F.args_int_rmul_2 _ _) (int_rmul_tuple _ t l its.toArray n dd sl)
        ⟨ho, rfl, ⟨_, ho, rfl⟩, call_meets F.slot_tuple_mul ⟨_, ho, rfl⟩ F.entry_tuple_mul (F.args_tuple_mul_2 _ _) (tuple_mul1 l its.toArray n dd sl t) ⟨ho, ?_⟩⟩)
    exact ⟨.ref l, H, I, rfl, q⟩
  · refine wpAny_binaryOp_repeat_ref (T := "tuple") (U := "int") (by decide) ⟨_, ho, rfl⟩ (fun s' => typeIs_int s' _ t) noFill_tuple_mul F.fills_int_mul F.slot_int_rmul repeat_tuple F.slot_int_index.lookup
      (call_meets F.slot_int_rmul (typeIs_int s _ t) F.entry_int_rmul (F.args_int_rmul_2 _ _) (int_rmul_tuple _ t l its.toArray n dd sl)
        ⟨ho, rfl, ⟨_, ho, rfl⟩, call_meets F.slot_tuple_mul ⟨_, ho, rfl⟩ F.entry_tuple_mul (F.args_tuple_mul_2 _ _) (tuple_mul0 l its.toArray n dd sl t hi) ⟨ho, ?_⟩⟩)
    refine ⟨.ref s.heap.objs.size, _, I.laid (t' := s.toks) (o := .tup []) (fun b ob q => Heap.get?_push_of_some _ q) (Nat.le_refl _) ?_, rfl, q _ (I.hok.fresh (Nat.le_refl _))⟩
    exact ⟨Nat.zero_le _, [], .nil, IsTup.new _ _⟩
def rREPT : D → D → (D → Prop) → Prop := fun x y KD => ∃ xs k, x = .tuple xs ∧ y = .int k ∧ xs ≠ [] ∧ (k = 0 ∨ k = 1) ∧ KD (.tuple (List.replicate k.toNat xs).flatten)
theorem j_repT (ha : J ma X W a wa) (hb : J mb X W b wb) : J .fz X W (.BinOp a .Mult b pos) (wBin wa wb rREPT) :=
  j_op op_repB (fun x y KD v u H0 F H Q ⟨xs, k, e1, e2, hne, hk, q⟩ s rx ry kk => by
    subst e1 e2
    have rpx : Rp X.K F v (.tuple xs) := Res.scal (e := .none) (fun _ z => nomatch z) rx
    obtain ⟨p, vs, rfl, sq, ra⟩ := rx.tuple s
    refine ⟨p, k, vs, rfl, ry.int, sq, fun e => hne (by rw [e] at ra; cases ra; rfl), ?_⟩
    rcases hk with rfl | rfl
    · exact .inr ⟨rfl, fun z nz => kk _ q _ _ _ (Grow.layF s nz) (.tup (SqT.of upd_same) .nil)⟩
    · refine .inl ⟨rfl, kk _ q F H _ (Grow.refl s) ?_⟩
      show Rp _ _ _ (.tuple (xs ++ []))
      rw [List.append_nil]
      exact rpx : OpD .rd .rd .fz X.K _ rREPT) ha.rd hb.rd
theorem rREPT_eq {xs : List D} {k : Int} {KD : D → Prop} : rREPT (.tuple xs) (.int k) KD = (xs ≠ [] ∧ (k = 0 ∨ k = 1) ∧ KD (.tuple (List.replicate k.toNat xs).flatten)) := by
  apply propext; simp [rREPT]
/-- t + u and t[a:b], of any kind -/
def rCATA : D → D → (D → Prop) → Prop := fun x y KD => ∃ xs ys, x = .tuple xs ∧ y = .tuple ys ∧ xs.length + ys.length ≤ sizeLine ∧ KD (.tuple (xs ++ ys))
theorem j_catA (ha : J ma X W a wa) (hb : J mb X W b wb) : J .fz X W (.BinOp a .Add b pos) (wBin wa wb rCATA) :=
  j_op op_catA (fun x y KD v u H0 F H Q ⟨xs, ys, e1, e2, hl, q⟩ s rx ry k => by
    subst e1 e2
    have rpx : Rp X.K F v (.tuple xs) := Res.scal (e := .none) (fun _ z => nomatch z) rx
    have rpy : Rp X.K F u (.tuple ys) := Res.scal (e := .none) (fun _ z => nomatch z) ry
    obtain ⟨p, vs, rfl, sq, ra⟩ := rx.tuple s
    obtain ⟨p2, vs2, rfl, sq2, ra2⟩ := ry.tuple s
    refine ⟨p, p2, vs, vs2, rfl, rfl, sq, sq2, by rw [ra.len, ra2.len]; exact hl, fun z => ?_, fun _ z => ?_, fun _ _ p3 nz => ?_⟩
    · subst z; cases ra
      exact k _ q F H _ (Grow.refl s) rpy
    · subst z
      cases ra2
      rw [List.append_nil] at q
      exact k _ q F H _ (Grow.refl s) rpx
    · exact k _ q (upd F p3 _) _ _ (Grow.layF s nz) (.tup (SqT.of upd_same) (RpAll.mono (same_upd (none_of_same s nz)) _ _ (ra.append ra2))) : OpD .rd .rd .fz X.K _ rCATA) ha.rd hb.rd
theorem rCATA_eq {xs ys : List D} {KD : D → Prop} : rCATA (.tuple xs) (.tuple ys) KD = (xs.length + ys.length ≤ sizeLine ∧ KD (.tuple (xs ++ ys))) := by
  apply propext; simp [rCATA]
theorem cut_all {α : Type} {ds : List α} {lo hi : Option Int} (h : HT.sIx ds.length 0 lo = 0 ∧ HT.sIx ds.length ds.length hi = ds.length) : cut ds lo hi = ds := by
  unfold cut
  rw [h.1, h.2]
  simp
def rSLA : D → Option Int → Option Int → (D → Prop) → Prop := fun x lo hi KD => ∃ ds, x = .tuple ds ∧ KD (.tuple (cut ds lo hi))
theorem j_slA {e : Expr} {we : WE} {p2 : Pos} {lo hi : Option Expr} {wl wh : WO} {m : Mo} (h : J m X W e we) (hl : JO X W lo wl) (hh : JO X W hi wh) : J .fz X W (.Subscript e (.Slice lo hi none p2) pos) (wSl we wl wh rSLA) :=
  j_slice sl_tupA (fun x lo hi KD v H0 F H Q ⟨ds, e, q⟩ s r k => by
    subst e
    have rpx : Rp X.K F v (.tuple ds) := Res.scal (e := .none) (fun _ z => nomatch z) r
    obtain ⟨p, vs, rfl, sq, ra⟩ := r.tuple s
    refine ⟨p, vs, rfl, sq, fun hw => ?_, fun hw z nz => ?_⟩
    · rw [ra.len] at hw
      rw [cut_all hw] at q
      exact k _ q F H _ (Grow.refl s) rpx
    · exact k _ q (upd F z (.tup (cutV vs lo hi))) _ _ (Grow.layF s nz) (.tup (SqT.of upd_same) (RpAll.mono (same_upd (none_of_same s nz)) _ _ (ra.cut lo hi))) : SlD .rd .fz X.K _ rSLA) h.rd hl hh
theorem rSLA_eq {ds : List D} {lo hi : Option Int} {KD : D → Prop} : rSLA (.tuple ds) lo hi KD = KD (.tuple (cut ds lo hi)) := by
  apply propext; simp [rSLA]
end
end Tb

set_option Elab.async false
set_option linter.all false
set_option maxRecDepth 100000
set_option maxHeartbeats 4000000
namespace Cl
open PySem PySem.Spec L2 Tb
/-! ### numbers, turnings -/
section
def nl (t : List Nat) : List D := t.map fun n : Nat => PyData.int (n : Int)
def tn (t : List Nat) : D := .tuple (nl t)
theorem nl_len (t : List Nat) : (nl t).length = t.length := by simp [nl]
theorem nl_get (t : List Nat) (i : Nat) : (nl t)[i]? = t[i]?.map fun n : Nat => PyData.int (n : Int) := by simp [nl]
theorem nl_mem {t : List Nat} {d : D} (h : d ∈ nl t) : ∃ x ∈ t, d = .int (x : Int) := by
  unfold nl at h
  obtain ⟨x, hx, e⟩ := List.mem_map.mp h
  exact ⟨x, hx, e.symm⟩
theorem nl_at {t : List Nat} {i : Nat} {d : D} (h : (nl t)[i]? = some d) : ∃ x, t[i]? = some x ∧ d = .int (x : Int) := by
  rw [nl_get] at h
  cases e : t[i]? with
  | none => rw [e] at h; cases h
  | some x => rw [e] at h; exact ⟨x, rfl, (Option.some.inj h).symm⟩
theorem nl_app (a b : List Nat) : nl a ++ nl b = nl (a ++ b) := by simp [nl]
theorem nl_one (x : Nat) : [PyData.int (x : Int)] = nl [x] := rfl
theorem nl_nil : nl [] = [] := rfl
theorem nl_set (t : List Nat) (i x : Nat) : (nl t).set i (.int (x : Int)) = nl (t.set i x) := by simp [nl, List.map_set]
theorem nl_erase (t : List Nat) (i : Nat) : (nl t).eraseIdx i = nl (t.eraseIdx i) := by
  unfold nl
  rw [List.eraseIdx_eq_take_drop_succ, List.eraseIdx_eq_take_drop_succ, List.map_append, List.map_take, List.map_drop]
theorem nl_cut (t : List Nat) (lo hi : Option Int) : cut (nl t) lo hi = nl (cut t lo hi) := by
  unfold cut
  simp only [nl_len]
  unfold nl
  rw [List.map_take, List.map_drop]
theorem nl_ints (t : List Nat) : nl t = (t.map fun n : Nat => (n : Int)).map PyData.int := by simp [nl]
theorem nl_inj {a b : List Nat} (h : nl a = nl b) : a = b := by
  unfold nl at h
  exact (List.map_inj_right (fun x y e => by have := PyData.int.inj e; omega)).mp h
theorem range0 (n : Nat) : rangeD 0 n = nl (List.range n) := by
  unfold rangeD nl
  apply List.map_congr_left
  intro a _
  simp
/-- a comprehension's element by a number -/
def nf (f : Nat → D) : D → Option D
  | .int i => some (f i.toNat)
  | _ => none
theorem nf_int (f : Nat → D) (x : Nat) : nf f (.int (x : Int)) = some (f x) := by simp [nf]
theorem nf_map (f : Nat → D) (t : List Nat) : (nl t).filterMap (nf f) = t.map f := by
  unfold nl
  rw [List.filterMap_map]
  have : (nf f ∘ fun n : Nat => PyData.int (n : Int)) = fun n => some (f n) := by
    funext n; simp [nf]
  rw [this]
  exact filterMap_some f t
/-- places in a row -/
structure IsT (n : Nat) (t : List Nat) : Prop where
  len : t.length = n
  lt : ∀ x ∈ t, x < n
  nd : t.Nodup
def bh (a b : List Nat) : List Nat := a.map fun x => b.getD x 0
theorem bh_len (a b : List Nat) : (bh a b).length = a.length := by simp [bh]
theorem getD_mem {b : List Nat} {x : Nat} (h : x < b.length) : b.getD x 0 ∈ b := by
  rw [List.getD_eq_getElem?_getD, List.getElem?_eq_getElem h]
  exact List.getElem_mem h
theorem getD_some {b : List Nat} {x : Nat} (h : x < b.length) : b[x]? = some (b.getD x 0) := by
  rw [List.getD_eq_getElem?_getD, List.getElem?_eq_getElem h]; rfl
theorem nodup_getD {b : List Nat} (hn : b.Nodup) {x y : Nat} (hx : x < b.length) (hy : y < b.length) (e : b.getD x 0 = b.getD y 0) : x = y := by
  have h1 := getD_some hx
  have h2 := getD_some hy
  rw [e] at h1
  exact nd_ix hn h1 h2
theorem IsT.bh {n : Nat} {a b : List Nat} (ha : IsT n a) (hb : IsT n b) : IsT n (bh a b) := by
  refine ⟨(bh_len a b).trans ha.len, fun x hx => ?_, ?_⟩
  · obtain ⟨y, hy, rfl⟩ := List.mem_map.mp hx
    exact hb.lt _ (getD_mem (by rw [hb.len]; exact ha.lt y hy))
  · unfold Cl.bh
    rw [List.nodup_iff_pairwise_ne, List.pairwise_map]
    refine List.Pairwise.imp_of_mem (fun {x y} hx hy hne e => ?_) (List.nodup_iff_pairwise_ne.mp ha.nd)
    exact hne (nodup_getD hb.nd (by rw [hb.len]; exact ha.lt x hx) (by rw [hb.len]; exact ha.lt y hy) e)
theorem IsT.range (n : Nat) : IsT n (List.range n) := ⟨List.length_range, fun x h => List.mem_range.mp h, List.nodup_range⟩
theorem nl_bh (a b : List Nat) : nl (bh a b) = a.map fun x => PyData.int (b.getD x 0 : Nat) := by simp [nl, bh]
/-- [b[x] for x in a] -/
def bhF (b : List Nat) : D → Option D := nf fun x => .int (b.getD x 0 : Nat)
theorem bhF_map (a b : List Nat) : (nl a).filterMap (bhF b) = nl (bh a b) := by
  unfold bhF
  rw [nf_map, ← nl_bh]
theorem bhT {a b : List Nat} (hb : ∀ x ∈ a, x < b.length) : ∀ d ∈ nl a, rIX (.tuple (nl b)) d (fun y => bhF b d = some y) := fun d hd => by
  obtain ⟨x, hx, rfl⟩ := nl_mem hd
  rw [rIX_eqT]
  exact ⟨_, by rw [atI_cast, nl_get, getD_some (hb x hx)]; rfl, nf_int _ _⟩
theorem bhL {a b : List Nat} (hb : ∀ x ∈ a, x < b.length) : ∀ d ∈ nl a, rIX (.list (nl b)) d (fun y => bhF b d = some y) := fun d hd => by
  obtain ⟨x, hx, rfl⟩ := nl_mem hd
  rw [rIX_eqL]
  exact ⟨_, by rw [atI_cast, nl_get, getD_some (hb x hx)]; rfl, nf_int _ _⟩
theorem nl_size {a : List Nat} (h : a.length ≤ 1000) : (nl a).length ≤ sizeLine := by rw [nl_len]; exact size_big (by omega)
theorem many_of (x : Int) : ∃ m : Nat, (1 : Int) + x % 60 = (m : Int) ∧ 1 ≤ m ∧ m ≤ 60 := ⟨(1 + x % 60).toNat, by omega, by omega, by omega⟩
theorem ints_at {ns : List Int} {i : Nat} {d : D} (h : (ns.map PyData.int)[i]? = some d) : ∃ c ∈ ns, d = .int c := by
  rw [List.getElem?_map] at h
  cases e : ns[i]? with
  | none => rw [e] at h; cases h
  | some c => rw [e] at h; exact ⟨c, List.mem_of_getElem? e, (Option.some.inj h).symm⟩
end
end Cl

set_option Elab.async false
set_option linter.all false
set_option maxRecDepth 100000
set_option maxHeartbeats 4000000
namespace Cl
open PySem PySem.Spec L2 Tb
/-! ### rows without a place twice -/
section
theorem pigeon : ∀ (n : Nat) (t : List Nat), t.Nodup → (∀ x ∈ t, x < n) → t.length ≤ n
  | 0, t, _, h => by
    cases t with
    | nil => exact Nat.le_refl _
    | cons a r => exact absurd (h a List.mem_cons_self) (Nat.not_lt_zero _)
  | n + 1, t, hn, h => by
    have ih := pigeon n (t.erase n) (hn.erase n) fun x hx => by
      have h1 := (List.Nodup.mem_erase_iff hn).mp hx
      have h2 := h x h1.2
      have h3 := h1.1
      omega
    rw [List.length_erase] at ih
    split at ih <;> omega
theorem IsT.mem {n : Nat} {t : List Nat} (h : IsT n t) {y : Nat} (hy : y < n) : y ∈ t := by
  refine Classical.byContradiction fun hn => ?_
  have := pigeon n (y :: t) (List.nodup_cons.mpr ⟨hn, h.nd⟩) fun x hx => by
    rcases List.mem_cons.mp hx with rfl | hx
    · exact hy
    · exact h.lt x hx
  have := h.len
  simp at *
  omega
theorem IsT.ix {n : Nat} {t : List Nat} (h : IsT n t) {y : Nat} (hy : y < n) : ∃ j, j < n ∧ t.getD j 0 = y := by
  obtain ⟨j, hj, e⟩ := List.mem_iff_getElem.mp (h.mem hy)
  refine ⟨j, by rw [← h.len]; exact hj, ?_⟩
  rw [List.getD_eq_getElem?_getD, List.getElem?_eq_getElem hj]
  exact e
theorem IsT.inj {n : Nat} {t : List Nat} (h : IsT n t) {x y : Nat} (hx : x < n) (hy : y < n) (e : t.getD x 0 = t.getD y 0) : x = y := nodup_getD h.nd (by rw [h.len]; exact hx) (by rw [h.len]; exact hy) e
theorem IsT.getLt {n : Nat} {t : List Nat} (h : IsT n t) {x : Nat} (hx : x < n) : t.getD x 0 < n := h.lt _ (getD_mem (by rw [h.len]; exact hx))
/-- from what a row does -/
theorem IsT.of {n : Nat} {t : List Nat} (h : t.length = n) (lt : ∀ x, x < n → t.getD x 0 < n) (inj : ∀ x y, x < n → y < n → t.getD x 0 = t.getD y 0 → x = y) : IsT n t := by
  refine ⟨h, fun x hx => ?_, ?_⟩
  · obtain ⟨j, hj, e⟩ := List.mem_iff_getElem.mp hx
    have := lt j (by omega)
    rw [List.getD_eq_getElem?_getD, List.getElem?_eq_getElem hj] at this
    rw [← e]; exact this
  · rw [List.nodup_iff_pairwise_ne, List.pairwise_iff_getElem]
    intro i j hi hj hij e
    have := inj i j (by omega) (by omega) (by rw [List.getD_eq_getElem?_getD, List.getElem?_eq_getElem hi, List.getD_eq_getElem?_getD, List.getElem?_eq_getElem hj]; exact e)
    omega
theorem getD_set {t : List Nat} {i x v : Nat} (h : i < t.length) : (t.set i v).getD x 0 = if x = i then v else t.getD x 0 := by
  rw [List.getD_eq_getElem?_getD, List.getD_eq_getElem?_getD, List.getElem?_set]
  by_cases e : i = x
  · subst e; simp [h]
  · rw [if_neg e, if_neg (fun z => e z.symm)]
theorem mod_succ {j l : Nat} (h : j < l) : (j + 1) % l = if j + 1 = l then 0 else j + 1 := by
  by_cases e : j + 1 = l
  · rw [if_pos e, e, Nat.mod_self]
  · rw [if_neg e, Nat.mod_eq_of_lt (by omega)]
end
def freeGo : Nat → List Nat → Nat → List Nat
  | 0, _, _ => []
  | s + 1, left, num => left.getD (num % (s + 1)) 0 :: freeGo s (left.eraseIdx (num % (s + 1))) (num / (s + 1))
theorem freeGo_perm : ∀ (s : Nat) (left : List Nat) (num : Nat), left.length = s → (freeGo s left num).Perm left
  | 0, left, _, h => by
    have : left = [] := List.length_eq_zero_iff.mp h
    subst this; exact .nil
  | s + 1, left, num, h => by
    have hk : num % (s + 1) < left.length := by rw [h]; exact Nat.mod_lt _ (Nat.succ_pos _)
    have hl : (left.eraseIdx (num % (s + 1))).length = s := by rw [List.length_eraseIdx_of_lt hk]; omega
    have ih := freeGo_perm s (left.eraseIdx (num % (s + 1))) (num / (s + 1)) hl
    have e : left.getD (num % (s + 1)) 0 = left[num % (s + 1)] := by rw [List.getD_eq_getElem?_getD, List.getElem?_eq_getElem hk]; rfl
    unfold freeGo
    rw [e]
    exact (List.Perm.cons _ ih).trans (erase_perm hk)
def free (num many : Nat) : List Nat := freeGo many (List.range many) num
theorem free_isT (num many : Nat) : IsT many (free num many) := by
  have p := freeGo_perm many (List.range many) num List.length_range
  exact ⟨p.length_eq.trans List.length_range, fun x hx => List.mem_range.mp (p.mem_iff.mp hx), (p.nodup_iff).mpr List.nodup_range⟩
end Cl

set_option Elab.async false
set_option linter.all false
set_option maxRecDepth 100000
set_option maxHeartbeats 4000000
namespace Cl
open PySem PySem.Spec L2 Tb
/-! ### great numbers -/
section
theorem lb_bits {i : Int} {n : Nat} (h : Builtin.Int.intBits i ≤ n) : i.natAbs < 2 ^ n := by
  unfold Builtin.Int.intBits at h
  split at h
  · rename_i e
    have e0 : i.natAbs = 0 := by first | exact e | (have := eq_of_beq e; omega) | (have := of_decide_eq_true e; omega) | omega
    rw [e0]; exact Nat.two_pow_pos _
  · exact Nat.lt_of_lt_of_le (Nat.lt_log2_self (n := i.natAbs)) (Nat.pow_le_pow_right (by decide) h)
theorem lb_add {i j : Int} {n m : Nat} (h1 : i.natAbs < 2 ^ n) (h2 : j.natAbs < 2 ^ m) : (i + j).natAbs < 2 ^ (n + m + 1) := by
  have a1 : 2 ^ n ≤ 2 ^ (n + m) := Nat.pow_le_pow_right (by decide) (Nat.le_add_right _ _)
  have a2 : 2 ^ m ≤ 2 ^ (n + m) := Nat.pow_le_pow_right (by decide) (Nat.le_add_left _ _)
  rw [Nat.pow_succ]
  have := Int.natAbs_add_le i j
  omega
theorem lb_mul {i j : Int} {n m : Nat} (h1 : i.natAbs < 2 ^ n) (h2 : j.natAbs < 2 ^ m) : (i * j).natAbs < 2 ^ (n + m) := wide_lt h1 h2
theorem cmul_lb {i j : Int} {n m : Nat} (h1 : i.natAbs < 2 ^ n) (h2 : j.natAbs < 2 ^ m) (h0 : 0 < n) (h0' : 0 < m) (h : n + m ≤ 100000000) : CMulB i j := by
  have x := PySem.Flt.log2_lt_of h0 h1
  have y := PySem.Flt.log2_lt_of h0' h2
  unfold CMulB
  omega
/-- of a million bits and some more -/
def Small (c : Int) : Prop := ∃ N, N ≤ 1050000 ∧ c.natAbs < 2 ^ N
theorem small_of {c : Int} (h : Builtin.Int.intBits c ≤ 1048576) : Small c := ⟨1048576, by decide, lb_bits h⟩
theorem small_add {c j : Int} (h : Builtin.Int.intBits c ≤ 1048576) (hj : j.natAbs < 2 ^ 8) : Small (c + j) := by
  refine ⟨1048576 + 8 + 1, by decide, ?_⟩
  have := lb_bits h
  exact lb_add this hj
theorem small_sub {c j : Int} (h : Builtin.Int.intBits c ≤ 1048576) (hj : j.natAbs < 2 ^ 8) : Small (c - j) := by
  rw [Int.sub_eq_add_neg]
  exact small_add h (by rw [Int.natAbs_neg]; exact hj)
theorem bits_at {ns : List Int} (hb : ∀ z ∈ ns, Builtin.Int.intBits z ≤ 1048576) (i : Nat) : Builtin.Int.intBits (ns.getD i 0) ≤ 1048576 := by
  rw [List.getD_eq_getElem?_getD]
  cases h : ns[i]? with
  | none => show Builtin.Int.intBits 0 ≤ 1048576; decide +kernel
  | some z => exact hb z (List.mem_of_getElem? h)
theorem cmul_bits {i j : Int} {n m : Nat} (h1 : i.natAbs < 2 ^ n) (h2 : j.natAbs < 2 ^ m) (h : n + m ≤ 90000000) : CMulB i j := by
  refine cmul_lb (n := n + 1) (m := m + 1) (Nat.lt_of_lt_of_le h1 (Nat.pow_le_pow_right (by decide) (by omega))) (Nat.lt_of_lt_of_le h2 (Nat.pow_le_pow_right (by decide) (by omega))) (by omega) (by omega) (by omega)
theorem emod_lb {i j : Int} {n : Nat} (h0 : 0 < j) (h : j.natAbs ≤ 2 ^ n) : (i % j).natAbs < 2 ^ n := by
  have h1 := Int.emod_nonneg i (Int.ne_of_gt h0)
  have h2 := Int.emod_lt_of_pos i h0
  omega
end
end Cl

set_option Elab.async false
set_option linter.all false
set_option maxRecDepth 100000
set_option maxHeartbeats 4000000
namespace Cl
open PySem PySem.Spec L2 Tb
/-! ### equal data; the back of a turning -/
section
theorem canLay_nl : ∀ a : List Nat, PyData.canLayAll0 (nl a) = true
  | [] => by simp [nl, PyData.canLayAll0]
  | x :: r => by
    have ih := canLay_nl r
    unfold nl at ih ⊢
    simp [PyData.canLayAll0, PyData.canLay0, ih]
theorem depth_nl : ∀ a : List Nat, PyData.depthAll (nl a) ≤ 1
  | [] => by simp [nl, PyData.depthAll]
  | x :: r => by
    have ih := depth_nl r
    unfold nl at ih ⊢
    simp [PyData.depthAll, PyData.depth, ih]
theorem shaped_nl (a : List Nat) : SeqAt.shaped (.list (nl a)) = true := by
  have h := depth_nl a
  unfold SeqAt.shaped
  rw [Bool.and_eq_true]
  refine ⟨by simp only [PyData.canLay0]; exact canLay_nl a, decide_eq_true ?_⟩
  simp only [PyData.depth]; omega
theorem shaped_tn (a : List Nat) : SeqAt.shaped (.tuple (nl a)) = true := by
  have h := depth_nl a
  unfold SeqAt.shaped
  rw [Bool.and_eq_true]
  refine ⟨by simp only [PyData.canLay0]; exact canLay_nl a, decide_eq_true ?_⟩
  simp only [PyData.depth]; omega
theorem eqvAll_nl : ∀ a b : List Nat, PyData.eqvAll (nl a) (nl b) = decide (a = b)
  | [], [] => by simp [nl, PyData.eqvAll]
  | [], y :: s => by simp [nl, PyData.eqvAll]
  | x :: r, [] => by simp [nl, PyData.eqvAll]
  | x :: r, y :: s => by
    have ih := eqvAll_nl r s
    unfold nl at ih ⊢
    simp only [List.map_cons, PyData.eqvAll, PyData.eqv, ih]
    by_cases h : x = y
    · subst h; simp
    · have : ((x : Int) == (y : Int)) = false := beq_eq_false_iff_ne.mpr (by omega)
      rw [this]; simp [h]
theorem eqv_nl (a b : List Nat) : PyData.eqv (.list (nl a)) (.list (nl b)) = decide (a = b) := by simp only [PyData.eqv]; exact eqvAll_nl a b
theorem eqv_tn (a b : List Nat) : PyData.eqv (.tuple (nl a)) (.tuple (nl b)) = decide (a = b) := by simp only [PyData.eqv]; exact eqvAll_nl a b
def bk (t : List Nat) : List Nat := (List.range t.length).map fun y => t.idxOf y
theorem bk_len (t : List Nat) : (bk t).length = t.length := by simp [bk]
theorem list_ext_getD {a b : List Nat} (h : a.length = b.length) (k : ∀ x, x < a.length → a.getD x 0 = b.getD x 0) : a = b := by
  apply List.ext_getElem h
  intro i h1 h2
  have := k i h1
  rw [List.getD_eq_getElem?_getD, List.getD_eq_getElem?_getD, List.getElem?_eq_getElem h1, List.getElem?_eq_getElem h2] at this
  exact this
theorem bk_at {t : List Nat} {y : Nat} (h : y < t.length) : (bk t).getD y 0 = t.idxOf y := by
  unfold bk
  rw [List.getD_eq_getElem?_getD, List.getElem?_map, List.getElem?_range h]; rfl
theorem IsT.bk_at {n : Nat} {t : List Nat} (h : IsT n t) {x : Nat} (hx : x < n) : (bk t).getD (t.getD x 0) 0 = x := by
  rw [Cl.bk_at (by rw [h.len]; exact h.getLt hx)]
  have hm : t.getD x 0 ∈ t := getD_mem (by rw [h.len]; exact hx)
  have hl := List.idxOf_lt_length_of_mem hm
  have e : t[t.idxOf (t.getD x 0)] = t.getD x 0 := List.getElem_idxOf hl
  refine h.inj (by rw [← h.len]; exact hl) hx ?_
  rw [List.getD_eq_getElem?_getD, List.getElem?_eq_getElem hl]
  exact e
theorem IsT.bk_eq {n : Nat} {t r : List Nat} (h : IsT n t) (hr : r.length = n) (k : ∀ x, x < n → r.getD (t.getD x 0) 0 = x) : r = bk t := by
  refine list_ext_getD (by rw [bk_len, hr, h.len]) fun y hy => ?_
  rw [hr] at hy
  obtain ⟨x, hx, rfl⟩ := h.ix hy
  rw [k x hx, h.bk_at hx]
theorem IsT.bk {n : Nat} {t : List Nat} (h : IsT n t) : IsT n (bk t) := by
  refine .of (by rw [bk_len, h.len]) (fun y hy => ?_) fun y z hy hz e => ?_
  · obtain ⟨x, hx, rfl⟩ := h.ix hy
    rw [h.bk_at hx]; exact hx
  · obtain ⟨x, hx, rfl⟩ := h.ix hy
    obtain ⟨x', hx', rfl⟩ := h.ix hz
    rw [h.bk_at hx, h.bk_at hx'] at e
    rw [e]
theorem IsT.at_bk {n : Nat} {t : List Nat} (h : IsT n t) {y : Nat} (hy : y < n) : t.getD ((Cl.bk t).getD y 0) 0 = y := by
  obtain ⟨x, hx, rfl⟩ := h.ix hy
  rw [h.bk_at hx]
theorem bh_at {a b : List Nat} {x : Nat} (h : x < a.length) : (bh a b).getD x 0 = b.getD (a.getD x 0) 0 := by
  unfold bh
  rw [List.getD_eq_getElem?_getD, List.getElem?_map, getD_some h]; rfl
theorem bk_bh {n : Nat} {p t : List Nat} (hp : IsT n p) (ht : IsT n t) : bh (bk t) (bk p) = bk (bh p t) := by
  refine (hp.bh ht).bk_eq (by rw [bh_len, bk_len, ht.len]) fun x hx => ?_
  rw [bh_at (by rw [bk_len, ht.len]; exact (hp.bh ht).getLt hx), bh_at (by rw [hp.len]; exact hx), ht.bk_at (hp.getLt hx), hp.bk_at hx]
theorem bk_range (n : Nat) : bk (List.range n) = List.range n := ((IsT.range n).bk_eq List.length_range fun x hx => by
  have e : (List.range n).getD x 0 = x := by rw [List.getD_eq_getElem?_getD, List.getElem?_range hx]; rfl
  rw [e, e]).symm
theorem range_getD {n x : Nat} (hx : x < n) : (List.range n).getD x 0 = x := by rw [List.getD_eq_getElem?_getD, List.getElem?_range hx]; rfl
def ll (ls : List (List Nat)) : List D := ls.map fun l => .list (nl l)
theorem ll_app (a b : List (List Nat)) : ll a ++ ll b = ll (a ++ b) := by simp [ll]
theorem ll_at {ls : List (List Nat)} {i : Nat} {d : D} (h : (ll ls)[i]? = some d) : ∃ l, ls[i]? = some l ∧ d = .list (nl l) := by
  unfold ll at h
  rw [List.getElem?_map] at h
  cases e : ls[i]? with
  | none => rw [e] at h; cases h
  | some l => rw [e] at h; cases h; exact ⟨l, rfl, rfl⟩
theorem canLay_ll : ∀ ls : List (List Nat), PyData.canLayAll0 (ll ls) = true
  | [] => by simp [ll, PyData.canLayAll0]
  | l :: ls => by
    have h1 := canLay_ll ls
    have h2 := canLay_nl l
    show PyData.canLayAll0 (PyData.list (nl l) :: ll ls) = true
    simp [PyData.canLayAll0, PyData.canLay0, h1, h2]
theorem depth_ll : ∀ ls : List (List Nat), PyData.depthAll (ll ls) ≤ 2
  | [] => by simp [ll, PyData.depthAll]
  | l :: ls => by
    have h1 := depth_ll ls
    have h2 := depth_nl l
    show PyData.depthAll (PyData.list (nl l) :: ll ls) ≤ 2
    simp only [PyData.depthAll, PyData.depth]
    omega
theorem shaped_ll (ls : List (List Nat)) : SeqAt.shaped (.list (ll ls)) = true := by
  have h := depth_ll ls
  unfold SeqAt.shaped
  rw [Bool.and_eq_true]
  refine ⟨by simp only [PyData.canLay0]; exact canLay_ll ls, decide_eq_true ?_⟩
  simp only [PyData.depth]; omega
theorem eqvAll_ll : ∀ a b : List (List Nat), PyData.eqvAll (ll a) (ll b) = decide (a = b)
  | [], [] => by simp [ll, PyData.eqvAll]
  | [], y :: b => by simp [ll, PyData.eqvAll]
  | x :: a, [] => by simp [ll, PyData.eqvAll]
  | x :: a, y :: b => by
    show PyData.eqvAll (.list (nl x) :: ll a) (.list (nl y) :: ll b) = _
    simp only [PyData.eqvAll, eqv_nl, eqvAll_ll a b]
    rw [Bool.eq_iff_iff, Bool.and_eq_true, decide_eq_true_iff, decide_eq_true_iff, decide_eq_true_iff, List.cons.injEq]
theorem eqv_ll (a b : List (List Nat)) : PyData.eqv (.list (ll a)) (.list (ll b)) = decide (a = b) := by simp only [PyData.eqv]; exact eqvAll_ll a b
/-- a list of tuples of numbers -/
def tl (ms : List (List Nat)) : List D := ms.map tn
theorem tl_at {ls : List (List Nat)} {i : Nat} {d : D} (h : (tl ls)[i]? = some d) : ∃ l, ls[i]? = some l ∧ d = .tuple (nl l) := by
  unfold tl at h
  rw [List.getElem?_map] at h
  cases e : ls[i]? with
  | none => rw [e] at h; cases h
  | some l => rw [e] at h; cases h; exact ⟨l, rfl, rfl⟩
theorem canLay_tl : ∀ ls : List (List Nat), PyData.canLayAll0 (tl ls) = true
  | [] => by simp [tl, PyData.canLayAll0]
  | l :: ls => by
    have h1 := canLay_tl ls
    have h2 := canLay_nl l
    show PyData.canLayAll0 (PyData.tuple (nl l) :: tl ls) = true
    simp [PyData.canLayAll0, PyData.canLay0, h1, h2]
theorem depth_tl : ∀ ls : List (List Nat), PyData.depthAll (tl ls) ≤ 2
  | [] => by simp [tl, PyData.depthAll]
  | l :: ls => by
    have h1 := depth_tl ls
    have h2 := depth_nl l
    show PyData.depthAll (PyData.tuple (nl l) :: tl ls) ≤ 2
    simp only [PyData.depthAll, PyData.depth]
    omega
theorem shaped_tl (ls : List (List Nat)) : SeqAt.shaped (.list (tl ls)) = true := by
  have h := depth_tl ls
  unfold SeqAt.shaped
  rw [Bool.and_eq_true]
  refine ⟨by simp only [PyData.canLay0]; exact canLay_tl ls, decide_eq_true ?_⟩
  simp only [PyData.depth]; omega
theorem eqvAll_tl : ∀ a b : List (List Nat), PyData.eqvAll (tl a) (tl b) = decide (a = b)
  | [], [] => by simp [tl, PyData.eqvAll]
  | [], y :: b => by simp [tl, PyData.eqvAll]
  | x :: a, [] => by simp [tl, PyData.eqvAll]
  | x :: a, y :: b => by
    show PyData.eqvAll (.tuple (nl x) :: tl a) (.tuple (nl y) :: tl b) = _
    simp only [PyData.eqvAll, eqv_tn, eqvAll_tl a b]
    rw [Bool.eq_iff_iff, Bool.and_eq_true, decide_eq_true_iff, decide_eq_true_iff, decide_eq_true_iff, List.cons.injEq]
theorem eqv_tl (a b : List (List Nat)) : PyData.eqv (.list (tl a)) (.list (tl b)) = decide (a = b) := by simp only [PyData.eqv]; exact eqvAll_tl a b
theorem eqv_none (ls : List (List Nat)) : PyData.eqv (.list (ll ls)) (.list []) = decide (ls = []) := by
  cases ls with
  | nil => simp [ll, PyData.eqv, PyData.eqvAll]
  | cons l ls => simp [ll, PyData.eqv, PyData.eqvAll]
end
end Cl

set_option Elab.async false
set_option linter.all false
set_option maxRecDepth 100000
set_option maxHeartbeats 4000000
namespace Cl
open PySem PySem.Spec L2 Tb
/-! ### walking along a turning -/
section
def it (t : List Nat) : Nat → Nat → Nat
  | 0, x => x
  | k + 1, x => t.getD (it t k x) 0
theorem it_add (t : List Nat) (a b x : Nat) : it t (a + b) x = it t a (it t b x) := by
  induction a with
  | zero => rw [Nat.zero_add]; rfl
  | succ a ih => rw [Nat.succ_add]; show t.getD (it t (a + b) x) 0 = t.getD (it t a (it t b x)) 0; rw [ih]
theorem it_one (t : List Nat) (x : Nat) : it t 1 x = t.getD x 0 := rfl
theorem it_succ' (t : List Nat) (k x : Nat) : it t (k + 1) x = it t k (t.getD x 0) := it_add t k 1 x
theorem exists_least {P : Nat → Prop} (h : ∃ k, P k) : ∃ k, P k ∧ ∀ j, j < k → ¬ P j := by
  obtain ⟨k, hk⟩ := h
  induction k using Nat.strongRecOn with
  | ind k ih =>
    by_cases q : ∃ j, j < k ∧ P j
    · obtain ⟨j, hj, pj⟩ := q
      exact ih j hj pj
    · exact ⟨k, hk, fun j hj pj => q ⟨j, hj, pj⟩⟩
variable {n : Nat} {t : List Nat}
theorem IsT.it_lt (h : IsT n t) {x : Nat} (hx : x < n) : ∀ k, it t k x < n
  | 0 => hx
  | k + 1 => h.getLt (h.it_lt hx k)
theorem IsT.it_inj (h : IsT n t) {x y : Nat} (hx : x < n) (hy : y < n) : ∀ k, it t k x = it t k y → x = y
  | 0, e => e
  | k + 1, e => h.it_inj hx hy k (h.inj (h.it_lt hx k) (h.it_lt hy k) e)
theorem IsT.comes (h : IsT n t) {x : Nat} (hx : x < n) : ∃ k, 0 < k ∧ k ≤ n ∧ it t k x = x := by
  refine Classical.byContradiction fun hn => ?_
  have nd : ((List.range (n + 1)).map fun k => it t k x).Nodup := by
    rw [List.nodup_iff_pairwise_ne, List.pairwise_map]
    refine List.Pairwise.imp_of_mem (fun {i j} hi hj hij e => ?_) (List.pairwise_lt_range (n := n + 1))
    have hj' := List.mem_range.mp hj
    have e2 : it t j x = it t i (it t (j - i) x) := by rw [← it_add]; congr 1; omega
    rw [e2] at e
    have := h.it_inj hx (h.it_lt hx _) i e
    exact hn ⟨j - i, by omega, by omega, this.symm⟩
  have := pigeon n _ nd fun y hy => by
    obtain ⟨k, _, rfl⟩ := List.mem_map.mp hy
    exact h.it_lt hx k
  simp only [List.length_map, List.length_range] at this
  omega
/-- how many steps lead home for the first time -/
noncomputable def per (t : List Nat) (x : Nat) : Nat := Classical.epsilon fun p => 0 < p ∧ it t p x = x ∧ ∀ k, 0 < k → k < p → it t k x ≠ x
theorem IsT.per (h : IsT n t) {x : Nat} (hx : x < n) : 0 < per t x ∧ it t (per t x) x = x ∧ ∀ k, 0 < k → k < per t x → it t k x ≠ x := by
  apply Classical.epsilon_spec (p := fun p => 0 < p ∧ it t p x = x ∧ ∀ k, 0 < k → k < p → it t k x ≠ x)
  obtain ⟨k, hk, _, e⟩ := h.comes hx
  obtain ⟨p, ⟨p1, p2⟩, p3⟩ := exists_least (P := fun k => 0 < k ∧ it t k x = x) ⟨k, hk, e⟩
  exact ⟨p, p1, p2, fun k hk hl e => p3 k hl ⟨hk, e⟩⟩
theorem IsT.per_pos (h : IsT n t) {x : Nat} (hx : x < n) : 0 < Cl.per t x := (h.per hx).1
theorem IsT.per_home (h : IsT n t) {x : Nat} (hx : x < n) : it t (Cl.per t x) x = x := (h.per hx).2.1
theorem IsT.per_le (h : IsT n t) {x k : Nat} (hx : x < n) (hk : 0 < k) (e : it t k x = x) : Cl.per t x ≤ k := by
  refine Nat.le_of_not_lt fun hl => (h.per hx).2.2 k hk hl e
theorem IsT.per_le_n (h : IsT n t) {x : Nat} (hx : x < n) : Cl.per t x ≤ n := by
  obtain ⟨k, hk, hn, e⟩ := h.comes hx
  exact Nat.le_trans (h.per_le hx hk e) hn
theorem IsT.per_inj (h : IsT n t) {x i j : Nat} (hx : x < n) (hi : i < Cl.per t x) (hj : j < Cl.per t x) (e : it t i x = it t j x) : i = j := by
  rcases Nat.lt_trichotomy i j with hl | hl | hl
  · have e2 : it t j x = it t i (it t (j - i) x) := by rw [← it_add]; congr 1; omega
    rw [e2] at e
    have := h.it_inj hx (h.it_lt hx _) i e
    exact absurd this.symm ((h.per hx).2.2 (j - i) (by omega) (by omega))
  · exact hl
  · have e2 : it t i x = it t j (it t (i - j) x) := by rw [← it_add]; congr 1; omega
    rw [e2] at e
    have := h.it_inj (h.it_lt hx _) hx j e
    exact absurd this ((h.per hx).2.2 (i - j) (by omega) (by omega))
theorem IsT.it_mul (h : IsT n t) {x : Nat} (hx : x < n) : ∀ m, it t (m * Cl.per t x) x = x
  | 0 => by rw [Nat.zero_mul]; rfl
  | m + 1 => by rw [Nat.succ_mul, it_add, h.per_home hx, h.it_mul hx m]
theorem IsT.it_mod (h : IsT n t) {x : Nat} (hx : x < n) (k : Nat) : it t k x = it t (k % Cl.per t x) x := by
  have e : k = k % Cl.per t x + (k / Cl.per t x) * Cl.per t x := by rw [Nat.mul_comm]; exact (Nat.mod_add_div _ _).symm
  rw [show it t k x = it t (k % Cl.per t x + (k / Cl.per t x) * Cl.per t x) x by rw [← e], it_add, h.it_mul hx]
/-- on one ring -/
def on (t : List Nat) (x y : Nat) : Prop := ∃ k, it t k x = y
theorem on_refl (t : List Nat) (x : Nat) : on t x x := ⟨0, rfl⟩
theorem on_trans {x y z : Nat} (a : on t x y) (b : on t y z) : on t x z := by
  obtain ⟨j, rfl⟩ := a
  obtain ⟨k, rfl⟩ := b
  exact ⟨k + j, it_add t k j x⟩
theorem IsT.on_symm (h : IsT n t) {x y : Nat} (hx : x < n) (a : on t x y) : on t y x := by
  obtain ⟨k, rfl⟩ := a
  refine ⟨k * Cl.per t x - k, ?_⟩
  rw [← it_add, Nat.sub_add_cancel (Nat.le_mul_of_pos_right k (h.per_pos hx)), h.it_mul hx]
theorem IsT.on_lt (h : IsT n t) {x y : Nat} (hx : x < n) (a : on t x y) : y < n := by
  obtain ⟨k, rfl⟩ := a
  exact h.it_lt hx k
theorem IsT.on_ix (h : IsT n t) {x y : Nat} (hx : x < n) (a : on t x y) : ∃ k, k < Cl.per t x ∧ it t k x = y := by
  obtain ⟨k, rfl⟩ := a
  exact ⟨k % Cl.per t x, Nat.mod_lt _ (h.per_pos hx), (h.it_mod hx k).symm⟩
theorem IsT.per_on (h : IsT n t) {x y : Nat} (hx : x < n) (a : on t x y) : Cl.per t y = Cl.per t x := by
  have key : ∀ {u v : Nat}, u < n → on t u v → Cl.per t v ≤ Cl.per t u := fun {u v} hu a => by
    obtain ⟨k, rfl⟩ := a
    refine h.per_le (h.it_lt hu k) (h.per_pos hu) ?_
    rw [← it_add, Nat.add_comm, it_add, h.per_home hu]
  exact Nat.le_antisymm (key hx a) (key (h.on_lt hx a) (h.on_symm hx a))
noncomputable def cyc (t : List Nat) (x : Nat) : List Nat := (List.range (per t x)).map fun k => it t k x
theorem cyc_len (t : List Nat) (x : Nat) : (cyc t x).length = per t x := by simp [cyc]
theorem cyc_at {t : List Nat} {x k : Nat} (h : k < per t x) : (cyc t x).getD k 0 = it t k x := by
  unfold cyc
  rw [List.getD_eq_getElem?_getD, List.getElem?_map, List.getElem?_range h]; rfl
theorem IsT.mem_cyc (h : IsT n t) {x y : Nat} (hx : x < n) : y ∈ cyc t x ↔ on t x y := by
  unfold cyc
  rw [List.mem_map]
  constructor
  · rintro ⟨k, _, rfl⟩; exact ⟨k, rfl⟩
  · intro a
    obtain ⟨k, hk, e⟩ := h.on_ix hx a
    exact ⟨k, List.mem_range.mpr hk, e⟩
/-- the first place of a ring of two places or more -/
def Fst (t : List Nat) (x : Nat) : Prop := t.getD x 0 ≠ x ∧ ∀ y, on t x y → x ≤ y
open Classical in
noncomputable def firsts (t : List Nat) (n : Nat) : List Nat := (List.range n).filter fun x => decide (Fst t x)
theorem firsts_succ (t : List Nat) (i : Nat) : (Fst t i → firsts t (i + 1) = firsts t i ++ [i]) ∧ (¬ Fst t i → firsts t (i + 1) = firsts t i) := by
  unfold firsts
  rw [List.range_succ, List.filter_append]
  constructor
  · intro h; simp [h]
  · intro h; simp [h]
noncomputable def loopsM (t : List Nat) : List (List Nat) := (firsts t t.length).map (cyc t)
theorem fixed_it {x : Nat} (e : t.getD x 0 = x) : ∀ k, it t k x = x
  | 0 => rfl
  | k + 1 => by show t.getD (it t k x) 0 = x; rw [fixed_it e k, e]
theorem IsT.least_on (h : IsT n t) {x : Nat} (hx : x < n) (e : t.getD x 0 ≠ x) : ∃ f, Fst t f ∧ on t f x ∧ f ≤ x := by
  obtain ⟨f, hf, hm⟩ := exists_least (P := fun y => on t x y) ⟨x, on_refl t x⟩
  have hfn := h.on_lt hx hf
  have hb := h.on_symm hx hf
  refine ⟨f, ⟨fun z => ?_, fun y hy => Nat.le_of_not_lt fun hl => hm y hl (on_trans hf hy)⟩, hb, Nat.le_of_not_lt fun hl => hm x hl (on_refl t x)⟩
  obtain ⟨k, hk⟩ := hb
  rw [fixed_it z] at hk
  subst hk; exact e z
/-- what is seen behind the first places below i -/
def Seen (t : List Nat) (i y : Nat) : Prop := ∃ f, f < i ∧ Fst t f ∧ on t f y
theorem Seen.succ (i y : Nat) : Seen t (i + 1) y ↔ Seen t i y ∨ (Fst t i ∧ on t i y) := by
  constructor
  · rintro ⟨f, hf, a, b⟩
    by_cases e : f = i
    · subst e; exact .inr ⟨a, b⟩
    · exact .inl ⟨f, by omega, a, b⟩
  · rintro (⟨f, hf, a, b⟩ | ⟨a, b⟩)
    · exact ⟨f, by omega, a, b⟩
    · exact ⟨i, by omega, a, b⟩
theorem IsT.fst_iff (h : IsT n t) {i : Nat} (hi : i < n) : Fst t i ↔ t.getD i 0 ≠ i ∧ ¬ Seen t i i := by
  constructor
  · rintro ⟨a, b⟩
    refine ⟨a, fun ⟨f, hf, c, d⟩ => ?_⟩
    have := b f (h.on_symm (by omega) d)
    omega
  · rintro ⟨a, b⟩
    obtain ⟨f, hf, hon, hle⟩ := h.least_on hi a
    by_cases e : f = i
    · subst e; exact hf
    · exact absurd ⟨f, by omega, hf, hon⟩ b
end
end Cl

set_option Elab.async false
set_option linter.all false
set_option maxRecDepth 100000
set_option maxHeartbeats 4000000
namespace Cl
open PySem PySem.Spec L2 Tb
/-! ### the shape; turned about -/
section
variable {n : Nat} {t b : List Nat}
noncomputable def rt (t : List Nat) (x : Nat) : Nat := Classical.epsilon fun f => on t x f ∧ ∀ y, on t x y → f ≤ y
theorem rt_spec (t : List Nat) (x : Nat) : on t x (rt t x) ∧ ∀ y, on t x y → rt t x ≤ y := by
  apply Classical.epsilon_spec (p := fun f => on t x f ∧ ∀ y, on t x y → f ≤ y)
  obtain ⟨f, hf, hm⟩ := exists_least (P := fun y => on t x y) ⟨x, on_refl t x⟩
  exact ⟨f, hf, fun y hy => Nat.le_of_not_lt fun hl => hm y hl hy⟩
theorem IsT.rt_lt (h : IsT n t) {x : Nat} (hx : x < n) : rt t x < n := h.on_lt hx (rt_spec t x).1
theorem IsT.rt_on (h : IsT n t) {x y : Nat} (hx : x < n) (a : on t x y) : rt t x = rt t y := by
  have hy := h.on_lt hx a
  apply Nat.le_antisymm
  · exact (rt_spec t x).2 _ (on_trans a (rt_spec t y).1)
  · exact (rt_spec t y).2 _ (on_trans (h.on_symm hx a) (rt_spec t x).1)
theorem IsT.on_iff (h : IsT n t) {x y : Nat} (hx : x < n) (hy : y < n) : on t x y ↔ rt t x = rt t y := by
  refine ⟨h.rt_on hx, fun e => ?_⟩
  have := (rt_spec t x).1
  rw [e] at this
  exact on_trans this (h.on_symm hy (rt_spec t y).1)
theorem Fst.rt {f : Nat} (h : Fst t f) : rt t f = f := Nat.le_antisymm ((rt_spec t f).2 _ (on_refl t f)) (h.2 _ (rt_spec t f).1)
theorem IsT.fixed_on (h : IsT n t) {x y : Nat} (hx : x < n) (a : on t x y) (e : t.getD y 0 = y) : t.getD x 0 = x := by
  obtain ⟨k, hk⟩ := h.on_symm hx a
  rw [fixed_it e] at hk
  subst hk; exact e
theorem IsT.fst_rt (h : IsT n t) {x : Nat} (hx : x < n) (e : t.getD x 0 ≠ x) : Fst t (Cl.rt t x) := by
  have hs := rt_spec t x
  exact ⟨fun z => e (h.fixed_on hx hs.1 z), fun y hy => hs.2 y (on_trans hs.1 hy)⟩
theorem firsts_nodup (t : List Nat) (n : Nat) : (firsts t n).Nodup := List.Pairwise.filter _ List.nodup_range
theorem mem_firsts {x : Nat} : x ∈ firsts t n ↔ x < n ∧ Fst t x := by
  unfold firsts
  rw [List.mem_filter, List.mem_range]
  simp
noncomputable def lens (t : List Nat) : List Nat := (firsts t t.length).map (per t)
def down (l : List Nat) : List Nat := l.mergeSort fun a b => decide (b ≤ a)
noncomputable def shapeM (t : List Nat) : List Nat := down (lens t) ++ List.replicate (t.length - (lens t).sum) 1
theorem down_perm (l : List Nat) : (down l).Perm l := List.mergeSort_perm _ _
theorem down_desc (l : List Nat) : (down l).Pairwise (· ≥ ·) := by
  have := List.pairwise_mergeSort (le := fun a b : Nat => decide (b ≤ a)) (fun a b c => by simp; omega) (fun a b => by simp; omega) l
  exact this.imp fun h => by simpa using h
theorem desc_unique : ∀ {a b : List Nat}, a.Perm b → a.Pairwise (· ≥ ·) → b.Pairwise (· ≥ ·) → a = b
  | [], b, p, _, _ => p.nil_eq
  | x :: a, [], p, _, _ => absurd p.symm.nil_eq (by simp)
  | x :: a, y :: b, p, ha, hb => by
    have hx := List.pairwise_cons.mp ha
    have hy := List.pairwise_cons.mp hb
    have e : x = y := by
      have m1 : x ∈ y :: b := p.mem_iff.mp (List.mem_cons_self ..)
      have m2 : y ∈ x :: a := p.mem_iff.mpr (List.mem_cons_self ..)
      rcases List.mem_cons.mp m1 with q | q
      · exact q
      · rcases List.mem_cons.mp m2 with r | r
        · exact r.symm
        · exact Nat.le_antisymm (hy.1 _ q) (hx.1 _ r)
    subst e
    rw [desc_unique (List.Perm.cons_inv p) hx.2 hy.2]
theorem down_eq {l l' : List Nat} (p : l'.Perm l) (h : l'.Pairwise (· ≥ ·)) : l' = down l := desc_unique (p.trans (down_perm l).symm) h (down_desc l)
theorem down_congr {l l' : List Nat} (p : l'.Perm l) : down l' = down l := down_eq ((down_perm l').trans p) (down_desc l')
/-- turned about -/
def cj (t b : List Nat) : List Nat := bh (bh (bk b) t) b
theorem IsT.cj (ht : IsT n t) (hb : IsT n b) : IsT n (cj t b) := (hb.bk.bh ht).bh hb
theorem cj_at (ht : IsT n t) (hb : IsT n b) {x : Nat} (hx : x < n) : (cj t b).getD (b.getD x 0) 0 = b.getD (t.getD x 0) 0 := by
  unfold cj
  have h1 : (b.getD x 0) < (bk b).length := by rw [hb.bk.len]; exact hb.getLt hx
  rw [bh_at (by rw [bh_len]; exact h1), bh_at h1, hb.bk_at hx]
theorem eq_along (hb : IsT n b) {r r' : List Nat} (hr : r.length = n) (hr' : r'.length = n) (k : ∀ x, x < n → r.getD (b.getD x 0) 0 = r'.getD (b.getD x 0) 0) : r = r' := by
  refine list_ext_getD (by rw [hr, hr']) fun y hy => ?_
  rw [hr] at hy
  obtain ⟨x, hx, rfl⟩ := hb.ix hy
  exact k x hx
theorem it_cj (ht : IsT n t) (hb : IsT n b) {x : Nat} (hx : x < n) : ∀ k, it (cj t b) k (b.getD x 0) = b.getD (it t k x) 0
  | 0 => rfl
  | k + 1 => by
    show (cj t b).getD (it (cj t b) k (b.getD x 0)) 0 = b.getD (t.getD (it t k x) 0) 0
    rw [it_cj ht hb hx k, cj_at ht hb (ht.it_lt hx k)]
theorem on_cj (ht : IsT n t) (hb : IsT n b) {x y : Nat} (hx : x < n) (hy : y < n) : on (cj t b) (b.getD x 0) (b.getD y 0) ↔ on t x y := by
  constructor
  · rintro ⟨k, e⟩
    rw [it_cj ht hb hx] at e
    exact ⟨k, hb.inj (ht.it_lt hx k) hy e⟩
  · rintro ⟨k, rfl⟩
    exact ⟨k, it_cj ht hb hx k⟩
theorem per_cj (ht : IsT n t) (hb : IsT n b) {x : Nat} (hx : x < n) : per (cj t b) (b.getD x 0) = per t x := by
  apply Nat.le_antisymm
  · refine (ht.cj hb).per_le (hb.getLt hx) (ht.per_pos hx) ?_
    rw [it_cj ht hb hx, ht.per_home hx]
  · refine ht.per_le hx ((ht.cj hb).per_pos (hb.getLt hx)) ?_
    have := (ht.cj hb).per_home (hb.getLt hx)
    rw [it_cj ht hb hx] at this
    exact hb.inj (ht.it_lt hx _) hx this
theorem fixed_cj (ht : IsT n t) (hb : IsT n b) {x : Nat} (hx : x < n) : (cj t b).getD (b.getD x 0) 0 = b.getD x 0 ↔ t.getD x 0 = x := by
  rw [cj_at ht hb hx]
  exact ⟨fun e => hb.inj (ht.getLt hx) hx e, fun e => by rw [e]⟩
theorem lens_cj (ht : IsT n t) (hb : IsT n b) : (lens (cj t b)).Perm (lens t) := by
  have hc := ht.cj hb
  unfold lens
  rw [hc.len, ht.len]
  have key : (firsts (cj t b) n).Perm ((firsts t n).map fun f => rt (cj t b) (b.getD f 0)) := by
    refine (List.perm_ext_iff_of_nodup (firsts_nodup _ _) ?_).mpr fun y => ?_
    · rw [List.nodup_iff_pairwise_ne, List.pairwise_map]
      refine List.Pairwise.imp_of_mem (fun {f g} hf hg hne e => ?_) (List.nodup_iff_pairwise_ne.mp (firsts_nodup t n))
      obtain ⟨hf, ff⟩ := mem_firsts.mp hf
      obtain ⟨hg, fg⟩ := mem_firsts.mp hg
      have o := (hc.on_iff (hb.getLt hf) (hb.getLt hg)).mpr e
      have o2 := ht.rt_on hf ((on_cj ht hb hf hg).mp o)
      rw [ff.rt, fg.rt] at o2
      exact hne o2
    · rw [mem_firsts, List.mem_map]
      constructor
      · rintro ⟨hy, fy⟩
        obtain ⟨x, hx, rfl⟩ := hb.ix hy
        have nf : t.getD x 0 ≠ x := fun e => fy.1 ((fixed_cj ht hb hx).mpr e)
        have hr := ht.rt_lt hx
        refine ⟨rt t x, mem_firsts.mpr ⟨hr, ht.fst_rt hx nf⟩, ?_⟩
        rw [← hc.rt_on (hb.getLt hx) ((on_cj ht hb hx hr).mpr (rt_spec t x).1), fy.rt]
      · rintro ⟨f, hf, rfl⟩
        obtain ⟨hf, ff⟩ := mem_firsts.mp hf
        exact ⟨hc.rt_lt (hb.getLt hf), hc.fst_rt (hb.getLt hf) fun e => ff.1 ((fixed_cj ht hb hf).mp e)⟩
  have := key.map (per (cj t b))
  refine this.trans ?_
  rw [List.map_map]
  have e : (firsts t n).map (per (cj t b) ∘ fun f => rt (cj t b) (b.getD f 0)) = (firsts t n).map (per t) := by
    refine List.map_congr_left fun f hf => ?_
    obtain ⟨hf, _⟩ := mem_firsts.mp hf
    show per (cj t b) (rt (cj t b) (b.getD f 0)) = per t f
    rw [hc.per_on (hb.getLt hf) (rt_spec _ _).1, per_cj ht hb hf]
  rw [e]
theorem sum_perm {a b : List Nat} (p : a.Perm b) : a.sum = b.sum := p.sum_nat
theorem shape_cj (ht : IsT n t) (hb : IsT n b) : shapeM (cj t b) = shapeM t := by
  unfold shapeM
  rw [down_congr (lens_cj ht hb), sum_perm (lens_cj ht hb), (ht.cj hb).len, ht.len]
theorem cj_len (t b : List Nat) : (cj t b).length = b.length := by unfold cj; rw [bh_len, bh_len, bk_len]
theorem cj_cj {p : List Nat} (ht : IsT n t) (hp : IsT n p) (hb : IsT n b) : cj (cj t p) b = cj t (bh p b) := by
  have hc := ht.cj hp
  refine eq_along (hp.bh hb) (hc.cj hb).len (ht.cj (hp.bh hb)).len fun x hx => ?_
  rw [cj_at ht (hp.bh hb) hx, bh_at (by rw [hp.len]; exact hx), bh_at (by rw [hp.len]; exact ht.getLt hx), cj_at hc hb (hp.getLt hx), cj_at ht hp hx]
theorem cj_range (ht : IsT n t) : cj t (List.range n) = t := by
  have hr := IsT.range n
  refine eq_along hr (ht.cj hr).len ht.len fun x hx => ?_
  rw [cj_at ht hr hx, range_getD (ht.getLt hx), range_getD hx]
theorem bh_bk (hb : IsT n b) : bh b (bk b) = List.range n := by
  refine list_ext_getD (by rw [bh_len, hb.len, List.length_range]) fun x hx => ?_
  rw [bh_len] at hx
  rw [bh_at hx]
  rw [hb.len] at hx
  rw [hb.bk_at hx, range_getD hx]
theorem lens_len {n : Nat} {t : List Nat} (h : IsT n t) : (lens t).length ≤ n := by
  unfold lens firsts
  rw [List.length_map, h.len]
  have := List.length_filter_le (fun x => @decide (Fst t x) (Classical.propDecidable _)) (List.range n)
  rw [List.length_range] at this
  exact this
end
end Cl

set_option Elab.async false
set_option linter.all false
set_option maxRecDepth 100000
set_option maxHeartbeats 4000000
namespace Cl
open PySem PySem.Spec L2 Tb
/-! ### powers -/
section
variable {n : Nat} {t : List Nat}
noncomputable def pwA (t : List Nat) (k : Int) (x : Nat) : Nat := it t (k % (per t x : Nat)).toNat x
noncomputable def pwM (t : List Nat) (k : Int) : List Nat := (List.range t.length).map (pwA t k)
theorem modI (s : Int) {p : Nat} (h : 0 < p) : s % (p : Int) = ((s % (p : Int)).toNat : Nat) := (Int.toNat_of_nonneg (Int.emod_nonneg _ (by omega))).symm
theorem modI_lt (s : Int) {p : Nat} (h : 0 < p) : (s % (p : Int)).toNat < p := by
  have h1 := modI s h
  have h2 := Int.emod_lt_of_pos s (b := (p : Int)) (by omega)
  omega
theorem shift_cast (k : Int) {p : Nat} (h : 0 < p) (j : Nat) : ((j : Int) + k % (p : Int)) % (p : Int) = (((j + (k % (p : Int)).toNat) % p : Nat) : Int) := by
  rw [Int.natCast_emod, Int.natCast_add, ← modI k h]
theorem along_cast (k : Int) {p : Nat} (h : 0 < p) (j : Nat) : ((j : Int) + k) % (p : Int) = (((j + (k % (p : Int)).toNat) % p : Nat) : Int) := by
  rw [← shift_cast k h, Int.add_emod (j : Int) k, Int.add_emod (j : Int) (k % (p : Int)), Int.emod_emod]
theorem pw_step (h : IsT n t) {f : Nat} (hf : f < n) (j : Nat) (k : Int) : pwA t k (it t j f) = it t ((j + (k % (per t f : Nat)).toNat) % per t f) f := by
  unfold pwA
  rw [h.per_on hf ⟨j, rfl⟩, ← it_add, Nat.add_comm]
  exact h.it_mod hf _
theorem pwA_lt (h : IsT n t) {x : Nat} (hx : x < n) (k : Int) : pwA t k x < n := h.it_lt hx _
theorem pwA_fixed {x : Nat} (e : t.getD x 0 = x) (k : Int) : pwA t k x = x := fixed_it e _
theorem pwM_len (t : List Nat) (k : Int) : (pwM t k).length = t.length := by simp [pwM]
theorem pwM_at (h : IsT n t) {x : Nat} (hx : x < n) (k : Int) : (pwM t k).getD x 0 = pwA t k x := by
  unfold pwM
  rw [List.getD_eq_getElem?_getD, List.getElem?_map, List.getElem?_range (by rw [h.len]; exact hx)]; rfl
theorem pwM_eq (h : IsT n t) {r : List Nat} {k : Int} (hr : r.length = n) (e : ∀ x, x < n → r.getD x 0 = pwA t k x) : r = pwM t k := by
  refine list_ext_getD (by rw [pwM_len, hr, h.len]) fun x hx => ?_
  rw [hr] at hx
  rw [e x hx, pwM_at h hx]
theorem pwM_lt (h : IsT n t) (k : Int) : ∀ x ∈ pwM t k, x < n := by
  intro x hx
  unfold pwM at hx
  obtain ⟨y, hy, rfl⟩ := List.mem_map.mp hx
  rw [List.mem_range, h.len] at hy
  exact pwA_lt h hy k
theorem pwA_add (h : IsT n t) {x : Nat} (hx : x < n) (a b : Int) : pwA t b (pwA t a x) = pwA t (a + b) x := by
  have hp := h.per_pos hx
  have e1 : pwA t b (pwA t a x) = _ := pw_step h hx (a % (per t x : Nat)).toNat b
  rw [e1]
  unfold pwA
  congr 1
  have : ((((a % (per t x : Nat)).toNat + (b % (per t x : Nat)).toNat) % per t x : Nat) : Int) = (a + b) % (per t x : Nat) := by
    rw [← along_cast b hp, ← modI a hp, Int.emod_add_emod]
  omega
theorem pwM_add (h : IsT n t) (a b : Int) : bh (pwM t a) (pwM t b) = pwM t (a + b) := by
  refine pwM_eq h (by rw [bh_len, pwM_len, h.len]) fun x hx => ?_
  rw [bh_at (by rw [pwM_len, h.len]; exact hx), pwM_at h hx, pwM_at h (pwA_lt h hx a), pwA_add h hx]
theorem pwM_zero (h : IsT n t) : pwM t 0 = List.range n := by
  refine (pwM_eq h List.length_range fun x hx => ?_).symm
  rw [range_getD hx]
  unfold pwA
  rw [Int.zero_emod]; rfl
theorem pwM_one (h : IsT n t) : pwM t 1 = t := by
  refine (pwM_eq h h.len fun x hx => ?_).symm
  have hp := h.per_pos hx
  show it t 1 x = it t _ x
  rw [h.it_mod hx 1]
  congr 1
/-- where a place stands on its ring -/
noncomputable def ixr (t : List Nat) (x : Nat) : Nat := (cyc t (rt t x)).idxOf x
noncomputable def home (t : List Nat) (x : Nat) : D := .tuple [.list (nl (cyc t (rt t x))), .int (ixr t x : Nat)]
noncomputable def homesM (t : List Nat) : List D := (List.range t.length).map (home t)
theorem ixr_spec (h : IsT n t) {x : Nat} (hx : x < n) : ixr t x < per t (rt t x) ∧ it t (ixr t x) (rt t x) = x := by
  have hr := h.rt_lt hx
  have m : x ∈ cyc t (rt t x) := (h.mem_cyc hr).mpr (h.on_symm hx (rt_spec t x).1)
  have h1 : ixr t x < (cyc t (rt t x)).length := List.idxOf_lt_length_of_mem m
  have h2 := h1
  rw [cyc_len] at h2
  refine ⟨h2, ?_⟩
  rw [← cyc_at h2, List.getD_eq_getElem?_getD, List.getElem?_eq_getElem h1]
  exact List.getElem_idxOf h1
theorem ixr_eq (h : IsT n t) {f j : Nat} (hf : f < n) (e : rt t f = f) (hj : j < per t f) : ixr t (it t j f) = j := by
  have hx := h.it_lt hf j
  have er : rt t (it t j f) = f := by rw [← h.rt_on hf ⟨j, rfl⟩, e]
  have := ixr_spec h hx
  rw [er] at this
  exact h.per_inj hf this.1 hj this.2
theorem home_eq (h : IsT n t) {f j : Nat} (hf : f < n) (e : rt t f = f) (hj : j < per t f) : home t (it t j f) = .tuple [.list (nl (cyc t f)), .int (j : Int)] := by
  have er : rt t (it t j f) = f := by rw [← h.rt_on hf ⟨j, rfl⟩, e]
  unfold home
  rw [ixr_eq h hf e hj, er]
theorem rt_le (t : List Nat) (x : Nat) : rt t x ≤ x := (rt_spec t x).2 x (on_refl t x)
end
end Cl

set_option Elab.async false
set_option linter.all false
set_option maxRecDepth 100000
set_option maxHeartbeats 4000000
namespace Cl
open PySem PySem.Spec L2 Tb
/-! ### the number of rings, and its parity -/
section
variable {n : Nat} {t t' : List Nat} {a b : Nat}
noncomputable def rtB (t : List Nat) (x : Nat) : Bool := decide (rt t x = x)
theorem rtB_iff {x : Nat} : rtB t x = true ↔ rt t x = x := decide_eq_true_iff
noncomputable def roots (t : List Nat) (n : Nat) : List Nat := (List.range n).filter (rtB t)
theorem mem_roots {x : Nat} : x ∈ roots t n ↔ x < n ∧ rt t x = x := by
  unfold roots
  rw [List.mem_filter, List.mem_range, rtB_iff]
theorem roots_nodup (t : List Nat) (n : Nat) : (roots t n).Nodup := List.Pairwise.filter _ List.nodup_range
theorem split_sum (p q : Nat → Bool) (g : Nat → Nat) : ∀ l : List Nat, ((l.filter p).map g).sum = ((l.filter fun x => p x && q x).map g).sum + ((l.filter fun x => p x && !q x).map g).sum
  | [] => rfl
  | x :: l => by
    have := split_sum p q g l
    cases hp : p x <;> cases hq : q x <;> simp [List.filter_cons, hp, hq, this] <;> omega
theorem roots_flat (h : IsT n t) : ((roots t n).map (cyc t)).flatten.Perm (List.range n) := by
  refine (List.perm_ext_iff_of_nodup ?_ List.nodup_range).mpr fun x => ?_
  · rw [List.nodup_iff_pairwise_ne, List.pairwise_flatten]
    constructor
    · intro l hl
      obtain ⟨f, hf, rfl⟩ := List.mem_map.mp hl
      have hfn := (mem_roots.mp hf).1
      unfold cyc
      rw [List.pairwise_map]
      refine List.Pairwise.imp_of_mem (fun {i j} hi hj hij e => ?_) (List.pairwise_lt_range (n := per t f))
      have := h.per_inj hfn (List.mem_range.mp hi) (List.mem_range.mp hj) e
      omega
    · rw [List.pairwise_map]
      refine List.Pairwise.imp_of_mem (fun {f g} hf hg hne x hx y hy e => ?_) (List.nodup_iff_pairwise_ne.mp (roots_nodup t n))
      obtain ⟨hfn, ef⟩ := mem_roots.mp hf
      obtain ⟨hgn, eg⟩ := mem_roots.mp hg
      subst e
      have h1 := h.rt_on hfn ((h.mem_cyc hfn).mp hx)
      have h2 := h.rt_on hgn ((h.mem_cyc hgn).mp hy)
      exact hne (by rw [← ef, ← eg, h1, h2])
  · rw [List.mem_flatten, List.mem_range]
    constructor
    · rintro ⟨l, hl, hx⟩
      obtain ⟨f, hf, rfl⟩ := List.mem_map.mp hl
      have hfn := (mem_roots.mp hf).1
      exact h.on_lt hfn ((h.mem_cyc hfn).mp hx)
    · intro hx
      have hr := h.rt_lt hx
      refine ⟨cyc t (rt t x), List.mem_map.mpr ⟨_, mem_roots.mpr ⟨hr, ?_⟩, rfl⟩, (h.mem_cyc hr).mpr (h.on_symm hx (rt_spec t x).1)⟩
      exact (h.rt_on hx (rt_spec t x).1).symm
theorem roots_sum (h : IsT n t) : ((roots t n).map (per t)).sum = n := by
  have := (roots_flat h).length_eq
  rw [List.length_flatten, List.length_range, List.map_map] at this
  have e : (List.length ∘ cyc t) = per t := by funext x; exact cyc_len t x
  rw [e] at this
  exact this
def fixB (t : List Nat) (x : Nat) : Bool := decide (t.getD x 0 = x)
theorem firsts_eq (t : List Nat) (n : Nat) : firsts t n = (List.range n).filter fun x => rtB t x && !fixB t x := by
  unfold firsts
  refine List.filter_congr fun x _ => ?_
  rw [Bool.eq_iff_iff, @decide_eq_true_iff (Fst t x) (Classical.propDecidable _), Bool.and_eq_true, rtB_iff, Bool.not_eq_true', fixB, decide_eq_false_iff_not]
  constructor
  · intro f; exact ⟨f.rt, f.1⟩
  · rintro ⟨e, ne⟩
    refine ⟨ne, fun y hy => ?_⟩
    have := (rt_spec t x).2 y hy
    omega
theorem per_fixed (h : IsT n t) {x : Nat} (hx : x < n) (e : t.getD x 0 = x) : per t x = 1 := by
  have h1 := h.per_le hx (k := 1) (by decide) e
  have h2 := h.per_pos hx
  omega
theorem sum_one : ∀ l : List Nat, (l.map fun _ => 1).sum = l.length
  | [] => rfl
  | x :: l => by rw [List.map_cons, List.sum_cons, sum_one l, List.length_cons]; omega
theorem shape_len (h : IsT n t) : (shapeM t).length = (roots t n).length := by
  have s1 := split_sum (rtB t) (fixB t) (per t) (List.range n)
  have s2 := split_sum (rtB t) (fixB t) (fun _ => 1) (List.range n)
  rw [sum_one, sum_one, sum_one] at s2
  have e : (((List.range n).filter fun x => rtB t x && fixB t x).map (per t)) = (((List.range n).filter fun x => rtB t x && fixB t x).map fun _ => 1) := by
    refine List.map_congr_left fun x hx => ?_
    rw [List.mem_filter, List.mem_range, Bool.and_eq_true, fixB, decide_eq_true_iff] at hx
    exact per_fixed h hx.1 hx.2.2
  rw [e, sum_one, ← firsts_eq] at s1
  rw [← firsts_eq] at s2
  have s3 := roots_sum h
  have el : lens t = (firsts t n).map (per t) := by unfold lens; rw [h.len]
  unfold shapeM
  rw [List.length_append, List.length_replicate, (down_perm _).length_eq, h.len, el, List.length_map]
  unfold roots at s3 ⊢
  omega
/-- two places exchanged -/
structure Sw (n : Nat) (t t' : List Nat) (a b : Nat) : Prop where
  ht : IsT n t
  ht' : IsT n t'
  la : a < n
  lb : b < n
  ne : a ≠ b
  ea : t'.getD a 0 = t.getD b 0
  eb : t'.getD b 0 = t.getD a 0
  ex : ∀ x, x ≠ a → x ≠ b → t'.getD x 0 = t.getD x 0
theorem Sw.back (s : Sw n t t' a b) : Sw n t' t a b := ⟨s.ht', s.ht, s.la, s.lb, s.ne, s.eb.symm, s.ea.symm, fun x h1 h2 => (s.ex x h1 h2).symm⟩
theorem Sw.swap (s : Sw n t t' a b) : Sw n t t' b a := ⟨s.ht, s.ht', s.lb, s.la, s.ne.symm, s.eb, s.ea, fun x h1 h2 => s.ex x h2 h1⟩
theorem Sw.walk (s : Sw n t t' a b) (x : Nat) : ∀ k, (∀ j, j < k → it t j x ≠ a ∧ it t j x ≠ b) → it t' k x = it t k x
  | 0, _ => rfl
  | k + 1, h => by
    have := s.walk x k fun j hj => h j (by omega)
    show t'.getD (it t' k x) 0 = t.getD (it t k x) 0
    rw [this, s.ex _ (h k (by omega)).1 (h k (by omega)).2]
theorem Sw.from_a (s : Sw n t t' a b) (k : Nat) (h : ∀ j, 0 < j → j ≤ k → it t j b ≠ a ∧ it t j b ≠ b) : it t' (k + 1) a = it t (k + 1) b := by
  rw [it_succ', it_succ', s.ea]
  refine s.walk _ k fun j hj => ?_
  rw [← it_succ']
  exact h (j + 1) (by omega) (by omega)
/-- on two rings: they become one -/
theorem Sw.joined (s : Sw n t t' a b) (d : ¬ on t a b) : on t' a b := by
  have hp := s.ht.per_pos s.lb
  obtain ⟨k, hk⟩ : ∃ k, per t b = k + 1 := ⟨per t b - 1, by omega⟩
  refine ⟨k + 1, ?_⟩
  rw [s.from_a k, ← hk, s.ht.per_home s.lb]
  intro j hj hjk
  refine ⟨fun e => d (s.ht.on_symm s.lb ⟨j, e⟩), (s.ht.per s.lb).2.2 j hj (by omega)⟩
theorem Sw.to_a (s : Sw n t t' a b) (d : ¬ on t a b) {x : Nat} (hx : x < n) (u : on t x a ∨ on t x b) : on t' x a := by
  have h : ∃ k, it t k x = a ∨ it t k x = b := by
    rcases u with ⟨k, e⟩ | ⟨k, e⟩
    · exact ⟨k, .inl e⟩
    · exact ⟨k, .inr e⟩
  obtain ⟨k, hk, hm⟩ := exists_least h
  have e := s.walk x k fun j hj => ⟨fun z => hm j hj (.inl z), fun z => hm j hj (.inr z)⟩
  rcases hk with z | z
  · exact ⟨k, e.trans z⟩
  · exact on_trans ⟨k, e.trans z⟩ (s.ht'.on_symm s.la (s.joined d))
theorem Sw.away (s : Sw n t t' a b) {x : Nat} (u : ¬ (on t x a ∨ on t x b)) (k : Nat) : it t' k x = it t k x :=
  s.walk x k fun j _ => ⟨fun z => u (.inl ⟨j, z⟩), fun z => u (.inr ⟨j, z⟩)⟩
theorem Sw.roots (s : Sw n t t' a b) (d : ¬ on t a b) {x : Nat} (hx : x < n) : (rt t' x = x ↔ rt t x = x ∧ x ≠ max (rt t a) (rt t b)) := by
  have ht := s.ht
  have ra := (rt_spec t a)
  have rb := (rt_spec t b)
  have hne : rt t a ≠ rt t b := fun e => d ((ht.on_iff s.la s.lb).mpr e)
  by_cases u : on t x a ∨ on t x b
  · have ux := s.to_a d hx u
    have la := ht.rt_lt s.la
    have lb := ht.rt_lt s.lb
    have ua := s.to_a d la (.inl (ht.on_symm s.la ra.1))
    have ub := s.to_a d lb (.inr (ht.on_symm s.lb rb.1))
    have key : rt t' x = min (rt t a) (rt t b) := by
      apply Nat.le_antisymm
      · rw [Nat.le_min]
        exact ⟨(rt_spec t' x).2 _ (on_trans ux (s.ht'.on_symm la ua)), (rt_spec t' x).2 _ (on_trans ux (s.ht'.on_symm lb ub))⟩
      · -- the root is on one of the two
        have hr := s.ht'.rt_lt hx
        have hor : on t (rt t' x) a ∨ on t (rt t' x) b := by
          refine Classical.byContradiction fun z => ?_
          obtain ⟨k, hk⟩ := on_trans (s.ht'.on_symm hx (rt_spec t' x).1) ux
          rw [s.away z] at hk
          exact z (.inl ⟨k, hk⟩)
        rcases hor with z | z
        · exact Nat.le_trans (Nat.min_le_left _ _) (ra.2 _ (ht.on_symm hr z))
        · exact Nat.le_trans (Nat.min_le_right _ _) (rb.2 _ (ht.on_symm hr z))
    have hrx : rt t x = rt t a ∨ rt t x = rt t b := by
      rcases u with z | z
      · exact .inl (ht.rt_on hx z)
      · exact .inr (ht.rt_on hx z)
    have ha := (ht.rt_on s.la ra.1)
    have hb := (ht.rt_on s.lb rb.1)
    rw [key]
    constructor
    · intro e
      constructor
      · rcases Nat.le_total (rt t a) (rt t b) with z | z
        · rw [Nat.min_eq_left z] at e; rw [← e]; exact ha.symm
        · rw [Nat.min_eq_right z] at e; rw [← e]; exact hb.symm
      · omega
    · rintro ⟨e, ne⟩
      omega
  · have key : rt t' x = rt t x := by
      apply Nat.le_antisymm
      · obtain ⟨k, hk⟩ := (rt_spec t x).1
        exact (rt_spec t' x).2 _ ⟨k, (s.away u k).trans hk⟩
      · obtain ⟨k, hk⟩ := (rt_spec t' x).1
        exact (rt_spec t x).2 _ ⟨k, (s.away u k).symm.trans hk⟩
    rw [key]
    refine ⟨fun e => ⟨e, fun z => u ?_⟩, fun e => e.1⟩
    rcases Nat.le_total (rt t a) (rt t b) with w | w
    · rw [Nat.max_eq_right w] at z; subst z; exact .inr (ht.on_symm s.lb rb.1)
    · rw [Nat.max_eq_left w] at z; subst z; exact .inl (ht.on_symm s.la ra.1)
theorem filter_one {c : Nat} (hc : c < n) : ((List.range n).filter fun x => x == c).length = 1 := by
  rw [← List.countP_eq_length_filter]
  show List.count c (List.range n) = 1
  rw [List.nodup_range.count, if_pos (List.mem_range.mpr hc)]
theorem Sw.count (s : Sw n t t' a b) (d : ¬ on t a b) : (Cl.roots t n).length = (Cl.roots t' n).length + 1 := by
  have ht := s.ht
  have la := ht.rt_lt s.la
  have lb := ht.rt_lt s.lb
  have s2 := split_sum (rtB t) (fun x => x == max (rt t a) (rt t b)) (fun _ => 1) (List.range n)
  rw [sum_one, sum_one, sum_one] at s2
  have e1 : ((List.range n).filter fun x => rtB t x && (x == max (rt t a) (rt t b))) = (List.range n).filter fun x => x == max (rt t a) (rt t b) := by
    refine List.filter_congr fun x _ => ?_
    rw [Bool.eq_iff_iff, Bool.and_eq_true, beq_iff_eq, rtB_iff]
    refine ⟨fun z => z.2, fun z => ⟨?_, z⟩⟩
    rcases Nat.le_total (rt t a) (rt t b) with w | w
    · rw [Nat.max_eq_right w] at z; subst z; exact (ht.rt_on s.lb (rt_spec t b).1).symm
    · rw [Nat.max_eq_left w] at z; subst z; exact (ht.rt_on s.la (rt_spec t a).1).symm
  have e2 : ((List.range n).filter fun x => rtB t x && !(x == max (rt t a) (rt t b))) = Cl.roots t' n := by
    unfold Cl.roots
    refine List.filter_congr fun x hx => ?_
    rw [Bool.eq_iff_iff, Bool.and_eq_true, rtB_iff, rtB_iff, s.roots d (List.mem_range.mp hx), Bool.not_eq_true', beq_eq_false_iff_ne]
  rw [e1, e2, filter_one (by omega)] at s2
  unfold Cl.roots at s2 ⊢
  omega
theorem Sw.split (s : Sw n t t' a b) (o : on t a b) : ¬ on t' a b := by
  intro o'
  obtain ⟨k0, e0⟩ := s.ht.on_symm s.la o
  obtain ⟨k, ⟨hk, ek⟩, hm⟩ := exists_least (P := fun k => 0 < k ∧ it t k b = a) ⟨k0, Nat.pos_of_ne_zero fun z => by subst z; exact s.ne e0.symm, e0⟩
  have between : ∀ j, 0 < j → j < k → it t j b ≠ a ∧ it t j b ≠ b := by
    intro j hj hjk
    refine ⟨fun z => hm j hjk ⟨hj, z⟩, fun z => hm (k - j) (by omega) ⟨by omega, ?_⟩⟩
    have e : k = (k - j) + j := by omega
    rw [e, it_add, z] at ek
    exact ek
  have step : ∀ j, 0 < j → j ≤ k → it t' j a = it t j b := by
    intro j hj hjk
    obtain ⟨i, rfl⟩ : ∃ i, j = i + 1 := ⟨j - 1, by omega⟩
    exact s.from_a i fun l hl hli => between l hl (by omega)
  have hle : per t' a ≤ k := s.ht'.per_le s.la hk (by rw [step k hk (Nat.le_refl _), ek])
  obtain ⟨j, hj, ej⟩ := s.ht'.on_ix s.la o'
  rcases Nat.eq_zero_or_pos j with z | z
  · subst z; exact s.ne ej
  · rw [step j z (by omega)] at ej
    exact (between j z (by omega)).2 ej
theorem roots_le (t : List Nat) (n : Nat) : (roots t n).length ≤ n := by
  have := List.length_filter_le (rtB t) (List.range n)
  rw [List.length_range] at this
  exact this
/-- even: the code's own word -/
noncomputable def ev (t : List Nat) : Bool := ((t.length : Int) - ((shapeM t).length : Nat)) % 2 == 0
theorem ev_iff (h : IsT n t) : ev t = true ↔ (n - (roots t n).length) % 2 = 0 := by
  have := roots_le t n
  unfold ev
  rw [beq_iff_eq, shape_len h, h.len]
  omega
theorem Sw.ev (s : Sw n t t' a b) : Cl.ev t' = !Cl.ev t := by
  have h1 := ev_iff s.ht
  have h2 := ev_iff s.ht'
  have l1 := roots_le t n
  have l2 := roots_le t' n
  have key : (Cl.roots t n).length = (Cl.roots t' n).length + 1 ∨ (Cl.roots t' n).length = (Cl.roots t n).length + 1 := by
    by_cases o : on t a b
    · exact .inr (s.back.count (s.split o))
    · exact .inl (s.count o)
  rw [Bool.eq_iff_iff, h2, Bool.not_eq_true', ← Bool.not_eq_true, h1]
  omega
end
end Cl

set_option Elab.async false
set_option linter.all false
set_option maxRecDepth 100000
set_option maxHeartbeats 4000000
namespace Cl
open PySem PySem.Spec L2 Tb
/-! ### texts of rings -/
section
def tx (x : Nat) : Str := Str.ofString (toString ((x : Nat) : Int))
theorem tx_all : ((List.range 60).all fun x => decide ((tx x).length ≤ 2) && decide (((x : Nat) : Int).natAbs.log2 < 1920) && PyData.strOk (tx x)) = true := by decide +kernel
theorem tx_ok {x : Nat} (h : x < 60) : (tx x).length ≤ 2 ∧ ((x : Nat) : Int).natAbs.log2 < 1920 ∧ PyData.strOk (tx x) = true := by
  have := List.all_eq_true.mp tx_all x (List.mem_range.mpr h)
  rw [Bool.and_eq_true, Bool.and_eq_true, decide_eq_true_iff, decide_eq_true_iff] at this
  exact ⟨this.1.1, this.1.2, this.2⟩
def catL : List Str → Str
  | [] => Str.empty
  | a :: r => a ++ catL r
theorem catL_app : ∀ a b : List Str, catL (a ++ b) = catL a ++ catL b
  | [], b => (Str.empty_append _).symm
  | x :: a, b => by
    show x ++ catL (a ++ b) = x ++ catL a ++ catL b
    rw [catL_app a b, Str.append_assoc]
theorem join_cat (s : Str) : ∀ (x : Str) (l : List Str), Str.join s (x :: l) = x ++ catL (l.map (s ++ ·))
  | x, [] => (Str.append_empty x).symm
  | x, y :: l => by
    show x ++ s ++ Str.join s (y :: l) = x ++ (s ++ y ++ catL _)
    rw [join_cat s y l, Str.append_assoc, Str.append_assoc]
theorem join_none : ∀ l : List Str, Str.join Str.empty l = catL l
  | [] => rfl
  | x :: l => by
    rw [join_cat]
    have : (fun a => Str.empty ++ a) = (id : Str → Str) := by funext a; exact Str.empty_append a
    show x ++ catL (l.map (fun a => Str.empty ++ a)) = x ++ catL l
    rw [this, List.map_id]
theorem catL_len {m : Nat} : ∀ l : List Str, (∀ x ∈ l, x.length ≤ m) → (catL l).length ≤ l.length * m
  | [], _ => Nat.zero_le _
  | x :: l, h => by
    have h1 := h x (List.mem_cons_self ..)
    have h2 := catL_len l fun y hy => h y (List.mem_cons_of_mem _ hy)
    show (x ++ catL l).length ≤ _
    rw [Str.length_append, List.length_cons, Nat.succ_mul]
    omega
def ringS (l : List Nat) : Str := Str.ofString "(" ++ Str.join (Str.ofString ",") (l.map tx) ++ Str.ofString ")"
noncomputable def shownM (t : List Nat) : Str := if loopsM t = [] then Str.ofString "()" else catL ((loopsM t).map ringS)
theorem ring_cat (x : Nat) (l : List Nat) : ringS (x :: l) = Str.ofString "(" ++ tx x ++ catL (l.map fun y => Str.ofString "," ++ tx y) ++ Str.ofString ")" := by
  unfold ringS
  rw [List.map_cons, join_cat, List.map_map, ← Str.append_assoc]
  rfl
theorem join_len {l : List Nat} (h : ∀ x ∈ l, x < 60) : (Str.join (Str.ofString ",") (l.map tx)).length ≤ 3 * l.length := by
  cases l with
  | nil => exact Nat.zero_le _
  | cons x l =>
    rw [List.map_cons, join_cat, List.map_map, Str.length_append]
    have h1 := (tx_ok (h x (List.mem_cons_self ..))).1
    have h2 := catL_len (m := 3) (l.map ((Str.ofString "," ++ ·) ∘ tx)) fun y hy => by
      obtain ⟨z, hz, rfl⟩ := List.mem_map.mp hy
      have := (tx_ok (h z (List.mem_cons_of_mem _ hz))).1
      show (Str.ofString "," ++ tx z).length ≤ 3
      rw [Str.length_append]
      have : (Str.ofString ",").length = 1 := by decide +kernel
      omega
    rw [List.length_map] at h2
    rw [List.length_cons]
    omega
theorem ring_len {l : List Nat} (h : ∀ x ∈ l, x < 60) : (ringS l).length ≤ 3 * l.length + 2 := by
  have := join_len h
  unfold ringS
  rw [Str.length_append, Str.length_append]
  have : (Str.ofString "(").length = 1 := by decide +kernel
  have : (Str.ofString ")").length = 1 := by decide +kernel
  omega
theorem IsT.cyc_lt {n : Nat} {t : List Nat} (h : IsT n t) {f : Nat} (hf : f < n) : ∀ x ∈ cyc t f, x < n := fun x hx => h.on_lt hf ((h.mem_cyc hf).mp hx)
theorem IsT.loops_ok {n : Nat} {t : List Nat} (h : IsT n t) {l : List Nat} (hl : l ∈ loopsM t) : l.length ≤ n ∧ ∀ x ∈ l, x < n := by
  unfold loopsM at hl
  obtain ⟨f, hf, rfl⟩ := List.mem_map.mp hl
  rw [h.len] at hf
  have hf := (mem_firsts.mp hf).1
  exact ⟨by rw [cyc_len]; exact h.per_le_n hf, h.cyc_lt hf⟩
theorem strOk_app (a b : Str) : PyData.strOk (a ++ b) = (PyData.strOk a && PyData.strOk b) := by
  show (a.cps ++ b.cps).all (· < 0x110000) = _
  rw [Array.all_append]; rfl
theorem strOk_cat : ∀ l : List Str, (∀ x ∈ l, PyData.strOk x = true) → PyData.strOk (catL l) = true
  | [], _ => by show PyData.strOk Str.empty = true; decide +kernel
  | x :: l, h => by
    show PyData.strOk (x ++ catL l) = true
    rw [strOk_app, h x (List.mem_cons_self ..), strOk_cat l fun y hy => h y (List.mem_cons_of_mem _ hy)]; rfl
theorem strOk_ring {l : List Nat} (h : ∀ x ∈ l, x < 60) : PyData.strOk (ringS l) = true := by
  unfold ringS
  rw [strOk_app, strOk_app]
  have h1 : PyData.strOk (Str.ofString "(") = true := by decide +kernel
  have h2 : PyData.strOk (Str.ofString ")") = true := by decide +kernel
  have h3 : PyData.strOk (Str.ofString ",") = true := by decide +kernel
  have h4 : PyData.strOk (Str.join (Str.ofString ",") (l.map tx)) = true := by
    cases l with
    | nil => show PyData.strOk Str.empty = true; decide +kernel
    | cons x l =>
      rw [List.map_cons, join_cat, List.map_map, strOk_app, (tx_ok (h x (List.mem_cons_self ..))).2.2]
      rw [strOk_cat _ fun y hy => ?_]; rfl
      obtain ⟨z, hz, rfl⟩ := List.mem_map.mp hy
      show PyData.strOk (Str.ofString "," ++ tx z) = true
      rw [strOk_app, h3, (tx_ok (h z (List.mem_cons_of_mem _ hz))).2.2]; rfl
  rw [h1, h2, h4]; rfl
theorem strOk_shown {n : Nat} {t : List Nat} (h : IsT n t) (hn : n ≤ 60) : PyData.strOk (shownM t) = true := by
  unfold shownM
  split
  · decide +kernel
  · refine strOk_cat _ fun y hy => ?_
    obtain ⟨l, hl, rfl⟩ := List.mem_map.mp hy
    exact strOk_ring fun x hx => by have := (h.loops_ok hl).2 x hx; omega
theorem shaped_str {a : Str} (h : PyData.strOk a = true) : SeqAt.shaped (.str a) = true := by simp [SeqAt.shaped, PyData.canLay0, PyData.depth, h]
theorem eqv_str (a b : Str) : PyData.eqv (.str a) (.str b) = decide (a = b) := by
  simp only [PyData.eqv]
  rw [Bool.eq_iff_iff, beq_iff_eq, decide_eq_true_iff]
/-- what is written down as done behind the first places below i -/
def Done (t : List Nat) (i y : Nat) : Prop := ∃ f, f < i ∧ Fst t f ∧ on t f y ∧ y ≠ f
theorem done_seen {t : List Nat} {i : Nat} : Done t i i ↔ Seen t i i := by
  constructor
  · rintro ⟨f, a, b, c, _⟩; exact ⟨f, a, b, c⟩
  · rintro ⟨f, a, b, c⟩; exact ⟨f, a, b, c, by omega⟩
theorem done_succ {t : List Nat} {i y : Nat} : Done t (i + 1) y ↔ Done t i y ∨ (Fst t i ∧ on t i y ∧ y ≠ i) := by
  constructor
  · rintro ⟨f, a, b, c⟩
    by_cases e : f = i
    · subst e; exact .inr ⟨b, c⟩
    · exact .inl ⟨f, by omega, b, c⟩
  · rintro (⟨f, a, b, c⟩ | ⟨b, c⟩)
    · exact ⟨f, by omega, b, c⟩
    · exact ⟨i, by omega, b, c⟩
end
end Cl

set_option Elab.async false
set_option linter.all false
set_option maxRecDepth 100000
set_option maxHeartbeats 4000000
namespace Cl
open PySem PySem.Spec L2 Tb
/-! ### what makers bring together -/
section
variable {n : Nat} {ms : List (List Nat)}
inductive Rch (ms : List (List Nat)) : Nat → Nat → Prop
  | refl (x : Nat) : Rch ms x x
  | step {x y : Nat} (m : List Nat) (hm : m ∈ ms) : Rch ms x y → Rch ms x (m.getD y 0)
def AllT (n : Nat) (ms : List (List Nat)) : Prop := ∀ m ∈ ms, IsT n m
theorem Rch.trans {x y z : Nat} (a : Rch ms x y) (b : Rch ms y z) : Rch ms x z := by
  induction b with
  | refl => exact a
  | step m hm _ ih => exact .step m hm ih
theorem Rch.lt (h : AllT n ms) {x y : Nat} (hx : x < n) (a : Rch ms x y) : y < n := by
  induction a with
  | refl => exact hx
  | step m hm _ ih => exact (h m hm).getLt ih
theorem Rch.it {m : List Nat} (hm : m ∈ ms) (x : Nat) : ∀ k, Rch ms x (it m k x)
  | 0 => .refl x
  | k + 1 => .step m hm (Rch.it hm x k)
theorem Rch.symm (h : AllT n ms) {x y : Nat} (hx : x < n) (a : Rch ms x y) : Rch ms y x := by
  induction a with
  | refl => exact .refl _
  | @step y m hm a ih =>
    have hy := a.lt h hx
    have hp := (h m hm).per_pos hy
    have e : Cl.it m (per m y - 1) (m.getD y 0) = y := by
      rw [← it_succ', Nat.sub_add_cancel hp, (h m hm).per_home hy]
    have := Rch.it hm (m.getD y 0) (per m y - 1)
    rw [e] at this
    exact this.trans ih
open Classical in
noncomputable def cls (n : Nat) (ms : List (List Nat)) (x : Nat) : List Nat := (List.range n).filter fun y => decide (Rch ms x y)
theorem mem_cls {x y : Nat} : y ∈ cls n ms x ↔ y < n ∧ Rch ms x y := by
  unfold cls
  rw [List.mem_filter, List.mem_range]; simp
theorem cls_lt (x : Nat) : (cls n ms x).Pairwise (· < ·) := List.Pairwise.filter _ List.pairwise_lt_range
theorem cls_nodup (x : Nat) : (cls n ms x).Nodup := (cls_lt x).imp fun h => Nat.ne_of_lt h
theorem cls_len (x : Nat) : (cls n ms x).length ≤ n := by
  unfold cls
  have := List.length_filter_le (fun y => @decide (Rch ms x y) (Classical.propDecidable _)) (List.range n)
  rw [List.length_range] at this
  exact this
def Least (ms : List (List Nat)) (x : Nat) : Prop := ∀ y, Rch ms x y → x ≤ y
open Classical in
noncomputable def leasts (i : Nat) (ms : List (List Nat)) : List Nat := (List.range i).filter fun x => decide (Least ms x)
theorem leasts_succ (i : Nat) : (Least ms i → leasts (i + 1) ms = leasts i ms ++ [i]) ∧ (¬ Least ms i → leasts (i + 1) ms = leasts i ms) := by
  unfold leasts
  rw [List.range_succ, List.filter_append]
  constructor
  · intro h; simp [h]
  · intro h; simp [h]
theorem leasts_len (i : Nat) : (leasts i ms).length ≤ i := by
  unfold leasts
  have := List.length_filter_le (fun y => @decide (Least ms y) (Classical.propDecidable _)) (List.range i)
  rw [List.length_range] at this
  exact this
noncomputable def ringsM (n : Nat) (ms : List (List Nat)) : List (List Nat) := (leasts n ms).map (cls n ms)
/-- found in the rings of the least ones below i -/
def Hit (ms : List (List Nat)) (i y : Nat) : Prop := ∃ f, f < i ∧ Least ms f ∧ Rch ms f y
theorem hit_least (h : AllT n ms) {i : Nat} (hi : i < n) : Hit ms i i ↔ ¬ Least ms i := by
  constructor
  · rintro ⟨f, hf, _, r⟩ l
    have := l f (r.symm h (by omega))
    omega
  · intro l
    obtain ⟨f, hf, hm⟩ := exists_least (P := fun y => Rch ms i y) ⟨i, .refl i⟩
    have hfn := hf.lt h hi
    have lf : Least ms f := fun y hy => Nat.le_of_not_lt fun hl => hm y hl (hf.trans hy)
    refine ⟨f, ?_, lf, hf.symm h hi⟩
    have h1 : f ≤ i := Nat.le_of_not_lt fun hl => hm i hl (.refl i)
    rcases Nat.lt_or_ge f i with z | z
    · exact z
    · have : f = i := by omega
      subst this; exact absurd lf l
theorem hit_succ {i y : Nat} : Hit ms (i + 1) y ↔ Hit ms i y ∨ (Least ms i ∧ Rch ms i y) := by
  constructor
  · rintro ⟨f, hf, a, b⟩
    by_cases e : f = i
    · subst e; exact .inr ⟨a, b⟩
    · exact .inl ⟨f, by omega, a, b⟩
  · rintro (⟨f, hf, a, b⟩ | ⟨a, b⟩)
    · exact ⟨f, by omega, a, b⟩
    · exact ⟨i, by omega, a, b⟩
theorem asc_unique {a b : List Nat} (p : a.Perm b) (ha : a.Pairwise (· ≤ ·)) (hb : b.Pairwise (· ≤ ·)) : a = b :=
  List.Perm.eq_of_pairwise (fun a b _ _ h1 h2 => Nat.le_antisymm h1 h2) ha hb p
theorem asc_nat {ns : List Int} {l c : List Nat} (p : ns.Perm (l.map fun x : Nat => (x : Int))) (h : ns.Pairwise (· ≤ ·)) (pc : l.Perm c) (hc : c.Pairwise (· ≤ ·)) : ns = c.map fun x : Nat => (x : Int) := by
  refine List.Perm.eq_of_pairwise (fun a b _ _ h1 h2 => Int.le_antisymm h1 h2) h ?_ (p.trans (pc.map _))
  rw [List.pairwise_map]
  exact hc.imp fun h => by omega
/-- marks that stand for what has been brought together by pairs -/
inductive Cn (P : Nat → Nat → Prop) : Nat → Nat → Prop
  | refl (x : Nat) : Cn P x x
  | fwd {x a b : Nat} : Cn P x a → P a b → Cn P x b
  | bwd {x a b : Nat} : Cn P x b → P a b → Cn P x a
theorem Cn.trans {P : Nat → Nat → Prop} {x y z : Nat} (a : Cn P x y) (b : Cn P y z) : Cn P x z := by
  induction b with
  | refl => exact a
  | fwd _ p ih => exact .fwd ih p
  | bwd _ p ih => exact .bwd ih p
theorem Cn.symm {P : Nat → Nat → Prop} {x y : Nat} (a : Cn P x y) : Cn P y x := by
  induction a with
  | refl => exact .refl _
  | fwd _ p ih => exact (Cn.bwd (.refl _) p).trans ih
  | bwd _ p ih => exact (Cn.fwd (.refl _) p).trans ih
theorem Cn.mono {P Q : Nat → Nat → Prop} (h : ∀ a b, P a b → Q a b) {x y : Nat} (a : Cn P x y) : Cn Q x y := by
  induction a with
  | refl => exact .refl _
  | fwd _ p ih => exact .fwd ih (h _ _ p)
  | bwd _ p ih => exact .bwd ih (h _ _ p)
/-- the marks say what P brings together -/
def Mk (n : Nat) (P : Nat → Nat → Prop) (k : List Nat) : Prop := k.length = n ∧ (∀ a b, P a b → a < n ∧ b < n) ∧ ∀ x y, x < n → y < n → (k.getD x 0 = k.getD y 0 ↔ Cn P x y)
def remark (k : List Nat) (kept gone : Nat) : List Nat := k.map fun y => if y = gone then kept else y
theorem remark_at {k : List Nat} {x a b : Nat} (h : x < k.length) : (remark k a b).getD x 0 = if k.getD x 0 = b then a else k.getD x 0 := by
  unfold remark
  rw [List.getD_eq_getElem?_getD, List.getElem?_map, Cl.getD_some h]; rfl
theorem Mk.add {P : Nat → Nat → Prop} {k : List Nat} (h : Mk n P k) {x y : Nat} (hx : x < n) (hy : y < n) : Mk n (fun a b => P a b ∨ (a = x ∧ b = y)) (remark k (k.getD x 0) (k.getD y 0)) := by
  obtain ⟨h1, h2, h3⟩ := h
  have at' : ∀ u, u < n → (remark k (k.getD x 0) (k.getD y 0)).getD u 0 = if k.getD u 0 = k.getD y 0 then k.getD x 0 else k.getD u 0 := fun u hu => remark_at (by rw [h1]; exact hu)
  refine ⟨by unfold remark; rw [List.length_map, h1], fun a b q => ?_, fun u v hu hv => ?_⟩
  · rcases q with q | ⟨rfl, rfl⟩
    · exact h2 a b q
    · exact ⟨hx, hy⟩
  · have up : ∀ {p q : Nat}, p < n → q < n → k.getD p 0 = k.getD q 0 → Cn (fun a b => P a b ∨ (a = x ∧ b = y)) p q := fun hp hq e => ((h3 _ _ hp hq).mp e).mono fun a b z => .inl z
    have xy : Cn (fun a b => P a b ∨ (a = x ∧ b = y)) x y := .fwd (.refl x) (.inr ⟨rfl, rfl⟩)
    constructor
    · intro e
      rw [at' u hu, at' v hv] at e
      by_cases c1 : k.getD u 0 = k.getD y 0 <;> by_cases c2 : k.getD v 0 = k.getD y 0
      · exact up hu hv (c1.trans c2.symm)
      · rw [if_pos c1, if_neg c2] at e
        exact (up hu hy c1).trans (xy.symm.trans (up hx hv e))
      · rw [if_neg c1, if_pos c2] at e
        exact (up hu hx e).trans (xy.trans (up hy hv c2.symm))
      · rw [if_neg c1, if_neg c2] at e
        exact up hu hv e
    · intro c
      have key : ∀ a b, a < n → b < n → k.getD a 0 = k.getD b 0 → (remark k (k.getD x 0) (k.getD y 0)).getD a 0 = (remark k (k.getD x 0) (k.getD y 0)).getD b 0 := fun a b ha hb e => by rw [at' a ha, at' b hb, e]
      have one : ∀ a b, (P a b ∨ (a = x ∧ b = y)) → (remark k (k.getD x 0) (k.getD y 0)).getD a 0 = (remark k (k.getD x 0) (k.getD y 0)).getD b 0 := fun a b q => by
        rcases q with q | ⟨rfl, rfl⟩
        · obtain ⟨ha, hb⟩ := h2 a b q
          exact key a b ha hb ((h3 a b ha hb).mpr (.fwd (.refl a) q))
        · rw [at' _ hx, at' _ hy, if_pos rfl]
          split <;> rfl
      clear hv
      induction c with
      | refl => rfl
      | fwd _ p ih => exact ih.trans (one _ _ p)
      | bwd _ p ih => exact ih.trans (one _ _ p).symm
theorem remark_same (k : List Nat) (a : Nat) : remark k a a = k := by
  unfold remark
  rw [List.map_congr_left (g := id) fun y _ => by show (if y = a then a else y) = y; split <;> omega, List.map_id]
theorem Mk.range (n : Nat) : Mk n (fun _ _ => False) (List.range n) := by
  refine ⟨List.length_range, fun _ _ h => h.elim, fun x y hx hy => ?_⟩
  rw [range_getD hx, range_getD hy]
  constructor
  · rintro rfl; exact .refl _
  · intro c
    induction c with
    | refl => rfl
    | fwd _ p _ => exact p.elim
    | bwd _ p _ => exact p.elim
theorem Mk.congr {P Q : Nat → Nat → Prop} {k : List Nat} (h : Mk n P k) (e : ∀ a b, P a b ↔ Q a b) : Mk n Q k := by
  have : P = Q := by funext a b; exact propext (e a b)
  rw [← this]; exact h
theorem cn_rch (h : AllT n ms) {x y : Nat} (hx : x < n) : Cn (fun a b => ∃ m ∈ ms, a < n ∧ b = m.getD a 0) x y ↔ Rch ms x y := by
  constructor
  · intro c
    induction c with
    | refl => exact .refl _
    | fwd c p ih =>
      obtain ⟨m, hm, _, rfl⟩ := p
      exact .step m hm ih
    | bwd c p ih =>
      obtain ⟨m, hm, ha, rfl⟩ := p
      exact ih.trans (Rch.symm h ha (.step m hm (.refl _)))
  · intro r
    induction r with
    | refl => exact .refl _
    | step m hm r ih => exact .fwd ih ⟨m, hm, r.lt h hx, rfl⟩
theorem cls_head (h : AllT n ms) {i : Nat} (hi : i < n) : 0 < (cls n ms i).length ∧ ((cls n ms i).getD 0 0 = i ↔ Least ms i) := by
  have hm : i ∈ cls n ms i := mem_cls.mpr ⟨hi, .refl i⟩
  have hp := cls_lt (n := n) (ms := ms) i
  have mc : ∀ y, y ∈ cls n ms i ↔ y < n ∧ Rch ms i y := fun y => mem_cls
  cases e : cls n ms i with
  | nil => rw [e] at hm; cases hm
  | cons a r =>
    rw [e] at hm hp mc
    obtain ⟨h1, h2⟩ := List.pairwise_cons.mp hp
    refine ⟨by simp, ?_⟩
    show a = i ↔ _
    constructor
    · rintro rfl y hy
      rcases List.mem_cons.mp ((mc y).mpr ⟨hy.lt h hi, hy⟩) with z | z
      · omega
      · have := h1 y z; omega
    · intro l
      have := l a ((mc a).mp (List.mem_cons_self ..)).2
      rcases List.mem_cons.mp hm with z | z
      · exact z.symm
      · have := h1 i z; omega
/-- a comprehension's choice by a number -/
def sel (c : Nat → Bool) : D → Option D
  | .int z => if c z.toNat = true then some (.int z) else none
  | _ => none
theorem sel_int (c : Nat → Bool) (x : Nat) : sel c (.int (x : Int)) = if c x = true then some (.int (x : Int)) else none := by simp [sel]
theorem sel_map (c : Nat → Bool) : ∀ l : List Nat, (nl l).filterMap (sel c) = nl (l.filter c)
  | [] => rfl
  | x :: l => by
    show (PyData.int (x : Int) :: nl l).filterMap (sel c) = _
    rw [List.filterMap_cons, sel_int, sel_map c l, List.filter_cons]
    by_cases h : c x = true
    · rw [if_pos h, if_pos h]; rfl
    · rw [if_neg h, if_neg h]
end
end Cl

set_option Elab.async false
set_option linter.all false
set_option maxRecDepth 100000
set_option maxHeartbeats 4000000
namespace Cl
open PySem PySem.Spec L2 Tb
/-! ### rings as texts, read back -/
section
variable {n : Nat} {t : List Nat}
/-- a ring of t: two places or more, each led to the next -/
structure Ring (n : Nat) (t l : List Nat) : Prop where
  two : 2 ≤ l.length
  lt : ∀ x ∈ l, x < n
  go : ∀ j, j < l.length → t.getD (l.getD j 0) 0 = l.getD ((j + 1) % l.length) 0
structure Rings (n : Nat) (t : List Nat) (ls : List (List Nat)) : Prop where
  each : ∀ l ∈ ls, Ring n t l
  nd : ls.flatten.Nodup
  all : ∀ x, x < n → t.getD x 0 ≠ x → x ∈ ls.flatten
theorem Rings.perm {a b : List (List Nat)} (h : Rings n t a) (p : a.Perm b) : Rings n t b :=
  ⟨fun l hl => h.each l (p.mem_iff.mpr hl), (p.flatten.nodup_iff).mp h.nd, fun x hx e => (p.flatten.mem_iff).mp (h.all x hx e)⟩
theorem rot_at {l : List Nat} {a j : Nat} (ha : a ≤ l.length) (hj : j < l.length) : (l.drop a ++ l.take a).getD j 0 = l.getD ((j + a) % l.length) 0 := by
  rw [List.getD_eq_getElem?_getD, List.getD_eq_getElem?_getD]
  congr 1
  by_cases h : j < (l.drop a).length
  · rw [List.getElem?_append_left h, List.getElem?_drop]
    rw [List.length_drop] at h
    rw [Nat.mod_eq_of_lt (by omega), Nat.add_comm]
  · rw [List.getElem?_append_right (by omega)]
    rw [List.length_drop] at h ⊢
    rw [List.getElem?_take, if_pos (by omega)]
    have : (j + a) % l.length = j + a - l.length := by rw [Nat.mod_eq_sub_mod (by omega), Nat.mod_eq_of_lt (by omega)]
    rw [this]
    congr 1; omega
theorem rot_perm (l : List Nat) (a : Nat) : (l.drop a ++ l.take a).Perm l := by
  have := List.perm_append_comm (l₁ := l.drop a) (l₂ := l.take a)
  rw [List.take_append_drop] at this
  exact this
theorem Ring.rot {l : List Nat} (h : Ring n t l) {a : Nat} (ha : a < l.length) : Ring n t (l.drop a ++ l.take a) := by
  have p := rot_perm l a
  have hl := p.length_eq
  refine ⟨by rw [hl]; exact h.two, fun x hx => h.lt x (p.mem_iff.mp hx), fun j hj => ?_⟩
  rw [hl] at hj ⊢
  have h2 := h.two
  have hm : (j + a) % l.length < l.length := Nat.mod_lt _ (by omega)
  rw [rot_at (by omega) hj, rot_at (by omega) (Nat.mod_lt _ (by omega)), h.go _ hm]
  congr 1
  rw [Nat.mod_add_mod, Nat.mod_add_mod]
  congr 1; omega
theorem Rings.turn {a b : List (List Nat)} {l : List Nat} (h : Rings n t (a ++ l :: b)) {k : Nat} (hk : k < l.length) : Rings n t (a ++ (l.drop k ++ l.take k) :: b) := by
  have p : (a ++ (l.drop k ++ l.take k) :: b).flatten.Perm (a ++ l :: b).flatten := by
    rw [List.flatten_append, List.flatten_append, List.flatten_cons, List.flatten_cons]
    exact List.Perm.append_left _ (List.Perm.append_right _ (rot_perm l k))
  refine ⟨fun m hm => ?_, p.nodup_iff.mpr h.nd, fun x hx e => p.mem_iff.mpr (h.all x hx e)⟩
  rcases List.mem_append.mp hm with z | z
  · exact h.each m (List.mem_append_left _ z)
  · rcases List.mem_cons.mp z with z | z
    · subst z; exact (h.each l (by simp)).rot hk
    · exact h.each m (by simp [z])
theorem IsT.rings (h : IsT n t) : Rings n t (loopsM t) := by
  have hl : ∀ l ∈ loopsM t, ∃ f, f < n ∧ Fst t f ∧ l = cyc t f := fun l hl => by
    unfold loopsM at hl
    obtain ⟨f, hf, rfl⟩ := List.mem_map.mp hl
    rw [h.len] at hf
    obtain ⟨a, b⟩ := mem_firsts.mp hf
    exact ⟨f, a, b, rfl⟩
  refine ⟨fun l m => ?_, ?_, fun x hx e => ?_⟩
  · obtain ⟨f, hf, ff, rfl⟩ := hl l m
    have hp := h.per_pos hf
    have h2 : 2 ≤ Cl.per t f := by
      have : Cl.per t f ≠ 1 := fun z => ff.1 (by have := h.per_home hf; rw [z] at this; exact this)
      omega
    refine ⟨by rw [cyc_len]; exact h2, h.cyc_lt hf, fun j hj => ?_⟩
    rw [cyc_len] at hj ⊢
    rw [cyc_at hj, cyc_at (Nat.mod_lt _ hp)]
    show it t (j + 1) f = _
    exact h.it_mod hf (j + 1)
  · rw [List.nodup_iff_pairwise_ne, List.pairwise_flatten]
    constructor
    · intro l m
      obtain ⟨f, hf, ff, rfl⟩ := hl l m
      unfold cyc
      rw [List.pairwise_map]
      refine List.Pairwise.imp_of_mem (fun {i j} hi hj hij e => ?_) (List.pairwise_lt_range (n := Cl.per t f))
      have := h.per_inj hf (List.mem_range.mp hi) (List.mem_range.mp hj) e
      omega
    · unfold loopsM
      rw [h.len, List.pairwise_map]
      refine List.Pairwise.imp_of_mem (fun {f g} hf hg hne x hx y hy e => ?_) (List.nodup_iff_pairwise_ne.mp (firsts_nodup t n))
      obtain ⟨hfn, ef⟩ := mem_firsts.mp hf
      obtain ⟨hgn, eg⟩ := mem_firsts.mp hg
      subst e
      have h1 := h.rt_on hfn ((h.mem_cyc hfn).mp hx)
      have h2 := h.rt_on hgn ((h.mem_cyc hgn).mp hy)
      exact hne (by rw [← ef.rt, ← eg.rt, h1, h2])
  · rw [List.mem_flatten]
    have hr := h.rt_lt hx
    refine ⟨cyc t (rt t x), ?_, (h.mem_cyc hr).mpr (h.on_symm hx (rt_spec t x).1)⟩
    unfold loopsM
    rw [h.len]
    exact List.mem_map.mpr ⟨_, mem_firsts.mpr ⟨hr, h.fst_rt hx e⟩, rfl⟩
noncomputable def ringsS (ls : List (List Nat)) : Str := if ls = [] then Str.ofString "()" else catL (ls.map ringS)
theorem comma_all : ((List.range 60).all fun x => !(tx x).cps.toList.contains 44 && !(tx x).cps.toList.contains 41) = true := by decide +kernel
theorem comma_no {x : Nat} (h : x < 60) : 44 ∉ TL.tl (tx x) ∧ 41 ∉ TL.tl (tx x) := by
  have := List.all_eq_true.mp comma_all x (List.mem_range.mpr h)
  rw [Bool.and_eq_true, Bool.not_eq_true', Bool.not_eq_true'] at this
  constructor
  · intro z; have := this.1; rw [List.contains_iff_mem.mpr z] at this; cases this
  · intro z; have := this.2; rw [List.contains_iff_mem.mpr z] at this; cases this
theorem split_comma {l : List Nat} (h : ∀ x ∈ l, x < 60) (hne : l ≠ []) : Txt.split (Str.join (Str.ofString ",") (l.map tx)) (Str.ofString ",") = l.map tx := by
  rw [← TL.join_eq]
  refine TL.split_join (s := 44) (S := []) (by decide +kernel) (by decide +kernel) (fun e => hne (List.map_eq_nil_iff.mp e)) fun p hp => ?_
  obtain ⟨x, hx, rfl⟩ := List.mem_map.mp hp
  exact (comma_no (h x hx)).1
def jn (l : List Nat) : Str := Str.join (Str.ofString ",") (l.map tx)
theorem cls_shift : ∀ ls : List (List Nat), Str.ofString ")" ++ catL (ls.map ringS) = catL (ls.map fun m => Str.ofString ")(" ++ jn m) ++ Str.ofString ")"
  | [] => by
    show Str.ofString ")" ++ Str.empty = Str.empty ++ Str.ofString ")"
    rw [Str.append_empty, Str.empty_append]
  | m :: ls => by
    have e : Str.ofString ")(" = Str.ofString ")" ++ Str.ofString "(" := by decide +kernel
    have e' : Str.ofString ")(" ++ jn m = Str.ofString ")" ++ (Str.ofString "(" ++ jn m) := by rw [e, Str.append_assoc]
    show Str.ofString ")" ++ (ringS m ++ catL (ls.map ringS)) = Str.ofString ")(" ++ jn m ++ catL (ls.map fun m => Str.ofString ")(" ++ jn m) ++ Str.ofString ")"
    have ih := cls_shift ls
    have er : ringS m = Str.ofString "(" ++ jn m ++ Str.ofString ")" := rfl
    rw [er, e']
    simp only [Str.append_assoc]
    rw [← ih]
theorem rings_text (l : List Nat) (ls : List (List Nat)) : catL ((l :: ls).map ringS) = Str.ofString "(" ++ Str.join (Str.ofString ")(") ((l :: ls).map jn) ++ Str.ofString ")" := by
  rw [List.map_cons, List.map_cons, join_cat, List.map_map]
  show ringS l ++ catL (ls.map ringS) = Str.ofString "(" ++ (jn l ++ catL (ls.map fun m => Str.ofString ")(" ++ jn m)) ++ Str.ofString ")"
  have ih := cls_shift ls
  have er : ringS l = Str.ofString "(" ++ jn l ++ Str.ofString ")" := rfl
  rw [er]
  simp only [Str.append_assoc]
  rw [← ih]
theorem tl_app (a b : Str) : (a ++ b).cps.toList = a.cps.toList ++ b.cps.toList := by
  show (a.cps ++ b.cps).toList = _
  rw [Array.toList_append]
theorem tl_catL (c : Nat) : ∀ l : List Str, (∀ x ∈ l, c ∉ x.cps.toList) → c ∉ (catL l).cps.toList
  | [], _ => by show c ∉ ([] : List Nat); simp
  | x :: l, h => by
    show c ∉ (x ++ catL l).cps.toList
    rw [tl_app, List.mem_append]
    rintro (z | z)
    · exact h x (List.mem_cons_self ..) z
    · exact tl_catL c l (fun y hy => h y (List.mem_cons_of_mem _ hy)) z
theorem jn_no {l : List Nat} (h : ∀ x ∈ l, x < 60) : 41 ∉ TL.tl (jn l) := by
  unfold jn
  cases l with
  | nil => decide +kernel
  | cons x l =>
    rw [List.map_cons, join_cat, List.map_map]
    show 41 ∉ (tx x ++ catL _).cps.toList
    rw [tl_app, List.mem_append]
    rintro (z | z)
    · exact (comma_no (h x (List.mem_cons_self ..))).2 z
    · refine tl_catL 41 _ (fun y hy => ?_) z
      obtain ⟨w, hw, rfl⟩ := List.mem_map.mp hy
      show 41 ∉ (Str.ofString "," ++ tx w).cps.toList
      rw [tl_app, List.mem_append]
      rintro (q | q)
      · revert q; decide +kernel
      · exact (comma_no (h w (List.mem_cons_of_mem _ hw))).2 q
theorem split_rings {l : List Nat} {ls : List (List Nat)} (h : ∀ m ∈ l :: ls, ∀ x ∈ m, x < 60) : Txt.split (Str.join (Str.ofString ")(") ((l :: ls).map jn)) (Str.ofString ")(") = (l :: ls).map jn := by
  rw [← TL.join_eq]
  refine TL.split_join (s := 41) (S := [40]) (by decide +kernel) (by decide +kernel) (by simp) fun p hp => ?_
  obtain ⟨m, hm, rfl⟩ := List.mem_map.mp hp
  exact jn_no (h m hm)
theorem atI_first {α : Type} (a : α) (l : List α) : atI (a :: l) 0 = some a := by
  have := atI_cast (a :: l) 0
  rw [show ((0 : Nat) : Int) = 0 from rfl] at this
  rw [this]; rfl
theorem atI_end {α : Type} (l : List α) (a : α) : atI (l ++ [a]) (-1) = some a := by
  unfold atI ixN
  rw [if_neg (by decide), if_pos (by rw [List.length_append, List.length_singleton]; omega)]
  have e : ((-1 : Int) + ((l ++ [a]).length : Nat)).toNat = l.length := by rw [List.length_append, List.length_singleton]; omega
  show (l ++ [a])[_]? = some a
  rw [e]
  simp
theorem cut_inner (X : Str) : cutS (Str.ofString "(" ++ X ++ Str.ofString ")") (some 1) (some (-1)) = X := by
  apply Str.ext'
  apply Array.ext'
  have e1 : (Str.ofString "(").cps.toList = [40] := by decide +kernel
  have e2 : (Str.ofString ")").cps.toList = [41] := by decide +kernel
  have el : (Str.ofString "(" ++ X ++ Str.ofString ")").length = X.cps.toList.length + 2 := by
    show (Str.ofString "(" ++ X ++ Str.ofString ")").cps.size = _
    rw [← Array.length_toList, tl_app, tl_app, e1, e2]
    simp
  unfold cutS
  rw [el, tl_app, tl_app, e1, e2]
  have s1 : HT.sIx (X.cps.toList.length + 2) 0 (some 1) = 1 := by
    have := HT.sIx_nat (X.cps.toList.length + 2) 0 1
    rw [show ((1 : Nat) : Int) = 1 from rfl] at this
    rw [this]; omega
  have s2 : HT.sIx (X.cps.toList.length + 2) (X.cps.toList.length + 2) (some (-1)) = X.cps.toList.length + 1 := by
    simp only [HT.sIx]
    rw [if_pos (show (-1 : Int) < 0 by decide)]; omega
  rw [s1, s2]
  simp
theorem Rings.sub {i : Nat} {l : List Nat} {ls : List (List Nat)} (h : ls[i]? = some l) : ∃ r, ls.flatten = (ls.take i).flatten ++ (l ++ r) := by
  refine ⟨(ls.drop (i + 1)).flatten, ?_⟩
  have hi := (List.getElem?_eq_some_iff.mp h)
  have e : ls = ls.take i ++ l :: ls.drop (i + 1) := by
    have := List.take_append_drop i ls
    rw [List.drop_eq_getElem_cons hi.1, hi.2] at this
    exact this.symm
  have e2 := congrArg List.flatten e
  rw [List.flatten_append, List.flatten_cons] at e2
  exact e2
end
end Cl

set_option Elab.async false
set_option linter.all false
set_option maxRecDepth 100000
set_option maxHeartbeats 4000000
namespace Cl
open PySem PySem.Spec L2 Tb
/-! ### lines of a recipe -/
section
inductive Ln where
  | still
  | told (n : Nat)
  | behind (a b : Nat)
  | back (a : Nat)
  deriving DecidableEq
def enc : Ln → D
  | .still => .tuple [.str (Str.ofString "still")]
  | .told n => .tuple [.str (Str.ofString "told"), .int (n : Int)]
  | .behind a b => .tuple [.str (Str.ofString "behind"), .int (a : Int), .int (b : Int)]
  | .back a => .tuple [.str (Str.ofString "back"), .int (a : Int)]
def word : Ln → Str
  | .still => Str.ofString "still"
  | .told _ => Str.ofString "told"
  | .behind _ _ => Str.ofString "behind"
  | .back _ => Str.ofString "back"
/-- what stands behind the word -/
def nums : Ln → List Nat
  | .still => []
  | .told n => [n]
  | .behind a b => [a, b]
  | .back a => [a]
/-- the earlier lines that a line names -/
def named : Ln → List Nat
  | .behind a b => [a, b]
  | .back a => [a]
  | _ => []
theorem enc_eq (l : Ln) : enc l = .tuple (.str (word l) :: nl (nums l)) := by cases l <;> rfl
def lnl (ls : List Ln) : List D := ls.map enc
theorem lnl_len (ls : List Ln) : (lnl ls).length = ls.length := by simp [lnl]
theorem lnl_at {ls : List Ln} {i : Nat} {d : D} (h : (lnl ls)[i]? = some d) : ∃ l, ls[i]? = some l ∧ d = enc l := by
  unfold lnl at h
  rw [List.getElem?_map] at h
  cases e : ls[i]? with
  | none => rw [e] at h; cases h
  | some l => rw [e] at h; cases h; exact ⟨l, rfl, rfl⟩
theorem lnl_get {ls : List Ln} {i : Nat} {l : Ln} (h : ls[i]? = some l) : (lnl ls)[i]? = some (enc l) := by
  unfold lnl
  rw [List.getElem?_map, h]; rfl
theorem lnl_app (a b : List Ln) : lnl a ++ lnl b = lnl (a ++ b) := by simp [lnl]
/-- each line names earlier lines, and makers that are there -/
def Wf (count : Nat) (ls : List Ln) : Prop := ∀ i l, ls[i]? = some l → (∀ a ∈ named l, a < i) ∧ ∀ n, l = .told n → n < count
theorem Wf.snoc {count : Nat} {ls : List Ln} {l : Ln} (h : Wf count ls) (h1 : ∀ a ∈ named l, a < ls.length) (h2 : ∀ n, l = .told n → n < count) : Wf count (ls ++ [l]) := by
  intro i m e
  by_cases hi : i < ls.length
  · rw [List.getElem?_append_left hi] at e; exact h i m e
  · rw [List.getElem?_append_right (by omega)] at e
    by_cases h0 : i - ls.length = 0
    · rw [h0] at e
      cases e
      refine ⟨fun a ha => ?_, h2⟩
      have := h1 a ha; omega
    · rw [List.getElem?_eq_none (by simp; omega)] at e; cases e
theorem shaped_wd (l : Ln) : SeqAt.shaped (.str (word l)) = true := by cases l <;> simp [SeqAt.shaped, PyData.canLay0, PyData.depth, word] <;> decide +kernel
theorem eqv_strs (a b : Str) : PyData.eqv (.str a) (.str b) = decide (a = b) := by
  simp only [PyData.eqv]
  rw [Bool.eq_iff_iff, beq_iff_eq, decide_eq_true_iff]
theorem wd_behind (l : Ln) : decide (word l = Str.ofString "behind") = (match l with | .behind _ _ => true | _ => false) := by
  cases l
  · exact (by decide +kernel : decide (Str.ofString "still" = Str.ofString "behind") = false)
  · exact (by decide +kernel : decide (Str.ofString "told" = Str.ofString "behind") = false)
  · exact (by decide +kernel : decide (Str.ofString "behind" = Str.ofString "behind") = true)
  · exact (by decide +kernel : decide (Str.ofString "back" = Str.ofString "behind") = false)
theorem wd_back (l : Ln) : decide (word l = Str.ofString "back") = (match l with | .back _ => true | _ => false) := by
  cases l
  · exact (by decide +kernel : decide (Str.ofString "still" = Str.ofString "back") = false)
  · exact (by decide +kernel : decide (Str.ofString "told" = Str.ofString "back") = false)
  · exact (by decide +kernel : decide (Str.ofString "behind" = Str.ofString "back") = false)
  · exact (by decide +kernel : decide (Str.ofString "back" = Str.ofString "back") = true)
theorem wd_told (l : Ln) : decide (word l = Str.ofString "told") = (match l with | .told _ => true | _ => false) := by
  cases l
  · exact (by decide +kernel : decide (Str.ofString "still" = Str.ofString "told") = false)
  · exact (by decide +kernel : decide (Str.ofString "told" = Str.ofString "told") = true)
  · exact (by decide +kernel : decide (Str.ofString "behind" = Str.ofString "told") = false)
  · exact (by decide +kernel : decide (Str.ofString "back" = Str.ofString "told") = false)
theorem wd_still (l : Ln) : decide (word l = Str.ofString "still") = (match l with | .still => true | _ => false) := by
  cases l
  · exact (by decide +kernel : decide (Str.ofString "still" = Str.ofString "still") = true)
  · exact (by decide +kernel : decide (Str.ofString "told" = Str.ofString "still") = false)
  · exact (by decide +kernel : decide (Str.ofString "behind" = Str.ofString "still") = false)
  · exact (by decide +kernel : decide (Str.ofString "back" = Str.ofString "still") = false)
/-- what the lines make -/
def evl (ms : List (List Nat)) (many : Nat) (made : List (List Nat)) : Ln → List Nat
  | .still => List.range many
  | .told n => ms.getD n []
  | .behind a b => bh (made.getD a []) (made.getD b [])
  | .back a => bk (made.getD a [])
def mades (ms : List (List Nat)) (many : Nat) : List Ln → List (List Nat)
  | ls => ls.foldl (fun made l => made ++ [evl ms many made l]) []
theorem mades_snoc (ms : List (List Nat)) (many : Nat) (ls : List Ln) (l : Ln) : mades ms many (ls ++ [l]) = mades ms many ls ++ [evl ms many (mades ms many ls) l] := by
  unfold mades; rw [List.foldl_append]; rfl
theorem mades_len (ms : List (List Nat)) (many : Nat) (ls : List Ln) : (mades ms many ls).length = ls.length := by
  have key : ∀ (ls : List Ln) (m0 : List (List Nat)), (ls.foldl (fun made l => made ++ [evl ms many made l]) m0).length = m0.length + ls.length := fun ls => by
    induction ls with
    | nil => intro m0; rfl
    | cons l ls ih => intro m0; rw [List.foldl_cons, ih]; simp only [List.length_append, List.length_cons, List.length_nil]; omega
  have := key ls []
  unfold mades
  rw [this]; simp
theorem cut_tail {α : Type} (x : α) (l : List α) : cut (x :: l) (some 1) none = l ∧ ¬ (HT.sIx (l.length + 1) 0 (some 1) = 0 ∧ HT.sIx (l.length + 1) (l.length + 1) none = l.length + 1) := by
  have s1 : HT.sIx (l.length + 1) 0 (some 1) = 1 := by
    have := HT.sIx_nat (l.length + 1) 0 1
    rw [show ((1 : Nat) : Int) = 1 from rfl] at this
    rw [this]; omega
  refine ⟨?_, fun h => by rw [s1] at h; exact absurd h.1 (by decide)⟩
  unfold cut
  rw [List.length_cons, s1, HT.sIx_none]
  simp
/-- the line that a cell makes -/
def lineN (c : Int) : Nat := (c % 10 ^ Int.toNat 60 * 48271 % 2147483647).toNat
def lineM (c : Int) (at' count : Nat) : Ln :=
  if 0 < count ∧ (lineN c % 7 < 2 ∨ (at' = 0 ∧ lineN c % 7 < 6)) then .told (lineN c / 7 % count)
  else if 0 < at' ∧ 1 < lineN c % 7 ∧ lineN c % 7 < 5 then .behind (lineN c / 7 % at') (lineN c / 7 / at' % at')
  else if 0 < at' ∧ lineN c % 7 = 5 then .back (lineN c / 7 % at')
  else .still
theorem lineM_ok (c : Int) (a count : Nat) : (∀ x ∈ named (lineM c a count), x < a) ∧ ∀ n, lineM c a count = .told n → n < count := by
  unfold lineM
  split
  · rename_i h
    exact ⟨fun x hx => by simp [named] at hx, fun n e => by cases e; exact Nat.mod_lt _ h.1⟩
  · split
    · rename_i h
      refine ⟨fun x hx => ?_, fun n e => by cases e⟩
      simp only [named, List.mem_cons, List.not_mem_nil, or_false] at hx
      rcases hx with rfl | rfl <;> exact Nat.mod_lt _ h.1
    · split
      · rename_i h
        refine ⟨fun x hx => ?_, fun n e => by cases e⟩
        simp only [named, List.mem_cons, List.not_mem_nil, or_false] at hx
        subst hx; exact Nat.mod_lt _ h.1
      · exact ⟨fun x hx => by simp [named] at hx, fun n e => by cases e⟩
theorem strOk_word (l : Ln) : PyData.strOk (word l) = true := by
  cases l
  · exact (by decide +kernel : PyData.strOk (Str.ofString "still") = true)
  · exact (by decide +kernel : PyData.strOk (Str.ofString "told") = true)
  · exact (by decide +kernel : PyData.strOk (Str.ofString "behind") = true)
  · exact (by decide +kernel : PyData.strOk (Str.ofString "back") = true)
theorem canLay_enc (l : Ln) : PyData.canLay0 (enc l) = true := by
  rw [enc_eq]
  simp [PyData.canLay0, PyData.canLayAll0, canLay_nl, strOk_word]
theorem depth_enc (l : Ln) : PyData.depth (enc l) ≤ 2 := by
  rw [enc_eq]
  have := depth_nl (nums l)
  simp only [PyData.depth, PyData.depthAll]; omega
theorem canLay_lnl : ∀ ls : List Ln, PyData.canLayAll0 (lnl ls) = true
  | [] => by simp [lnl, PyData.canLayAll0]
  | l :: ls => by
    have h1 := canLay_lnl ls
    have h2 := canLay_enc l
    show PyData.canLayAll0 (enc l :: lnl ls) = true
    simp [PyData.canLayAll0, h1, h2]
theorem depth_lnl : ∀ ls : List Ln, PyData.depthAll (lnl ls) ≤ 2
  | [] => by simp [lnl, PyData.depthAll]
  | l :: ls => by
    have h1 := depth_lnl ls
    have h2 := depth_enc l
    show PyData.depthAll (enc l :: lnl ls) ≤ 2
    simp only [PyData.depthAll]; omega
theorem shaped_lnl (ls : List Ln) : SeqAt.shaped (.list (lnl ls)) = true := by
  have h := depth_lnl ls
  unfold SeqAt.shaped
  rw [Bool.and_eq_true]
  refine ⟨by simp only [PyData.canLay0]; exact canLay_lnl ls, decide_eq_true ?_⟩
  simp only [PyData.depth]; omega
theorem eqv_enc (a b : Ln) : PyData.eqv (enc a) (enc b) = decide (a = b) := by
  rw [enc_eq, enc_eq]
  simp only [PyData.eqv, PyData.eqvAll, eqvAll_nl]
  have hw : ∀ x y : Ln, (word x = word y ∧ nums x = nums y) → x = y := fun x y h => by
    have d : ∀ w, decide (word x = w) = decide (word y = w) := fun w => by rw [h.1]
    have d1 := d (Str.ofString "behind")
    have d2 := d (Str.ofString "back")
    have d3 := d (Str.ofString "told")
    rw [wd_behind, wd_behind] at d1
    rw [wd_back, wd_back] at d2
    rw [wd_told, wd_told] at d3
    cases x <;> cases y <;> first | rfl | (simp at d1; done) | (simp at d2; done) | (simp at d3; done) | (have := h.2; simp [nums] at this; simp [this])
  rw [Bool.eq_iff_iff, Bool.and_eq_true, beq_iff_eq, decide_eq_true_iff, decide_eq_true_iff]
  exact ⟨hw a b, fun e => by rw [e]; exact ⟨rfl, rfl⟩⟩
theorem eqvAll_lnl : ∀ a b : List Ln, PyData.eqvAll (lnl a) (lnl b) = decide (a = b)
  | [], [] => by simp [lnl, PyData.eqvAll]
  | [], y :: b => by simp [lnl, PyData.eqvAll]
  | x :: a, [] => by simp [lnl, PyData.eqvAll]
  | x :: a, y :: b => by
    show PyData.eqvAll (enc x :: lnl a) (enc y :: lnl b) = _
    simp only [PyData.eqvAll, eqv_enc, eqvAll_lnl a b]
    rw [Bool.eq_iff_iff, Bool.and_eq_true, decide_eq_true_iff, decide_eq_true_iff, decide_eq_true_iff, List.cons.injEq]
theorem eqv_lnl (a b : List Ln) : PyData.eqv (.list (lnl a)) (.list (lnl b)) = decide (a = b) := by simp only [PyData.eqv]; exact eqvAll_lnl a b
theorem lnl_nil : lnl [] = [] := rfl
theorem mades_ok {many : Nat} {ms : List (List Nat)} (hm : ∀ m ∈ ms, IsT many m) : ∀ (ls : List Ln), Wf ms.length ls → ∀ i, i < ls.length → IsT many ((mades ms many ls).getD i []) := by
  have key : ∀ (ls : List Ln) (k : Nat), k ≤ ls.length → Wf ms.length ls → ∀ i, i < k → IsT many ((mades ms many (ls.take k)).getD i []) := fun ls k => by
    induction k with
    | zero => intro _ _ i hi; omega
    | succ k ih =>
      intro hk hw i hi
      obtain ⟨l, hl⟩ : ∃ l, ls[k]? = some l := ⟨_, List.getElem?_eq_getElem (by omega)⟩
      have e : ls.take (k + 1) = ls.take k ++ [l] := by rw [List.take_add_one, hl]; rfl
      have ih' := ih (by omega) hw
      have hlen : (mades ms many (ls.take k)).length = k := by rw [mades_len, List.length_take]; omega
      rw [e, mades_snoc]
      by_cases hik : i < k
      · rw [List.getD_eq_getElem?_getD, List.getElem?_append_left (by omega), ← List.getD_eq_getElem?_getD]
        exact ih' i hik
      · have : i = k := by omega
        subst this
        rw [List.getD_eq_getElem?_getD, List.getElem?_append_right (by omega), hlen, Nat.sub_self]
        show IsT many (evl ms many (mades ms many (ls.take i)) l)
        obtain ⟨w1, w2⟩ := hw i l hl
        cases l with
        | still => exact .range many
        | told n =>
          have hn := w2 n rfl
          refine hm _ ?_
          show ms.getD n [] ∈ ms
          rw [List.getD_eq_getElem?_getD, List.getElem?_eq_getElem hn]
          exact List.getElem_mem hn
        | behind a b => exact (ih' a (w1 a (by simp [named]))).bh (ih' b (w1 b (by simp [named])))
        | back a => exact (ih' a (w1 a (by simp [named]))).bk
  intro ls hw i hi
  have := key ls ls.length (Nat.le_refl _) hw i hi
  rw [List.take_length] at this
  exact this
end
end Cl

set_option Elab.async false
set_option linter.all false
set_option maxRecDepth 100000
set_option maxHeartbeats 4000000
namespace Cl
open PySem PySem.Spec L2 Tb
/-! ### what the last line needs; trimmed recipes -/
section
/-- what the last line needs -/
inductive Need (ls : List Ln) : Nat → Prop
  | last : Need ls (ls.length - 1)
  | step {j k : Nat} {l : Ln} : Need ls j → ls[j]? = some l → k ∈ named l → Need ls k
open Classical in
noncomputable def keptL (ls : List Ln) (i : Nat) : List Nat := (List.range i).filter fun j => decide (Need ls j)
noncomputable def nxM (ls : List Ln) (j : Nat) : Nat := (keptL ls j).length
def rn (f : Nat → Nat) : Ln → Ln
  | .behind a b => .behind (f a) (f b)
  | .back a => .back (f a)
  | l => l
noncomputable def fewP (ls : List Ln) (i : Nat) : List Ln := (keptL ls i).map fun j => rn (nxM ls) (ls.getD j .still)
noncomputable def fewM (ls : List Ln) : List Ln := fewP ls ls.length
theorem kept_succ (ls : List Ln) (i : Nat) : (Need ls i → keptL ls (i + 1) = keptL ls i ++ [i]) ∧ (¬ Need ls i → keptL ls (i + 1) = keptL ls i) := by
  unfold keptL
  rw [List.range_succ, List.filter_append]
  exact ⟨fun h => by simp [h], fun h => by simp [h]⟩
theorem kept_len (ls : List Ln) (i : Nat) : (keptL ls i).length ≤ i := by
  unfold keptL
  have := List.length_filter_le (fun j => @decide (Need ls j) (Classical.propDecidable _)) (List.range i)
  rw [List.length_range] at this
  exact this
theorem need_up {c : Nat} {ls : List Ln} (hw : Wf c ls) (hne : ls ≠ []) {k : Nat} (h : Need ls k) : k < ls.length ∧ (k = ls.length - 1 ∨ ∃ j l, k < j ∧ Need ls j ∧ ls[j]? = some l ∧ k ∈ named l) := by
  have hpos : 0 < ls.length := List.length_pos_iff.mpr hne
  induction h with
  | last => exact ⟨by omega, .inl rfl⟩
  | @step j k l hj hl hk ih =>
    have := (hw j l hl).1 k hk
    exact ⟨by omega, .inr ⟨j, l, this, hj, hl, hk⟩⟩
theorem atI_hd {α : Type} (a : α) (l : List α) : atI (a :: l) 0 = some a := by
  have := atI_cast (a :: l) 0
  rw [show ((0 : Nat) : Int) = 0 from rfl] at this
  rw [this]; rfl
theorem atI_end2 {α : Type} (l : List α) (a : α) : atI (l ++ [a]) (-1) = some a := by
  unfold atI ixN
  rw [if_neg (by decide), if_pos (by rw [List.length_append, List.length_singleton]; omega)]
  have e : ((-1 : Int) + ((l ++ [a]).length : Nat)).toNat = l.length := by rw [List.length_append, List.length_singleton]; omega
  show (l ++ [a])[_]? = some a
  rw [e]
  simp
/-- what a line needs, itself too -/
inductive Up (ls : List Ln) (j : Nat) : Nat → Prop
  | refl : Up ls j j
  | step {i k : Nat} {l : Ln} : Up ls j i → ls[i]? = some l → k ∈ named l → Up ls j k
theorem Up.trans {ls : List Ln} {i j k : Nat} (a : Up ls i j) (b : Up ls j k) : Up ls i k := by
  induction b with
  | refl => exact a
  | step _ h1 h2 ih => exact .step ih h1 h2
theorem up_iff {ls : List Ln} {i x : Nat} {l : Ln} (hl : ls[i]? = some l) : Up ls i x ↔ x = i ∨ ∃ a ∈ named l, Up ls a x := by
  constructor
  · intro h
    induction h with
    | refl => exact .inl rfl
    | @step j k m hj hm hk ih =>
      rcases ih with e | ⟨a, ha, h⟩
      · subst e
        rw [hl] at hm
        cases hm
        exact .inr ⟨k, hk, .refl⟩
      · exact .inr ⟨a, ha, .step h hm hk⟩
  · rintro (e | ⟨a, ha, h⟩)
    · subst e; exact .refl
    · exact (Up.step .refl hl ha).trans h
theorem need_iff {ls : List Ln} {x : Nat} : Need ls x ↔ Up ls (ls.length - 1) x := by
  constructor
  · intro h
    induction h with
    | last => exact .refl
    | step _ h1 h2 ih => exact .step ih h1 h2
  · intro h
    induction h with
    | refl => exact .last
    | step _ h1 h2 ih => exact .step ih h1 h2
theorem bitNot2 (z : Int) : Builtin.bitNot (Builtin.bitNot z) = z := by unfold Builtin.bitNot; omega
theorem bitOr_nat (a b : Nat) : Builtin.bitOr (a : Int) (b : Int) = ((a ||| b : Nat) : Int) := by
  have hn : ∀ a : Nat, decide (0 ≤ Builtin.bitNot (a : Int)) = false := fun a => decide_eq_false (by unfold Builtin.bitNot; omega)
  unfold Builtin.bitOr Builtin.bitAnd
  rw [hn a, hn b]
  show Builtin.bitNot (Builtin.bitNot _) = _
  rw [bitNot2, bitNot2, bitNot2, Int.toNat_natCast, Int.toNat_natCast]
theorem bitAnd_nat (a b : Nat) : Builtin.bitAnd (a : Int) (b : Int) = ((a &&& b : Nat) : Int) := by
  unfold Builtin.bitAnd
  rw [decide_eq_true (Int.natCast_nonneg a), decide_eq_true (Int.natCast_nonneg b)]
  show ((((a : Int).toNat &&& (b : Int).toNat : Nat)) : Int) = _
  rw [Int.toNat_natCast, Int.toNat_natCast]
theorem cut_len {α : Type} (l : List α) (a b : Option Int) : (cut l a b).length ≤ l.length := by
  unfold cut
  rw [List.length_take, List.length_drop]; omega
theorem ints_cut (ns : List Int) (a b : Option Int) : cut (ns.map PyData.int) a b = (cut ns a b).map PyData.int := by
  unfold cut
  simp only [List.length_map]
  rw [List.map_take, List.map_drop]
theorem kept_at {ls : List Ln} {j : Nat} (h : Need ls j) : ∀ i, j < i → (keptL ls i)[nxM ls j]? = some j
  | 0, hi => absurd hi (Nat.not_lt_zero _)
  | i + 1, hi => by
    by_cases e : j = i
    · subst e
      rw [(kept_succ ls j).1 h]
      unfold nxM
      rw [List.getElem?_append_right (Nat.le_refl _), Nat.sub_self]; rfl
    · have ih := kept_at h i (by omega)
      by_cases hn : Need ls i
      · rw [(kept_succ ls i).1 hn, List.getElem?_append_left (List.getElem?_eq_some_iff.mp ih).1]; exact ih
      · rw [(kept_succ ls i).2 hn]; exact ih
theorem nx_lt {ls : List Ln} {j i : Nat} (h : Need ls j) (hi : j < i) : nxM ls j < nxM ls i := (List.getElem?_eq_some_iff.mp (kept_at h i hi)).1
theorem named_rn (f : Nat → Nat) (l : Ln) : named (rn f l) = (named l).map f := by cases l <;> rfl
theorem fewP_len (ls : List Ln) (i : Nat) : (fewP ls i).length = nxM ls i := by unfold fewP nxM; rw [List.length_map]
theorem fewP_succ {ls : List Ln} {i : Nat} {l : Ln} (hl : ls[i]? = some l) (hn : Need ls i) : fewP ls (i + 1) = fewP ls i ++ [rn (nxM ls) l] := by
  unfold fewP
  rw [(kept_succ ls i).1 hn, List.map_append]
  have eg : ls.getD i .still = l := by rw [List.getD_eq_getElem?_getD, hl]; rfl
  show _ = _
  rw [List.map_cons, eg]; rfl
theorem fewP_wf {c : Nat} {ls : List Ln} (hw : Wf c ls) : ∀ i, i ≤ ls.length → Wf c (fewP ls i)
  | 0, _ => fun i l e => by simp [fewP, keptL] at e
  | i + 1, hi => by
    have ih := fewP_wf hw i (by omega)
    obtain ⟨l, hl⟩ : ∃ l, ls[i]? = some l := ⟨_, List.getElem?_eq_getElem (by omega)⟩
    by_cases hn : Need ls i
    · rw [fewP_succ hl hn]
      refine ih.snoc (fun a ha => ?_) fun n e => ?_
      · rw [named_rn] at ha
        obtain ⟨b, hb, rfl⟩ := List.mem_map.mp ha
        rw [fewP_len]
        exact nx_lt (.step hn hl hb) ((hw i l hl).1 b hb)
      · cases l with
        | told m => exact (hw i _ hl).2 n (by simpa [rn] using e)
        | _ => simp [rn] at e
    · unfold fewP at ih ⊢
      rw [(kept_succ ls i).2 hn]; exact ih
theorem mades_at {ms : List (List Nat)} {many : Nat} {ls : List Ln} {i : Nat} {l : Ln} (hl : ls[i]? = some l) : (mades ms many (ls.take (i + 1))) = mades ms many (ls.take i) ++ [evl ms many (mades ms many (ls.take i)) l] := by
  rw [List.take_add_one, hl]; exact mades_snoc _ _ _ _
theorem mades_pre (ms : List (List Nat)) (many : Nat) (ls : List Ln) {a : Nat} : ∀ i, a < i → i ≤ ls.length → (mades ms many (ls.take i)).getD a [] = (mades ms many (ls.take (a + 1))).getD a []
  | 0, h, _ => absurd h (Nat.not_lt_zero _)
  | i + 1, h, hi => by
    by_cases e : a = i
    · subst e; rfl
    · obtain ⟨l, hl⟩ : ∃ l, ls[i]? = some l := ⟨_, List.getElem?_eq_getElem (by omega)⟩
      have hlen : (mades ms many (ls.take i)).length = i := by rw [mades_len, List.length_take]; omega
      rw [mades_at hl, List.getD_eq_getElem?_getD, List.getElem?_append_left (by omega), ← List.getD_eq_getElem?_getD]
      exact mades_pre ms many ls i (by omega) (by omega)
theorem few_mades {c many : Nat} {ls : List Ln} {ms : List (List Nat)} (hw : Wf c ls) : ∀ i, i ≤ ls.length → mades ms many (fewP ls i) = (keptL ls i).map fun j => (mades ms many (ls.take (j + 1))).getD j []
  | 0, _ => rfl
  | i + 1, hi => by
    have ih := few_mades (many := many) (ms := ms) hw i (by omega)
    obtain ⟨l, hl⟩ : ∃ l, ls[i]? = some l := ⟨_, List.getElem?_eq_getElem (by omega)⟩
    by_cases hn : Need ls i
    · rw [fewP_succ hl hn, mades_snoc, (kept_succ ls i).1 hn, List.map_append, ih]
      congr 1
      have hlen : (mades ms many (ls.take i)).length = i := by rw [mades_len, List.length_take]; omega
      have e0 : (mades ms many (ls.take (i + 1))).getD i [] = evl ms many (mades ms many (ls.take i)) l := by
        rw [mades_at hl, List.getD_eq_getElem?_getD, List.getElem?_append_right (by omega), hlen, Nat.sub_self]; rfl
      have key : ∀ a ∈ named l, ((keptL ls i).map fun j => (mades ms many (ls.take (j + 1))).getD j []).getD (nxM ls a) [] = (mades ms many (ls.take i)).getD a [] := fun a ha => by
        have hai := (hw i l hl).1 a ha
        rw [List.getD_eq_getElem?_getD, List.getElem?_map, kept_at (.step hn hl ha) i hai]
        exact (mades_pre ms many ls i hai (by omega)).symm
      show [_] = [(mades ms many (ls.take (i + 1))).getD i []]
      rw [e0]
      congr 1
      cases l with
      | still => rfl
      | told n => rfl
      | behind a b =>
        show bh _ _ = bh _ _
        rw [key a (by simp [named]), key b (by simp [named])]
      | back a =>
        show bk _ = bk _
        rw [key a (by simp [named])]
    · have : fewP ls (i + 1) = fewP ls i := by unfold fewP; rw [(kept_succ ls i).2 hn]
      rw [this, (kept_succ ls i).2 hn, ih]
theorem few_len (ls : List Ln) : (fewM ls).length = nxM ls ls.length := fewP_len _ _
theorem few_at {ls : List Ln} {j : Nat} {l : Ln} (h : Need ls j) (hj : j < ls.length) (hl : ls[j]? = some l) : (fewM ls)[nxM ls j]? = some (rn (nxM ls) l) := by
  unfold fewM fewP
  rw [List.getElem?_map, kept_at h _ hj]
  have eg : ls.getD j .still = l := by rw [List.getD_eq_getElem?_getD, hl]; rfl
  show some (rn (nxM ls) (ls.getD j .still)) = _
  rw [eg]
theorem nx_last {c : Nat} {ls : List Ln} (hne : ls ≠ []) : nxM ls ls.length = nxM ls (ls.length - 1) + 1 := by
  have hpos : 0 < ls.length := List.length_pos_iff.mpr hne
  have := (kept_succ ls (ls.length - 1)).1 .last
  rw [show ls.length - 1 + 1 = ls.length by omega] at this
  unfold nxM
  rw [this, List.length_append]; rfl
theorem few_need {c : Nat} {ls : List Ln} (hw : Wf c ls) (hne : ls ≠ []) {j : Nat} (h : Need ls j) : Need (fewM ls) (nxM ls j) := by
  induction h with
  | last =>
    have e : nxM ls (ls.length - 1) = (fewM ls).length - 1 := by rw [few_len, nx_last (c := c) hne]; omega
    rw [e]; exact .last
  | @step j k l hj hl hk ih =>
    exact .step ih (few_at hj (List.getElem?_eq_some_iff.mp hl).1 hl) (by rw [named_rn]; exact List.mem_map.mpr ⟨k, hk, rfl⟩)
theorem few_all {c : Nat} {ls : List Ln} (hw : Wf c ls) (hne : ls ≠ []) {k : Nat} (hk : k < (fewM ls).length) : Need (fewM ls) k := by
  rw [few_len] at hk
  have hk' : k < (keptL ls ls.length).length := hk
  have hm : (keptL ls ls.length)[k] ∈ keptL ls ls.length := List.getElem_mem hk'
  have hm2 : (keptL ls ls.length)[k] < ls.length ∧ Need ls (keptL ls ls.length)[k] := by
    generalize (keptL ls ls.length)[k] = j at hm
    unfold keptL at hm
    rw [List.mem_filter, List.mem_range] at hm
    exact ⟨hm.1, by simpa using hm.2⟩
  have h1 := kept_at hm2.2 _ hm2.1
  have nd : (keptL ls ls.length).Nodup := List.Pairwise.filter _ List.nodup_range
  have e : nxM ls (keptL ls ls.length)[k] = k := by
    refine nodup_getD nd (List.getElem?_eq_some_iff.mp h1).1 hk' ?_
    rw [List.getD_eq_getElem?_getD, h1, List.getD_eq_getElem?_getD, List.getElem?_eq_getElem hk']
  have := few_need hw hne hm2.2
  rw [e] at this
  exact this
theorem kept_whole {F : List Ln} (h : ∀ k, k < F.length → Need F k) {i : Nat} (hi : i ≤ F.length) : keptL F i = List.range i := by
  unfold keptL
  rw [List.filter_eq_self]
  intro k hk
  have := List.mem_range.mp hk
  simpa using h k (by omega)
theorem few_idem {c : Nat} {ls : List Ln} (hw : Wf c ls) (hne : ls ≠ []) : fewM (fewM ls) = fewM ls := by
  have hF := fewP_wf hw ls.length (Nat.le_refl _)
  have h := fun k => few_all hw hne (k := k)
  change Wf c (fewM ls) at hF
  generalize fewM ls = F at h hF
  have nx : ∀ a, a ≤ F.length → nxM F a = a := fun a ha => by unfold nxM; rw [kept_whole h ha, List.length_range]
  apply List.ext_getElem?
  intro k
  unfold fewM fewP
  rw [kept_whole h (Nat.le_refl _), List.getElem?_map]
  by_cases hk : k < F.length
  · rw [List.getElem?_range hk, List.getElem?_eq_getElem hk]
    show some (rn (nxM F) (F.getD k .still)) = _
    have eg : F.getD k .still = F[k] := by rw [List.getD_eq_getElem?_getD, List.getElem?_eq_getElem hk]; rfl
    rw [eg]
    have hn := (hF k F[k] (List.getElem?_eq_getElem hk)).1
    congr 1
    generalize F[k] = l at hn
    cases l with
    | still => rfl
    | told n => rfl
    | behind a b =>
      show Ln.behind _ _ = _
      rw [nx a (by have := hn a (by simp [named]); omega), nx b (by have := hn b (by simp [named]); omega)]
    | back a =>
      show Ln.back _ = _
      rw [nx a (by have := hn a (by simp [named]); omega)]
  · rw [List.getElem?_eq_none (by rw [List.length_range]; omega), List.getElem?_eq_none (by omega)]; rfl
theorem few_ne {c : Nat} {ls : List Ln} (hne : ls ≠ []) : fewM ls ≠ [] := fun e => by
  have := few_len ls
  rw [e, nx_last (c := c) hne] at this
  simp at this
theorem mades_last {c many : Nat} {ls : List Ln} {ms : List (List Nat)} (hw : Wf c ls) (hne : ls ≠ []) : (mades ms many (fewM ls)).getD ((fewM ls).length - 1) [] = (mades ms many ls).getD (ls.length - 1) [] := by
  have hpos : 0 < ls.length := List.length_pos_iff.mpr hne
  have h1 := few_mades (many := many) (ms := ms) hw ls.length (Nat.le_refl _)
  have h2 : (fewM ls).length - 1 = nxM ls (ls.length - 1) := by rw [few_len, nx_last (c := c) hne]; omega
  have h3 := kept_at (Need.last (ls := ls)) ls.length (by omega)
  rw [h2]
  unfold fewM
  rw [h1, List.getD_eq_getElem?_getD, List.getElem?_map, h3]
  show (mades ms many (ls.take (ls.length - 1 + 1))).getD (ls.length - 1) [] = _
  rw [show ls.length - 1 + 1 = ls.length by omega, List.take_length]
theorem mades_ne {ms : List (List Nat)} {many : Nat} {ls : List Ln} (h : ls ≠ []) : mades ms many ls ≠ [] := fun e => by
  have := mades_len ms many ls
  rw [e] at this
  exact h (List.length_eq_zero_iff.mp this.symm)
theorem tl_last {X : List (List Nat)} (h : X ≠ []) : atI (tl X) (-1) = some (tn (X.getD (X.length - 1) [])) := by
  have hpos : 0 < X.length := List.length_pos_iff.mpr h
  have h1 := List.take_append_drop (X.length - 1) X
  rw [List.drop_eq_getElem_cons (by omega), List.drop_of_length_le (by omega)] at h1
  have e : tl X = tl (X.take (X.length - 1)) ++ [tn (X.getD (X.length - 1) [])] := by
    have : X.getD (X.length - 1) [] = X[X.length - 1] := by rw [List.getD_eq_getElem?_getD, List.getElem?_eq_getElem (by omega)]; rfl
    rw [this]
    unfold tl
    conv => lhs; rw [← h1]
    rw [List.map_append]; rfl
  rw [e, atI_end2]
end
end Cl

set_option Elab.async false
set_option linter.all false
set_option maxRecDepth 100000
set_option maxHeartbeats 4000000
namespace Cl
open PySem PySem.Spec L2 Tb
/-! ### lines worked out one by one; letters -/
section
theorem cut_sub {α : Type} {l : List α} {a b : Option Int} {x : α} (h : x ∈ cut l a b) : x ∈ l := by
  unfold cut at h
  exact List.mem_of_mem_drop (List.mem_of_mem_take h)
theorem cut_map {α β : Type} (f : α → β) (l : List α) (a b : Option Int) : cut (l.map f) a b = (cut l a b).map f := by
  unfold cut
  simp only [List.length_map]
  rw [List.map_take, List.map_drop]
theorem tl_cut (ms : List (List Nat)) (a b : Option Int) : cut (tl ms) a b = tl (cut ms a b) := cut_map _ _ _ _
theorem getD_lt {α : Type} {l : List α} {i : Nat} (z : α) (h : i < l.length) : l.getD i z = l[i] := by rw [List.getD_eq_getElem?_getD, List.getElem?_eq_getElem h]; rfl
theorem getD_app1 {α : Type} {l r : List α} {i : Nat} (z : α) (h : i < l.length) : (l ++ r).getD i z = l.getD i z := by rw [List.getD_eq_getElem?_getD, List.getElem?_append_left h, ← List.getD_eq_getElem?_getD]
theorem getD_app2 {α : Type} {l : List α} {i : Nat} (z x : α) (h : i = l.length) : (l ++ [x]).getD i z = x := by subst h; rw [List.getD_eq_getElem?_getD, List.getElem?_append_right (Nat.le_refl _), Nat.sub_self]; rfl
section
variable {α : Type} (st : (Nat → α) → Ln → α) (z : α)
def evs (ls : List Ln) : List α := ls.foldl (fun made l => made ++ [st (fun a => made.getD a z) l]) []
theorem evs_snoc (ls : List Ln) (l : Ln) : evs st z (ls ++ [l]) = evs st z ls ++ [st (fun a => (evs st z ls).getD a z) l] := by
  unfold evs; rw [List.foldl_append]; rfl
theorem evs_len (ls : List Ln) : (evs st z ls).length = ls.length := by
  have key : ∀ (ls : List Ln) (m0 : List α), (ls.foldl (fun made l => made ++ [st (fun a => made.getD a z) l]) m0).length = m0.length + ls.length := fun ls => by
    induction ls with
    | nil => intro m0; rfl
    | cons l ls ih => intro m0; rw [List.foldl_cons, ih]; simp only [List.length_append, List.length_cons, List.length_nil]; omega
  have := key ls []
  unfold evs
  rw [this]; simp
theorem evs_ix {ls : List Ln} {i : Nat} {l : Ln} (hl : ls[i]? = some l) : evs st z (ls.take (i + 1)) = evs st z (ls.take i) ++ [st (fun a => (evs st z (ls.take i)).getD a z) l] := by
  rw [List.take_add_one, hl]; exact evs_snoc _ _ _ _
theorem evs_pre (ls : List Ln) {a : Nat} : ∀ i, a < i → i ≤ ls.length → (evs st z (ls.take i)).getD a z = (evs st z (ls.take (a + 1))).getD a z
  | 0, h, _ => absurd h (Nat.not_lt_zero _)
  | i + 1, h, hi => by
    by_cases e : a = i
    · subst e; rfl
    · obtain ⟨l, hl⟩ : ∃ l, ls[i]? = some l := ⟨_, List.getElem?_eq_getElem (by omega)⟩
      have hlen : (evs st z (ls.take i)).length = i := by rw [evs_len, List.length_take]; omega
      rw [evs_ix st z hl, getD_app1 z (by omega)]
      exact evs_pre ls i (by omega) (by omega)
theorem evs_all {ls : List Ln} {a i : Nat} (h : a < i) (hi : i ≤ ls.length) : (evs st z (ls.take i)).getD a z = (evs st z ls).getD a z := by
  rw [evs_pre st z ls i h hi]
  have := evs_pre st z ls ls.length (a := a) (by omega) (Nat.le_refl _)
  rw [List.take_length] at this
  exact this.symm
theorem evs_step {c : Nat} {ls : List Ln} (hw : Wf c ls) (loc : ∀ (g g' : Nat → α) l, (∀ a ∈ named l, g' a = g a) → st g' l = st g l) {i : Nat} {l : Ln} (hl : ls[i]? = some l) : (evs st z ls).getD i z = st (fun a => (evs st z ls).getD a z) l := by
  have hi := (List.getElem?_eq_some_iff.mp hl).1
  have hlen : (evs st z (ls.take i)).length = i := by rw [evs_len, List.length_take]; omega
  rw [← evs_all st z (Nat.lt_succ_self i) hi, evs_ix st z hl, getD_app2 z _ hlen.symm]
  exact loc _ _ l fun a ha => evs_all st z ((hw i l hl).1 a ha) (by omega)
variable (loc : ∀ (g g' : Nat → α) (f : Nat → Nat) l, (∀ a ∈ named l, g' (f a) = g a) → st g' (rn f l) = st g l)
theorem few_evs (loc : ∀ (g g' : Nat → α) (f : Nat → Nat) l, (∀ a ∈ named l, g' (f a) = g a) → st g' (rn f l) = st g l) {c : Nat} {ls : List Ln} (hw : Wf c ls) : ∀ i, i ≤ ls.length → evs st z (fewP ls i) = (keptL ls i).map fun j => (evs st z (ls.take (j + 1))).getD j z
  | 0, _ => rfl
  | i + 1, hi => by
    have ih := few_evs loc hw i (by omega)
    obtain ⟨l, hl⟩ : ∃ l, ls[i]? = some l := ⟨_, List.getElem?_eq_getElem (by omega)⟩
    by_cases hn : Need ls i
    · rw [fewP_succ hl hn, evs_snoc, (kept_succ ls i).1 hn, List.map_append, ih]
      congr 1
      have hlen : (evs st z (ls.take i)).length = i := by rw [evs_len, List.length_take]; omega
      have e0 : (evs st z (ls.take (i + 1))).getD i z = st (fun a => (evs st z (ls.take i)).getD a z) l := by
        rw [evs_ix st z hl, getD_app2 z _ hlen.symm]
      show [_] = [(evs st z (ls.take (i + 1))).getD i z]
      rw [e0]
      congr 1
      refine loc _ _ _ l fun a ha => ?_
      have hai := (hw i l hl).1 a ha
      rw [List.getD_eq_getElem?_getD, List.getElem?_map, kept_at (.step hn hl ha) i hai]
      exact (evs_pre st z ls i hai (by omega)).symm
    · have : fewP ls (i + 1) = fewP ls i := by unfold fewP; rw [(kept_succ ls i).2 hn]
      rw [this, (kept_succ ls i).2 hn, ih]
theorem evs_last (loc : ∀ (g g' : Nat → α) (f : Nat → Nat) l, (∀ a ∈ named l, g' (f a) = g a) → st g' (rn f l) = st g l) {c : Nat} {ls : List Ln} (hw : Wf c ls) (hne : ls ≠ []) : (evs st z (fewM ls)).getD ((fewM ls).length - 1) z = (evs st z ls).getD (ls.length - 1) z := by
  have hpos : 0 < ls.length := List.length_pos_iff.mpr hne
  have h1 := few_evs st z loc hw ls.length (Nat.le_refl _)
  have h2 : (fewM ls).length - 1 = nxM ls (ls.length - 1) := by rw [few_len, nx_last (c := c) hne]; omega
  have h3 := kept_at (Need.last (ls := ls)) ls.length (by omega)
  rw [h2]
  unfold fewM
  rw [h1, List.getD_eq_getElem?_getD, List.getElem?_map, h3]
  show (evs st z (ls.take (ls.length - 1 + 1))).getD (ls.length - 1) z = _
  rw [show ls.length - 1 + 1 = ls.length by omega, List.take_length]
end
def lenS (g : Nat → Nat) : Ln → Nat
  | .still => 0
  | .told _ => 1
  | .behind a b => g a + g b
  | .back a => g a
def letS (g : Nat → List Int) : Ln → List Int
  | .still => []
  | .told n => [(n : Int)]
  | .behind a b => g a ++ g b
  | .back a => (g a).reverse.map fun x => -1 - x
theorem lenS_loc (g g' : Nat → Nat) (f : Nat → Nat) (l : Ln) (h : ∀ a ∈ named l, g' (f a) = g a) : lenS g' (rn f l) = lenS g l := by
  cases l with
  | still => rfl
  | told n => rfl
  | behind a b => show g' (f a) + g' (f b) = _; rw [h a (by simp [named]), h b (by simp [named])]; rfl
  | back a => show g' (f a) = _; rw [h a (by simp [named])]; rfl
theorem letS_loc (g g' : Nat → List Int) (f : Nat → Nat) (l : Ln) (h : ∀ a ∈ named l, g' (f a) = g a) : letS g' (rn f l) = letS g l := by
  cases l with
  | still => rfl
  | told n => rfl
  | behind a b => show g' (f a) ++ g' (f b) = _; rw [h a (by simp [named]), h b (by simp [named])]; rfl
  | back a => show (g' (f a)).reverse.map _ = _; rw [h a (by simp [named])]; rfl
theorem rn_id (l : Ln) : rn (fun a => a) l = l := by cases l <;> rfl
theorem lenS_loc1 (g g' : Nat → Nat) (l : Ln) (h : ∀ a ∈ named l, g' a = g a) : lenS g' l = lenS g l := by
  have := lenS_loc g g' (fun a => a) l h
  rwa [rn_id] at this
theorem letS_loc1 (g g' : Nat → List Int) (l : Ln) (h : ∀ a ∈ named l, g' a = g a) : letS g' l = letS g l := by
  have := letS_loc g g' (fun a => a) l h
  rwa [rn_id] at this
theorem lets_len {c : Nat} {ls : List Ln} (hw : Wf c ls) : ∀ i, i < ls.length → ((evs letS [] ls).getD i []).length = (evs lenS 0 ls).getD i 0 := by
  intro i
  induction i using Nat.strongRecOn with
  | _ i ih =>
    intro hi
    obtain ⟨l, hl⟩ : ∃ l, ls[i]? = some l := ⟨_, List.getElem?_eq_getElem hi⟩
    rw [evs_step letS [] hw letS_loc1 hl, evs_step lenS 0 hw lenS_loc1 hl]
    have hn := (hw i l hl).1
    cases l with
    | still => rfl
    | told n => rfl
    | behind a b =>
      have h1 := hn a (by simp [named])
      have h2 := hn b (by simp [named])
      simp only [letS, lenS, List.length_append]
      rw [ih a h1 (by omega), ih b h2 (by omega)]
    | back a =>
      have h1 := hn a (by simp [named])
      simp only [letS, lenS, List.length_map, List.length_reverse]
      rw [ih a h1 (by omega)]
theorem lens_up {c : Nat} {ls : List Ln} (hw : Wf c ls) (hne : ls ≠ []) {j : Nat} (h : Need ls j) : (evs lenS 0 ls).getD j 0 ≤ (evs lenS 0 ls).getD (ls.length - 1) 0 := by
  induction h with
  | last => exact Nat.le_refl _
  | @step j k l hj hl hk ih =>
    rw [evs_step lenS 0 hw lenS_loc1 hl] at ih
    refine Nat.le_trans ?_ ih
    cases l with
    | still => simp [named] at hk
    | told n => simp [named] at hk
    | behind a b =>
      simp only [named, List.mem_cons, List.not_mem_nil, or_false] at hk
      rcases hk with rfl | rfl
      · exact Nat.le_add_right _ _
      · exact Nat.le_add_left _ _
    | back a =>
      simp only [named, List.mem_cons, List.not_mem_nil, or_false] at hk
      subst hk; exact Nat.le_refl _
/-! letters walked -/
theorem bh_assoc {n : Nat} {a b : List Nat} (c : List Nat) (ha : IsT n a) (hb : IsT n b) : bh (bh a b) c = bh a (bh b c) := by
  unfold bh
  rw [List.map_map]
  apply List.map_congr_left
  intro x hx
  have hxn := ha.lt x hx
  show c.getD (b.getD x 0) 0 = (b.map _).getD x 0
  have := bh_at (a := b) (b := c) (x := x) (by rw [hb.len]; exact hxn)
  exact this.symm
theorem bh_still {n : Nat} {a : List Nat} (h : IsT n a) : bh a (List.range n) = a := by
  unfold bh
  have : ∀ x ∈ a, (List.range n).getD x 0 = x := fun x hx => range_getD (h.lt x hx)
  rw [List.map_congr_left this, List.map_id']
theorem still_bh {n : Nat} {a : List Nat} (h : IsT n a) : bh (List.range n) a = a := by
  refine list_ext_getD (by rw [bh_len, List.length_range, h.len]) fun x hx => ?_
  rw [bh_len, List.length_range] at hx
  rw [bh_at (by rw [List.length_range]; exact hx), range_getD hx]
theorem bk_bk {n : Nat} {a : List Nat} (h : IsT n a) : bk (bk a) = a :=
  (h.bk.bk_eq h.len fun x hx => h.at_bk hx).symm
def LOk (c : Nat) (x : Int) : Prop := -(c : Int) ≤ x ∧ x < c
def ltr (ms : List (List Nat)) (x : Int) : List Nat := if 0 ≤ x then ms.getD x.toNat [] else bk (ms.getD (-1 - x).toNat [])
def wlk (ms : List (List Nat)) (t : List Nat) (l : List Int) : List Nat := l.foldl (fun t x => bh t (ltr ms x)) t
section
variable {n : Nat} {ms : List (List Nat)} (hm : ∀ m ∈ ms, IsT n m)
include hm
theorem getD_T {i : Nat} (h : i < ms.length) : IsT n (ms.getD i []) := hm _ (by rw [getD_lt _ h]; exact List.getElem_mem h)
theorem ltr_T {x : Int} (h : LOk ms.length x) : IsT n (ltr ms x) := by
  unfold ltr
  obtain ⟨h1, h2⟩ := h
  split
  · exact getD_T hm (by omega)
  · exact (getD_T hm (by omega)).bk
theorem ltr_neg {x : Int} (h : LOk ms.length x) : ltr ms (-1 - x) = bk (ltr ms x) := by
  obtain ⟨h1, h2⟩ := h
  unfold ltr
  by_cases h0 : 0 ≤ x
  · rw [if_pos h0, if_neg (by omega)]
    have : -1 - (-1 - x) = x := by omega
    rw [this]
  · rw [if_neg h0, if_pos (by omega), bk_bk (getD_T hm (by omega))]
theorem wlk_T {t : List Nat} (ht : IsT n t) : ∀ {l : List Int}, (∀ x ∈ l, LOk ms.length x) → IsT n (wlk ms t l) := by
  intro l
  induction l generalizing t with
  | nil => intro _; exact ht
  | cons x l ih => intro h; exact ih (ht.bh (ltr_T hm (h x List.mem_cons_self))) fun y hy => h y (List.mem_cons_of_mem _ hy)
theorem wlk_bh {t u : List Nat} (ht : IsT n t) (hu : IsT n u) : ∀ {l : List Int}, (∀ x ∈ l, LOk ms.length x) → wlk ms (bh t u) l = bh t (wlk ms u l) := by
  intro l
  induction l generalizing u with
  | nil => intro _; rfl
  | cons x l ih =>
    intro h
    have hx := ltr_T hm (h x List.mem_cons_self)
    show wlk ms (bh (bh t u) _) l = bh t (wlk ms (bh u _) l)
    rw [bh_assoc _ ht hu]
    exact ih (hu.bh hx) fun y hy => h y (List.mem_cons_of_mem _ hy)
theorem wlk_at {t : List Nat} (ht : IsT n t) {l : List Int} (h : ∀ x ∈ l, LOk ms.length x) : wlk ms t l = bh t (wlk ms (List.range n) l) := by
  have := wlk_bh hm ht (.range n) h
  rw [bh_still ht] at this
  exact this
theorem wlk_app {a b : List Int} (ha : ∀ x ∈ a, LOk ms.length x) (hb : ∀ x ∈ b, LOk ms.length x) : wlk ms (List.range n) (a ++ b) = bh (wlk ms (List.range n) a) (wlk ms (List.range n) b) := by
  have : wlk ms (List.range n) (a ++ b) = wlk ms (wlk ms (List.range n) a) b := by unfold wlk; rw [List.foldl_append]
  rw [this]
  exact wlk_at hm (wlk_T hm (.range n) ha) hb
theorem wlk_rev : ∀ {l : List Int}, (∀ x ∈ l, LOk ms.length x) → wlk ms (List.range n) (l.reverse.map fun x => -1 - x) = bk (wlk ms (List.range n) l)
  | [], _ => (bk_range n).symm
  | x :: l, h => by
    have hx := h x List.mem_cons_self
    have hl := fun y hy => h y (List.mem_cons_of_mem x hy)
    have ih := wlk_rev hl
    have e1 : ((x :: l).reverse.map fun x => -1 - x) = (l.reverse.map fun x => -1 - x) ++ [-1 - x] := by simp
    have o1 : LOk ms.length (-1 - x) := by obtain ⟨h1, h2⟩ := hx; exact ⟨by omega, by omega⟩
    have o2 : ∀ y ∈ (l.reverse.map fun x => -1 - x), LOk ms.length y := fun y hy => by
      obtain ⟨z, hz, rfl⟩ := List.mem_map.mp hy
      obtain ⟨h1, h2⟩ := hl z (List.mem_reverse.mp hz)
      exact ⟨by omega, by omega⟩
    have one : ∀ y, LOk ms.length y → wlk ms (List.range n) [y] = ltr ms y := fun y hy => still_bh (ltr_T hm hy)
    have e2 : wlk ms (List.range n) (x :: l) = bh (ltr ms x) (wlk ms (List.range n) l) := by
      have := wlk_app hm (a := [x]) (b := l) (fun y hy => by simp at hy; subst hy; exact hx) hl
      rw [one x hx] at this
      exact this
    rw [e1, wlk_app hm o2 (fun y hy => by simp at hy; subst hy; exact o1), one _ o1, ih, e2, ltr_neg hm hx]
    exact bk_bh (ltr_T hm hx) (wlk_T hm (.range n) hl)
theorem lets_ok {ls : List Ln} (hw : Wf ms.length ls) : ∀ i, i < ls.length → (∀ x ∈ (evs letS [] ls).getD i [], LOk ms.length x) ∧ wlk ms (List.range n) ((evs letS [] ls).getD i []) = (mades ms n ls).getD i [] := by
  intro i
  induction i using Nat.strongRecOn with
  | _ i ih =>
    intro hi
    obtain ⟨l, hl⟩ : ∃ l, ls[i]? = some l := ⟨_, List.getElem?_eq_getElem hi⟩
    have hlen : (mades ms n (ls.take i)).length = i := by rw [mades_len, List.length_take]; omega
    have full : ∀ j, j < ls.length → (mades ms n ls).getD j [] = (mades ms n (ls.take (j + 1))).getD j [] := fun j hj => by
      have := mades_pre ms n ls (a := j) ls.length hj (Nat.le_refl _)
      rwa [List.take_length] at this
    have em : (mades ms n ls).getD i [] = evl ms n (mades ms n (ls.take i)) l := by
      rw [full i hi, mades_at hl, getD_app2 _ _ hlen.symm]
    have low : ∀ a, a < i → (mades ms n (ls.take i)).getD a [] = (mades ms n ls).getD a [] := fun a ha => by
      rw [full a (by omega)]; exact mades_pre ms n ls i ha (by omega)
    rw [evs_step letS [] hw letS_loc1 hl, em]
    obtain ⟨hn, ht⟩ := hw i l hl
    cases l with
    | still => exact ⟨fun x hx => (by cases hx), rfl⟩
    | told k =>
      have hk := ht k rfl
      refine ⟨fun x hx => ?_, ?_⟩
      · have e : x = (k : Int) := by simpa [letS] using hx
        subst e; exact ⟨by omega, by omega⟩
      · show bh (List.range n) (ltr ms (k : Int)) = ms.getD k []
        have : ltr ms (k : Int) = ms.getD k [] := by unfold ltr; rw [if_pos (by omega), Int.toNat_natCast]
        rw [this]
        exact still_bh (getD_T hm hk)
    | behind a b =>
      have h1 := hn a (by simp [named])
      have h2 := hn b (by simp [named])
      obtain ⟨a1, a2⟩ := ih a h1 (by omega)
      obtain ⟨b1, b2⟩ := ih b h2 (by omega)
      refine ⟨fun x hx => ?_, ?_⟩
      · rcases List.mem_append.mp hx with hx | hx
        · exact a1 x hx
        · exact b1 x hx
      · show wlk ms (List.range n) (_ ++ _) = bh _ _
        rw [wlk_app hm a1 b1, a2, b2, low a h1, low b h2]
    | back a =>
      have h1 := hn a (by simp [named])
      obtain ⟨a1, a2⟩ := ih a h1 (by omega)
      refine ⟨fun x hx => ?_, ?_⟩
      · obtain ⟨y, hy, rfl⟩ := List.mem_map.mp hx
        obtain ⟨p1, p2⟩ := a1 y (List.mem_reverse.mp hy)
        exact ⟨by omega, by omega⟩
      · show wlk ms (List.range n) (List.map _ (List.reverse _)) = bk _
        rw [wlk_rev hm a1, a2, low a h1]
end
def il (l : List Int) : List D := l.map PyData.int
theorem il_len (l : List Int) : (il l).length = l.length := by simp [il]
theorem il_app (a b : List Int) : il a ++ il b = il (a ++ b) := by simp [il]
theorem il_at {l : List Int} {i : Nat} {d : D} (h : (il l)[i]? = some d) : ∃ x, l[i]? = some x ∧ d = .int x := by
  unfold il at h
  rw [List.getElem?_map] at h
  cases e : l[i]? with
  | none => rw [e] at h; cases h
  | some x => rw [e] at h; exact ⟨x, rfl, (Option.some.inj h).symm⟩
theorem il_mem {l : List Int} {d : D} (h : d ∈ il l) : ∃ x ∈ l, d = .int x := by
  obtain ⟨x, hx, e⟩ := List.mem_map.mp h
  exact ⟨x, hx, e.symm⟩
def ill (ls : List (List Int)) : List D := ls.map fun l => .list (il l)
theorem ill_len (l : List (List Int)) : (ill l).length = l.length := by simp [ill]
theorem ill_app (a b : List (List Int)) : ill a ++ ill b = ill (a ++ b) := by simp [ill]
theorem canLay_il : ∀ a : List Int, PyData.canLayAll0 (il a) = true
  | [] => by simp [il, PyData.canLayAll0]
  | x :: r => by
    have ih := canLay_il r
    show PyData.canLayAll0 (.int x :: il r) = true
    simp [PyData.canLayAll0, PyData.canLay0, ih]
theorem depth_il : ∀ a : List Int, PyData.depthAll (il a) ≤ 1
  | [] => by simp [il, PyData.depthAll]
  | x :: r => by
    have ih := depth_il r
    show PyData.depthAll (.int x :: il r) ≤ 1
    simp only [PyData.depthAll, PyData.depth]; omega
theorem shaped_il (a : List Int) : SeqAt.shaped (.list (il a)) = true := by
  have h := depth_il a
  unfold SeqAt.shaped
  rw [Bool.and_eq_true]
  refine ⟨by simp only [PyData.canLay0]; exact canLay_il a, decide_eq_true ?_⟩
  simp only [PyData.depth]; omega
theorem eqvAll_il : ∀ a b : List Int, PyData.eqvAll (il a) (il b) = decide (a = b)
  | [], [] => by simp [il, PyData.eqvAll]
  | [], y :: s => by simp [il, PyData.eqvAll]
  | x :: r, [] => by simp [il, PyData.eqvAll]
  | x :: r, y :: s => by
    have ih := eqvAll_il r s
    show PyData.eqvAll (.int x :: il r) (.int y :: il s) = _
    simp only [PyData.eqvAll, PyData.eqv, ih]
    rw [Bool.eq_iff_iff, Bool.and_eq_true, beq_iff_eq, decide_eq_true_iff, decide_eq_true_iff, List.cons.injEq]
theorem eqv_il (a b : List Int) : PyData.eqv (.list (il a)) (.list (il b)) = decide (a = b) := by simp only [PyData.eqv]; exact eqvAll_il a b
end
end Cl

set_option Elab.async false
set_option linter.all false
set_option maxRecDepth 100000
set_option maxHeartbeats 4000000
namespace Cl
open PySem PySem.Spec L2 Tb
/-! ### a line's parts read -/
section
theorem atI_tl1 {α : Type} (x : α) (y : List α) (z : α) (h : y[0]? = some z) : atI (x :: y) 1 = some z := by
  have := atI_cast (x :: y) 1
  rw [show ((1 : Nat) : Int) = 1 from rfl] at this
  rw [this]; exact h
theorem atI_tl2 {α : Type} (x : α) (y : List α) (z : α) (h : y[1]? = some z) : atI (x :: y) 2 = some z := by
  have := atI_cast (x :: y) 2
  rw [show ((2 : Nat) : Int) = 2 from rfl] at this
  rw [this]; exact h
theorem enc_hd (l : Ln) : atI (PyData.str (word l) :: nl (nums l)) 0 = some (.str (word l)) := atI_hd _ _
theorem nl_atI {t : List Nat} {a : Nat} (h : a < t.length) : atI (nl t) (a : Int) = some (.int (t.getD a 0 : Nat)) := by
  rw [atI_cast, nl_get, Cl.getD_some h]; rfl
theorem sh_still : SeqAt.shaped (.str (Str.ofString "still")) = true := shaped_wd .still
theorem sh_told : SeqAt.shaped (.str (Str.ofString "told")) = true := shaped_wd (.told 0)
theorem sh_behind : SeqAt.shaped (.str (Str.ofString "behind")) = true := shaped_wd (.behind 0 0)
theorem sh_back : SeqAt.shaped (.str (Str.ofString "back")) = true := shaped_wd (.back 0)
theorem tl_atI {ms : List (List Nat)} {a : Nat} (h : a < ms.length) : atI (tl ms) (a : Int) = some (tn (ms.getD a [])) := by
  rw [atI_cast]
  unfold tl
  rw [List.getElem?_map, List.getD_eq_getElem?_getD, List.getElem?_eq_getElem h]; rfl
theorem tl_len (ms : List (List Nat)) : (tl ms).length = ms.length := by simp [tl]
theorem tl_one (x : List Nat) : [tn x] = tl [x] := rfl
theorem enc_nums1 (l : Ln) {a : Nat} (h : (nums l)[0]? = some a) : atI (PyData.str (word l) :: nl (nums l)) 1 = some (.int (a : Int)) := atI_tl1 _ _ _ (by rw [nl_get, h]; rfl)
theorem enc_nums2 (l : Ln) {a : Nat} (h : (nums l)[1]? = some a) : atI (PyData.str (word l) :: nl (nums l)) 2 = some (.int (a : Int)) := atI_tl2 _ _ _ (by rw [nl_get, h]; rfl)
/-- a comprehension's element by a tuple of numbers -/
def toN : D → Option Nat
  | .int i => some i.toNat
  | _ => none
def unl (xs : List D) : List Nat := xs.filterMap toN
theorem unl_nl (t : List Nat) : unl (nl t) = t := by
  unfold unl nl
  rw [List.filterMap_map]
  have e : (toN ∘ fun n : Nat => PyData.int (n : Int)) = some := by funext n; simp [toN]
  rw [e, List.filterMap_some]
def tf (g : List Nat → D) : D → Option D
  | .tuple xs => some (g (unl xs))
  | _ => none
theorem tf_tn (g : List Nat → D) (t : List Nat) : tf g (tn t) = some (g t) := by
  show some (g (unl (nl t))) = _
  rw [unl_nl]
theorem tf_map (g : List Nat → D) (ms : List (List Nat)) : (tl ms).filterMap (tf g) = ms.map g := by
  unfold tl
  rw [List.filterMap_map]
  have e : (tf g ∘ tn) = (some ∘ g) := by funext x; exact tf_tn g x
  rw [e, List.filterMap_eq_map]
theorem tl_mem {ms : List (List Nat)} {d : D} (h : d ∈ tl ms) : ∃ m ∈ ms, d = tn m := by
  unfold tl at h
  obtain ⟨m, hm, e⟩ := List.mem_map.mp h
  exact ⟨m, hm, e.symm⟩
theorem map_tn (ms : List (List Nat)) (g : List Nat → List Nat) : ms.map (fun m => tn (g m)) = tl (ms.map g) := by unfold tl; rw [List.map_map]; rfl
theorem il_reverse (l : List Int) : (il l).reverse = il l.reverse := by unfold il; rw [List.map_reverse]
theorem ill_atI {X : List (List Int)} {a : Nat} (h : a < X.length) : atI (ill X) (a : Int) = some (.list (il (X.getD a []))) := by
  rw [atI_cast]
  unfold ill
  rw [List.getElem?_map, List.getD_eq_getElem?_getD, List.getElem?_eq_getElem h]; rfl
/-- a comprehension's element by a whole number -/
def zf (g : Int → D) : D → Option D
  | .int i => some (g i)
  | _ => none
theorem zf_map (g : Int → D) (l : List Int) : (l.map PyData.int).filterMap (zf g) = l.map g := by
  rw [List.filterMap_map]
  have e : (zf g ∘ PyData.int) = (some ∘ g) := by funext x; rfl
  rw [e, List.filterMap_eq_map]
theorem bools_map (l : List Int) (p : Int → Bool) : (l.map fun x => PyData.bool (p x)) = (l.map p).map PyData.bool := by rw [List.map_map]; rfl
theorem shaped_pair {a b : D} (ha : PyData.canLay0 a = true) (hb : PyData.canLay0 b = true) (da : PyData.depth a ≤ 10) (db : PyData.depth b ≤ 10) : SeqAt.shaped (.list [a, b]) = true := by
  unfold SeqAt.shaped
  rw [Bool.and_eq_true]
  refine ⟨by simp [PyData.canLay0, PyData.canLayAll0, ha, hb], decide_eq_true ?_⟩
  simp only [PyData.depth, PyData.depthAll]; omega
def slLen : Option Sl → Nat
  | some (.ow ds) => ds.length
  | _ => 0
theorem eqv_self {d : D} (h : SeqAt.shaped d = true) : PyData.eqv d d = true := by
  unfold SeqAt.shaped at h
  rw [Bool.and_eq_true] at h
  exact SeqAt.eqv_refl _ h.1
theorem eqv_tn2 (a b : List Nat) : PyData.eqv (tn a) (tn b) = decide (a = b) := eqv_tn a b
end
end Cl

set_option Elab.async false
set_option linter.all false
set_option maxRecDepth 100000
set_option maxHeartbeats 4000000
namespace Cl
open PySem PySem.Spec L2 Tb
/-! ### last ones; letters as the law tells them -/
section
theorem nl_last {X : List Nat} (h : X ≠ []) : atI (nl X) (-1) = some (.int (X.getD (X.length - 1) 0 : Nat)) := by
  have hpos : 0 < X.length := List.length_pos_iff.mpr h
  have h1 := List.take_append_drop (X.length - 1) X
  rw [List.drop_eq_getElem_cons (by omega), List.drop_of_length_le (by omega)] at h1
  have e : nl X = nl (X.take (X.length - 1)) ++ [.int (X.getD (X.length - 1) 0 : Nat)] := by
    rw [getD_lt 0 (by omega)]
    conv => lhs; rw [← h1]
    rw [← nl_app]; rfl
  rw [e, atI_end2]
theorem ill_last {X : List (List Int)} (h : X ≠ []) : atI (ill X) (-1) = some (.list (il (X.getD (X.length - 1) []))) := by
  have hpos : 0 < X.length := List.length_pos_iff.mpr h
  have h1 := List.take_append_drop (X.length - 1) X
  rw [List.drop_eq_getElem_cons (by omega), List.drop_of_length_le (by omega)] at h1
  have e : ill X = ill (X.take (X.length - 1)) ++ [.list (il (X.getD (X.length - 1) []))] := by
    rw [getD_lt [] (by omega)]
    conv => lhs; rw [← h1]
    rw [← ill_app]; rfl
  rw [e, atI_end2]
theorem evs_ne {α : Type} {st : (Nat → α) → Ln → α} {z : α} {ls : List Ln} (h : ls ≠ []) : evs st z ls ≠ [] := fun e => by
  have := evs_len st z ls
  rw [e] at this
  exact h (List.length_eq_zero_iff.mp this.symm)
def negF : D → Option D
  | .int x => some (.int (-1 - x))
  | _ => none
theorem negF_map (l : List Int) : (il l).filterMap negF = il (l.map fun x => -1 - x) := by
  unfold il
  rw [List.filterMap_map, List.map_map]
  have e : (negF ∘ PyData.int) = (some ∘ (PyData.int ∘ fun x => -1 - x)) := by funext x; rfl
  rw [e, List.filterMap_eq_map]
theorem wlk_snoc (ms : List (List Nat)) (t : List Nat) (l : List Int) (x : Int) : wlk ms t (l ++ [x]) = bh (wlk ms t l) (ltr ms x) := by unfold wlk; rw [List.foldl_append]; rfl
theorem eqv_il2 (a b : List Int) : PyData.eqv (.list (il a)) (.list (il b)) = decide (a = b) := eqv_il a b
theorem nl_il (t : List Nat) : nl t = il (t.map fun n : Nat => (n : Int)) := nl_ints t
/-- a line's letters where they are few -/
def fewL (ls : List Ln) (k : Nat) : List Int := if (evs lenS 0 ls).getD k 0 ≤ 1000 then (evs letS [] ls).getD k [] else []
theorem lens_named {c : Nat} {ls : List Ln} (hw : Wf c ls) {i : Nat} {l : Ln} (hl : ls[i]? = some l) {a : Nat} (ha : a ∈ named l) : (evs lenS 0 ls).getD a 0 ≤ (evs lenS 0 ls).getD i 0 := by
  rw [evs_step lenS 0 hw lenS_loc1 hl]
  cases l with
  | still => simp [named] at ha
  | told n => simp [named] at ha
  | behind a' b =>
    simp only [named, List.mem_cons, List.not_mem_nil, or_false] at ha
    rcases ha with rfl | rfl
    · exact Nat.le_add_right _ _
    · exact Nat.le_add_left _ _
  | back a' =>
    simp only [named, List.mem_cons, List.not_mem_nil, or_false] at ha
    subst ha; exact Nat.le_refl _
theorem ixN_nat {n a : Nat} (h : a < n) : ixN n (a : Int) = some a := by unfold ixN; simp; omega
theorem ixN_last {n : Nat} (h : 0 < n) : ixN n (-1) = some (n - 1) := by
  unfold ixN
  simp
  omega
def intS : Option Sl → Nat
  | some (.fr (.int i)) => i.toNat
  | _ => 0
end
end Cl

set_option Elab.async false
set_option linter.all false
set_option maxRecDepth 100000
set_option maxHeartbeats 4000000
namespace Cl
open PySem PySem.Spec L2 Tb
/-! ### what is a line, what is a recipe -/
section
def whB : D → Bool
  | .int _ => true
  | _ => false
theorem wh_eq (d : D) : (if isInt d = true then !isBool d else false) = whB d := by cases d <;> rfl
def numB : D → Bool
  | .int z => decide (0 ≤ z)
  | _ => false
def ltB (d : D) (k : Int) : Bool := match d with
  | .int z => decide (z < k)
  | _ => false
def tailB (s : Str) (ns : List D) (a c : Int) : Bool :=
  if s = Str.ofString "still" then decide (ns.length = 0)
  else if s = Str.ofString "told" then decide (ns.length = 1) && ltB (ns.getD 0 .none) c
  else if s = Str.ofString "behind" then decide (ns.length = 2) && (ltB (ns.getD 0 .none) a && ltB (ns.getD 1 .none) a)
  else decide (s = Str.ofString "back") && (decide (ns.length = 1) && ltB (ns.getD 0 .none) a)
def lineB (d : D) (a c : Int) : Bool := match d with
  | .tuple (.str s :: ns) => ns.all numB && tailB s ns a c
  | _ => false
def recA : List D → Nat → Int → Bool
  | [], _, _ => true
  | x :: r, i, c => lineB x (i : Int) c && recA r (i + 1) c
def recB (d : D) (c : Int) : Bool := match d with
  | .list (x :: r) => recA (x :: r) 0 c
  | _ => false
theorem len_two {α : Type} {t : List α} (h : t.length = 2) : ∃ x y, t = [x, y] := by
  match t, h with
  | [x, y], _ => exact ⟨x, y, rfl⟩
/-- the word at the head can be compared -/
def headOk (d : D) : Prop := ∀ s ns, d = .tuple (.str s :: ns) → SeqAt.shaped (.str s) = true
theorem headOk_enc (l : Ln) : headOk (enc l) := fun s ns e => by
  rw [enc_eq] at e
  cases e
  exact shaped_wd l
theorem numB_nl (t : List Nat) : (nl t).all numB = true := by
  rw [List.all_eq_true]
  intro d hd
  obtain ⟨k, _, rfl⟩ := nl_mem hd
  simp [numB]
theorem lineB_enc {c : Nat} {i : Nat} {l : Ln} (h : (∀ a ∈ named l, a < i) ∧ ∀ n, l = .told n → n < c) : lineB (enc l) (i : Int) (c : Int) = true := by
  rw [enc_eq]
  unfold lineB
  dsimp only
  rw [numB_nl, Bool.true_and]
  unfold tailB
  have k1 : ¬ Str.ofString "told" = Str.ofString "still" := by decide +kernel
  have k2 : ¬ Str.ofString "behind" = Str.ofString "still" := by decide +kernel
  have k3 : ¬ Str.ofString "behind" = Str.ofString "told" := by decide +kernel
  have k4 : ¬ Str.ofString "back" = Str.ofString "still" := by decide +kernel
  have k5 : ¬ Str.ofString "back" = Str.ofString "told" := by decide +kernel
  have k6 : ¬ Str.ofString "back" = Str.ofString "behind" := by decide +kernel
  cases l with
  | still => rfl
  | told n =>
    have := h.2 n rfl
    simp only [word, if_neg k1, if_true]
    simp only [nums, nl, List.map_cons, List.map_nil, List.length_cons, List.length_nil, List.getD_cons_zero, ltB]
    simp; omega
  | behind a b =>
    have ha := h.1 a (by simp [named])
    have hb := h.1 b (by simp [named])
    simp only [word, if_neg k2, if_neg k3, if_true]
    simp only [nums, nl, List.map_cons, List.map_nil, List.length_cons, List.length_nil, List.getD_cons_zero, List.getD_cons_succ, ltB]
    simp; omega
  | back a =>
    have ha := h.1 a (by simp [named])
    simp only [word, if_neg k4, if_neg k5, if_neg k6, decide_true, Bool.true_and]
    simp only [nums, nl, List.map_cons, List.map_nil, List.length_cons, List.length_nil, List.getD_cons_zero, ltB]
    simp; omega
theorem recA_enc {c : Nat} : ∀ (ls : List Ln) (i : Nat), (∀ j l, ls[j]? = some l → (∀ a ∈ named l, a < i + j) ∧ ∀ n, l = .told n → n < c) → recA (lnl ls) i (c : Int) = true
  | [], _, _ => rfl
  | l :: ls, i, h => by
    show (lineB (enc l) (i : Int) (c : Int) && recA (lnl ls) (i + 1) (c : Int)) = true
    rw [lineB_enc (l := l) (i := i) (by have := h 0 l rfl; simpa using this), Bool.true_and]
    exact recA_enc ls (i + 1) fun j m e => by
      have := h (j + 1) m e
      exact ⟨fun a ha => by have := this.1 a ha; omega, this.2⟩
theorem recB_enc {c : Nat} {ls : List Ln} (h : Wf c ls) (hne : ls ≠ []) : recB (.list (lnl ls)) (c : Int) = true := by
  cases ls with
  | nil => exact absurd rfl hne
  | cons l r =>
    refine recA_enc (c := c) (l :: r) 0 fun j m e => ?_
    have := h j m e
    exact ⟨fun a ha => by have := this.1 a ha; omega, this.2⟩
theorem recA_step {l : List D} {i : Nat} {c : Int} {x : D} (h : l[i]? = some x) : recA (l.drop i) i c = (lineB x (i : Int) c && recA (l.drop (i + 1)) (i + 1) c) := by
  obtain ⟨hl, e⟩ := List.getElem?_eq_some_iff.mp h
  rw [List.drop_eq_getElem_cons hl, e]; rfl
end
end Cl

set_option Elab.async false
set_option linter.all false
set_option maxRecDepth 100000
set_option maxHeartbeats 4000000
namespace Cl
open PySem PySem.Spec L2 Tb
/-! ### first parts -/
section
theorem cut_take {α : Type} (l : List α) (k : Nat) : cut l none (some (k : Int)) = l.take k := by
  unfold cut
  rw [HT.sIx_none, HT.sIx_nat, List.drop_zero, Nat.sub_zero]
  by_cases h : k ≤ l.length
  · rw [Nat.min_eq_left h]
  · rw [Nat.min_eq_right (by omega), List.take_of_length_le (Nat.le_refl _), List.take_of_length_le (by omega)]
theorem lnl_take (ls : List Ln) (k : Nat) : (lnl ls).take k = lnl (ls.take k) := by unfold lnl; rw [List.map_take]
theorem tl_take (ls : List (List Nat)) (k : Nat) : (tl ls).take k = tl (ls.take k) := by unfold tl; rw [List.map_take]
theorem fold_pref (ms : List (List Nat)) (many : Nat) : ∀ (b : List Ln) (m0 : List (List Nat)), (b.foldl (fun made l => made ++ [evl ms many made l]) m0).take m0.length = m0
  | [], m0 => List.take_length
  | l :: b, m0 => by
    have ih := fold_pref ms many b (m0 ++ [evl ms many m0 l])
    rw [List.foldl_cons]
    have e := congrArg (List.take m0.length) ih
    rw [List.take_take, List.take_append_of_le_length (Nat.le_refl _), List.take_length, List.length_append, Nat.min_eq_left (by omega)] at e
    exact e
theorem mades_pref (ms : List (List Nat)) (many : Nat) (a b : List Ln) : (mades ms many (a ++ b)).take a.length = mades ms many a := by
  have h := fold_pref ms many b (mades ms many a)
  rw [mades_len] at h
  unfold mades at h ⊢
  rw [List.foldl_append]
  exact h
theorem mades_take (ms : List (List Nat)) (many : Nat) (ls : List Ln) (k : Nat) : (mades ms many ls).take k = mades ms many (ls.take k) := by
  by_cases h : k ≤ ls.length
  · have := mades_pref ms many (ls.take k) (ls.drop k)
    rw [List.take_append_drop, List.length_take, Nat.min_eq_left h] at this
    exact this
  · rw [List.take_of_length_le (by rw [mades_len]; omega), List.take_of_length_le (by omega)]
theorem Wf.take {c : Nat} {ls : List Ln} (h : Wf c ls) (k : Nat) : Wf c (ls.take k) := fun i l e => by
  by_cases hi : i < k
  · rw [List.getElem?_take, if_pos hi] at e; exact h i l e
  · rw [List.getElem?_take, if_neg hi] at e; cases e
theorem shaped_lt (ls : List Ln) (ms : List (List Nat)) : SeqAt.shaped (.list [.list (lnl ls), .list (tl ms)]) = true := by
  refine shaped_pair (by simp only [PyData.canLay0]; exact canLay_lnl ls) (by simp only [PyData.canLay0]; exact canLay_tl ms) ?_ ?_
  · have := depth_lnl ls
    simp only [PyData.depth]; omega
  · have := depth_tl ms
    simp only [PyData.depth]; omega
theorem mades_small {many : Nat} {ms : List (List Nat)} {ls : List Ln} (hm : ∀ m ∈ ms, IsT many m) (hw : Wf ms.length ls) : ∀ t ∈ mades ms many ls, t.length = many := fun t ht => by
  obtain ⟨i, hi, e⟩ := List.getElem_of_mem ht
  rw [mades_len] at hi
  have := mades_ok hm ls hw i hi
  rw [getD_lt [] (by rw [mades_len]; exact hi), e] at this
  exact this.len
theorem headOk_lnl (ls : List Ln) : ∀ x ∈ lnl ls, headOk x := fun x hx => by
  obtain ⟨l, _, rfl⟩ := List.mem_map.mp hx
  exact headOk_enc l
end
end Cl

set_option Elab.async false
set_option linter.all false
set_option maxRecDepth 100000
set_option maxHeartbeats 4000000
namespace Cl
open PySem PySem.Spec L2 Tb
/-! ### what is no recipe -/
section
def leastF (n : Nat) (l : Ln) : Nat := match l with
  | .told k => if n < k + 1 then k + 1 else n
  | _ => n
def leastC (ls : List Ln) : Nat := ls.foldl leastF 0
theorem least_snoc (ls : List Ln) (l : Ln) : leastC (ls ++ [l]) = leastF (leastC ls) l := by unfold leastC; rw [List.foldl_append]; rfl
theorem least_le (c : Nat) : ∀ (ls : List Ln) (n : Nat), ls.foldl leastF n ≤ c ↔ n ≤ c ∧ ∀ l ∈ ls, ∀ k, l = .told k → k < c
  | [], n => by simp
  | l :: ls, n => by
    rw [List.foldl_cons, least_le c ls]
    cases l with
    | told k =>
      constructor
      · rintro ⟨h1, h2⟩
        simp only [leastF] at h1
        refine ⟨by split at h1 <;> omega, fun l hl j e => ?_⟩
        rcases List.mem_cons.mp hl with rfl | hl
        · cases e; split at h1 <;> omega
        · exact h2 l hl j e
      · rintro ⟨h1, h2⟩
        have := h2 (.told k) List.mem_cons_self k rfl
        exact ⟨by simp only [leastF]; split <;> omega, fun l hl => h2 l (List.mem_cons_of_mem _ hl)⟩
    | _ =>
      constructor
      · rintro ⟨h1, h2⟩
        refine ⟨h1, fun l hl j e => ?_⟩
        rcases List.mem_cons.mp hl with rfl | hl
        · cases e
        · exact h2 l hl j e
      · rintro ⟨h1, h2⟩
        exact ⟨h1, fun l hl => h2 l (List.mem_cons_of_mem _ hl)⟩
theorem recB_least {c : Nat} {ls : List Ln} (h : Wf c ls) (hne : ls ≠ []) (k : Nat) : recB (.list (lnl ls)) (k : Int) = decide (leastC ls ≤ k) := by
  by_cases hk : leastC ls ≤ k
  · rw [decide_eq_true hk]
    have := ((least_le k ls 0).mp hk).2
    exact recB_enc (c := k) (fun i l e => ⟨(h i l e).1, fun n en => this l (List.mem_of_getElem? e) n en⟩) hne
  · rw [decide_eq_false hk]
    have : ∃ (i n : Nat), ls[i]? = some (Ln.told n) ∧ k ≤ n := by
      apply Classical.byContradiction
      intro hx
      apply hk
      refine (least_le k ls 0).mpr ⟨Nat.zero_le _, fun l hl n e => ?_⟩
      subst e
      obtain ⟨i, hi⟩ := List.getElem?_of_mem hl
      apply Classical.byContradiction
      intro hn
      exact hx ⟨i, n, hi, by omega⟩
    obtain ⟨i, n, hi, hn⟩ := this
    have key : ∀ (l : List D) (j : Nat), (∃ (i : Nat) (x : D), l[i]? = some x ∧ lineB x ((j + i : Nat) : Int) (k : Int) = false) → recA l j (k : Int) = false := fun l => by
      induction l with
      | nil => rintro j ⟨i, x, e, _⟩; cases e
      | cons y l ih =>
        rintro j ⟨i, x, e, hx⟩
        show (lineB y (j : Int) (k : Int) && recA l (j + 1) (k : Int)) = false
        cases i with
        | zero => cases e; rw [show lineB y (j : Int) (k : Int) = false from hx, Bool.false_and]
        | succ i => rw [ih (j + 1) ⟨i, x, e, by rw [show j + 1 + i = j + (i + 1) by omega]; exact hx⟩, Bool.and_false]
    cases ls with
    | nil => exact absurd rfl hne
    | cons l0 r =>
      refine key (lnl (l0 :: r)) 0 ⟨i, enc (Ln.told n), by unfold lnl; rw [List.getElem?_map, hi]; rfl, ?_⟩
      rw [enc_eq]
      unfold lineB
      dsimp only
      rw [numB_nl, Bool.true_and]
      unfold tailB
      have k1 : ¬ Str.ofString "told" = Str.ofString "still" := by decide +kernel
      simp only [word, if_neg k1, if_true]
      simp only [nums, nl, List.map_cons, List.map_nil, List.length_cons, List.length_nil, List.getD_cons_zero, ltB]
      simp; omega
theorem recA_bad {c : Int} : ∀ (l : List D) (j i : Nat) (x : D), l[i]? = some x → lineB x ((j + i : Nat) : Int) c = false → recA l j c = false
  | [], _, _, _, e, _ => nomatch e
  | y :: l, j, 0, x, e, hx => by
    cases e
    show (lineB y (j : Int) c && recA l (j + 1) c) = false
    rw [show lineB y (j : Int) c = false from hx, Bool.false_and]
  | y :: l, j, i + 1, x, e, hx => by
    show (lineB y (j : Int) c && recA l (j + 1) c) = false
    rw [recA_bad l (j + 1) i x e (by rw [show j + 1 + i = j + (i + 1) by omega]; exact hx), Bool.and_false]
theorem recB_bad {c : Int} {l : List D} {i : Nat} {x : D} (e : l[i]? = some x) (hx : lineB x (i : Int) c = false) : recB (.list l) c = false := by
  cases l with
  | nil => rfl
  | cons y l => exact recA_bad (y :: l) 0 i x e (by rw [Nat.zero_add]; exact hx)
abbrev sD (x : String) : D := .str (Str.ofString x)
def oddL (a c : Int) : List D :=
  [.list [sD "still"], .tuple [], .none, sD "still", .int 0, .bool true, .dict [], .tuple [sD "Still"], .tuple [sD ""], .tuple [sD "still", .int 0], .tuple [sD "still", .none],
   .tuple [sD "told"], .tuple [sD "told", .int c], .tuple [sD "told", .int (-1)], .tuple [sD "told", sD "0"], .tuple [sD "told", .none], .tuple [sD "told", .bool false],
   .tuple [sD "told", .int 0, .int 0], .list [sD "told", .int 0], .tuple [sD "told", .tuple [.int 0]], .tuple [sD "told 0"], .tuple [sD "told", .int (c + 10 ^ Int.toNat 30)], .tuple [.tuple [sD "told", .int 0]],
   .tuple [sD "behind", .int a, .int 0], .tuple [sD "behind", .int 0, .int a], .tuple [sD "behind", .int 0], .tuple [sD "behind", .int 0, .int 0, .int 0], .tuple [sD "behind", .int (-1), .int 0],
   .tuple [sD "behind", .int 0, .int (-1)], .tuple [sD "behind", .bool false, .bool false], .tuple [sD "behind", sD "0", .int 0], .tuple [sD "behind"], .tuple [sD "back", .int a],
   .tuple [sD "back", .int (-1)], .tuple [sD "back"], .tuple [sD "back", .int 0, .int 0], .tuple [sD "back", .bool false], .tuple [sD "back", .int (a + 10 ^ Int.toNat 30)], .tuple [.int 0], .tuple [.none, .int 0]]
def oddW (ls : List Ln) : List D := [.tuple (lnl ls), .list [], .none, sD "", sD "still", .int 0, .bool true, .dict [], .list [.list (lnl ls)], (lnl ls).getD 0 .none, .list [.list []], .list [.none]]
theorem tb_told (ns : List D) (a c : Int) : tailB (Str.ofString "told") ns a c = (decide (ns.length = 1) && ltB (ns.getD 0 .none) c) := by
  unfold tailB; rw [if_neg (by decide +kernel), if_pos rfl]
theorem tb_still (ns : List D) (a c : Int) : tailB (Str.ofString "still") ns a c = decide (ns.length = 0) := by
  unfold tailB; rw [if_pos rfl]
theorem tb_behind (ns : List D) (a c : Int) : tailB (Str.ofString "behind") ns a c = (decide (ns.length = 2) && (ltB (ns.getD 0 .none) a && ltB (ns.getD 1 .none) a)) := by
  unfold tailB; rw [if_neg (by decide +kernel), if_neg (by decide +kernel), if_pos rfl]
theorem tb_back (ns : List D) (a c : Int) : tailB (Str.ofString "back") ns a c = (decide (ns.length = 1) && ltB (ns.getD 0 .none) a) := by
  unfold tailB; rw [if_neg (by decide +kernel), if_neg (by decide +kernel), if_neg (by decide +kernel), decide_eq_true rfl, Bool.true_and]
theorem tb_else {s : Str} (ns : List D) (a c : Int) (h1 : ¬ s = Str.ofString "still") (h2 : ¬ s = Str.ofString "told") (h3 : ¬ s = Str.ofString "behind") (h4 : ¬ s = Str.ofString "back") : tailB s ns a c = false := by
  unfold tailB; rw [if_neg h1, if_neg h2, if_neg h3, decide_eq_false h4, Bool.false_and]
theorem oddL_bad (a c : Nat) : ∀ d ∈ oddL (a : Int) (c : Int), lineB d (a : Int) (c : Int) = false := by
  intro d hd
  have p : ((10 : Int) ^ Int.toNat 30) > 0 := by decide
  simp only [oddL, List.mem_cons, List.not_mem_nil, or_false] at hd
  have e1 := tb_else (s := Str.ofString "Still") [] (a : Int) (c : Int) (by decide +kernel) (by decide +kernel) (by decide +kernel) (by decide +kernel)
  have e2 := tb_else (s := Str.ofString "") [] (a : Int) (c : Int) (by decide +kernel) (by decide +kernel) (by decide +kernel) (by decide +kernel)
  have e3 := tb_else (s := Str.ofString "told 0") [] (a : Int) (c : Int) (by decide +kernel) (by decide +kernel) (by decide +kernel) (by decide +kernel)
  rcases hd with rfl | rfl | rfl | rfl | rfl | rfl | rfl | rfl | rfl | rfl | rfl | rfl | rfl | rfl | rfl | rfl | rfl | rfl | rfl | rfl | rfl | rfl | rfl | rfl | rfl | rfl | rfl | rfl | rfl | rfl | rfl | rfl | rfl | rfl | rfl | rfl | rfl | rfl | rfl | rfl <;>
    first | rfl | (simp only [lineB, sD, List.all_cons, List.all_nil, numB, tb_told, tb_still, tb_behind, tb_back, e1, e2, e3, List.length_cons, List.length_nil, List.getD_cons_zero, List.getD_cons_succ, ltB]; simp; try omega)
theorem sh_of (x : String) (h : PyData.strOk (Str.ofString x) = true) : SeqAt.shaped (sD x) = true := shaped_str h
theorem oddL_head (a c : Int) : ∀ d ∈ oddL a c, headOk d := by
  intro d hd s ns e
  subst e
  simp only [oddL, List.mem_cons, List.not_mem_nil, or_false, PyData.tuple.injEq, List.cons.injEq, reduceCtorEq, false_and, false_or, or_false] at hd
  have st : ∀ x : String, PyData.str s = sD x → PyData.strOk (Str.ofString x) = true → SeqAt.shaped (.str s) = true := fun x e h => by rw [e]; exact sh_of x h
  rcases hd with h | h | h | h | h | h | h | h | h | h | h | h | h | h | h | h | h | h | h | h | h | h | h | h | h | h | h | h | h <;> first
    | exact st _ h.1 (by decide +kernel)
theorem oddW_bad (l : Ln) (ls : List Ln) (c : Int) : ∀ d ∈ oddW (l :: ls), recB d c = false := by
  intro d hd
  simp only [oddW, List.mem_cons, List.not_mem_nil, or_false] at hd
  rcases hd with rfl | rfl | rfl | rfl | rfl | rfl | rfl | rfl | rfl | rfl | rfl | rfl <;> first | rfl | (cases l <;> rfl)
theorem oddW_ok (l : Ln) (ls : List Ln) : ∀ d ∈ oddW (l :: ls), ∀ xs, d = .list xs → xs.length ≤ 1000 ∧ ∀ x ∈ xs, headOk x := by
  intro d hd xs e
  subst e
  simp only [oddW, List.mem_cons, List.not_mem_nil, or_false, reduceCtorEq, false_or, PyData.list.injEq] at hd
  have one : ∀ y : D, (∀ s ns, y ≠ .tuple (.str s :: ns)) → ∀ x ∈ [y], headOk x := fun y hy x hx s ns e => by
    rw [List.mem_singleton] at hx
    subst hx
    exact absurd e (hy s ns)
  rcases hd with rfl | rfl | h | rfl | rfl
  · exact ⟨by simp, fun x hx => by cases hx⟩
  · exact ⟨by simp, one _ fun _ _ e => by cases e⟩
  · cases l <;> cases h
  · exact ⟨by simp, one _ fun _ _ e => by cases e⟩
  · exact ⟨by simp, one _ fun _ _ e => by cases e⟩
end
end Cl

set_option Elab.async false
set_option linter.all false
set_option maxRecDepth 100000
set_option maxHeartbeats 4000000
namespace Cl
open PySem PySem.Spec L2 Tb
/-! ### groups made of turnings; chains of lifts -/
section
theorem bh_rg {n : Nat} {a : List Nat} (h : IsT n a) : bh a (List.range n) = a := by
  refine list_ext_getD (bh_len _ _) fun x hx => ?_
  rw [bh_len] at hx
  rw [bh_at hx, range_getD (h.lt _ (getD_mem hx))]
theorem rg_bh {n : Nat} {a : List Nat} (h : IsT n a) : bh (List.range n) a = a := by
  refine list_ext_getD (by rw [bh_len, List.length_range, h.len]) fun x hx => ?_
  rw [bh_len] at hx
  rw [bh_at hx]
  rw [List.length_range] at hx
  rw [range_getD hx]
theorem bh_as {n : Nat} {a b c : List Nat} (ha : IsT n a) (hb : IsT n b) : bh (bh a b) c = bh a (bh b c) := by
  refine list_ext_getD (by rw [bh_len, bh_len, bh_len]) fun x hx => ?_
  rw [bh_len, bh_len] at hx
  rw [bh_at (by rw [bh_len]; exact hx), bh_at hx, bh_at hx, bh_at (by rw [hb.len]; exact ha.lt _ (getD_mem hx))]
theorem bh_bkr {n : Nat} {a : List Nat} (h : IsT n a) : bh a (bk a) = List.range n := by
  refine list_ext_getD (by rw [bh_len, List.length_range, h.len]) fun x hx => ?_
  rw [bh_len, h.len] at hx
  rw [bh_at (by rw [h.len]; exact hx), h.bk_at hx, range_getD hx]
theorem bh_bkl {n : Nat} {a : List Nat} (h : IsT n a) : bh (bk a) a = List.range n := by
  refine list_ext_getD (by rw [bh_len, bk_len, List.length_range, h.len]) fun x hx => ?_
  rw [bh_len, bk_len, h.len] at hx
  rw [bh_at (by rw [bk_len, h.len]; exact hx), h.at_bk hx, range_getD hx]
theorem bh_at' {n : Nat} {a b : List Nat} (ha : IsT n a) {x : Nat} (hx : x < n) : (bh a b).getD x 0 = b.getD (a.getD x 0) 0 := bh_at (by rw [ha.len]; exact hx)
/-- what keeps all places below s -/
def Fx (s : Nat) (t : List Nat) : Prop := ∀ i, i < s → t.getD i 0 = i
theorem Fx.bh {n s : Nat} {a b : List Nat} (hs : s ≤ n) (ha : IsT n a) (fa : Fx s a) (fb : Fx s b) : Fx s (bh a b) := fun i hi => by
  rw [bh_at' ha (by omega), fa i hi, fb i hi]
theorem Fx.bk {n s : Nat} {a : List Nat} (hs : s ≤ n) (ha : IsT n a) (fa : Fx s a) : Fx s (Cl.bk a) := fun i hi => by
  have := ha.bk_at (x := i) (by omega)
  rw [fa i hi] at this
  exact this
theorem Fx.rg {n s : Nat} (hs : s ≤ n) : Fx s (List.range n) := fun i hi => range_getD (by omega)
theorem Fx.all {n : Nat} {a : List Nat} (ha : IsT n a) (fa : Fx n a) : a = List.range n := list_ext_getD (by rw [ha.len, List.length_range]) fun x hx => by
  rw [ha.len] at hx
  rw [fa x hx, range_getD hx]
theorem Fx.mono {s s' : Nat} {a : List Nat} (h : s ≤ s') (fa : Fx s' a) : Fx s a := fun i hi => fa i (by omega)
/-- what X makes -/
inductive Gn (n : Nat) (X : List Nat → Prop) : List Nat → Prop
  | one : Gn n X (List.range n)
  | mul {x g : List Nat} : Gn n X x → X g → Gn n X (bh x g)
section
variable {n : Nat} {X Y : List Nat → Prop}
theorem Gn.isT (hX : ∀ g, X g → IsT n g) {x : List Nat} (h : Gn n X x) : IsT n x := by
  induction h with
  | one => exact .range n
  | mul _ g ih => exact ih.bh (hX _ g)
theorem Gn.gen (hX : ∀ g, X g → IsT n g) {g : List Nat} (h : X g) : Gn n X g := by
  have := Gn.mul (n := n) (X := X) .one h
  rwa [rg_bh (hX g h)] at this
theorem Gn.prod (hX : ∀ g, X g → IsT n g) {x y : List Nat} (hx : Gn n X x) (hy : Gn n X y) : Gn n X (bh x y) := by
  induction hy with
  | one => rw [bh_rg (hx.isT hX)]; exact hx
  | mul h g ih => rw [← bh_as (hx.isT hX) (h.isT hX)]; exact .mul ih g
theorem Gn.sub (hX : ∀ g, X g → IsT n g) (hY : ∀ g, Y g → IsT n g) (h : ∀ g, X g → Gn n Y g) {x : List Nat} (hx : Gn n X x) : Gn n Y x := by
  induction hx with
  | one => exact .one
  | mul _ g ih => exact ih.prod hY (h _ g)
theorem Gn.mono (h : ∀ g, X g → Y g) {x : List Nat} (hx : Gn n X x) : Gn n Y x := by
  induction hx with
  | one => exact .one
  | mul _ g ih => exact .mul ih (h _ g)
theorem Gn.fx {s : Nat} (hs : s ≤ n) (hX : ∀ g, X g → IsT n g) (hf : ∀ g, X g → Fx s g) {x : List Nat} (hx : Gn n X x) : Fx s x := by
  induction hx with
  | one => exact .rg hs
  | mul h g ih => exact ih.bh hs (h.isT hX) (hf _ g)
/-- powers by whole numbers from 0 on -/
def pwN (n : Nat) (t : List Nat) : Nat → List Nat
  | 0 => List.range n
  | k + 1 => bh (pwN n t k) t
theorem pwN_isT {t : List Nat} (ht : IsT n t) : ∀ k, IsT n (pwN n t k)
  | 0 => .range n
  | k + 1 => (pwN_isT ht k).bh ht
theorem pwN_at {t : List Nat} (ht : IsT n t) {x : Nat} (hx : x < n) : ∀ k, (pwN n t k).getD x 0 = it t k x
  | 0 => range_getD hx
  | k + 1 => by
    show (bh (pwN n t k) t).getD x 0 = _
    rw [bh_at' (pwN_isT ht k) hx, pwN_at ht hx k]; rfl
theorem Gn.pw (hX : ∀ g, X g → IsT n g) {t : List Nat} (h : Gn n X t) : ∀ k, Gn n X (pwN n t k)
  | 0 => .one
  | k + 1 => (Gn.pw hX h k).prod hX h
def facN : Nat → Nat
  | 0 => 1
  | k + 1 => (k + 1) * facN k
theorem facN_pos : ∀ k, 0 < facN k
  | 0 => by decide
  | k + 1 => Nat.mul_pos (by omega) (facN_pos k)
theorem dvd_fac : ∀ {n k : Nat}, 0 < k → k ≤ n → k ∣ facN n
  | 0, k, h, h2 => by omega
  | n + 1, k, h, h2 => by
    rcases Nat.lt_or_eq_of_le h2 with h3 | h3
    · exact Nat.dvd_trans (dvd_fac h (by omega)) (Nat.dvd_mul_left _ _)
    · subst h3; exact Nat.dvd_mul_right _ _
theorem pwN_fac {t : List Nat} (ht : IsT n t) : pwN n t (facN n) = List.range n := by
  refine list_ext_getD (by rw [(pwN_isT ht _).len, List.length_range]) fun x hx => ?_
  rw [(pwN_isT ht _).len] at hx
  rw [pwN_at ht hx, range_getD hx]
  obtain ⟨m, hm⟩ := dvd_fac (ht.per_pos hx) (ht.per_le_n hx)
  rw [hm, Nat.mul_comm]
  exact ht.it_mul hx m
theorem Gn.inv (hX : ∀ g, X g → IsT n g) {t : List Nat} (h : Gn n X t) : Gn n X (bk t) := by
  have ht := h.isT hX
  have e := pwN_fac ht
  obtain ⟨k, hk⟩ : ∃ k, facN n = k + 1 := ⟨facN n - 1, by have := facN_pos n; omega⟩
  rw [hk] at e
  have : bk t = pwN n t k := by
    have e2 : bh (pwN n t k) t = List.range n := e
    rw [← bh_rg (pwN_isT ht k), ← bh_bkr ht, ← bh_as (pwN_isT ht k) ht, e2, rg_bh ht.bk]
  rw [this]
  exact h.pw hX k
end
/-! chains -/
structure Stp where
  lifts : List (Nat × (List Nat × Nat))
  mks : List (List Nat × Nat)
structure Chn where
  n : Nat
  lines : List Ln
  steps : List Stp
def rst : List Stp → Nat → List Nat → Nat × List Nat
  | [], s, one => (s, one)
  | S :: r, s, one => match S.lifts.lookup (one.getD s 0) with
    | none => (s, one)
    | some u => if one.getD s 0 = s then rst r (s + 1) one else rst r (s + 1) (bh one (bk u.1))
def rstC (C : Chn) (s : Nat) (one : List Nat) : Nat × List Nat := rst (C.steps.drop s) s one
def Sf (C : Chn) (s : Nat) (one : List Nat) : Prop := (rstC C s one).1 = C.n
structure SOk (n s L : Nat) (S : Stp) : Prop where
  home : S.lifts.lookup s = some (List.range n, 0)
  nd : (S.lifts.map (·.1)).Nodup
  lt : ∀ p ∈ S.lifts, p.1 < n ∧ IsT n p.2.1 ∧ Fx s p.2.1 ∧ p.2.1.getD s 0 = p.1 ∧ p.2.2 < L
  ms : ∀ g ∈ S.mks, IsT n g.1 ∧ Fx s g.1 ∧ g.2 < L
structure COk (C : Chn) : Prop where
  len : C.steps.length = C.n
  st : ∀ s S, C.steps[s]? = some S → SOk C.n s C.lines.length S
theorem lookup_mem2 {β : Type} {x : Nat} {v : β} : ∀ {l : List (Nat × β)}, l.lookup x = some v → (x, v) ∈ l
  | [], h => nomatch h
  | (y, w) :: l, h => by
    rw [List.lookup_cons] at h
    cases hb : x == y with
    | true =>
      rw [hb] at h
      rw [beq_iff_eq.mp hb]
      cases h; exact List.mem_cons_self
    | false => rw [hb] at h; exact List.mem_cons_of_mem _ (lookup_mem2 h)
theorem mem_lookup {β : Type} {x : Nat} {v : β} : ∀ {l : List (Nat × β)}, (l.map (·.1)).Nodup → (x, v) ∈ l → l.lookup x = some v
  | [], _, h => nomatch h
  | (y, w) :: l, hn, h => by
    rw [List.map_cons] at hn
    obtain ⟨n1, n2⟩ := List.nodup_cons.mp hn
    rw [List.lookup_cons]
    rcases List.mem_cons.mp h with e | h2
    · cases e; simp
    · have : (x == y) = false := by
        rw [beq_eq_false_iff_ne]
        intro e
        exact n1 (List.mem_map.mpr ⟨_, h2, e⟩)
      rw [this]; exact mem_lookup n2 h2
theorem lookup_none {β : Type} {x : Nat} : ∀ {l : List (Nat × β)}, l.lookup x = none ↔ x ∉ l.map (·.1)
  | [] => by simp
  | (y, w) :: l => by
    rw [List.lookup_cons, List.map_cons, List.mem_cons]
    cases hb : x == y with
    | true => simp [beq_iff_eq.mp hb]
    | false =>
      have : x ≠ y := by rw [beq_eq_false_iff_ne] at hb; exact hb
      simp only [this, false_or]
      exact lookup_none
theorem lookup_app {β : Type} {x : Nat} {l l2 : List (Nat × β)} : (l ++ l2).lookup x = match l.lookup x with | some v => some v | none => l2.lookup x := by
  induction l with
  | nil => rfl
  | cons p l ih =>
    obtain ⟨y, w⟩ := p
    rw [List.cons_append, List.lookup_cons, List.lookup_cons]
    cases x == y with
    | true => rfl
    | false => exact ih
section
variable {C C' : Chn} {s : Nat} {S : Stp} {x : List Nat}
theorem COk.lift (hC : COk C) (hS : C.steps[s]? = some S) {y : Nat} {u : List Nat × Nat} (h : S.lifts.lookup y = some u) : y < C.n ∧ IsT C.n u.1 ∧ Fx s u.1 ∧ u.1.getD s 0 = y ∧ u.2 < C.lines.length := (hC.st s S hS).lt _ (lookup_mem2 h)
theorem COk.lt (hC : COk C) (hS : C.steps[s]? = some S) : s < C.n := by rw [← hC.len]; exact (List.getElem?_eq_some_iff.mp hS).1
theorem COk.get (hC : COk C) (hs : s < C.n) : ∃ S, C.steps[s]? = some S := ⟨C.steps[s]'(by rw [hC.len]; exact hs), List.getElem?_eq_getElem _⟩
theorem rst_step (hS : C.steps[s]? = some S) : rstC C s x = match S.lifts.lookup (x.getD s 0) with | none => (s, x) | some u => if x.getD s 0 = s then rstC C (s + 1) x else rstC C (s + 1) (bh x (bk u.1)) := by
  obtain ⟨h, e⟩ := List.getElem?_eq_some_iff.mp hS
  unfold rstC
  rw [List.drop_eq_getElem_cons h, e]
  rfl
theorem Sf_end (hC : COk C) : Sf C C.n x := by
  unfold Sf rstC
  rw [List.drop_eq_nil_of_le (by rw [hC.len]; exact Nat.le_refl _)]
  rfl
theorem Sf_step (hC : COk C) (hS : C.steps[s]? = some S) (hx : IsT C.n x) : Sf C s x ↔ ∃ u, S.lifts.lookup (x.getD s 0) = some u ∧ Sf C (s + 1) (bh x (bk u.1)) := by
  have hs := hC.lt hS
  unfold Sf
  rw [rst_step hS]
  cases e : S.lifts.lookup (x.getD s 0) with
  | none =>
    constructor
    · intro h; have h : s = C.n := h; omega
    · rintro ⟨u, h, _⟩; cases h
  | some u =>
    dsimp only
    by_cases h : x.getD s 0 = s
    · rw [if_pos h]
      rw [h, (hC.st s S hS).home] at e
      cases e
      constructor
      · intro h2; exact ⟨_, rfl, by rw [bk_range, bh_rg hx]; exact h2⟩
      · rintro ⟨u, e2, h2⟩; cases e2; rw [bk_range, bh_rg hx] at h2; exact h2
    · rw [if_neg h]
      constructor
      · intro h2; exact ⟨_, rfl, h2⟩
      · rintro ⟨u', e2, h2⟩; cases e2; exact h2
theorem Sf_rg (hC : COk C) : ∀ k s, s + k = C.n → Sf C s (List.range C.n)
  | 0, s, h => by
    have : s = C.n := by omega
    rw [this]; exact Sf_end hC
  | k + 1, s, h => by
    obtain ⟨S, hS⟩ := hC.get (s := s) (by omega)
    refine (Sf_step hC hS (.range _)).mpr ⟨_, by rw [range_getD (by omega)]; exact (hC.st s S hS).home, ?_⟩
    rw [bk_range, bh_rg (.range _)]
    exact Sf_rg hC k (s + 1) (by omega)
theorem Sf_one (hC : COk C) (hs : s ≤ C.n) : Sf C s (List.range C.n) := Sf_rg hC (C.n - s) s (by omega)
/-- the lifts only grow -/
def Ext (C C' : Chn) (s : Nat) : Prop := ∀ r, s ≤ r → ∀ S S', C.steps[r]? = some S → C'.steps[r]? = some S' → ∀ y u, S.lifts.lookup y = some u → S'.lifts.lookup y = some u
theorem Sf_ext (hC : COk C) (hC' : COk C') (hn : C'.n = C.n) : ∀ k s, s + k = C.n → Ext C C' s → ∀ x, IsT C.n x → Sf C s x → Sf C' s x
  | 0, s, h, _, x, hx, _ => by
    have : s = C'.n := by omega
    rw [this]; exact Sf_end hC'
  | k + 1, s, h, e, x, hx, hsf => by
    obtain ⟨S, hS⟩ := hC.get (s := s) (by omega)
    obtain ⟨S', hS'⟩ := hC'.get (s := s) (by omega)
    obtain ⟨u, h1, h2⟩ := (Sf_step hC hS hx).mp hsf
    refine (Sf_step hC' hS' (by rw [hn]; exact hx)).mpr ⟨u, e s (Nat.le_refl _) S S' hS hS' _ _ h1, ?_⟩
    exact Sf_ext hC hC' hn k (s + 1) (by omega) (fun r hr => e r (by omega)) _ (hx.bh (hC.lift hS h1).2.1.bk) h2
/-- the makers at a step -/
def MkOf (C : Chn) (s : Nat) (g : List Nat) : Prop := ∃ S l, C.steps[s]? = some S ∧ (g, l) ∈ S.mks
theorem mk_isT (hC : COk C) (g : List Nat) (h : MkOf C s g) : IsT C.n g := by
  obtain ⟨S, l, hS, hm⟩ := h
  exact ((hC.st s S hS).ms _ hm).1
theorem mk_fx (hC : COk C) (g : List Nat) (h : MkOf C s g) : Fx s g := by
  obtain ⟨S, l, hS, hm⟩ := h
  exact ((hC.st s S hS).ms _ hm).2.1
/-- what is left of a lift and a maker behind it -/
def resid (u g w : List Nat) : List Nat := bh (bh u g) (bk w)
def Cmp (C : Chn) (s : Nat) : Prop := ∀ S, C.steps[s]? = some S → ∀ y u, S.lifts.lookup y = some u → ∀ g ∈ S.mks, ∃ w, S.lifts.lookup (g.1.getD y 0) = some w ∧ Sf C (s + 1) (resid u.1 g.1 w.1)
structure GOk (C : Chn) : Prop where
  lf : ∀ s S, C.steps[s]? = some S → ∀ p ∈ S.lifts, Gn C.n (MkOf C s) p.2.1
  up : ∀ s g, MkOf C (s + 1) g → Gn C.n (MkOf C s) g
theorem resid_ok (hC : COk C) (hS : C.steps[s]? = some S) {y : Nat} {u w : List Nat × Nat} {g : List Nat} (hu : S.lifts.lookup y = some u) (hg : IsT C.n g) (fg : Fx s g) (hw : S.lifts.lookup (g.getD y 0) = some w) :
    IsT C.n (resid u.1 g w.1) ∧ Fx (s + 1) (resid u.1 g w.1) := by
  obtain ⟨y1, u1, u2, u3, _⟩ := hC.lift hS hu
  obtain ⟨w0, w1, w2, w3, _⟩ := hC.lift hS hw
  have hs := hC.lt hS
  have i1 : IsT C.n (bh u.1 g) := u1.bh hg
  refine ⟨i1.bh w1.bk, fun i hi => ?_⟩
  unfold resid
  rcases Nat.lt_or_eq_of_le (Nat.le_of_lt_succ hi) with h | h
  · exact Fx.bh (by omega) i1 (Fx.bh (by omega) u1 u2 fg) (Fx.bk (by omega) w1 w2) i h
  · subst h
    rw [bh_at' i1 hs, bh_at' u1 hs, u3, ← w3, w1.bk_at hs]
/-- a chain that is complete from a place on has just what its makers there make -/
theorem chain_main (hC : COk C) (hG : GOk C) : ∀ k s, s + k = C.n → (∀ r, s ≤ r → r < C.n → Cmp C r) → ∀ x, IsT C.n x → Fx s x → (Sf C s x ↔ Gn C.n (MkOf C s) x)
  | 0, s, h, _, x, hx, fx => by
    have e : s = C.n := by omega
    subst e
    have := Fx.all hx fx
    subst this
    exact ⟨fun _ => .one, fun _ => Sf_end hC⟩
  | k + 1, s, h, hc, x, hx, fx => by
    have hs : s < C.n := by omega
    obtain ⟨S, hS⟩ := hC.get hs
    have ih := chain_main hC hG k (s + 1) (by omega) (fun r hr => hc r (by omega))
    have mi : ∀ g, MkOf C s g → IsT C.n g := mk_isT hC
    have mi1 : ∀ g, MkOf C (s + 1) g → IsT C.n g := mk_isT hC
    constructor
    · intro hsf
      obtain ⟨u, h1, h2⟩ := (Sf_step hC hS hx).mp hsf
      obtain ⟨y1, u1, u2, u3, _⟩ := hC.lift hS h1
      have ih2 : IsT C.n (bh x (bk u.1)) := hx.bh u1.bk
      have f2 : Fx (s + 1) (bh x (bk u.1)) := fun i hi => by
        rcases Nat.lt_or_eq_of_le (Nat.le_of_lt_succ hi) with h | h
        · exact Fx.bh (by omega) hx fx (Fx.bk (by omega) u1 u2) i h
        · subst h
          rw [bh_at' hx hs, ← u3, u1.bk_at hs]
      have g1 := (ih _ ih2 f2).mp h2
      have g2 : Gn C.n (MkOf C s) (bh x (bk u.1)) := Gn.sub mi1 mi (fun g hg => hG.up s g hg) g1
      have g3 := hG.lf s S hS _ (lookup_mem2 h1)
      have := g2.prod mi g3
      rw [bh_as hx u1.bk, bh_bkl u1, bh_rg hx] at this
      exact this
    · intro hg
      clear hx fx
      induction hg with
      | one => exact Sf_one hC (by omega)
      | @mul x g hx' hgm ihx =>
        have hx : IsT C.n x := hx'.isT mi
        have fx : Fx s x := hx'.fx (by omega) mi (fun g hg => mk_fx hC g hg)
        obtain ⟨u, h1, h2⟩ := (Sf_step hC hS hx).mp ihx
        obtain ⟨y1, u1, u2, u3, _⟩ := hC.lift hS h1
        have gi := mi g hgm
        have gf := mk_fx hC g hgm
        obtain ⟨S', l, hS', hm⟩ := hgm
        rw [hS] at hS'; cases hS'
        obtain ⟨w, w1, w2⟩ := hc s (Nat.le_refl _) hs S hS _ u h1 _ hm
        dsimp only at w1 w2
        obtain ⟨k0, k1, k2, k3, _⟩ := hC.lift hS w1
        obtain ⟨r1, r2⟩ := resid_ok hC hS h1 gi gf w1
        have f2 : Fx (s + 1) (bh x (bk u.1)) := fun i hi => by
          rcases Nat.lt_or_eq_of_le (Nat.le_of_lt_succ hi) with h | h
          · exact Fx.bh (by omega) hx fx (Fx.bk (by omega) u1 u2) i h
          · subst h
            rw [bh_at' hx hs, ← u3, u1.bk_at hs]
        have i2 : IsT C.n (bh x (bk u.1)) := hx.bh u1.bk
        have a1 := (ih _ i2 f2).mp h2
        have a2 := (ih _ r1 r2).mp w2
        have a3 := (ih _ (i2.bh r1) (Fx.bh (by omega) i2 f2 r2)).mpr (a1.prod mi1 a2)
        refine (Sf_step hC hS (hx.bh gi)).mpr ⟨w, by rw [bh_at' hx hs]; exact w1, ?_⟩
        have e : bh (bh x (bk u.1)) (resid u.1 g w.1) = bh (bh x g) (bk w.1) := by
          unfold resid
          rw [← bh_as i2 (u1.bh gi), ← bh_as i2 u1, bh_as hx u1.bk, bh_bkl u1, bh_rg hx]
        rw [← e]; exact a3
end
end
end Cl

set_option Elab.async false
set_option linter.all false
set_option maxRecDepth 100000
set_option maxHeartbeats 4000000
namespace Cl
open PySem PySem.Spec L2 Tb
/-! ### a chain that grows -/
section
abbrev Task := Nat × List Nat × List Nat
def Done1 (C : Chn) (s : Nat) (S : Stp) (tks : List Task) (y : Nat) (g : List Nat) : Prop := ∃ u w, S.lifts.lookup y = some u ∧ S.lifts.lookup (g.getD y 0) = some w ∧
  (Sf C (s + 1) (resid u.1 g w.1) ∨ (∃ m, (s + 1, resid u.1 g w.1, m) ∈ tks) ∨ MkOf C (s + 1) (resid u.1 g w.1))
def Dn (C : Chn) (s : Nat) : Nat := ((C.steps.drop s).map fun S => S.lifts.length).sum
structure TOk (C : Chn) (t : Task) : Prop where
  le : t.1 ≤ C.n
  is : IsT C.n t.2.1
  fx : Fx t.1 t.2.1
  ln : (∃ a, t.2.2 = [a]) ∨ ∃ a b c, t.2.2 = [a, b, c]
  ll : ∀ a ∈ t.2.2, a < C.lines.length
  up : ∀ s, t.1 = s + 1 → Gn C.n (MkOf C s) t.2.1
structure GI (C : Chn) (tks : List Task) : Prop where
  ok : COk C
  gen : GOk C
  pnd : ∀ s S, C.steps[s]? = some S → ∀ y u, S.lifts.lookup y = some u → ∀ g ∈ S.mks, Done1 C s S tks y g.1
  chg : ∀ s S, C.steps[s]? = some S → S.mks.length ≤ Dn C s + 1 ∧ ((∀ g ∈ S.mks, Sf C s g.1) → S.mks.length ≤ Dn C s)
  tok : ∀ t ∈ tks, TOk C t
  srt : tks.Pairwise fun a b => a.1 ≤ b.1
theorem mk_sf {C : Chn} {s : Nat} (hC : COk C) (hc : s < C.n → Cmp C s) (hs : s ≤ C.n) {g : List Nat} (h : MkOf C s g) : Sf C s g := by
  have gi := mk_isT hC g h
  obtain ⟨S, l, hS, hm⟩ := h
  have lt := hC.lt hS
  obtain ⟨w, w1, w2⟩ := hc lt S hS s _ (hC.st s S hS).home _ hm
  refine (Sf_step hC hS gi).mpr ⟨w, w1, ?_⟩
  unfold resid at w2
  rw [rg_bh gi] at w2
  exact w2
theorem GI.cmp {C : Chn} {tks : List Task} (h : GI C tks) {s : Nat} (ht : ∀ t ∈ tks, t.1 ≤ s) : ∀ k r, r + k = C.n → s ≤ r → r < C.n → Cmp C r
  | 0, r, e, _, hr => by omega
  | k + 1, r, e, hs, hr => by
    intro S hS y u hu g hg
    obtain ⟨u', w, h1, h2, h3⟩ := h.pnd r S hS y u hu g hg
    rw [hu] at h1; cases h1
    refine ⟨w, h2, ?_⟩
    rcases h3 with h3 | ⟨m, h3⟩ | h3
    · exact h3
    · have := ht _ h3
      dsimp only at this
      omega
    · exact mk_sf h.ok (fun hlt => GI.cmp h ht k (r + 1) (by omega) (by omega) hlt) (by omega) h3
theorem GI.cmpAll {C : Chn} {tks : List Task} (h : GI C tks) {s : Nat} (ht : ∀ t ∈ tks, t.1 ≤ s) {r : Nat} (hs : s ≤ r) (hr : r < C.n) : Cmp C r := h.cmp ht (C.n - r) r (by omega) hs hr
/-- a task that sifts away is done -/
theorem GI.pop {C : Chn} {tks : List Task} {t : Task} (h : GI C (tks ++ [t])) (hs : Sf C t.1 t.2.1) : GI C tks := by
  refine ⟨h.ok, h.gen, fun s S hS y u hu g hg => ?_, h.chg, fun t ht => h.tok t (List.mem_append_left _ ht), (List.pairwise_append.mp h.srt).1⟩
  obtain ⟨u', w, h1, h2, h3⟩ := h.pnd s S hS y u hu g hg
  refine ⟨u', w, h1, h2, ?_⟩
  rcases h3 with h3 | ⟨m, h3⟩ | h3
  · exact .inl h3
  · rcases List.mem_append.mp h3 with h3 | h3
    · exact .inr (.inl ⟨m, h3⟩)
    · have e := List.mem_singleton.mp h3
      subst e
      exact .inl hs
  · exact .inr (.inr h3)
/-- more lines -/
def moreL (C : Chn) (ls : List Ln) : Chn := { C with lines := C.lines ++ ls }
theorem GI.lines {C : Chn} {tks : List Task} (h : GI C tks) (ls : List Ln) : GI (moreL C ls) tks := by
  have le : C.lines.length ≤ (moreL C ls).lines.length := by show _ ≤ (C.lines ++ ls).length; rw [List.length_append]; omega
  exact ⟨⟨h.ok.len, fun s S hS => ⟨(h.ok.st s S hS).home, (h.ok.st s S hS).nd, fun p hp => by
      obtain ⟨a, b, c, d, e⟩ := (h.ok.st s S hS).lt p hp
      exact ⟨a, b, c, d, Nat.lt_of_lt_of_le e le⟩, fun g hg => by
      obtain ⟨a, b, c⟩ := (h.ok.st s S hS).ms g hg
      exact ⟨a, b, Nat.lt_of_lt_of_le c le⟩⟩⟩, ⟨h.gen.lf, h.gen.up⟩, h.pnd, h.chg, fun t ht => by
      obtain ⟨a, b, c, d, e, f⟩ := h.tok t ht
      exact ⟨a, b, c, d, fun a ha => Nat.lt_of_lt_of_le (e a ha) le, f⟩, h.srt⟩
/-- what one more maker at a step brings -/
structure Grw (C : Chn) (s : Nat) (x : List Nat) (l : Nat) (S : Stp) (new : List (Nat × (List Nat × Nat))) (C' : Chn) (nt : List Task) : Prop where
  n : C'.n = C.n
  hS : C.steps[s]? = some S
  st : C'.steps = C.steps.set s ⟨S.lifts ++ new, S.mks ++ [(x, l)]⟩
  ok : COk C'
  done : ∀ y u, (S.lifts ++ new).lookup y = some u → ∀ g ∈ S.mks ++ [(x, l)], (S.lifts.lookup y = some u ∧ g ∈ S.mks) ∨
    ∃ w, (S.lifts ++ new).lookup (g.1.getD y 0) = some w ∧ (resid u.1 g.1 w.1 = List.range C.n ∨ ∃ m, (s + 1, resid u.1 g.1 w.1, m) ∈ nt)
  gn : ∀ p ∈ new, Gn C.n (MkOf C' s) p.2.1
  nt1 : ∀ t ∈ nt, t.1 = s + 1
  nt2 : ∀ t ∈ nt, TOk C' t
  ln : ∃ ls, C'.lines = C.lines ++ ls ∧ ls.length = new.length
section
variable {C C' : Chn} {s : Nat} {x : List Nat} {l : Nat} {S : Stp} {new : List (Nat × (List Nat × Nat))} {nt : List Task}
theorem Grw.at (g : Grw C s x l S new C' nt) {r : Nat} : C'.steps[r]? = if r = s then some ⟨S.lifts ++ new, S.mks ++ [(x, l)]⟩ else C.steps[r]? := by
  rw [g.st, List.getElem?_set]
  have := (List.getElem?_eq_some_iff.mp g.hS).1
  by_cases h : s = r
  · rw [if_pos h, if_pos this, if_pos h.symm]
  · rw [if_neg h, if_neg (fun e => h e.symm)]
theorem Grw.ext (g : Grw C s x l S new C' nt) (r : Nat) : Ext C C' r := fun q _ A A' hA hA' y u hu => by
  rw [g.at] at hA'
  by_cases h : q = s
  · subst h
    rw [if_pos rfl] at hA'
    cases hA'
    rw [g.hS] at hA; cases hA
    rw [lookup_app, hu]
  · rw [if_neg h] at hA'
    rw [hA] at hA'; cases hA'
    exact hu
theorem Grw.sf (g : Grw C s x l S new C' nt) (hC : COk C) {r : Nat} (hr : r ≤ C.n) {y : List Nat} (hy : IsT C.n y) (h : Sf C r y) : Sf C' r y :=
  Sf_ext hC g.ok g.n (C.n - r) r (by omega) (g.ext r) y hy h
theorem Grw.mkUp (g : Grw C s x l S new C' nt) {r : Nat} {y : List Nat} (h : MkOf C r y) : MkOf C' r y := by
  obtain ⟨A, k, hA, hm⟩ := h
  by_cases e : r = s
  · subst e
    rw [g.hS] at hA; cases hA
    exact ⟨_, k, by rw [g.at, if_pos rfl], List.mem_append_left _ hm⟩
  · exact ⟨A, k, by rw [g.at, if_neg e]; exact hA, hm⟩
theorem Grw.mk' (g : Grw C s x l S new C' nt) {r : Nat} {y : List Nat} (h : MkOf C' r y) : MkOf C r y ∨ (r = s ∧ y = x) := by
  obtain ⟨A, k, hA, hm⟩ := h
  rw [g.at] at hA
  by_cases e : r = s
  · subst e
    rw [if_pos rfl] at hA
    cases hA
    rcases List.mem_append.mp hm with hm | hm
    · exact .inl ⟨S, k, g.hS, hm⟩
    · have := List.mem_singleton.mp hm
      cases this
      exact .inr ⟨rfl, rfl⟩
  · rw [if_neg e] at hA
    exact .inl ⟨A, k, hA, hm⟩
theorem Grw.mkNew (g : Grw C s x l S new C' nt) : MkOf C' s x := ⟨_, l, by rw [g.at, if_pos rfl], List.mem_append_right _ List.mem_cons_self⟩
theorem Grw.dn (g : Grw C s x l S new C' nt) (r : Nat) : Dn C' r = Dn C r + if r ≤ s then new.length else 0 := by
  unfold Dn
  have hs := (List.getElem?_eq_some_iff.mp g.hS)
  rw [g.st]
  by_cases h : r ≤ s
  · rw [if_pos h, List.drop_set, if_neg (by omega), List.map_set]
    obtain ⟨hs1, hs2⟩ := hs
    have key : ∀ (L : List Nat) (k a b : Nat), L[k]? = some a → (L.set k (a + b)).sum = L.sum + b := by
      intro L
      induction L with
      | nil => intro k a b h; simp at h
      | cons z L ih =>
        intro k a b h
        cases k with
        | zero => cases h; rw [List.set_cons_zero, List.sum_cons, List.sum_cons]; omega
        | succ k => rw [List.set_cons_succ, List.sum_cons, List.sum_cons, ih k a b (by simpa using h)]; omega
    have := key ((C.steps.drop r).map fun S => S.lifts.length) (s - r) S.lifts.length new.length (by
      rw [List.getElem?_map, List.getElem?_drop, show r + (s - r) = s by omega, g.hS]; rfl)
    rw [← this, List.length_append]
  · rw [if_neg h, Nat.add_zero, List.drop_set, if_pos (by omega)]
theorem Grw.same (g : Grw C s x l S new C' nt) {r : Nat} (h : s < r) {y : List Nat} : Sf C' r y ↔ Sf C r y := by
  unfold Sf rstC
  rw [g.st, g.n, List.drop_set, if_pos h]
theorem rst_congr : ∀ {L L' : List Stp}, L.map (·.lifts) = L'.map (·.lifts) → ∀ s y, rst L s y = rst L' s y
  | [], [], _, _, _ => rfl
  | [], _ :: _, h, _, _ => nomatch h
  | _ :: _, [], h, _, _ => nomatch h
  | A :: L, A' :: L', h, s, y => by
    simp only [List.map_cons, List.cons.injEq] at h
    unfold rst
    rw [h.1]
    cases A'.lifts.lookup (y.getD s 0) with
    | none => rfl
    | some u =>
      dsimp only
      rw [rst_congr h.2, rst_congr h.2]
theorem Grw.sameAll (g : Grw C s x l S [] C' nt) {r : Nat} {y : List Nat} : Sf C' r y ↔ Sf C r y := by
  unfold Sf rstC
  rw [g.n, rst_congr]
  rw [g.st]
  apply List.ext_getElem?
  intro i
  rw [List.getElem?_map, List.getElem?_map, List.getElem?_drop, List.getElem?_drop, List.getElem?_set]
  by_cases h : s = r + i
  · have := (List.getElem?_eq_some_iff.mp g.hS).1
    rw [if_pos h, if_pos this, ← h, g.hS]
    simp
  · rw [if_neg h]
theorem GI.grow {tks : List Task} {m : List Nat} (h : GI C (tks ++ [(s, x, m)])) (hn : ¬ Sf C s x) (g : Grw C s x l S new C' nt) : GI C' (tks ++ nt) := by
  have hC := h.ok
  have hlt := hC.lt g.hS
  obtain ⟨p1, _, p3⟩ := List.pairwise_append.mp h.srt
  have hle : ∀ t ∈ tks, t.1 ≤ s := fun t ht => p3 t ht _ List.mem_cons_self
  have hle' : ∀ t ∈ tks ++ [(s, x, m)], t.1 ≤ s := fun t ht => by
    rcases List.mem_append.mp ht with ht | ht
    · exact hle t ht
    · rw [List.mem_singleton.mp ht]; exact Nat.le_refl _
  have tx := h.tok (s, x, m) (List.mem_append_right _ List.mem_cons_self)
  have mi : ∀ {r}, ∀ g, MkOf C r g → IsT C.n g := fun {r} => mk_isT hC
  have mi' : ∀ {r}, ∀ g, MkOf C' r g → IsT C.n g := fun {r} y hy => by have := mk_isT g.ok y hy; rwa [g.n] at this
  have gmono : ∀ {r y}, Gn C.n (MkOf C r) y → Gn C.n (MkOf C' r) y := fun {r y} => Gn.mono fun z hz => g.mkUp hz
  refine ⟨g.ok, ⟨fun r A hA p hp => ?_, fun r y hy => ?_⟩, fun r A hA y u hu q hq => ?_, fun r A hA => ?_, fun t ht => ?_, ?_⟩
  · rw [g.n]
    rw [g.at] at hA
    by_cases e : r = s
    · subst e
      rw [if_pos rfl] at hA
      cases hA
      rcases List.mem_append.mp hp with hp | hp
      · exact gmono (h.gen.lf r S g.hS p hp)
      · exact g.gn p hp
    · rw [if_neg e] at hA
      exact gmono (h.gen.lf r A hA p hp)
  · rw [g.n]
    rcases g.mk' hy with hy | ⟨e, rfl⟩
    · exact gmono (h.gen.up r y hy)
    · exact gmono (tx.up r e.symm)
  · rw [g.at] at hA
    by_cases e : r = s
    · subst e
      rw [if_pos rfl] at hA
      cases hA
      rcases g.done y u hu q hq with ⟨h1, h2⟩ | ⟨w, h1, h2⟩
      · obtain ⟨u', w, k1, k2, k3⟩ := h.pnd r S g.hS y u h1 q h2
        rw [h1] at k1; cases k1
        refine ⟨u, w, hu, by rw [lookup_app, k2], ?_⟩
        obtain ⟨i1, i2⟩ := (hC.st r S g.hS).ms q h2
        rcases k3 with k3 | ⟨m', k3⟩ | k3
        · exact .inl (g.sf hC (by omega) (resid_ok hC g.hS h1 i1 i2.1 k2).1 k3)
        · have := hle' _ k3
          dsimp only at this
          omega
        · exact .inr (.inr (g.mkUp k3))
      · refine ⟨u, w, hu, h1, ?_⟩
        rcases h2 with h2 | ⟨m', h2⟩
        · refine .inl ?_
          rw [h2, ← g.n]
          exact Sf_one g.ok (by rw [g.n]; omega)
        · exact .inr (.inl ⟨m', List.mem_append_right _ h2⟩)
    · rw [if_neg e] at hA
      obtain ⟨u', w, k1, k2, k3⟩ := h.pnd r A hA y u hu q hq
      rw [hu] at k1; cases k1
      refine ⟨u, w, hu, k2, ?_⟩
      obtain ⟨i1, i2⟩ := (hC.st r A hA).ms q hq
      have hr := hC.lt hA
      rcases k3 with k3 | ⟨m', k3⟩ | k3
      · exact .inl (g.sf hC (by omega) (resid_ok hC hA hu i1 i2.1 k2).1 k3)
      · rcases List.mem_append.mp k3 with k3 | k3
        · exact .inr (.inl ⟨m', List.mem_append_left _ k3⟩)
        · have ee := List.mem_singleton.mp k3
          have e1 : r + 1 = s := congrArg Prod.fst ee
          have e2 : resid u.1 q.1 w.1 = x := congrArg (fun z => z.2.1) ee
          rw [e2, e1]
          exact .inr (.inr g.mkNew)
      · exact .inr (.inr (g.mkUp k3))
  · rw [g.at] at hA
    by_cases e : r = s
    · subst e
      rw [if_pos rfl] at hA
      cases hA
      have old := (h.chg r S g.hS).2 fun q hq => mk_sf hC (fun hr => h.cmpAll hle' (Nat.le_refl _) hr) (by omega) ⟨S, q.2, g.hS, hq⟩
      rw [g.dn, if_pos (Nat.le_refl _)]
      refine ⟨by rw [List.length_append]; simp; omega, fun hall => ?_⟩
      rw [List.length_append]
      have hx := hall (x, l) (List.mem_append_right _ List.mem_cons_self)
      have : new ≠ [] := fun z => by
        subst z
        exact hn (g.sameAll.mp hx)
      have := List.length_pos_iff.mpr this
      simp
      omega
    · rw [if_neg e] at hA
      obtain ⟨c1, c2⟩ := h.chg r A hA
      rw [g.dn]
      refine ⟨by omega, fun hall => ?_⟩
      by_cases hr : r ≤ s
      · rw [if_pos hr]
        by_cases hne : new = []
        · subst hne
          have := c2 fun q hq => g.sameAll.mp (hall q hq)
          omega
        · have := List.length_pos_iff.mpr hne
          omega
      · rw [if_neg hr]
        exact c2 fun q hq => (g.same (by omega)).mp (hall q hq)
  · rcases List.mem_append.mp ht with ht | ht
    · obtain ⟨a, b, c, d, e, f⟩ := h.tok t (List.mem_append_left _ ht)
      obtain ⟨ls, e1, _⟩ := g.ln
      exact ⟨by rw [g.n]; exact a, by rw [g.n]; exact b, c, d, fun q hq => by rw [e1, List.length_append]; have := e q hq; omega, fun r hr => by rw [g.n]; exact gmono (f r hr)⟩
    · exact g.nt2 t ht
  · refine List.pairwise_append.mpr ⟨p1, ?_, fun a ha b hb => by rw [g.nt1 b hb]; have := hle a ha; omega⟩
    exact List.pairwise_iff_forall_sublist.mpr fun {a b} hab => by
      rw [g.nt1 a (hab.subset List.mem_cons_self), g.nt1 b (hab.subset (List.mem_cons_of_mem _ List.mem_cons_self))]
      exact Nat.le_refl _
theorem Dn_le (hC : COk C) (r : Nat) : Dn C r ≤ C.n * C.n := by
  unfold Dn
  have : ∀ L : List Stp, (∀ A ∈ L, A.lifts.length ≤ C.n) → (L.map fun S => S.lifts.length).sum ≤ L.length * C.n := by
    intro L
    induction L with
    | nil => intro _; simp
    | cons A L ih =>
      intro h
      rw [List.map_cons, List.sum_cons, List.length_cons, Nat.succ_mul]
      have := h A List.mem_cons_self
      have := ih fun B hB => h B (List.mem_cons_of_mem _ hB)
      omega
  refine Nat.le_trans (this _ fun A hA => ?_) (Nat.mul_le_mul_right _ (by rw [List.length_drop, hC.len]; omega))
  obtain ⟨i, hi⟩ := List.mem_iff_getElem?.mp (List.mem_of_mem_drop hA)
  have h := hC.st i A hi
  have := pigeon C.n (A.lifts.map (·.1)) h.nd fun y hy => by
    obtain ⟨p, hp, rfl⟩ := List.mem_map.mp hy
    exact (h.lt p hp).1
  rwa [List.length_map] at this
theorem lifts_le (hC : COk C) (hS : C.steps[s]? = some S) : S.lifts.length ≤ C.n := by
  have h := hC.st s S hS
  have := pigeon C.n (S.lifts.map (·.1)) h.nd fun y hy => by
    obtain ⟨p, hp, rfl⟩ := List.mem_map.mp hy
    exact (h.lt p hp).1
  rwa [List.length_map] at this
end
end
end Cl

set_option Elab.async false
set_option linter.all false
set_option maxRecDepth 100000
set_option maxHeartbeats 4000000
namespace Cl
open PySem PySem.Spec L2 Tb
/-! ### chains as trees, and as data -/
section
structure CA where
  p : Addr
  pl : Addr
  ps : Addr
  sa : Nat → Addr × Addr × Addr
def pr (u : List Nat × Nat) : D := .tuple [tn u.1, .int (u.2 : Nat)]
def kN (x : Nat) : Key := .inl (x : Int)
def ksN {β : Type} (L : List (Nat × β)) : List Key := L.map fun p => kN p.1
def liftT (a : Addr) (L : List (Nat × (List Nat × Nat))) : Tr := .nd a (.dk (ksN L)) (L.map fun p => .d (pr p.2))
def mksT (a : Addr) (M : List (List Nat × Nat)) : Tr := .nd a .lst ((M.map pr).map Tr.d)
abbrev stepF : List Str := ["place", "lifts", "makers"]
abbrev chainF : List Str := ["many", "lines", "steps"]
def stepT (a : Addr × Addr × Addr) (s : Nat) (S : Stp) : Tr := .nd a.1 (.ob "Step" stepF) [.d (.int (s : Nat)), liftT a.2.1 S.lifts, mksT a.2.2 S.mks]
def stepsT (sa : Nat → Addr × Addr × Addr) (L : List Stp) : List Tr := L.mapIdx fun s S => stepT (sa s) s S
def chainT (A : CA) (C : Chn) : Tr := .nd A.p (.ob "Chain" chainF) [.d (.int (C.n : Nat)), .nd A.pl .lst ((lnl C.lines).map Tr.d), .nd A.ps .lst (stepsT A.sa C.steps)]
def setStep (C : Chn) (s : Nat) (S : Stp) : Chn := { C with steps := C.steps.set s S }
section
variable {A : CA} {C : Chn} {s : Nat} {S : Stp} {sa : Nat → Addr × Addr × Addr}
theorem stepsT_get {L : List Stp} (h : L[s]? = some S) : (stepsT sa L)[s]? = some (stepT (sa s) s S) := by
  unfold stepsT
  rw [List.getElem?_mapIdx, h]; rfl
theorem stepsT_len (L : List Stp) : (stepsT sa L).length = L.length := by unfold stepsT; rw [List.length_mapIdx]
theorem stepsT_set (L : List Stp) : (stepsT sa L).set s (stepT (sa s) s S) = stepsT sa (L.set s S) := by
  unfold stepsT
  apply List.ext_getElem?
  intro i
  rw [List.getElem?_set, List.getElem?_mapIdx, List.getElem?_mapIdx, List.getElem?_set]
  by_cases h : s = i
  · subst h
    rw [if_pos rfl, if_pos rfl, List.length_mapIdx]
    by_cases hl : s < L.length
    · rw [if_pos hl, if_pos hl]; rfl
    · rw [if_neg hl, if_neg hl]; rfl
  · rw [if_neg h, if_neg h]
theorem ch_get (hS : C.steps[s]? = some S) : (chainT A C).get [2, s] = some (stepT (A.sa s) s S) := by
  unfold chainT
  rw [getS]
  show (Tr.nd A.ps .lst (stepsT A.sa C.steps)).get [s] = _
  rw [getS, stepsT_get hS]
  show (stepT (A.sa s) s S).get [] = _
  rw [get0]
theorem ch_put (hS : C.steps[s]? = some S) (π : List Nat) (X : Tr) (S' : Stp) (h : (stepT (A.sa s) s S).put π X = stepT (A.sa s) s S') : (chainT A C).put (2 :: s :: π) X = chainT A (setStep C s S') := by
  unfold chainT
  rw [putS]
  show Tr.nd A.p _ [_, _, (Tr.nd A.ps .lst (stepsT A.sa C.steps)).put (s :: π) X] = _
  rw [putS, stepsT_get hS]
  dsimp only
  rw [h, stepsT_set]
  rfl
theorem st_lifts (L : List (Nat × (List Nat × Nat))) : (stepT (A.sa s) s S).put [1] (liftT (A.sa s).2.1 L) = stepT (A.sa s) s ⟨L, S.mks⟩ := rfl
theorem st_mks (M : List (List Nat × Nat)) : (stepT (A.sa s) s S).put [2] (mksT (A.sa s).2.2 M) = stepT (A.sa s) s ⟨S.lifts, M⟩ := rfl
theorem kN_inj {x y : Nat} (h : kN x = kN y) : x = y := by
  have : (x : Int) = y := Sum.inl.inj h
  omega
theorem kI_none {β : Type} {x : Nat} {L : List (Nat × β)} (h : L.lookup x = none) : kIdx (ksN L) (kN x) = none := by
  unfold kIdx
  rw [List.findIdx?_eq_none_iff]
  intro y hy
  obtain ⟨p, hp, rfl⟩ := List.mem_map.mp hy
  exact decide_eq_false fun e => lookup_none.mp h (by rw [← kN_inj e]; exact List.mem_map_of_mem hp)
theorem kI_some {β : Type} {x : Nat} {v : β} : ∀ {L : List (Nat × β)}, L.lookup x = some v → ∃ j, kIdx (ksN L) (kN x) = some j ∧ L[j]? = some (x, v)
  | [], h => nomatch h
  | (y, w) :: L, h => by
    rw [List.lookup_cons] at h
    unfold kIdx ksN
    rw [List.map_cons, List.findIdx?_cons]
    cases hb : x == y with
    | true =>
      rw [hb] at h
      have e := beq_iff_eq.mp hb
      subst e
      cases h
      exact ⟨0, by rw [decide_eq_true rfl]; rfl, rfl⟩
    | false =>
      rw [hb] at h
      have e : kN y ≠ kN x := fun e => by rw [beq_eq_false_iff_ne] at hb; exact hb (kN_inj e).symm
      obtain ⟨j, h1, h2⟩ := kI_some h
      refine ⟨j + 1, ?_, h2⟩
      rw [decide_eq_false e]
      simp only [Bool.false_eq_true, if_false]
      unfold kIdx ksN at h1
      rw [h1]; rfl
theorem kI_isSome {β : Type} {x : Nat} {L : List (Nat × β)} : (kIdx (ksN L) (kN x)).isSome = (L.lookup x).isSome := by
  cases h : L.lookup x with
  | none => rw [kI_none h]; rfl
  | some v => obtain ⟨j, h1, _⟩ := kI_some h; rw [h1]; rfl
/-- a lift looked up -/
theorem lift_at {a : Addr} {x : Nat} {u : List Nat × Nat} {L : List (Nat × (List Nat × Nat))} (h : L.lookup x = some u) {k : Nat → Tr → Prop} (hk : ∀ j, k j (.d (pr u))) : dgT (liftT a L) (.int (x : Nat)) k := by
  obtain ⟨j, h1, h2⟩ := kI_some h
  exact dgT_int h1 (by rw [List.getElem?_map, h2]; rfl) (hk j)
theorem lift_in {a : Addr} {x : Nat} {L : List (Nat × (List Nat × Nat))} {k : Bool → Prop} : inT (liftT a L) (.int (x : Nat)) k = k (L.lookup x).isSome := by
  unfold liftT
  rw [inT_int, ← kI_isSome]; rfl
theorem lift_put {x : Nat} {u : List Nat × Nat} {L : List (Nat × (List Nat × Nat))} (h : L.lookup x = none) : dputT (ksN L) (L.map fun p => .d (pr p.2)) (kN x) (.d (pr u)) = (ksN (L ++ [(x, u)]), (L ++ [(x, u)]).map fun p => .d (pr p.2)) := by
  unfold dputT
  rw [kI_none h]
  unfold ksN
  rw [List.map_append, List.map_append]; rfl
theorem ksN_nodup {β : Type} {L : List (Nat × β)} (h : (L.map (·.1)).Nodup) : (ksN L).Nodup := by
  unfold ksN
  have : L.map (fun p => kN p.1) = (L.map (·.1)).map kN := by rw [List.map_map]; rfl
  rw [this]
  exact List.pairwise_map.mpr (h.imp fun hab e => hab (kN_inj e))
/-! as data -/
def stepD (s : Nat) (S : Stp) : D := objD "Step" [(.str "place", .int (s : Nat)), (.str "lifts", dicK (S.lifts.map fun p => (kN p.1, pr p.2))), (.str "makers", .list (S.mks.map pr))]
def chainD (C : Chn) : D := objD "Chain" [(.str "many", .int (C.n : Nat)), (.str "lines", .list (lnl C.lines)), (.str "steps", .list (C.steps.mapIdx stepD))]
theorem valD_lift {x : Nat} : ∀ {L : List (Nat × (List Nat × Nat))}, valD (L.map fun p => (kN p.1, pr p.2)) (kN x) = (L.lookup x).map pr
  | [] => rfl
  | (y, w) :: L => by
    rw [List.map_cons, List.lookup_cons]
    cases hb : x == y with
    | true =>
      have e := beq_iff_eq.mp hb
      subst e
      rw [valD_pos rfl]; rfl
    | false =>
      have e : ¬ kN y = kN x := fun e => by rw [beq_eq_false_iff_ne] at hb; exact hb (kN_inj e).symm
      rw [valD_neg e]
      exact valD_lift
theorem datTs_map (ds : List D) : datTs (ds.map Tr.d) = some ds := by
  induction ds with
  | nil => rfl
  | cons d ds ih =>
    rw [List.map_cons]
    unfold datTs
    rw [ih]
    simp only [datT]
theorem zip_keys (L : List (Nat × (List Nat × Nat))) : List.zip (ksN L) (L.map fun p => pr p.2) = L.map fun p => (kN p.1, pr p.2) := by
  unfold ksN
  induction L with
  | nil => rfl
  | cons p L ih => rw [List.map_cons, List.map_cons, List.zip_cons_cons, ih]; rfl
theorem step_dat (a : Addr × Addr × Addr) : datT (stepT a s S) = some (stepD s S) := by
  unfold stepT liftT mksT stepD
  simp only [datT, datTs]
  have e1 : (S.lifts.map fun p => Tr.d (pr p.2)) = (S.lifts.map fun p => pr p.2).map Tr.d := by rw [List.map_map]; rfl
  rw [e1, datTs_map, datTs_map]
  simp only [Option.map_some]
  rw [zip_keys]
  rfl
theorem steps_dat : ∀ (L : List Stp) (f : Nat → Addr × Addr × Addr) (k : Nat), datTs (L.mapIdx fun s S => stepT (f s) (s + k) S) = some (L.mapIdx fun s S => stepD (s + k) S)
  | [], f, k => rfl
  | S :: L, f, k => by
    rw [List.mapIdx_cons, List.mapIdx_cons]
    unfold datTs
    rw [step_dat]
    have := steps_dat L (fun s => f (s + 1)) (k + 1)
    have e1 : (L.mapIdx fun i S => stepT (f (i + 1)) (i + 1 + k) S) = L.mapIdx fun s S => stepT (f (s + 1)) (s + (k + 1)) S := by
      congr 1; funext i S; rw [show i + 1 + k = i + (k + 1) by omega]
    have e2 : (L.mapIdx fun i S => stepD (i + 1 + k) S) = L.mapIdx fun s S => stepD (s + (k + 1)) S := by
      congr 1; funext i S; rw [show i + 1 + k = i + (k + 1) by omega]
    rw [e1, e2, this]
theorem chain_dat : datT (chainT A C) = some (chainD C) := by
  unfold chainT chainD stepsT
  simp only [datT, datTs]
  have := steps_dat C.steps A.sa 0
  simp only [Nat.add_zero] at this
  rw [this, datTs_map]
  rfl
end
end
end Cl

set_option Elab.async false
set_option linter.all false
set_option maxRecDepth 100000
set_option maxHeartbeats 4000000
namespace Cl
open PySem PySem.Spec L2 Tb
/-! ### what is a turning -/
section
def turnGo (n : Nat) : List D → List Nat → Bool
  | [], _ => true
  | .int z :: r, s => decide (0 ≤ z) && decide (z < (n : Int)) && !decide (z.toNat ∈ s) && turnGo n r (s ++ [z.toNat])
  | _ :: _, _ => false
def turnB : D → Bool
  | .tuple l => decide (1 ≤ l.length) && decide (l.length ≤ 60) && turnGo l.length l []
  | _ => false
theorem turnGo_iff {n : Nat} : ∀ (l : List D) (s : List Nat), turnGo n l s = true ↔ ∃ t : List Nat, l = nl t ∧ (∀ x ∈ t, x < n) ∧ t.Nodup ∧ ∀ x ∈ t, x ∉ s
  | [], s => ⟨fun _ => ⟨[], rfl, (fun x h => nomatch h), List.Pairwise.nil, (fun x h => nomatch h)⟩, fun _ => rfl⟩
  | d :: l, s => by
    cases d with
    | int z =>
      unfold turnGo
      rw [Bool.and_eq_true, Bool.and_eq_true, Bool.and_eq_true, decide_eq_true_iff, decide_eq_true_iff, Bool.not_eq_true', decide_eq_false_iff_not, turnGo_iff l]
      constructor
      · rintro ⟨⟨⟨h1, h2⟩, h3⟩, t, rfl, h4, h5, h6⟩
        refine ⟨z.toNat :: t, ?_, ?_, ?_, ?_⟩
        · unfold nl; rw [List.map_cons, Int.toNat_of_nonneg h1]
        · intro x hx
          rcases List.mem_cons.mp hx with e | hx
          · omega
          · exact h4 x hx
        · exact List.nodup_cons.mpr ⟨fun hz => h6 _ hz (List.mem_append_right _ List.mem_cons_self), h5⟩
        · intro x hx
          rcases List.mem_cons.mp hx with e | hx
          · rw [e]; exact h3
          · exact fun hs => h6 x hx (List.mem_append_left _ hs)
      · rintro ⟨t, e, h4, h5, h6⟩
        cases t with
        | nil => cases e
        | cons x t =>
          unfold nl at e
          rw [List.map_cons] at e
          injection e with e1 e2
          injection e1 with e1
          subst e1
          obtain ⟨n1, n2⟩ := List.nodup_cons.mp h5
          refine ⟨⟨⟨by omega, by have := h4 x List.mem_cons_self; omega⟩, by rw [Int.toNat_natCast]; exact h6 x List.mem_cons_self⟩, t, e2, fun y hy => h4 y (List.mem_cons_of_mem _ hy), n2, fun y hy => ?_⟩
          rw [Int.toNat_natCast]
          intro hs
          rcases List.mem_append.mp hs with hs | hs
          · exact h6 y (List.mem_cons_of_mem _ hy) hs
          · rw [List.mem_singleton] at hs
            subst hs; exact n1 hy
    | _ =>
      constructor
      · intro h; cases h
      · rintro ⟨t, e, _⟩
        cases t with
        | nil => cases e
        | cons x t => cases e
theorem turnB_iff {d : D} : turnB d = true ↔ ∃ t, d = tn t ∧ IsT t.length t ∧ 1 ≤ t.length ∧ t.length ≤ 60 := by
  cases d with
  | tuple l =>
    unfold turnB
    rw [Bool.and_eq_true, Bool.and_eq_true, decide_eq_true_iff, decide_eq_true_iff, turnGo_iff]
    constructor
    · rintro ⟨⟨h1, h2⟩, t, rfl, h3, h4, h5⟩
      rw [nl_len] at h1 h2 h3
      exact ⟨t, rfl, ⟨rfl, h3, h4⟩, h1, h2⟩
    · rintro ⟨t, e, h3, h1, h2⟩
      cases e
      rw [nl_len]
      exact ⟨⟨h1, h2⟩, t, rfl, h3.lt, h3.nd, fun x _ h => nomatch h⟩
  | _ =>
    constructor
    · intro h; cases h
    · rintro ⟨t, e, _⟩; cases e
theorem turnB_tn {n : Nat} {t : List Nat} (h : IsT n t) (h1 : 1 ≤ n) (h2 : n ≤ 60) : turnB (tn t) = true := by
  have e := h.len
  subst e
  exact turnB_iff.mpr ⟨t, rfl, h, h1, h2⟩
end
section
def stp0 (n s : Nat) : Stp := ⟨[(s, (List.range n, 0))], []⟩
def chn0 (n : Nat) : Chn := ⟨n, [.still], (List.range n).map (stp0 n)⟩
end
end Cl

set_option Elab.async false
set_option linter.all false
set_option maxRecDepth 100000
set_option maxHeartbeats 4000000
namespace Cl
open PySem PySem.Spec L2 Tb
/-! ### reading a chain's tree -/
section
theorem atT_eq {p : Addr} {c : Str} {ns : List Str} {ts : List Tr} {f : Str} {k : Nat → Tr → Prop} {j : Nat} {ch : Tr} (h : ns.findIdx? (fun g => g == f) = some j) (h2 : ts[j]? = some ch) : atT (.nd p (.ob c ns) ts) f k = k j ch :=
  propext ⟨fun ⟨_, _, _, _, j', ch', e, e1, e2, hk⟩ => by
    injection e with a1 a2 a3
    injection a2 with b1 b2
    subst b2 a3
    rw [h] at e1; cases e1
    rw [h2] at e2; cases e2
    exact hk, fun hk => ⟨p, c, ns, ts, j, ch, rfl, h, h2, hk⟩⟩
variable {A : CA} {C : Chn} {s : Nat} {S : Stp} {a : Addr × Addr × Addr} {k : Nat → Tr → Prop}
def linesT (p : Addr) (L : List Ln) : Tr := .nd p .lst ((lnl L).map Tr.d)
theorem at_many : atT (chainT A C) "many" k = k 0 (.d (.int (C.n : Nat))) := atT_eq (by decide +kernel) rfl
theorem at_lines : atT (chainT A C) "lines" k = k 1 (linesT A.pl C.lines) := atT_eq (by decide +kernel) rfl
theorem at_steps : atT (chainT A C) "steps" k = k 2 (.nd A.ps .lst (stepsT A.sa C.steps)) := atT_eq (by decide +kernel) rfl
theorem at_place : atT (stepT a s S) "place" k = k 0 (.d (.int (s : Nat))) := atT_eq (by decide +kernel) rfl
theorem at_lifts : atT (stepT a s S) "lifts" k = k 1 (liftT a.2.1 S.lifts) := atT_eq (by decide +kernel) rfl
theorem at_makers : atT (stepT a s S) "makers" k = k 2 (mksT a.2.2 S.mks) := atT_eq (by decide +kernel) rfl
theorem ndIn_step {E : List Sl} {kk : Nat → List Nat → Tr → Prop} (h : E[0]? = some (.tr (.ref A.p) (chainT A C))) (hS : C.steps[s]? = some S) (hk : kk 0 [2, s] (stepT (A.sa s) s S)) : NdIn E (A.sa s).1 kk :=
  ⟨0, [2, s], .ref A.p, chainT A C, _, _, h, ch_get hS, hk⟩
theorem leafs_steps (sa : Nat → Addr × Addr × Addr) (L : List Stp) : leafs (stepsT sa L) = (List.range L.length).map fun i => Tr.hl (.ref (sa i).1) := by
  unfold leafs stepsT
  apply List.ext_getElem?
  intro i
  rw [List.getElem?_map, List.getElem?_mapIdx, List.getElem?_map]
  by_cases h : i < L.length
  · rw [List.getElem?_eq_getElem h, List.getElem?_range h]; rfl
  · rw [List.getElem?_eq_none (by omega), List.getElem?_eq_none (by rw [List.length_range]; omega)]; rfl
theorem cut_drop {α : Type} (l : List α) (k : Nat) : cut l (some (k : Int)) none = l.drop k := by
  unfold cut
  rw [HT.sIx_none, HT.sIx_nat]
  by_cases h : k ≤ l.length
  · rw [Nat.min_eq_left h, List.take_of_length_le (by rw [List.length_drop]; omega)]
  · rw [Nat.min_eq_right (by omega), List.drop_eq_nil_of_le (Nat.le_refl _), List.drop_eq_nil_of_le (by omega), List.take_nil]
theorem leafs_cut (sa : Nat → Addr × Addr × Addr) (L : List Stp) (s : Nat) : cut (leafs (stepsT sa L)) (some (s : Int)) none = ((List.range L.length).drop s).map fun i => Tr.hl (.ref (sa i).1) := by
  rw [leafs_steps, cut_drop, ← List.map_drop]
theorem beqN (a b : Nat) : (((a : Nat) : Int) == ((b : Nat) : Int)) = decide (a = b) := by rw [Bool.eq_iff_iff, beq_iff_eq, decide_eq_true_iff]; omega
theorem ch_lines_get : (chainT A C).get [1] = some (.nd A.pl .lst ((lnl C.lines).map Tr.d)) := by
  unfold chainT
  rw [getS]
  show (Tr.nd A.pl .lst ((lnl C.lines).map Tr.d)).get [] = _
  rw [get0]
theorem ch_lines_put (l : Ln) : (chainT A C).put [1] (.nd A.pl .lst ((lnl C.lines).map Tr.d ++ [.d (enc l)])) = chainT A (moreL C [l]) := by
  unfold chainT moreL lnl
  rw [List.map_append, List.map_append, putS]
  rfl
end
end Cl

set_option Elab.async false
set_option linter.all false
set_option maxRecDepth 100000
set_option maxHeartbeats 4000000
namespace Cl
open PySem PySem.Spec L2 Tb
/-! ### one more maker at a step, pair by pair -/
section
structure EvL (ev : List Ln → Nat → List Nat → Prop) : Prop where
  mono : ∀ {L ls k v}, ev L k v → ev (L ++ ls) k v
  bh : ∀ {L a b u g}, ev L a u → ev L b g → ev (L ++ [.behind a b]) L.length (Cl.bh u g)
  bk : ∀ {L c w}, ev L c w → ev (L ++ [.back c]) L.length (Cl.bk w)
def LvOk (ev : List Ln → Nat → List Nat → Prop) (C : Chn) : Prop := ∀ (s : Nat) (S : Stp), C.steps[s]? = some S → (∀ p ∈ S.lifts, ev C.lines p.2.2 p.2.1) ∧ ∀ g ∈ S.mks, ev C.lines g.2 g.1
def TLn (ev : List Ln → Nat → List Nat → Prop) (L : List Ln) (t : Task) : Prop :=
  (∃ a, t.2.2 = [a] ∧ ev L a t.2.1) ∨ ∃ a b c u g w, t.2.2 = [a, b, c] ∧ ev L a u ∧ ev L b g ∧ ev L c w ∧ t.2.1 = resid u g w
section
variable {ev : List Ln → Nat → List Nat → Prop} {C C' : Chn} {s : Nat} {x : List Nat} {l : Nat} {S : Stp}
theorem TLn.mono (he : EvL ev) {L ls : List Ln} {t : Task} (h : TLn ev L t) : TLn ev (L ++ ls) t := by
  rcases h with ⟨a, h1, h2⟩ | ⟨a, b, c, u, g, w, h1, h2, h3, h4, h5⟩
  · exact .inl ⟨a, h1, he.mono h2⟩
  · exact .inr ⟨a, b, c, u, g, w, h1, he.mono h2, he.mono h3, he.mono h4, h5⟩
theorem LvOk.lines (he : EvL ev) (h : LvOk ev C) (ls : List Ln) : LvOk ev (moreL C ls) := fun s S hS => by
  obtain ⟨h1, h2⟩ := h s S hS
  exact ⟨fun p hp => he.mono (h1 p hp), fun g hg => he.mono (h2 g hg)⟩
def prsOf (S : Stp) (new : List (Nat × (List Nat × Nat))) : List (Nat × Nat) := S.lifts.map (fun p => (p.1, S.mks.length)) ++ new.flatMap fun p => (List.range (S.mks.length + 1)).map fun k => (p.1, k)
theorem prs_len (new : List (Nat × (List Nat × Nat))) : (prsOf S new).length = S.lifts.length + new.length * (S.mks.length + 1) := by
  unfold prsOf
  rw [List.length_append, List.length_map]
  congr 1
  induction new with
  | nil => simp
  | cons p new ih => rw [List.flatMap_cons, List.length_append, ih, List.length_map, List.length_range, List.length_cons, Nat.succ_mul]; omega
theorem prs_snoc (new : List (Nat × (List Nat × Nat))) (p : Nat × (List Nat × Nat)) : prsOf S (new ++ [p]) = prsOf S new ++ (List.range (S.mks.length + 1)).map fun k => (p.1, k) := by
  unfold prsOf
  rw [List.flatMap_append, List.append_assoc]
  congr 2
  simp
theorem prs_mem {new : List (Nat × (List Nat × Nat))} {y k : Nat} (h : (y, k) ∈ prsOf S new) : y ∈ (S.lifts ++ new).map (·.1) ∧ k < S.mks.length + 1 := by
  unfold prsOf at h
  rcases List.mem_append.mp h with h | h
  · obtain ⟨p, hp, e⟩ := List.mem_map.mp h
    cases e
    exact ⟨List.mem_map_of_mem (List.mem_append_left _ hp), by omega⟩
  · obtain ⟨p, hp, h⟩ := List.mem_flatMap.mp h
    obtain ⟨k', hk, e⟩ := List.mem_map.mp h
    cases e
    exact ⟨List.mem_map_of_mem (List.mem_append_right _ hp), List.mem_range.mp hk⟩
structure GrI (ev : List Ln → Nat → List Nat → Prop) (C : Chn) (s : Nat) (x : List Nat) (l : Nat) (S : Stp) (C' : Chn) (new : List (Nat × (List Nat × Nat))) (nt : List Task) (i : Nat) : Prop where
  hS : C.steps[s]? = some S
  n : C'.n = C.n
  st : C'.steps = C.steps.set s ⟨S.lifts ++ new, S.mks ++ [(x, l)]⟩
  ok : COk C'
  ln : ∃ ls, C'.lines = C.lines ++ ls ∧ ls.length = new.length
  dn : ∀ j y k, j < i → (prsOf S new)[j]? = some (y, k) → ∃ u g w, (S.lifts ++ new).lookup y = some u ∧ (S.mks ++ [(x, l)])[k]? = some g ∧ (S.lifts ++ new).lookup (g.1.getD y 0) = some w ∧
    (resid u.1 g.1 w.1 = List.range C.n ∨ ∃ m, (s + 1, resid u.1 g.1 w.1, m) ∈ nt)
  gn : ∀ p ∈ S.lifts ++ new, Gn C.n (MkOf C' s) p.2.1
  nt1 : ∀ t ∈ nt, t.1 = s + 1
  nt2 : ∀ t ∈ nt, TOk C' t
  ntl : nt.length ≤ i
  ile : i ≤ (prsOf S new).length
  lo : LvOk ev C'
  tl : ∀ t ∈ nt, TLn ev C'.lines t
/-- the chain with one more maker at a step -/
def addMk (C : Chn) (s : Nat) (S : Stp) (x : List Nat) (l : Nat) : Chn := setStep C s ⟨S.lifts, S.mks ++ [(x, l)]⟩
theorem set_at {L : List Stp} {S S' : Stp} {r : Nat} (h : L[s]? = some S) : (L.set s S')[r]? = if r = s then some S' else L[r]? := by
  rw [List.getElem?_set]
  have := (List.getElem?_eq_some_iff.mp h).1
  by_cases e : s = r
  · rw [if_pos e, if_pos this, if_pos e.symm]
  · rw [if_neg e, if_neg (fun z => e z.symm)]
theorem GrI.start (hC : COk C) (hS : C.steps[s]? = some S) (hx : IsT C.n x) (fx : Fx s x) (hl : l < C.lines.length) (gn : ∀ p ∈ S.lifts, Gn C.n (MkOf C s) p.2.1) (lo : LvOk ev C) (hev : ev C.lines l x) : GrI ev C s x l S (addMk C s S x l) [] [] 0 := by
  have at' : ∀ {r}, (addMk C s S x l).steps[r]? = if r = s then some ⟨S.lifts, S.mks ++ [(x, l)]⟩ else C.steps[r]? := fun {r} => set_at hS
  refine ⟨hS, rfl, by rw [List.append_nil]; rfl, ⟨by unfold addMk setStep; rw [List.length_set]; exact hC.len, fun r A hA => ?_⟩, ⟨[], by rw [List.append_nil]; rfl, rfl⟩, fun j y k h => by omega, fun p hp => ?_, by simp, by simp, by simp, by simp, fun r A hA => ?_, by simp⟩
  · rw [at'] at hA
    by_cases e : r = s
    · subst e
      rw [if_pos rfl] at hA; cases hA
      have h := hC.st r S hS
      refine ⟨h.home, h.nd, h.lt, fun g hg => ?_⟩
      rcases List.mem_append.mp hg with hg | hg
      · exact h.ms g hg
      · rw [List.mem_singleton.mp hg]; exact ⟨hx, fx, hl⟩
    · rw [if_neg e] at hA
      exact hC.st r A hA
  · rw [List.append_nil] at hp
    refine Gn.mono (fun g hg => ?_) (gn p hp)
    obtain ⟨A, k, hA, hm⟩ := hg
    rw [hS] at hA; cases hA
    exact ⟨_, k, by rw [at', if_pos rfl], List.mem_append_left _ hm⟩
  · rw [at'] at hA
    by_cases e : r = s
    · subst e
      rw [if_pos rfl] at hA; cases hA
      obtain ⟨h1, h2⟩ := lo r S hS
      refine ⟨h1, fun g hg => ?_⟩
      rcases List.mem_append.mp hg with hg | hg
      · exact h2 g hg
      · rw [List.mem_singleton.mp hg]; exact hev
    · rw [if_neg e] at hA
      exact lo r A hA
variable {new : List (Nat × (List Nat × Nat))} {nt : List Task} {i : Nat}
theorem GrI.at (h : GrI ev C s x l S C' new nt i) {r : Nat} : C'.steps[r]? = if r = s then some ⟨S.lifts ++ new, S.mks ++ [(x, l)]⟩ else C.steps[r]? := by
  rw [h.st]; exact set_at h.hS
theorem GrI.here (h : GrI ev C s x l S C' new nt i) : C'.steps[s]? = some ⟨S.lifts ++ new, S.mks ++ [(x, l)]⟩ := by rw [h.at, if_pos rfl]
/-- what lies at a pair -/
theorem GrI.pair (h : GrI ev C s x l S C' new nt i) {y k : Nat} (hp : (prsOf S new)[i]? = some (y, k)) : ∃ u g, (S.lifts ++ new).lookup y = some u ∧ (S.mks ++ [(x, l)])[k]? = some g ∧ y < C.n ∧ IsT C.n u.1 ∧ Fx s u.1 ∧ u.1.getD s 0 = y ∧ IsT C.n g.1 ∧ Fx s g.1 ∧ u.2 < C'.lines.length ∧ g.2 < C'.lines.length ∧ g ∈ S.mks ++ [(x, l)] ∧ (y, u) ∈ S.lifts ++ new ∧ ev C'.lines u.2 u.1 ∧ ev C'.lines g.2 g.1 := by
  obtain ⟨h1, h2⟩ := prs_mem (List.mem_of_getElem? hp)
  have hl : ∃ u, (S.lifts ++ new).lookup y = some u := by
    cases e : (S.lifts ++ new).lookup y with
    | none => exact absurd h1 (lookup_none.mp e)
    | some u => exact ⟨u, rfl⟩
  obtain ⟨u, hu⟩ := hl
  have hk : k < (S.mks ++ [(x, l)]).length := by rw [List.length_append]; simpa using h2
  obtain ⟨u1, u2, u3, u4, u5⟩ := h.ok.lift h.here hu
  have gm := List.getElem_mem hk
  obtain ⟨g1, g2, g3⟩ := (h.ok.st s _ h.here).ms _ gm
  rw [h.n] at u1 u2 g1
  obtain ⟨l1, l2⟩ := h.lo s _ h.here
  exact ⟨u, _, hu, List.getElem?_eq_getElem hk, u1, u2, u3, u4, g1, g2, u5, g3, gm, lookup_mem2 hu, l1 _ (lookup_mem2 hu), l2 _ gm⟩
theorem GrI.mkg (h : GrI ev C s x l S C' new nt i) {g : List Nat × Nat} (hg : g ∈ S.mks ++ [(x, l)]) : MkOf C' s g.1 := ⟨_, g.2, h.here, hg⟩
theorem GrI.mki (h : GrI ev C s x l S C' new nt i) (g : List Nat) (hg : MkOf C' s g) : IsT C.n g := by have := mk_isT h.ok g hg; rwa [h.n] at this
/-- a goal that is known, the same lift -/
theorem GrI.hit (h : GrI ev C s x l S C' new nt i) {y k : Nat} {u g w : List Nat × Nat} (hp : (prsOf S new)[i]? = some (y, k)) (hu : (S.lifts ++ new).lookup y = some u) (hg : (S.mks ++ [(x, l)])[k]? = some g) (hw : (S.lifts ++ new).lookup (g.1.getD y 0) = some w)
    (e : bh u.1 g.1 = w.1) : GrI ev C s x l S C' new nt (i + 1) := by
  have hi := (List.getElem?_eq_some_iff.mp hp).1
  refine ⟨h.hS, h.n, h.st, h.ok, h.ln, fun j y' k' hj hp' => ?_, h.gn, h.nt1, h.nt2, by have := h.ntl; omega, by omega, h.lo, h.tl⟩
  rcases Nat.lt_or_eq_of_le (Nat.le_of_lt_succ hj) with hj | hj
  · exact h.dn j y' k' hj hp'
  · subst hj
    rw [hp] at hp'; cases hp'
    refine ⟨u, g, w, hu, hg, hw, .inl ?_⟩
    unfold resid
    have w1 := (h.ok.lift h.here hw).2.1
    rw [h.n] at w1
    rw [e, bh_bkr w1]
/-- a goal that is known, another lift: a task -/
theorem GrI.task (h : GrI ev C s x l S C' new nt i) {y k : Nat} {u g w : List Nat × Nat} (hp : (prsOf S new)[i]? = some (y, k)) (hu : (S.lifts ++ new).lookup y = some u) (hg : (S.mks ++ [(x, l)])[k]? = some g) (hw : (S.lifts ++ new).lookup (g.1.getD y 0) = some w) :
    GrI ev C s x l S C' new (nt ++ [(s + 1, resid u.1 g.1 w.1, [u.2, g.2, w.2])]) (i + 1) := by
  have hi := (List.getElem?_eq_some_iff.mp hp).1
  have gm := List.mem_of_getElem? hg
  obtain ⟨u1, u2, u3, u4, u5⟩ := h.ok.lift h.here hu
  obtain ⟨w1, w2, w3, w4, w5⟩ := h.ok.lift h.here hw
  obtain ⟨g1, g2, g3⟩ := (h.ok.st s _ h.here).ms _ gm
  obtain ⟨r1, r2⟩ := resid_ok h.ok h.here hu g1 g2 hw
  have hs := h.ok.lt h.here
  refine ⟨h.hS, h.n, h.st, h.ok, h.ln, fun j y' k' hj hp' => ?_, h.gn, fun t ht => ?_, fun t ht => ?_, by have := h.ntl; rw [List.length_append]; simp; omega, by omega, h.lo, fun t ht => ?_⟩
  · rcases Nat.lt_or_eq_of_le (Nat.le_of_lt_succ hj) with hj | hj
    · obtain ⟨u', g', w', a, b, c, d⟩ := h.dn j y' k' hj hp'
      exact ⟨u', g', w', a, b, c, d.imp_right fun ⟨m, hm⟩ => ⟨m, List.mem_append_left _ hm⟩⟩
    · subst hj
      rw [hp] at hp'; cases hp'
      exact ⟨u, g, w, hu, hg, hw, .inr ⟨_, List.mem_append_right _ List.mem_cons_self⟩⟩
  · rcases List.mem_append.mp ht with ht | ht
    · exact h.nt1 t ht
    · rw [List.mem_singleton.mp ht]
  · rcases List.mem_append.mp ht with ht | ht
    · exact h.nt2 t ht
    · rw [List.mem_singleton.mp ht]
      refine ⟨by show s + 1 ≤ C'.n; omega, r1, r2, .inr ⟨_, _, _, rfl⟩, fun a ha => ?_, fun r hr => ?_⟩
      · simp only [List.mem_cons, List.not_mem_nil, or_false] at ha
        rcases ha with rfl | rfl | rfl
        · exact u5
        · exact g3
        · exact w5
      · have : r = s := by dsimp only at hr; omega
        subst this
        rw [h.n]
        have gu := h.gn _ (lookup_mem2 hu)
        have gw := h.gn _ (lookup_mem2 hw)
        have gg := Gn.gen (n := C.n) h.mki (h.mkg gm)
        exact (gu.prod h.mki gg).prod h.mki (gw.inv h.mki)
  · rcases List.mem_append.mp ht with ht | ht
    · exact h.tl t ht
    · rw [List.mem_singleton.mp ht]
      obtain ⟨l1, l2⟩ := h.lo s _ h.here
      exact .inr ⟨_, _, _, u.1, g.1, w.1, rfl, l1 _ (lookup_mem2 hu), l2 _ gm, l1 _ (lookup_mem2 hw), rfl⟩
/-- a new goal -/
theorem GrI.newLift (he : EvL ev) (h : GrI ev C s x l S C' new nt i) {y k : Nat} {u g : List Nat × Nat} (hp : (prsOf S new)[i]? = some (y, k)) (hu : (S.lifts ++ new).lookup y = some u) (hg : (S.mks ++ [(x, l)])[k]? = some g) (hw : (S.lifts ++ new).lookup (g.1.getD y 0) = none) :
    GrI ev C s x l S (setStep (moreL C' [.behind u.2 g.2]) s ⟨S.lifts ++ (new ++ [(g.1.getD y 0, (bh u.1 g.1, C'.lines.length))]), S.mks ++ [(x, l)]⟩) (new ++ [(g.1.getD y 0, (bh u.1 g.1, C'.lines.length))]) nt (i + 1) := by
  have hi := (List.getElem?_eq_some_iff.mp hp).1
  have gm := List.mem_of_getElem? hg
  obtain ⟨u1, u2, u3, u4, u5⟩ := h.ok.lift h.here hu
  obtain ⟨g1, g2, g3⟩ := (h.ok.st s _ h.here).ms _ gm
  have hs := h.ok.lt h.here
  have stp := h.ok.st s _ h.here
  obtain ⟨l1, l2⟩ := h.lo s _ h.here
  generalize ez : (g.1.getD y 0, (bh u.1 g.1, C'.lines.length)) = z
  have ll : (C'.lines ++ [Ln.behind u.2 g.2]).length = C'.lines.length + 1 := by rw [List.length_append]; rfl
  have at' : ∀ {r}, (setStep (moreL C' [.behind u.2 g.2]) s ⟨S.lifts ++ (new ++ [z]), S.mks ++ [(x, l)]⟩).steps[r]? = if r = s then some ⟨S.lifts ++ (new ++ [z]), S.mks ++ [(x, l)]⟩ else C'.steps[r]? := fun {r} => set_at h.here
  have eln : (setStep (moreL C' [.behind u.2 g.2]) s ⟨S.lifts ++ (new ++ [z]), S.mks ++ [(x, l)]⟩).lines = C'.lines ++ [.behind u.2 g.2] := rfl
  have lk : ∀ {y v}, (S.lifts ++ new).lookup y = some v → (S.lifts ++ (new ++ [z])).lookup y = some v := fun {y v} hh => by rw [← List.append_assoc, lookup_app, hh]
  have mkUp : ∀ {q}, MkOf C' s q → MkOf (setStep (moreL C' [.behind u.2 g.2]) s ⟨S.lifts ++ (new ++ [z]), S.mks ++ [(x, l)]⟩) s q := fun {q} hq => by
    obtain ⟨A, k, hA, hm⟩ := hq
    rw [h.here] at hA; cases hA
    exact ⟨⟨S.lifts ++ (new ++ [z]), S.mks ++ [(x, l)]⟩, k, by rw [at', if_pos rfl], hm⟩
  have gu := h.gn _ (lookup_mem2 hu)
  have gg := Gn.gen (n := C.n) h.mki (h.mkg gm)
  have gz : Gn C.n (MkOf C' s) z.2.1 := by rw [← ez]; exact gu.prod h.mki gg
  refine ⟨h.hS, h.n, ?_, ⟨?_, fun r A hA => ?_⟩, ?_, fun j y' k' hj hp' => ?_, fun p hp' => ?_, h.nt1, fun t ht => ?_, by have := h.ntl; omega, ?_, fun r A hA => ?_, fun t ht => (h.tl t ht).mono he⟩
  · show C'.steps.set s _ = _
    rw [h.st, List.set_set]
  · show (C'.steps.set s _).length = C'.n
    rw [List.length_set]; exact h.ok.len
  · rw [eln]
    show SOk C'.n r _ A
    rw [at'] at hA
    by_cases e : r = s
    · subst e
      rw [if_pos rfl] at hA; cases hA
      refine ⟨lk stp.home, ?_, fun p hp' => ?_, fun q hq => ?_⟩
      · show ((S.lifts ++ (new ++ [z])).map (·.1)).Nodup
        rw [← List.append_assoc, List.map_append]
        refine List.nodup_append.mpr ⟨stp.nd, by simp, fun a ha b hb e => ?_⟩
        rw [List.map_singleton, List.mem_singleton] at hb
        rw [e, hb, ← ez] at ha
        exact lookup_none.mp hw ha
      · rw [← List.append_assoc] at hp'
        rcases List.mem_append.mp hp' with hp' | hp'
        · obtain ⟨a, b, c, d, e⟩ := stp.lt p hp'
          exact ⟨a, b, c, d, by rw [ll]; omega⟩
        · rw [List.mem_singleton.mp hp', ← ez]
          refine ⟨?_, u2.bh g1, Fx.bh (by omega) u2 u3 g2, ?_, by rw [ll]; exact Nat.lt_succ_self _⟩
          · show g.1.getD y 0 < C'.n
            exact g1.getLt u1
          · show (bh u.1 g.1).getD r 0 = g.1.getD y 0
            rw [bh_at' u2 hs, u4]
      · obtain ⟨a, b, c⟩ := stp.ms q hq
        exact ⟨a, b, by rw [ll]; omega⟩
    · rw [if_neg e] at hA
      have hh := h.ok.st r A hA
      refine ⟨hh.home, hh.nd, fun p hp' => ?_, fun q hq => ?_⟩
      · obtain ⟨a, b, c, d, e⟩ := hh.lt p hp'
        exact ⟨a, b, c, d, by rw [ll]; omega⟩
      · obtain ⟨a, b, c⟩ := hh.ms q hq
        exact ⟨a, b, by rw [ll]; omega⟩
  · obtain ⟨ls, e1, e2⟩ := h.ln
    refine ⟨ls ++ [.behind u.2 g.2], by rw [eln, e1, List.append_assoc], by rw [List.length_append, List.length_append, e2]; rfl⟩
  · rw [prs_snoc] at hp'
    rcases Nat.lt_or_eq_of_le (Nat.le_of_lt_succ hj) with hj | hj
    · rw [List.getElem?_append_left (by omega)] at hp'
      obtain ⟨u', g', w', a, b, c, d⟩ := h.dn j y' k' hj hp'
      exact ⟨u', g', w', lk a, b, lk c, d⟩
    · subst hj
      rw [List.getElem?_append_left hi, hp] at hp'; cases hp'
      refine ⟨u, g, z.2, lk hu, hg, ?_, .inl ?_⟩
      · rw [← List.append_assoc, lookup_app, hw, ← ez]
        simp
      · rw [← ez]
        unfold resid
        rw [h.n] at u2 g1
        exact bh_bkr (u2.bh g1)
  · rw [← List.append_assoc] at hp'
    rcases List.mem_append.mp hp' with hp' | hp'
    · exact Gn.mono (fun q hq => mkUp hq) (h.gn p hp')
    · rw [List.mem_singleton.mp hp']
      exact Gn.mono (fun q hq => mkUp hq) gz
  · obtain ⟨a, b, c, d, e, f⟩ := h.nt2 t ht
    refine ⟨a, b, c, d, fun q hq => by rw [eln, ll]; have := e q hq; omega, fun r hr => ?_⟩
    have : r = s := by have := h.nt1 t ht; omega
    subst this
    exact Gn.mono (fun q hq => mkUp hq) (f r hr)
  · rw [prs_snoc, List.length_append, List.length_map, List.length_range]; omega
  · rw [eln]
    rw [at'] at hA
    by_cases e : r = s
    · subst e
      rw [if_pos rfl] at hA; cases hA
      refine ⟨fun p hp' => ?_, fun q hq => he.mono (l2 q hq)⟩
      rw [← List.append_assoc] at hp'
      rcases List.mem_append.mp hp' with hp' | hp'
      · exact he.mono (l1 p hp')
      · rw [List.mem_singleton.mp hp', ← ez]
        exact he.bh (l1 _ (lookup_mem2 hu)) (l2 _ gm)
    · rw [if_neg e] at hA
      obtain ⟨a, b⟩ := h.lo r A hA
      exact ⟨fun p hp' => he.mono (a p hp'), fun q hq => he.mono (b q hq)⟩
/-- all pairs done -/
theorem GrI.fin (h : GrI ev C s x l S C' new nt i) (hi : (prsOf S new).length ≤ i) : Grw C s x l S new C' nt := by
  refine ⟨h.n, h.hS, h.st, h.ok, fun y u hu g hg => ?_, fun p hp => by have := h.gn p (List.mem_append_right _ hp); exact this, h.nt1, h.nt2, h.ln⟩
  have key : ∀ k, (S.mks ++ [(x, l)])[k]? = some g → (y, k) ∈ prsOf S new → ∃ w, (S.lifts ++ new).lookup (g.1.getD y 0) = some w ∧ (resid u.1 g.1 w.1 = List.range C.n ∨ ∃ m, (s + 1, resid u.1 g.1 w.1, m) ∈ nt) := fun k hk hm => by
    obtain ⟨j, hj⟩ := List.mem_iff_getElem?.mp hm
    have := (List.getElem?_eq_some_iff.mp hj).1
    obtain ⟨u', g', w, a, b, c, d⟩ := h.dn j y k (by omega) hj
    rw [hu] at a; cases a
    rw [hk] at b; cases b
    exact ⟨w, c, d⟩
  cases e : S.lifts.lookup y with
  | some u' =>
    rw [lookup_app, e] at hu
    cases hu
    by_cases hm : g ∈ S.mks
    · exact .inl ⟨rfl, hm⟩
    · right
      have : g = (x, l) := by
        rcases List.mem_append.mp hg with hg | hg
        · exact absurd hg hm
        · exact List.mem_singleton.mp hg
      subst this
      refine key S.mks.length (by rw [List.getElem?_append_right (Nat.le_refl _), Nat.sub_self]; rfl) ?_
      unfold prsOf
      exact List.mem_append_left _ (List.mem_map.mpr ⟨_, lookup_mem2 e, rfl⟩)
  | none =>
    right
    rw [lookup_app, e] at hu
    obtain ⟨k, hk⟩ := List.mem_iff_getElem?.mp hg
    refine key k hk ?_
    have hk2 := (List.getElem?_eq_some_iff.mp hk).1
    rw [List.length_append] at hk2
    unfold prsOf
    exact List.mem_append_right _ (List.mem_flatMap.mpr ⟨_, lookup_mem2 hu, List.mem_map.mpr ⟨k, List.mem_range.mpr hk2, rfl⟩⟩)
theorem GrI.len_le (h : GrI ev C s x l S C' new nt i) : S.lifts.length + new.length ≤ C.n := by
  have := lifts_le h.ok h.here
  rw [h.n] at this
  rwa [List.length_append] at this
theorem GrI.prs_le (h : GrI ev C s x l S C' new nt i) : (prsOf S new).length ≤ C.n * (S.mks.length + 1) := by
  rw [prs_len]
  have := h.len_le
  calc S.lifts.length + new.length * (S.mks.length + 1) ≤ S.lifts.length * (S.mks.length + 1) + new.length * (S.mks.length + 1) := Nat.add_le_add_right (Nat.le_mul_of_pos_right _ (by omega)) _
    _ = (S.lifts.length + new.length) * (S.mks.length + 1) := (Nat.add_mul _ _ _).symm
    _ ≤ _ := Nat.mul_le_mul_right _ this
end
end
end Cl

set_option Elab.async false
set_option linter.all false
set_option maxRecDepth 100000
set_option maxHeartbeats 4000000
namespace Cl
open PySem PySem.Spec L2 Tb
/-! ### places put and got; a chain's step changed -/
section
theorem get_putA : ∀ (π : List Nat) {t u y : Tr} {σ : List Nat}, t.get π = some u → (t.put (π ++ σ) y).get π = some (u.put σ y)
  | [], t, u, y, σ, h => by
    rw [get0] at h; cases h
    rw [List.nil_append, get0]
  | k :: π, t, u, y, σ, h => by
    cases t with
    | nd p hh ts =>
      rw [getS] at h
      rw [List.cons_append, putS]
      cases e : ts[k]? with
      | none => rw [e] at h; cases h
      | some c =>
        rw [e] at h
        dsimp only at h ⊢
        rw [getS, List.getElem?_set_self (List.getElem?_eq_some_iff.mp e).1]
        exact get_putA π h
    | _ => cases h
theorem get_put {π : List Nat} {t u y : Tr} (h : t.get π = some u) : (t.put π y).get π = some y := by
  have := get_putA (y := y) (σ := []) π h
  rw [List.append_nil] at this
  rw [this, put0]
theorem put_put : ∀ (π : List Nat) {t y z : Tr}, (t.put π y).put π z = t.put π z
  | [], t, y, z => by rw [put0, put0]
  | k :: π, t, y, z => by
    cases t with
    | nd p hh ts =>
      rw [putS]
      cases e : ts[k]? with
      | none =>
        dsimp only
      | some c =>
        have hk := (List.getElem?_eq_some_iff.mp e).1
        dsimp only
        rw [putS, List.getElem?_set_self hk, putS, e]
        dsimp only
        rw [put_put π, List.set_set]
    | _ => rfl
theorem set_self {α : Type} {l : List α} {k : Nat} {c : α} (h : l[k]? = some c) : l.set k c = l := by
  obtain ⟨hk, e⟩ := List.getElem?_eq_some_iff.mp h
  rw [← e, List.set_getElem_self hk]
theorem put_get : ∀ (π : List Nat) {t u : Tr}, t.get π = some u → t.put π u = t
  | [], t, u, h => by rw [get0] at h; cases h; rw [put0]
  | k :: π, t, u, h => by
    cases t with
    | nd p hh ts =>
      rw [getS] at h
      rw [putS]
      cases e : ts[k]? with
      | none => rfl
      | some c =>
        rw [e] at h
        dsimp only at h ⊢
        rw [put_get π h]
        congr 1
        exact set_self e
    | _ => rfl
variable {A : CA} {C : Chn} {s : Nat} {S : Stp} {a : Addr × Addr × Addr} {k : Nat → Tr → Prop} {X : Tr}
theorem st_get1 : (stepT a s S).get [1] = some (liftT a.2.1 S.lifts) := by
  unfold stepT
  rw [getS]
  show (liftT a.2.1 S.lifts).get [] = _
  rw [get0]
theorem st_get2 : (stepT a s S).get [2] = some (mksT a.2.2 S.mks) := by
  unfold stepT
  rw [getS]
  show (mksT a.2.2 S.mks).get [] = _
  rw [get0]
theorem get_appT : ∀ (π : List Nat) {t u : Tr} {σ : List Nat}, t.get π = some u → t.get (π ++ σ) = u.get σ
  | [], t, u, σ, h => by rw [get0] at h; cases h; rfl
  | k :: π, t, u, σ, h => by
    cases t with
    | nd p hh ts =>
      rw [getS] at h
      rw [List.cons_append, getS]
      cases e : ts[k]? with
      | none => rw [e] at h; cases h
      | some c =>
        rw [e] at h
        dsimp only at h ⊢
        exact get_appT π h
    | _ => cases h
theorem ch_get1 (hS : C.steps[s]? = some S) : (chainT A C).get [2, s, 1] = some (liftT (A.sa s).2.1 S.lifts) := by
  rw [show [2, s, 1] = [2, s] ++ [1] from rfl, get_appT [2, s] (ch_get hS), st_get1]
theorem ch_get2 (hS : C.steps[s]? = some S) : (chainT A C).get [2, s, 2] = some (mksT (A.sa s).2.2 S.mks) := by
  rw [show [2, s, 2] = [2, s] ++ [2] from rfl, get_appT [2, s] (ch_get hS), st_get2]
theorem ch_mks (hS : C.steps[s]? = some S) (g : List Nat × Nat) : (chainT A C).put [2, s, 2] (.nd (A.sa s).2.2 .lst ((S.mks.map pr).map Tr.d ++ [.d (pr g)])) = chainT A (setStep C s ⟨S.lifts, S.mks ++ [g]⟩) := by
  refine ch_put hS [2] _ _ ?_
  rw [← st_mks (S.mks ++ [g])]
  unfold mksT
  rw [List.map_append, List.map_append]; rfl
theorem ch_lifts (hS : C.steps[s]? = some S) (L : List (Nat × (List Nat × Nat))) : (chainT A C).put [2, s, 1] (liftT (A.sa s).2.1 L) = chainT A (setStep C s ⟨L, S.mks⟩) := by
  refine ch_put hS [1] _ _ ?_
  rw [st_lifts]
theorem set_same (hS : C.steps[s]? = some S) : setStep C s S = C := by
  unfold setStep
  rw [set_self hS]
/-- the chain with its step's lifts locked -/
def chainL (A : CA) (C : Chn) (s : Nat) (X : Tr) : Tr := (chainT A C).put [2, s, 1] X
theorem cl_get (hS : C.steps[s]? = some S) : (chainL A C s X).get [2, s] = some ((stepT (A.sa s) s S).put [1] X) := get_putA (σ := [1]) [2, s] (ch_get hS)
theorem cl_get1 (hS : C.steps[s]? = some S) : (chainL A C s X).get [2, s, 1] = some X := get_put (ch_get1 hS)
theorem cl_back (hS : C.steps[s]? = some S) : (chainL A C s X).put [2, s, 1] (liftT (A.sa s).2.1 S.lifts) = chainT A C := by
  unfold chainL
  rw [put_put, ch_lifts hS, set_same hS]
theorem sl_nd : ∃ h ts, (stepT a s S).put [1] X = .nd a.1 h ts := ⟨_, _, rfl⟩
theorem ndIn_stepL {E : List Sl} {kk : Nat → List Nat → Tr → Prop} (h : E[0]? = some (.tr (.ref A.p) (chainL A C s X))) (hS : C.steps[s]? = some S) (hk : kk 0 [2, s] ((stepT (A.sa s) s S).put [1] X)) : NdIn E (A.sa s).1 kk := by
  obtain ⟨hh, ts, e⟩ := sl_nd (a := A.sa s) (s := s) (S := S) (X := X)
  rw [e] at hk
  exact ⟨0, [2, s], .ref A.p, chainL A C s X, _, _, h, by rw [cl_get hS, e], hk⟩
theorem at_liftsL : atT ((stepT a s S).put [1] X) "lifts" k = k 1 X := atT_eq (by decide +kernel) rfl
theorem at_makersL : atT ((stepT a s S).put [1] X) "makers" k = k 2 (mksT a.2.2 S.mks) := atT_eq (by decide +kernel) rfl
end
end Cl

set_option Elab.async false
set_option linter.all false
set_option maxRecDepth 100000
set_option maxHeartbeats 4000000
namespace Cl
open PySem PySem.Spec L2 Tb
/-! ### letting a turning in -/
section
theorem sum_set : ∀ (L : List Nat) (k a b : Nat), L[k]? = some a → (L.set k b).sum + a = L.sum + b
  | [], k, a, b, h => by simp at h
  | z :: L, 0, a, b, h => by cases h; rw [List.set_cons_zero, List.sum_cons, List.sum_cons]; omega
  | z :: L, k + 1, a, b, h => by
    rw [List.set_cons_succ, List.sum_cons, List.sum_cons]
    have := sum_set L k a b (by simpa using h)
    omega
theorem sum_le {b : Nat} : ∀ L : List Nat, (∀ a ∈ L, a ≤ b) → L.sum ≤ L.length * b
  | [], _ => by simp
  | z :: L, h => by
    rw [List.sum_cons, List.length_cons, Nat.succ_mul]
    have := h z List.mem_cons_self
    have := sum_le L fun a ha => h a (List.mem_cons_of_mem _ ha)
    omega
def Wt (C : Chn) : Nat := (C.steps.map fun S => 3 * S.mks.length + S.lifts.length).sum
def Sm (C : Chn) : Nat := (C.steps.map fun S => S.mks.length).sum
/-- how many makers a chain's tree has -/
def muS : Tr → Nat
  | .nd _ _ [_, _, .nd _ _ ms] => ms.length
  | _ => 0
def muT : Tr → Nat
  | .nd _ _ [_, _, .nd _ _ ss] => (ss.map muS).sum
  | _ => 0
theorem muT_ch {A : CA} {C : Chn} : muT (chainT A C) = Sm C := by
  show ((stepsT A.sa C.steps).map muS).sum = (C.steps.map fun S => S.mks.length).sum
  congr 1
  unfold stepsT
  apply List.ext_getElem?
  intro i
  rw [List.getElem?_map, List.getElem?_mapIdx, List.getElem?_map]
  cases C.steps[i]? with
  | none => rfl
  | some S =>
    show some (List.length ((S.mks.map pr).map Tr.d)) = some S.mks.length
    rw [List.length_map, List.length_map]
variable {ev : List Ln → Nat → List Nat → Prop} {C C' C2 : Chn} {s l B : Nat} {x y m : List Nat} {S : Stp} {new : List (Nat × (List Nat × Nat))} {nt tks : List Task}
theorem GI.mks_le {tks : List Task} (h : GI C tks) (hS : C.steps[s]? = some S) : S.mks.length ≤ C.n * C.n + 1 := by
  have := (h.chg s S hS).1
  have := Dn_le h.ok s
  omega
theorem GI.wt {tks : List Task} (h : GI C tks) (hn : C.n ≤ 60) : Wt C ≤ 651780 := by
  unfold Wt
  have h2 : C.n * C.n ≤ 60 * 60 := Nat.mul_le_mul hn hn
  refine Nat.le_trans (sum_le (b := 10863) _ fun a ha => ?_) ?_
  · obtain ⟨S, hS, rfl⟩ := List.mem_map.mp ha
    obtain ⟨i, hi⟩ := List.mem_iff_getElem?.mp hS
    have := h.mks_le hi
    have := lifts_le h.ok hi
    omega
  · rw [List.length_map, h.ok.len]
    omega
theorem GI.sm {tks : List Task} (h : GI C tks) (hn : C.n ≤ 60) : Sm C ≤ 216060 := by
  unfold Sm
  have h2 : C.n * C.n ≤ 60 * 60 := Nat.mul_le_mul hn hn
  refine Nat.le_trans (sum_le (b := 3601) _ fun a ha => ?_) ?_
  · obtain ⟨S, hS, rfl⟩ := List.mem_map.mp ha
    obtain ⟨i, hi⟩ := List.mem_iff_getElem?.mp hS
    have := h.mks_le hi
    omega
  · rw [List.length_map, h.ok.len]
    omega
theorem GI.begin (h : GI C []) (hx : IsT C.n x) (hl : l < C.lines.length) : GI C [(0, x, [l])] := by
  refine ⟨h.ok, h.gen, fun s S hS y u hu g hg => ?_, h.chg, fun t ht => ?_, List.pairwise_singleton _ _⟩
  · obtain ⟨u', w, h1, h2, h3⟩ := h.pnd s S hS y u hu g hg
    refine ⟨u', w, h1, h2, ?_⟩
    rcases h3 with h3 | ⟨m, h3⟩ | h3
    · exact .inl h3
    · cases h3
    · exact .inr (.inr h3)
  · rw [List.mem_singleton.mp ht]
    exact ⟨Nat.zero_le _, hx, fun i hi => absurd hi (Nat.not_lt_zero i), .inl ⟨_, rfl⟩, fun a ha => by rw [List.mem_singleton.mp ha]; exact hl, fun s hs => by simp at hs⟩
/-- the while of add -/
structure AddI (ev : List Ln → Nat → List Nat → Prop) (C : Chn) (x : List Nat) (B : Nat) (C' : Chn) (tks : List Task) : Prop where
  gi : GI C' tks
  n : C'.n = C.n
  up : ∀ y, MkOf C 0 y → MkOf C' 0 y
  dn : ∀ y, MkOf C' 0 y → MkOf C 0 y ∨ y = x
  hx : (∃ m, (0, x, m) ∈ tks) ∨ Gn C.n (MkOf C' 0) x
  z : ∀ t ∈ tks, t.1 = 0 → t.2.1 = x
  lo : LvOk ev C'
  tl : ∀ t ∈ tks, TLn ev C'.lines t
  ln : ∃ ls, C'.lines = C.lines ++ ls
  lw : C'.lines.length ≤ Wt C' + B
  ix : ∀ (i : Nat) (t : Task), tks[i]? = some t → i ≤ t.1 * (C.n * (C.n * C.n + 2))
theorem AddI.start (h : GI C []) (hx : IsT C.n x) (hl : l < C.lines.length) (lo : LvOk ev C) (hev : ev C.lines l x) (lw : C.lines.length ≤ Wt C + B) : AddI ev C x B C [(0, x, [l])] :=
  ⟨h.begin hx hl, rfl, fun _ h => h, fun _ h => .inl h, .inl ⟨[l], List.mem_cons_self⟩, fun t ht _ => by rw [List.mem_singleton.mp ht], lo, fun t ht => by
    rw [List.mem_singleton.mp ht]; exact .inl ⟨l, rfl, hev⟩, ⟨[], (List.append_nil _).symm⟩, lw, fun i t ht => by
    have := (List.getElem?_eq_some_iff.mp ht).1
    rw [List.length_singleton] at this
    omega⟩
theorem AddI.pop {t : Task} (h : AddI ev C x B C' (tks ++ [t])) (hs : Sf C' t.1 t.2.1) : AddI ev C x B C' tks := by
  have g := h.gi.pop hs
  refine ⟨g, h.n, h.up, h.dn, ?_, fun t ht => h.z t (List.mem_append_left _ ht), h.lo, fun t ht => h.tl t (List.mem_append_left _ ht), h.ln, h.lw, fun i t' ht => h.ix i t' ?_⟩
  · rcases h.hx with ⟨m, hm⟩ | hm
    · rcases List.mem_append.mp hm with hm | hm
      · exact .inl ⟨m, hm⟩
      · right
        have e := List.mem_singleton.mp hm
        subst e
        have all0 : ∀ t ∈ tks, t.1 ≤ 0 := fun t ht => (List.pairwise_append.mp h.gi.srt).2.2 t ht _ List.mem_cons_self
        have tx := h.gi.tok _ (List.mem_append_right _ List.mem_cons_self)
        have := (chain_main g.ok g.gen C'.n 0 (Nat.zero_add _) (fun r _ hr => g.cmpAll all0 (Nat.zero_le r) hr) x tx.is (fun i hi => absurd hi (Nat.not_lt_zero _))).mp hs
        rwa [h.n] at this
    · exact .inr hm
  · rw [List.getElem?_append_left (List.getElem?_eq_some_iff.mp ht).1]; exact ht
theorem AddI.top {t : Task} (h : AddI ev C x B C' (tks ++ [t])) (hn : C.n ≤ 60) : (tks ++ [t]).length ≤ 12967201 := by
  have h1 := h.ix tks.length t (by rw [List.getElem?_append_right (Nat.le_refl _), Nat.sub_self]; rfl)
  have h2 := (h.gi.tok t (List.mem_append_right _ List.mem_cons_self)).le
  rw [h.n] at h2
  have h3 : C.n * C.n ≤ 60 * 60 := Nat.mul_le_mul hn hn
  have h4 : C.n * (C.n * C.n + 2) ≤ 60 * 3602 := Nat.mul_le_mul hn (by omega)
  have h5 : t.1 * (C.n * (C.n * C.n + 2)) ≤ 60 * (60 * 3602) := Nat.mul_le_mul (by omega) h4
  rw [List.length_append, List.length_singleton]
  omega
theorem AddI.len (h : AddI ev C x B C' tks) (hn : C.n ≤ 60) : tks.length ≤ 12967201 := by
  rcases List.eq_nil_or_concat tks with e | ⟨L, t, e⟩
  · subst e; simp
  · rw [List.concat_eq_append] at e
    subst e; exact h.top hn
theorem AddI.grow (he : EvL ev) (h : AddI ev C x B C' (tks ++ [(s, y, m)])) (hn : ¬ Sf C' s y) {ls3 : List Ln} (hl3 : ls3.length ≤ 3) {l : Nat} (g : Grw (moreL C' ls3) s y l S new C2 nt)
    (ntl : nt.length ≤ C.n * (S.mks.length + 1)) (lo : LvOk ev C2) (tl : ∀ t ∈ nt, TLn ev C2.lines t) : AddI ev C x B C2 (tks ++ nt) ∧ Sm C2 = Sm C' + 1 := by
  have gi := (h.gi.lines ls3).grow (C := moreL C' ls3) hn g
  have hS : C'.steps[s]? = some S := g.hS
  have st : C2.steps = C'.steps.set s ⟨S.lifts ++ new, S.mks ++ [(y, l)]⟩ := g.st
  obtain ⟨ls2, e2, e3⟩ := g.ln
  have e2 : C2.lines = C'.lines ++ ls3 ++ ls2 := e2
  have eW : Wt C2 = Wt C' + 3 + new.length := by
    unfold Wt
    rw [st, List.map_set]
    have := sum_set (C'.steps.map fun S => 3 * S.mks.length + S.lifts.length) s (3 * S.mks.length + S.lifts.length) (3 * (S.mks ++ [(y, l)]).length + (S.lifts ++ new).length) (by rw [List.getElem?_map, hS]; rfl)
    rw [List.length_append, List.length_append, List.length_singleton] at this
    simp only [List.length_append, List.length_singleton]
    omega
  have eS : Sm C2 = Sm C' + 1 := by
    unfold Sm
    rw [st, List.map_set]
    have := sum_set (C'.steps.map fun S => S.mks.length) s S.mks.length (S.mks ++ [(y, l)]).length (by rw [List.getElem?_map, hS]; rfl)
    rw [List.length_append, List.length_singleton] at this
    simp only [List.length_append, List.length_singleton]
    omega
  refine ⟨⟨gi, g.n.trans h.n, fun z hz => g.mkUp (C := moreL C' ls3) (h.up z hz), fun z hz => ?_, ?_, fun t ht e => ?_, lo, fun t ht => ?_, ?_, ?_, fun i t ht => ?_⟩, eS⟩
  · rcases g.mk' hz with hz | ⟨e1, e2⟩
    · exact h.dn z hz
    · right
      rw [e2]
      exact h.z (s, y, m) (List.mem_append_right _ List.mem_cons_self) e1.symm
  · rcases h.hx with ⟨m', hm⟩ | hm
    · rcases List.mem_append.mp hm with hm | hm
      · exact .inl ⟨m', List.mem_append_left _ hm⟩
      · right
        have e := List.mem_singleton.mp hm
        cases e
        have k := Gn.gen (n := C2.n) (mk_isT g.ok) g.mkNew
        have e : C2.n = C.n := g.n.trans h.n
        rwa [e] at k
    · exact .inr (hm.mono fun z hz => g.mkUp (C := moreL C' ls3) hz)
  · rcases List.mem_append.mp ht with ht | ht
    · exact h.z t (List.mem_append_left _ ht) e
    · rw [g.nt1 t ht] at e; omega
  · rcases List.mem_append.mp ht with ht | ht
    · rw [e2, List.append_assoc]
      exact (h.tl t (List.mem_append_left _ ht)).mono he
    · exact tl t ht
  · obtain ⟨ls, e⟩ := h.ln
    exact ⟨ls ++ ls3 ++ ls2, by rw [e2, e, List.append_assoc, List.append_assoc, List.append_assoc]⟩
  · have := h.lw
    rw [e2, List.length_append, List.length_append, eW]
    omega
  · rcases Nat.lt_or_ge i tks.length with hi | hi
    · rw [List.getElem?_append_left hi] at ht
      exact h.ix i t (by rw [List.getElem?_append_left hi]; exact ht)
    · rw [List.getElem?_append_right hi] at ht
      have h1 := (List.getElem?_eq_some_iff.mp ht).1
      rw [g.nt1 t (List.mem_of_getElem? ht), Nat.add_mul, Nat.one_mul]
      have h2 := h.ix tks.length (s, y, m) (by rw [List.getElem?_append_right (Nat.le_refl _), Nat.sub_self]; rfl)
      dsimp only at h2
      have h3 := h.gi.mks_le hS
      rw [h.n] at h3
      have h4 : C.n * (S.mks.length + 1) ≤ C.n * (C.n * C.n + 2) := Nat.mul_le_mul_left _ (by omega)
      omega
theorem rst_le (L : List Stp) (s : Nat) (x : List Nat) : (rst L s x).1 ≤ s + L.length := by
  induction L generalizing s x with
  | nil => exact Nat.le_refl _
  | cons A L ih =>
    unfold rst
    rw [List.length_cons]
    cases A.lifts.lookup (x.getD s 0) with
    | none => dsimp only; omega
    | some u =>
      dsimp only
      by_cases h : x.getD s 0 = s
      · rw [if_pos h]; have := ih (s + 1) x; omega
      · rw [if_neg h]; have := ih (s + 1) (Cl.bh x (bk u.1)); omega
theorem rstC_le (hC : COk C) (hs : s ≤ C.n) : (rstC C s x).1 ≤ C.n := by
  have := rst_le (C.steps.drop s) s x
  unfold rstC
  rw [List.length_drop, hC.len] at this
  omega
/-- behind the while -/
structure Added (ev : List Ln → Nat → List Nat → Prop) (C : Chn) (x : List Nat) (B : Nat) (C' : Chn) : Prop where
  gi : GI C' []
  n : C'.n = C.n
  up : ∀ y, MkOf C 0 y → MkOf C' 0 y
  dn : ∀ y, MkOf C' 0 y → MkOf C 0 y ∨ y = x
  hx : Gn C.n (MkOf C' 0) x
  lo : LvOk ev C'
  ln : ∃ ls, C'.lines = C.lines ++ ls
  lw : C'.lines.length ≤ Wt C' + B
theorem AddI.fin (h : AddI ev C x B C' []) : Added ev C x B C' := ⟨h.gi, h.n, h.up, h.dn, by
  rcases h.hx with ⟨_, h⟩ | h
  · cases h
  · exact h, h.lo, h.ln, h.lw⟩
/-- what is made by makers, one let in behind the other -/
theorem Added.gn {ts : List (List Nat)} (h : Added ev C x B C') (hC : GI C []) (ht : ∀ t ∈ ts, IsT C.n t) (hx : IsT C.n x) (e : ∀ y, Gn C.n (MkOf C 0) y ↔ Gn C.n (· ∈ ts) y) (y : List Nat) : Gn C.n (MkOf C' 0) y ↔ Gn C.n (· ∈ ts ++ [x]) y := by
  have i1 : ∀ g, MkOf C' 0 g → IsT C.n g := fun g hg => by have := mk_isT h.gi.ok g hg; rwa [h.n] at this
  have i2 : ∀ g, g ∈ ts ++ [x] → IsT C.n g := fun g hg => by
    rcases List.mem_append.mp hg with hg | hg
    · exact ht g hg
    · rw [List.mem_singleton.mp hg]; exact hx
  constructor
  · refine Gn.sub i1 i2 fun g hg => ?_
    rcases h.dn g hg with hg | rfl
    · exact ((e g).mp (Gn.gen (mk_isT hC.ok) hg)).mono fun z hz => List.mem_append_left _ hz
    · exact Gn.gen i2 (List.mem_append_right _ List.mem_cons_self)
  · refine Gn.sub i2 i1 fun g hg => ?_
    rcases List.mem_append.mp hg with hg | hg
    · exact ((e g).mpr (Gn.gen ht hg)).mono h.up
    · rw [List.mem_singleton.mp hg]; exact h.hx
/-! the chain at its start -/
theorem chn0_get {n s : Nat} {S : Stp} (h : (chn0 n).steps[s]? = some S) : s < n ∧ S = stp0 n s := by
  unfold chn0 at h
  dsimp only at h
  rw [List.getElem?_map] at h
  have hs : s < n := by
    cases e : (List.range n)[s]? with
    | none => rw [e] at h; cases h
    | some v =>
      have := (List.getElem?_eq_some_iff.mp e).1
      rwa [List.length_range] at this
  rw [List.getElem?_range hs] at h
  cases h
  exact ⟨hs, rfl⟩
theorem chn0_mk {n s : Nat} {g : List Nat} (h : MkOf (chn0 n) s g) : False := by
  obtain ⟨S, l, hS, hm⟩ := h
  obtain ⟨_, rfl⟩ := chn0_get hS
  cases hm
theorem chn0_GI (n : Nat) : GI (chn0 n) [] := by
  refine ⟨⟨by unfold chn0; simp, fun s S hS => ?_⟩, ⟨fun s S hS p hp => ?_, fun s g hg => (chn0_mk hg).elim⟩, fun s S hS y u hu g hg => ?_, fun s S hS => ?_, (fun t ht => nomatch ht), List.Pairwise.nil⟩
  · obtain ⟨hs, rfl⟩ := chn0_get hS
    refine ⟨by unfold stp0; simp [chn0], by unfold stp0; simp, fun p hp => ?_, fun g hg => nomatch hg⟩
    unfold stp0 at hp
    rw [List.mem_singleton.mp hp]
    exact ⟨hs, .range n, Fx.rg (Nat.le_of_lt hs), range_getD hs, by show 0 < 1; omega⟩
  · obtain ⟨hs, rfl⟩ := chn0_get hS
    unfold stp0 at hp
    rw [List.mem_singleton.mp hp]
    exact .one
  · obtain ⟨hs, rfl⟩ := chn0_get hS
    cases hg
  · obtain ⟨hs, rfl⟩ := chn0_get hS
    exact ⟨Nat.zero_le _, fun _ => Nat.zero_le _⟩
theorem chn0_lo {n : Nat} (h0 : ev [.still] 0 (List.range n)) : LvOk ev (chn0 n) := fun s S hS => by
  obtain ⟨hs, rfl⟩ := chn0_get hS
  refine ⟨fun p hp => ?_, fun g hg => nomatch hg⟩
  unfold stp0 at hp
  rw [List.mem_singleton.mp hp]
  exact h0
end
end Cl

set_option Elab.async false
set_option linter.all false
set_option maxRecDepth 100000
set_option maxHeartbeats 4000000
namespace Cl
open PySem PySem.Spec L2 Tb
/-! ### all that a chain has -/
section
def elsG (n : Nat) : List Stp → Nat → List (List Nat)
  | [], _ => [List.range n]
  | S :: r, s => (elsG n r (s + 1)).flatMap fun z => S.lifts.map fun p => bh z p.2.1
def els (C : Chn) (s : Nat) : List (List Nat) := elsG C.n (C.steps.drop s) s
def szG : List Stp → Nat
  | [] => 1
  | S :: r => S.lifts.length * szG r
theorem els_end {C : Chn} (hC : COk C) : els C C.n = [List.range C.n] := by
  unfold els
  rw [List.drop_eq_nil_of_le (by rw [hC.len]; exact Nat.le_refl _)]
  rfl
theorem els_step {C : Chn} {s : Nat} {S : Stp} (hS : C.steps[s]? = some S) : els C s = (els C (s + 1)).flatMap fun z => S.lifts.map fun p => bh z p.2.1 := by
  obtain ⟨h, e⟩ := List.getElem?_eq_some_iff.mp hS
  unfold els
  rw [List.drop_eq_getElem_cons h, e]
  rfl
theorem els_mem {C : Chn} (hC : COk C) : ∀ k s, s + k = C.n → ∀ x, x ∈ els C s ↔ IsT C.n x ∧ Fx s x ∧ Sf C s x
  | 0, s, h, x => by
    have e : s = C.n := by omega
    subst e
    rw [els_end hC, List.mem_singleton]
    exact ⟨fun e => by subst e; exact ⟨.range _, Fx.rg (Nat.le_refl _), Sf_end hC⟩, fun ⟨h1, h2, _⟩ => h2.all h1⟩
  | k + 1, s, h, x => by
    obtain ⟨S, hS⟩ := hC.get (s := s) (by omega)
    have hs := hC.lt hS
    have ih := els_mem hC k (s + 1) (by omega)
    rw [els_step hS, List.mem_flatMap]
    constructor
    · rintro ⟨z, hz, hx⟩
      obtain ⟨p, hp, rfl⟩ := List.mem_map.mp hx
      obtain ⟨z1, z2, z3⟩ := (ih z).mp hz
      obtain ⟨p1, p2, p3, p4, _⟩ := (hC.st s S hS).lt p hp
      have lk := mem_lookup (hC.st s S hS).nd (x := p.1) (v := p.2) hp
      have ex : (bh z p.2.1).getD s 0 = p.1 := by rw [bh_at' z1 hs, z2 s (by omega), p4]
      refine ⟨z1.bh p2, Fx.bh (by omega) z1 (z2.mono (by omega)) p3, ?_⟩
      refine (Sf_step hC hS (z1.bh p2)).mpr ⟨p.2, by rw [ex]; exact lk, ?_⟩
      rw [bh_as z1 p2, bh_bkr p2, bh_rg z1]
      exact z3
    · rintro ⟨h1, h2, h3⟩
      obtain ⟨u, e1, e2⟩ := (Sf_step hC hS h1).mp h3
      obtain ⟨y1, u1, u2, u3, _⟩ := hC.lift hS e1
      refine ⟨bh x (bk u.1), (ih _).mpr ⟨h1.bh u1.bk, fun i hi => ?_, e2⟩, List.mem_map.mpr ⟨_, lookup_mem2 e1, ?_⟩⟩
      · rcases Nat.lt_or_eq_of_le (Nat.le_of_lt_succ hi) with h | h
        · exact Fx.bh (by omega) h1 h2 (Fx.bk (by omega) u1 u2) i h
        · subst h
          rw [bh_at' h1 hs, ← u3, u1.bk_at hs]
      · show bh (bh x (bk u.1)) u.1 = x
        rw [bh_as h1 u1.bk, bh_bkl u1, bh_rg h1]
theorem els_nodup {C : Chn} (hC : COk C) : ∀ k s, s + k = C.n → (els C s).Nodup
  | 0, s, h => by
    have e : s = C.n := by omega
    subst e
    rw [els_end hC]
    exact List.pairwise_singleton _ _
  | k + 1, s, h => by
    obtain ⟨S, hS⟩ := hC.get (s := s) (by omega)
    have hs := hC.lt hS
    have ih := els_nodup hC k (s + 1) (by omega)
    have im := els_mem hC k (s + 1) (by omega)
    have hst := hC.st s S hS
    have key : ∀ z z', z ∈ els C (s + 1) → z' ∈ els C (s + 1) → ∀ p ∈ S.lifts, ∀ p' ∈ S.lifts, bh z p.2.1 = bh z' p'.2.1 → p.1 = p'.1 ∧ z = z' := by
      intro z z' hz hz' p hp p' hp' e
      obtain ⟨z1, z2, _⟩ := (im z).mp hz
      obtain ⟨w1, w2, _⟩ := (im z').mp hz'
      obtain ⟨p1, p2, p3, p4, _⟩ := hst.lt p hp
      obtain ⟨q1, q2, q3, q4, _⟩ := hst.lt p' hp'
      have e1 : (bh z p.2.1).getD s 0 = (bh z' p'.2.1).getD s 0 := by rw [e]
      rw [bh_at' z1 hs, bh_at' w1 hs, z2 s (by omega), w2 s (by omega), p4, q4] at e1
      have l1 := mem_lookup hst.nd (x := p.1) (v := p.2) hp
      have l2 := mem_lookup hst.nd (x := p'.1) (v := p'.2) hp'
      rw [e1, l2] at l1
      have e2 : p'.2 = p.2 := Option.some.inj l1
      refine ⟨e1, ?_⟩
      rw [e2] at e
      have := congrArg (fun v => bh v (bk p.2.1)) e
      rwa [bh_as z1 p2, bh_as w1 p2, bh_bkr p2, bh_rg z1, bh_rg w1] at this
    rw [els_step hS]
    refine List.pairwise_flatMap.mpr ⟨fun z hz => ?_, ?_⟩
    · have nd := List.pairwise_map.mp hst.nd
      refine List.pairwise_map.mpr (List.Pairwise.imp_of_mem (fun {a b} ha hb hab e => ?_) nd)
      exact hab (key z z hz hz a ha b hb e).1
    · refine List.Pairwise.imp_of_mem (fun {a b} ha hb hab x hx y hy e => ?_) ih
      obtain ⟨p, hp, rfl⟩ := List.mem_map.mp hx
      obtain ⟨q, hq, rfl⟩ := List.mem_map.mp hy
      exact hab (key a b ha hb p hp q hq e).2
theorem els_len (n : Nat) : ∀ (L : List Stp) (s : Nat), (elsG n L s).length = szG L
  | [], s => rfl
  | S :: r, s => by
    unfold elsG szG
    rw [List.length_flatMap]
    have : ∀ l : List (List Nat), (l.map fun a => (S.lifts.map fun p => bh a p.2.1).length).sum = S.lifts.length * l.length := by
      intro l
      induction l with
      | nil => simp
      | cons a l ih => rw [List.map_cons, List.sum_cons, ih, List.length_map, List.length_cons, Nat.mul_succ, Nat.add_comm]
    rw [this, els_len n r]
theorem szG_le {n : Nat} : ∀ L : List Stp, (∀ S ∈ L, S.lifts.length ≤ n) → szG L ≤ n ^ L.length
  | [], _ => by simp [szG]
  | S :: L, h => by
    unfold szG
    rw [List.length_cons, Nat.pow_succ, Nat.mul_comm]
    exact Nat.mul_le_mul (szG_le L fun A hA => h A (List.mem_cons_of_mem _ hA)) (h S List.mem_cons_self)
/-- as many as different turnings are made -/
theorem sz_eq {C : Chn} (hC : COk C) {l : List (List Nat)} (nd : l.Nodup) (h : ∀ x, x ∈ l ↔ IsT C.n x ∧ Sf C 0 x) : szG C.steps = l.length := by
  have e := els_len C.n C.steps 0
  rw [← e]
  have p : (els C 0).Perm l := (List.perm_ext_iff_of_nodup (els_nodup hC C.n 0 (Nat.zero_add _)) nd).mpr fun x => by
    rw [els_mem hC C.n 0 (Nat.zero_add _), h]
    exact ⟨fun ⟨a, _, c⟩ => ⟨a, c⟩, fun ⟨a, c⟩ => ⟨a, fun i hi => absurd hi (Nat.not_lt_zero i), c⟩⟩
  have := p.length_eq
  unfold els at this
  rwa [List.drop_zero] at this
/-- just what is made -/
theorem GI.main {C : Chn} (h : GI C []) {x : List Nat} (hx : IsT C.n x) : Sf C 0 x ↔ Gn C.n (MkOf C 0) x :=
  chain_main h.ok h.gen C.n 0 (Nat.zero_add _) (fun r _ hr => h.cmpAll (s := 0) (fun t ht => nomatch ht) (Nat.zero_le r) hr) x hx (fun i hi => absurd hi (Nat.not_lt_zero i))
/-! ### the powers of one turning -/
def lcmA (f : Nat → Nat) (n : Nat) : Nat := (List.range n).foldl (fun a x => Nat.lcm a (f x)) 1
theorem lcmA_succ (f : Nat → Nat) (n : Nat) : lcmA f (n + 1) = Nat.lcm (lcmA f n) (f n) := by
  unfold lcmA
  rw [List.range_succ, List.foldl_append]; rfl
theorem lcmA_pos {f : Nat → Nat} : ∀ n, (∀ x, x < n → 0 < f x) → 0 < lcmA f n
  | 0, _ => Nat.one_pos
  | n + 1, h => by rw [lcmA_succ]; exact Nat.lcm_pos (lcmA_pos n fun x hx => h x (by omega)) (h n (by omega))
theorem lcmA_dvd {f : Nat → Nat} {m : Nat} : ∀ n, lcmA f n ∣ m ↔ ∀ x, x < n → f x ∣ m
  | 0 => ⟨fun _ x hx => absurd hx (Nat.not_lt_zero x), fun _ => Nat.one_dvd m⟩
  | n + 1 => by
    rw [lcmA_succ, Nat.lcm_dvd_iff, lcmA_dvd n]
    exact ⟨fun ⟨a, b⟩ x hx => by
      rcases Nat.lt_or_eq_of_le (Nat.le_of_lt_succ hx) with h | h
      · exact a x h
      · rw [h]; exact b, fun h => ⟨fun x hx => h x (by omega), h n (by omega)⟩⟩
theorem lcmA_le {f : Nat → Nat} {b : Nat} : ∀ n, (∀ x, x < n → 0 < f x ∧ f x ≤ b) → lcmA f n ≤ b ^ n
  | 0, _ => Nat.le_refl _
  | n + 1, h => by
    rw [lcmA_succ, Nat.pow_succ]
    have h1 := lcmA_le n fun x hx => h x (by omega)
    have h2 := h n (by omega)
    have h3 := lcmA_pos (f := f) n fun x hx => (h x (by omega)).1
    exact Nat.le_trans (Nat.le_of_dvd (Nat.mul_pos h3 h2.1) (Nat.lcm_dvd_mul _ _)) (Nat.mul_le_mul h1 h2.2)
noncomputable def ordT (n : Nat) (t : List Nat) : Nat := lcmA (per t) n
variable {n : Nat} {t : List Nat}
theorem ordT_pos (ht : IsT n t) : 0 < ordT n t := lcmA_pos n fun x hx => ht.per_pos hx
theorem per_ord (ht : IsT n t) {x : Nat} (hx : x < n) : per t x ∣ ordT n t := (lcmA_dvd n).mp (Nat.dvd_refl _) x hx
theorem pwN_eq (ht : IsT n t) {i j : Nat} (hij : j ≤ i) : pwN n t i = pwN n t j ↔ ordT n t ∣ i - j := by
  unfold ordT
  rw [lcmA_dvd]
  constructor
  · intro e x hx
    have e1 : it t i x = it t j x := by rw [← pwN_at ht hx, ← pwN_at ht hx, e]
    have e2 : it t j (it t (i - j) x) = it t j x := by rw [← it_add, show j + (i - j) = i by omega]; exact e1
    have e3 : it t (i - j) x = x := ht.it_inj (ht.it_lt hx _) hx j e2
    rw [ht.it_mod hx] at e3
    have pp := ht.per_pos hx
    by_cases h0 : (i - j) % per t x = 0
    · exact Nat.dvd_of_mod_eq_zero h0
    · have := ht.per_le hx (Nat.pos_of_ne_zero h0) e3
      have := Nat.mod_lt (i - j) pp
      omega
  · intro h
    refine list_ext_getD (by rw [(pwN_isT ht _).len, (pwN_isT ht _).len]) fun x hx => ?_
    rw [(pwN_isT ht _).len] at hx
    rw [pwN_at ht hx, pwN_at ht hx]
    obtain ⟨m, hm⟩ := h x hx
    rw [show i = j + (i - j) by omega, it_add, hm, Nat.mul_comm, ht.it_mul hx]
noncomputable def pws (n : Nat) (t : List Nat) : List (List Nat) := (List.range (ordT n t)).map (pwN n t)
theorem pws_nodup (ht : IsT n t) : (pws n t).Nodup := by
  unfold pws
  refine List.pairwise_map.mpr (List.Pairwise.imp_of_mem (fun {a b} ha hb hab e => ?_) List.pairwise_lt_range)
  have hb := List.mem_range.mp hb
  have := (pwN_eq ht (Nat.le_of_lt hab)).mp e.symm
  have := Nat.le_of_dvd (by omega) this
  omega
theorem pwN_mod (ht : IsT n t) (k : Nat) : pwN n t k = pwN n t (k % ordT n t) := (pwN_eq ht (Nat.mod_le _ _)).mpr (by
  refine ⟨k / ordT n t, ?_⟩
  have := Nat.div_add_mod k (ordT n t)
  omega)
theorem mem_pws (ht : IsT n t) {x : List Nat} : x ∈ pws n t ↔ ∃ k, x = pwN n t k := by
  unfold pws
  rw [List.mem_map]
  exact ⟨fun ⟨k, _, e⟩ => ⟨k, e.symm⟩, fun ⟨k, e⟩ => ⟨k % ordT n t, List.mem_range.mpr (Nat.mod_lt _ (ordT_pos ht)), by rw [e, ← pwN_mod ht]⟩⟩
/-- one maker, perhaps the still one ahead -/
theorem gn_pw (ht : IsT n t) {ms : List (List Nat)} (h1 : t ∈ ms) (h2 : ∀ m ∈ ms, m = List.range n ∨ m = t) {x : List Nat} : Gn n (· ∈ ms) x ↔ ∃ k, x = pwN n t k := by
  have hi : ∀ g, g ∈ ms → IsT n g := fun g hg => by
    rcases h2 g hg with e | e
    · rw [e]; exact .range n
    · rw [e]; exact ht
  constructor
  · intro h
    induction h with
    | one => exact ⟨0, rfl⟩
    | mul _ hg ih =>
      obtain ⟨k, rfl⟩ := ih
      rcases h2 _ hg with e | e
      · exact ⟨k, by rw [e, bh_rg (pwN_isT ht k)]⟩
      · exact ⟨k + 1, by rw [e]; rfl⟩
  · rintro ⟨k, rfl⟩
    exact (Gn.gen hi h1).pw hi k
/-- the size of such a group -/
theorem sz_pw {C : Chn} (h : GI C []) (ht : IsT C.n t) (e : ∀ y, Gn C.n (MkOf C 0) y ↔ ∃ k, y = pwN C.n t k) : szG C.steps = ordT C.n t := by
  have : (pws C.n t).length = ordT C.n t := by unfold pws; rw [List.length_map, List.length_range]
  rw [← this]
  refine sz_eq h.ok (pws_nodup ht) fun x => ?_
  rw [mem_pws ht]
  constructor
  · rintro ⟨k, rfl⟩
    exact ⟨pwN_isT ht k, (h.main (pwN_isT ht k)).mpr ((e _).mpr ⟨k, rfl⟩)⟩
  · rintro ⟨h1, h2⟩
    exact (e _).mp ((h.main h1).mp h2)
/-- where the lifts at place 0 go -/
theorem lift0 {C : Chn} {S : Stp} (h : GI C []) (hS : C.steps[0]? = some S) (ht : IsT C.n t) (e : ∀ y, Gn C.n (MkOf C 0) y ↔ ∃ k, y = pwN C.n t k) (y : Nat) : y ∈ S.lifts.map (·.1) ↔ y ∈ cyc t 0 := by
  have hs := h.ok.lt hS
  rw [ht.mem_cyc hs]
  constructor
  · intro hy
    obtain ⟨p, hp, rfl⟩ := List.mem_map.mp hy
    obtain ⟨k, hk⟩ := (e _).mp (h.gen.lf 0 S hS p hp)
    obtain ⟨p1, p2, p3, p4, _⟩ := (h.ok.st 0 S hS).lt p hp
    refine ⟨k, ?_⟩
    rw [← pwN_at ht hs, ← hk, p4]
  · rintro ⟨k, rfl⟩
    have i := pwN_isT ht k
    have := (h.main i).mpr ((e _).mpr ⟨k, rfl⟩)
    obtain ⟨u, e1, _⟩ := (Sf_step h.ok hS i).mp this
    rw [pwN_at ht hs] at e1
    exact List.mem_map.mpr ⟨_, lookup_mem2 e1, rfl⟩
theorem mul_ok {x y : Nat} (hx : x ≤ 1000 ^ 1000) (hy : y ≤ 1000) : CMulB (x : Int) (y : Int) := by
  unfold CMulB
  rw [Int.natAbs_natCast, Int.natAbs_natCast]
  have h1 : x.log2 ≤ 10000 := by
    by_cases h0 : x = 0
    · subst h0; decide
    · have : x < 2 ^ 10001 := Nat.lt_of_le_of_lt hx (by
        calc 1000 ^ 1000 ≤ (2 ^ 10) ^ 1000 := Nat.pow_le_pow_left (by decide) _
          _ = 2 ^ 10000 := by rw [← Nat.pow_mul]
          _ < 2 ^ 10001 := Nat.pow_lt_pow_right (by decide) (by decide))
      have := (Nat.log2_lt h0).mpr this
      omega
  have h2 : y.log2 ≤ 10 := by
    by_cases h0 : y = 0
    · subst h0; decide
    · have : y < 2 ^ 11 := by omega
      have := (Nat.log2_lt h0).mpr this
      omega
  omega
end
end Cl

set_option Elab.async false
set_option linter.all false
set_option maxRecDepth 100000
set_option maxHeartbeats 4000000
namespace Cl
open PySem PySem.Spec L2 Tb
/-! ### a group as data, read -/
section
/-- the steps that move their places -/
def liftN : D → Nat
  | .dict (_ :: _ :: (_, .dict (_ :: kvs)) :: _) => kvs.length
  | _ => 0
theorem liftN_step (s : Nat) (S : Stp) : liftN (stepD s S) = S.lifts.length := by
  show (List.map _ _).length = _
  simp
def bigF (d : D) : Option D := if 1 < liftN d then some d else none
def bigD (C : Chn) : List D := (C.steps.mapIdx stepD).filterMap bigF
/-- a group as data -/
def groupD (C : Chn) (ts : List (List Nat)) : D := objD "Group" [(.str "made", .list (tl ts)), (.str "many", .int (C.n : Nat)), (.str "chain", chainD C), (.str "steps", .list (bigD C))]

section
variable {C : Chn} {ts : List (List Nat)} {s : Nat} {S : Stp} {k : D → Prop}
theorem ad_many : atD (chainD C) "many" k = k (.int (C.n : Nat)) := by
  unfold chainD
  rw [atD_obj]
  exact atK_some
theorem ad_lines : atD (chainD C) "lines" k = k (.list (lnl C.lines)) := by
  unfold chainD
  rw [atD_obj]
  exact atK_some
theorem ad_steps : atD (chainD C) "steps" k = k (.list (C.steps.mapIdx stepD)) := by
  unfold chainD
  rw [atD_obj]
  exact atK_some
theorem ad_place : atD (stepD s S) "place" k = k (.int (s : Nat)) := by
  unfold stepD
  rw [atD_obj]
  exact atK_some
abbrev lfD (S : Stp) : List (Key × D) := S.lifts.map fun p => (kN p.1, pr p.2)
theorem ad_lifts : atD (stepD s S) "lifts" k = k (dicK (lfD S)) := by
  unfold stepD
  rw [atD_obj]
  exact atK_some
theorem gd_made : atD (groupD C ts) "made" k = k (.list (tl ts)) := by
  unfold groupD
  rw [atD_obj]
  exact atK_some
theorem gd_many : atD (groupD C ts) "many" k = k (.int (C.n : Nat)) := by
  unfold groupD
  rw [atD_obj]
  exact atK_some
theorem gd_chain : atD (groupD C ts) "chain" k = k (chainD C) := by
  unfold groupD
  rw [atD_obj]
  exact atK_some
theorem gd_steps : atD (groupD C ts) "steps" k = k (.list (bigD C)) := by
  unfold groupD
  rw [atD_obj]
  exact atK_some
theorem lfD_len : (lfD S).length = S.lifts.length := List.length_map _
theorem stepsD_get {L : List Stp} (h : L[s]? = some S) : (L.mapIdx stepD)[s]? = some (stepD s S) := by rw [List.getElem?_mapIdx, h]; rfl
theorem stepsD_drop (L : List Stp) (s i : Nat) (d : D) (h : (cut (L.mapIdx stepD) (some (s : Int)) none)[i]? = some d) : ∃ S, L[s + i]? = some S ∧ d = stepD (s + i) S := by
  rw [cut_drop, List.getElem?_drop, List.getElem?_mapIdx] at h
  cases e : L[s + i]? with
  | none => rw [e] at h; cases h
  | some S => rw [e] at h; exact ⟨S, rfl, (Option.some.inj h).symm⟩
end
end
end Cl

set_option Elab.async false
set_option linter.all false
set_option maxRecDepth 100000
set_option maxHeartbeats 4000000
namespace Cl
open PySem PySem.Spec L2 Tb
local macro_rules | `(tactic| walk_at "sx") => `(tactic| try simp only [rBB_eq, wExp_eq, wRaise_eq, wTry_eq, cEnds, setEO, wIsC_eq, wIsT_eq, wPopS_eq, wIRvL_eq, wIRvT_eq, rINTB_eq, rSLS_eq, wSplit_eq, wISt_eq, rINS_eq, wClr_eq, wRvS_eq, rCATT_eq, rCATA_eq, rSLA_eq, rREPT_eq, wSetD_eq, wSetD1_eq, wDIx_eq, wDIn_eq, wDNi_eq, wDPut_eq, dkS_dk, exKeyI, exKeyS, wJoin_eq, wIns_eq, wRd_eq, wTk_eq, wFr_eq, rdS_fr, rdS_ow, rdS_bo, tkS_fr, tkS_ow, frS_fr, owS_ow, boS_bo, wAppPop_eq, wSetPopAt_eq, wPopAtS_eq, wSetPop_eq, wBk_eq, wCt_eq, wC_eq, wBin_eq, rII_eq, rIB_eq, rEQ_eq, rNE_eq, rIN_eq, rNI_eq, rIXL_eq, rIXT_eq, rIX_eqL, rIX_eqT, rIXS_eq, rCAT_eq, rREP_eq, rADDS_eq, wNeg_eq, wIsN_eq, wNotN_eq, wT_eq, exBool, exInt, exList, exTup, exStr, wChain_eq, wAnd_eq, wOr_eq, wNot_eq, wAndV_eq, wOrV_eq, wNotV_eq, wIf_eq, wA0_eq, wA_eq, wLst_eq, wTup_eq, wCall_eq, wFn_eq, rLEN_list, rLEN_tup, rLEN_str, rTUP_list, rTUP_tup, rLIST_list, rLIST_tup, wRg1_eq, wRg2_eq, shaped_int, shaped_bool, shaped_none, eqv_int, isi_int, isi_bool, isi_str, isi_list, isi_tuple, isi2_lt, rdS_slOf, isInt, isBool, isStr, isList, isTup, wO0_eq, wO_eq, wSl_eq, rSLL_eq, rSLT_eq, wNx_eq, wSeq_eq, wFz_eq, wFzT_eq, fzS_ow, fzS_fr, wSetP_eq, wSet_eq, wSetO_eq, wRet_eq, wRetO_eq, wIfS_eq, wAugI_eq, wAugM_eq, wPar_eq, exPair_two, wApp_eq, wExt_eq, wPutI_eq, wPopAt_eq, wIL_eq, wIT_eq, wIB_eq, wIE_eq, wIET_eq, wIR1_eq, wIR2_eq, wIR3_eq, wLc_eq, wYes_eq, up_one, up_many, startE, slOf, wipeE, setsE, List.length_cons, List.length_nil, List.getElem?_cons_zero, List.getElem?_cons_succ, List.map_cons, List.map_nil, List.set_cons_succ, List.set_cons_zero, List.replicate_succ, List.replicate_zero, beq_self_eq_true, Bool.not_true, Bool.not_false, if_true, if_false, reduceIte, Bool.false_eq_true, true_and, and_true, List.length_map, List.append_nil, List.nil_append])
local macro_rules | `(tactic| walk_at "ux") => `(tactic| try simp only [wECmp_eq, frsS_nil, frsS_cons, wETup_eq, get0, getS, put0, putS, trS_tr, takeS_ow, takeS_tr, takeS_fr, wEtake_eq, wEf_eq, wEn_eq, owT_ow, wEtr_eq, frB_fr, wTe_eq, wTp_eq, wAndE_eq, wOrE_eq, wNotE_eq, wLf_eq, wNxS_eq, wSeqS_eq, wSetE_eq, wRetE_eq, wExpE_eq, wIfE_eq, wPV_eq, alS_al, wPA_eq, wPAt_eq, wPIx_eq, wPDg_eq, dT_d, wPD_eq, lstT_map, wPL_eq, rawS_d, rawS_nd, rawS_hl, wEraw_eq, hlS_hl, wEal_eq, lenS_lst, lenS_dk, wPLen_eq, inT_int, wPIn_eq, ndL_lst, wESl_eq, asS_fr, asS_tr, wPAppE_eq, dkT_dk, keyS_int, keyS_str, wPDput_eq, obT_ob, wFldE_eq, lsS_ow, lsS_fr, wExtE_eq, wEpop_eq, frS'_fr, wSetPE_eq, wEd0_eq, wEd1_eq, ndLf_lst, wIRn_eq, lo_nil, lo_val, lo_rd, ndQ_nd, lo_lent, li_nil, li_val, li_rd, li_lent, ri_nil, ri_val, ri_lent, ri_rd, boS_ow, boS_bo', boS_fr, ls_nil, ls_cons, wEA0_eq, wEAc_eq, wEAr_eq, wECall_eq, wEMeth_eq, obQ_ob, isO_lent, isO_val, wAtD_eq2, atK_some, atD_obj, wDDg_eq, wDDin_eq, rLEND_eq, rLISTD_eq, rSORTD_eq, wIKd_eq, wIItd_eq, wFnS_eq, slots_nil, slots_fz, slOf_fz, slR_fz, slR_nw, wMethD_eq, wMeth0D_eq, isObjD, wMakeF_eq, lkT_lk, wIKp_eq, wFrz_eq, wFrzA_eq, wNMake_eq, ndS_nd, wEnew_eq, wLcN_eq, getS, putS, datT, datTs, Option.map_some, startS, List.cons_append, List.nil_append, Nat.reduceSub, Nat.reduceAdd, List.append_nil, slots, List.map_nil, List.map_cons, List.all_nil, List.all_cons, leafB, List.zip_cons_cons, List.zip_nil_left, rBB_eq, wExp_eq, wRaise_eq, wTry_eq, cEnds, setEO, wIsC_eq, wIsT_eq, wPopS_eq, wIRvL_eq, wIRvT_eq, rINTB_eq, rSLS_eq, wSplit_eq, wISt_eq, rINS_eq, wClr_eq, wRvS_eq, rCATT_eq, rCATA_eq, rSLA_eq, rREPT_eq, wSetD_eq, wSetD1_eq, wDIx_eq, wDIn_eq, wDNi_eq, wDPut_eq, dkS_dk, exKeyI, exKeyS, wJoin_eq, wIns_eq, wRd_eq, wTk_eq, wFr_eq, rdS_fr, rdS_ow, rdS_bo, tkS_fr, tkS_ow, frS_fr, owS_ow, boS_bo, wAppPop_eq, wSetPopAt_eq, wPopAtS_eq, wSetPop_eq, wBk_eq, wCt_eq, wC_eq, wBin_eq, rII_eq, rIB_eq, rEQ_eq, rNE_eq, rIN_eq, rNI_eq, rIXL_eq, rIXT_eq, rIX_eqL, rIX_eqT, rIXS_eq, rCAT_eq, rREP_eq, rADDS_eq, wNeg_eq, wIsN_eq, wNotN_eq, wT_eq, exBool, exInt, exList, exTup, exStr, wChain_eq, wAnd_eq, wOr_eq, wNot_eq, wAndV_eq, wOrV_eq, wNotV_eq, wIf_eq, wA0_eq, wA_eq, wLst_eq, wTup_eq, wCall_eq, wFn_eq, rLEN_list, rLEN_tup, rLEN_str, rTUP_list, rTUP_tup, rLIST_list, rLIST_tup, wRg1_eq, wRg2_eq, shaped_int, shaped_bool, shaped_none, eqv_int, isi_int, isi_bool, isi_str, isi_list, isi_tuple, isi2_lt, rdS_slOf, isInt, isBool, isStr, isList, isTup, wO0_eq, wO_eq, wSl_eq, rSLL_eq, rSLT_eq, wNx_eq, wSeq_eq, wFz_eq, wFzT_eq, fzS_ow, fzS_fr, wSetP_eq, wSet_eq, wSetO_eq, wRet_eq, wRetO_eq, wIfS_eq, wAugI_eq, wAugM_eq, wPar_eq, exPair_two, wApp_eq, wExt_eq, wPutI_eq, wPopAt_eq, wIL_eq, wIT_eq, wIB_eq, wIE_eq, wIET_eq, wIR1_eq, wIR2_eq, wIR3_eq, wLc_eq, wYes_eq, up_one, up_many, startE, slOf, wipeE, setsE, List.length_cons, List.length_nil, List.getElem?_cons_zero, List.getElem?_cons_succ, List.map_cons, List.map_nil, List.set_cons_succ, List.set_cons_zero, List.replicate_succ, List.replicate_zero, beq_self_eq_true, Bool.not_true, Bool.not_false, if_true, if_false, reduceIte, Bool.false_eq_true, true_and, and_true, List.length_map, List.append_nil, List.nil_append])

/-! ### the text -/
def topS (i : Nat) : Stmt := PySem.Challenge.pw_turnbase_k32_no_group.main.body.getD i (.Pass ⟨0, 0, 0, 0⟩)
abbrev s__law_cell : Stmt := topS 34
theorem sc__law_cell : FnScope ["_law_script", "_law_k"] ["_law_script", "_law_k"] (defScope s__law_cell) := ⟨rfl, rfl, rfl, by decide +kernel, rfl, by decide +kernel, by decide +kernel⟩
abbrev s__law_turning : Stmt := topS 35
theorem sc__law_turning : FnScope ["_law_cell_here", "_law_many", "_law_whole", "_law_k", "_law_left", "_law_found"] ["_law_cell_here", "_law_many"] (defScope s__law_turning) := ⟨rfl, rfl, rfl, by decide +kernel, rfl, by decide +kernel, by decide +kernel⟩
abbrev s__law_power : Stmt := topS 36
theorem sc__law_power : FnScope ["_law_one", "_law_times", "_law_found", "_law_k", "_law_x"] ["_law_one", "_law_times"] (defScope s__law_power) := ⟨rfl, rfl, rfl, by decide +kernel, rfl, by decide +kernel, by decide +kernel⟩
abbrev s_is_whole : Stmt := topS 3
theorem sc_is_whole : FnScope ["thing"] ["thing"] (defScope s_is_whole) := ⟨rfl, rfl, rfl, by decide +kernel, rfl, by decide +kernel, by decide +kernel⟩
abbrev s_is_turning : Stmt := topS 4
theorem sc_is_turning : FnScope ["thing", "seen", "to"] ["thing"] (defScope s_is_turning) := ⟨rfl, rfl, rfl, by decide +kernel, rfl, by decide +kernel, by decide +kernel⟩
abbrev s_is_of : Stmt := topS 30
theorem sc_is_of : FnScope ["thing", "many"] ["thing", "many"] (defScope s_is_of) := ⟨rfl, rfl, rfl, by decide +kernel, rfl, by decide +kernel, by decide +kernel⟩
abbrev s_looked_makers : Stmt := topS 31
theorem sc_looked_makers : FnScope ["many", "makers", "one"] ["many", "makers"] (defScope s_looked_makers) := ⟨rfl, rfl, rfl, by decide +kernel, rfl, by decide +kernel, by decide +kernel⟩
abbrev s_still : Stmt := topS 5
theorem sc_still : FnScope ["many"] ["many"] (defScope s_still) := ⟨rfl, rfl, rfl, by decide +kernel, rfl, by decide +kernel, by decide +kernel⟩
abbrev s_Step___init__ : Stmt := inClass (topS 9) 0
theorem sc_Step___init__ : FnScope ["self", "place", "many"] ["self", "place", "many"] (defScope s_Step___init__) := ⟨rfl, rfl, rfl, by decide +kernel, rfl, by decide +kernel, by decide +kernel⟩
abbrev s_Chain___init__ : Stmt := inClass (topS 10) 0
theorem sc_Chain___init__ : FnScope ["self", "many", "place"] ["self", "many"] (defScope s_Chain___init__) := ⟨rfl, rfl, rfl, by decide +kernel, rfl, by decide +kernel, by decide +kernel⟩
abbrev s_behind : Stmt := topS 6
theorem sc_behind : FnScope ["one", "other", "to"] ["one", "other"] (defScope s_behind) := ⟨rfl, rfl, rfl, by decide +kernel, rfl, by decide +kernel, by decide +kernel⟩
abbrev s_back : Stmt := topS 7
theorem sc_back : FnScope ["one", "made", "place", "to"] ["one"] (defScope s_back) := ⟨rfl, rfl, rfl, by decide +kernel, rfl, by decide +kernel, by decide +kernel⟩
abbrev s_Chain_rest : Stmt := inClass (topS 10) 3
theorem sc_Chain_rest : FnScope ["self", "one", "start", "step", "to"] ["self", "one", "start"] (defScope s_Chain_rest) := ⟨rfl, rfl, rfl, by decide +kernel, rfl, by decide +kernel, by decide +kernel⟩
abbrev s_Chain_noted : Stmt := inClass (topS 10) 1
theorem sc_Chain_noted : FnScope ["self", "line"] ["self", "line"] (defScope s_Chain_noted) := ⟨rfl, rfl, rfl, by decide +kernel, rfl, by decide +kernel, by decide +kernel⟩
abbrev s_Chain_grown : Stmt := inClass (topS 10) 8
theorem sc_Chain_grown : FnScope ["self", "step", "one", "line", "pairs", "tasks", "at", "to", "number", "lift", "lift_line", "maker", "maker_line", "made", "goal", "last", "last_line", "k"] ["self", "step", "one", "line"] (defScope s_Chain_grown) := ⟨rfl, rfl, rfl, by decide +kernel, rfl, by decide +kernel, by decide +kernel⟩
abbrev s_Chain_line_of : Stmt := inClass (topS 10) 2
theorem sc_Chain_line_of : FnScope ["self", "made", "ahead", "last"] ["self", "made"] (defScope s_Chain_line_of) := ⟨rfl, rfl, rfl, by decide +kernel, rfl, by decide +kernel, by decide +kernel⟩
abbrev s_Chain_add : Stmt := inClass (topS 10) 7
theorem sc_Chain_add : FnScope ["self", "one", "line", "tasks", "start", "found", "made"] ["self", "one", "line"] (defScope s_Chain_add) := ⟨rfl, rfl, rfl, by decide +kernel, rfl, by decide +kernel, by decide +kernel⟩
abbrev s_Group___init__ : Stmt := inClass (topS 32) 0
theorem sc_Group___init__ : FnScope ["self", "many", "makers", "k", "step"] ["self", "many", "makers"] (defScope s_Group___init__) := ⟨rfl, rfl, rfl, by decide +kernel, rfl, by decide +kernel, by decide +kernel⟩
abbrev s__law_refused : Stmt := topS 38
theorem sc__law_refused : FnScope ["_law_many", "_law_makers", "_law_caught", "e"] ["_law_many", "_law_makers"] (defScope s__law_refused) := ⟨rfl, rfl, rfl, by decide +kernel, rfl, by decide +kernel, by decide +kernel⟩
abbrev s__law_bad_maker : Stmt := topS 37
theorem sc__law_bad_maker : FnScope ["_law_one", "_law_cell_here", "_law_many", "_law_at", "_law_way", "_law_x"] ["_law_one", "_law_cell_here"] (defScope s__law_bad_maker) := ⟨rfl, rfl, rfl, by decide +kernel, rfl, by decide +kernel, by decide +kernel⟩
abbrev s__law_bad : Stmt := topS 39
theorem sc__law_bad : FnScope ["_law_many", "_law_makers", "_law_cell_here", "_law_at", "_law_one", "_law_some", "_law_other"] ["_law_many", "_law_makers", "_law_cell_here"] (defScope s__law_bad) := ⟨rfl, rfl, rfl, by decide +kernel, rfl, by decide +kernel, by decide +kernel⟩
abbrev s_Group_told : Stmt := inClass (topS 32) 1
theorem sc_Group_told : FnScope ["self"] ["self"] (defScope s_Group_told) := ⟨rfl, rfl, rfl, by decide +kernel, rfl, by decide +kernel, by decide +kernel⟩
abbrev s_law : Stmt := topS 40
theorem sc_law : FnScope ["_law_script", "_law_many", "_law_one", "_law_makers", "_law_cell_here", "_law_bad_here", "_law_handed", "_law_told", "_law_k"] ["_law_script"] (defScope s_law) := ⟨rfl, rfl, rfl, by decide +kernel, rfl, by decide +kernel, by decide +kernel⟩
/-- the text as it stands behind the top -/
structure Tx (K : Frag) (mg : Str → Option Value) : Prop where
  d__law_cell : ∃ f fd, Fun K "_law_cell" "_law_cell" s__law_cell f fd ∧ mg "_law_cell" = some (.ref f)
  d__law_turning : ∃ f fd, Fun K "_law_turning" "_law_turning" s__law_turning f fd ∧ mg "_law_turning" = some (.ref f)
  d__law_power : ∃ f fd, Fun K "_law_power" "_law_power" s__law_power f fd ∧ mg "_law_power" = some (.ref f)
  d_is_whole : ∃ f fd, Fun K "is_whole" "is_whole" s_is_whole f fd ∧ mg "is_whole" = some (.ref f)
  d_is_turning : ∃ f fd, Fun K "is_turning" "is_turning" s_is_turning f fd ∧ mg "is_turning" = some (.ref f)
  d_is_of : ∃ f fd, Fun K "is_of" "is_of" s_is_of f fd ∧ mg "is_of" = some (.ref f)
  d_looked_makers : ∃ f fd, Fun K "looked_makers" "looked_makers" s_looked_makers f fd ∧ mg "looked_makers" = some (.ref f)
  d_still : ∃ f fd, Fun K "still" "still" s_still f fd ∧ mg "still" = some (.ref f)
  d_Step___init__ : ∃ f fd, Fun K "__init__" "Step.__init__" s_Step___init__ f fd ∧ L2.Mk K (cA K "Step") f
  d_Chain___init__ : ∃ f fd, Fun K "__init__" "Chain.__init__" s_Chain___init__ f fd ∧ L2.Mk K (cA K "Chain") f
  d_behind : ∃ f fd, Fun K "behind" "behind" s_behind f fd ∧ mg "behind" = some (.ref f)
  d_back : ∃ f fd, Fun K "back" "back" s_back f fd ∧ mg "back" = some (.ref f)
  d_Chain_rest : ∃ f fd, Fun K "rest" "Chain.rest" s_Chain_rest f fd ∧ Meth K (cA K "Chain") "rest" f
  d_Chain_noted : ∃ f fd, Fun K "noted" "Chain.noted" s_Chain_noted f fd ∧ Meth K (cA K "Chain") "noted" f
  d_Chain_grown : ∃ f fd, Fun K "grown" "Chain.grown" s_Chain_grown f fd ∧ Meth K (cA K "Chain") "grown" f
  d_Chain_line_of : ∃ f fd, Fun K "line_of" "Chain.line_of" s_Chain_line_of f fd ∧ Meth K (cA K "Chain") "line_of" f
  d_Chain_add : ∃ f fd, Fun K "add" "Chain.add" s_Chain_add f fd ∧ Meth K (cA K "Chain") "add" f
  d_Group___init__ : ∃ f fd, Fun K "__init__" "Group.__init__" s_Group___init__ f fd ∧ L2.Mk K (cA K "Group") f
  d__law_refused : ∃ f fd, Fun K "_law_refused" "_law_refused" s__law_refused f fd ∧ mg "_law_refused" = some (.ref f)
  d__law_bad_maker : ∃ f fd, Fun K "_law_bad_maker" "_law_bad_maker" s__law_bad_maker f fd ∧ mg "_law_bad_maker" = some (.ref f)
  d__law_bad : ∃ f fd, Fun K "_law_bad" "_law_bad" s__law_bad f fd ∧ mg "_law_bad" = some (.ref f)
  d_Group_told : ∃ f fd, Fun K "told" "Group.told" s_Group_told f fd ∧ Meth K (cA K "Group") "told" f
  d_law : ∃ f fd, Fun K "law" "law" s_law f fd ∧ mg "law" = some (.ref f)
  io_Step : InsOk K "Step"
  mg_Step : mg "Step" = some (.ref (cA K "Step"))
  na_Step_place : NoAttr K (cA K "Step") "place"
  na_Step_lifts : NoAttr K (cA K "Step") "lifts"
  na_Step_makers : NoAttr K (cA K "Step") "makers"
  io_Chain : InsOk K "Chain"
  mg_Chain : mg "Chain" = some (.ref (cA K "Chain"))
  na_Chain_many : NoAttr K (cA K "Chain") "many"
  na_Chain_lines : NoAttr K (cA K "Chain") "lines"
  na_Chain_steps : NoAttr K (cA K "Chain") "steps"
  io_Group : InsOk K "Group"
  mg_Group : mg "Group" = some (.ref (cA K "Group"))
  na_Group_made : NoAttr K (cA K "Group") "made"
  na_Group_many : NoAttr K (cA K "Group") "many"
  na_Group_chain : NoAttr K (cA K "Group") "chain"
  na_Group_steps : NoAttr K (cA K "Group") "steps"
  n_ValueError : mg "ValueError" = none
  n_bool : mg "bool" = none
  n_enumerate : mg "enumerate" = none
  n_int : mg "int" = none
  n_isinstance : mg "isinstance" = none
  n_len : mg "len" = none
  n_list : mg "list" = none
  n_range : mg "range" = none
  n_str : mg "str" = none
  n_tuple : mg "tuple" = none
  x : XT K mg ["TurnError", "NoTurning", "NoText", "NoRecipe", "NoGroup", "NoNumber", "NotIn", "TooMany", "NoThing", "NotPart", "NoName", "NoLine"]
  c_MOST : ∃ u, mg "MOST" = some u ∧ RelV (V.int 60) u
  c_MOST_MAKERS : ∃ u, mg "MOST_MAKERS" = some u ∧ RelV (V.int 200) u
  c_MOST_PLACES : ∃ u, mg "MOST_PLACES" = some u ∧ RelV (V.int 60) u
theorem Tx.cl_Step {K : Frag} {mg : Str → Option Value} (T : Tx K mg) : Cls K (cA K "Step") := T.io_Step.cl
theorem Tx.cl_Chain {K : Frag} {mg : Str → Option Value} (T : Tx K mg) : Cls K (cA K "Chain") := T.io_Chain.cl
theorem Tx.cl_Group {K : Frag} {mg : Str → Option Value} (T : Tx K mg) : Cls K (cA K "Group") := T.io_Group.cl
theorem fg_Step_place {x0 x1 x2 : D} : fget [(PyData.str "place", x0), (PyData.str "lifts", x1), (PyData.str "makers", x2)] "place" = some x0 := rfl
theorem fg_Step_lifts {x0 x1 x2 : D} : fget [(PyData.str "place", x0), (PyData.str "lifts", x1), (PyData.str "makers", x2)] "lifts" = some x1 := rfl
theorem fg_Step_makers {x0 x1 x2 : D} : fget [(PyData.str "place", x0), (PyData.str "lifts", x1), (PyData.str "makers", x2)] "makers" = some x2 := rfl
theorem fm_Step___init__ {x0 x1 x2 : D} : fget [(PyData.str "place", x0), (PyData.str "lifts", x1), (PyData.str "makers", x2)] "__init__" = none := rfl
theorem fg_Chain_many {x0 x1 x2 : D} : fget [(PyData.str "many", x0), (PyData.str "lines", x1), (PyData.str "steps", x2)] "many" = some x0 := rfl
theorem fg_Chain_lines {x0 x1 x2 : D} : fget [(PyData.str "many", x0), (PyData.str "lines", x1), (PyData.str "steps", x2)] "lines" = some x1 := rfl
theorem fg_Chain_steps {x0 x1 x2 : D} : fget [(PyData.str "many", x0), (PyData.str "lines", x1), (PyData.str "steps", x2)] "steps" = some x2 := rfl
theorem fm_Chain___init__ {x0 x1 x2 : D} : fget [(PyData.str "many", x0), (PyData.str "lines", x1), (PyData.str "steps", x2)] "__init__" = none := rfl
theorem fm_Chain_noted {x0 x1 x2 : D} : fget [(PyData.str "many", x0), (PyData.str "lines", x1), (PyData.str "steps", x2)] "noted" = none := rfl
theorem fm_Chain_line_of {x0 x1 x2 : D} : fget [(PyData.str "many", x0), (PyData.str "lines", x1), (PyData.str "steps", x2)] "line_of" = none := rfl
theorem fm_Chain_rest {x0 x1 x2 : D} : fget [(PyData.str "many", x0), (PyData.str "lines", x1), (PyData.str "steps", x2)] "rest" = none := rfl
theorem fm_Chain_has {x0 x1 x2 : D} : fget [(PyData.str "many", x0), (PyData.str "lines", x1), (PyData.str "steps", x2)] "has" = none := rfl
theorem fm_Chain_least {x0 x1 x2 : D} : fget [(PyData.str "many", x0), (PyData.str "lines", x1), (PyData.str "steps", x2)] "least" = none := rfl
theorem fm_Chain_add {x0 x1 x2 : D} : fget [(PyData.str "many", x0), (PyData.str "lines", x1), (PyData.str "steps", x2)] "add" = none := rfl
theorem fm_Chain_grown {x0 x1 x2 : D} : fget [(PyData.str "many", x0), (PyData.str "lines", x1), (PyData.str "steps", x2)] "grown" = none := rfl
theorem fg_Group_made {x0 x1 x2 x3 : D} : fget [(PyData.str "made", x0), (PyData.str "many", x1), (PyData.str "chain", x2), (PyData.str "steps", x3)] "made" = some x0 := rfl
theorem fg_Group_many {x0 x1 x2 x3 : D} : fget [(PyData.str "made", x0), (PyData.str "many", x1), (PyData.str "chain", x2), (PyData.str "steps", x3)] "many" = some x1 := rfl
theorem fg_Group_chain {x0 x1 x2 x3 : D} : fget [(PyData.str "made", x0), (PyData.str "many", x1), (PyData.str "chain", x2), (PyData.str "steps", x3)] "chain" = some x2 := rfl
theorem fg_Group_steps {x0 x1 x2 x3 : D} : fget [(PyData.str "made", x0), (PyData.str "many", x1), (PyData.str "chain", x2), (PyData.str "steps", x3)] "steps" = some x3 := rfl
theorem fm_Group___init__ {x0 x1 x2 x3 : D} : fget [(PyData.str "made", x0), (PyData.str "many", x1), (PyData.str "chain", x2), (PyData.str "steps", x3)] "__init__" = none := rfl
theorem fm_Group_told {x0 x1 x2 x3 : D} : fget [(PyData.str "made", x0), (PyData.str "many", x1), (PyData.str "chain", x2), (PyData.str "steps", x3)] "told" = none := rfl
theorem fm_Group_has {x0 x1 x2 x3 : D} : fget [(PyData.str "made", x0), (PyData.str "many", x1), (PyData.str "chain", x2), (PyData.str "steps", x3)] "has" = none := rfl
theorem fm_Group_lift {x0 x1 x2 x3 : D} : fget [(PyData.str "made", x0), (PyData.str "many", x1), (PyData.str "chain", x2), (PyData.str "steps", x3)] "lift" = none := rfl
theorem fm_Group_least {x0 x1 x2 x3 : D} : fget [(PyData.str "made", x0), (PyData.str "many", x1), (PyData.str "chain", x2), (PyData.str "steps", x3)] "least" = none := rfl
theorem fm_Group_recipe {x0 x1 x2 x3 : D} : fget [(PyData.str "made", x0), (PyData.str "many", x1), (PyData.str "chain", x2), (PyData.str "steps", x3)] "recipe" = none := rfl
local macro_rules | `(tactic| walk_at "fg") => `(tactic| try simp only [fg_Step_place, fg_Step_lifts, fg_Step_makers, fg_Chain_many, fg_Chain_lines, fg_Chain_steps, fg_Group_made, fg_Group_many, fg_Group_chain, fg_Group_steps, fm_Step___init__, fm_Chain___init__, fm_Chain_noted, fm_Chain_line_of, fm_Chain_rest, fm_Chain_has, fm_Chain_least, fm_Chain_add, fm_Chain_grown, fm_Group___init__, fm_Group_told, fm_Group_has, fm_Group_lift, fm_Group_least, fm_Group_recipe])
theorem bd__law_cell {K : Frag} {f : Addr} {fd : FuncData} (F : Fun K "_law_cell" "_law_cell" s__law_cell f fd) : Binds K fd ["_law_script", "_law_k"] [] := F.binds fun _ _ _ _ _ _ us hl => match us, hl with | [_, _], _ => rfl
theorem bd__law_turning {K : Frag} {f : Addr} {fd : FuncData} (F : Fun K "_law_turning" "_law_turning" s__law_turning f fd) : Binds K fd ["_law_cell_here", "_law_many"] [] := F.binds fun _ _ _ _ _ _ us hl => match us, hl with | [_, _], _ => rfl
theorem bd__law_power {K : Frag} {f : Addr} {fd : FuncData} (F : Fun K "_law_power" "_law_power" s__law_power f fd) : Binds K fd ["_law_one", "_law_times"] [] := F.binds fun _ _ _ _ _ _ us hl => match us, hl with | [_, _], _ => rfl
theorem bd_is_whole {K : Frag} {f : Addr} {fd : FuncData} (F : Fun K "is_whole" "is_whole" s_is_whole f fd) : Binds K fd ["thing"] [] := F.binds fun _ _ _ _ _ _ us hl => match us, hl with | [_], _ => rfl
theorem bd_is_turning {K : Frag} {f : Addr} {fd : FuncData} (F : Fun K "is_turning" "is_turning" s_is_turning f fd) : Binds K fd ["thing"] [] := F.binds fun _ _ _ _ _ _ us hl => match us, hl with | [_], _ => rfl
theorem bd_is_of {K : Frag} {f : Addr} {fd : FuncData} (F : Fun K "is_of" "is_of" s_is_of f fd) : Binds K fd ["thing", "many"] [] := F.binds fun _ _ _ _ _ _ us hl => match us, hl with | [_, _], _ => rfl
theorem bd_looked_makers {K : Frag} {f : Addr} {fd : FuncData} (F : Fun K "looked_makers" "looked_makers" s_looked_makers f fd) : Binds K fd ["many", "makers"] [] := F.binds fun _ _ _ _ _ _ us hl => match us, hl with | [_, _], _ => rfl
theorem bd_still {K : Frag} {f : Addr} {fd : FuncData} (F : Fun K "still" "still" s_still f fd) : Binds K fd ["many"] [] := F.binds fun _ _ _ _ _ _ us hl => match us, hl with | [_], _ => rfl
theorem bd_Step___init__ {K : Frag} {f : Addr} {fd : FuncData} (F : Fun K "__init__" "Step.__init__" s_Step___init__ f fd) : Binds K fd ["self", "place", "many"] [] := F.binds fun _ _ _ _ _ _ us hl => match us, hl with | [_, _, _], _ => rfl
theorem bd_Chain___init__ {K : Frag} {f : Addr} {fd : FuncData} (F : Fun K "__init__" "Chain.__init__" s_Chain___init__ f fd) : Binds K fd ["self", "many"] [] := F.binds fun _ _ _ _ _ _ us hl => match us, hl with | [_, _], _ => rfl
theorem bd_behind {K : Frag} {f : Addr} {fd : FuncData} (F : Fun K "behind" "behind" s_behind f fd) : Binds K fd ["one", "other"] [] := F.binds fun _ _ _ _ _ _ us hl => match us, hl with | [_, _], _ => rfl
theorem bd_back {K : Frag} {f : Addr} {fd : FuncData} (F : Fun K "back" "back" s_back f fd) : Binds K fd ["one"] [] := F.binds fun _ _ _ _ _ _ us hl => match us, hl with | [_], _ => rfl
theorem bd_Chain_rest {K : Frag} {f : Addr} {fd : FuncData} (F : Fun K "rest" "Chain.rest" s_Chain_rest f fd) : Binds K fd ["self", "one", "start"] [] := F.binds fun _ _ _ _ _ _ us hl => match us, hl with | [_, _, _], _ => rfl
theorem bd_Chain_noted {K : Frag} {f : Addr} {fd : FuncData} (F : Fun K "noted" "Chain.noted" s_Chain_noted f fd) : Binds K fd ["self", "line"] [] := F.binds fun _ _ _ _ _ _ us hl => match us, hl with | [_, _], _ => rfl
theorem bd_Chain_grown {K : Frag} {f : Addr} {fd : FuncData} (F : Fun K "grown" "Chain.grown" s_Chain_grown f fd) : Binds K fd ["self", "step", "one", "line"] [] := F.binds fun _ _ _ _ _ _ us hl => match us, hl with | [_, _, _, _], _ => rfl
theorem bd_Chain_line_of {K : Frag} {f : Addr} {fd : FuncData} (F : Fun K "line_of" "Chain.line_of" s_Chain_line_of f fd) : Binds K fd ["self", "made"] [] := F.binds fun _ _ _ _ _ _ us hl => match us, hl with | [_, _], _ => rfl
theorem bd_Chain_add {K : Frag} {f : Addr} {fd : FuncData} (F : Fun K "add" "Chain.add" s_Chain_add f fd) : Binds K fd ["self", "one", "line"] [] := F.binds fun _ _ _ _ _ _ us hl => match us, hl with | [_, _, _], _ => rfl
theorem bd_Group___init__ {K : Frag} {f : Addr} {fd : FuncData} (F : Fun K "__init__" "Group.__init__" s_Group___init__ f fd) : Binds K fd ["self", "many", "makers"] [] := F.binds fun _ _ _ _ _ _ us hl => match us, hl with | [_, _, _], _ => rfl
theorem bd__law_refused {K : Frag} {f : Addr} {fd : FuncData} (F : Fun K "_law_refused" "_law_refused" s__law_refused f fd) : Binds K fd ["_law_many", "_law_makers"] [] := F.binds fun _ _ _ _ _ _ us hl => match us, hl with | [_, _], _ => rfl
theorem bd__law_bad_maker {K : Frag} {f : Addr} {fd : FuncData} (F : Fun K "_law_bad_maker" "_law_bad_maker" s__law_bad_maker f fd) : Binds K fd ["_law_one", "_law_cell_here"] [] := F.binds fun _ _ _ _ _ _ us hl => match us, hl with | [_, _], _ => rfl
theorem bd__law_bad {K : Frag} {f : Addr} {fd : FuncData} (F : Fun K "_law_bad" "_law_bad" s__law_bad f fd) : Binds K fd ["_law_many", "_law_makers", "_law_cell_here"] [] := F.binds fun _ _ _ _ _ _ us hl => match us, hl with | [_, _, _], _ => rfl
theorem bd_Group_told {K : Frag} {f : Addr} {fd : FuncData} (F : Fun K "told" "Group.told" s_Group_told f fd) : Binds K fd ["self"] [] := F.binds fun _ _ _ _ _ _ us hl => match us, hl with | [_], _ => rfl
theorem bd_law {K : Frag} {f : Addr} {fd : FuncData} (F : Fun K "law" "law" s_law f fd) : Binds K fd ["_law_script"] [] := F.binds fun _ _ _ _ _ _ us hl => match us, hl with | [_], _ => rfl
section
variable {P : Program} {w : World} {K : Frag} {mg : Str → Option Value} {base : Heap}
def g__law_cell : Ct := fun ds KD _ => ∃ (ns : List Int) (k : Nat), ds = [.list (ns.map PyData.int), .int (k : Int)] ∧ KD (.int (ns.getD k 0))
theorem ok__law_cell (T : Tx K mg) {f : Addr} {fd : FuncData} (F : Fun K "_law_cell" "_law_cell" s__law_cell f fd) : FnOk P w K mg base (L2.CX P w) 1 f fd ["_law_script", "_law_k"] (spD [.rd, .rd] .fz g__law_cell K) := by
  refine fn_mk _ _ _ F sc__law_cell rfl (by decide) fun cdv A outer s H E hr => ?_
  refine ⟨_, (ss_cons (s_if (jt_lt (j_rd (pv 1)) (j_len T.n_len (j_rd (pv 0)))) (ss_one (s_ret (j_ixA (j_rd (pv 0)) (j_rd (pv 1))))) ss_nil)
      (ss_one (s_ret j_int))), ?_⟩
  rintro ds KD KX ⟨ns, k, rfl, q⟩
  walk_at "sx"
  by_cases h : k < ns.length
  · have e : decide ((k : Int) < (ns.length : Int)) = true := decide_eq_true (by omega)
    simp only [e, if_true]
    refine ⟨_, by rw [atI_cast, List.getElem?_map, List.getElem?_eq_getElem h]; rfl, ?_⟩
    rw [List.getD_eq_getElem?_getD, List.getElem?_eq_getElem h] at q
    exact q
  · have e : decide ((k : Int) < (ns.length : Int)) = false := decide_eq_false (by omega)
    simp only [e, if_false, Bool.false_eq_true]
    rw [List.getD_eq_getElem?_getD, List.getElem?_eq_none (by omega)] at q
    exact q

theorem facN_mono {a b : Nat} (h : a ≤ b) : facN a ≤ facN b := by
  induction h with
  | refl => exact Nat.le_refl _
  | @step b _ ih => exact Nat.le_trans ih (Nat.le_mul_of_pos_left _ (by omega))
theorem fac_lt {k : Nat} (h : k ≤ 60) : ((facN k : Nat) : Int).natAbs < 2 ^ 300 := by
  rw [Int.natAbs_natCast]
  exact Nat.lt_of_le_of_lt (facN_mono h) (by decide +kernel)
def trnF (c : Int) (many : Nat) : List Nat := free (c % (facN many : Nat)).toNat many
def g__law_turning : Ct := fun ds KD _ => ∃ (c : Int) (many : Nat), ds = [.int c, .int (many : Int)] ∧ 1 ≤ many ∧ many ≤ 60 ∧ KD (tn (trnF c many))
theorem ok__law_turning (T : Tx K mg) {f : Addr} {fd : FuncData} (F : Fun K "_law_turning" "_law_turning" s__law_turning f fd) : FnOk P w K mg base (L2.CX P w) 1 f fd ["_law_cell_here", "_law_many"] (spD [.rd, .rd] .fz g__law_turning K) := by
  refine fn_mk _ _ _ F sc__law_turning rfl (by decide) fun cdv A outer s H E hr => ?_
  refine ⟨_, (ss_cons (s_set (i := 2) sc__law_turning.nd j_int)
      (ss_cons (s_for (pt := (.one 3)) cxD_own rfl (i_rg2 T.n_range j_int (j_add (j_rd (pv 1)) j_int)) (pg_name (i := 3) sc__law_turning.nd rfl (by first | exact Or.inl rfl | exact Or.inr rfl)) (ss_one (s_set (i := 2) sc__law_turning.nd (j_mul (j_fr (pv 2)) (j_fr (pv 3))))))
      (ss_cons (s_set (i := 0) sc__law_turning.nd (j_mod (j_rd (pv 0)) (j_fr (pv 2))))
      (ss_cons (s_setO (i := 4) sc__law_turning.nd (j_listRg1 rfl T.n_list T.n_range (j_rd (pv 1))))
      (ss_cons (s_setO (i := 5) sc__law_turning.nd (j_lst ja_nil))
      (ss_cons (s_for (pt := (.one 3)) cxD_own rfl (i_rg3 T.n_range (j_rd (pv 1)) j_int (j_neg j_int)) (pg_name (i := 3) sc__law_turning.nd rfl (by first | exact Or.inl rfl | exact Or.inr rfl)) (ss_cons (s_appPopAt (i := 4) (j := 5) (pv 5) (pv 4) (j_mod (j_fr (pv 0)) (j_fr (pv 3))) (by decide))
      (ss_one (s_set (i := 0) sc__law_turning.nd (j_div (j_fr (pv 0)) (j_fr (pv 3)))))))
      (ss_one (s_ret (j_tuple T.n_tuple (j_rd (pv 5))))))))))), ?_⟩
  rintro ds KD KX ⟨c, many, rfl, hm1, hm, q⟩
  walk_at "sx"
  rw [wFor_eq]
  walk_at "sx"
  refine ⟨2, _, rfl, rfl, by omega, fun i E => ∃ y, E = [.fr (.int c), .fr (.int (many : Int)), .fr (.int (facN (1 + i) : Nat)), y, .un, .un], ⟨_, rfl⟩, ?_, ?_⟩
  · rintro i d E he ⟨y, rfl⟩
    obtain ⟨hi, rfl⟩ := range_at he
    walk_at "sx"
    refine ⟨cmul_bits (n := 300) (m := 300) (fac_lt (by omega)) (Nat.lt_of_lt_of_le (show _ < 100 by omega) (by decide +kernel)) (by decide), _, by
      rw [show (2 : Int) + (i : Nat) = ((1 + i + 1 : Nat) : Int) by omega, ← Int.natCast_mul, show 1 + (i + 1) = (1 + i) + 1 by omega, facN, Nat.mul_comm]⟩
  · rintro E ⟨y, rfl⟩
    have e1 : 1 + (rangeD 2 ((many : Int) + 1 - 2).toNat).length = many := by rw [range_len]; omega
    rw [e1]
    walk_at "sx"
    have fp := facN_pos many
    refine ⟨by show (0 : Int) < _; omega, ⟨by omega, by omega, by omega, by omega, by omega⟩, Nat.zero_le _, ?_⟩
    unfold trnF at q
    generalize hx : c % ((facN many : Nat) : Int) = x at q ⊢
    have hx0 : 0 ≤ x := by rw [← hx]; exact Int.emod_nonneg _ (by omega)
    obtain ⟨num, rfl⟩ := Int.eq_ofNat_of_zero_le hx0
    rw [Int.toNat_natCast] at q
    rw [wFor_eq, Int.toNat_natCast, range0, ← nl_nil]
    walk_at "sx"
    generalize (facN many : Nat) = fc
    refine ⟨many, 0, -1, many, rfl, rfl, rfl, by have h := RgC.neg (i := (many : Int)) (j := 0) (by omega) (by omega) (by omega) (by omega); rwa [Int.sub_zero, Int.toNat_natCast] at h,
      fun i E => ∃ (left row : List Nat) (nu : Nat) (y : Sl), E = [.fr (.int (nu : Int)), .fr (.int (many : Int)), .fr (.int (fc : Int)), y, .ow (nl left), .ow (nl row)] ∧ left.length + i = many ∧ row.length = i ∧ free num many = row ++ freeGo (many - i) left nu,
      ⟨List.range many, [], num, _, rfl, by simp, rfl, rfl⟩, ?_, ?_⟩
    · rintro i d E he ⟨left, row, nu, y, rfl, h1, h2, h3⟩
      obtain ⟨hi, rfl⟩ := rangeC_at he
      obtain ⟨sz, hsz⟩ : ∃ sz, many - i = sz + 1 := ⟨many - i - 1, by omega⟩
      have e1 : (many : Int) + (i : Nat) * (-1) = ((sz + 1 : Nat) : Int) := by omega
      rw [e1]
      walk_at "sx"
      have hlt : nu % (sz + 1) < left.length := by have := Nat.mod_lt nu (show 0 < sz + 1 by omega); omega
      refine ⟨by rw [nl_len]; exact size_big' (by omega), by show (0 : Int) < _; omega, ((nu % (sz + 1) : Nat) : Int), nu % (sz + 1), .int (left.getD (nu % (sz + 1)) 0 : Nat), by rw [← Int.natCast_emod], by omega, by omega, by rw [nl_len]; exact seqIx _ _ hlt, by rw [nl_get, Cl.getD_some hlt]; rfl, cdiv_small (Nat.succ_pos _) (by omega), left.eraseIdx (nu % (sz + 1)), row ++ [left.getD (nu % (sz + 1)) 0], nu / (sz + 1), _, by rw [nl_erase, nl_one, nl_app, ← Int.natCast_ediv], ?_, ?_, ?_⟩
      · rw [List.length_eraseIdx_of_lt hlt]; omega
      · simp [h2]
      · rw [h3, hsz]
        have e2 : many - (i + 1) = sz := by omega
        rw [e2, List.append_assoc]
        rfl
    · rintro E ⟨left, row, nu, y, rfl, h1, h2, h3⟩
      walk_at "sx"
      have e : (rangeC (many : Int) (-1) many).length = many := by simp [rangeC]
      rw [e, Nat.sub_self] at h3
      rw [h3] at q
      simpa [freeGo, tn] using q

def g__law_power : Ct := fun ds KD _ => ∃ (n : Nat) (t : List Nat) (k : Nat), ds = [tn t, .int (k : Int)] ∧ IsT n t ∧ n ≤ 60 ∧ k ≤ 1000 ∧ KD (tn (pwN n t k))
theorem ok__law_power (T : Tx K mg) {f : Addr} {fd : FuncData} (F : Fun K "_law_power" "_law_power" s__law_power f fd) : FnOk P w K mg base (L2.CX P w) 1 f fd ["_law_one", "_law_times"] (spD [.rd, .rd] .fz g__law_power K) := by
  refine fn_mk _ _ _ F sc__law_power rfl (by decide) fun cdv A outer s H E hr => ?_
  refine ⟨_, (ss_cons (s_set (i := 2) sc__law_power.nd (j_tupRg1 rfl T.n_tuple T.n_range (j_len T.n_len (j_rd (pv 0)))))
      (ss_cons (s_for (pt := (.one 3)) cxD_own rfl (i_rg1 T.n_range (j_rd (pv 1))) (pg_name (i := 3) sc__law_power.nd rfl (by first | exact Or.inl rfl | exact Or.inr rfl)) (ss_one (s_set (i := 2) sc__law_power.nd (j_tuple T.n_tuple (j_lc (pt := (.one 4)) rfl sc__law_power.nd (i_tup (j_fr (pv 2))) (blkOk_by (own := [("_law_x", 4)]) (N := ["_law_one", "_law_times", "_law_found", "_law_k", "_law_x"]) (sc := defScope s__law_power) (by decide +kernel)) (fun _ _ _ _ _ => (pg_name (i := 4) sc__law_power.nd rfl (by first | exact Or.inl rfl | exact Or.inr rfl))) (fun _ _ _ _ _ => jts_nil) (fun _ _ _ _ _ => (j_ixA (j_rd (pv 0)) (j_fr (pv 4)))) (by decide))))))
      (ss_one (s_ret (j_fr (pv 2)))))), ?_⟩
  rintro ds KD KX ⟨n, t, k, rfl, ht, hn, hk, q⟩
  unfold tn
  walk_at "sx"
  have rg : RgOk 0 (((nl t).length : Nat) : Int) := by rw [nl_len, ht.len]; exact ⟨by omega, by omega, by omega, by omega, by omega⟩
  refine ⟨rg, ?_⟩
  rw [nl_len, ht.len, Int.toNat_natCast, range0]
  rw [wFor_eq]
  walk_at "sx"
  refine ⟨by omega, by omega, fun i E => ∃ (y z : Sl), E = [.fr (.tuple (nl t)), .fr (.int (k : Int)), .fr (.tuple (nl (pwN n t i))), y, z], ⟨_, _, rfl⟩, ?_, ?_⟩
  · rintro i d E he ⟨y, z, rfl⟩
    walk_at "sx"
    have hi := pwN_isT ht i
    refine ⟨by rw [nl_len, hi.len, sizeLine_eq]; omega, bhF t, fun d hd => ?_, _, _, by rw [bhF_map]; rfl⟩
    have := bhT (a := pwN n t i) (b := t) (fun x hx => by rw [ht.len]; exact hi.lt x hx) d hd
    walk_at "sx"
    exact this
  · rintro E ⟨y, z, rfl⟩
    rw [Int.toNat_natCast, range0, nl_len, List.length_range]
    walk_at "sx"
    exact q

def g_is_whole : Ct := fun ds KD _ => ∃ d, ds = [d] ∧ KD (.bool (whB d))
theorem ok_is_whole (T : Tx K mg) {f : Addr} {fd : FuncData} (F : Fun K "is_whole" "is_whole" s_is_whole f fd) : FnOk P w K mg base (L2.CX P w) 1 f fd ["thing"] (spD [.rd] .fz g_is_whole K) := by
  refine fn_mk _ _ _ F sc_is_whole rfl (by decide) fun cdv A outer s H E hr => ?_
  refine ⟨_, (ss_one (s_ret (j_and (j_isi (T := "int") T.n_isinstance T.n_int (by decide +kernel) (j_rd (pv 0))) (j_one (j_not (j_isi (T := "bool") T.n_isinstance T.n_bool (by decide +kernel) (j_rd (pv 0)))))))), ?_⟩
  rintro ds KD KX ⟨d, rfl, q⟩
  cases d <;> (walk_at "sx"; exact q)

theorem turnGo_int {n : Nat} {z : Int} {r : List D} {s : List Nat} : turnGo n (.int z :: r) s = (decide (0 ≤ z) && decide (z < (n : Int)) && !decide (z.toNat ∈ s) && turnGo n r (s ++ [z.toNat])) := rfl
def bl (n : Nat) (s : List Nat) : List D := (List.range n).map fun x => PyData.bool (decide (x ∈ s))
theorem flat_oneB (n : Nat) (b : Bool) : (List.replicate n [PyData.bool b]).flatten = List.replicate n (.bool b) := by
  induction n with
  | zero => rfl
  | succ n ih => rw [List.replicate_succ, List.flatten_cons, ih]; rfl
theorem bl_nil (n : Nat) : List.replicate n (PyData.bool false) = bl n [] := by
  unfold bl
  simp only [List.not_mem_nil, decide_false]
  rw [List.map_const', List.length_range]
theorem bl_len (n : Nat) (s : List Nat) : (bl n s).length = n := by simp [bl]
theorem bl_at {n x : Nat} (s : List Nat) (h : x < n) : (bl n s)[x]? = some (.bool (decide (x ∈ s))) := by
  unfold bl
  rw [List.getElem?_map, List.getElem?_range h]; rfl
theorem bl_set {n x : Nat} (s : List Nat) (h : x < n) : (bl n s).set x (.bool true) = bl n (s ++ [x]) := by
  apply List.ext_getElem?
  intro i
  rw [List.getElem?_set, bl_len]
  by_cases hi : i < n
  · rw [bl_at _ hi, bl_at _ hi]
    by_cases e : x = i
    · subst e; simp [hi]
    · rw [if_neg e]
      congr 2
      rw [Bool.eq_iff_iff, decide_eq_true_iff, decide_eq_true_iff, List.mem_append, List.mem_singleton]
      exact ⟨.inl, fun h => h.resolve_right fun z => e z.symm⟩
  · rw [if_neg (by omega), List.getElem?_eq_none (by rw [bl_len]; omega), List.getElem?_eq_none (by rw [bl_len]; omega)]
def g_is_turning : Ct := fun ds KD _ => ∃ d, ds = [d] ∧ KD (.bool (turnB d))
theorem ok_is_turning (T : Tx K mg) {f : Addr} {fd : FuncData} (F : Fun K "is_turning" "is_turning" s_is_turning f fd) : FnOk P w K mg base (L2.CX P w) 2 f fd ["thing"] (spD [.rd] .fz g_is_turning K) := by
  obtain ⟨f_is_whole, fd_is_whole, F_is_whole, m_is_whole⟩ := T.d_is_whole
  have G_is_whole := ok_is_whole (P := P) (w := w) (base := base) T F_is_whole
  have b_is_whole := bd_is_whole F_is_whole
  have k_is_whole := F_is_whole.kp
  refine fn_mk _ _ _ F sc_is_turning rfl (by decide) fun cdv A outer s H E hr => ?_
  refine ⟨_, (ss_cons (s_if (JW.jt (jw_or (jt_not (jt_val (j_isi (T := "tuple") T.n_isinstance T.n_tuple (by decide +kernel) (j_rd (pv 0))))) (jw_or (jt_lt (j_len T.n_len (j_rd (pv 0))) j_int) (jw_or1 (jt_gt (j_len T.n_len (j_rd (pv 0))) (j_glob T.c_MOST (fun _ _ => .int _))))))) (ss_one (s_ret j_bl)) ss_nil)
      (ss_cons (s_setO (i := 1) sc_is_turning.nd (j_rep (j_lst (ja_cons j_bl ja_nil)) (j_len T.n_len (j_rd (pv 0)))))
      (ss_cons (s_for (pt := (.one 2)) cxD_own rfl (i_tup (j_rd (pv 0))) (pg_name (i := 2) sc_is_turning.nd rfl (by first | exact Or.inl rfl | exact Or.inr rfl)) (ss_cons (s_if (JW.jt (jw_or (jt_not (jt_val (j_call (ms := [.rd]) (msd := []) (ds0 := []) G_is_whole (hr.mono (by decide)) (by rfl) m_is_whole k_is_whole b_is_whole .nil (fun _ _ => .nil) (fun _ => passAt cxD_takes _) (ja_cons ((j_fr (pv 2))).rd ja_nil)))) (jw_or (jt_lt (j_fr (pv 2)) j_int) (jw_or1 (jt_ge (j_fr (pv 2)) (j_len T.n_len (j_rd (pv 0)))))))) (ss_one (s_ret j_bl)) ss_nil)
      (ss_cons (s_if (jt_val (j_ixA (j_rd (pv 1)) (j_fr (pv 2)))) (ss_one (s_ret j_bl)) ss_nil)
      (ss_one (s_putI (i := 1) (pv 1) (j_fr (pv 2)) j_bl)))))
      (ss_one (s_ret j_bl))))), ?_⟩
  rintro ds KD KX ⟨d, rfl, q⟩
  cases d with
  | tuple l =>
    have q : KD (.bool (decide (1 ≤ l.length) && decide (l.length ≤ 60) && turnGo l.length l [])) := q
    walk_at "sx"
    by_cases h1 : 1 ≤ l.length
    · rw [decide_eq_true h1, Bool.true_and] at q
      have c1 : decide ((l.length : Int) < 1) = false := decide_eq_false (by omega)
      by_cases h2 : l.length ≤ 60
      · rw [decide_eq_true h2, Bool.true_and] at q
        have c2 : decide (60 < (l.length : Int)) = false := decide_eq_false (by omega)
        rw [c1, c2]
        simp only [Bool.false_eq_true, if_false]
        rw [Int.toNat_natCast, flat_oneB, bl_nil, wFor_eq]
        walk_at "sx"
        refine ⟨by decide, by omega, by omega, by rw [Nat.zero_add, Nat.one_mul]; exact size_big (by omega), fun i E => ∃ (s : List Nat) (y : Sl), E = [.fr (.tuple l), .ow (bl l.length s), y] ∧ turnGo l.length l [] = turnGo l.length (l.drop i) s, ⟨[], _, rfl, rfl⟩, ?_, ?_⟩
        · rintro i d E he ⟨s, y, rfl, hs⟩
          obtain ⟨hi, ed⟩ := List.getElem?_eq_some_iff.mp he
          rw [List.drop_eq_getElem_cons hi, ed] at hs
          walk_at "sx"
          refine ⟨_, rfl, ?_⟩
          cases d with
          | int z =>
            simp only [whB]
            walk_at "sx"
            rw [turnGo_int] at hs
            by_cases z1 : z < 0
            · rw [decide_eq_true z1]
              simp only [if_true]
              rw [decide_eq_false (show ¬ 0 ≤ z by omega)] at hs
              rw [hs] at q; simpa using q
            · obtain ⟨x, rfl⟩ := Int.eq_ofNat_of_zero_le (show 0 ≤ z by omega)
              rw [decide_eq_true (show (0 : Int) ≤ x by omega), Bool.true_and, Int.toNat_natCast] at hs
              by_cases z2 : x < l.length
              · have c3 : decide (((x : Nat) : Int) < 0) = false := decide_eq_false z1
                have c4 : decide ((l.length : Int) ≤ (x : Nat)) = false := decide_eq_false (by omega)
                simp only [c3, c4, Bool.false_eq_true, if_false]
                rw [decide_eq_true (show (x : Int) < (l.length : Nat) by omega), Bool.true_and] at hs
                refine ⟨_, by rw [atI_cast, bl_at s z2], ?_⟩
                walk_at "sx"
                by_cases z3 : x ∈ s
                · rw [decide_eq_true z3] at hs ⊢
                  simp only [if_true]
                  rw [hs] at q; simpa using q
                · rw [decide_eq_false z3] at hs ⊢
                  simp only [Bool.false_eq_true, if_false]
                  exact ⟨_, x, rfl, ixN_cast _ _ (by rw [bl_len]; exact z2), s ++ [x], _, by rw [bl_set s z2], by simpa using hs⟩
              · have c3 : decide (((x : Nat) : Int) < 0) = false := decide_eq_false z1
                have c4 : decide ((l.length : Int) ≤ (x : Nat)) = true := decide_eq_true (by omega)
                simp only [c3, c4, Bool.false_eq_true, if_false, if_true]
                rw [decide_eq_false (show ¬ (x : Int) < (l.length : Nat) by omega)] at hs
                rw [hs] at q; simpa using q
          | _ =>
            simp only [whB]
            walk_at "sx"
            rw [hs] at q; exact q
        · rintro E ⟨s, y, rfl, hs⟩
          walk_at "sx"
          rw [List.drop_length] at hs
          rw [hs] at q; exact q
      · rw [decide_eq_false h2] at q
        have c2 : decide (60 < (l.length : Int)) = true := decide_eq_true (by omega)
        rw [c1, c2]
        simpa using q
    · rw [decide_eq_false h1] at q
      have c1 : decide ((l.length : Int) < 1) = true := decide_eq_true (by omega)
      rw [c1]
      simpa using q
  | _ => walk_at "sx"; exact q

def ofB (d : D) (n : Int) : Bool := turnB d && match d with | .tuple l => decide ((l.length : Int) = n) | _ => false
theorem ofB_tn {n : Nat} {t : List Nat} (h : IsT n t) (h1 : 1 ≤ n) (h2 : n ≤ 60) : ofB (tn t) n = true := by
  unfold ofB
  rw [turnB_tn h h1 h2, Bool.true_and]
  exact decide_eq_true (by rw [nl_len, h.len])
theorem ofB_iff {n : Nat} {d : D} : ofB d n = true ↔ ∃ t, d = tn t ∧ IsT n t ∧ 1 ≤ n ∧ n ≤ 60 := by
  constructor
  · intro h
    unfold ofB at h
    rw [Bool.and_eq_true] at h
    obtain ⟨t, rfl, ht, h1, h2⟩ := turnB_iff.mp h.1
    have h3 : decide (((nl t).length : Int) = n) = true := h.2
    rw [nl_len, decide_eq_true_iff] at h3
    have : t.length = n := by omega
    rw [this] at ht h1 h2
    exact ⟨t, rfl, ht, h1, h2⟩
  · rintro ⟨t, rfl, ht, h1, h2⟩
    exact ofB_tn ht h1 h2
def g_is_of : Ct := fun ds KD _ => ∃ (d : D) (n : Int), ds = [d, .int n] ∧ KD (.bool (ofB d n))
theorem ok_is_of (T : Tx K mg) {f : Addr} {fd : FuncData} (F : Fun K "is_of" "is_of" s_is_of f fd) : FnOk P w K mg base (L2.CX P w) 3 f fd ["thing", "many"] (spD [.rd, .rd] .fz g_is_of K) := by
  obtain ⟨f_is_turning, fd_is_turning, F_is_turning, m_is_turning⟩ := T.d_is_turning
  have G_is_turning := ok_is_turning (P := P) (w := w) (base := base) T F_is_turning
  have b_is_turning := bd_is_turning F_is_turning
  have k_is_turning := F_is_turning.kp
  refine fn_mk _ _ _ F sc_is_of rfl (by decide) fun cdv A outer s H E hr => ?_
  refine ⟨_, (ss_one (s_ret (j_and (j_call (ms := [.rd]) (msd := []) (ds0 := []) G_is_turning (hr.mono (by decide)) (by rfl) m_is_turning k_is_turning b_is_turning .nil (fun _ _ => .nil) (fun _ => passAt cxD_takes _) (ja_cons ((j_rd (pv 0))).rd ja_nil)) (j_one (j_eq hr.units (j_len T.n_len (j_rd (pv 0))) (j_rd (pv 1))))))), ?_⟩
  rintro ds KD KX ⟨d, n, rfl, q⟩
  cases hb : turnB d with
  | false => 
    have e : ofB d n = false := by unfold ofB; rw [hb, Bool.false_and]
    rw [e] at q
    cases d <;> (walk_at "sx"; refine ⟨_, rfl, ?_⟩; rw [hb]; walk_at "sx"; exact q)
  | true =>
    obtain ⟨t, rfl, _⟩ := turnB_iff.mp hb
    unfold ofB at q
    rw [hb, Bool.true_and] at q
    unfold tn at q hb ⊢
    walk_at "sx"
    refine ⟨_, rfl, ?_⟩
    rw [hb]
    walk_at "sx"
    exact q

def lookB (d e : D) : Bool := match d, e with
  | .int n, .list l => decide (1 ≤ n) && decide (n ≤ 60) && decide (l.length ≤ 200) && l.all fun x => ofB x n
  | _, _ => false
theorem lookB_d {d e : D} (h : whB d = false) : lookB d e = false := by cases d <;> first | rfl | cases h
theorem lookB_e {d e : D} (h : isList e = false) : lookB d e = false := by cases d <;> cases e <;> first | rfl | cases h
def g_looked_makers : Ct := fun ds KD KX => ∃ (d e : D), ds = [d, e] ∧ ((lookB d e = true ∧ KD e) ∨ (lookB d e = false ∧ KX "NoGroup"))
theorem ok_looked_makers (T : Tx K mg) {f : Addr} {fd : FuncData} (F : Fun K "looked_makers" "looked_makers" s_looked_makers f fd) : FnOk P w K mg base (L2.CX P w) 4 f fd ["many", "makers"] (spD [.rd, .rd] .nw g_looked_makers K) := by
  obtain ⟨f_is_whole, fd_is_whole, F_is_whole, m_is_whole⟩ := T.d_is_whole
  have G_is_whole := ok_is_whole (P := P) (w := w) (base := base) T F_is_whole
  have b_is_whole := bd_is_whole F_is_whole
  have k_is_whole := F_is_whole.kp
  obtain ⟨f_is_of, fd_is_of, F_is_of, m_is_of⟩ := T.d_is_of
  have G_is_of := ok_is_of (P := P) (w := w) (base := base) T F_is_of
  have b_is_of := bd_is_of F_is_of
  have k_is_of := F_is_of.kp
  refine fn_mk _ _ _ F sc_looked_makers rfl (by decide) fun cdv A outer s H E hr => ?_
  refine ⟨_, (ss_cons (s_if (JW.jt (jw_or (jt_not (jt_val (j_call (ms := [.rd]) (msd := []) (ds0 := []) G_is_whole (hr.mono (by decide)) (by rfl) m_is_whole k_is_whole b_is_whole .nil (fun _ _ => .nil) (fun _ => passAt cxD_takes _) (ja_cons ((j_rd (pv 0))).rd ja_nil)))) (jw_or1 (jt_not (jt_chain op_le op_le odB odB j_int (j_rd (pv 0)) (j_glob T.c_MOST_PLACES (fun _ _ => .int _))))))) (ss_one (s_raise rfl (T.x.one "NoGroup" (by decide)) cxD_takes)) ss_nil)
      (ss_cons (s_if (JW.jt (jw_or (jt_not (jt_val (j_isi (T := "list") T.n_isinstance T.n_list (by decide +kernel) (j_rd (pv 1))))) (jw_or1 (jt_gt (j_len T.n_len (j_rd (pv 1))) (j_glob T.c_MOST_MAKERS (fun _ _ => .int _)))))) (ss_one (s_raise rfl (T.x.one "NoGroup" (by decide)) cxD_takes)) ss_nil)
      (ss_cons (s_for (pt := (.one 2)) cxD_own rfl (i_bo (pv 1)) (pg_name (i := 2) sc_looked_makers.nd rfl (by first | exact Or.inl rfl | exact Or.inr rfl)) (ss_one (s_if (jt_not (jt_val (j_call (ms := [.rd, .rd]) (msd := []) (ds0 := []) G_is_of (hr.mono (by decide)) (by rfl) m_is_of k_is_of b_is_of .nil (fun _ _ => .nil) (fun _ => passAt cxD_takes _) (ja_cons ((j_fr (pv 2))).rd (ja_cons ((j_rd (pv 0))).rd ja_nil))))) (ss_one (s_raise rfl (T.x.one "NoGroup" (by decide)) cxD_takes)) ss_nil)))
      (ss_one (s_ret (j_list T.n_list (j_rd (pv 1)))))))), ?_⟩
  rintro ds KD KX ⟨d, e, rfl, q⟩
  have q1 : lookB d e = true → KD e := fun h => by rcases q with q | q; exact q.2; rw [h] at q; cases q.1
  have q2 : lookB d e = false → KX "NoGroup" := fun h => by rcases q with q | q; rw [h] at q; cases q.1; exact q.2
  clear q
  cases d with
  | int n =>
    walk_at "sx"
    refine ⟨_, rfl, _, rfl, ?_⟩
    simp only [whB, Bool.not_true, Bool.false_eq_true, if_false]
    by_cases h1 : 1 ≤ n
    · rw [decide_eq_true h1]
      by_cases h2 : n ≤ 60
      · rw [decide_eq_true h2]
        simp only [if_true, Bool.not_true, Bool.false_eq_true, if_false]
        cases e with
        | list l =>
          walk_at "sx"
          by_cases h3 : l.length ≤ 200
          · have c3 : decide ((200 : Int) < (l.length : Nat)) = false := decide_eq_false (by omega)
            rw [c3]
            simp only [Bool.false_eq_true, if_false]
            have e1 : lookB (.int n) (.list l) = l.all fun x => ofB x n := by unfold lookB; simp [h1, h2, h3]
            rw [e1] at q1 q2
            rw [wFor_eq]
            walk_at "sx"
            refine ⟨fun i E => ∃ y, E = [.fr (.int n), .bo l, y] ∧ ∀ x ∈ l.take i, ofB x n = true, ⟨_, rfl, fun x h => by simp at h⟩, ?_, ?_⟩
            · rintro i d E he ⟨y, rfl, hy⟩
              walk_at "sx"
              refine ⟨_, _, rfl, _, rfl, ?_⟩
              cases hb : ofB d n with
              | true =>
                simp only [Bool.not_true, Bool.false_eq_true, if_false]
                refine ⟨_, rfl, fun x hx => ?_⟩
                rw [List.take_add_one, he] at hx
                rcases List.mem_append.mp hx with hx | hx
                · exact hy x hx
                · simp at hx; rw [hx]; exact hb
              | false =>
                simp only [Bool.not_false, if_true]
                refine q2 (Bool.eq_false_iff.mpr fun z => ?_)
                have := List.all_eq_true.mp z d (List.mem_of_getElem? he)
                rw [hb] at this; cases this
            · rintro E ⟨y, rfl, hy⟩
              walk_at "sx"
              rw [List.take_length] at hy
              exact q1 (List.all_eq_true.mpr hy)
          · have c3 : decide ((200 : Int) < (l.length : Nat)) = true := decide_eq_true (by omega)
            rw [c3]
            simp only [if_true]
            exact q2 (by unfold lookB; simp [h3])
        | _ => walk_at "sx"; exact q2 rfl
      · rw [decide_eq_false h2]
        simp only [if_true, Bool.not_false]
        exact q2 (by cases e <;> (unfold lookB; simp [h2]))
    · rw [decide_eq_false h1]
      simp only [Bool.false_eq_true, if_false]
      exact q2 (by cases e <;> (unfold lookB; simp [h1]))
  | _ =>
    walk_at "sx"
    refine ⟨_, rfl, _, rfl, ?_⟩
    simp only [whB, Bool.not_false, if_true]
    exact q2 rfl

def g_still : Ct := fun ds KD _ => ∃ n : Nat, ds = [.int (n : Int)] ∧ n ≤ 1000 ∧ KD (tn (List.range n))
theorem ok_still (T : Tx K mg) {f : Addr} {fd : FuncData} (F : Fun K "still" "still" s_still f fd) : FnOk P w K mg base (L2.CX P w) 1 f fd ["many"] (spD [.rd] .fz g_still K) := by
  refine fn_mk _ _ _ F sc_still rfl (by decide) fun cdv A outer s H E hr => ?_
  refine ⟨_, (ss_one (s_ret (j_tupRg1 rfl T.n_tuple T.n_range (j_rd (pv 0))))), ?_⟩
  rintro ds KD KX ⟨n, rfl, hn, q⟩
  walk_at "sx"
  refine ⟨⟨by omega, by omega, by omega, by omega, by omega⟩, ?_⟩
  rw [Int.toNat_natCast, range0]
  exact q

def g_Step___init__ : CtS := fun as KS KX => ∃ (p : Addr) (s n : Nat), as = [.tr (.ref p) (.nd p (.ob "Step" []) []), .fr (.int (s : Nat)), .fr (.int (n : Nat))] ∧ n ≤ 1000 ∧
  ∀ a1 a2, KS (.fr .none) [.tr (.ref p) (stepT (p, a1, a2) s (stp0 n s))]
theorem ok_Step___init__ (T : Tx K mg) {f : Addr} {fd : FuncData} (F : Fun K "__init__" "Step.__init__" s_Step___init__ f fd) : FnOk P w K mg base (L2.CX P w) 2 f fd ["self", "place", "many"] (spS 3 [0] g_Step___init__ K) := by
  obtain ⟨f_still, fd_still, F_still, m_still⟩ := T.d_still
  have G_still := ok_still (P := P) (w := w) (base := base) T F_still
  have b_still := bd_still F_still
  have k_still := F_still.kp
  refine fn_mkS _ _ _ F sc_Step___init__ rfl (by decide) fun cdv A outer s H E hr => ?_
  refine ⟨_, (ts_cons (t_fld (cn := "Step") (pj_var (pv 0)) (ej_fz (j_fr (pv 1))) T.na_Step_place)
      (ts_cons (t_fld (cn := "Step") (pj_var (pv 0)) (ej_dict1 (j_fr (pv 1)) (j_tup (ja_cons (j_call (ms := [.rd]) (msd := []) (ds0 := []) G_still (hr.mono (by decide)) (by rfl) m_still k_still b_still .nil (fun _ _ => .nil) (fun _ => passAt cxD_takes _) (ja_cons ((j_fr (pv 2))).rd ja_nil)) (ja_cons j_int ja_nil)))) T.na_Step_lifts)
      (ts_one (t_fld (cn := "Step") (pj_var (pv 0)) (ej_tree (ej_nw (j_lst ja_nil))) T.na_Step_makers)))), ?_⟩
  rintro as KS KX - ⟨p, s, n, rfl, hn, q⟩
  walk_at "ux"
  refine ⟨by decide, ?_⟩
  walk_at "ux"
  refine ⟨n, rfl, hn, ?_⟩
  unfold tn
  walk_at "ux"
  refine ⟨by rw [sizeLine_eq]; decide, fun p1 => ⟨show (1 : Nat) < 1000 by decide, by rw [sizeLine_eq]; decide, fun p2 => ⟨show (2 : Nat) < 1000 by decide, ?_⟩⟩⟩
  exact q p1 p2

theorem all2_steps {n k : Nat} {R : D → Tr → Prop} (hR : ∀ (i : Nat) t, R (.int (i : Nat)) t → ∃ a, t = stepT a i (stp0 n i)) : ∀ (m k : Nat) (ts : List Tr), All2 R (nl (List.range' k m)) ts → ∃ sa : Nat → Addr × Addr × Addr, ts = ((List.range' k m).map (stp0 n)).mapIdx fun i S => stepT (sa i) (i + k) S
  | 0, k, ts, h => by
    cases h
    exact ⟨fun _ => (0, 0, 0), rfl⟩
  | m + 1, k, ts, h => by
    rw [List.range'_succ] at h ⊢
    cases h with
    | cons h1 h2 =>
      rename_i t ts
      obtain ⟨a, rfl⟩ := hR _ _ h1
      obtain ⟨sa, rfl⟩ := all2_steps (k := 0) hR m (k + 1) ts h2
      refine ⟨fun i => if i = 0 then a else sa (i - 1), ?_⟩
      rw [List.map_cons, List.mapIdx_cons]
      congr 1
      · simp
      · congr 1
        funext i S
        show stepT (sa i) (i + (k + 1)) S = stepT (if i + 1 = 0 then a else sa (i + 1 - 1)) (i + 1 + k) S
        rw [if_neg (by omega), Nat.add_sub_cancel, show i + 1 + k = i + (k + 1) by omega]
def g_Chain___init__ : CtS := fun as KS KX => ∃ (p : Addr) (n : Nat), as = [.tr (.ref p) (.nd p (.ob "Chain" []) []), .fr (.int (n : Nat))] ∧ n ≤ 1000 ∧
  ∀ A : CA, A.p = p → KS (.fr .none) [.tr (.ref p) (chainT A (chn0 n))]
theorem ok_Chain___init__ (T : Tx K mg) {f : Addr} {fd : FuncData} (F : Fun K "__init__" "Chain.__init__" s_Chain___init__ f fd) : FnOk P w K mg base (L2.CX P w) 4 f fd ["self", "many"] (spS 2 [0] g_Chain___init__ K) := by
  obtain ⟨f_Step___init__, fd_Step___init__, F_Step___init__, mk_Step⟩ := T.d_Step___init__
  have G_Step___init__ := ok_Step___init__ (P := P) (w := w) (base := base) T F_Step___init__
  have b_Step___init__ := bd_Step___init__ F_Step___init__
  have k_Step___init__ := F_Step___init__.kp
  refine fn_mkS _ _ _ F sc_Chain___init__ rfl (by decide) fun cdv A outer s H E hr => ?_
  refine ⟨_, (ts_cons (t_fld (cn := "Chain") (pj_var (pv 0)) (ej_fz (j_fr (pv 1))) T.na_Chain_many)
      (ts_cons (t_fld (cn := "Chain") (pj_var (pv 0)) (ej_tree (ej_nw (j_lst (ja_cons (j_tup (ja_cons j_str ja_nil)) ja_nil)))) T.na_Chain_lines)
      (ts_one (t_fld (cn := "Chain") (pj_var (pv 0)) (ej_lcN (pt := (.one 2)) rfl sc_Chain___init__.nd (i_rg1 T.n_range (j_fr (pv 1))) (blkOk_by (own := [("place", 2)]) (N := ["self", "many", "place"]) (sc := defScope s_Chain___init__) (by decide +kernel)) (fun _ _ _ _ _ => (pg_name (i := 2) sc_Chain___init__.nd rfl (by first | exact Or.inl rfl | exact Or.inr rfl))) (fun _ _ _ _ _ => (jn_make (ms := [.fz, .fz]) (cn := "Step") mk_Step T.io_Step G_Step___init__ (hr.mono (by decide)) (by rfl) T.mg_Step b_Step___init__ (fun _ => passAt takes0 _) (ja_cons (j_fr (pv 2)) (ja_cons (j_fr (pv 1)) ja_nil)))) (by decide)) T.na_Chain_steps)))), ?_⟩
  rintro as KS KX - ⟨p, n, rfl, hn, q⟩
  walk_at "ux"
  refine ⟨by decide, by rw [sizeLine_eq]; decide, by rw [sizeLine_eq]; decide, fun pl => ⟨show (1 : Nat) < 1000 by decide, by omega, by omega, by rw [range_len]; exact size_big (by omega),
    fun d t => ∃ (i : Nat) (a : Addr × Addr × Addr), d = .int i ∧ t = stepT a i (stp0 n i), fun d hd x => ?_, fun P ts h => ⟨show (2 : Nat) < 1000 by decide, ?_⟩⟩⟩
  · rw [Int.toNat_natCast, range0] at hd
    obtain ⟨i, _, rfl⟩ := nl_mem hd
    exact ⟨x, i, n, rfl, hn, fun a1 a2 => ⟨rfl, _, rfl, i, _, rfl, rfl⟩⟩
  · rw [Int.toNat_natCast, range0, List.range_eq_range'] at h
    obtain ⟨sa, rfl⟩ := all2_steps (n := n) (k := 0) (fun i t ⟨j, a, e, et⟩ => by
      have : i = j := by have := PyData.int.inj e; omega
      subst this; exact ⟨a, et⟩) n 0 ts h
    have := q ⟨p, pl, P, sa⟩ rfl
    unfold chainT chn0 stepsT at this
    rw [List.range_eq_range'] at this
    exact this

def g_behind : Ct := fun ds KD _ => ∃ a b : List Nat, ds = [tn a, tn b] ∧ a.length ≤ 1000 ∧ (∀ x ∈ a, x < b.length) ∧ KD (tn (bh a b))
theorem ok_behind (T : Tx K mg) {f : Addr} {fd : FuncData} (F : Fun K "behind" "behind" s_behind f fd) : FnOk P w K mg base (L2.CX P w) 1 f fd ["one", "other"] (spD [.rd, .rd] .fz g_behind K) := by
  refine fn_mk _ _ _ F sc_behind rfl (by decide) fun cdv A outer s H E hr => ?_
  refine ⟨_, (ss_one (s_ret (j_tuple T.n_tuple (j_lc (pt := (.one 2)) rfl sc_behind.nd (i_tup (j_rd (pv 0))) (blkOk_by (own := [("to", 2)]) (N := ["one", "other", "to"]) (sc := defScope s_behind) (by decide +kernel)) (fun _ _ _ _ _ => (pg_name (i := 2) sc_behind.nd rfl (by first | exact Or.inl rfl | exact Or.inr rfl))) (fun _ _ _ _ _ => jts_nil) (fun _ _ _ _ _ => (j_ixA (j_rd (pv 1)) (j_fr (pv 2)))) (by decide))))), ?_⟩
  rintro ds KD KX ⟨a, b, rfl, hl, hb, q⟩
  unfold tn
  walk_at "sx"
  refine ⟨nl_size hl, bhF b, bhT hb, ?_⟩
  rw [bhF_map]
  exact q

def g_back : Ct := fun ds KD _ => ∃ (n : Nat) (t : List Nat), ds = [tn t] ∧ IsT n t ∧ n ≤ 1000 ∧ KD (tn (bk t))
theorem flat_one (n : Nat) (x : Int) : (List.replicate n [PyData.int x]).flatten = List.replicate n (.int x) := by
  induction n with
  | zero => rfl
  | succ n ih => rw [List.replicate_succ, List.flatten_cons, ih]; rfl
theorem nl_rep (n : Nat) : List.replicate n (PyData.int 0) = nl (List.replicate n 0) := by simp [nl]
theorem ok_back (T : Tx K mg) {f : Addr} {fd : FuncData} (F : Fun K "back" "back" s_back f fd) : FnOk P w K mg base (L2.CX P w) 1 f fd ["one"] (spD [.rd] .fz g_back K) := by
  refine fn_mk _ _ _ F sc_back rfl (by decide) fun cdv A outer s H E hr => ?_
  refine ⟨_, (ss_cons (s_setO (i := 1) sc_back.nd (j_rep (j_lst (ja_cons j_int ja_nil)) (j_len T.n_len (j_rd (pv 0)))))
      (ss_cons (s_for (pt := (.many [2, 3])) cxD_own rfl (i_enumT T.n_enumerate (j_rd (pv 0))) (pg_tup rfl (pgs_cons (pg_name (i := 2) sc_back.nd rfl (by first | exact Or.inl rfl | exact Or.inr rfl)) (pgs_cons (pg_name (i := 3) sc_back.nd rfl (by first | exact Or.inl rfl | exact Or.inr rfl)) pgs_nil))) (ss_one (s_putI (i := 1) (pv 1) (j_fr (pv 3)) (j_fr (pv 2)))))
      (ss_one (s_ret (j_tuple T.n_tuple (j_rd (pv 1))))))), ?_⟩
  rintro ds KD KX ⟨n, t, rfl, ht, hn, q⟩
  unfold tn
  walk_at "sx"
  simp only [nl_len, ht.len]
  refine ⟨by decide, by omega, by omega, by rw [Nat.one_mul, Int.toNat_natCast]; exact size_big (by omega), ?_⟩
  rw [Int.toNat_natCast, flat_one, nl_rep, wFor_eq]
  walk_at "sx"
  refine ⟨fun i E => ∃ (r : List Nat) (y z : Sl), E = [.fr (.tuple (nl t)), .ow (nl r), y, z] ∧ r.length = n ∧ ∀ x, x < i → r.getD (t.getD x 0) 0 = x, ⟨_, _, _, rfl, by simp, fun x h => absurd h (Nat.not_lt_zero _)⟩, ?_, ?_⟩
  · rintro i d E he ⟨r, y, z, rfl, hr, hx⟩
    obtain ⟨v, hv, rfl⟩ := enumD_at he
    obtain ⟨w, hw, rfl⟩ := nl_at hv
    have hi : i < n := by
      have := (List.getElem?_eq_some_iff.mp hw).1
      rw [ht.len] at this; exact this
    have ew : t.getD i 0 = w := by rw [List.getD_eq_getElem?_getD, hw]; rfl
    have hwn : w < n := by rw [← ew]; exact ht.getLt hi
    walk_at "sx"
    refine ⟨_, w, rfl, ixN_cast _ _ (by rw [nl_len, hr]; exact hwn), r.set w i, _, _, by rw [nl_set], by rw [List.length_set]; exact hr, fun x hx' => ?_⟩
    rw [getD_set (by rw [hr]; exact hwn)]
    by_cases e : x = i
    · subst e; rw [if_pos ew]
    · rw [if_neg fun z => e (ht.inj (by omega) hi (z.trans ew.symm))]
      exact hx x (by omega)
  · rintro E ⟨r, y, z, rfl, hr, hx⟩
    have el : (enumD (nl t)).length = n := by simp [enumD, nl_len, ht.len]
    rw [el] at hx
    walk_at "sx"
    rw [ht.bk_eq hr hx]
    exact q

def g_Chain_rest : CtS := fun as KS KX => ∃ (A : CA) (C : Chn) (one : List Nat) (s : Nat), as = [.tr (.ref A.p) (chainT A C), .fr (tn one), .fr (.int (s : Nat))] ∧ COk C ∧ C.n ≤ 60 ∧ IsT C.n one ∧ s ≤ C.n ∧
  KS (.fr (.tuple [.int ((rstC C s one).1 : Nat), tn (rstC C s one).2])) [.tr (.ref A.p) (chainT A C)]
theorem ok_Chain_rest (T : Tx K mg) {f : Addr} {fd : FuncData} (F : Fun K "rest" "Chain.rest" s_Chain_rest f fd) : FnOk P w K mg base (L2.CX P w) 2 f fd ["self", "one", "start"] (spS 3 [0] g_Chain_rest K) := by
  obtain ⟨f_behind, fd_behind, F_behind, m_behind⟩ := T.d_behind
  have G_behind := ok_behind (P := P) (w := w) (base := base) T F_behind
  have b_behind := bd_behind F_behind
  have k_behind := F_behind.kp
  obtain ⟨f_back, fd_back, F_back, m_back⟩ := T.d_back
  have G_back := ok_back (P := P) (w := w) (base := base) T F_back
  have b_back := bd_back F_back
  have k_back := F_back.kp
  refine fn_mkS _ _ _ F sc_Chain_rest rfl (by decide) fun cdv A outer s H E hr => ?_
  refine ⟨_, (ts_cons (t_forR (i := 3) cxD_own rfl (ir_new (ej_slP (pj_at (pj_var (pv 0))) (jo_some (j_fr (pv 2))) jo_none)) (pg_name (i := 3) sc_Chain_rest.nd rfl (by first | exact Or.inl rfl | exact Or.inr rfl)) (ts_cons (t_lift (s_set (i := 4) sc_Chain_rest.nd (j_ixA (j_fr (pv 1)) (j_pd (pj_at (pj_al (pv 3)))))))
      (ts_cons (t_if (et_pure (jt_pdnotin (hu65 hr) (pj_at (pj_al (pv 3))) (j_fr (pv 4)))) (ts_one (t_ret (ej_fz (j_tup (ja_cons (j_pd (pj_at (pj_al (pv 3)))) (ja_cons (j_fr (pv 1)) ja_nil)))))) ts_nil)
      (ts_one (t_if (et_pure (jt_ne hr.units (j_fr (pv 4)) (j_pd (pj_at (pj_al (pv 3)))))) (ts_one (t_lift (s_set (i := 1) sc_Chain_rest.nd (j_call (ms := [.rd, .rd]) (msd := []) (ds0 := []) G_behind (hr.mono (by decide)) (by rfl) m_behind k_behind b_behind .nil (fun _ _ => .nil) (fun _ => passAt cxD_takes _) (ja_cons ((j_fr (pv 1))).rd (ja_cons ((j_call (ms := [.rd]) (msd := []) (ds0 := []) G_back (hr.mono (by decide)) (by rfl) m_back k_back b_back .nil (fun _ _ => .nil) (fun _ => passAt cxD_takes _) (ja_cons ((j_ixA (j_pd (pj_dg (hu65 hr) (pj_at (pj_al (pv 3))) (j_fr (pv 4)))) j_int)).rd ja_nil))).rd ja_nil)))))) ts_nil)))))
      (ts_one (t_ret (ej_fz (j_tup (ja_cons (j_pd (pj_at (pj_var (pv 0)))) (ja_cons (j_fr (pv 1)) ja_nil))))))), ?_⟩
  rintro as KS KX - ⟨A, C, one, s, rfl, hC, hn, ho, hs, q⟩
  unfold tn
  walk_at "ux"
  rw [wForR_eq]
  walk_at "ux"
  rw [at_steps]
  walk_at "ux"
  rw [leafs_cut]
  intro _
  refine ⟨List.all_eq_true.mpr fun t ht => by
    obtain ⟨j, _, rfl⟩ := List.mem_map.mp ht
    rfl, fun i E => ∃ (x : List Nat) (y z : Sl), E = [.tr (.ref A.p) (chainT A C), .fr (.tuple (nl x)), .fr (.int (s : Nat)), y, z] ∧ IsT C.n x ∧ s + i ≤ C.n ∧ rstC C s one = rstC C (s + i) x, ⟨one, _, _, rfl, ho, hs, rfl⟩, ?_, ?_⟩
  · rintro i d E he ⟨x, y, z, rfl, hx, hi, hr⟩
    have hi : s + i < C.steps.length := by
      have := (List.getElem?_eq_some_iff.mp he).1
      simp at this; omega
    have hi' := hi
    rw [hC.len] at hi'
    obtain ⟨S, hS⟩ := hC.get hi'
    have ed : d = .tr (.ref (A.sa (s + i)).1) (.hl (.ref (A.sa (s + i)).1)) := by
      rw [List.getElem?_map, List.getElem?_map, List.getElem?_drop, List.getElem?_range hi] at he
      exact (Option.some.inj he).symm
    subst ed
    rw [rst_step hS] at hr
    walk_at "ux"
    refine ndIn_step rfl hS ?_
    rw [at_place]
    walk_at "ux"
    refine ⟨_, by rw [atI_cast, nl_get, Cl.getD_some (by rw [hx.len]; exact hi')]; rfl, ?_⟩
    walk_at "ux"
    refine ndIn_step rfl hS ?_
    rw [at_lifts, lift_in]
    cases hl : S.lifts.lookup (x.getD (s + i) 0) with
    | none =>
      rw [hl] at hr
      simp only [Option.isSome_none, Bool.not_false, if_true]
      walk_at "ux"
      refine ndIn_step rfl hS ?_
      rw [at_place]
      walk_at "ux"
      rw [hr] at q
      exact ⟨by rw [sizeLine_eq]; decide, q⟩
    | some u =>
      rw [hl] at hr
      simp only [Option.isSome_some, Bool.not_true, Bool.false_eq_true, if_false]
      walk_at "ux"
      refine ndIn_step rfl hS ?_
      rw [at_place]
      walk_at "ux"
      obtain ⟨y1, u1, u2, u3, _⟩ := hC.lift hS hl
      rw [beqN]
      by_cases he : x.getD (s + i) 0 = s + i
      · dsimp only at hr
        rw [if_pos he] at hr
        rw [decide_eq_true he]
        walk_at "ux"
        exact ⟨x, _, _, rfl, hx, by omega, hr⟩
      · dsimp only at hr
        rw [if_neg he] at hr
        rw [decide_eq_false he]
        walk_at "ux"
        refine ndIn_step rfl hS ?_
        rw [at_lifts]
        refine lift_at hl fun j => ?_
        unfold pr
        walk_at "ux"
        refine ⟨_, rfl, C.n, u.1, rfl, u1, by omega, ?_⟩
        refine ⟨x, bk u.1, rfl, by rw [hx.len]; omega, fun a ha => by rw [bk_len, u1.len]; exact hx.lt a ha, ?_⟩
        exact ⟨_, _, _, rfl, hx.bh u1.bk, by omega, hr⟩
  · rintro E ⟨x, y, z, rfl, hx, hi, hr⟩
    walk_at "ux"
    rw [at_many]
    walk_at "ux"
    have e1 : s + (List.map rawS (List.map (fun i => Tr.hl (V.ref (A.sa i).1)) (List.drop s (List.range C.steps.length)))).length = C.n := by
      simp only [List.length_map, List.length_drop, List.length_range, hC.len]; omega
    simp only [List.length_map, List.length_drop, List.length_range, hC.len] at e1 hr hi
    rw [show s + (C.n - s) = C.n by omega] at hr
    have e2 : rstC C C.n x = (C.n, x) := by
      unfold rstC
      rw [List.drop_eq_nil_of_le (by rw [hC.len]; exact Nat.le_refl _)]; rfl
    rw [hr, e2] at q
    exact ⟨by rw [sizeLine_eq]; decide, q⟩

def g_Chain_noted : CtS := fun as KS KX => ∃ (A : CA) (C : Chn) (l : Ln), as = [.tr (.ref A.p) (chainT A C), .fr (enc l)] ∧ C.lines.length < sizeLine ∧
  KS (.fr (.int (C.lines.length : Nat))) [.tr (.ref A.p) (chainT A (moreL C [l]))]
theorem ok_Chain_noted (T : Tx K mg) {f : Addr} {fd : FuncData} (F : Fun K "noted" "Chain.noted" s_Chain_noted f fd) : FnOk P w K mg base (L2.CX P w) 1 f fd ["self", "line"] (spS 2 [0] g_Chain_noted K) := by
  refine fn_mkS _ _ _ F sc_Chain_noted rfl (by decide) fun cdv A outer s H E hr => ?_
  refine ⟨_, (ts_cons (t_papp (pj_at (pj_var (pv 0))) (ej_fz (j_fr (pv 1))))
      (ts_one (t_ret (ej_fz (j_sub (j_lenP T.n_len (pj_at (pj_var (pv 0)))) j_int))))), ?_⟩
  rintro as KS KX - ⟨A, C, l, rfl, hl, q⟩
  walk_at "ux"
  rw [at_lines]
  unfold linesT
  walk_at "ux"
  refine ⟨_, ch_lines_get, by rw [List.length_map, lnl_len]; exact hl, ?_⟩
  rw [ch_lines_put, at_lines]
  unfold linesT
  walk_at "ux"
  rw [lnl_len]
  have e : (((moreL C [l]).lines.length : Nat) : Int) - 1 = (C.lines.length : Nat) := by unfold moreL; rw [List.length_append]; simp
  rw [e]
  exact q

theorem ch_obQ {A : CA} {C : Chn} {mn : Str} (h : chainF.contains mn = false) : obQ (some (chainT A C)) (rawS (chainT A C)) "Chain" mn := ⟨_, _, _, rfl, rfl, h⟩
theorem ch_lent {A : CA} {C : Chn} {gs : List Ag} {as E : List Sl} {i : Nat} {v : V} {k2 : List Sl → List Sl → Prop} (h : E[i]? = some (.tr v (chainT A C))) :
    lendOut (.lent i [] :: gs) (rawS (chainT A C) :: as) E k2 = lendOut gs as (E.set i (.tr v (.hl (.ref A.p)))) fun as' E' => k2 (.tr (.ref A.p) (chainT A C) :: as') E' := by
  show lendOut (.lent i [] :: gs) (.tr (.ref A.p) (.hl (.ref A.p)) :: as) E k2 = _
  rw [lo_lent, h, trS_tr, get0]
  unfold chainT
  rw [ndQ_nd, put0]
def muAt (k B : Nat) (E : List Sl) : Nat := match E[k]? with
  | some (Sl.fr (PyData.int i)) => B - i.toNat
  | _ => 0
def tkD (t : Task) : D := .tuple [.int (t.1 : Nat), tn t.2.1, .tuple (nl t.2.2)]
def prD (p : Nat × Nat) : D := .tuple [.int (p.1 : Nat), .int (p.2 : Nat)]
def g_Chain_grown : CtS := fun as KS KX => ∃ (A : CA) (C : Chn) (s : Nat) (S : Stp) (x : List Nat) (l : Nat) (ev : List Ln → Nat → List Nat → Prop), as = [.tr (.ref A.p) (chainT A C), .tr (.ref (A.sa s).1) (.hl (.ref (A.sa s).1)), .fr (tn x), .fr (.int (l : Nat))] ∧
  COk C ∧ C.n ≤ 60 ∧ C.steps[s]? = some S ∧ IsT C.n x ∧ Fx s x ∧ l < C.lines.length ∧ (∀ p ∈ S.lifts, Gn C.n (MkOf C s) p.2.1) ∧ S.mks.length ≤ 4000 ∧ C.lines.length + 60 < sizeLine ∧ EvL ev ∧ LvOk ev C ∧ ev C.lines l x ∧
  ∀ new C' nt, Grw C s x l S new C' nt → nt.length ≤ C.n * (S.mks.length + 1) → LvOk ev C' → (∀ t ∈ nt, TLn ev C'.lines t) → KS (.ow (nt.map tkD)) [.tr (.ref A.p) (chainT A C')]
theorem ok_Chain_grown (T : Tx K mg) {f : Addr} {fd : FuncData} (F : Fun K "grown" "Chain.grown" s_Chain_grown f fd) : FnOk P w K mg base (L2.CX P w) 2 f fd ["self", "step", "one", "line"] (spS 4 [0] g_Chain_grown K) := by
  obtain ⟨f_behind, fd_behind, F_behind, m_behind⟩ := T.d_behind
  have G_behind := ok_behind (P := P) (w := w) (base := base) T F_behind
  have b_behind := bd_behind F_behind
  have k_behind := F_behind.kp
  obtain ⟨f_Chain_noted, fd_Chain_noted, F_Chain_noted, mt_Chain_noted⟩ := T.d_Chain_noted
  have G_Chain_noted := ok_Chain_noted (P := P) (w := w) (base := base) T F_Chain_noted
  have b_Chain_noted := bd_Chain_noted F_Chain_noted
  have k_Chain_noted := F_Chain_noted.kp
  obtain ⟨f_back, fd_back, F_back, m_back⟩ := T.d_back
  have G_back := ok_back (P := P) (w := w) (base := base) T F_back
  have b_back := bd_back F_back
  have k_back := F_back.kp
  refine fn_mkS _ _ _ F sc_Chain_grown rfl (by decide) fun cdv A outer s H E hr => ?_
  refine ⟨_, (ts_cons (t_papp (pj_at (pj_al (pv 1))) (ej_fz (j_tup (ja_cons (j_fr (pv 2)) (ja_cons (j_fr (pv 3)) ja_nil)))))
      (ts_cons (t_lock (t_lift (s_setLcC (i := 4) (pt := (.one 7)) rfl sc_Chain_grown.nd (sw_true rfl rfl rfl (by decide +kernel)) (ic_keysP (pj_at (pj_al (pv 1)))) (blkOk_by (own := [("to", 7)]) (N := ["self", "step", "one", "line", "pairs", "tasks", "at", "to", "number", "lift", "lift_line", "maker", "maker_line", "made", "goal", "last", "last_line", "k"]) (sc := defScope s_Chain_grown) (by decide +kernel)) (fun _ _ _ _ _ => (pg_name (i := 7) sc_Chain_grown.nd rfl (by first | exact Or.inl rfl | exact Or.inr rfl))) (fun _ _ _ _ _ => jts_nil) (fun _ _ _ _ _ => (j_tup (ja_cons (j_fr (pv 7)) (ja_cons (j_sub (j_lenP T.n_len (pj_at (pj_al (pv 1)))) j_int) ja_nil)))) (by decide))))
      (ts_cons (t_lift (s_setO (i := 5) sc_Chain_grown.nd (j_lst ja_nil)))
      (ts_cons (t_lift (s_set (i := 6) sc_Chain_grown.nd j_int))
      (ts_cons (t_while cxD_own (et_pure (jt_lt (j_fr (pv 6)) (j_len T.n_len (j_rd (pv 4))))) (ts_cons (t_lift (s_setP (pt := (.many [7, 8])) (j_ixA (j_rd (pv 4)) (j_fr (pv 6))) (pg_tup rfl (pgs_cons (pg_name (i := 7) sc_Chain_grown.nd rfl (by first | exact Or.inl rfl | exact Or.inr rfl)) (pgs_cons (pg_name (i := 8) sc_Chain_grown.nd rfl (by first | exact Or.inl rfl | exact Or.inr rfl)) pgs_nil)))))
      (ts_cons (t_lift (s_augI (i := 6) sc_Chain_grown.nd ip_add j_int))
      (ts_cons (t_lift (s_setP (pt := (.many [9, 10])) (j_pd (pj_dg (hu65 hr) (pj_at (pj_al (pv 1))) (j_fr (pv 7)))) (pg_tup rfl (pgs_cons (pg_name (i := 9) sc_Chain_grown.nd rfl (by first | exact Or.inl rfl | exact Or.inr rfl)) (pgs_cons (pg_name (i := 10) sc_Chain_grown.nd rfl (by first | exact Or.inl rfl | exact Or.inr rfl)) pgs_nil)))))
      (ts_cons (t_lift (s_setP (pt := (.many [11, 12])) (j_pd (pj_ix (pj_at (pj_al (pv 1))) (j_fr (pv 8)))) (pg_tup rfl (pgs_cons (pg_name (i := 11) sc_Chain_grown.nd rfl (by first | exact Or.inl rfl | exact Or.inr rfl)) (pgs_cons (pg_name (i := 12) sc_Chain_grown.nd rfl (by first | exact Or.inl rfl | exact Or.inr rfl)) pgs_nil)))))
      (ts_cons (t_lift (s_set (i := 13) sc_Chain_grown.nd (j_call (ms := [.rd, .rd]) (msd := []) (ds0 := []) G_behind (hr.mono (by decide)) (by rfl) m_behind k_behind b_behind .nil (fun _ _ => .nil) (fun _ => passAt cxD_takes _) (ja_cons ((j_fr (pv 9))).rd (ja_cons ((j_fr (pv 11))).rd ja_nil)))))
      (ts_cons (t_lift (s_set (i := 14) sc_Chain_grown.nd (j_ixA (j_fr (pv 11)) (j_fr (pv 7)))))
      (ts_one (t_if (et_pure (jt_pdnotin (hu65 hr) (pj_at (pj_al (pv 1))) (j_fr (pv 14)))) (ts_cons (t_pdput (hu65 hr) (pj_at (pj_al (pv 1))) (j_fr (pv 14)) (ej_tup (gs := [.val, .val]) (ea_cons (ej_fz (j_fr (pv 13))) (ea_cons (ej_meth (gs := [.val]) (g0 := .lent 0 []) (cn := "Chain") G_Chain_noted (hr.mono (by decide)) T.cl_Chain mt_Chain_noted b_Chain_noted (fun _ => passAt cxD_takes _) (ej_pl (pj_var (pv 0))) (ea_cons (ej_fz (j_tup (ja_cons j_str (ja_cons (j_fr (pv 10)) (ja_cons (j_fr (pv 12)) ja_nil))))) ea_nil)) ea_nil))))
      (ts_one (t_lift (s_ext (i := 4) (pv 4) (j_lc (pt := (.one 17)) rfl sc_Chain_grown.nd (i_rg1 T.n_range (j_lenP T.n_len (pj_at (pj_al (pv 1))))) (blkOk_by (own := [("k", 17)]) (N := ["self", "step", "one", "line", "pairs", "tasks", "at", "to", "number", "lift", "lift_line", "maker", "maker_line", "made", "goal", "last", "last_line", "k"]) (sc := defScope s_Chain_grown) (by decide +kernel)) (fun _ _ _ _ _ => (pg_name (i := 17) sc_Chain_grown.nd rfl (by first | exact Or.inl rfl | exact Or.inr rfl))) (fun _ _ _ _ _ => jts_nil) (fun _ _ _ _ _ => (j_tup (ja_cons (j_fr (pv 14)) (ja_cons (j_fr (pv 17)) ja_nil)))) (by decide)))))) (ts_one (t_if (et_pure (jt_ne hr.units (j_fr (pv 13)) (j_ixA (j_pd (pj_dg (hu65 hr) (pj_at (pj_al (pv 1))) (j_fr (pv 14)))) j_int))) (ts_cons (t_lift (s_setP (pt := (.many [15, 16])) (j_pd (pj_dg (hu65 hr) (pj_at (pj_al (pv 1))) (j_fr (pv 14)))) (pg_tup rfl (pgs_cons (pg_name (i := 15) sc_Chain_grown.nd rfl (by first | exact Or.inl rfl | exact Or.inr rfl)) (pgs_cons (pg_name (i := 16) sc_Chain_grown.nd rfl (by first | exact Or.inl rfl | exact Or.inr rfl)) pgs_nil)))))
      (ts_one (t_lift (s_app (i := 5) (pv 5) (j_tup (ja_cons (j_add (j_pd (pj_at (pj_al (pv 1)))) j_int) (ja_cons (j_call (ms := [.rd, .rd]) (msd := []) (ds0 := []) G_behind (hr.mono (by decide)) (by rfl) m_behind k_behind b_behind .nil (fun _ _ => .nil) (fun _ => passAt cxD_takes _) (ja_cons ((j_fr (pv 13))).rd (ja_cons ((j_call (ms := [.rd]) (msd := []) (ds0 := []) G_back (hr.mono (by decide)) (by rfl) m_back k_back b_back .nil (fun _ _ => .nil) (fun _ => passAt cxD_takes _) (ja_cons ((j_fr (pv 15))).rd ja_nil))).rd ja_nil))) (ja_cons (j_tup (ja_cons (j_fr (pv 10)) (ja_cons (j_fr (pv 12)) (ja_cons (j_fr (pv 16)) ja_nil)))) ja_nil)))))))) ts_nil)))))))))))
      (ts_one (t_ret (ej_take (pv 5))))))))), ?_⟩
  rintro as KS KX - ⟨A, C, s, S, x, l, ev, rfl, hC, hn, hS, hx, fx, hl, gn, hm, hL, he, lo, hev, q⟩
  unfold tn
  walk_at "ux"
  have h60 : (4000 : Nat) < sizeLine := by rw [sizeLine_eq]; decide
  refine ndIn_step rfl hS ?_
  rw [at_makers]
  unfold mksT
  walk_at "ux"
  refine ⟨by rw [sizeLine_eq]; decide, _, ch_get2 hS, by rw [List.length_map, List.length_map]; omega, ?_⟩
  rw [show (chainT A C).put [2, s, 2] (.nd (A.sa s).2.2 .lst ((S.mks.map pr).map Tr.d ++ [.d (.tuple [.tuple (nl x), .int (l : Nat)])])) = _ from ch_mks hS (x, l)]
  have hS1 : (addMk C s S x l).steps[s]? = some ⟨S.lifts, S.mks ++ [(x, l)]⟩ := (set_at hS).trans (if_pos rfl)
  refine ⟨0, [2, s, 1], .ref A.p, _, (A.sa s).2.1, ksN S.lifts, _, rfl, ch_get1 (A := A) (C := addMk C s S x l) (S := ⟨S.lifts, S.mks ++ [(x, l)]⟩) hS1, fun od ws hws => ?_⟩
  walk_at "ux"
  rw [show (chainT A (setStep C s ⟨S.lifts, S.mks ++ [(x, l)]⟩)).put [2, s, 1] (.nd (A.sa s).2.1 (.dkL od ws) (S.lifts.map fun p => .d (pr p.2))) = chainL A (addMk C s S x l) s (.nd (A.sa s).2.1 (.dkL od ws) (S.lifts.map fun p => .d (pr p.2))) from rfl]
  refine ndIn_stepL rfl hS1 ?_
  rw [at_liftsL]
  walk_at "ux"
  have wsl : ws.length = S.lifts.length := by
    have := congrArg List.length hws
    unfold ksN at this
    rwa [List.length_map, List.length_map] at this
  have lle := lifts_le hC hS
  refine ⟨by rw [wsl]; omega, fun d => some (.tuple [d, .int (S.mks.length : Nat)]), fun d hd => ?_, _, _, _, rfl, cl_get1 hS1, ?_⟩
  · refine ndIn_stepL rfl hS1 ?_
    rw [at_makersL]
    unfold mksT
    walk_at "ux"
    refine ⟨by rw [sizeLine_eq]; decide, ?_⟩
    have e : (((S.mks ++ [(x, l)]).length : Nat) : Int) - 1 = (S.mks.length : Nat) := by rw [List.length_append, List.length_singleton]; omega
    rw [e]
  walk_at "ux"
  refine ⟨by omega, ?_⟩
  rw [show (chainL A (addMk C s S x l) s (.nd (A.sa s).2.1 (.dkL od ws) (S.lifts.map fun p => .d (pr p.2)))).put [2, s, 1] (.nd (A.sa s).2.1 (.dk (ksN S.lifts)) (S.lifts.map fun p => .d (pr p.2))) = chainT A (addMk C s S x l) from cl_back (S := ⟨S.lifts, S.mks ++ [(x, l)]⟩) hS1]
  have ep : (ws.map fun kv => keyD kv.1).filterMap (fun d => some (PyData.tuple [d, .int (S.mks.length : Nat)])) = (prsOf S []).map prD := by
    unfold prsOf
    rw [List.flatMap_nil, List.append_nil, List.map_map]
    have e1 : ws.map (fun kv => keyD kv.1) = (ws.map (·.1)).map keyD := by rw [List.map_map]; rfl
    rw [e1, hws]
    unfold ksN
    rw [List.map_map, ← List.filterMap_eq_map, List.filterMap_filterMap, ← List.filterMap_eq_map]
    rfl
  rw [ep]
  rw [wWhileE_eq]
  refine ⟨fun E => ∃ (C' : Chn) (new : List (Nat × (List Nat × Nat))) (nt : List Task) (i : Nat) (z7 z8 z9 z10 z11 z12 z13 z14 z15 z16 : Sl), E = [.tr (.ref A.p) (chainT A C'), .tr (.ref (A.sa s).1) (.hl (.ref (A.sa s).1)), .fr (.tuple (nl x)), .fr (.int (l : Nat)), .ow ((prsOf S new).map prD), .ow (nt.map tkD), .fr (.int (i : Nat)), z7, z8, z9, z10, z11, z12, z13, z14, z15, z16, .un] ∧ GrI ev C s x l S C' new nt i,
    muAt 6 (C.n * (S.mks.length + 1)),
    ⟨_, _, _, _, _, _, _, _, _, _, _, _, _, _, rfl, GrI.start hC hS hx fx hl gn lo hev⟩, ?_⟩
  rintro E ⟨C', new, nt, i, z7, z8, z9, z10, z11, z12, z13, z14, z15, z16, rfl, hI⟩
  walk_at "ux"
  have ple := hI.prs_le
  by_cases hi : i < (prsOf S new).length
  · rw [decide_eq_true (by omega), if_pos rfl]
    obtain ⟨yk, hp⟩ : ∃ yk, (prsOf S new)[i]? = some yk := ⟨_, List.getElem?_eq_getElem hi⟩
    obtain ⟨y, k⟩ := yk
    obtain ⟨u, g, hu, hg, hy, u1, u2, u3, g1, g2, ul, gl, gm, um, eu, eg⟩ := hI.pair hp
    refine ⟨_, by rw [atI_cast, List.getElem?_map, hp]; rfl, ?_⟩
    unfold prD
    walk_at "ux"
    refine ⟨_, rfl, ?_⟩
    walk_at "ux"
    refine ndIn_step rfl hI.here ?_
    rw [at_lifts]
    refine lift_at hu fun j => ?_
    unfold pr tn
    walk_at "ux"
    refine ndIn_step rfl hI.here ?_
    rw [at_makers]
    unfold mksT
    refine ixT_nat (by rw [List.getElem?_map, List.getElem?_map, hg]; rfl) ?_
    unfold pr tn
    walk_at "ux"
    refine ⟨u.1, g.1, rfl, by rw [u1.len]; omega, fun a ha => by rw [g1.len]; exact u1.lt a ha, ?_⟩
    refine ⟨_, by rw [atI_cast, nl_get, Cl.getD_some (by rw [g1.len]; exact hy)]; rfl, ?_⟩
    refine ndIn_step rfl hI.here ?_
    rw [at_lifts, lift_in]
    cases hw : (S.lifts ++ new).lookup (g.1.getD y 0) with
    | none =>
      simp only [Option.isSome_none, Bool.not_false, if_true]
      refine ⟨ch_obQ (by decide +kernel), by rw [sizeLine_eq]; decide, ?_⟩
      rw [ch_lent rfl]
      walk_at "ux"
      have hI2 := hI.newLift he hp hu hg hw
      have cl : C'.lines.length ≤ C.lines.length + new.length := by
        obtain ⟨ls, e1, e2⟩ := hI.ln
        rw [e1, List.length_append, e2]; omega
      have nle := hI.len_le
      refine ⟨A, C', .behind u.2 g.2, rfl, by omega, ?_⟩
      walk_at "ux"
      refine ⟨by rw [sizeLine_eq]; decide, ndIn_step rfl (show (moreL C' [.behind u.2 g.2]).steps[s]? = _ from hI.here) ?_⟩
      rw [at_lifts]
      unfold liftT
      walk_at "ux"
      refine ⟨ksN_nodup (hI.ok.st s _ hI.here).nd, by unfold ksN; rw [List.length_map, List.length_append]; omega, ?_⟩
      rw [show (Sum.inl ((g.1.getD y 0 : Nat) : Int) : Key) = kN (g.1.getD y 0) from rfl, show PyData.tuple [tn (bh u.1 g.1), .int (C'.lines.length : Nat)] = pr (bh u.1 g.1, C'.lines.length) from rfl, lift_put hw]
      rw [show (chainT A (moreL C' [.behind u.2 g.2])).put [2, s, 1] (.nd (A.sa s).2.1 (.dk (ksN (S.lifts ++ new ++ [(g.1.getD y 0, (bh u.1 g.1, C'.lines.length))]))) ((S.lifts ++ new ++ [(g.1.getD y 0, (bh u.1 g.1, C'.lines.length))]).map fun p => .d (pr p.2))) = _ from ch_lifts (C := moreL C' [.behind u.2 g.2]) hI.here _]
      rw [List.append_assoc]
      walk_at "ux"
      refine ndIn_step rfl hI2.here ?_
      rw [at_makers]
      unfold mksT
      walk_at "ux"
      have pl2 := hI2.prs_le
      rw [prs_snoc, List.length_append, List.length_map, List.length_range] at pl2
      have big : C.n * (S.mks.length + 1) ≤ 60 * 4001 := Nat.mul_le_mul hn (by omega)
      have ml : (S.mks ++ [(x, l)]).length = S.mks.length + 1 := by rw [List.length_append]; rfl
      rw [ml]
      have rl : (rangeD 0 (((S.mks.length + 1 : Nat) : Int)).toNat).length = S.mks.length + 1 := by rw [range_len, Int.toNat_natCast]
      have ef : (prsOf S new).map (fun p => PyData.tuple [.int (p.1 : Nat), .int (p.2 : Nat)]) ++ (rangeD 0 (((S.mks.length + 1 : Nat) : Int)).toNat).filterMap (fun d => some (PyData.tuple [.int ((g.1.getD y 0 : Nat) : Int), d])) = (prsOf S (new ++ [(g.1.getD y 0, (bh u.1 g.1, C'.lines.length))])).map prD := by
        rw [prs_snoc, List.map_append, Int.toNat_natCast, range0]
        congr 1
        unfold nl
        rw [List.map_map, List.filterMap_map, ← List.filterMap_eq_map]
        rfl
      refine ⟨by omega, by omega, by rw [rl]; omega, fun d => some (.tuple [.int ((g.1.getD y 0 : Nat) : Int), d]), fun d _ => ⟨by rw [sizeLine_eq]; decide, rfl⟩, ?_, ?_⟩
      · refine Nat.le_trans (Nat.add_le_add_left (List.length_filterMap_le _ _) _) ?_
        rw [rl, sizeLine_eq]; omega
      · rw [ef]
        exact ⟨⟨_, _, _, _, _, _, _, _, _, _, _, _, _, _, rfl, hI2⟩, by unfold muAt; simp; omega⟩
    | some w =>
      simp only [Option.isSome_some, Bool.not_true, Bool.false_eq_true, if_false]
      walk_at "ux"
      obtain ⟨wy, w1, w2, w3, wl⟩ := hI.ok.lift hI.here hw
      rw [hI.n] at wy w1
      refine ndIn_step rfl hI.here ?_
      rw [at_lifts]
      refine lift_at hw fun j => ?_
      unfold pr
      walk_at "ux"
      refine ⟨_, rfl, shaped_tn _, shaped_tn _, ?_⟩
      by_cases e : bh u.1 g.1 = w.1
      · rw [show PyData.eqv (tn (bh u.1 g.1)) (tn w.1) = true from by rw [eqv_tn2]; exact decide_eq_true e]
        simp only [Bool.not_true, Bool.false_eq_true, if_false]
        walk_at "ux"
        exact ⟨⟨_, _, _, _, _, _, _, _, _, _, _, _, _, _, rfl, hI.hit hp hu hg hw e⟩, by unfold muAt; simp; omega⟩
      · rw [show PyData.eqv (tn (bh u.1 g.1)) (tn w.1) = false from by rw [eqv_tn2]; exact decide_eq_false e]
        simp only [Bool.not_false, if_true]
        refine ndIn_step rfl hI.here ?_
        rw [at_lifts]
        refine lift_at hw fun j => ?_
        unfold pr tn
        walk_at "ux"
        have big : C.n * (S.mks.length + 1) ≤ 60 * 4001 := Nat.mul_le_mul hn (by omega)
        have ntl := hI.ntl
        refine ⟨by rw [sizeLine_eq]; omega, ndIn_step rfl hI.here ?_⟩
        rw [at_place]
        walk_at "ux"
        refine ⟨C.n, w.1, rfl, w1, by omega, ?_⟩
        refine ⟨bh u.1 g.1, bk w.1, rfl, by rw [bh_len, u1.len]; omega, fun a ha => by rw [bk_len, w1.len]; exact (u1.bh g1).lt a ha, ?_⟩
        refine ⟨by rw [sizeLine_eq]; decide, by rw [sizeLine_eq]; decide, ⟨_, _, nt ++ [(s + 1, resid u.1 g.1 w.1, [u.2, g.2, w.2])], _, _, _, _, _, _, _, _, _, _, _, by rw [List.map_append]; rfl, hI.task hp hu hg hw⟩, by unfold muAt; simp; omega⟩
  · rw [decide_eq_false (by omega)]
    walk_at "ux"
    exact q new C' nt (hI.fin (by omega)) (by have := hI.ntl; have := hI.ile; omega) hI.lo hI.tl

theorem moreL_nil (C : Chn) : moreL C [] = C := by unfold moreL; rw [List.append_nil]
theorem moreL_two (C : Chn) (a b : List Ln) : moreL (moreL C a) b = moreL C (a ++ b) := by unfold moreL; rw [List.append_assoc]
theorem moreL_len (C : Chn) (a : List Ln) : (moreL C a).lines.length = C.lines.length + a.length := by unfold moreL; rw [List.length_append]
def g_Chain_line_of : CtS := fun as KS KX => ∃ (A : CA) (C : Chn) (t : Task) (ev : List Ln → Nat → List Nat → Prop), as = [.tr (.ref A.p) (chainT A C), .fr (.tuple (nl t.2.2))] ∧ C.lines.length + 3 < sizeLine ∧ EvL ev ∧ TLn ev C.lines t ∧ (∀ a ∈ t.2.2, a < C.lines.length) ∧
  ∀ ls l, ls.length ≤ 3 → l < (moreL C ls).lines.length → ev (moreL C ls).lines l t.2.1 → KS (.fr (.int (l : Nat))) [.tr (.ref A.p) (chainT A (moreL C ls))]
theorem ok_Chain_line_of (T : Tx K mg) {f : Addr} {fd : FuncData} (F : Fun K "line_of" "Chain.line_of" s_Chain_line_of f fd) : FnOk P w K mg base (L2.CX P w) 2 f fd ["self", "made"] (spS 2 [0] g_Chain_line_of K) := by
  obtain ⟨f_Chain_noted, fd_Chain_noted, F_Chain_noted, mt_Chain_noted⟩ := T.d_Chain_noted
  have G_Chain_noted := ok_Chain_noted (P := P) (w := w) (base := base) T F_Chain_noted
  have b_Chain_noted := bd_Chain_noted F_Chain_noted
  have k_Chain_noted := F_Chain_noted.kp
  refine fn_mkS _ _ _ F sc_Chain_line_of rfl (by decide) fun cdv A outer s H E hr => ?_
  refine ⟨_, (ts_cons (t_if (et_pure (jt_eq hr.units (j_len T.n_len (j_fr (pv 1))) j_int)) (ts_one (t_ret (ej_fz (j_ixA (j_fr (pv 1)) j_int)))) ts_nil)
      (ts_cons (t_set (i := 2) sc_Chain_line_of.nd (ej_meth (gs := [.val]) (g0 := .lent 0 []) (cn := "Chain") G_Chain_noted (hr.mono (by decide)) T.cl_Chain mt_Chain_noted b_Chain_noted (fun _ => passAt cxD_takes _) (ej_pl (pj_var (pv 0))) (ea_cons (ej_fz (j_tup (ja_cons j_str (ja_cons (j_ixA (j_fr (pv 1)) j_int) (ja_cons (j_ixA (j_fr (pv 1)) j_int) ja_nil))))) ea_nil)))
      (ts_cons (t_set (i := 3) sc_Chain_line_of.nd (ej_meth (gs := [.val]) (g0 := .lent 0 []) (cn := "Chain") G_Chain_noted (hr.mono (by decide)) T.cl_Chain mt_Chain_noted b_Chain_noted (fun _ => passAt cxD_takes _) (ej_pl (pj_var (pv 0))) (ea_cons (ej_fz (j_tup (ja_cons j_str (ja_cons (j_ixA (j_fr (pv 1)) j_int) ja_nil)))) ea_nil)))
      (ts_one (t_ret (ej_meth (gs := [.val]) (g0 := .lent 0 []) (cn := "Chain") G_Chain_noted (hr.mono (by decide)) T.cl_Chain mt_Chain_noted b_Chain_noted (fun _ => passAt cxD_takes _) (ej_pl (pj_var (pv 0))) (ea_cons (ej_fz (j_tup (ja_cons j_str (ja_cons (j_fr (pv 2)) (ja_cons (j_fr (pv 3)) ja_nil))))) ea_nil))))))), ?_⟩
  rintro as KS KX - ⟨A, C, t, ev, rfl, hL, he, ht, ha, q⟩
  rcases ht with ⟨a, e, h1⟩ | ⟨a, b, c, u, g, w, e, h1, h2, h3, h4⟩
  · rw [e] at ha ⊢
    unfold nl
    walk_at "ux"
    rw [if_pos (by decide)]
    refine ⟨_, rfl, ?_⟩
    have := q [] a (by decide) (by rw [moreL_nil]; exact ha a List.mem_cons_self) (by rw [moreL_nil]; exact h1)
    rwa [moreL_nil] at this
  · rw [e] at ha ⊢
    unfold nl
    walk_at "ux"
    rw [if_neg (by decide)]
    refine ⟨ch_obQ (by decide +kernel), _, rfl, _, rfl, by rw [sizeLine_eq]; decide, ?_⟩
    rw [ch_lent rfl]
    walk_at "ux"
    refine ⟨A, C, .behind a b, rfl, by omega, ?_⟩
    walk_at "ux"
    refine ⟨ch_obQ (by decide +kernel), _, rfl, by rw [sizeLine_eq]; decide, ?_⟩
    rw [ch_lent rfl]
    walk_at "ux"
    refine ⟨A, moreL C [.behind a b], .back c, rfl, by rw [moreL_len]; show C.lines.length + 1 < sizeLine; omega, ?_⟩
    walk_at "ux"
    refine ⟨ch_obQ (by decide +kernel), by rw [sizeLine_eq]; decide, ?_⟩
    rw [ch_lent rfl]
    walk_at "ux"
    have l1 : (moreL C [.behind a b]).lines.length = C.lines.length + 1 := moreL_len C _
    have l2 : (moreL (moreL C [.behind a b]) [.back c]).lines.length = C.lines.length + 2 := by rw [moreL_len, l1]; rfl
    refine ⟨A, moreL (moreL C [.behind a b]) [.back c], .behind C.lines.length (moreL C [.behind a b]).lines.length, rfl, by rw [l2]; omega, ?_⟩
    walk_at "ux"
    rw [l2]
    have := q ([.behind a b] ++ [.back c] ++ [.behind C.lines.length (moreL C [.behind a b]).lines.length]) (C.lines.length + 2) (by simp) (by rw [moreL_len]; show C.lines.length + 2 < C.lines.length + 3; omega) (by
      rw [← moreL_two, ← moreL_two, h4]
      have e1 : ev (moreL C [.behind a b]).lines C.lines.length (bh u g) := he.bh h1 h2
      have e2 : ev (moreL (moreL C [.behind a b]) [.back c]).lines (moreL C [.behind a b]).lines.length (bk w) := he.bk (he.mono h3)
      have e3 := he.bh (he.mono (ls := [.back c]) e1) e2
      rw [← l2]
      exact e3)
    rwa [← moreL_two, ← moreL_two] at this

def muAdd (E : List Sl) : Nat := (216060 - (match E[0]? with | some (Sl.tr _ t) => muT t | _ => 0)) * 16777216 + (match E[3]? with | some (Sl.ow ds) => ds.length | _ => 0)
theorem muAdd_eq {A : CA} {C : Chn} {y1 y2 : Sl} {ds : List D} {r : List Sl} {v : V} : muAdd (.tr v (chainT A C) :: y1 :: y2 :: .ow ds :: r) = (216060 - Sm C) * 16777216 + ds.length := by
  show (216060 - muT (chainT A C)) * 16777216 + ds.length = _
  rw [muT_ch]
def g_Chain_add : CtS := fun as KS KX => ∃ (A : CA) (C : Chn) (x : List Nat) (l B : Nat) (ev : List Ln → Nat → List Nat → Prop), as = [.tr (.ref A.p) (chainT A C), .fr (tn x), .fr (.int (l : Nat))] ∧
  C.n ≤ 60 ∧ GI C [] ∧ IsT C.n x ∧ l < C.lines.length ∧ EvL ev ∧ LvOk ev C ∧ ev C.lines l x ∧ C.lines.length ≤ Wt C + B ∧ B ≤ 10000000 ∧
  ∀ C', Added ev C x B C' → KS (.fr .none) [.tr (.ref A.p) (chainT A C')]
theorem ok_Chain_add (T : Tx K mg) {f : Addr} {fd : FuncData} (F : Fun K "add" "Chain.add" s_Chain_add f fd) : FnOk P w K mg base (L2.CX P w) 3 f fd ["self", "one", "line"] (spS 3 [0] g_Chain_add K) := by
  obtain ⟨f_Chain_rest, fd_Chain_rest, F_Chain_rest, mt_Chain_rest⟩ := T.d_Chain_rest
  have G_Chain_rest := ok_Chain_rest (P := P) (w := w) (base := base) T F_Chain_rest
  have b_Chain_rest := bd_Chain_rest F_Chain_rest
  have k_Chain_rest := F_Chain_rest.kp
  obtain ⟨f_Chain_grown, fd_Chain_grown, F_Chain_grown, mt_Chain_grown⟩ := T.d_Chain_grown
  have G_Chain_grown := ok_Chain_grown (P := P) (w := w) (base := base) T F_Chain_grown
  have b_Chain_grown := bd_Chain_grown F_Chain_grown
  have k_Chain_grown := F_Chain_grown.kp
  obtain ⟨f_Chain_line_of, fd_Chain_line_of, F_Chain_line_of, mt_Chain_line_of⟩ := T.d_Chain_line_of
  have G_Chain_line_of := ok_Chain_line_of (P := P) (w := w) (base := base) T F_Chain_line_of
  have b_Chain_line_of := bd_Chain_line_of F_Chain_line_of
  have k_Chain_line_of := F_Chain_line_of.kp
  refine fn_mkS _ _ _ F sc_Chain_add rfl (by decide) fun cdv A outer s H E hr => ?_
  refine ⟨_, (ts_cons (t_lift (s_setO (i := 3) sc_Chain_add.nd (j_lst (ja_cons (j_tup (ja_cons j_int (ja_cons (j_fr (pv 1)) (ja_cons (j_tup (ja_cons (j_fr (pv 2)) ja_nil)) ja_nil)))) ja_nil))))
      (ts_one (t_while cxD_own (et_pure (jt_gt (j_len T.n_len (j_rd (pv 3))) j_int)) (ts_cons (t_setP (pt := (.many [4, 5, 6])) (ej_pop (pv 3)) (pg_tup rfl (pgs_cons (pg_name (i := 4) sc_Chain_add.nd rfl (by first | exact Or.inl rfl | exact Or.inr rfl)) (pgs_cons (pg_name (i := 5) sc_Chain_add.nd rfl (by first | exact Or.inl rfl | exact Or.inr rfl)) (pgs_cons (pg_name (i := 6) sc_Chain_add.nd rfl (by first | exact Or.inl rfl | exact Or.inr rfl)) pgs_nil)))))
      (ts_one (t_if (et_cmp op_lt odB (ej_ixT (ej_meth (gs := [.val, .val]) (g0 := .lent 0 []) (cn := "Chain") G_Chain_rest (hr.mono (by decide)) T.cl_Chain mt_Chain_rest b_Chain_rest (fun _ => passAt cxD_takes _) (ej_pl (pj_var (pv 0))) (ea_cons (ej_fz (j_fr (pv 5))) (ea_cons (ej_fz (j_fr (pv 4))) ea_nil))) j_int) ((j_pd (pj_at (pj_var (pv 0))))).rd (nomark _)) (ts_one (t_ext (i := 3) (pv 3) (ej_meth (gs := [.val, .val, .val]) (g0 := .lent 0 []) (cn := "Chain") G_Chain_grown (hr.mono (by decide)) T.cl_Chain mt_Chain_grown b_Chain_grown (fun _ => passAt cxD_takes _) (ej_pl (pj_var (pv 0))) (ea_cons (ej_pl (pj_ix (pj_at (pj_var (pv 0))) (j_fr (pv 4)))) (ea_cons (ej_fz (j_fr (pv 5))) (ea_cons (ej_meth (gs := [.val]) (g0 := .lent 0 []) (cn := "Chain") G_Chain_line_of (hr.mono (by decide)) T.cl_Chain mt_Chain_line_of b_Chain_line_of (fun _ => passAt cxD_takes _) (ej_pl (pj_var (pv 0))) (ea_cons (ej_fz (j_fr (pv 6))) ea_nil)) ea_nil)))))) ts_nil)))))), ?_⟩
  rintro as KS KX - ⟨A, C, x, l, B, ev, rfl, hn, hG, hx, hl, he, lo, hev, lw, hB, q⟩
  unfold tn
  walk_at "ux"
  refine ⟨by rw [sizeLine_eq]; decide, by rw [sizeLine_eq]; decide, by rw [sizeLine_eq]; decide, ?_⟩
  rw [wWhileE_eq]
  refine ⟨fun E => ∃ (C' : Chn) (tks : List Task) (z4 z5 z6 : Sl), E = [.tr (.ref A.p) (chainT A C'), .fr (.tuple (nl x)), .fr (.int (l : Nat)), .ow (tks.map tkD), z4, z5, z6] ∧ AddI ev C x B C' tks, muAdd, ⟨C, [(0, x, [l])], _, _, _, rfl, AddI.start hG hx hl lo hev lw⟩, ?_⟩
  rintro E ⟨C', tks, z4, z5, z6, rfl, hI⟩
  walk_at "ux"
  have tl := hI.len hn
  have h60 : (16777215 : Nat) < sizeLine := by rw [sizeLine_eq]; decide
  rcases List.eq_nil_or_concat tks with e | ⟨L, t, e⟩
  · subst e
    rw [if_neg (by decide)]
    exact q C' hI.fin
  · rw [List.concat_eq_append] at e
    subst e
    have ll : (L ++ [t]).length = L.length + 1 := by rw [List.length_append]; rfl
    rw [decide_eq_true (by omega), if_pos rfl]
    obtain ⟨s, y, m⟩ := t
    refine ⟨_, by rw [List.map_append, ll, Nat.add_sub_cancel, List.getElem?_append_right (by rw [List.length_map]; exact Nat.le_refl _), List.length_map, Nat.sub_self]; rfl, ?_⟩
    have edl : (List.map tkD (L ++ [(s, y, m)])).dropLast = List.map tkD L := by rw [List.map_append, List.map_singleton, List.dropLast_concat]
    rw [edl]
    rw [show tkD (s, y, m) = PyData.tuple [.int (s : Nat), tn y, .tuple (nl m)] from rfl]
    walk_at "ux"
    have tok := hI.gi.tok _ (List.mem_append_right _ List.mem_cons_self)
    have tln := hI.tl _ (List.mem_append_right _ List.mem_cons_self)
    have hs : s ≤ C'.n := tok.le
    have en := hI.n
    refine ⟨ch_obQ (by decide +kernel), ?_⟩
    rw [ch_lent rfl]
    walk_at "ux"
    refine ⟨A, C', y, s, rfl, hI.gi.ok, by omega, tok.is, hs, ?_⟩
    walk_at "ux"
    refine ⟨_, rfl, ?_⟩
    rw [at_many]
    walk_at "ux"
    have wt := hI.gi.wt (by omega)
    have lw' := hI.lw
    have sm := hI.gi.sm (by omega)
    by_cases hsf : Sf C' s y
    · have e1 : (rstC C' s y).1 = C'.n := hsf
      rw [decide_eq_false (by omega)]
      walk_at "ux"
      exact ⟨⟨C', L, _, _, _, rfl, hI.pop hsf⟩, by rw [muAdd_eq, muAdd_eq, List.length_map, List.length_map, ll]; omega⟩
    · have e1 := rstC_le hI.gi.ok hs (x := y)
      have hlt : (rstC C' s y).1 < C'.n := Nat.lt_of_le_of_ne e1 hsf
      rw [decide_eq_true (by omega)]
      walk_at "ux"
      have hs2 : s < C'.n := by
        rcases Nat.lt_or_eq_of_le hs with h | h
        · exact h
        · exact absurd (by rw [h]; exact Sf_end hI.gi.ok) hsf
      obtain ⟨S, hS⟩ := hI.gi.ok.get hs2
      refine ⟨ch_obQ (by decide +kernel), ?_⟩
      rw [at_steps]
      refine ixT_nat (stepsT_get hS) ?_
      walk_at "ux"
      refine ⟨ch_obQ (by decide +kernel), ?_⟩
      rw [ch_lent rfl]
      walk_at "ux"
      refine ⟨A, C', (s, y, m), ev, rfl, by rw [sizeLine_eq]; omega, he, tln, tok.ll, fun ls3 lv hl3 hlv hev3 => ?_⟩
      walk_at "ux"
      rw [show rawS (chainT A C') = rawS (chainT A (moreL C' ls3)) from rfl, ch_lent rfl]
      walk_at "ux"
      have gl := hI.gi.lines ls3
      have mk := hI.gi.mks_le hS
      have n2 : C'.n * C'.n ≤ 60 * 60 := Nat.mul_le_mul (by omega) (by omega)
      refine ⟨A, moreL C' ls3, s, S, y, lv, ev, rfl, gl.ok, by show C'.n ≤ 60; omega, hS, tok.is, tok.fx, hlv, gl.gen.lf s S hS, by omega, by rw [moreL_len, sizeLine_eq]; omega, he, hI.lo.lines he ls3, hev3, fun new C2 nt hg hnt hlo htl => ?_⟩
      walk_at "ux"
      trace_state
      obtain ⟨g1, g2⟩ := hI.grow he hsf hl3 hg (by rw [← en]; exact hnt) hlo htl
      have l2 := g1.len hn
      rw [List.length_append] at l2
      exact ⟨by omega, ⟨C2, L ++ nt, _, _, _, by rw [List.map_append], g1⟩, by
        have sm2 := g1.gi.sm (by rw [g1.n]; exact hn)
        rw [muAdd_eq, muAdd_eq, g2]
        simp only [List.length_append, List.length_map, ll]
        omega⟩

theorem nd_ch {A : CA} {C : Chn} {k : Addr → Prop} : ndS (chainT A C) k = k A.p := ndS_nd
theorem lookB_ok {n : Nat} {ts : List (List Nat)} (h1 : 1 ≤ n) (hn : n ≤ 60) (ht : ∀ t ∈ ts, IsT n t) (hl : ts.length ≤ 200) : lookB (.int (n : Nat)) (.list (tl ts)) = true := by
  show (decide ((1 : Int) ≤ (n : Nat)) && decide (((n : Nat) : Int) ≤ 60) && decide ((tl ts).length ≤ 200) && (tl ts).all fun x => ofB x (n : Nat)) = true
  have e1 : decide ((1 : Int) ≤ (n : Nat)) = true := decide_eq_true (by omega)
  have e2 : decide (((n : Nat) : Int) ≤ 60) = true := decide_eq_true (by omega)
  have e3 : decide ((tl ts).length ≤ 200) = true := decide_eq_true (by unfold tl; rw [List.length_map]; exact hl)
  rw [e1, e2, e3]
  simp only [Bool.and_self, Bool.true_and]
  rw [List.all_eq_true]
  intro d hd
  unfold tl at hd
  obtain ⟨t, hm, rfl⟩ := List.mem_map.mp hd
  unfold ofB
  rw [turnB_tn (ht t hm) h1 hn]
  show (true && decide (((nl t).length : Int) = (n : Nat))) = true
  rw [nl_len, (ht t hm).len]
  simp
section
variable {p : Addr} {a b : D} {X : Tr} {k : Nat → Tr → Prop} {A : CA} {C : Chn}
abbrev g3 : List Str := ["made", "many", "chain"]
theorem g3_made : atT (.nd p (.ob "Group" g3) [.d a, .d b, X]) "made" k = k 0 (.d a) := atT_eq (by decide +kernel) rfl
theorem g3_chain : atT (.nd p (.ob "Group" g3) [.d a, .d b, X]) "chain" k = k 2 X := atT_eq (by decide +kernel) rfl
theorem g3_obQ {mn : Str} (h : chainF.contains mn = false) : obQ ((Tr.nd p (.ob "Group" g3) [.d a, .d b, chainT A C]).get [2]) (rawS (chainT A C)) "Chain" mn := by
  have e : (Tr.nd p (.ob "Group" g3) [.d a, .d b, chainT A C]).get [2] = some (chainT A C) := by
    rw [getS]
    show (chainT A C).get [] = _
    rw [get0]
  rw [e]
  exact ch_obQ h
theorem g3_lent {gs : List Ag} {as E : List Sl} {i : Nat} {v : V} {k2 : List Sl → List Sl → Prop} (h : E[i]? = some (.tr v (.nd p (.ob "Group" g3) [.d a, .d b, chainT A C]))) :
    lendOut (.lent i [2] :: gs) (rawS (chainT A C) :: as) E k2 = lendOut gs as (E.set i (.tr v (.nd p (.ob "Group" g3) [.d a, .d b, .hl (.ref A.p)]))) fun as' E' => k2 (.tr (.ref A.p) (chainT A C) :: as') E' := by
  show lendOut (.lent i [2] :: gs) (.tr (.ref A.p) (.hl (.ref A.p)) :: as) E k2 = _
  have e : (Tr.nd p (.ob "Group" g3) [.d a, .d b, chainT A C]).get [2] = some (chainT A C) := by
    rw [getS]
    show (chainT A C).get [] = _
    rw [get0]
  rw [lo_lent, h, trS_tr, e]
  unfold chainT
  rw [ndQ_nd, putS]
  show lendOut _ _ (List.set E i (.tr v (.nd p _ [.d a, .d b, (Tr.nd A.p _ _).put [] (.hl (.ref A.p))]))) _ = _
  rw [put0]
end
def g_Group___init__ : CtS := fun as KS KX => ∃ (p : Addr) (d e : D), as = [.tr (.ref p) (.nd p (.ob "Group" []) []), .fr d, slOf .rd e] ∧
  ((lookB d e = false ∧ KX "NoGroup" [.tr (.ref p) (.nd p (.ob "Group" []) [])]) ∨
   ∃ (n : Nat) (ts : List (List Nat)) (ev : List Ln → Nat → List Nat → Prop), d = .int (n : Nat) ∧ e = .list (tl ts) ∧ 1 ≤ n ∧ n ≤ 60 ∧ (∀ t ∈ ts, IsT n t) ∧ ts.length ≤ 200 ∧ EvL ev ∧ ev [.still] 0 (List.range n) ∧ (∀ L k t, ts[k]? = some t → ev (L ++ [.told k]) L.length t) ∧
   ∀ C, C.n = n → GI C [] → (∀ y, Gn n (MkOf C 0) y ↔ Gn n (· ∈ ts) y) → LvOk ev C → C.lines.length ≤ Wt C + 1 + ts.length →
     KS (.fr .none) [.tr (.ref p) (.nd p (.ob "Group" ["made", "many", "chain", "steps"]) ([.list (tl ts), .int (n : Nat), chainD C, .list (bigD C)].map Tr.d))])
theorem ok_Group___init__ (T : Tx K mg) {f : Addr} {fd : FuncData} (F : Fun K "__init__" "Group.__init__" s_Group___init__ f fd) : FnOk P w K mg base (L2.CX P w) 6 f fd ["self", "many", "makers"] (spS 3 [0] g_Group___init__ K) := by
  obtain ⟨f_looked_makers, fd_looked_makers, F_looked_makers, m_looked_makers⟩ := T.d_looked_makers
  have G_looked_makers := ok_looked_makers (P := P) (w := w) (base := base) T F_looked_makers
  have b_looked_makers := bd_looked_makers F_looked_makers
  have k_looked_makers := F_looked_makers.kp
  obtain ⟨f_Chain___init__, fd_Chain___init__, F_Chain___init__, mk_Chain⟩ := T.d_Chain___init__
  have G_Chain___init__ := ok_Chain___init__ (P := P) (w := w) (base := base) T F_Chain___init__
  have b_Chain___init__ := bd_Chain___init__ F_Chain___init__
  have k_Chain___init__ := F_Chain___init__.kp
  obtain ⟨f_Chain_add, fd_Chain_add, F_Chain_add, mt_Chain_add⟩ := T.d_Chain_add
  have G_Chain_add := ok_Chain_add (P := P) (w := w) (base := base) T F_Chain_add
  have b_Chain_add := bd_Chain_add F_Chain_add
  have k_Chain_add := F_Chain_add.kp
  obtain ⟨f_Chain_noted, fd_Chain_noted, F_Chain_noted, mt_Chain_noted⟩ := T.d_Chain_noted
  have G_Chain_noted := ok_Chain_noted (P := P) (w := w) (base := base) T F_Chain_noted
  have b_Chain_noted := bd_Chain_noted F_Chain_noted
  have k_Chain_noted := F_Chain_noted.kp
  refine fn_mkS _ _ _ F sc_Group___init__ rfl (by decide) fun cdv A outer s H E hr => ?_
  refine ⟨_, (ts_cons (t_fld (cn := "Group") (pj_var (pv 0)) (ej_fz ((j_call (ms := [.rd, .rd]) (msd := []) (ds0 := []) G_looked_makers (hr.mono (by decide)) (by rfl) m_looked_makers k_looked_makers b_looked_makers .nil (fun _ _ => .nil) (fun _ => passAt cxD_takes _) (ja_cons ((j_fr (pv 1))).rd (ja_cons ((j_rd (pv 2))).rd ja_nil)))).fz) T.na_Group_made)
      (ts_cons (t_fld (cn := "Group") (pj_var (pv 0)) (ej_fz (j_fr (pv 1))) T.na_Group_many)
      (ts_cons (t_fld (cn := "Group") (pj_var (pv 0)) (ej_new (jn_make (ms := [.fz]) (cn := "Chain") mk_Chain T.io_Chain G_Chain___init__ (hr.mono (by decide)) (by rfl) T.mg_Chain b_Chain___init__ (fun _ => passAt cxD_takes _) (ja_cons (j_fr (pv 1)) ja_nil))) T.na_Group_chain)
      (ts_cons (t_for (pt := (.one 3)) cxD_own rfl (i_rg1 T.n_range (j_len T.n_len (j_pd (pj_at (pj_var (pv 0)))))) (pg_name (i := 3) sc_Group___init__.nd rfl (by first | exact Or.inl rfl | exact Or.inr rfl)) (ts_one (t_expr (ej_meth (gs := [.val, .val]) (g0 := .lent 0 [2]) (cn := "Chain") G_Chain_add (hr.mono (by decide)) T.cl_Chain mt_Chain_add b_Chain_add (fun _ => passAt cxD_takes _) (ej_pl (pj_at (pj_var (pv 0)))) (ea_cons (ej_fz (j_ixA (j_pd (pj_at (pj_var (pv 0)))) (j_fr (pv 3)))) (ea_cons (ej_meth (gs := [.val]) (g0 := .lent 0 [2]) (cn := "Chain") G_Chain_noted (hr.mono (by decide)) T.cl_Chain mt_Chain_noted b_Chain_noted (fun _ => passAt cxD_takes _) (ej_pl (pj_at (pj_var (pv 0)))) (ea_cons (ej_fz (j_tup (ja_cons j_str (ja_cons (j_fr (pv 3)) ja_nil)))) ea_nil)) ea_nil))))))
      (ts_one (t_frz 0 [2] (t_fld (cn := "Group") (pj_var (pv 0)) (ej_fz ((j_lc (pt := (.one 4)) rfl sc_Group___init__.nd (i_list (j_at (j_pd (pj_at (pj_var (pv 0)))))) (blkOk_by (own := [("step", 4)]) (N := ["self", "many", "makers", "k", "step"]) (sc := defScope s_Group___init__) (by decide +kernel)) (fun _ _ _ _ _ => (pg_name (i := 4) sc_Group___init__.nd rfl (by first | exact Or.inl rfl | exact Or.inr rfl))) (fun _ _ _ _ _ => (jts_one (jt_gt (j_lenDD T.n_len (j_at (j_fr (pv 4)))) j_int))) (fun _ _ _ _ _ => (j_fr (pv 4))) (by decide))).fz) T.na_Group_steps))))))), ?_⟩
  rintro as KS KX - ⟨p, d, e, rfl, q⟩
  rcases q with ⟨h, q⟩ | ⟨n, ts, ev, rfl, rfl, h1, hn, ht, hl, he, h0, htold, q⟩
  · cases e <;> (walk_at "ux"; exact ⟨d, _, rfl, .inr ⟨h, q⟩⟩)
  walk_at "ux"
  refine ⟨_, _, rfl, ?_⟩
  refine .inl ⟨lookB_ok h1 hn ht hl, by decide, show (1 : Nat) < 1000 by decide, fun pc => ⟨pc, n, rfl, by omega, fun A eA => ⟨rfl, _, rfl, ?_⟩⟩⟩
  subst eA
  rw [nd_ch]
  refine ⟨show (2 : Nat) < 1000 by decide, ?_⟩
  show wForE _ _ _ _ [.tr (.ref p) (.nd p (.ob "Group" ["made", "many", "chain"]) [.d (.list (tl ts)), .d (.int (n : Nat)), chainT A (chn0 n)]), .fr (.int (n : Nat)), .bo (tl ts), .un, .un]
  rw [wForE_eq]
  walk_at "ux"
  rw [g3_made, dT_d]
  walk_at "ux"
  have etl : (tl ts).length = ts.length := by unfold tl; rw [List.length_map]
  refine ⟨by rw [etl]; omega, by omega, ?_⟩
  rw [etl, Int.toNat_natCast, range0]
  refine ⟨fun i E => ∃ (C : Chn) (y z : Sl), E = [.tr (.ref p) (.nd p (.ob "Group" g3) [.d (.list (tl ts)), .d (.int (n : Nat)), chainT A C]), .fr (.int (n : Nat)), .bo (tl ts), y, z] ∧ C.n = n ∧ GI C [] ∧ (∀ y, Gn n (MkOf C 0) y ↔ Gn n (· ∈ ts.take i) y) ∧ LvOk ev C ∧ C.lines.length ≤ Wt C + 1 + i,
    ⟨chn0 n, _, _, rfl, rfl, chn0_GI n, fun y => ?_, chn0_lo h0, Nat.le_add_left 1 _⟩, ?_, ?_⟩
  · rw [List.take_zero]
    exact ⟨fun h => h.mono fun g hg => (chn0_mk hg).elim, fun h => h.mono fun g hg => nomatch hg⟩
  · rintro i d E hi ⟨C, y, z, rfl, en, hG, hgn, lo, lw⟩
    obtain ⟨x, hx, rfl⟩ := nl_at hi
    walk_at "ux"
    rw [g3_chain]
    refine ⟨ch_obQ (by decide +kernel), ?_⟩
    rw [g3_made, dT_d]
    walk_at "ux"
    have hi' : i < ts.length := by
      have := (List.getElem?_eq_some_iff.mp hx).1
      rwa [List.length_range] at this
    rw [List.getElem?_range hi'] at hx
    cases hx
    refine ⟨_, tl_atI hi', ?_⟩
    rw [g3_chain]
    refine ⟨ch_obQ (by decide +kernel), by rw [sizeLine_eq]; decide, ?_⟩
    rw [g3_lent rfl]
    walk_at "ux"
    have wt := hG.wt (by omega)
    refine ⟨A, C, .told i, rfl, by rw [sizeLine_eq]; omega, ?_⟩
    walk_at "ux"
    rw [show rawS (chainT A C) = rawS (chainT A (moreL C [.told i])) from rfl, g3_lent rfl]
    walk_at "ux"
    have eg : ts[i]? = some (ts.getD i []) := by rw [List.getD_eq_getElem?_getD, List.getElem?_eq_getElem hi']; rfl
    have hxT := ht _ (List.mem_of_getElem? eg)
    refine ⟨A, moreL C [.told i], ts.getD i [], C.lines.length, 1 + (i + 1), ev, rfl, by show C.n ≤ 60; omega, hG.lines [.told i], by show IsT C.n _; rw [en]; exact hxT, by rw [moreL_len]; show C.lines.length < C.lines.length + 1; omega, he, lo.lines he _, htold C.lines i _ eg, by rw [moreL_len]; show C.lines.length + 1 ≤ Wt C + (1 + (i + 1)); omega, by omega, fun C' hA => ?_⟩
    walk_at "ux"
    refine ⟨C', _, _, rfl, hA.n.trans en, hA.gi, fun y => ?_, hA.lo, by have := hA.lw; omega⟩
    have e1 : ts.take (i + 1) = ts.take i ++ [ts.getD i []] := by rw [List.take_add_one, eg]; rfl
    rw [e1]
    have := hA.gn (ts := ts.take i) (hG.lines _) (fun t hm => by show IsT C.n t; rw [en]; exact ht t (List.mem_of_mem_take hm)) (by show IsT C.n _; rw [en]; exact hxT) (fun y => by have := hgn y; rw [← en] at this; exact this) y
    rw [show (moreL C [.told i]).n = n from en] at this
    exact this
  · rintro E ⟨C, y, z, rfl, en, hG, hgn, lo, lw⟩
    walk_at "ux"
    refine ⟨_, _, rfl, chain_dat, ?_⟩
    rw [g3_chain]
    walk_at "ux"
    refine ⟨_, _, _, rfl, rfl, _, rfl, by rw [List.length_mapIdx, hG.ok.len, sizeLine_eq]; omega, bigF, fun d hd => ?_, show (3 : Nat) < 1000 by decide, ?_⟩
    · obtain ⟨s, hs, rfl⟩ := List.mem_mapIdx.mp hd
      unfold stepD
      rw [atD_obj]
      refine ⟨_, rfl, _, rfl, ?_⟩
      show if decide (1 < (((C.steps[s].lifts.map fun p => (kN p.1, pr p.2)).length : Nat) : Int)) = true then bigF (stepD s C.steps[s]) = some (stepD s C.steps[s]) else bigF (stepD s C.steps[s]) = none
      rw [List.length_map]
      have e1 : ∀ S : Stp, bigF (stepD s S) = if 1 < S.lifts.length then some (stepD s S) else none := fun S => by unfold bigF; rw [liftN_step]
      have e2 := e1 (C.steps[s])
      by_cases h : 1 < (C.steps[s]).lifts.length
      · rw [decide_eq_true (by omega), if_pos rfl, e2, if_pos h]
      · rw [decide_eq_false (by omega), if_neg (by decide), e2, if_neg h]
    · rw [nl_len, List.length_range, List.take_length] at hgn
      rw [nl_len, List.length_range] at lw
      exact q C en hG hgn lo lw

def g__law_refused : Ct := fun ds KD _ => ∃ (d e : D), ds = [d, e] ∧ lookB d e = false ∧ KD (.bool true)
theorem ok__law_refused (T : Tx K mg) {f : Addr} {fd : FuncData} (F : Fun K "_law_refused" "_law_refused" s__law_refused f fd) : FnOk P w K mg base (L2.CX P w) 8 f fd ["_law_many", "_law_makers"] (spD [.fz, .rd] .fz g__law_refused K) := by
  obtain ⟨f_Group___init__, fd_Group___init__, F_Group___init__, mk_Group⟩ := T.d_Group___init__
  have G_Group___init__ := ok_Group___init__ (P := P) (w := w) (base := base) T F_Group___init__
  have b_Group___init__ := bd_Group___init__ F_Group___init__
  have k_Group___init__ := F_Group___init__.kp
  refine fn_mk _ _ _ F sc__law_refused rfl (by decide) fun cdv A outer s H E hr => ?_
  refine ⟨_, (ss_cons (s_set (i := 2) sc__law_refused.nd j_non)
      (ss_cons (s_try sc__law_refused.nd cxD_takes (fun W pn xe tk po => (ss_one (s_expr (j_makeF (ms := [.fz, .rd]) (cn := "Group") mk_Group T.io_Group G_Group___init__ (hr.mono (by decide)) (by rfl) T.mg_Group b_Group___init__ .nil (fun _ => .nil) (fun _ => passAt tk _) (ja_cons (j_fr (pv 0)) (ja_cons ((j_rd (pv 1))).rd ja_nil)))))) (HdsS.consN (i := 3) (names_one (T.x.one "TurnError" (by decide))) rfl rfl (fun a pn => (ss_one (s_set (i := 2) sc__law_refused.nd (j_fr (pv 3))))) HdsS.nil))
      (ss_cons (s_if (JW.jt (jw_or (jt_isN (j_fr (pv 2))) (jw_or (jt_not (jt_val (j_isOwn T.n_isinstance (T.x.one "NoGroup" (by decide)) (j_fr (pv 2))))) (jw_or1 (jt_not (jt_val (j_isVE T.x T.n_isinstance T.n_ValueError (j_fr (pv 2))))))))) (ss_one (s_ret j_bl)) ss_nil)
      (ss_cons (s_if (jt_val (j_isT T.n_isinstance (pan_cons (T.x.one "NoLine" (by decide)) (pan_cons (T.x.one "NoName" (by decide)) (pan_cons (T.x.one "NoNumber" (by decide)) (pan_cons (T.x.one "NoRecipe" (by decide)) (pan_cons (T.x.one "NoText" (by decide)) (pan_cons (T.x.one "NoThing" (by decide)) pan_nil)))))) (by decide) (j_fr (pv 2)))) (ss_one (s_ret j_bl)) ss_nil)
      (ss_one (s_ret (j_not (j_isT T.n_isinstance (pan_cons (T.x.one "NotIn" (by decide)) (pan_cons (T.x.one "NotPart" (by decide)) (pan_cons (T.x.one "NoTurning" (by decide)) (pan_cons (T.x.one "TooMany" (by decide)) pan_nil)))) (by decide) (j_fr (pv 2)))))))))), ?_⟩
  rintro ds KD KX ⟨d, e, rfl, hb, q⟩
  have main : ∀ (p : Addr) (KS : Sl → List Sl → Prop) (R : Str → List Sl → Prop), R "NoGroup" [.tr (.ref p) (.nd p (.ob "Group" []) [])] → g_Group___init__ [.tr (.ref p) (.nd p (.ob "Group" []) []), .fr d, slOf .rd e] KS R := fun p KS R hR => ⟨p, d, e, rfl, .inl ⟨hb, hR⟩⟩
  cases e <;>
  · walk_at "ux"
    refine fun p => main p _ _ ?_
    refine T.x.wHs (by decide) (by decide) (b := true) (by decide) ?_
    walk_at "ux"
    rw [if_neg (by decide)]
    refine ⟨_, T.x.isX (by decide) (by decide), ?_⟩
    rw [show subX "NoGroup" "NoGroup" = true by decide]
    walk_at "ux"
    refine ⟨_, T.x.isV (by decide), ?_⟩
    walk_at "ux"
    refine ⟨_, T.x.isXs (by decide) (cs := ["NoLine", "NoName", "NoNumber", "NoRecipe", "NoText", "NoThing"]) (by decide), ?_⟩
    rw [show (["NoLine", "NoName", "NoNumber", "NoRecipe", "NoText", "NoThing"] : List Str).any (subX "NoGroup") = false by decide]
    walk_at "ux"
    refine ⟨_, T.x.isXs (by decide) (cs := ["NotIn", "NotPart", "NoTurning", "TooMany"]) (by decide), ?_⟩
    rw [show (["NotIn", "NotPart", "NoTurning", "TooMany"] : List Str).any (subX "NoGroup") = false by decide]
    exact q

theorem ofB_of {d : D} {n : Nat} (h : ofB d (n : Nat) = true) : ∃ t, d = tn t ∧ IsT n t := by
  unfold ofB at h
  rw [Bool.and_eq_true] at h
  obtain ⟨t, rfl, ht, _⟩ := turnB_iff.mp h.1
  have h2 : decide (((nl t).length : Int) = (n : Nat)) = true := h.2
  have h3 : t.length = n := by
    have := of_decide_eq_true h2
    rw [nl_len] at this
    omega
  exact ⟨t, rfl, by rw [h3] at ht; exact ht⟩
theorem ofB_at {L : List D} {n a : Nat} {d : D} (h : L[a]? = some d) (hd : ∀ y : Nat, y < n → d ≠ .int (y : Int)) : ofB (.tuple L) (n : Nat) = false := by
  refine Bool.eq_false_iff.mpr fun hh => ?_
  obtain ⟨t, e, ht⟩ := ofB_of hh
  injection e with e
  subst e
  obtain ⟨x, hx, rfl⟩ := nl_at h
  exact hd x (ht.lt x (List.mem_of_getElem? hx)) rfl
theorem ofB_len {L : List D} {n : Nat} (h : L.length ≠ n) : ofB (.tuple L) (n : Nat) = false := by
  refine Bool.eq_false_iff.mpr fun hh => ?_
  obtain ⟨t, e, ht⟩ := ofB_of hh
  injection e with e
  subst e
  rw [nl_len, ht.len] at h
  exact h rfl
theorem spoil_set {t : List Nat} {a : Nat} {d : D} (h : a < t.length) : (cut (nl t) none (some (a : Int)) ++ [d] ++ cut (nl t) (some ((a : Int) + 1)) none) = (nl t).set a d := by
  rw [cut_take, show ((a : Int) + 1) = ((a + 1 : Nat) : Int) from rfl, cut_drop, List.set_eq_take_append_cons_drop, if_pos (by rw [nl_len]; exact h), List.append_assoc]
  rfl
theorem spoil_at {t : List Nat} {a : Nat} {d : D} (h : a < t.length) : ((nl t).set a d)[a]? = some d := by rw [List.getElem?_set_self (by rw [nl_len]; exact h)]
theorem prev_at {n : Nat} {t : List Nat} (ht : IsT n t) (h1 : 1 ≤ n) {a : Nat} (ha : a < n) : ∃ p, p < n ∧ (1 < n → p ≠ a) ∧ atI (nl t) ((a : Int) - 1) = some (.int (t.getD p 0 : Nat)) := by
  cases a with
  | zero =>
    refine ⟨n - 1, by omega, fun _ => by omega, ?_⟩
    have := nl_last (X := t) (fun e => by have := ht.len; rw [e] at this; simp at this; omega)
    rw [ht.len] at this
    exact this
  | succ a =>
    refine ⟨a, by omega, fun _ => by omega, ?_⟩
    rw [show (((a + 1 : Nat) : Int) - 1) = (a : Int) by omega, atI_cast, nl_get, Cl.getD_some (by rw [ht.len]; omega)]
    rfl
theorem twice {n : Nat} {t : List Nat} (ht : IsT n t) {a p : Nat} (ha : a < n) (hp : p < n) (ne : p ≠ a) : ofB (.tuple ((nl t).set a (.int (t.getD p 0 : Nat)))) (n : Nat) = false := by
  refine Bool.eq_false_iff.mpr fun hh => ?_
  obtain ⟨t', e, ht'⟩ := ofB_of hh
  injection e with e
  rw [nl_set] at e
  have e := nl_inj e
  subst e
  refine ne (ht'.inj hp ha ?_)
  rw [getD_set (by rw [ht.len]; exact ha), getD_set (by rw [ht.len]; exact ha), if_neg ne, if_pos rfl]
def g__law_bad_maker : Ct := fun ds KD _ => ∃ (n : Nat) (t : List Nat) (c : Int), ds = [tn t, .int c] ∧ IsT n t ∧ 1 ≤ n ∧ n ≤ 60 ∧ ∀ x, ofB x (n : Nat) = false → KD x
theorem ok__law_bad_maker (T : Tx K mg) {f : Addr} {fd : FuncData} (F : Fun K "_law_bad_maker" "_law_bad_maker" s__law_bad_maker f fd) : FnOk P w K mg base (L2.CX P w) 1 f fd ["_law_one", "_law_cell_here"] (spD [.rd, .rd] .fz g__law_bad_maker K) := by
  refine fn_mk _ _ _ F sc__law_bad_maker rfl (by decide) fun cdv A outer s H E hr => ?_
  refine ⟨_, (ss_cons (s_set (i := 2) sc__law_bad_maker.nd (j_len T.n_len (j_rd (pv 0))))
      (ss_cons (s_set (i := 3) sc__law_bad_maker.nd (j_mod (j_div (j_rd (pv 1)) j_int) (j_fr (pv 2))))
      (ss_cons (s_set (i := 4) sc__law_bad_maker.nd (j_mod (j_rd (pv 1)) j_int))
      (ss_cons (s_if (jt_eq hr.units (j_fr (pv 4)) j_int) (ss_one (s_ret ((j_list T.n_list (j_rd (pv 0)))).fz)) ss_nil)
      (ss_cons (s_if (jt_eq hr.units (j_fr (pv 4)) j_int) (ss_one (s_ret (j_catA (j_catA (j_catA (j_slA (j_rd (pv 0)) jo_none (jo_some (j_fr (pv 3)))) (j_tup (ja_cons (j_ixA (j_rd (pv 0)) (j_sub (j_fr (pv 3)) j_int)) ja_nil))) (j_slA (j_rd (pv 0)) (jo_some (j_add (j_fr (pv 3)) j_int)) jo_none)) (j_repT (j_tup (ja_cons (j_fr (pv 2)) ja_nil)) (j_intB T.n_int (j_eq hr.units (j_fr (pv 2)) j_int)))))) ss_nil)
      (ss_cons (s_if (jt_eq hr.units (j_fr (pv 4)) j_int) (ss_one (s_ret (j_catA (j_catA (j_slA (j_rd (pv 0)) jo_none (jo_some (j_fr (pv 3)))) (j_tup (ja_cons (j_sub (j_neg j_int) (j_mod (j_div (j_rd (pv 1)) j_int) (j_pow j_int j_int))) ja_nil))) (j_slA (j_rd (pv 0)) (jo_some (j_add (j_fr (pv 3)) j_int)) jo_none)))) ss_nil)
      (ss_cons (s_if (jt_eq hr.units (j_fr (pv 4)) j_int) (ss_one (s_ret (j_catA (j_catA (j_slA (j_rd (pv 0)) jo_none (jo_some (j_fr (pv 3)))) (j_tup (ja_cons (j_add (j_fr (pv 2)) (j_mod (j_div (j_rd (pv 1)) j_int) (j_pow j_int j_int))) ja_nil))) (j_slA (j_rd (pv 0)) (jo_some (j_add (j_fr (pv 3)) j_int)) jo_none)))) ss_nil)
      (ss_cons (s_if (jt_eq hr.units (j_fr (pv 4)) j_int) (ss_one (s_ret (j_tuple T.n_tuple (j_lc (pt := (.one 5)) rfl sc__law_bad_maker.nd (i_tup (j_rd (pv 0))) (blkOk_by (own := [("_law_x", 5)]) (N := ["_law_one", "_law_cell_here", "_law_many", "_law_at", "_law_way", "_law_x"]) (sc := defScope s__law_bad_maker) (by decide +kernel)) (fun _ _ _ _ _ => (pg_name (i := 5) sc__law_bad_maker.nd rfl (by first | exact Or.inl rfl | exact Or.inr rfl))) (fun _ _ _ _ _ => jts_nil) (fun _ _ _ _ _ => (j_if (jt_gt (j_fr (pv 5)) j_int) (j_fr (pv 5)) (j_eq hr.units (j_fr (pv 5)) j_int))) (by decide))))) ss_nil)
      (ss_cons (s_if (jt_eq hr.units (j_fr (pv 4)) j_int) (ss_one (s_ret (j_catA (j_rd (pv 0)) (j_tup (ja_cons (j_fr (pv 2)) ja_nil))))) ss_nil)
      (ss_cons (s_if (jt_eq hr.units (j_fr (pv 4)) j_int) (ss_one (s_ret (j_tuple T.n_tuple (j_lc (pt := (.one 5)) rfl sc__law_bad_maker.nd (i_tup (j_rd (pv 0))) (blkOk_by (own := [("_law_x", 5)]) (N := ["_law_one", "_law_cell_here", "_law_many", "_law_at", "_law_way", "_law_x"]) (sc := defScope s__law_bad_maker) (by decide +kernel)) (fun _ _ _ _ _ => (pg_name (i := 5) sc__law_bad_maker.nd rfl (by first | exact Or.inl rfl | exact Or.inr rfl))) (fun _ _ _ _ _ => (jts_one (jt_lt (j_fr (pv 5)) (j_sub (j_fr (pv 2)) j_int)))) (fun _ _ _ _ _ => (j_fr (pv 5))) (by decide))))) ss_nil)
      (ss_cons (s_if (jt_eq hr.units (j_fr (pv 4)) j_int) (ss_one (s_ret (j_tuple T.n_tuple (j_lc (pt := (.one 5)) rfl sc__law_bad_maker.nd (i_tup (j_rd (pv 0))) (blkOk_by (own := [("_law_x", 5)]) (N := ["_law_one", "_law_cell_here", "_law_many", "_law_at", "_law_way", "_law_x"]) (sc := defScope s__law_bad_maker) (by decide +kernel)) (fun _ _ _ _ _ => (pg_name (i := 5) sc__law_bad_maker.nd rfl (by first | exact Or.inl rfl | exact Or.inr rfl))) (fun _ _ _ _ _ => jts_nil) (fun _ _ _ _ _ => (j_strI T.n_str (j_fr (pv 5)))) (by decide))))) ss_nil)
      (ss_one (s_ret (j_ixA (j_lst (ja_cons j_non (ja_cons j_str (ja_cons (j_mod (j_div (j_rd (pv 1)) j_int) (j_pow j_int j_int)) (ja_cons (j_tup ja_nil) ja_nil))))) (j_sub (j_fr (pv 4)) j_int))))))))))))))), ?_⟩
  rintro ds KD KX ⟨n, t, c, rfl, ht, h1, hn, q⟩
  unfold tn
  walk_at "sx"
  rw [nl_len, ht.len]
  have sz : ∀ k, k ≤ 1000 → k ≤ sizeLine := fun k h => by rw [sizeLine_eq]; omega
  have c30 : CPow 10 30 := ⟨by decide, by decide, by decide⟩
  have p30 : (0 : Int) < 10 ^ Int.toNat 30 := by decide
  have hnp : (0 : Int) < (n : Nat) := by omega
  refine ⟨cdiv_small (j := 16) (by decide) (by decide), hnp, by show (0 : Int) < 12; decide, ?_⟩
  obtain ⟨a, ea, ha⟩ : ∃ a : Nat, c / 16 % ((n : Nat) : Int) = (a : Int) ∧ a < n := by
    have h2 := Int.emod_nonneg (c / 16) (b := ((n : Nat) : Int)) (by omega)
    have h3 := Int.emod_lt_of_pos (c / 16) hnp
    exact ⟨(c / 16 % ((n : Nat) : Int)).toNat, by omega, by omega⟩
  rw [ea]
  have haL : a < t.length := by rw [ht.len]; exact ha
  have cl : ∀ lo hi : Option Int, (cut (nl t) lo hi).length ≤ n := fun lo hi => by have := cut_len (nl t) lo hi; rwa [nl_len, ht.len] at this
  have r0 := Int.emod_nonneg (c / 960) (b := 10 ^ Int.toNat 30) (by omega)
  generalize c / 960 % 10 ^ Int.toNat 30 = r at r0 ⊢
  have w0 := Int.emod_nonneg c (b := 12) (by decide)
  have w1 := Int.emod_lt_of_pos c (b := 12) (by decide)
  generalize c % 12 = w at w0 w1 ⊢
  by_cases e0 : (w == 0) = true
  · rw [if_pos e0]
    exact q _ rfl
  rw [if_neg e0]
  by_cases e1 : (w == 1) = true
  · rw [if_pos e1]
    obtain ⟨p, hp, hne, hat⟩ := prev_at ht h1 ha
    have c1 := cl none (some (a : Int))
    have c2 := cl (some ((a : Int) + 1)) none
    refine ⟨_, hat, sz _ (by omega), sz _ (by omega), ?_⟩
    rw [spoil_set haL]
    refine ⟨by simp only [List.length_append, List.length_cons, List.length_nil]; exact sz _ (by omega), sz _ (by omega), by simp, by split <;> simp, ?_, ?_⟩
    · rw [List.length_set, nl_len, ht.len]
      split
      · exact sz _ (by show n + 1 ≤ 1000; omega)
      · exact sz _ (by show n + 0 ≤ 1000; omega)
    · by_cases hn1 : n = 1
      · rw [if_pos (by subst hn1; rfl)]
        refine q _ (ofB_len ?_)
        rw [List.length_append, List.length_set, nl_len, ht.len]
        show n + 1 ≠ n
        omega
      · rw [if_neg (by simp; omega)]
        show KD (.tuple (_ ++ []))
        rw [List.append_nil]
        exact q _ (twice ht ha hp (hne (by omega)))
  rw [if_neg e1]
  by_cases e2 : (w == 2) = true
  · rw [if_pos e2]
    have c1 := cl none (some (a : Int))
    have c2 := cl (some ((a : Int) + 1)) none
    rw [spoil_set haL]
    refine ⟨cdiv_small (j := 960) (by decide) (by decide), c30, p30, sz _ (by omega), sz _ (by omega), ?_, q _ (ofB_at (spoil_at haL) fun y hy e => ?_)⟩
    · simp only [List.length_append, List.length_cons, List.length_nil]; exact sz _ (by omega)
    · injection e with e; omega
  rw [if_neg e2]
  by_cases e3 : (w == 3) = true
  · rw [if_pos e3]
    have c1 := cl none (some (a : Int))
    have c2 := cl (some ((a : Int) + 1)) none
    rw [spoil_set haL]
    refine ⟨cdiv_small (j := 960) (by decide) (by decide), c30, p30, sz _ (by omega), sz _ (by omega), ?_, q _ (ofB_at (spoil_at haL) fun y hy e => ?_)⟩
    · simp only [List.length_append, List.length_cons, List.length_nil]; exact sz _ (by omega)
    · injection e with e; omega
  rw [if_neg e3]
  obtain ⟨j, hj, ej⟩ := ht.ix (y := 0) (by omega)
  have ejs : t[j]? = some 0 := by rw [← ej]; exact Cl.getD_some (by rw [ht.len]; exact hj)
  by_cases e4 : (w == 4) = true
  · rw [if_pos e4]
    refine ⟨sz _ (by omega), nf fun x => if 1 < x then .int (x : Int) else .bool (decide (x = 1)), fun d hd => ?_, ?_⟩
    · obtain ⟨x, _, rfl⟩ := nl_mem hd
      rw [nf_int]
      walk_at "sx"
      by_cases hx : 1 < x
      · rw [decide_eq_true (by omega), if_pos rfl, if_pos hx]
      · rw [decide_eq_false (by omega), if_neg (by decide), if_neg hx]
        rw [show (((x : Nat) : Int) == 1) = decide (x = 1) from beqN x 1]
    · rw [nf_map]
      refine q _ (ofB_at (a := j) (d := .bool false) (by rw [List.getElem?_map, ejs]; rfl) fun y hy e => by cases e)
  rw [if_neg e4]
  by_cases e5 : (w == 5) = true
  · rw [if_pos e5]
    refine ⟨sz _ (by omega), sz _ (by omega), q _ (ofB_len ?_)⟩
    rw [List.length_append, nl_len, ht.len]
    show n + 1 ≠ n
    omega
  rw [if_neg e5]
  by_cases e6 : (w == 6) = true
  · rw [if_pos e6]
    refine ⟨sz _ (by omega), sel fun x => decide (x < n - 1), fun d hd => ?_, ?_⟩
    · obtain ⟨x, _, rfl⟩ := nl_mem hd
      rw [sel_int]
      walk_at "sx"
      by_cases hx : x < n - 1
      · rw [decide_eq_true (by omega), if_pos rfl, decide_eq_true hx, if_pos rfl]
      · rw [decide_eq_false (by omega), if_neg (by decide), decide_eq_false hx, if_neg (by decide)]
    · rw [sel_map]
      refine q _ (ofB_len ?_)
      rw [nl_len]
      obtain ⟨i, hi, ei⟩ := ht.ix (y := n - 1) (by omega)
      have hm : n - 1 ∈ t := by rw [← ei]; exact getD_mem (by rw [ht.len]; exact hi)
      have := (List.length_filter_lt_length_iff_exists (p := fun x => decide (x < n - 1))).mpr ⟨n - 1, hm, show ¬ (decide (n - 1 < n - 1) = true) by simp⟩
      rw [ht.len] at this
      omega
  rw [if_neg e6]
  by_cases e7 : (w == 7) = true
  · rw [if_pos e7]
    refine ⟨sz _ (by omega), nf fun x => .str (toString (x : Int)), fun d hd => ?_, ?_⟩
    · obtain ⟨x, hx, rfl⟩ := nl_mem hd
      rw [nf_int]
      have := ht.lt x hx
      refine ⟨_, rfl, ?_, rfl⟩
      rw [Int.natAbs_natCast]
      exact Nat.lt_of_le_of_lt (Nat.log2_le_self x) (by omega)
    · rw [nf_map]
      exact q _ (ofB_at (a := j) (by rw [List.getElem?_map, ejs]; rfl) fun y hy e => by cases e)
  rw [if_neg e7]
  refine ⟨cdiv_small (j := 960) (by decide) (by decide), c30, p30, sz _ (by omega), sz _ (by omega), ?_⟩
  have hw : w = 8 ∨ w = 9 ∨ w = 10 ∨ w = 11 := by
    simp only [beq_iff_eq] at e0 e1 e2 e3 e4 e5 e6 e7
    omega
  rcases hw with rfl | rfl | rfl | rfl
  · exact ⟨_, rfl, q _ rfl⟩
  · exact ⟨_, rfl, q _ rfl⟩
  · exact ⟨_, rfl, q _ rfl⟩
  · exact ⟨_, rfl, q _ rfl⟩

theorem lookB_mem {z : Int} {l : List D} {x : D} (hx : x ∈ l) (h : ofB x z = false) : lookB (.int z) (.list l) = false := by
  show (decide (1 ≤ z) && decide (z ≤ 60) && decide (l.length ≤ 200) && l.all fun x => ofB x z) = false
  rw [Bool.and_eq_false_iff]
  exact .inr (List.all_eq_false.mpr ⟨x, hx, by rw [h]; decide⟩)
theorem lookB_out {z : Int} {l : List D} (h : z < 1 ∨ 60 < z) : lookB (.int z) (.list l) = false := by
  show (decide (1 ≤ z) && decide (z ≤ 60) && decide (l.length ≤ 200) && l.all fun x => ofB x z) = false
  rcases h with h | h
  · rw [decide_eq_false (show ¬ 1 ≤ z by omega)]; simp
  · rw [decide_eq_false (show ¬ z ≤ 60 by omega)]; simp
theorem lookB_many {z : Int} {l : List D} (h : 200 < l.length) : lookB (.int z) (.list l) = false := by
  show (decide (1 ≤ z) && decide (z ≤ 60) && decide (l.length ≤ 200) && l.all fun x => ofB x z) = false
  rw [decide_eq_false (show ¬ l.length ≤ 200 by omega)]; simp
theorem ofB_other {l : List D} {z : Int} (h : ((l.length : Nat) : Int) ≠ z) : ofB (.tuple l) z = false := by
  show (turnB (.tuple l) && decide (((l.length : Nat) : Int) = z)) = false
  rw [decide_eq_false h, Bool.and_false]
def g__law_bad : Ct := fun ds KD _ => ∃ (n : Nat) (ts : List (List Nat)) (c : Int), ds = [.int (n : Nat), .list (tl ts), .int c] ∧ (∀ t ∈ ts, IsT n t) ∧ 1 ≤ n ∧ n ≤ 60 ∧ ts.length ≤ 200 ∧ ∀ d e, lookB d e = false → KD (.list [d, e])
theorem ok__law_bad (T : Tx K mg) {f : Addr} {fd : FuncData} (F : Fun K "_law_bad" "_law_bad" s__law_bad f fd) : FnOk P w K mg base (L2.CX P w) 2 f fd ["_law_many", "_law_makers", "_law_cell_here"] (spD [.fz, .fz, .rd] .nw g__law_bad K) := by
  obtain ⟨f__law_bad_maker, fd__law_bad_maker, F__law_bad_maker, m__law_bad_maker⟩ := T.d__law_bad_maker
  have G__law_bad_maker := ok__law_bad_maker (P := P) (w := w) (base := base) T F__law_bad_maker
  have b__law_bad_maker := bd__law_bad_maker F__law_bad_maker
  have k__law_bad_maker := F__law_bad_maker.kp
  refine fn_mk _ _ _ F sc__law_bad rfl (by decide) fun cdv A outer s H E hr => ?_
  refine ⟨_, (ss_cons (s_if (jt_lt (j_mod (j_rd (pv 2)) j_int) j_int) (ss_cons (s_set (i := 3) sc__law_bad.nd (j_mod (j_div (j_rd (pv 2)) j_int) (j_add (j_len T.n_len (j_fr (pv 1))) j_int)))
      (ss_cons (s_set (i := 4) sc__law_bad.nd (j_tupRg1 rfl T.n_tuple T.n_range (j_fr (pv 0))))
      (ss_cons (s_if (jt_gt (j_len T.n_len (j_fr (pv 1))) j_int) (ss_one (s_set (i := 4) sc__law_bad.nd (j_ixA (j_fr (pv 1)) (j_sub (j_fr (pv 3)) j_int)))) ss_nil)
      (ss_one (s_ret (j_lst (ja_cons (j_fr (pv 0)) (ja_cons ((j_cat (j_cat (j_slL (j_fr (pv 1)) jo_none (jo_some (j_fr (pv 3)))) (j_lst (ja_cons (j_call (ms := [.rd, .rd]) (msd := []) (ds0 := []) G__law_bad_maker (hr.mono (by decide)) (by rfl) m__law_bad_maker k__law_bad_maker b__law_bad_maker .nil (fun _ _ => .nil) (fun _ => passAt cxD_takes _) (ja_cons ((j_fr (pv 4))).rd (ja_cons ((j_div (j_rd (pv 2)) j_int)).rd ja_nil))) ja_nil))) (j_slL (j_fr (pv 1)) (jo_some (j_fr (pv 3))) jo_none))).fz ja_nil)))))))) ss_nil)
      (ss_cons (s_if (jt_eq hr.units (j_mod (j_rd (pv 2)) j_int) j_int) (ss_cons (s_set (i := 5) sc__law_bad.nd ((j_lst (ja_cons (j_tuple T.n_tuple (j_fr (pv 1))) (ja_cons j_dic0 (ja_cons j_str (ja_cons j_non (ja_cons j_int ja_nil))))))).fz)
      (ss_one (s_ret (j_lst (ja_cons (j_fr (pv 0)) (ja_cons (j_ixA (j_fr (pv 5)) (j_mod (j_div (j_rd (pv 2)) j_int) j_int)) ja_nil)))))) ss_nil)
      (ss_cons (s_set (i := 6) sc__law_bad.nd (j_add j_int (j_mod (j_add (j_fr (pv 0)) (j_mod (j_div (j_rd (pv 2)) j_int) j_int)) j_int)))
      (ss_cons (s_set (i := 5) sc__law_bad.nd ((j_lst (ja_cons j_int (ja_cons j_int (ja_cons (j_sub (j_neg j_int) (j_mod (j_div (j_rd (pv 2)) j_int) (j_pow j_int j_int))) (ja_cons (j_add j_int (j_mod (j_div (j_rd (pv 2)) j_int) (j_pow j_int j_int))) (ja_cons j_bl (ja_cons j_non (ja_cons j_str ja_nil))))))))).fz)
      (ss_cons (s_if (JW.jt (jw_and (jt_eq hr.units (j_mod (j_div (j_rd (pv 2)) j_int) j_int) j_int) (jw_and1 (jt_ne hr.units (j_fr (pv 6)) (j_fr (pv 0)))))) (ss_one (s_ret (j_lst (ja_cons (j_fr (pv 6)) (ja_cons ((j_cat (j_fr (pv 1)) (j_lst (ja_cons (j_tupRg1 rfl T.n_tuple T.n_range (j_fr (pv 0))) ja_nil)))).fz ja_nil))))) ss_nil)
      (ss_one (s_ret (j_lst (ja_cons (j_ixA (j_fr (pv 5)) (j_mod (j_div (j_rd (pv 2)) j_int) j_int)) (ja_cons (j_fr (pv 1)) ja_nil)))))))))), ?_⟩
  rintro ds KD KX ⟨n, ts, c, rfl, ht, h1, hn, hl, q⟩
  walk_at "sx"
  have etl : (tl ts).length = ts.length := by unfold tl; rw [List.length_map]
  rw [etl]
  have sz : ∀ k, k ≤ 1000 → k ≤ sizeLine := fun k h => by rw [sizeLine_eq]; omega
  have c30 : CPow 10 30 := ⟨by decide, by decide, by decide⟩
  have p30 : (0 : Int) < 10 ^ Int.toNat 30 := by decide
  have d4 : CDivW c 4 := cdiv_small (j := 4) (by decide) (by decide)
  have d64 : CDivW c 64 := cdiv_small (j := 64) (by decide) (by decide)
  have rg : RgOk 0 (n : Int) := ⟨by omega, by omega, by omega, by omega, by omega⟩
  have r0 := Int.emod_nonneg (c / 64) (b := 10 ^ Int.toNat 30) (by omega)
  have cl : ∀ lo hi : Option Int, (cut (tl ts) lo hi).length ≤ ts.length := fun lo hi => by have := cut_len (tl ts) lo hi; rwa [etl] at this
  have tot : ∀ (x : D), (cut (tl ts) none (some (c / 4 % (((ts.length : Nat) : Int) + 1))) ++ [x]).length + (cut (tl ts) (some (c / 4 % (((ts.length : Nat) : Int) + 1))) none).length ≤ sizeLine := fun x => by
    have c1 := cl none (some (c / 4 % (((ts.length : Nat) : Int) + 1)))
    have c2 := cl (some (c / 4 % (((ts.length : Nat) : Int) + 1))) none
    rw [List.length_append]
    exact sz _ (by simp only [List.length_cons, List.length_nil]; omega)
  have tot1 := cl none (some (c / 4 % (((ts.length : Nat) : Int) + 1)))
  refine ⟨by show (0 : Int) < 4; decide, ?_⟩
  by_cases e0 : c % 4 < 2
  · rw [decide_eq_true e0, if_pos rfl]
    refine ⟨d4, by show (0 : Int) < ((ts.length : Nat) : Int) + 1; omega, rg, ?_⟩
    by_cases hp : 0 < ts.length
    · rw [decide_eq_true (by omega), if_pos rfl]
      have hm : ∃ m, m ∈ ts ∧ atI (tl ts) (c / 4 % (((ts.length : Nat) : Int) + 1) - 1) = some (tn m) := by
        have h2 := Int.emod_nonneg (c / 4) (b := ((ts.length : Nat) : Int) + 1) (by omega)
        have h3 := Int.emod_lt_of_pos (c / 4) (b := ((ts.length : Nat) : Int) + 1) (by omega)
        by_cases hz : c / 4 % (((ts.length : Nat) : Int) + 1) = 0
        · rw [hz]
          have hne : ts ≠ [] := fun e => by rw [e] at hp; simp at hp
          refine ⟨ts.getD (ts.length - 1) [], ?_, tl_last hne⟩
          rw [List.getD_eq_getElem?_getD, List.getElem?_eq_getElem (by omega)]
          exact List.getElem_mem _
        · obtain ⟨a, ea⟩ : ∃ a : Nat, c / 4 % (((ts.length : Nat) : Int) + 1) - 1 = (a : Int) := ⟨(c / 4 % (((ts.length : Nat) : Int) + 1) - 1).toNat, by omega⟩
          rw [ea]
          refine ⟨ts.getD a [], ?_, tl_atI (by omega)⟩
          rw [List.getD_eq_getElem?_getD, List.getElem?_eq_getElem (by omega)]
          exact List.getElem_mem _
      obtain ⟨m, hm1, hm2⟩ := hm
      refine ⟨_, hm2, d64, n, m, _, rfl, ht m hm1, h1, hn, fun x hx => ⟨sz _ (by omega), sz _ (by omega), tot x, sz _ (by omega), q _ _ (lookB_mem (x := x) (by simp) hx)⟩⟩
    · rw [decide_eq_false (by omega), if_neg (by decide)]
      refine ⟨d64, n, List.range n, _, by rw [Int.toNat_natCast, range0]; rfl, .range n, h1, hn, fun x hx => ⟨sz _ (by omega), sz _ (by omega), tot x, sz _ (by omega), q _ _ (lookB_mem (x := x) (by simp) hx)⟩⟩
  rw [decide_eq_false e0, if_neg (by decide)]
  refine ⟨by show (0 : Int) < 4; decide, ?_⟩
  by_cases e1 : (c % 4 == 2) = true
  · rw [if_pos e1]
    refine ⟨sz _ (by omega), d4, by show (0 : Int) < 5; decide, ?_⟩
    have h2 := Int.emod_nonneg (c / 4) (b := 5) (by decide)
    have h3 := Int.emod_lt_of_pos (c / 4) (b := 5) (by decide)
    have hw : c / 4 % 5 = 0 ∨ c / 4 % 5 = 1 ∨ c / 4 % 5 = 2 ∨ c / 4 % 5 = 3 ∨ c / 4 % 5 = 4 := by omega
    rcases hw with h | h | h | h | h <;>
    · rw [h]
      exact ⟨_, rfl, sz _ (by omega), q _ _ rfl⟩
  rw [if_neg e1]
  have fin : ∃ d, atI [PyData.int 0, PyData.int 61, PyData.int (-1 - c / 64 % 10 ^ Int.toNat 30), PyData.int (61 + c / 64 % 10 ^ Int.toNat 30), PyData.bool true, PyData.none, PyData.str (Str.ofString "3")] (c / 4 % 7) = some d ∧ 0 + 1 + 1 ≤ sizeLine ∧ KD (PyData.list [d, PyData.list (tl ts)]) := by
    have h2 := Int.emod_nonneg (c / 4) (b := 7) (by decide)
    have h3 := Int.emod_lt_of_pos (c / 4) (b := 7) (by decide)
    have hw : c / 4 % 7 = 0 ∨ c / 4 % 7 = 1 ∨ c / 4 % 7 = 2 ∨ c / 4 % 7 = 3 ∨ c / 4 % 7 = 4 ∨ c / 4 % 7 = 5 ∨ c / 4 % 7 = 6 := by omega
    generalize c / 64 % 10 ^ Int.toNat 30 = r at r0 ⊢
    rcases hw with h | h | h | h | h | h | h <;> rw [h]
    · exact ⟨_, rfl, sz _ (by omega), q _ _ (lookB_out (.inl (by decide)))⟩
    · exact ⟨_, rfl, sz _ (by omega), q _ _ (lookB_out (.inr (by decide)))⟩
    · exact ⟨_, rfl, sz _ (by omega), q _ _ (lookB_out (.inl (by omega)))⟩
    · exact ⟨_, rfl, sz _ (by omega), q _ _ (lookB_out (.inr (by omega)))⟩
    · exact ⟨_, rfl, sz _ (by omega), q _ _ rfl⟩
    · exact ⟨_, rfl, sz _ (by omega), q _ _ rfl⟩
    · exact ⟨_, rfl, sz _ (by omega), q _ _ rfl⟩
  refine ⟨d64, by show (0 : Int) < 58; decide, by show (0 : Int) < 60; decide, d64, c30, p30, d64, c30, p30, sz _ (by omega), d4, by show (0 : Int) < 8; decide, ?_⟩
  by_cases e2 : (c / 4 % 8 == 7) = true
  · rw [if_pos e2]
    by_cases e3 : 1 + (((n : Nat) : Int) + c / 64 % 58) % 60 = ((n : Nat) : Int)
    · rw [if_neg (by rw [e3]; simp)]
      exact ⟨d4, by show (0 : Int) < 7; decide, fin⟩
    · rw [if_pos (by simpa using e3)]
      refine ⟨rg, sz _ (by omega), sz _ (by omega), sz _ (by omega), q _ _ (lookB_mem (x := PyData.tuple (rangeD 0 ((n : Nat) : Int).toNat)) (by simp) (ofB_other ?_))⟩
      rw [Int.toNat_natCast, range0, nl_len, List.length_range]
      exact fun e => e3 e.symm
  · rw [if_neg e2]
    exact ⟨d4, by show (0 : Int) < 7; decide, fin⟩

def g_Group_told : Ct := fun ds KD _ => ∃ (C : Chn) (ts : List (List Nat)), ds = [groupD C ts] ∧ ts.length ≤ 1000 ∧ KD (.list (tl ts))
theorem ok_Group_told (T : Tx K mg) {f : Addr} {fd : FuncData} (F : Fun K "told" "Group.told" s_Group_told f fd) : FnOk P w K mg base (L2.CX P w) 1 f fd ["self"] (spD [.fz] .nw g_Group_told K) := by
  refine fn_mk _ _ _ F sc_Group_told rfl (by decide) fun cdv A outer s H E hr => ?_
  refine ⟨_, (ss_one (s_ret (j_list T.n_list (j_at (j_fr (pv 0)))))), ?_⟩
  rintro ds KD KX ⟨C, ts, rfl, hl, q⟩
  unfold groupD
  walk_at "ux"
  walk_at "fg"
  walk_at "ux"
  exact q

theorem gr_told (C : Chn) (ts : List (List Nat)) : ∃ kvs, groupD C ts = objD "Group" kvs ∧ fget kvs "told" = none := ⟨_, rfl, rfl⟩
theorem tl_map {α : Type} (g : α → List Nat) (l : List α) : tl (l.map g) = l.map fun x => tn (g x) := by unfold tl; rw [List.map_map]; rfl
theorem tl_len' (ts : List (List Nat)) : (tl ts).length = ts.length := by unfold tl; rw [List.length_map]
def g_law : Ct := fun ds KD _ => ∃ ns : List Int, ds = [.list (ns.map PyData.int)] ∧ (∀ z ∈ ns, Builtin.Int.intBits z ≤ 1048576) ∧ ns.length ≤ 63 ∧ KD (.bool true)
theorem ok_law (T : Tx K mg) {f : Addr} {fd : FuncData} (F : Fun K "law" "law" s_law f fd) : FnOk P w K mg base (L2.CX P w) 9 f fd ["_law_script"] (spD [.rd] .fz g_law K) := by
  obtain ⟨f__law_cell, fd__law_cell, F__law_cell, m__law_cell⟩ := T.d__law_cell
  have G__law_cell := ok__law_cell (P := P) (w := w) (base := base) T F__law_cell
  have b__law_cell := bd__law_cell F__law_cell
  have k__law_cell := F__law_cell.kp
  obtain ⟨f__law_turning, fd__law_turning, F__law_turning, m__law_turning⟩ := T.d__law_turning
  have G__law_turning := ok__law_turning (P := P) (w := w) (base := base) T F__law_turning
  have b__law_turning := bd__law_turning F__law_turning
  have k__law_turning := F__law_turning.kp
  obtain ⟨f__law_power, fd__law_power, F__law_power, m__law_power⟩ := T.d__law_power
  have G__law_power := ok__law_power (P := P) (w := w) (base := base) T F__law_power
  have b__law_power := bd__law_power F__law_power
  have k__law_power := F__law_power.kp
  obtain ⟨f__law_refused, fd__law_refused, F__law_refused, m__law_refused⟩ := T.d__law_refused
  have G__law_refused := ok__law_refused (P := P) (w := w) (base := base) T F__law_refused
  have b__law_refused := bd__law_refused F__law_refused
  have k__law_refused := F__law_refused.kp
  obtain ⟨f__law_bad, fd__law_bad, F__law_bad, m__law_bad⟩ := T.d__law_bad
  have G__law_bad := ok__law_bad (P := P) (w := w) (base := base) T F__law_bad
  have b__law_bad := bd__law_bad F__law_bad
  have k__law_bad := F__law_bad.kp
  obtain ⟨f_Group_told, fd_Group_told, F_Group_told, mt_Group_told⟩ := T.d_Group_told
  have G_Group_told := ok_Group_told (P := P) (w := w) (base := base) T F_Group_told
  have b_Group_told := bd_Group_told F_Group_told
  have k_Group_told := F_Group_told.kp
  obtain ⟨f_Group___init__, fd_Group___init__, F_Group___init__, mk_Group⟩ := T.d_Group___init__
  have G_Group___init__ := ok_Group___init__ (P := P) (w := w) (base := base) T F_Group___init__
  have b_Group___init__ := bd_Group___init__ F_Group___init__
  have k_Group___init__ := F_Group___init__.kp
  refine fn_mk _ _ _ F sc_law rfl (by decide) fun cdv A outer s H E hr => ?_
  refine ⟨_, (ss_cons (s_set (i := 1) sc_law.nd (j_add j_int (j_mod (j_call (ms := [.rd, .rd]) (msd := []) (ds0 := []) G__law_cell (hr.mono (by decide)) (by rfl) m__law_cell k__law_cell b__law_cell .nil (fun _ _ => .nil) (fun _ => passAt cxD_takes _) (ja_cons ((j_rd (pv 0))).rd (ja_cons (j_int).rd ja_nil))) j_int)))
      (ss_cons (s_if (jt_eq hr.units (j_mod (j_div (j_call (ms := [.rd, .rd]) (msd := []) (ds0 := []) G__law_cell (hr.mono (by decide)) (by rfl) m__law_cell k__law_cell b__law_cell .nil (fun _ _ => .nil) (fun _ => passAt cxD_takes _) (ja_cons ((j_rd (pv 0))).rd (ja_cons (j_int).rd ja_nil))) j_int) j_int) j_int) (ss_one (s_set (i := 1) sc_law.nd (j_add j_int (j_mod (j_call (ms := [.rd, .rd]) (msd := []) (ds0 := []) G__law_cell (hr.mono (by decide)) (by rfl) m__law_cell k__law_cell b__law_cell .nil (fun _ _ => .nil) (fun _ => passAt cxD_takes _) (ja_cons ((j_rd (pv 0))).rd (ja_cons (j_int).rd ja_nil))) j_int)))) ss_nil)
      (ss_cons (s_set (i := 2) sc_law.nd (j_call (ms := [.rd, .rd]) (msd := []) (ds0 := []) G__law_turning (hr.mono (by decide)) (by rfl) m__law_turning k__law_turning b__law_turning .nil (fun _ _ => .nil) (fun _ => passAt cxD_takes _) (ja_cons ((j_call (ms := [.rd, .rd]) (msd := []) (ds0 := []) G__law_cell (hr.mono (by decide)) (by rfl) m__law_cell k__law_cell b__law_cell .nil (fun _ _ => .nil) (fun _ => passAt cxD_takes _) (ja_cons ((j_rd (pv 0))).rd (ja_cons (j_int).rd ja_nil)))).rd (ja_cons ((j_fr (pv 1))).rd ja_nil))))
      (ss_cons (s_setLcF (i := 3) (pt := (.one 8)) rfl sc_law.nd (sw_true rfl rfl rfl (by decide +kernel)) (i_rg1 T.n_range (j_mod (j_call (ms := [.rd, .rd]) (msd := []) (ds0 := []) G__law_cell (hr.mono (by decide)) (by rfl) m__law_cell k__law_cell b__law_cell .nil (fun _ _ => .nil) (fun _ => passAt cxD_takes _) (ja_cons ((j_rd (pv 0))).rd (ja_cons (j_int).rd ja_nil))) j_int)) (blkOk_by (own := [("_law_k", 8)]) (N := ["_law_script", "_law_many", "_law_one", "_law_makers", "_law_cell_here", "_law_bad_here", "_law_handed", "_law_told", "_law_k"]) (sc := defScope s_law) (by decide +kernel)) (fun _ _ _ _ _ => (pg_name (i := 8) sc_law.nd rfl (by first | exact Or.inl rfl | exact Or.inr rfl))) (fun _ _ _ _ _ => jts_nil) (fun _ _ _ _ _ => (j_call (ms := [.rd, .rd]) (msd := []) (ds0 := []) G__law_power (hr.mono (by decide)) (by rfl) m__law_power k__law_power b__law_power .nil (fun _ _ => .nil) (fun _ => passAt takes0 _) (ja_cons ((j_fr (pv 2))).rd (ja_cons ((j_add j_int (j_mod (j_div (j_div (j_call (ms := [.rd, .rd]) (msd := []) (ds0 := []) G__law_cell (hr.mono (by decide)) (by rfl) m__law_cell k__law_cell b__law_cell .nil (fun _ _ => .nil) (fun _ => passAt takes0 _) (ja_cons ((j_rd (pv 0))).rd (ja_cons (j_int).rd ja_nil))) j_int) (j_add j_int (j_fr (pv 8)))) j_int))).rd ja_nil)))) (by decide))
      (ss_cons (s_if (jt_eq hr.units (j_mod (j_div (j_call (ms := [.rd, .rd]) (msd := []) (ds0 := []) G__law_cell (hr.mono (by decide)) (by rfl) m__law_cell k__law_cell b__law_cell .nil (fun _ _ => .nil) (fun _ => passAt cxD_takes _) (ja_cons ((j_rd (pv 0))).rd (ja_cons (j_int).rd ja_nil))) j_int) j_int) j_int) (ss_one (s_setLcF (i := 3) (pt := (.one 8)) rfl sc_law.nd (sw_true rfl rfl rfl (by decide +kernel)) (i_rg1 T.n_range (j_add j_int (j_mod (j_call (ms := [.rd, .rd]) (msd := []) (ds0 := []) G__law_cell (hr.mono (by decide)) (by rfl) m__law_cell k__law_cell b__law_cell .nil (fun _ _ => .nil) (fun _ => passAt cxD_takes _) (ja_cons ((j_rd (pv 0))).rd (ja_cons (j_int).rd ja_nil))) j_int))) (blkOk_by (own := [("_law_k", 8)]) (N := ["_law_script", "_law_many", "_law_one", "_law_makers", "_law_cell_here", "_law_bad_here", "_law_handed", "_law_told", "_law_k"]) (sc := defScope s_law) (by decide +kernel)) (fun _ _ _ _ _ => (pg_name (i := 8) sc_law.nd rfl (by first | exact Or.inl rfl | exact Or.inr rfl))) (fun _ _ _ _ _ => jts_nil) (fun _ _ _ _ _ => (j_call (ms := [.rd, .rd]) (msd := []) (ds0 := []) G__law_power (hr.mono (by decide)) (by rfl) m__law_power k__law_power b__law_power .nil (fun _ _ => .nil) (fun _ => passAt takes0 _) (ja_cons ((j_fr (pv 2))).rd (ja_cons ((j_mod (j_fr (pv 8)) j_int)).rd ja_nil)))) (by decide))) ss_nil)
      (ss_cons (s_if (jt_gt (j_len T.n_len (j_fr (pv 3))) j_int) (ss_cons (s_if (jt_not (jt_val (j_call (ms := [.fz, .rd]) (msd := []) (ds0 := []) G__law_refused (hr.mono (by decide)) (by rfl) m__law_refused k__law_refused b__law_refused .nil (fun _ _ => .nil) (fun _ => passAt cxD_takes _) (ja_cons (j_fr (pv 1)) (ja_cons ((j_list T.n_list (j_fr (pv 3)))).rd ja_nil))))) (ss_one (s_ret j_bl)) ss_nil)
      (ss_one (s_set (i := 3) sc_law.nd ((j_slL (j_fr (pv 3)) jo_none (jo_some j_int))).fz))) ss_nil)
      (ss_cons (s_for (pt := (.one 4)) cxD_own rfl (i_list ((j_cat (j_lst (ja_cons j_int ja_nil)) (j_slL (j_rd (pv 0)) (jo_some j_int) (jo_some j_int)))).fz) (pg_name (i := 4) sc_law.nd rfl (by first | exact Or.inl rfl | exact Or.inr rfl)) (ss_one (s_if (JW.jt (jw_or (jt_lt (j_len T.n_len (j_fr (pv 3))) j_int) (jw_or1 (jt_gt (j_mod (j_fr (pv 4)) j_int) j_int)))) (ss_cons (s_set (i := 5) sc_law.nd ((j_call (ms := [.fz, .fz, .rd]) (msd := []) (ds0 := []) G__law_bad (hr.mono (by decide)) (by rfl) m__law_bad k__law_bad b__law_bad .nil (fun _ _ => .nil) (fun _ => passAt cxD_takes _) (ja_cons (j_fr (pv 1)) (ja_cons ((j_list T.n_list (j_fr (pv 3)))).fz (ja_cons ((j_mod (j_fr (pv 4)) (j_pow j_int j_int))).rd ja_nil))))).fz)
      (ss_one (s_if (jt_not (jt_val (j_call (ms := [.fz, .rd]) (msd := []) (ds0 := []) G__law_refused (hr.mono (by decide)) (by rfl) m__law_refused k__law_refused b__law_refused .nil (fun _ _ => .nil) (fun _ => passAt cxD_takes _) (ja_cons (j_ixA (j_fr (pv 5)) j_int) (ja_cons ((j_ixA (j_fr (pv 5)) j_int)).rd ja_nil))))) (ss_one (s_ret j_bl)) ss_nil))) (ss_one (s_if (jt_not (jt_val (j_call (ms := [.fz, .rd]) (msd := []) (ds0 := []) G__law_refused (hr.mono (by decide)) (by rfl) m__law_refused k__law_refused b__law_refused .nil (fun _ _ => .nil) (fun _ => passAt cxD_takes _) (ja_cons (j_fr (pv 1)) (ja_cons ((j_cat (j_cat (j_slL (j_fr (pv 3)) jo_none (jo_some (j_mod (j_div (j_fr (pv 4)) j_int) j_int))) (j_lst (ja_cons j_non ja_nil))) (j_slL (j_fr (pv 3)) (jo_some (j_add j_int (j_mod (j_div (j_fr (pv 4)) j_int) j_int))) jo_none))).rd ja_nil))))) (ss_one (s_ret j_bl)) ss_nil)))))
      (ss_cons (s_set (i := 6) sc_law.nd ((j_list T.n_list (j_fr (pv 3)))).fz)
      (ss_cons (s_set (i := 7) sc_law.nd ((j_meth0D (cn := "Group") G_Group_told (hr.mono (by decide)) T.cl_Group mt_Group_told b_Group_told (fun _ => passAt cxD_takes _) (j_makeF (ms := [.fz, .rd]) (cn := "Group") mk_Group T.io_Group G_Group___init__ (hr.mono (by decide)) (by rfl) T.mg_Group b_Group___init__ .nil (fun _ => .nil) (fun _ => passAt cxD_takes _) (ja_cons (j_fr (pv 1)) (ja_cons ((j_fr (pv 6))).rd ja_nil))))).fz)
      (ss_one (s_ret (j_and (j_eq hr.units (j_fr (pv 6)) (j_fr (pv 3))) (j_and (j_isi (T := "list") T.n_isinstance T.n_list (by decide +kernel) (j_fr (pv 7))) (j_one (j_eq hr.units (j_fr (pv 7)) (j_fr (pv 3))))))))))))))))), ?_⟩
  rintro ds KD KX ⟨ns, rfl, hb, hl, q⟩
  walk_at "ux"
  refine ⟨ns, 0, rfl, ?_⟩
  walk_at "ux"
  refine ⟨by show (0 : Int) < 60; decide, ?_⟩
  refine ⟨ns, 2, rfl, ?_⟩
  walk_at "ux"
  refine ⟨cdiv_small (j := 5) (by decide) (by decide), by show (0 : Int) < 9; decide, ?_⟩
  have c5 : ∀ i : Int, CDivW i 5 := fun i => cdiv_small (j := 5) (by decide) (by decide)
  have c3 : ∀ i : Int, CDivW i 3 := fun i => cdiv_small (j := 3) (by decide) (by decide)
  by_cases hc : (ns.getD 2 0 / 5 % 9 == 4) = true
  · rw [if_pos hc]
    refine ⟨ns, 0, rfl, ?_⟩
    walk_at "ux"
    obtain ⟨m, em, h1, h60⟩ : ∃ m : Nat, (1 : Int) + ns.getD 0 0 % 12 = (m : Int) ∧ 1 ≤ m ∧ m ≤ 60 := ⟨(1 + ns.getD 0 0 % 12).toNat, by omega, by omega, by omega⟩
    rw [em]
    refine ⟨by show (0 : Int) < 12; decide, ?_⟩
    refine ⟨ns, 1, rfl, ?_⟩
    refine ⟨_, m, rfl, h1, h60, ?_⟩
    walk_at "ux"
    have ht : IsT m (trnF (ns.getD 1 0) m) := free_isT _ _
    generalize trnF (ns.getD 1 0) m = t at ht ⊢
    refine ⟨ns, 2, rfl, ?_⟩
    walk_at "ux"
    obtain ⟨j, ej, hj⟩ : ∃ j : Nat, ns.getD 2 0 % 5 = (j : Int) ∧ j ≤ 4 := ⟨(ns.getD 2 0 % 5).toNat, by omega, by omega⟩
    rw [ej]
    obtain ⟨ex, hex⟩ : ∃ ex : Nat → Nat, ∀ k : Nat, (1 : Int) + ns.getD 3 0 / 3 / (1 + (k : Int)) % 9 = ((ex k : Nat) : Int) ∧ ex k ≤ 1000 := ⟨fun k => ((1 : Int) + ns.getD 3 0 / 3 / (1 + (k : Int)) % 9).toNat, fun k => ⟨by dsimp only; omega, by dsimp only; omega⟩⟩
    refine ⟨by show (0 : Int) < 5; decide, by omega, by omega, by rw [range_len, Int.toNat_natCast, sizeLine_eq]; omega, nf fun k => tn (pwN m t (ex k)), fun d hd => ?_, ?_⟩
    · rw [Int.toNat_natCast, range0] at hd
      obtain ⟨k, hk, rfl⟩ := nl_mem hd
      have hk := List.mem_range.mp hk
      rw [nf_int]
      refine ⟨ns, 3, rfl, ?_⟩
      walk_at "ux"
      obtain ⟨e1, e2⟩ := hex k
      rw [e1]
      refine ⟨c3 _, by rw [show (1 : Int) + (k : Int) = ((1 + k : Nat) : Int) by omega]; exact cdiv_small (by omega) (by omega), by show (0 : Int) < 9; decide, m, t, ex k, rfl, ht, h60, e2, rfl⟩
    rw [Int.toNat_natCast, range0, nf_map, ← tl_map]
    refine ⟨ns, 2, rfl, ?_⟩
    walk_at "ux"
    refine ⟨c5 _, by show (0 : Int) < 9; decide, ?_⟩
    rw [if_pos hc]
    refine ⟨ns, 3, rfl, ?_⟩
    walk_at "ux"
    obtain ⟨j2, ej2, hj2⟩ : ∃ j2 : Nat, (199 : Int) + ns.getD 3 0 % 3 = (j2 : Int) ∧ j2 ≤ 201 := ⟨(199 + ns.getD 3 0 % 3).toNat, by omega, by omega⟩
    rw [ej2]
    refine ⟨by show (0 : Int) < 3; decide, by omega, by omega, by rw [range_len, Int.toNat_natCast, sizeLine_eq]; omega, nf fun k => tn (pwN m t (k % 3)), fun d hd => ?_, ?_⟩
    · rw [Int.toNat_natCast, range0] at hd
      obtain ⟨k, hk, rfl⟩ := nl_mem hd
      rw [nf_int]
      walk_at "ux"
      refine ⟨by show (0 : Int) < 3; decide, m, t, k % 3, rfl, ht, h60, by omega, rfl⟩
    rw [Int.toNat_natCast, range0, nf_map, ← tl_map]
    have hts : ∀ x ∈ (List.range j2).map (fun k => pwN m t (k % 3)), IsT m x := fun x hx => by
      obtain ⟨k, _, rfl⟩ := List.mem_map.mp hx
      exact pwN_isT ht _
    have hln : ((List.range j2).map (fun k => pwN m t (k % 3))).length ≤ 201 := by rw [List.length_map, List.length_range]; exact hj2
    generalize (List.range j2).map (fun k => pwN m t (k % 3)) = ts at hts hln ⊢
    rw [tl_len']
    by_cases hgt : 200 < ts.length
    · rw [decide_eq_true (by omega), if_pos rfl]
      refine ⟨_, _, rfl, lookB_many (by rw [tl_len']; exact hgt), ?_⟩
      walk_at "ux"
      rw [show cut (tl ts) none (some (200 : Int)) = (tl ts).take 200 from cut_take (tl ts) 200, tl_take]
      have hts2 : ∀ x ∈ ts.take 200, IsT m x := fun x hx => hts x (List.mem_of_mem_take hx)
      have hln2 : (ts.take 200).length ≤ 200 := by rw [List.length_take]; omega
      generalize ts.take 200 = us at hts2 hln2 ⊢
      rw [wFor_eq]
      walk_at "ux"
      rw [ints_cut]
      have hcl := cut_len ns (some 4) (some 44)
      refine ⟨by rw [sizeLine_eq]; decide, by rw [List.length_map, sizeLine_eq]; omega, fun i E => ∃ z4 z5 z6 z7 z8, E = [.bo (ns.map PyData.int), .fr (.int (m : Nat)), .fr (tn t), .fr (.list (tl us)), z4, z5, z6, z7, z8], ⟨_, _, _, _, _, rfl⟩, ?_, ?_⟩
      · rintro i d E he ⟨z4, z5, z6, z7, z8, rfl⟩
        obtain ⟨c, rfl⟩ : ∃ c, d = .int c := by
          cases i with
          | zero => exact ⟨0, (Option.some.inj he).symm⟩
          | succ i =>
            rw [List.getElem?_cons_succ, List.getElem?_map] at he
            cases hh : (cut ns (some 4) (some 44))[i]? with
            | none => rw [hh] at he; cases he
            | some c => rw [hh] at he; exact ⟨c, (Option.some.inj he).symm⟩
        walk_at "ux"
        have c40 : CPow 10 40 := ⟨by decide, by decide, by decide⟩
        have p40 : CPos c (10 ^ Int.toNat 40) := by show (0 : Int) < 10 ^ Int.toNat 40; decide
        rw [tl_len']
        by_cases hs : us.length < 200
        · rw [decide_eq_true (by omega), if_pos rfl]
          refine ⟨c40, p40, m, us, _, rfl, hts2, h1, h60, hln2, fun d e hde => ?_⟩
          walk_at "ux"
          refine ⟨d, rfl, ?_⟩
          walk_at "ux"
          refine ⟨e, rfl, d, e, rfl, hde, ?_⟩
          exact ⟨true, rfl, _, _, _, _, _, rfl⟩
        rw [decide_eq_false (by omega), if_neg (by decide)]
        refine ⟨by show (0 : Int) < 4; decide, ?_⟩
        by_cases hw : 1 < c % 4
        · rw [decide_eq_true hw, if_pos rfl]
          refine ⟨c40, p40, m, us, _, rfl, hts2, h1, h60, hln2, fun d e hde => ?_⟩
          walk_at "ux"
          refine ⟨d, rfl, ?_⟩
          walk_at "ux"
          refine ⟨e, rfl, d, e, rfl, hde, ?_⟩
          exact ⟨true, rfl, _, _, _, _, _, rfl⟩
        rw [decide_eq_false hw, if_neg (by decide)]
        have c1 := cut_len (tl us) none (some (c / 4 % 200))
        have c2 := cut_len (tl us) (some (1 + c / 4 % 200)) none
        rw [tl_len'] at c1 c2
        have d4 : CDivW c 4 := cdiv_small (j := 4) (by decide) (by decide)
        have p200 : CPos (c / 4) 200 := by show (0 : Int) < 200; decide
        refine ⟨d4, p200, by rw [sizeLine_eq]; decide, by rw [sizeLine_eq]; omega, d4, p200, ?_, _, _, rfl, lookB_mem (x := PyData.none) (by simp) rfl, ?_⟩
        · rw [List.length_append, sizeLine_eq]
          simp only [List.length_cons, List.length_nil]
          omega
        · exact ⟨true, rfl, _, _, _, _, _, rfl⟩
      · rintro E ⟨z4, z5, z6, z7, z8, rfl⟩
        walk_at "ux"
        intro x
        refine ⟨x, .int (m : Nat), .list (tl us), rfl, .inr ⟨m, us, fun L k v => True, rfl, rfl, h1, h60, hts2, hln2, ⟨fun _ => trivial, fun _ _ => trivial, fun _ => trivial⟩, trivial, fun _ _ _ _ => trivial, fun C en hG hgn _ _ => ?_⟩⟩
        refine ⟨rfl, _, _, rfl, ?_⟩
        rw [← en]
        have eg : objD "Group" (List.zip (List.map PyData.str ["made", "many", "chain", "steps"]) [.list (tl us), .int (C.n : Nat), chainD C, .list (bigD C)]) = groupD C us := rfl
        rw [eg]
        refine ⟨rfl, C, us, rfl, by omega, ?_⟩
        walk_at "ux"
        refine ⟨shaped_tl us, shaped_tl us, ?_⟩
        rw [eqv_tl, decide_eq_true rfl, if_pos rfl]
        walk_at "ux"
        exact ⟨shaped_tl us, shaped_tl us, q⟩
    · rw [decide_eq_false (by omega), if_neg (by decide)]
      have hts2 := hts
      have hln2 : ts.length ≤ 200 := by omega
      generalize ts = us at hts2 hln2 ⊢
      rw [wFor_eq]
      walk_at "ux"
      rw [ints_cut]
      have hcl := cut_len ns (some 4) (some 44)
      refine ⟨by rw [sizeLine_eq]; decide, by rw [List.length_map, sizeLine_eq]; omega, fun i E => ∃ z4 z5 z6 z7 z8, E = [.bo (ns.map PyData.int), .fr (.int (m : Nat)), .fr (tn t), .fr (.list (tl us)), z4, z5, z6, z7, z8], ⟨_, _, _, _, _, rfl⟩, ?_, ?_⟩
      · rintro i d E he ⟨z4, z5, z6, z7, z8, rfl⟩
        obtain ⟨c, rfl⟩ : ∃ c, d = .int c := by
          cases i with
          | zero => exact ⟨0, (Option.some.inj he).symm⟩
          | succ i =>
            rw [List.getElem?_cons_succ, List.getElem?_map] at he
            cases hh : (cut ns (some 4) (some 44))[i]? with
            | none => rw [hh] at he; cases he
            | some c => rw [hh] at he; exact ⟨c, (Option.some.inj he).symm⟩
        walk_at "ux"
        have c40 : CPow 10 40 := ⟨by decide, by decide, by decide⟩
        have p40 : CPos c (10 ^ Int.toNat 40) := by show (0 : Int) < 10 ^ Int.toNat 40; decide
        rw [tl_len']
        by_cases hs : us.length < 200
        · rw [decide_eq_true (by omega), if_pos rfl]
          refine ⟨c40, p40, m, us, _, rfl, hts2, h1, h60, hln2, fun d e hde => ?_⟩
          walk_at "ux"
          refine ⟨d, rfl, ?_⟩
          walk_at "ux"
          refine ⟨e, rfl, d, e, rfl, hde, ?_⟩
          exact ⟨true, rfl, _, _, _, _, _, rfl⟩
        rw [decide_eq_false (by omega), if_neg (by decide)]
        refine ⟨by show (0 : Int) < 4; decide, ?_⟩
        by_cases hw : 1 < c % 4
        · rw [decide_eq_true hw, if_pos rfl]
          refine ⟨c40, p40, m, us, _, rfl, hts2, h1, h60, hln2, fun d e hde => ?_⟩
          walk_at "ux"
          refine ⟨d, rfl, ?_⟩
          walk_at "ux"
          refine ⟨e, rfl, d, e, rfl, hde, ?_⟩
          exact ⟨true, rfl, _, _, _, _, _, rfl⟩
        rw [decide_eq_false hw, if_neg (by decide)]
        have c1 := cut_len (tl us) none (some (c / 4 % 200))
        have c2 := cut_len (tl us) (some (1 + c / 4 % 200)) none
        rw [tl_len'] at c1 c2
        have d4 : CDivW c 4 := cdiv_small (j := 4) (by decide) (by decide)
        have p200 : CPos (c / 4) 200 := by show (0 : Int) < 200; decide
        refine ⟨d4, p200, by rw [sizeLine_eq]; decide, by rw [sizeLine_eq]; omega, d4, p200, ?_, _, _, rfl, lookB_mem (x := PyData.none) (by simp) rfl, ?_⟩
        · rw [List.length_append, sizeLine_eq]
          simp only [List.length_cons, List.length_nil]
          omega
        · exact ⟨true, rfl, _, _, _, _, _, rfl⟩
      · rintro E ⟨z4, z5, z6, z7, z8, rfl⟩
        walk_at "ux"
        intro x
        refine ⟨x, .int (m : Nat), .list (tl us), rfl, .inr ⟨m, us, fun L k v => True, rfl, rfl, h1, h60, hts2, hln2, ⟨fun _ => trivial, fun _ _ => trivial, fun _ => trivial⟩, trivial, fun _ _ _ _ => trivial, fun C en hG hgn _ _ => ?_⟩⟩
        refine ⟨rfl, _, _, rfl, ?_⟩
        rw [← en]
        have eg : objD "Group" (List.zip (List.map PyData.str ["made", "many", "chain", "steps"]) [.list (tl us), .int (C.n : Nat), chainD C, .list (bigD C)]) = groupD C us := rfl
        rw [eg]
        refine ⟨rfl, C, us, rfl, by omega, ?_⟩
        walk_at "ux"
        refine ⟨shaped_tl us, shaped_tl us, ?_⟩
        rw [eqv_tl, decide_eq_true rfl, if_pos rfl]
        walk_at "ux"
        exact ⟨shaped_tl us, shaped_tl us, q⟩
  · rw [if_neg hc]
    obtain ⟨m, em, h1, h60⟩ := many_of (ns.getD 0 0)
    rw [em]
    refine ⟨ns, 1, rfl, ?_⟩
    refine ⟨_, m, rfl, h1, h60, ?_⟩
    walk_at "ux"
    have ht : IsT m (trnF (ns.getD 1 0) m) := free_isT _ _
    generalize trnF (ns.getD 1 0) m = t at ht ⊢
    refine ⟨ns, 2, rfl, ?_⟩
    walk_at "ux"
    obtain ⟨j, ej, hj⟩ : ∃ j : Nat, ns.getD 2 0 % 5 = (j : Int) ∧ j ≤ 4 := ⟨(ns.getD 2 0 % 5).toNat, by omega, by omega⟩
    rw [ej]
    obtain ⟨ex, hex⟩ : ∃ ex : Nat → Nat, ∀ k : Nat, (1 : Int) + ns.getD 3 0 / 3 / (1 + (k : Int)) % 9 = ((ex k : Nat) : Int) ∧ ex k ≤ 1000 := ⟨fun k => ((1 : Int) + ns.getD 3 0 / 3 / (1 + (k : Int)) % 9).toNat, fun k => ⟨by dsimp only; omega, by dsimp only; omega⟩⟩
    refine ⟨by show (0 : Int) < 5; decide, by omega, by omega, by rw [range_len, Int.toNat_natCast, sizeLine_eq]; omega, nf fun k => tn (pwN m t (ex k)), fun d hd => ?_, ?_⟩
    · rw [Int.toNat_natCast, range0] at hd
      obtain ⟨k, hk, rfl⟩ := nl_mem hd
      have hk := List.mem_range.mp hk
      rw [nf_int]
      refine ⟨ns, 3, rfl, ?_⟩
      walk_at "ux"
      obtain ⟨e1, e2⟩ := hex k
      rw [e1]
      refine ⟨c3 _, by rw [show (1 : Int) + (k : Int) = ((1 + k : Nat) : Int) by omega]; exact cdiv_small (by omega) (by omega), by show (0 : Int) < 9; decide, m, t, ex k, rfl, ht, h60, e2, rfl⟩
    rw [Int.toNat_natCast, range0, nf_map, ← tl_map]
    refine ⟨ns, 2, rfl, ?_⟩
    walk_at "ux"
    refine ⟨c5 _, by show (0 : Int) < 9; decide, ?_⟩
    rw [if_neg hc]
    have hts : ∀ x ∈ (List.range j).map (fun k => pwN m t (ex k)), IsT m x := fun x hx => by
      obtain ⟨k, _, rfl⟩ := List.mem_map.mp hx
      exact pwN_isT ht _
    have hln : ((List.range j).map (fun k => pwN m t (ex k))).length ≤ 201 := by rw [List.length_map, List.length_range]; omega
    generalize (List.range j).map (fun k => pwN m t (ex k)) = ts at hts hln ⊢
    rw [tl_len']
    by_cases hgt : 200 < ts.length
    · rw [decide_eq_true (by omega), if_pos rfl]
      refine ⟨_, _, rfl, lookB_many (by rw [tl_len']; exact hgt), ?_⟩
      walk_at "ux"
      rw [show cut (tl ts) none (some (200 : Int)) = (tl ts).take 200 from cut_take (tl ts) 200, tl_take]
      have hts2 : ∀ x ∈ ts.take 200, IsT m x := fun x hx => hts x (List.mem_of_mem_take hx)
      have hln2 : (ts.take 200).length ≤ 200 := by rw [List.length_take]; omega
      generalize ts.take 200 = us at hts2 hln2 ⊢
      rw [wFor_eq]
      walk_at "ux"
      rw [ints_cut]
      have hcl := cut_len ns (some 4) (some 44)
      refine ⟨by rw [sizeLine_eq]; decide, by rw [List.length_map, sizeLine_eq]; omega, fun i E => ∃ z4 z5 z6 z7 z8, E = [.bo (ns.map PyData.int), .fr (.int (m : Nat)), .fr (tn t), .fr (.list (tl us)), z4, z5, z6, z7, z8], ⟨_, _, _, _, _, rfl⟩, ?_, ?_⟩
      · rintro i d E he ⟨z4, z5, z6, z7, z8, rfl⟩
        obtain ⟨c, rfl⟩ : ∃ c, d = .int c := by
          cases i with
          | zero => exact ⟨0, (Option.some.inj he).symm⟩
          | succ i =>
            rw [List.getElem?_cons_succ, List.getElem?_map] at he
            cases hh : (cut ns (some 4) (some 44))[i]? with
            | none => rw [hh] at he; cases he
            | some c => rw [hh] at he; exact ⟨c, (Option.some.inj he).symm⟩
        walk_at "ux"
        have c40 : CPow 10 40 := ⟨by decide, by decide, by decide⟩
        have p40 : CPos c (10 ^ Int.toNat 40) := by show (0 : Int) < 10 ^ Int.toNat 40; decide
        rw [tl_len']
        by_cases hs : us.length < 200
        · rw [decide_eq_true (by omega), if_pos rfl]
          refine ⟨c40, p40, m, us, _, rfl, hts2, h1, h60, hln2, fun d e hde => ?_⟩
          walk_at "ux"
          refine ⟨d, rfl, ?_⟩
          walk_at "ux"
          refine ⟨e, rfl, d, e, rfl, hde, ?_⟩
          exact ⟨true, rfl, _, _, _, _, _, rfl⟩
        rw [decide_eq_false (by omega), if_neg (by decide)]
        refine ⟨by show (0 : Int) < 4; decide, ?_⟩
        by_cases hw : 1 < c % 4
        · rw [decide_eq_true hw, if_pos rfl]
          refine ⟨c40, p40, m, us, _, rfl, hts2, h1, h60, hln2, fun d e hde => ?_⟩
          walk_at "ux"
          refine ⟨d, rfl, ?_⟩
          walk_at "ux"
          refine ⟨e, rfl, d, e, rfl, hde, ?_⟩
          exact ⟨true, rfl, _, _, _, _, _, rfl⟩
        rw [decide_eq_false hw, if_neg (by decide)]
        have c1 := cut_len (tl us) none (some (c / 4 % 200))
        have c2 := cut_len (tl us) (some (1 + c / 4 % 200)) none
        rw [tl_len'] at c1 c2
        have d4 : CDivW c 4 := cdiv_small (j := 4) (by decide) (by decide)
        have p200 : CPos (c / 4) 200 := by show (0 : Int) < 200; decide
        refine ⟨d4, p200, by rw [sizeLine_eq]; decide, by rw [sizeLine_eq]; omega, d4, p200, ?_, _, _, rfl, lookB_mem (x := PyData.none) (by simp) rfl, ?_⟩
        · rw [List.length_append, sizeLine_eq]
          simp only [List.length_cons, List.length_nil]
          omega
        · exact ⟨true, rfl, _, _, _, _, _, rfl⟩
      · rintro E ⟨z4, z5, z6, z7, z8, rfl⟩
        walk_at "ux"
        intro x
        refine ⟨x, .int (m : Nat), .list (tl us), rfl, .inr ⟨m, us, fun L k v => True, rfl, rfl, h1, h60, hts2, hln2, ⟨fun _ => trivial, fun _ _ => trivial, fun _ => trivial⟩, trivial, fun _ _ _ _ => trivial, fun C en hG hgn _ _ => ?_⟩⟩
        refine ⟨rfl, _, _, rfl, ?_⟩
        rw [← en]
        have eg : objD "Group" (List.zip (List.map PyData.str ["made", "many", "chain", "steps"]) [.list (tl us), .int (C.n : Nat), chainD C, .list (bigD C)]) = groupD C us := rfl
        rw [eg]
        refine ⟨rfl, C, us, rfl, by omega, ?_⟩
        walk_at "ux"
        refine ⟨shaped_tl us, shaped_tl us, ?_⟩
        rw [eqv_tl, decide_eq_true rfl, if_pos rfl]
        walk_at "ux"
        exact ⟨shaped_tl us, shaped_tl us, q⟩
    · rw [decide_eq_false (by omega), if_neg (by decide)]
      have hts2 := hts
      have hln2 : ts.length ≤ 200 := by omega
      generalize ts = us at hts2 hln2 ⊢
      rw [wFor_eq]
      walk_at "ux"
      rw [ints_cut]
      have hcl := cut_len ns (some 4) (some 44)
      refine ⟨by rw [sizeLine_eq]; decide, by rw [List.length_map, sizeLine_eq]; omega, fun i E => ∃ z4 z5 z6 z7 z8, E = [.bo (ns.map PyData.int), .fr (.int (m : Nat)), .fr (tn t), .fr (.list (tl us)), z4, z5, z6, z7, z8], ⟨_, _, _, _, _, rfl⟩, ?_, ?_⟩
      · rintro i d E he ⟨z4, z5, z6, z7, z8, rfl⟩
        obtain ⟨c, rfl⟩ : ∃ c, d = .int c := by
          cases i with
          | zero => exact ⟨0, (Option.some.inj he).symm⟩
          | succ i =>
            rw [List.getElem?_cons_succ, List.getElem?_map] at he
            cases hh : (cut ns (some 4) (some 44))[i]? with
            | none => rw [hh] at he; cases he
            | some c => rw [hh] at he; exact ⟨c, (Option.some.inj he).symm⟩
        walk_at "ux"
        have c40 : CPow 10 40 := ⟨by decide, by decide, by decide⟩
        have p40 : CPos c (10 ^ Int.toNat 40) := by show (0 : Int) < 10 ^ Int.toNat 40; decide
        rw [tl_len']
        by_cases hs : us.length < 200
        · rw [decide_eq_true (by omega), if_pos rfl]
          refine ⟨c40, p40, m, us, _, rfl, hts2, h1, h60, hln2, fun d e hde => ?_⟩
          walk_at "ux"
          refine ⟨d, rfl, ?_⟩
          walk_at "ux"
          refine ⟨e, rfl, d, e, rfl, hde, ?_⟩
          exact ⟨true, rfl, _, _, _, _, _, rfl⟩
        rw [decide_eq_false (by omega), if_neg (by decide)]
        refine ⟨by show (0 : Int) < 4; decide, ?_⟩
        by_cases hw : 1 < c % 4
        · rw [decide_eq_true hw, if_pos rfl]
          refine ⟨c40, p40, m, us, _, rfl, hts2, h1, h60, hln2, fun d e hde => ?_⟩
          walk_at "ux"
          refine ⟨d, rfl, ?_⟩
          walk_at "ux"
          refine ⟨e, rfl, d, e, rfl, hde, ?_⟩
          exact ⟨true, rfl, _, _, _, _, _, rfl⟩
        rw [decide_eq_false hw, if_neg (by decide)]
        have c1 := cut_len (tl us) none (some (c / 4 % 200))
        have c2 := cut_len (tl us) (some (1 + c / 4 % 200)) none
        rw [tl_len'] at c1 c2
        have d4 : CDivW c 4 := cdiv_small (j := 4) (by decide) (by decide)
        have p200 : CPos (c / 4) 200 := by show (0 : Int) < 200; decide
        refine ⟨d4, p200, by rw [sizeLine_eq]; decide, by rw [sizeLine_eq]; omega, d4, p200, ?_, _, _, rfl, lookB_mem (x := PyData.none) (by simp) rfl, ?_⟩
        · rw [List.length_append, sizeLine_eq]
          simp only [List.length_cons, List.length_nil]
          omega
        · exact ⟨true, rfl, _, _, _, _, _, rfl⟩
      · rintro E ⟨z4, z5, z6, z7, z8, rfl⟩
        walk_at "ux"
        intro x
        refine ⟨x, .int (m : Nat), .list (tl us), rfl, .inr ⟨m, us, fun L k v => True, rfl, rfl, h1, h60, hts2, hln2, ⟨fun _ => trivial, fun _ _ => trivial, fun _ => trivial⟩, trivial, fun _ _ _ _ => trivial, fun C en hG hgn _ _ => ?_⟩⟩
        refine ⟨rfl, _, _, rfl, ?_⟩
        rw [← en]
        have eg : objD "Group" (List.zip (List.map PyData.str ["made", "many", "chain", "steps"]) [.list (tl us), .int (C.n : Nat), chainD C, .list (bigD C)]) = groupD C us := rfl
        rw [eg]
        refine ⟨rfl, C, us, rfl, by omega, ?_⟩
        walk_at "ux"
        refine ⟨shaped_tl us, shaped_tl us, ?_⟩
        rw [eqv_tl, decide_eq_true rfl, if_pos rfl]
        walk_at "ux"
        exact ⟨shaped_tl us, shaped_tl us, q⟩
theorem law_holds (ns : List Int) (hl : ns.length ≤ 63) (hb : ∀ z ∈ ns, Builtin.Int.intBits z ≤ 1048576) : g_law [.list (ns.map PyData.int)] (fun d => d = .bool true) (fun _ => False) := ⟨ns, rfl, hb, hl, rfl⟩

end
/-! ### what the top has written; the end -/
theorem all_mk {l : PySem.W.OpenLaw} {w : World} {K : PySem.W.Frag} {h : Heap} {mg : Str → Option Value} {fa : Addr} (X : K.In h) (G : h.Ns mainGlobals mg) (hfa : mg "law" = some (.ref fa))
    {f0 : Addr} {od0 an0 : Option Addr} {sl0 : Array (Option Value)} {oc0 kV0 dc0 pm0 cd0 ct0 : Value}
    {f1 : Addr} {od1 an1 : Option Addr} {sl1 : Array (Option Value)} {oc1 kV1 dc1 pm1 cd1 ct1 : Value}
    {f2 : Addr} {od2 an2 : Option Addr} {sl2 : Array (Option Value)} {oc2 kV2 dc2 pm2 cd2 ct2 : Value}
    {f3 : Addr} {od3 an3 : Option Addr} {sl3 : Array (Option Value)} {oc3 kV3 dc3 pm3 cd3 ct3 : Value}
    {f4 : Addr} {od4 an4 : Option Addr} {sl4 : Array (Option Value)} {oc4 kV4 dc4 pm4 cd4 ct4 : Value}
    {f5 : Addr} {od5 an5 : Option Addr} {sl5 : Array (Option Value)} {oc5 kV5 dc5 pm5 cd5 ct5 : Value}
    {f6 : Addr} {od6 an6 : Option Addr} {sl6 : Array (Option Value)} {oc6 kV6 dc6 pm6 cd6 ct6 : Value}
    {f7 : Addr} {od7 an7 : Option Addr} {sl7 : Array (Option Value)} {oc7 kV7 dc7 pm7 cd7 ct7 : Value}
    {f8 : Addr} {od8 an8 : Option Addr} {sl8 : Array (Option Value)} {oc8 kV8 dc8 pm8 cd8 ct8 : Value}
    {f9 : Addr} {od9 an9 : Option Addr} {sl9 : Array (Option Value)} {oc9 kV9 dc9 pm9 cd9 ct9 : Value}
    {f10 : Addr} {od10 an10 : Option Addr} {sl10 : Array (Option Value)} {oc10 kV10 dc10 pm10 cd10 ct10 : Value}
    {f11 : Addr} {od11 an11 : Option Addr} {sl11 : Array (Option Value)} {oc11 kV11 dc11 pm11 cd11 ct11 : Value}
    {f12 : Addr} {od12 an12 : Option Addr} {sl12 : Array (Option Value)} {oc12 kV12 dc12 pm12 cd12 ct12 : Value}
    {f13 : Addr} {od13 an13 : Option Addr} {sl13 : Array (Option Value)} {oc13 kV13 dc13 pm13 cd13 ct13 : Value}
    {f14 : Addr} {od14 an14 : Option Addr} {sl14 : Array (Option Value)} {oc14 kV14 dc14 pm14 cd14 ct14 : Value}
    {f15 : Addr} {od15 an15 : Option Addr} {sl15 : Array (Option Value)} {oc15 kV15 dc15 pm15 cd15 ct15 : Value}
    {f16 : Addr} {od16 an16 : Option Addr} {sl16 : Array (Option Value)} {oc16 kV16 dc16 pm16 cd16 ct16 : Value}
    {f17 : Addr} {od17 an17 : Option Addr} {sl17 : Array (Option Value)} {oc17 kV17 dc17 pm17 cd17 ct17 : Value}
    {f18 : Addr} {od18 an18 : Option Addr} {sl18 : Array (Option Value)} {oc18 kV18 dc18 pm18 cd18 ct18 : Value}
    {f19 : Addr} {od19 an19 : Option Addr} {sl19 : Array (Option Value)} {oc19 kV19 dc19 pm19 cd19 ct19 : Value}
    {f20 : Addr} {od20 an20 : Option Addr} {sl20 : Array (Option Value)} {oc20 kV20 dc20 pm20 cd20 ct20 : Value}
    {f21 : Addr} {od21 an21 : Option Addr} {sl21 : Array (Option Value)} {oc21 kV21 dc21 pm21 cd21 ct21 : Value}
    {f22 : Addr} {od22 an22 : Option Addr} {sl22 : Array (Option Value)} {oc22 kV22 dc22 pm22 cd22 ct22 : Value}
    {C_Step : Addr}
    {C_Chain : Addr}
    {C_Group : Addr}
    {u_MOST : Value}
    {u_MOST_MAKERS : Value}
    {u_MOST_PLACES : Value}
    {cx0 : Addr}
    {cx1 : Addr}
    {cx2 : Addr}
    {cx3 : Addr}
    {cx4 : Addr}
    {cx5 : Addr}
    {cx6 : Addr}
    {cx7 : Addr}
    {cx8 : Addr}
    {cx9 : Addr}
    {cx10 : Addr}
    {cx11 : Addr}
    (aC_Step : PySem.W.nsIn K mainGlobals "Step" = some (some (.ref C_Step)))
    (mk_Step : PySem.W.makesIn K C_Step = true) (kc_Step : PySem.W.keepIn K (.ref C_Step) = true)
    (cl0_Step : PySem.W.plainGet K C_Step Str.empty = true)
    (cl1_Step : PySem.W.hasDictIn K C_Step = true)
    (cl2_Step : PySem.W.plainOver K C_Step = true)
    (cl3_Step : PySem.W.findIn K (.ref C_Step) "__setattr__" = some (some (.builtin "object.__setattr__")))
    (ha_Step : PySem.W.findIn K (.ref C_Step) "__class__" = some (some (.builtin "object.__class__")))
    (hm_Step : PySem.W.mroIn K C_Step (.type "object") = some true)
    (tyint_Step : PySem.W.kitOne K (.ref C_Step) (.type "int") = some false)
    (tybool_Step : PySem.W.kitOne K (.ref C_Step) (.type "bool") = some false)
    (tystr_Step : PySem.W.kitOne K (.ref C_Step) (.type "str") = some false)
    (tylist_Step : PySem.W.kitOne K (.ref C_Step) (.type "list") = some false)
    (tytuple_Step : PySem.W.kitOne K (.ref C_Step) (.type "tuple") = some false)
    (na_Step_place : PySem.W.findIn K (.ref C_Step) "place" = some none)
    (na_Step_lifts : PySem.W.findIn K (.ref C_Step) "lifts" = some none)
    (na_Step_makers : PySem.W.findIn K (.ref C_Step) "makers" = some none)
    (aC_Chain : PySem.W.nsIn K mainGlobals "Chain" = some (some (.ref C_Chain)))
    (mk_Chain : PySem.W.makesIn K C_Chain = true) (kc_Chain : PySem.W.keepIn K (.ref C_Chain) = true)
    (cl0_Chain : PySem.W.plainGet K C_Chain Str.empty = true)
    (cl1_Chain : PySem.W.hasDictIn K C_Chain = true)
    (cl2_Chain : PySem.W.plainOver K C_Chain = true)
    (cl3_Chain : PySem.W.findIn K (.ref C_Chain) "__setattr__" = some (some (.builtin "object.__setattr__")))
    (ha_Chain : PySem.W.findIn K (.ref C_Chain) "__class__" = some (some (.builtin "object.__class__")))
    (hm_Chain : PySem.W.mroIn K C_Chain (.type "object") = some true)
    (tyint_Chain : PySem.W.kitOne K (.ref C_Chain) (.type "int") = some false)
    (tybool_Chain : PySem.W.kitOne K (.ref C_Chain) (.type "bool") = some false)
    (tystr_Chain : PySem.W.kitOne K (.ref C_Chain) (.type "str") = some false)
    (tylist_Chain : PySem.W.kitOne K (.ref C_Chain) (.type "list") = some false)
    (tytuple_Chain : PySem.W.kitOne K (.ref C_Chain) (.type "tuple") = some false)
    (na_Chain_many : PySem.W.findIn K (.ref C_Chain) "many" = some none)
    (na_Chain_lines : PySem.W.findIn K (.ref C_Chain) "lines" = some none)
    (na_Chain_steps : PySem.W.findIn K (.ref C_Chain) "steps" = some none)
    (aC_Group : PySem.W.nsIn K mainGlobals "Group" = some (some (.ref C_Group)))
    (mk_Group : PySem.W.makesIn K C_Group = true) (kc_Group : PySem.W.keepIn K (.ref C_Group) = true)
    (cl0_Group : PySem.W.plainGet K C_Group Str.empty = true)
    (cl1_Group : PySem.W.hasDictIn K C_Group = true)
    (cl2_Group : PySem.W.plainOver K C_Group = true)
    (cl3_Group : PySem.W.findIn K (.ref C_Group) "__setattr__" = some (some (.builtin "object.__setattr__")))
    (ha_Group : PySem.W.findIn K (.ref C_Group) "__class__" = some (some (.builtin "object.__class__")))
    (hm_Group : PySem.W.mroIn K C_Group (.type "object") = some true)
    (tyint_Group : PySem.W.kitOne K (.ref C_Group) (.type "int") = some false)
    (tybool_Group : PySem.W.kitOne K (.ref C_Group) (.type "bool") = some false)
    (tystr_Group : PySem.W.kitOne K (.ref C_Group) (.type "str") = some false)
    (tylist_Group : PySem.W.kitOne K (.ref C_Group) (.type "list") = some false)
    (tytuple_Group : PySem.W.kitOne K (.ref C_Group) (.type "tuple") = some false)
    (na_Group_made : PySem.W.findIn K (.ref C_Group) "made" = some none)
    (na_Group_many : PySem.W.findIn K (.ref C_Group) "many" = some none)
    (na_Group_chain : PySem.W.findIn K (.ref C_Group) "chain" = some none)
    (na_Group_steps : PySem.W.findIn K (.ref C_Group) "steps" = some none)
    (io_hn : PySem.W.specialIn K (.builtin "object.__class__") "__get__" = some (some (.builtin "getset_descriptor.__get__")))
    (io_htk : PySem.W.takesIn K (.builtin "object.__class__") = some true)
    (a0 : PySem.W.nsIn K mainGlobals "_law_cell" = some (some (.ref f0)))
    (l0 : K.lookup f0 = some ⟨oc0, od0, .func (PySem.W.fnOf "_law_cell" "_law_cell" (defArgs s__law_cell) (defBody s__law_cell) (defScope s__law_cell) .none kV0 dc0 pm0 an0 cd0 ct0), sl0⟩) (c0 : PySem.W.codeIn K cd0 "_law_cell" = true) (k0 : PySem.W.keepIn K (.ref f0) = true)
    (a1 : PySem.W.nsIn K mainGlobals "_law_turning" = some (some (.ref f1)))
    (l1 : K.lookup f1 = some ⟨oc1, od1, .func (PySem.W.fnOf "_law_turning" "_law_turning" (defArgs s__law_turning) (defBody s__law_turning) (defScope s__law_turning) .none kV1 dc1 pm1 an1 cd1 ct1), sl1⟩) (c1 : PySem.W.codeIn K cd1 "_law_turning" = true) (k1 : PySem.W.keepIn K (.ref f1) = true)
    (a2 : PySem.W.nsIn K mainGlobals "_law_power" = some (some (.ref f2)))
    (l2 : K.lookup f2 = some ⟨oc2, od2, .func (PySem.W.fnOf "_law_power" "_law_power" (defArgs s__law_power) (defBody s__law_power) (defScope s__law_power) .none kV2 dc2 pm2 an2 cd2 ct2), sl2⟩) (c2 : PySem.W.codeIn K cd2 "_law_power" = true) (k2 : PySem.W.keepIn K (.ref f2) = true)
    (a3 : PySem.W.nsIn K mainGlobals "is_whole" = some (some (.ref f3)))
    (l3 : K.lookup f3 = some ⟨oc3, od3, .func (PySem.W.fnOf "is_whole" "is_whole" (defArgs s_is_whole) (defBody s_is_whole) (defScope s_is_whole) .none kV3 dc3 pm3 an3 cd3 ct3), sl3⟩) (c3 : PySem.W.codeIn K cd3 "is_whole" = true) (k3 : PySem.W.keepIn K (.ref f3) = true)
    (a4 : PySem.W.nsIn K mainGlobals "is_turning" = some (some (.ref f4)))
    (l4 : K.lookup f4 = some ⟨oc4, od4, .func (PySem.W.fnOf "is_turning" "is_turning" (defArgs s_is_turning) (defBody s_is_turning) (defScope s_is_turning) .none kV4 dc4 pm4 an4 cd4 ct4), sl4⟩) (c4 : PySem.W.codeIn K cd4 "is_turning" = true) (k4 : PySem.W.keepIn K (.ref f4) = true)
    (a5 : PySem.W.nsIn K mainGlobals "is_of" = some (some (.ref f5)))
    (l5 : K.lookup f5 = some ⟨oc5, od5, .func (PySem.W.fnOf "is_of" "is_of" (defArgs s_is_of) (defBody s_is_of) (defScope s_is_of) .none kV5 dc5 pm5 an5 cd5 ct5), sl5⟩) (c5 : PySem.W.codeIn K cd5 "is_of" = true) (k5 : PySem.W.keepIn K (.ref f5) = true)
    (a6 : PySem.W.nsIn K mainGlobals "looked_makers" = some (some (.ref f6)))
    (l6 : K.lookup f6 = some ⟨oc6, od6, .func (PySem.W.fnOf "looked_makers" "looked_makers" (defArgs s_looked_makers) (defBody s_looked_makers) (defScope s_looked_makers) .none kV6 dc6 pm6 an6 cd6 ct6), sl6⟩) (c6 : PySem.W.codeIn K cd6 "looked_makers" = true) (k6 : PySem.W.keepIn K (.ref f6) = true)
    (a7 : PySem.W.nsIn K mainGlobals "still" = some (some (.ref f7)))
    (l7 : K.lookup f7 = some ⟨oc7, od7, .func (PySem.W.fnOf "still" "still" (defArgs s_still) (defBody s_still) (defScope s_still) .none kV7 dc7 pm7 an7 cd7 ct7), sl7⟩) (c7 : PySem.W.codeIn K cd7 "still" = true) (k7 : PySem.W.keepIn K (.ref f7) = true)
    (a8 : PySem.W.findIn K (.ref C_Step) "__init__" = some (some (.ref f8))) (i8 : PySem.W.isFn K (.ref f8) = true)
    (l8 : K.lookup f8 = some ⟨oc8, od8, .func (PySem.W.fnOf "__init__" "Step.__init__" (defArgs s_Step___init__) (defBody s_Step___init__) (defScope s_Step___init__) .none kV8 dc8 pm8 an8 cd8 ct8), sl8⟩) (c8 : PySem.W.codeIn K cd8 "Step.__init__" = true) (k8 : PySem.W.keepIn K (.ref f8) = true)
    (a9 : PySem.W.findIn K (.ref C_Chain) "__init__" = some (some (.ref f9))) (i9 : PySem.W.isFn K (.ref f9) = true)
    (l9 : K.lookup f9 = some ⟨oc9, od9, .func (PySem.W.fnOf "__init__" "Chain.__init__" (defArgs s_Chain___init__) (defBody s_Chain___init__) (defScope s_Chain___init__) .none kV9 dc9 pm9 an9 cd9 ct9), sl9⟩) (c9 : PySem.W.codeIn K cd9 "Chain.__init__" = true) (k9 : PySem.W.keepIn K (.ref f9) = true)
    (a10 : PySem.W.nsIn K mainGlobals "behind" = some (some (.ref f10)))
    (l10 : K.lookup f10 = some ⟨oc10, od10, .func (PySem.W.fnOf "behind" "behind" (defArgs s_behind) (defBody s_behind) (defScope s_behind) .none kV10 dc10 pm10 an10 cd10 ct10), sl10⟩) (c10 : PySem.W.codeIn K cd10 "behind" = true) (k10 : PySem.W.keepIn K (.ref f10) = true)
    (a11 : PySem.W.nsIn K mainGlobals "back" = some (some (.ref f11)))
    (l11 : K.lookup f11 = some ⟨oc11, od11, .func (PySem.W.fnOf "back" "back" (defArgs s_back) (defBody s_back) (defScope s_back) .none kV11 dc11 pm11 an11 cd11 ct11), sl11⟩) (c11 : PySem.W.codeIn K cd11 "back" = true) (k11 : PySem.W.keepIn K (.ref f11) = true)
    (a12 : PySem.W.findIn K (.ref C_Chain) "rest" = some (some (.ref f12))) (i12 : PySem.W.isFn K (.ref f12) = true)
    (l12 : K.lookup f12 = some ⟨oc12, od12, .func (PySem.W.fnOf "rest" "Chain.rest" (defArgs s_Chain_rest) (defBody s_Chain_rest) (defScope s_Chain_rest) .none kV12 dc12 pm12 an12 cd12 ct12), sl12⟩) (c12 : PySem.W.codeIn K cd12 "Chain.rest" = true) (k12 : PySem.W.keepIn K (.ref f12) = true)
    (a13 : PySem.W.findIn K (.ref C_Chain) "noted" = some (some (.ref f13))) (i13 : PySem.W.isFn K (.ref f13) = true)
    (l13 : K.lookup f13 = some ⟨oc13, od13, .func (PySem.W.fnOf "noted" "Chain.noted" (defArgs s_Chain_noted) (defBody s_Chain_noted) (defScope s_Chain_noted) .none kV13 dc13 pm13 an13 cd13 ct13), sl13⟩) (c13 : PySem.W.codeIn K cd13 "Chain.noted" = true) (k13 : PySem.W.keepIn K (.ref f13) = true)
    (a14 : PySem.W.findIn K (.ref C_Chain) "grown" = some (some (.ref f14))) (i14 : PySem.W.isFn K (.ref f14) = true)
    (l14 : K.lookup f14 = some ⟨oc14, od14, .func (PySem.W.fnOf "grown" "Chain.grown" (defArgs s_Chain_grown) (defBody s_Chain_grown) (defScope s_Chain_grown) .none kV14 dc14 pm14 an14 cd14 ct14), sl14⟩) (c14 : PySem.W.codeIn K cd14 "Chain.grown" = true) (k14 : PySem.W.keepIn K (.ref f14) = true)
    (a15 : PySem.W.findIn K (.ref C_Chain) "line_of" = some (some (.ref f15))) (i15 : PySem.W.isFn K (.ref f15) = true)
    (l15 : K.lookup f15 = some ⟨oc15, od15, .func (PySem.W.fnOf "line_of" "Chain.line_of" (defArgs s_Chain_line_of) (defBody s_Chain_line_of) (defScope s_Chain_line_of) .none kV15 dc15 pm15 an15 cd15 ct15), sl15⟩) (c15 : PySem.W.codeIn K cd15 "Chain.line_of" = true) (k15 : PySem.W.keepIn K (.ref f15) = true)
    (a16 : PySem.W.findIn K (.ref C_Chain) "add" = some (some (.ref f16))) (i16 : PySem.W.isFn K (.ref f16) = true)
    (l16 : K.lookup f16 = some ⟨oc16, od16, .func (PySem.W.fnOf "add" "Chain.add" (defArgs s_Chain_add) (defBody s_Chain_add) (defScope s_Chain_add) .none kV16 dc16 pm16 an16 cd16 ct16), sl16⟩) (c16 : PySem.W.codeIn K cd16 "Chain.add" = true) (k16 : PySem.W.keepIn K (.ref f16) = true)
    (a17 : PySem.W.findIn K (.ref C_Group) "__init__" = some (some (.ref f17))) (i17 : PySem.W.isFn K (.ref f17) = true)
    (l17 : K.lookup f17 = some ⟨oc17, od17, .func (PySem.W.fnOf "__init__" "Group.__init__" (defArgs s_Group___init__) (defBody s_Group___init__) (defScope s_Group___init__) .none kV17 dc17 pm17 an17 cd17 ct17), sl17⟩) (c17 : PySem.W.codeIn K cd17 "Group.__init__" = true) (k17 : PySem.W.keepIn K (.ref f17) = true)
    (a18 : PySem.W.nsIn K mainGlobals "_law_refused" = some (some (.ref f18)))
    (l18 : K.lookup f18 = some ⟨oc18, od18, .func (PySem.W.fnOf "_law_refused" "_law_refused" (defArgs s__law_refused) (defBody s__law_refused) (defScope s__law_refused) .none kV18 dc18 pm18 an18 cd18 ct18), sl18⟩) (c18 : PySem.W.codeIn K cd18 "_law_refused" = true) (k18 : PySem.W.keepIn K (.ref f18) = true)
    (a19 : PySem.W.nsIn K mainGlobals "_law_bad_maker" = some (some (.ref f19)))
    (l19 : K.lookup f19 = some ⟨oc19, od19, .func (PySem.W.fnOf "_law_bad_maker" "_law_bad_maker" (defArgs s__law_bad_maker) (defBody s__law_bad_maker) (defScope s__law_bad_maker) .none kV19 dc19 pm19 an19 cd19 ct19), sl19⟩) (c19 : PySem.W.codeIn K cd19 "_law_bad_maker" = true) (k19 : PySem.W.keepIn K (.ref f19) = true)
    (a20 : PySem.W.nsIn K mainGlobals "_law_bad" = some (some (.ref f20)))
    (l20 : K.lookup f20 = some ⟨oc20, od20, .func (PySem.W.fnOf "_law_bad" "_law_bad" (defArgs s__law_bad) (defBody s__law_bad) (defScope s__law_bad) .none kV20 dc20 pm20 an20 cd20 ct20), sl20⟩) (c20 : PySem.W.codeIn K cd20 "_law_bad" = true) (k20 : PySem.W.keepIn K (.ref f20) = true)
    (a21 : PySem.W.findIn K (.ref C_Group) "told" = some (some (.ref f21))) (i21 : PySem.W.isFn K (.ref f21) = true)
    (l21 : K.lookup f21 = some ⟨oc21, od21, .func (PySem.W.fnOf "told" "Group.told" (defArgs s_Group_told) (defBody s_Group_told) (defScope s_Group_told) .none kV21 dc21 pm21 an21 cd21 ct21), sl21⟩) (c21 : PySem.W.codeIn K cd21 "Group.told" = true) (k21 : PySem.W.keepIn K (.ref f21) = true)
    (a22 : PySem.W.nsIn K mainGlobals "law" = some (some (.ref f22)))
    (l22 : K.lookup f22 = some ⟨oc22, od22, .func (PySem.W.fnOf "law" "law" (defArgs s_law) (defBody s_law) (defScope s_law) .none kV22 dc22 pm22 an22 cd22 ct22), sl22⟩) (c22 : PySem.W.codeIn K cd22 "law" = true) (k22 : PySem.W.keepIn K (.ref f22) = true)
    (z_ValueError : PySem.W.nsIn K mainGlobals "ValueError" = some none)
    (z_bool : PySem.W.nsIn K mainGlobals "bool" = some none)
    (z_enumerate : PySem.W.nsIn K mainGlobals "enumerate" = some none)
    (z_int : PySem.W.nsIn K mainGlobals "int" = some none)
    (z_isinstance : PySem.W.nsIn K mainGlobals "isinstance" = some none)
    (z_len : PySem.W.nsIn K mainGlobals "len" = some none)
    (z_list : PySem.W.nsIn K mainGlobals "list" = some none)
    (z_range : PySem.W.nsIn K mainGlobals "range" = some none)
    (z_str : PySem.W.nsIn K mainGlobals "str" = some none)
    (z_tuple : PySem.W.nsIn K mainGlobals "tuple" = some none)
    (g_MOST : PySem.W.nsIn K mainGlobals "MOST" = some (some u_MOST)) (r_MOST : RelV (V.int 60) u_MOST)
    (g_MOST_MAKERS : PySem.W.nsIn K mainGlobals "MOST_MAKERS" = some (some u_MOST_MAKERS)) (r_MOST_MAKERS : RelV (V.int 200) u_MOST_MAKERS)
    (g_MOST_PLACES : PySem.W.nsIn K mainGlobals "MOST_PLACES" = some (some u_MOST_PLACES)) (r_MOST_PLACES : RelV (V.int 60) u_MOST_PLACES)
    (gx0 : PySem.W.nsIn K mainGlobals "TurnError" = some (some (.ref cx0)))
    (gx1 : PySem.W.nsIn K mainGlobals "NoTurning" = some (some (.ref cx1)))
    (gx2 : PySem.W.nsIn K mainGlobals "NoText" = some (some (.ref cx2)))
    (gx3 : PySem.W.nsIn K mainGlobals "NoRecipe" = some (some (.ref cx3)))
    (gx4 : PySem.W.nsIn K mainGlobals "NoGroup" = some (some (.ref cx4)))
    (gx5 : PySem.W.nsIn K mainGlobals "NoNumber" = some (some (.ref cx5)))
    (gx6 : PySem.W.nsIn K mainGlobals "NotIn" = some (some (.ref cx6)))
    (gx7 : PySem.W.nsIn K mainGlobals "TooMany" = some (some (.ref cx7)))
    (gx8 : PySem.W.nsIn K mainGlobals "NoThing" = some (some (.ref cx8)))
    (gx9 : PySem.W.nsIn K mainGlobals "NotPart" = some (some (.ref cx9)))
    (gx10 : PySem.W.nsIn K mainGlobals "NoName" = some (some (.ref cx10)))
    (gx11 : PySem.W.nsIn K mainGlobals "NoLine" = some (some (.ref cx11)))
    (xt : XAll K [("TurnError", cx0), ("NoTurning", cx1), ("NoText", cx2), ("NoRecipe", cx3), ("NoGroup", cx4), ("NoNumber", cx5), ("NotIn", cx6), ("TooMany", cx7), ("NoThing", cx8), ("NotPart", cx9), ("NoName", cx10), ("NoLine", cx11)] [("TurnError", cx0), ("NoTurning", cx1), ("NoText", cx2), ("NoRecipe", cx3), ("NoGroup", cx4), ("NoNumber", cx5), ("NotIn", cx6), ("TooMany", cx7), ("NoThing", cx8), ("NotPart", cx9), ("NoName", cx10), ("NoLine", cx11)]) :
    ∃ fd : FuncData, (∀ (s : Shared) (v : Value), BindsTo s fd ⟨[v], []⟩ [("_law_script", v)]) ∧ ∀ base : Heap, K.In base → base.Ns mainGlobals mg → FnOk l.prog w K mg base (L2.CX l.prog w) 9 fa fd ["_law_script"] (spLaw g_law K) := by
  have e := hfa.symm.trans (PySem.W.mg_of X G a22)
  cases e
  have F0 := fun_mk (st := s__law_cell) l0 c0 k0
  have F1 := fun_mk (st := s__law_turning) l1 c1 k1
  have F2 := fun_mk (st := s__law_power) l2 c2 k2
  have F3 := fun_mk (st := s_is_whole) l3 c3 k3
  have F4 := fun_mk (st := s_is_turning) l4 c4 k4
  have F5 := fun_mk (st := s_is_of) l5 c5 k5
  have F6 := fun_mk (st := s_looked_makers) l6 c6 k6
  have F7 := fun_mk (st := s_still) l7 c7 k7
  have F8 := fun_mk (st := s_Step___init__) l8 c8 k8
  have F9 := fun_mk (st := s_Chain___init__) l9 c9 k9
  have F10 := fun_mk (st := s_behind) l10 c10 k10
  have F11 := fun_mk (st := s_back) l11 c11 k11
  have F12 := fun_mk (st := s_Chain_rest) l12 c12 k12
  have F13 := fun_mk (st := s_Chain_noted) l13 c13 k13
  have F14 := fun_mk (st := s_Chain_grown) l14 c14 k14
  have F15 := fun_mk (st := s_Chain_line_of) l15 c15 k15
  have F16 := fun_mk (st := s_Chain_add) l16 c16 k16
  have F17 := fun_mk (st := s_Group___init__) l17 c17 k17
  have F18 := fun_mk (st := s__law_refused) l18 c18 k18
  have F19 := fun_mk (st := s__law_bad_maker) l19 c19 k19
  have F20 := fun_mk (st := s__law_bad) l20 c20 k20
  have F21 := fun_mk (st := s_Group_told) l21 c21 k21
  have F22 := fun_mk (st := s_law) l22 c22 k22
  have eC_Step : cA K "Step" = C_Step := cA_of aC_Step
  subst eC_Step
  have eC_Chain : cA K "Chain" = C_Chain := cA_of aC_Chain
  subst eC_Chain
  have eC_Group : cA K "Group" = C_Group := cA_of aC_Group
  subst eC_Group
  have T : Tx K mg := {
    d__law_cell := ⟨_, _, F0, PySem.W.mg_of X G a0⟩
    d__law_turning := ⟨_, _, F1, PySem.W.mg_of X G a1⟩
    d__law_power := ⟨_, _, F2, PySem.W.mg_of X G a2⟩
    d_is_whole := ⟨_, _, F3, PySem.W.mg_of X G a3⟩
    d_is_turning := ⟨_, _, F4, PySem.W.mg_of X G a4⟩
    d_is_of := ⟨_, _, F5, PySem.W.mg_of X G a5⟩
    d_looked_makers := ⟨_, _, F6, PySem.W.mg_of X G a6⟩
    d_still := ⟨_, _, F7, PySem.W.mg_of X G a7⟩
    d_Step___init__ := ⟨_, _, F8, ⟨mk_Step, a8, i8, kc_Step⟩⟩
    d_Chain___init__ := ⟨_, _, F9, ⟨mk_Chain, a9, i9, kc_Chain⟩⟩
    d_behind := ⟨_, _, F10, PySem.W.mg_of X G a10⟩
    d_back := ⟨_, _, F11, PySem.W.mg_of X G a11⟩
    d_Chain_rest := ⟨_, _, F12, ⟨a12, i12, k12⟩⟩
    d_Chain_noted := ⟨_, _, F13, ⟨a13, i13, k13⟩⟩
    d_Chain_grown := ⟨_, _, F14, ⟨a14, i14, k14⟩⟩
    d_Chain_line_of := ⟨_, _, F15, ⟨a15, i15, k15⟩⟩
    d_Chain_add := ⟨_, _, F16, ⟨a16, i16, k16⟩⟩
    d_Group___init__ := ⟨_, _, F17, ⟨mk_Group, a17, i17, kc_Group⟩⟩
    d__law_refused := ⟨_, _, F18, PySem.W.mg_of X G a18⟩
    d__law_bad_maker := ⟨_, _, F19, PySem.W.mg_of X G a19⟩
    d__law_bad := ⟨_, _, F20, PySem.W.mg_of X G a20⟩
    d_Group_told := ⟨_, _, F21, ⟨a21, i21, k21⟩⟩
    d_law := ⟨_, _, F22, PySem.W.mg_of X G a22⟩
    io_Step := ⟨⟨cl0_Step, cl1_Step, cl2_Step, cl3_Step⟩, ha_Step, io_hn, io_htk, hm_Step, fun T hT => by
      simp only [five, List.mem_cons, List.not_mem_nil, or_false] at hT
      rcases hT with rfl | rfl | rfl | rfl | rfl
      · exact tyint_Step
      · exact tybool_Step
      · exact tystr_Step
      · exact tylist_Step
      · exact tytuple_Step
      ⟩
    mg_Step := PySem.W.mg_of X G aC_Step
    na_Step_place := na_Step_place
    na_Step_lifts := na_Step_lifts
    na_Step_makers := na_Step_makers
    io_Chain := ⟨⟨cl0_Chain, cl1_Chain, cl2_Chain, cl3_Chain⟩, ha_Chain, io_hn, io_htk, hm_Chain, fun T hT => by
      simp only [five, List.mem_cons, List.not_mem_nil, or_false] at hT
      rcases hT with rfl | rfl | rfl | rfl | rfl
      · exact tyint_Chain
      · exact tybool_Chain
      · exact tystr_Chain
      · exact tylist_Chain
      · exact tytuple_Chain
      ⟩
    mg_Chain := PySem.W.mg_of X G aC_Chain
    na_Chain_many := na_Chain_many
    na_Chain_lines := na_Chain_lines
    na_Chain_steps := na_Chain_steps
    io_Group := ⟨⟨cl0_Group, cl1_Group, cl2_Group, cl3_Group⟩, ha_Group, io_hn, io_htk, hm_Group, fun T hT => by
      simp only [five, List.mem_cons, List.not_mem_nil, or_false] at hT
      rcases hT with rfl | rfl | rfl | rfl | rfl
      · exact tyint_Group
      · exact tybool_Group
      · exact tystr_Group
      · exact tylist_Group
      · exact tytuple_Group
      ⟩
    mg_Group := PySem.W.mg_of X G aC_Group
    na_Group_made := na_Group_made
    na_Group_many := na_Group_many
    na_Group_chain := na_Group_chain
    na_Group_steps := na_Group_steps
    n_ValueError := PySem.W.mg_none_of X G z_ValueError
    n_bool := PySem.W.mg_none_of X G z_bool
    n_enumerate := PySem.W.mg_none_of X G z_enumerate
    n_int := PySem.W.mg_none_of X G z_int
    n_isinstance := PySem.W.mg_none_of X G z_isinstance
    n_len := PySem.W.mg_none_of X G z_len
    n_list := PySem.W.mg_none_of X G z_list
    n_range := PySem.W.mg_none_of X G z_range
    n_str := PySem.W.mg_none_of X G z_str
    n_tuple := PySem.W.mg_none_of X G z_tuple
    c_MOST := ⟨_, PySem.W.mg_of X G g_MOST, r_MOST⟩
    c_MOST_MAKERS := ⟨_, PySem.W.mg_of X G g_MOST_MAKERS, r_MOST_MAKERS⟩
    c_MOST_PLACES := ⟨_, PySem.W.mg_of X G g_MOST_PLACES, r_MOST_PLACES⟩
    x := xt_of X G (.cons gx0 (.cons gx1 (.cons gx2 (.cons gx3 (.cons gx4 (.cons gx5 (.cons gx6 (.cons gx7 (.cons gx8 (.cons gx9 (.cons gx10 (.cons gx11 .nil)))))))))))) xt
  }
  exact ⟨_, fun s v => .of_eq rfl, fun base _ _ => ok_law T F22⟩
end Cl
open PySem PySem.W PyProof.Rows
set_option maxHeartbeats 0 in
theorem PySem.Challenge.cw_turnbase_k32_no_group_holds : PySem.Challenge.rw_turnbase_k32_no_group.Holds := by
  w_on; o_law; k_head; (case hw => w_witness2)
  k_fill
  refine L2.walk_ofB (l := PySem.Challenge.rw_turnbase_k32_no_group) (n := 63) (k := 9) (x := "_law_script") (CX := fun w => L2.CX PySem.Challenge.rw_turnbase_k32_no_group.prog w) (sp := fun w => Tb.spLaw Cl.g_law _) rfl (by decide) rfl ⟨rfl, by decide, by decide⟩ (fun w h Y => PySem.W.kIn_of Y) ?F (fun _ _ a ns hl hb _ hS => Tb.law_start hS (Cl.law_holds ns hl hb)) (fun _ _ _ _ _ h => Tb.lawCX _ _ _ _ h)
  case F =>
    intro w mg fa h KX G hmg
    refine' Cl.all_mk KX G hmg ?aC_Step ?mk_Step ?kc_Step ?cl0_Step ?cl1_Step ?cl2_Step ?cl3_Step ?ha_Step ?hm_Step ?tyint_Step ?tybool_Step ?tystr_Step ?tylist_Step ?tytuple_Step ?na_Step_place ?na_Step_lifts ?na_Step_makers ?aC_Chain ?mk_Chain ?kc_Chain ?cl0_Chain ?cl1_Chain ?cl2_Chain ?cl3_Chain ?ha_Chain ?hm_Chain ?tyint_Chain ?tybool_Chain ?tystr_Chain ?tylist_Chain ?tytuple_Chain ?na_Chain_many ?na_Chain_lines ?na_Chain_steps ?aC_Group ?mk_Group ?kc_Group ?cl0_Group ?cl1_Group ?cl2_Group ?cl3_Group ?ha_Group ?hm_Group ?tyint_Group ?tybool_Group ?tystr_Group ?tylist_Group ?tytuple_Group ?na_Group_made ?na_Group_many ?na_Group_chain ?na_Group_steps ?io_hn ?io_htk ?a0 ?l0 ?c0 ?k0 ?a1 ?l1 ?c1 ?k1 ?a2 ?l2 ?c2 ?k2 ?a3 ?l3 ?c3 ?k3 ?a4 ?l4 ?c4 ?k4 ?a5 ?l5 ?c5 ?k5 ?a6 ?l6 ?c6 ?k6 ?a7 ?l7 ?c7 ?k7 ?a8 ?i8 ?l8 ?c8 ?k8 ?a9 ?i9 ?l9 ?c9 ?k9 ?a10 ?l10 ?c10 ?k10 ?a11 ?l11 ?c11 ?k11 ?a12 ?i12 ?l12 ?c12 ?k12 ?a13 ?i13 ?l13 ?c13 ?k13 ?a14 ?i14 ?l14 ?c14 ?k14 ?a15 ?i15 ?l15 ?c15 ?k15 ?a16 ?i16 ?l16 ?c16 ?k16 ?a17 ?i17 ?l17 ?c17 ?k17 ?a18 ?l18 ?c18 ?k18 ?a19 ?l19 ?c19 ?k19 ?a20 ?l20 ?c20 ?k20 ?a21 ?i21 ?l21 ?c21 ?k21 ?a22 ?l22 ?c22 ?k22 ?z_ValueError ?z_bool ?z_enumerate ?z_int ?z_isinstance ?z_len ?z_list ?z_range ?z_str ?z_tuple ?g_MOST ?r_MOST ?g_MOST_MAKERS ?r_MOST_MAKERS ?g_MOST_PLACES ?r_MOST_PLACES ?gx0 ?gx1 ?gx2 ?gx3 ?gx4 ?gx5 ?gx6 ?gx7 ?gx8 ?gx9 ?gx10 ?gx11 ?xt
    (case aC_Step => k_is); (case mk_Step => k_is); (case kc_Step => k_is); (case cl0_Step => k_is); (case cl1_Step => k_is); (case cl2_Step => k_is); (case cl3_Step => k_is); (case ha_Step => k_is); (case hm_Step => k_is); (case tyint_Step => kit_is); (case tybool_Step => kit_is); (case tystr_Step => kit_is); (case tylist_Step => kit_is); (case tytuple_Step => kit_is); (case na_Step_place => k_is); (case na_Step_lifts => k_is); (case na_Step_makers => k_is); (case aC_Chain => k_is); (case mk_Chain => k_is); (case kc_Chain => k_is); (case cl0_Chain => k_is); (case cl1_Chain => k_is); (case cl2_Chain => k_is); (case cl3_Chain => k_is); (case ha_Chain => k_is); (case hm_Chain => k_is); (case tyint_Chain => kit_is); (case tybool_Chain => kit_is); (case tystr_Chain => kit_is); (case tylist_Chain => kit_is); (case tytuple_Chain => kit_is); (case na_Chain_many => k_is); (case na_Chain_lines => k_is); (case na_Chain_steps => k_is); (case aC_Group => k_is); (case mk_Group => k_is); (case kc_Group => k_is); (case cl0_Group => k_is); (case cl1_Group => k_is); (case cl2_Group => k_is); (case cl3_Group => k_is); (case ha_Group => k_is); (case hm_Group => k_is); (case tyint_Group => kit_is); (case tybool_Group => kit_is); (case tystr_Group => kit_is); (case tylist_Group => kit_is); (case tytuple_Group => kit_is); (case na_Group_made => k_is); (case na_Group_many => k_is); (case na_Group_chain => k_is); (case na_Group_steps => k_is); (case io_hn => k_is); (case io_htk => k_is); (case a0 => k_is); (case l0 => k_is); (case c0 => k_is); (case k0 => k_is); (case a1 => k_is); (case l1 => k_is); (case c1 => k_is); (case k1 => k_is); (case a2 => k_is); (case l2 => k_is); (case c2 => k_is); (case k2 => k_is); (case a3 => k_is); (case l3 => k_is); (case c3 => k_is); (case k3 => k_is); (case a4 => k_is); (case l4 => k_is); (case c4 => k_is); (case k4 => k_is); (case a5 => k_is); (case l5 => k_is); (case c5 => k_is); (case k5 => k_is); (case a6 => k_is); (case l6 => k_is); (case c6 => k_is); (case k6 => k_is); (case a7 => k_is); (case l7 => k_is); (case c7 => k_is); (case k7 => k_is); (case a8 => k_is); (case i8 => k_is); (case l8 => k_is); (case c8 => k_is); (case k8 => k_is); (case a9 => k_is); (case i9 => k_is); (case l9 => k_is); (case c9 => k_is); (case k9 => k_is); (case a10 => k_is); (case l10 => k_is); (case c10 => k_is); (case k10 => k_is); (case a11 => k_is); (case l11 => k_is); (case c11 => k_is); (case k11 => k_is); (case a12 => k_is); (case i12 => k_is); (case l12 => k_is); (case c12 => k_is); (case k12 => k_is); (case a13 => k_is); (case i13 => k_is); (case l13 => k_is); (case c13 => k_is); (case k13 => k_is); (case a14 => k_is); (case i14 => k_is); (case l14 => k_is); (case c14 => k_is); (case k14 => k_is); (case a15 => k_is); (case i15 => k_is); (case l15 => k_is); (case c15 => k_is); (case k15 => k_is); (case a16 => k_is); (case i16 => k_is); (case l16 => k_is); (case c16 => k_is); (case k16 => k_is); (case a17 => k_is); (case i17 => k_is); (case l17 => k_is); (case c17 => k_is); (case k17 => k_is); (case a18 => k_is); (case l18 => k_is); (case c18 => k_is); (case k18 => k_is); (case a19 => k_is); (case l19 => k_is); (case c19 => k_is); (case k19 => k_is); (case a20 => k_is); (case l20 => k_is); (case c20 => k_is); (case k20 => k_is); (case a21 => k_is); (case i21 => k_is); (case l21 => k_is); (case c21 => k_is); (case k21 => k_is); (case a22 => k_is); (case l22 => k_is); (case c22 => k_is); (case k22 => k_is); (case z_ValueError => k_is); (case z_bool => k_is); (case z_enumerate => k_is); (case z_int => k_is); (case z_isinstance => k_is); (case z_len => k_is); (case z_list => k_is); (case z_range => k_is); (case z_str => k_is); (case z_tuple => k_is); (case g_MOST => k_is); (case g_MOST_MAKERS => k_is); (case g_MOST_PLACES => k_is); (case gx0 => k_is); (case gx1 => k_is); (case gx2 => k_is); (case gx3 => k_is); (case gx4 => k_is); (case gx5 => k_is); (case gx6 => k_is); (case gx7 => k_is); (case gx8 => k_is); (case gx9 => k_is); (case gx10 => k_is); (case gx11 => k_is); (case xt => exact And.intro ⟨by k_exc, by k_is, by k_is, by k_is, by k_is, by k_is, by k_is, by k_is, by k_is, by k_is, by k_is, by kit_is, by kit_is, by kit_is, by kit_is, by kit_is, by kit_is, by kit_is, by kit_is, by kit_is, by kit_is, by kit_is, by kit_is, by kit_is⟩ (And.intro (And.intro (by kit_is) (And.intro (by kts_exm) (And.intro (by kit_is) (And.intro (by kts_exm) (And.intro (by kit_is) (And.intro (by kts_exm) (And.intro (by kit_is) (And.intro (by kts_exm) (And.intro (by kit_is) (And.intro (by kts_exm) (And.intro (by kit_is) (And.intro (by kts_exm) (And.intro (by kit_is) (And.intro (by kts_exm) (And.intro (by kit_is) (And.intro (by kts_exm) (And.intro (by kit_is) (And.intro (by kts_exm) (And.intro (by kit_is) (And.intro (by kts_exm) (And.intro (by kit_is) (And.intro (by kts_exm) (And.intro (by kit_is) (And.intro (by kts_exm) (trivial))))))))))))))))))))))))) (And.intro ⟨by k_exc, by k_is, by k_is, by k_is, by k_is, by k_is, by k_is, by k_is, by k_is, by k_is, by k_is, by kit_is, by kit_is, by kit_is, by kit_is, by kit_is, by kit_is, by kit_is, by kit_is, by kit_is, by kit_is, by kit_is, by kit_is, by kit_is⟩ (And.intro (And.intro (by kit_is) (And.intro (by kts_exm) (And.intro (by kit_is) (And.intro (by kts_exm) (And.intro (by kit_is) (And.intro (by kts_exm) (And.intro (by kit_is) (And.intro (by kts_exm) (And.intro (by kit_is) (And.intro (by kts_exm) (And.intro (by kit_is) (And.intro (by kts_exm) (And.intro (by kit_is) (And.intro (by kts_exm) (And.intro (by kit_is) (And.intro (by kts_exm) (And.intro (by kit_is) (And.intro (by kts_exm) (And.intro (by kit_is) (And.intro (by kts_exm) (And.intro (by kit_is) (And.intro (by kts_exm) (And.intro (by kit_is) (And.intro (by kts_exm) (trivial))))))))))))))))))))))))) (And.intro ⟨by k_exc, by k_is, by k_is, by k_is, by k_is, by k_is, by k_is, by k_is, by k_is, by k_is, by k_is, by kit_is, by kit_is, by kit_is, by kit_is, by kit_is, by kit_is, by kit_is, by kit_is, by kit_is, by kit_is, by kit_is, by kit_is, by kit_is⟩ (And.intro (And.intro (by kit_is) (And.intro (by kts_exm) (And.intro (by kit_is) (And.intro (by kts_exm) (And.intro (by kit_is) (And.intro (by kts_exm) (And.intro (by kit_is) (And.intro (by kts_exm) (And.intro (by kit_is) (And.intro (by kts_exm) (And.intro (by kit_is) (And.intro (by kts_exm) (And.intro (by kit_is) (And.intro (by kts_exm) (And.intro (by kit_is) (And.intro (by kts_exm) (And.intro (by kit_is) (And.intro (by kts_exm) (And.intro (by kit_is) (And.intro (by kts_exm) (And.intro (by kit_is) (And.intro (by kts_exm) (And.intro (by kit_is) (And.intro (by kts_exm) (trivial))))))))))))))))))))))))) (And.intro ⟨by k_exc, by k_is, by k_is, by k_is, by k_is, by k_is, by k_is, by k_is, by k_is, by k_is, by k_is, by kit_is, by kit_is, by kit_is, by kit_is, by kit_is, by kit_is, by kit_is, by kit_is, by kit_is, by kit_is, by kit_is, by kit_is, by kit_is⟩ (And.intro (And.intro (by kit_is) (And.intro (by kts_exm) (And.intro (by kit_is) (And.intro (by kts_exm) (And.intro (by kit_is) (And.intro (by kts_exm) (And.intro (by kit_is) (And.intro (by kts_exm) (And.intro (by kit_is) (And.intro (by kts_exm) (And.intro (by kit_is) (And.intro (by kts_exm) (And.intro (by kit_is) (And.intro (by kts_exm) (And.intro (by kit_is) (And.intro (by kts_exm) (And.intro (by kit_is) (And.intro (by kts_exm) (And.intro (by kit_is) (And.intro (by kts_exm) (And.intro (by kit_is) (And.intro (by kts_exm) (And.intro (by kit_is) (And.intro (by kts_exm) (trivial))))))))))))))))))))))))) (And.intro ⟨by k_exc, by k_is, by k_is, by k_is, by k_is, by k_is, by k_is, by k_is, by k_is, by k_is, by k_is, by kit_is, by kit_is, by kit_is, by kit_is, by kit_is, by kit_is, by kit_is, by kit_is, by kit_is, by kit_is, by kit_is, by kit_is, by kit_is⟩ (And.intro (And.intro (by kit_is) (And.intro (by kts_exm) (And.intro (by kit_is) (And.intro (by kts_exm) (And.intro (by kit_is) (And.intro (by kts_exm) (And.intro (by kit_is) (And.intro (by kts_exm) (And.intro (by kit_is) (And.intro (by kts_exm) (And.intro (by kit_is) (And.intro (by kts_exm) (And.intro (by kit_is) (And.intro (by kts_exm) (And.intro (by kit_is) (And.intro (by kts_exm) (And.intro (by kit_is) (And.intro (by kts_exm) (And.intro (by kit_is) (And.intro (by kts_exm) (And.intro (by kit_is) (And.intro (by kts_exm) (And.intro (by kit_is) (And.intro (by kts_exm) (trivial))))))))))))))))))))))))) (And.intro ⟨by k_exc, by k_is, by k_is, by k_is, by k_is, by k_is, by k_is, by k_is, by k_is, by k_is, by k_is, by kit_is, by kit_is, by kit_is, by kit_is, by kit_is, by kit_is, by kit_is, by kit_is, by kit_is, by kit_is, by kit_is, by kit_is, by kit_is⟩ (And.intro (And.intro (by kit_is) (And.intro (by kts_exm) (And.intro (by kit_is) (And.intro (by kts_exm) (And.intro (by kit_is) (And.intro (by kts_exm) (And.intro (by kit_is) (And.intro (by kts_exm) (And.intro (by kit_is) (And.intro (by kts_exm) (And.intro (by kit_is) (And.intro (by kts_exm) (And.intro (by kit_is) (And.intro (by kts_exm) (And.intro (by kit_is) (And.intro (by kts_exm) (And.intro (by kit_is) (And.intro (by kts_exm) (And.intro (by kit_is) (And.intro (by kts_exm) (And.intro (by kit_is) (And.intro (by kts_exm) (And.intro (by kit_is) (And.intro (by kts_exm) (trivial))))))))))))))))))))))))) (And.intro ⟨by k_exc, by k_is, by k_is, by k_is, by k_is, by k_is, by k_is, by k_is, by k_is, by k_is, by k_is, by kit_is, by kit_is, by kit_is, by kit_is, by kit_is, by kit_is, by kit_is, by kit_is, by kit_is, by kit_is, by kit_is, by kit_is, by kit_is⟩ (And.intro (And.intro (by kit_is) (And.intro (by kts_exm) (And.intro (by kit_is) (And.intro (by kts_exm) (And.intro (by kit_is) (And.intro (by kts_exm) (And.intro (by kit_is) (And.intro (by kts_exm) (And.intro (by kit_is) (And.intro (by kts_exm) (And.intro (by kit_is) (And.intro (by kts_exm) (And.intro (by kit_is) (And.intro (by kts_exm) (And.intro (by kit_is) (And.intro (by kts_exm) (And.intro (by kit_is) (And.intro (by kts_exm) (And.intro (by kit_is) (And.intro (by kts_exm) (And.intro (by kit_is) (And.intro (by kts_exm) (And.intro (by kit_is) (And.intro (by kts_exm) (trivial))))))))))))))))))))))))) (And.intro ⟨by k_exc, by k_is, by k_is, by k_is, by k_is, by k_is, by k_is, by k_is, by k_is, by k_is, by k_is, by kit_is, by kit_is, by kit_is, by kit_is, by kit_is, by kit_is, by kit_is, by kit_is, by kit_is, by kit_is, by kit_is, by kit_is, by kit_is⟩ (And.intro (And.intro (by kit_is) (And.intro (by kts_exm) (And.intro (by kit_is) (And.intro (by kts_exm) (And.intro (by kit_is) (And.intro (by kts_exm) (And.intro (by kit_is) (And.intro (by kts_exm) (And.intro (by kit_is) (And.intro (by kts_exm) (And.intro (by kit_is) (And.intro (by kts_exm) (And.intro (by kit_is) (And.intro (by kts_exm) (And.intro (by kit_is) (And.intro (by kts_exm) (And.intro (by kit_is) (And.intro (by kts_exm) (And.intro (by kit_is) (And.intro (by kts_exm) (And.intro (by kit_is) (And.intro (by kts_exm) (And.intro (by kit_is) (And.intro (by kts_exm) (trivial))))))))))))))))))))))))) (And.intro ⟨by k_exc, by k_is, by k_is, by k_is, by k_is, by k_is, by k_is, by k_is, by k_is, by k_is, by k_is, by kit_is, by kit_is, by kit_is, by kit_is, by kit_is, by kit_is, by kit_is, by kit_is, by kit_is, by kit_is, by kit_is, by kit_is, by kit_is⟩ (And.intro (And.intro (by kit_is) (And.intro (by kts_exm) (And.intro (by kit_is) (And.intro (by kts_exm) (And.intro (by kit_is) (And.intro (by kts_exm) (And.intro (by kit_is) (And.intro (by kts_exm) (And.intro (by kit_is) (And.intro (by kts_exm) (And.intro (by kit_is) (And.intro (by kts_exm) (And.intro (by kit_is) (And.intro (by kts_exm) (And.intro (by kit_is) (And.intro (by kts_exm) (And.intro (by kit_is) (And.intro (by kts_exm) (And.intro (by kit_is) (And.intro (by kts_exm) (And.intro (by kit_is) (And.intro (by kts_exm) (And.intro (by kit_is) (And.intro (by kts_exm) (trivial))))))))))))))))))))))))) (And.intro ⟨by k_exc, by k_is, by k_is, by k_is, by k_is, by k_is, by k_is, by k_is, by k_is, by k_is, by k_is, by kit_is, by kit_is, by kit_is, by kit_is, by kit_is, by kit_is, by kit_is, by kit_is, by kit_is, by kit_is, by kit_is, by kit_is, by kit_is⟩ (And.intro (And.intro (by kit_is) (And.intro (by kts_exm) (And.intro (by kit_is) (And.intro (by kts_exm) (And.intro (by kit_is) (And.intro (by kts_exm) (And.intro (by kit_is) (And.intro (by kts_exm) (And.intro (by kit_is) (And.intro (by kts_exm) (And.intro (by kit_is) (And.intro (by kts_exm) (And.intro (by kit_is) (And.intro (by kts_exm) (And.intro (by kit_is) (And.intro (by kts_exm) (And.intro (by kit_is) (And.intro (by kts_exm) (And.intro (by kit_is) (And.intro (by kts_exm) (And.intro (by kit_is) (And.intro (by kts_exm) (And.intro (by kit_is) (And.intro (by kts_exm) (trivial))))))))))))))))))))))))) (And.intro ⟨by k_exc, by k_is, by k_is, by k_is, by k_is, by k_is, by k_is, by k_is, by k_is, by k_is, by k_is, by kit_is, by kit_is, by kit_is, by kit_is, by kit_is, by kit_is, by kit_is, by kit_is, by kit_is, by kit_is, by kit_is, by kit_is, by kit_is⟩ (And.intro (And.intro (by kit_is) (And.intro (by kts_exm) (And.intro (by kit_is) (And.intro (by kts_exm) (And.intro (by kit_is) (And.intro (by kts_exm) (And.intro (by kit_is) (And.intro (by kts_exm) (And.intro (by kit_is) (And.intro (by kts_exm) (And.intro (by kit_is) (And.intro (by kts_exm) (And.intro (by kit_is) (And.intro (by kts_exm) (And.intro (by kit_is) (And.intro (by kts_exm) (And.intro (by kit_is) (And.intro (by kts_exm) (And.intro (by kit_is) (And.intro (by kts_exm) (And.intro (by kit_is) (And.intro (by kts_exm) (And.intro (by kit_is) (And.intro (by kts_exm) (trivial))))))))))))))))))))))))) (And.intro ⟨by k_exc, by k_is, by k_is, by k_is, by k_is, by k_is, by k_is, by k_is, by k_is, by k_is, by k_is, by kit_is, by kit_is, by kit_is, by kit_is, by kit_is, by kit_is, by kit_is, by kit_is, by kit_is, by kit_is, by kit_is, by kit_is, by kit_is⟩ (And.intro (And.intro (by kit_is) (And.intro (by kts_exm) (And.intro (by kit_is) (And.intro (by kts_exm) (And.intro (by kit_is) (And.intro (by kts_exm) (And.intro (by kit_is) (And.intro (by kts_exm) (And.intro (by kit_is) (And.intro (by kts_exm) (And.intro (by kit_is) (And.intro (by kts_exm) (And.intro (by kit_is) (And.intro (by kts_exm) (And.intro (by kit_is) (And.intro (by kts_exm) (And.intro (by kit_is) (And.intro (by kts_exm) (And.intro (by kit_is) (And.intro (by kts_exm) (And.intro (by kit_is) (And.intro (by kts_exm) (And.intro (by kit_is) (And.intro (by kts_exm) (trivial))))))))))))))))))))))))) (trivial))))))))))))))))))))))))); (case r_MOST => exact ⟨_, rfl⟩); (case r_MOST_MAKERS => exact ⟨_, rfl⟩); (case r_MOST_PLACES => exact ⟨_, rfl⟩)

