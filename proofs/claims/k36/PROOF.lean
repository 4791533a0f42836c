import PyProof.Rows.All
import Wide.All
import OpenK.AllK
import Wide.FinOn
import HandS.ForMost
import HandS.ForExc
import HandS.Lambda
import HandS.TupMul
import HandS.Wide
import HandS.TupAny
import HandS.SortRule
import HandS.SortInts
import HandS.IsInst
import HandS.Style
import PyProof.StrLawsRepr
import HandS.Conv
import HandS.Star
import HandS.ExcIs
import HandS.ExcInit
import HandS.ExcField
import KE.KExcIs
import HandS.ClsMeth
import HandS.FStr
import HandS.Zip
import HandS.Deep
import HandS.Dict
import PyProof.ReprRoads
import HandS.Property
import HandS.SetFor
import HandS.Strs
import HandS.SlotsOwn
import HandS.WideBits
import HandS.ListItems
import PyProof.Rows.Range3
import PySem.Challenge.RW_evenplay_k36_unwrappers
set_option Elab.async false
set_option maxRecDepth 100000
set_option maxHeartbeats 1000000
/-! a layer of my own over HandS: data, a frozen heap, a ledger of owned objects -/
namespace Dl
open PySem L2

/-! ### data -/
inductive D where
  | non | bl (b : Bool) | int (i : Int) | str (x : Str) | ty (n : String) | cl (a : Addr) | kls (n : String)
  | lst (ds : List D) | tup (ds : List D) | scr (ns : List Int)
  | dct (ks : List (Key × D))
  | ins (C : String) (fs : List (Str × D))
  | exc (C : String) (fs : List (Str × D))
/-- the class of a name, as the top has left it -/
def cn (K : PySem.W.Frag) (n : String) : Addr := match PySem.W.nsIn K mainGlobals (Str.ofString n) with
  | some (some (.ref a)) => a
  | _ => 0
theorem cn_eq {K : PySem.W.Frag} {n : String} {a : Addr} (h : PySem.W.nsIn K mainGlobals (Str.ofString n) = some (some (.ref a))) : cn K n = a := by
  unfold cn
  rw [h]
/-- an exception object that has landed -/
def ExT (cls : Value) (d : Option Addr) (a : Addr) : HO := .ext fun h => ∃ (oe : Obj) (vs : Array Value), h.get? a = some oe ∧ Zc cls d oe ∧ oe.data = .fields vs

mutual
inductive Rp (K : PySem.W.Frag) (G : Hp) : V → D → Prop
  | non : Rp K G .non .non
  | bl (b : Bool) : Rp K G (.bl b) (.bl b)
  | int (i : Int) : Rp K G (.int i) (.int i)
  | str (x : Str) : Rp K G (.str x) (.str x)
  | ty (n : String) : Rp K G (.ty n) (.ty n)
  | cl (a : Addr) : Rp K G (.ref a) (.cl a)
  | kls (n : String) : Rp K G (.ref (cn K n)) (.kls n)
  | lst {a : Addr} {xs : List V} {ds : List D} : G a = some (.lst xs) → RpL K G xs ds → Rp K G (.ref a) (.lst ds)
  | tup {a : Addr} {xs : List V} {ds : List D} : G a = some (.tup xs) → RpL K G xs ds → Rp K G (.ref a) (.tup ds)
  | scr {a : Addr} {ns : List Int} : SqL K G a (ns.map V.int) → Rp K G (.ref a) (.scr ns)
  | dct {a : Addr} {kvs : List (Key × V)} {ks : List (Key × D)} : G a = some (.dK kvs) → kvs.map (·.1) = ks.map (·.1) → RpL K G (kvs.map (·.2)) (ks.map (·.2)) → Rp K G (.ref a) (.dct ks)
  | exc0 {a : Addr} {C : String} : G a = some (ExT (.ref (cn K C)) none a) → Rp K G (.ref a) (.exc C [])
  | excD {a d : Addr} {C : String} {fvs : List (Str × V)} {fs : List (Str × D)} : G a = some (ExT (.ref (cn K C)) (some d) a) → G d = some (.xd fvs) → fvs.map (·.1) = fs.map (·.1) → RpL K G (fvs.map (·.2)) (fs.map (·.2)) → Rp K G (.ref a) (.exc C fs)
  | ins {a dx : Addr} {C : String} {fvs : List (Str × V)} {fs : List (Str × D)} : G a = some (.ins (cn K C) dx fvs) → fvs.map (·.1) = fs.map (·.1) → RpL K G (fvs.map (·.2)) (fs.map (·.2)) → Rp K G (.ref a) (.ins C fs)
inductive RpL (K : PySem.W.Frag) (G : Hp) : List V → List D → Prop
  | nil : RpL K G [] []
  | cons {v : V} {vs : List V} {d : D} {ds : List D} : Rp K G v d → RpL K G vs ds → RpL K G (v :: vs) (d :: ds)
end

section
variable {K : PySem.W.Frag} {G G' : Hp}
theorem same_rd {a : Addr} {u : HO} (e : Same G G') (h : Rd G a u) : Rd G' a u := by
  rcases h with h | ⟨o, h⟩
  · exact Or.inl (e a _ h)
  · exact Or.inr ⟨o, e a _ h⟩
theorem same_l {a : Addr} {xs : List V} (e : Same G G') (h : SqL K G a xs) : SqL K G' a xs := h.imp (same_rd e) id
theorem same_t {a : Addr} {xs : List V} (e : Same G G') (h : SqT K G a xs) : SqT K G' a xs := h.imp (same_rd e) id
mutual
theorem Rp.mono (e : Same G G') : ∀ {v : V} {d : D}, Rp K G v d → Rp K G' v d
  | _, _, .non => .non
  | _, _, .bl b => .bl b
  | _, _, .int i => .int i
  | _, _, .str x => .str x
  | _, _, .ty n => .ty n
  | _, _, .cl n => .cl n
  | _, _, .kls n => .kls n
  | _, _, .lst h r => .lst (e _ _ h) (RpL.mono e r)
  | _, _, .tup h r => .tup (e _ _ h) (RpL.mono e r)
  | _, _, .scr h => .scr (same_l e h)
  | _, _, .dct h k r => .dct (e _ _ h) k (RpL.mono e r)
  | _, _, .ins h k r => .ins (e _ _ h) k (RpL.mono e r)
  | _, _, .exc0 h => .exc0 (e _ _ h)
  | _, _, .excD h h2 k r => .excD (e _ _ h) (e _ _ h2) k (RpL.mono e r)
theorem RpL.mono (e : Same G G') : ∀ {vs : List V} {ds : List D}, RpL K G vs ds → RpL K G' vs ds
  | _, _, .nil => .nil
  | _, _, .cons h r => .cons (Rp.mono e h) (RpL.mono e r)
end
theorem RpL.length : ∀ {vs : List V} {ds : List D}, RpL K G vs ds → vs.length = ds.length
  | _, _, .nil => rfl
  | _, _, .cons _ r => congrArg (· + 1) r.length
theorem RpL.get : ∀ {vs : List V} {ds : List D} {i : Nat} {d : D}, RpL K G vs ds → ds[i]? = some d → ∃ v, vs[i]? = some v ∧ Rp K G v d
  | _, _, _, _, .nil, h => by simp at h
  | _, _, 0, _, .cons r _, h => by
    simp at h
    subst h
    exact ⟨_, rfl, r⟩
  | _, _, i + 1, d, .cons _ r, h => by
    obtain ⟨v, h1, h2⟩ := RpL.get (i := i) (d := d) r (by simpa using h)
    exact ⟨v, by simpa using h1, h2⟩
theorem RpL.getV : ∀ {vs : List V} {ds : List D} {i : Nat} {v : V}, RpL K G vs ds → vs[i]? = some v → ∃ d, ds[i]? = some d ∧ Rp K G v d
  | _, _, _, _, .nil, h => by simp at h
  | _, _, 0, _, .cons r _, h => by
    simp at h
    subst h
    exact ⟨_, rfl, r⟩
  | _, _, i + 1, d, .cons _ r, h => by
    obtain ⟨v, h1, h2⟩ := RpL.getV (i := i) (v := d) r (by simpa using h)
    exact ⟨v, by simpa using h1, h2⟩
theorem RpL.app : ∀ {vs us : List V} {ds es : List D}, RpL K G vs ds → RpL K G us es → RpL K G (vs ++ us) (ds ++ es)
  | _, _, _, _, .nil, s => s
  | _, _, _, _, .cons h r, s => .cons h (r.app s)
theorem RpL.one {v : V} {d : D} (h : Rp K G v d) : RpL K G [v] [d] := .cons h .nil
theorem RpL.take : ∀ {vs : List V} {ds : List D} (n : Nat), RpL K G vs ds → RpL K G (vs.take n) (ds.take n)
  | _, _, 0, _ => .nil
  | _, _, _ + 1, .nil => .nil
  | _, _, n + 1, .cons h r => .cons h (RpL.take n r)
theorem RpL.drop : ∀ {vs : List V} {ds : List D} (n : Nat), RpL K G vs ds → RpL K G (vs.drop n) (ds.drop n)
  | _, _, 0, r => r
  | _, _, _ + 1, .nil => .nil
  | _, _, n + 1, .cons _ r => RpL.drop n r
theorem RpL.set {v : V} {d : D} (h : Rp K G v d) : ∀ {vs : List V} {ds : List D} (i : Nat), RpL K G vs ds → RpL K G (vs.set i v) (ds.set i d)
  | _, _, _, .nil => .nil
  | _, _, 0, .cons _ r => .cons h r
  | _, _, i + 1, .cons q r => .cons q (RpL.set h i r)
theorem RpL.erase : ∀ {vs : List V} {ds : List D} (i : Nat), RpL K G vs ds → RpL K G (vs.eraseIdx i) (ds.eraseIdx i)
  | _, _, _, .nil => .nil
  | _, _, 0, .cons _ r => r
  | _, _, i + 1, .cons q r => .cons q (RpL.erase i r)
theorem RpL.rev : ∀ {vs : List V} {ds : List D}, RpL K G vs ds → RpL K G vs.reverse ds.reverse
  | _, _, .nil => .nil
  | _, _, .cons h r => by
    rw [List.reverse_cons, List.reverse_cons]
    exact r.rev.app (.one h)
theorem RpL.rep {vs : List V} {ds : List D} (r : RpL K G vs ds) : ∀ k : Nat, RpL K G (List.replicate k vs).flatten (List.replicate k ds).flatten
  | 0 => .nil
  | k + 1 => r.app (r.rep k)
theorem RpL.ints : ∀ {vs : List V} {ns : List Int}, RpL K G vs (ns.map D.int) → vs = ns.map V.int
  | _, [], .nil => rfl
  | _, n :: ns, .cons h r => by
    cases h
    rw [RpL.ints r]
    rfl
theorem RpL.of_ints : ∀ ns : List Int, RpL K G (ns.map V.int) (ns.map D.int)
  | [] => .nil
  | n :: ns => .cons (.int n) (RpL.of_ints ns)
theorem RpL.bls : ∀ {vs : List V} {ns : List Bool}, RpL K G vs (ns.map D.bl) → vs = ns.map V.bl
  | _, [], .nil => rfl
  | _, n :: ns, .cons h r => by
    cases h
    rw [RpL.bls r]
    rfl
theorem RpL.of_bls : ∀ ns : List Bool, RpL K G (ns.map V.bl) (ns.map D.bl)
  | [] => .nil
  | n :: ns => .cons (.bl n) (RpL.of_bls ns)
theorem RpL.strs : ∀ {vs : List V} {ns : List Str}, RpL K G vs (ns.map D.str) → vs = ns.map V.str
  | _, [], .nil => rfl
  | _, n :: ns, .cons h r => by
    cases h
    rw [RpL.strs r]
    rfl
theorem RpL.of_strs : ∀ ns : List Str, RpL K G (ns.map V.str) (ns.map D.str)
  | [] => .nil
  | n :: ns => .cons (.str n) (RpL.of_strs ns)
end

/-! ### what stands in a slot, in an owned object -/
/-- a datum, or the k-th owned object -/
inductive Lo where
  | im (d : D) | ow (k : Nat) | tp (ls : List Lo)
/-- an owned object: a list of data, of anything; a dict; an instance; no more one's own -/
inductive MO where
  | li (ds : List D) | ls (xs : List Lo) | dc (ks : List (Key × D)) | dm (ks : List (Key × Lo)) | ob (C : String) (fs : List (Str × Lo)) | gone | dl (od : Obj) (kvs : List (Key × V)) (ks : List (Key × D))

mutual
def LRp (K : PySem.W.Frag) (As : List Addr) (G : Hp) : V → Lo → Prop
  | v, .im d => Rp K G v d
  | v, .ow k => ∃ a, As[k]? = some a ∧ v = .ref a
  | v, .tp ls => ∃ a xs, v = .ref a ∧ G a = some (.tup xs) ∧ LRpS K As G xs ls
def LRpS (K : PySem.W.Frag) (As : List Addr) (G : Hp) : List V → List Lo → Prop
  | xs, [] => xs = []
  | xs, l :: ls => ∃ v vs, xs = v :: vs ∧ LRp K As G v l ∧ LRpS K As G vs ls
end
inductive LRpL (K : PySem.W.Frag) (As : List Addr) (G : Hp) : List V → List Lo → Prop
  | nil : LRpL K As G [] []
  | cons {v : V} {vs : List V} {l : Lo} {ls : List Lo} : LRp K As G v l → LRpL K As G vs ls → LRpL K As G (v :: vs) (l :: ls)
mutual
def refL (P : Nat → Prop) : Lo → Prop
  | .im _ => True
  | .ow k => P k
  | .tp ls => refLs P ls
def refLs (P : Nat → Prop) : List Lo → Prop
  | [] => True
  | l :: r => refL P l ∧ refLs P r
end
mutual
def renL (f : Nat → Nat) : Lo → Lo
  | .im d => .im d
  | .ow k => .ow (f k)
  | .tp ls => .tp (renLs f ls)
def renLs (f : Nat → Nat) : List Lo → List Lo
  | [] => []
  | l :: r => renL f l :: renLs f r
end
theorem renLs_map (f : Nat → Nat) : ∀ ls : List Lo, renLs f ls = ls.map (renL f)
  | [] => rfl
  | l :: r => by
    show renL f l :: renLs f r = _
    rw [renLs_map f r]
    rfl
mutual
theorem LRp.ren {K : PySem.W.Frag} {As Au : List Addr} {G : Hp} {P : Nat → Prop} {f : Nat → Nat} (hf : ∀ k a, P k → As[k]? = some a → Au[f k]? = some a) : ∀ {v : V} {l : Lo}, LRp K As G v l → refL P l → LRp K Au G v (renL f l)
  | _, .im d, r, _ => r
  | _, .ow k, r, h => by
    obtain ⟨a, h1, h2⟩ := r
    exact ⟨a, hf k a h h1, h2⟩
  | _, .tp ls, r, h => by
    obtain ⟨a, xs, h1, h2, h3⟩ := r
    exact ⟨a, xs, h1, h2, LRpS.ren hf h3 h⟩
theorem LRpS.ren {K : PySem.W.Frag} {As Au : List Addr} {G : Hp} {P : Nat → Prop} {f : Nat → Nat} (hf : ∀ k a, P k → As[k]? = some a → Au[f k]? = some a) : ∀ {xs : List V} {ls : List Lo}, LRpS K As G xs ls → refLs P ls → LRpS K Au G xs (renLs f ls)
  | _, [], r, _ => r
  | _, l :: ls, r, h => by
    obtain ⟨v, vs, h1, h2, h3⟩ := r
    exact ⟨v, vs, h1, LRp.ren hf h2 h.1, LRpS.ren hf h3 h.2⟩
end
mutual
theorem refL_true : ∀ l : Lo, refL (fun _ => True) l
  | .im _ => trivial
  | .ow _ => trivial
  | .tp ls => refLs_true ls
theorem refLs_true : ∀ ls : List Lo, refLs (fun _ => True) ls
  | [] => trivial
  | l :: r => ⟨refL_true l, refLs_true r⟩
end
mutual
theorem refL_imp {P Q : Nat → Prop} (h : ∀ k, P k → Q k) : ∀ l : Lo, refL P l → refL Q l
  | .im _, _ => trivial
  | .ow k, q => h k q
  | .tp ls, q => refLs_imp h ls q
theorem refLs_imp {P Q : Nat → Prop} (h : ∀ k, P k → Q k) : ∀ ls : List Lo, refLs P ls → refLs Q ls
  | [], _ => trivial
  | l :: r, q => ⟨refL_imp h l q.1, refLs_imp h r q.2⟩
end
mutual
theorem renL_id : ∀ l : Lo, renL (fun k => k) l = l
  | .im _ => rfl
  | .ow _ => rfl
  | .tp ls => congrArg Lo.tp (renLs_id ls)
theorem renLs_id : ∀ ls : List Lo, renLs (fun k => k) ls = ls
  | [] => rfl
  | l :: r => by
    show renL _ l :: renLs _ r = _
    rw [renL_id l, renLs_id r]
end
def MOis (K : PySem.W.Frag) (As : List Addr) (G : Hp) (o : HO) : MO → Prop
  | .li ds => ∃ xs, o = .lst xs ∧ RpL K G xs ds
  | .ls ls => ∃ xs, o = .lst xs ∧ LRpL K As G xs ls
  | .dc ks => ∃ kvs, o = .dK kvs ∧ kvs.map (·.1) = ks.map (·.1) ∧ RpL K G (kvs.map (·.2)) (ks.map (·.2))
  | .dm ks => ∃ kvs, o = .dK kvs ∧ kvs.map (·.1) = ks.map (·.1) ∧ LRpL K As G (kvs.map (·.2)) (ks.map (·.2))
  | .ob C fs => ∃ dx fvs, o = .ins (cn K C) dx fvs ∧ fvs.map (·.1) = fs.map (·.1) ∧ LRpL K As G (fvs.map (·.2)) (fs.map (·.2))
  | .gone => True
  | .dl od kvs ks => o = .frz od (.dK kvs) ∧ kvs.map (·.1) = ks.map (·.1) ∧ RpL K G (kvs.map (·.2)) (ks.map (·.2))

section
variable {K : PySem.W.Frag} {G G' : Hp} {As As' : List Addr}
theorem pre_get {k : Nat} {a : Addr} (p : As <+: As') (h : As[k]? = some a) : As'[k]? = some a := by
  obtain ⟨t, rfl⟩ := p
  have hk : k < As.length := (List.getElem?_eq_some_iff.mp h).1
  rw [List.getElem?_append_left hk]
  exact h
mutual
theorem LRp.mono' (e : Same G G') (p : As <+: As') : ∀ {v : V} {l : Lo}, LRp K As G v l → LRp K As' G' v l
  | _, .im d, h => Rp.mono e h
  | _, .ow k, h => by
    obtain ⟨a, h1, h2⟩ := h
    exact ⟨a, pre_get p h1, h2⟩
  | _, .tp ls, h => by
    obtain ⟨a, xs, h1, h2, h3⟩ := h
    exact ⟨a, xs, h1, e _ _ h2, LRpS.mono' e p h3⟩
theorem LRpS.mono' (e : Same G G') (p : As <+: As') : ∀ {xs : List V} {ls : List Lo}, LRpS K As G xs ls → LRpS K As' G' xs ls
  | _, [], h => h
  | _, l :: ls, h => by
    obtain ⟨v, vs, h1, h2, h3⟩ := h
    exact ⟨v, vs, h1, LRp.mono' e p h2, LRpS.mono' e p h3⟩
end
theorem LRp.mono {v : V} {l : Lo} (e : Same G G') (p : As <+: As') (h : LRp K As G v l) : LRp K As' G' v l := LRp.mono' e p h
theorem LRpS.l : ∀ {xs : List V} {ls : List Lo}, LRpS K As G xs ls → LRpL K As G xs ls
  | _, [], h => by
    obtain rfl : _ = [] := h
    exact .nil
  | _, l :: ls, h => by
    obtain ⟨v, vs, h1, h2, h3⟩ := h
    subst h1
    exact .cons h2 (LRpS.l h3)
theorem LRpL.s {xs : List V} {ls : List Lo} (h : LRpL K As G xs ls) : LRpS K As G xs ls := by
  induction h with
  | nil => rfl
  | cons h _ ih => exact ⟨_, _, rfl, h, ih⟩
theorem LRpL.mono {vs : List V} {ls : List Lo} (e : Same G G') (p : As <+: As') (h : LRpL K As G vs ls) : LRpL K As' G' vs ls := by
  induction h with
  | nil => exact .nil
  | cons h _ ih => exact .cons (h.mono e p) ih
theorem LRpL.length {vs : List V} {ls : List Lo} (h : LRpL K As G vs ls) : vs.length = ls.length := by
  induction h with
  | nil => rfl
  | cons _ _ ih => exact congrArg (· + 1) ih
theorem LRpL.get {vs : List V} {ls : List Lo} (h : LRpL K As G vs ls) : ∀ {i : Nat} {l : Lo}, ls[i]? = some l → ∃ v, vs[i]? = some v ∧ LRp K As G v l := by
  induction h with
  | nil => intro i l e; simp at e
  | cons r _ ih =>
    intro i l e
    cases i with
    | zero =>
      simp at e
      subst e
      exact ⟨_, rfl, r⟩
    | succ i =>
      obtain ⟨v, h1, h2⟩ := ih (i := i) (l := l) (by simpa using e)
      exact ⟨v, by simpa using h1, h2⟩
theorem LRpL.app {vs us : List V} {ls ks : List Lo} (h : LRpL K As G vs ls) (s : LRpL K As G us ks) : LRpL K As G (vs ++ us) (ls ++ ks) := by
  induction h with
  | nil => exact s
  | cons h _ ih => exact .cons h ih
theorem LRpL.set {vs : List V} {ls : List Lo} {v : V} {l : Lo} (q : LRp K As G v l) (h : LRpL K As G vs ls) : ∀ i : Nat, LRpL K As G (vs.set i v) (ls.set i l) := by
  induction h with
  | nil => intro i; exact .nil
  | cons h r ih =>
    intro i
    cases i with
    | zero => exact .cons q r
    | succ i => exact .cons h (ih i)
theorem LRpL.of_data : ∀ {vs : List V} {ds : List D}, RpL K G vs ds → LRpL K As G vs (ds.map Lo.im)
  | _, _, .nil => .nil
  | _, _, .cons h r => .cons h (LRpL.of_data r)
theorem LRpL.data : ∀ {vs : List V} {ds : List D}, LRpL K As G vs (ds.map Lo.im) → RpL K G vs ds
  | _, [], .nil => .nil
  | _, _ :: _, .cons h r => .cons h (LRpL.data r)
theorem MOis.mono {o : HO} {m : MO} (e : Same G G') (p : As <+: As') (h : MOis K As G o m) : MOis K As' G' o m := by
  cases m with
  | li ds => obtain ⟨xs, h1, h2⟩ := h; exact ⟨xs, h1, RpL.mono e h2⟩
  | ls ls => obtain ⟨xs, h1, h2⟩ := h; exact ⟨xs, h1, h2.mono e p⟩
  | dc ks => obtain ⟨xs, h1, h2, h3⟩ := h; exact ⟨xs, h1, h2, RpL.mono e h3⟩
  | dm ks => obtain ⟨xs, h1, h2, h3⟩ := h; exact ⟨xs, h1, h2, h3.mono e p⟩
  | ob C fs => obtain ⟨dx, xs, h1, h2, h3⟩ := h; exact ⟨dx, xs, h1, h2, h3.mono e p⟩
  | gone => trivial
  | dl od kvs ks => obtain ⟨h1, h2, h3⟩ := h; exact ⟨h1, h2, RpL.mono e h3⟩
end

/-! ### the state -/
/-- the tables of code objects that may grow, with the name of what they tell -/
abbrev Tbs := Addr → Option Str
/-- a table of code objects, each of them frozen and named q -/
def TabG (G H : Hp) (P : Addr) (q : Str) : Prop := G P = none ∧ ∃ ps : Array Value, H P = some (.tbl ps) ∧ TriplesOk ps.toList ∧ ∀ (pos : Pos) (cv : Value), codeAmong pos ps.toList = some cv → ∃ c, cv = .ref c ∧ G c = some (LamX.CodeO c q)
theorem TabG.keep {G H G' H' : Hp} {P : Addr} {q : Str} (t : TabG G H P q) (sg : Same G G') (hn : G' P = none) (hH : H' P = H P) : TabG G' H' P q := by
  obtain ⟨_, ps, h1, h2, h3⟩ := t
  refine ⟨hn, ps, hH.trans h1, h2, fun pos cv e => ?_⟩
  obtain ⟨c, e1, e2⟩ := h3 pos cv e
  exact ⟨c, e1, sg _ _ e2⟩
/-- from the heaps G0, H0 to G, H: what is frozen stays, what is neither frozen nor lent nor a table stays -/
structure Stp (T : Tbs) (S : List Addr) (G0 H0 G H : Hp) : Prop where
  g : Same G0 G
  k : ∀ a o, a ∉ S → T a = none → G0 a = none → H0 a = some o → H a = some o ∧ G a = none
  d : ∀ a o, H0 a = some o → ∃ o', H a = some o'
/-- a def's entry -/
structure Fc where
  K : PySem.W.Frag
  S : List Addr
  G0 : Hp
  H0 : Hp
  /-- where a try began (or the entry) -/
  Ab : List Addr
  Gb : Hp
  /-- tables -/
  T : Tbs
abbrev Gam := List (Option Lo)
abbrev Led := List MO
structure Sat (C : Fc) (As : List Addr) (G H : Hp) (Γ : Gam) (M : Led) (σ : L2.St) : Prop where
  le : Same G H
  stp : Stp C.T C.S C.G0 C.H0 G H
  own : ∀ (k : Nat) (a : Addr) (m : MO), As[k]? = some a → M[k]? = some m → m ≠ .gone → G a = none ∧ ∃ o, H a = some o ∧ MOis C.K As G o m
  fr : ∀ a ∈ As, a ∈ C.S ∨ C.H0 a = none
  inj : As.Nodup
  al : As.length = M.length
  asS : C.S <+: As
  there : ∀ a ∈ As, ∃ o, H a = some o
  slot : ∀ (i : Nat) (l : Lo), Γ[i]? = some (some l) → ∃ v, σ[i]? = some (some v) ∧ LRp C.K As G v l
  len : Γ.length = σ.length
  bg : Same C.Gb G
  ba : C.Ab <+: As
  tb : ∀ P q, C.T P = some q → P ∉ As ∧ TabG G H P q

section
variable {C : Fc} {As As' : List Addr} {G H G' H' : Hp} {Γ : Gam} {M M' : Led} {σ : L2.St} {a : Addr} {o : HO}
theorem Same.new {H : Hp} (h : H a = none) : Same H (upd H a o) := fun b u e => by
  rw [upd_ne (ne_of_none e h)]
  exact e
theorem Sat.gn (S : Sat C As G H Γ M σ) (h : H a = none) : G a = none := S.le.free h
theorem Sat.h0 (S : Sat C As G H Γ M σ) (h : H a = none) : C.H0 a = none := by
  cases q : C.H0 a with
  | none => rfl
  | some u =>
    obtain ⟨o', e⟩ := S.stp.d a u q
    rw [h] at e
    cases e
theorem Sat.an (S : Sat C As G H Γ M σ) (h : H a = none) : a ∉ As := fun z => by
  obtain ⟨o, e⟩ := S.there a z
  rw [h] at e
  cases e
theorem Sat.tb_ne {P : Addr} {q : Str} (S : Sat C As G H Γ M σ) (e : C.T P = some q) (h : H a = none) : P ≠ a := fun z => by
  obtain ⟨_, _, ps, h1, _⟩ := S.tb P q e
  rw [z, h] at h1
  cases h1
theorem Sat.tn (S : Sat C As G H Γ M σ) (h : a ∈ As) : C.T a = none := by
  cases q : C.T a with
  | none => rfl
  | some x => exact absurd h (S.tb a x q).1
theorem nodup_ix2 {xs : List Addr} (h : xs.Nodup) {i j : Nat} {b : Addr} (h1 : xs[i]? = some b) (h2 : xs[j]? = some b) : i = j := by
  induction xs generalizing i j with
  | nil => simp at h1
  | cons x r ih =>
    obtain ⟨n1, n2⟩ := List.nodup_cons.mp h
    cases i with
    | zero =>
      cases j with
      | zero => rfl
      | succ j =>
        simp at h1 h2
        subst h1
        exact absurd (List.mem_of_getElem? h2) n1
    | succ i =>
      cases j with
      | zero =>
        simp at h1 h2
        subst h2
        exact absurd (List.mem_of_getElem? h1) n1
      | succ j =>
        simp at h1 h2
        exact congrArg (· + 1) (ih n2 h1 h2)
theorem as_pre (As : List Addr) (a : Addr) : As <+: As ++ [a] := ⟨[a], rfl⟩
/-- a new owned object -/
theorem Sat.alloc {m : MO} (S : Sat C As G H Γ M σ) (h : H a = none) (hm : MOis C.K (As ++ [a]) G o m) : Sat C (As ++ [a]) G (upd H a o) Γ (M ++ [m]) σ := by
  have hn := S.an h
  refine ⟨fun b u e => ?_, ⟨S.stp.g, fun b u h1 hT h2 h3 => ?_, fun b u h1 => ?_⟩, fun k b m' e1 e2 e3 => ?_, fun b hb => ?_, ?_, by simp [S.al], S.asS.trans (as_pre _ _), fun b hb => ?_, fun i l e => ?_, S.len, S.bg, S.ba.trans (as_pre _ _), fun P q e => by
    obtain ⟨z, t⟩ := S.tb P q e
    have hp := S.tb_ne e h
    exact ⟨fun hm => (List.mem_append.mp hm).elim z fun k => hp (List.mem_singleton.mp k), t.keep (Same.refl _) t.1 (upd_ne hp)⟩⟩
  · rw [upd_ne (ne_of_none (S.le b u e) h)]
    exact S.le b u e
  · obtain ⟨q1, q2⟩ := S.stp.k b u h1 hT h2 h3
    rw [upd_ne (ne_of_none q1 h)]
    exact ⟨q1, q2⟩
  · obtain ⟨o', q⟩ := S.stp.d b u h1
    by_cases hb : b = a
    · subst hb; exact ⟨_, upd_same⟩
    · rw [upd_ne hb]; exact ⟨o', q⟩
  · by_cases hk : k < As.length
    · rw [List.getElem?_append_left hk] at e1
      rw [List.getElem?_append_left (by rw [← S.al]; exact hk)] at e2
      obtain ⟨q1, u, q2, q3⟩ := S.own k b m' e1 e2 e3
      refine ⟨q1, u, ?_, q3.mono (Same.refl _) (as_pre _ _)⟩
      rw [upd_ne (ne_of_none q2 h)]
      exact q2
    · have hk' : k = As.length := by
        have := (List.getElem?_eq_some_iff.mp e1).1
        rw [List.length_append, List.length_singleton] at this
        omega
      subst hk'
      have e1' : a = b := by simpa using e1
      rw [S.al] at e2
      have e2' : m = m' := by simpa using e2
      subst e1'
      subst e2'
      exact ⟨S.gn h, o, upd_same, hm⟩
  · rcases List.mem_append.mp hb with hb | hb
    · exact S.fr b hb
    · rw [List.mem_singleton] at hb
      subst hb
      exact .inr (S.h0 h)
  · rw [List.nodup_append]
    refine ⟨S.inj, by simp, fun x hx y hy e => ?_⟩
    rw [List.mem_singleton] at hy
    subst hy
    subst e
    exact hn hx
  · rcases List.mem_append.mp hb with hb | hb
    · obtain ⟨u, q⟩ := S.there b hb
      exact ⟨u, by rw [upd_ne (ne_of_none q h)]; exact q⟩
    · rw [List.mem_singleton] at hb
      subst hb
      exact ⟨_, upd_same⟩
  · obtain ⟨v, q1, q2⟩ := S.slot i l e
    exact ⟨v, q1, q2.mono (Same.refl _) (as_pre _ _)⟩
/-- a new frozen object -/
theorem Sat.allocF (S : Sat C As G H Γ M σ) (h : H a = none) : Sat C As (upd G a o) (upd H a o) Γ M σ := by
  have hg := S.gn h
  have sg : Same G (upd G a o) := Same.new hg
  refine ⟨fun b u e => ?_, ⟨S.stp.g.trans sg, fun b u h1 hT h2 h3 => ?_, fun b u h1 => ?_⟩, fun k b m' e1 e2 e3 => ?_, S.fr, S.inj, S.al, S.asS, fun b hb => ?_, fun i l e => ?_, S.len, S.bg.trans sg, S.ba, fun P q e => by
    obtain ⟨z, t⟩ := S.tb P q e
    have hp := S.tb_ne e h
    exact ⟨z, t.keep sg ((upd_ne hp).trans t.1) (upd_ne hp)⟩⟩
  · by_cases hb : b = a
    · subst hb
      rw [upd_same] at e ⊢
      exact e
    · rw [upd_ne hb] at e ⊢
      exact S.le b u e
  · obtain ⟨q1, q2⟩ := S.stp.k b u h1 hT h2 h3
    have hb := ne_of_none q1 h
    rw [upd_ne hb, upd_ne hb]
    exact ⟨q1, q2⟩
  · obtain ⟨o', q⟩ := S.stp.d b u h1
    by_cases hb : b = a
    · subst hb; exact ⟨_, upd_same⟩
    · rw [upd_ne hb]; exact ⟨o', q⟩
  · obtain ⟨q1, u, q2, q3⟩ := S.own k b m' e1 e2 e3
    have hb := ne_of_none q2 h
    rw [upd_ne hb, upd_ne hb]
    exact ⟨q1, u, q2, q3.mono sg (List.prefix_refl _)⟩
  · obtain ⟨u, q⟩ := S.there b hb
    exact ⟨u, by rw [upd_ne (ne_of_none q h)]; exact q⟩
  · obtain ⟨v, q1, q2⟩ := S.slot i l e
    exact ⟨v, q1, q2.mono sg (List.prefix_refl _)⟩
/-- an owned object is written -/
theorem Sat.write {k : Nat} {m m' : MO} (S : Sat C As G H Γ M σ) (ha : As[k]? = some a) (hk : M[k]? = some m) (hl : m ≠ .gone) (hm : MOis C.K As G o m') : Sat C As G (upd H a o) Γ (M.set k m') σ := by
  obtain ⟨g0, o₀, h0, _⟩ := S.own k a m ha hk hl
  have h00 := S.fr a (List.mem_of_getElem? ha)
  have hkl : k < M.length := (List.getElem?_eq_some_iff.mp hk).1
  refine ⟨fun b u e => ?_, ⟨S.stp.g, fun b u h1 hT h2 h3 => ?_, fun b u h1 => ?_⟩, fun j b m2 e1 e2 e3 => ?_, S.fr, S.inj, by rw [List.length_set]; exact S.al, S.asS, fun b hb => ?_, fun i l e => ?_, S.len, S.bg, S.ba, fun P q e => by
    obtain ⟨z, t⟩ := S.tb P q e
    have hp : P ≠ a := fun y => z (y ▸ List.mem_of_getElem? ha)
    exact ⟨z, t.keep (Same.refl _) t.1 (upd_ne hp)⟩⟩
  · have hb : b ≠ a := fun z => by rw [z, g0] at e; cases e
    rw [upd_ne hb]
    exact S.le b u e
  · obtain ⟨q1, q2⟩ := S.stp.k b u h1 hT h2 h3
    have hb : b ≠ a := fun z => by
      subst z
      rcases h00 with z | z
      · exact h1 z
      · rw [z] at h3; cases h3
    rw [upd_ne hb]
    exact ⟨q1, q2⟩
  · obtain ⟨o', q⟩ := S.stp.d b u h1
    by_cases hb : b = a
    · subst hb; exact ⟨_, upd_same⟩
    · rw [upd_ne hb]; exact ⟨o', q⟩
  · by_cases hj : j = k
    · subst hj
      rw [ha] at e1
      cases e1
      rw [List.getElem?_set_self hkl] at e2
      cases e2
      exact ⟨g0, o, upd_same, hm⟩
    · rw [List.getElem?_set_ne (Ne.symm hj)] at e2
      have hb : b ≠ a := fun z => by
        subst z
        exact hj (nodup_ix2 S.inj e1 ha)
      obtain ⟨q1, u, q2, q3⟩ := S.own j b m2 e1 e2 e3
      rw [upd_ne hb]
      exact ⟨q1, u, q2, q3⟩
  · by_cases hb' : b = a
    · subst hb'; exact ⟨_, upd_same⟩
    · rw [upd_ne hb']; exact S.there b hb
  · exact S.slot i l e
/-- an owned object is frozen -/
theorem Sat.freeze {k : Nat} {m : MO} (S : Sat C As G H Γ M σ) (ha : As[k]? = some a) (hk : M[k]? = some m) (hl : m ≠ .gone) (ho : H a = some o) : Sat C As (upd G a o) H Γ (M.set k .gone) σ := by
  obtain ⟨g0, o₀, h0, _⟩ := S.own k a m ha hk hl
  have h00 := S.fr a (List.mem_of_getElem? ha)
  have hkl : k < M.length := (List.getElem?_eq_some_iff.mp hk).1
  have sg : Same G (upd G a o) := Same.new g0
  have inj : ∀ {j : Nat} {b : Addr}, As[j]? = some b → j ≠ k → b ≠ a := fun {j b} e1 hj z => by
    subst z
    exact hj (nodup_ix2 S.inj e1 ha)
  refine ⟨fun b u e => ?_, ⟨S.stp.g.trans sg, fun b u h1 hT h2 h3 => ?_, S.stp.d⟩, fun j b m2 e1 e2 e3 => ?_, S.fr, S.inj, by rw [List.length_set]; exact S.al, S.asS, S.there, fun i l e => ?_, S.len, S.bg.trans sg, S.ba, fun P q e => by
    obtain ⟨z, t⟩ := S.tb P q e
    have hp : P ≠ a := fun y => z (y ▸ List.mem_of_getElem? ha)
    exact ⟨z, t.keep sg ((upd_ne hp).trans t.1) rfl⟩⟩
  · by_cases hb : b = a
    · subst hb
      rw [upd_same] at e
      cases e
      exact ho
    · rw [upd_ne hb] at e
      exact S.le b u e
  · obtain ⟨q1, q2⟩ := S.stp.k b u h1 hT h2 h3
    have hb : b ≠ a := fun z => by
      subst z
      rcases h00 with z | z
      · exact h1 z
      · rw [z] at h3; cases h3
    rw [upd_ne hb]
    exact ⟨q1, q2⟩
  · by_cases hj : j = k
    · subst hj
      rw [List.getElem?_set_self hkl] at e2
      cases e2
      exact absurd rfl e3
    · rw [List.getElem?_set_ne (Ne.symm hj)] at e2
      obtain ⟨q1, u, q2, q3⟩ := S.own j b m2 e1 e2 e3
      rw [upd_ne (inj e1 hj)]
      exact ⟨q1, u, q2, q3.mono sg (List.prefix_refl _)⟩
  · obtain ⟨v, q1, q2⟩ := S.slot i l e
    exact ⟨v, q1, q2.mono sg (List.prefix_refl _)⟩
/-- a slot is set -/
theorem Sat.set {i : Nat} {l : Lo} {v : V} (S : Sat C As G H Γ M σ) (r : LRp C.K As G v l) : Sat C As G H (Γ.set i (some l)) M (σ.set i (some v)) := by
  refine ⟨S.le, S.stp, S.own, S.fr, S.inj, S.al, S.asS, S.there, fun j l' e => ?_, by rw [List.length_set, List.length_set]; exact S.len, S.bg, S.ba, S.tb⟩
  by_cases hj : j = i
  · subst hj
    by_cases hl : j < Γ.length
    · rw [List.getElem?_set_self hl] at e
      cases e
      exact ⟨v, by rw [List.getElem?_set_self (by rw [← S.len]; exact hl)], r⟩
    · rw [List.getElem?_eq_none (by simpa using hl)] at e
      cases e
  · rw [List.getElem?_set_ne (Ne.symm hj)] at e ⊢
    exact S.slot j l' e
/-- some slots are forgotten -/
theorem Sat.sub {Γ' : Gam} {σ' : L2.St} (S : Sat C As G H Γ M σ) (hl : Γ'.length = σ'.length) (h : ∀ (i : Nat) (l : Lo), Γ'[i]? = some (some l) → Γ[i]? = some (some l)) (hs : ∀ (i : Nat) (l : Lo) (v : V), Γ'[i]? = some (some l) → σ[i]? = some (some v) → σ'[i]? = some (some v)) : Sat C As G H Γ' M σ' :=
  ⟨S.le, S.stp, S.own, S.fr, S.inj, S.al, S.asS, S.there, fun i l e => by
    obtain ⟨v, q1, q2⟩ := S.slot i l (h i l e)
    exact ⟨v, hs i l v e q1, q2⟩, hl, S.bg, S.ba, S.tb⟩
end
end Dl

set_option Elab.async false
set_option maxRecDepth 100000
set_option maxHeartbeats 1000000
namespace Dl
open PySem L2

/-! ### readings -/
abbrev RE := Gam → Led → (Lo → Led → Prop) → Prop
abbrev RT := Gam → Led → (Bool → Led → Prop) → Prop
abbrev RA := Gam → Led → (List Lo → Led → Prop) → Prop
abbrev RG := Lo → Gam → Led → (Gam → Led → Prop) → Prop
structure Nd where
  nx : Gam → Led → Prop
  rt : Lo → Led → Prop
  bk : Gam → Led → Prop := fun _ _ => False
  ct : Gam → Led → Prop := fun _ _ => False
abbrev RS := Nd → Gam → Led → Prop

/-- the state has grown -/
structure Gr (C : Fc) (As : List Addr) (G : Hp) (As' : List Addr) (G' H' : Hp) (Γ' : Gam) (M' : Led) (σ' : L2.St) : Prop where
  sat : Sat C As' G' H' Γ' M' σ'
  g : Same G G'
  p : As <+: As'
theorem Gr.refl {C : Fc} {As : List Addr} {G H : Hp} {Γ : Gam} {M : Led} {σ : L2.St} (S : Sat C As G H Γ M σ) : Gr C As G As G H Γ M σ := ⟨S, Same.refl _, List.prefix_refl _⟩
theorem Gr.trans {C : Fc} {As As1 As2 : List Addr} {G G1 H1 G2 H2 : Hp} {Γ1 Γ2 : Gam} {M1 M2 : Led} {σ1 σ2 : L2.St} (a : Gr C As G As1 G1 H1 Γ1 M1 σ1) (b : Gr C As1 G1 As2 G2 H2 Γ2 M2 σ2) : Gr C As G As2 G2 H2 Γ2 M2 σ2 :=
  ⟨b.sat, a.g.trans b.g, a.p.trans b.p⟩

def UE (C : Fc) (t : RE) : TE := fun σ H Q => ∃ (As : List Addr) (G : Hp) (Γ : Gam) (M : Led) (K : Lo → Led → Prop), Sat C As G H Γ M σ ∧ t Γ M K ∧
  ∀ (l : Lo) (M' : Led) (v : V) (As' : List Addr) (G' H' : Hp), Gr C As G As' G' H' Γ M' σ → LRp C.K As' G' v l → K l M' → Q v H'
def UT (C : Fc) (t : RT) : TT := fun σ H Q => ∃ (As : List Addr) (G : Hp) (Γ : Gam) (M : Led) (K : Bool → Led → Prop), Sat C As G H Γ M σ ∧ t Γ M K ∧
  ∀ (b : Bool) (M' : Led) (As' : List Addr) (G' H' : Hp), Gr C As G As' G' H' Γ M' σ → K b M' → Q b H'
def UA (C : Fc) (t : RA) : TA := fun σ H Q => ∃ (As : List Addr) (G : Hp) (Γ : Gam) (M : Led) (K : List Lo → Led → Prop), Sat C As G H Γ M σ ∧ t Γ M K ∧
  ∀ (ls : List Lo) (M' : Led) (vs : List V) (As' : List Addr) (G' H' : Hp), Gr C As G As' G' H' Γ M' σ → LRpL C.K As' G' vs ls → K ls M' → Q vs H'
/-- is: the slots that the target may change -/
def UG (C : Fc) (is : List Nat) (t : RG) : TG := fun v σ H Q => ∃ (As : List Addr) (G : Hp) (Γ : Gam) (M : Led) (l : Lo) (K : Gam → Led → Prop), Sat C As G H Γ M σ ∧ LRp C.K As G v l ∧ t l Γ M K ∧
  ∀ (Γ' : Gam) (M' : Led) (σ' : L2.St) (As' : List Addr) (G' H' : Hp), Gr C As G As' G' H' Γ' M' σ' → (∀ j, j ∉ is → σ'[j]? = σ[j]?) → σ'.length = σ.length → K Γ' M' → Q σ' H'
/-- .. the ledger may have been cut -/
structure Gw (C : Fc) (G : Hp) (As' : List Addr) (G' H' : Hp) (Γ' : Gam) (M' : Led) (σ' : L2.St) : Prop where
  sat : Sat C As' G' H' Γ' M' σ'
  g : Same G G'
theorem Gr.w {C : Fc} {As As' : List Addr} {G G' H' : Hp} {Γ' : Gam} {M' : Led} {σ' : L2.St} (g : Gr C As G As' G' H' Γ' M' σ') : Gw C G As' G' H' Γ' M' σ' := ⟨g.sat, g.g⟩
theorem Gw.trans {C : Fc} {As1 As2 : List Addr} {G G1 H1 G2 H2 : Hp} {Γ1 Γ2 : Gam} {M1 M2 : Led} {σ1 σ2 : L2.St} (a : Gw C G As1 G1 H1 Γ1 M1 σ1) (b : Gw C G1 As2 G2 H2 Γ2 M2 σ2) : Gw C G As2 G2 H2 Γ2 M2 σ2 :=
  ⟨b.sat, a.g.trans b.g⟩
structure Fin (C : Fc) (G : Hp) (N : Nd) (D : Ends) : Prop where
  nx : ∀ (Γ' : Gam) (M' : Led) (σ' : L2.St) (As' : List Addr) (G' H' : Hp), Gw C G As' G' H' Γ' M' σ' → N.nx Γ' M' → D.nx σ' H'
  rt : ∀ (l : Lo) (v : V) (Γ' : Gam) (M' : Led) (σ' : L2.St) (As' : List Addr) (G' H' : Hp), Gw C G As' G' H' Γ' M' σ' → LRp C.K As' G' v l → N.rt l M' → D.rt v H'
  bk : ∀ (Γ' : Gam) (M' : Led) (σ' : L2.St) (As' : List Addr) (G' H' : Hp), Gw C G As' G' H' Γ' M' σ' → N.bk Γ' M' → D.bk σ' H'
  ct : ∀ (Γ' : Gam) (M' : Led) (σ' : L2.St) (As' : List Addr) (G' H' : Hp), Gw C G As' G' H' Γ' M' σ' → N.ct Γ' M' → D.ct σ' H'
theorem Fin.mono {C : Fc} {As1 : List Addr} {G G1 H1 : Hp} {N : Nd} {D : Ends} {Γ1 : Gam} {M1 : Led} {σ1 : L2.St} (f : Fin C G N D) (g : Gw C G As1 G1 H1 Γ1 M1 σ1) : Fin C G1 N D :=
  ⟨fun Γ' M' σ' As' G' H' g' => f.nx Γ' M' σ' As' G' H' (g.trans g'), fun l v Γ' M' σ' As' G' H' g' => f.rt l v Γ' M' σ' As' G' H' (g.trans g'), fun Γ' M' σ' As' G' H' g' => f.bk Γ' M' σ' As' G' H' (g.trans g'), fun Γ' M' σ' As' G' H' g' => f.ct Γ' M' σ' As' G' H' (g.trans g')⟩
def US (C : Fc) (t : RS) : TS := fun D σ H => ∃ (As : List Addr) (G : Hp) (Γ : Gam) (M : Led) (N : Nd), Sat C As G H Γ M σ ∧ t N Γ M ∧ Fin C G N D

/-! ### judgements -/
theorem PE.imp {X : Cx} {e : Expr} {t u : TE} (h : PE X e t) (i : ∀ σ H Q, u σ H Q → t σ H Q) : PE X e u := ⟨fun pins s σ H Q I q => h.run pins s σ H Q I (i σ H Q q)⟩
theorem PT.imp {X : Cx} {e : Expr} {t u : TT} (h : PT X e t) (i : ∀ σ H Q, u σ H Q → t σ H Q) : PT X e u := ⟨fun pins s σ H Q I q => h.run pins s σ H Q I (i σ H Q q)⟩
theorem PW.imp {X : Cx} {e : Expr} {t u : TT} (h : PW X e t) (i : ∀ σ H Q, u σ H Q → t σ H Q) : PW X e u := ⟨fun wh pins s σ H Q I q => h.run wh pins s σ H Q I (i σ H Q q)⟩
theorem PA.imp {X : Cx} {es : List Expr} {t u : TA} (h : PA X es t) (i : ∀ σ H Q, u σ H Q → t σ H Q) : PA X es u := ⟨fun pos pins s σ H Q I q => h.run pos pins s σ H Q I (i σ H Q q)⟩
theorem PS.imp {X : Cx} {st : Stmt} {t u : TS} (h : PS X st t) (i : ∀ D σ H, u D σ H → t D σ H) : PS X st u := ⟨fun pins s σ H D I q => h.run pins s σ H D I (i D σ H q)⟩
theorem PSs.imp {X : Cx} {st : List Stmt} {t u : TS} (h : PSs X st t) (i : ∀ D σ H, u D σ H → t D σ H) : PSs X st u := ⟨fun pins s σ H D I q => h.run pins s σ H D I (i D σ H q)⟩
theorem PG.imp {X : Cx} {e : Expr} {t u : TG} (h : PG X e t) (i : ∀ v σ H Q, u v σ H Q → t v σ H Q) : PG X e u := ⟨fun pins s σ H v u Q I r q => h.run pins s σ H v u Q I r (i v σ H Q q)⟩
def QE (C : Fc) (X : Cx) (e : Expr) (t : RE) : Prop := PE X e (UE C t)
def QT (C : Fc) (X : Cx) (e : Expr) (t : RT) : Prop := PT X e (UT C t)
def QW (C : Fc) (X : Cx) (e : Expr) (t : RT) : Prop := PW X e (UT C t)
def QA (C : Fc) (X : Cx) (es : List Expr) (t : RA) : Prop := PA X es (UA C t)
def QS (C : Fc) (X : Cx) (st : Stmt) (t : RS) : Prop := PS X st (US C t)
def QSs (C : Fc) (X : Cx) (st : List Stmt) (t : RS) : Prop := PSs X st (US C t)
def QG (C : Fc) (X : Cx) (e : Expr) (is : List Nat) (t : RG) : Prop := PG X e (UG C is t)

section
variable {C : Fc} {X : Cx} {a b c e : Expr} {es : List Expr} {ta tb tc te : RE} {pos : Pos}

/-! ### names and constants -/
def rVar (i : Nat) : RE := fun Γ M K => match Γ[i]? with
  | some (some l) => K l M
  | _ => False
def rCon (d : D) : RE := fun _ M K => K (.im d) M
theorem up_con {d : D} {v : V} (h : ∀ G, Rp C.K G v d) : ∀ σ H Q, UE C (rCon d) σ H Q → tC v σ H Q := fun σ H Q ⟨As, G, Γ, M, K, S, t, q⟩ => q (.im d) M v As G H (Gr.refl S) (h G) t
theorem q_var (i : Nat) {x : Str} {pos : Pos} (hN : X.N[i]? = some x := by rfl) (hv : Vis X.env.scope x := by first | exact Or.inl rfl | exact Or.inr (Or.inl rfl) | exact Or.inr (Or.inr rfl)) (hd : (x == ("__debug__" : Str)) = false := by decide)
    (hcd : (x == ("__classdict__" : Str)) = false := by decide) : QE C X (.Name x pos) (rVar i) := by
  refine PE.imp (pe_var hN hv hd hcd) fun σ H Q ⟨As, G, Γ, M, K, S, t, q⟩ => ?_
  unfold rVar at t
  split at t
  · rename_i l e
    obtain ⟨v, q1, q2⟩ := S.slot i l e
    exact ⟨v, q1, q l M v As G H (Gr.refl S) q2 t⟩
  · exact t.elim
theorem q_int {i j pos} : QE C X (.Constant (.int i) j pos) (rCon (.int i)) := PE.imp pe_int (up_con fun _ => .int i)
theorem q_bl {i j pos} : QE C X (.Constant (.bool i) j pos) (rCon (.bl i)) := PE.imp pe_bl (up_con fun _ => .bl i)
theorem q_non {j pos} : QE C X (.Constant .none j pos) (rCon .non) := PE.imp pe_non (up_con fun _ => .non)
theorem q_str {i j pos} : QE C X (.Constant (.str i) j pos) (rCon (.str i)) := PE.imp pe_str (up_con fun _ => .str i)
theorem q_gint {x : Str} {i : Int} {t : Tok} {pos : Pos} (hm : X.mg x = some (.int i t)) (hg : Gl X x := by rfl) (hd : (x == ("__debug__" : Str)) = false := by decide) : QE C X (.Name x pos) (rCon (.int i)) :=
  PE.imp (pe_glob (v := .int i) hg hm ⟨_, rfl⟩ hd) (up_con fun _ => .int i)
theorem q_gstr {x : Str} {i : Str} {t : Tok} {pos : Pos} (hm : X.mg x = some (.str i t)) (hg : Gl X x := by rfl) (hd : (x == ("__debug__" : Str)) = false := by decide) : QE C X (.Name x pos) (rCon (.str i)) :=
  PE.imp (pe_glob (v := .str i) hg hm ⟨_, rfl⟩ hd) (up_con fun _ => .str i)

/-! ### operators by values -/
abbrev R2L := Lo → Lo → Led → (Lo → Led → Prop) → Prop
abbrev R1L := Lo → Led → (Lo → Led → Prop) → Prop
abbrev RnL := List Lo → Led → (Lo → Led → Prop) → Prop
def OpL (C : Fc) (r : R2) (ρ : R2L) : Prop := ∀ {As : List Addr} {G H : Hp} {Γ : Gam} {M : Led} {σ : L2.St} {x y : V} {lx ly : Lo} {K : Lo → Led → Prop} {Q : VK}, Sat C As G H Γ M σ → LRp C.K As G x lx → LRp C.K As G y ly → ρ lx ly M K →
  (∀ (l : Lo) (M' : Led) (v : V) (As' : List Addr) (G' H' : Hp), Gr C As G As' G' H' Γ M' σ → LRp C.K As' G' v l → K l M' → Q v H') → r x y H Q
def UnL (C : Fc) (r : V → Hp → VK → Prop) (ρ : R1L) : Prop := ∀ {As : List Addr} {G H : Hp} {Γ : Gam} {M : Led} {σ : L2.St} {x : V} {lx : Lo} {K : Lo → Led → Prop} {Q : VK}, Sat C As G H Γ M σ → LRp C.K As G x lx → ρ lx M K →
  (∀ (l : Lo) (M' : Led) (v : V) (As' : List Addr) (G' H' : Hp), Gr C As G As' G' H' Γ M' σ → LRp C.K As' G' v l → K l M' → Q v H') → r x H Q
def CaL (C : Fc) (r : List V → Hp → VK → Prop) (ρ : RnL) : Prop := ∀ {As : List Addr} {G H : Hp} {Γ : Gam} {M : Led} {σ : L2.St} {xs : List V} {ls : List Lo} {K : Lo → Led → Prop} {Q : VK}, Sat C As G H Γ M σ → LRpL C.K As G xs ls → ρ ls M K →
  (∀ (l : Lo) (M' : Led) (v : V) (As' : List Addr) (G' H' : Hp), Gr C As G As' G' H' Γ M' σ → LRp C.K As' G' v l → K l M' → Q v H') → r xs H Q
def qOp (ρ : R2L) (ta tb : RE) : RE := fun Γ M K => ta Γ M fun x M1 => tb Γ M1 fun y M2 => ρ x y M2 K
def qUn (ρ : R1L) (ta : RE) : RE := fun Γ M K => ta Γ M fun x M1 => ρ x M1 K
def qCa (ρ : RnL) (ta : RA) : RE := fun Γ M K => ta Γ M fun xs M1 => ρ xs M1 K
theorem up_op {r : R2} {ρ : R2L} (h : OpL C r ρ) : ∀ σ H Q, UE C (qOp ρ ta tb) σ H Q → tOp r (UE C ta) (UE C tb) σ H Q := fun σ H Q ⟨As, G, Γ, M, K, S, t, q⟩ =>
  ⟨As, G, Γ, M, _, S, t, fun lx M1 x As1 G1 H1 g1 rx t1 => ⟨As1, G1, Γ, M1, _, g1.sat, t1, fun ly M2 y As2 G2 H2 g2 ry t2 =>
    h g2.sat (rx.mono g2.g g2.p) ry t2 fun l M' v As' G' H' g3 rv k => q l M' v As' G' H' (g1.trans (g2.trans g3)) rv k⟩⟩
theorem up_un {r : V → Hp → VK → Prop} {ρ : R1L} (h : UnL C r ρ) : ∀ σ H Q, UE C (qUn ρ ta) σ H Q → tUn r (UE C ta) σ H Q := fun σ H Q ⟨As, G, Γ, M, K, S, t, q⟩ =>
  ⟨As, G, Γ, M, _, S, t, fun lx M1 x As1 G1 H1 g1 rx t1 => h g1.sat rx t1 fun l M' v As' G' H' g3 rv k => q l M' v As' G' H' (g1.trans g3) rv k⟩
theorem up_ca {r : List V → Hp → VK → Prop} {ρ : RnL} {t : RA} (h : CaL C r ρ) : ∀ σ H Q, UE C (qCa ρ t) σ H Q → tCB r (UA C t) σ H Q := fun σ H Q ⟨As, G, Γ, M, K, S, t, q⟩ =>
  ⟨As, G, Γ, M, _, S, t, fun lx M1 x As1 G1 H1 g1 rx t1 => h g1.sat rx t1 fun l M' v As' G' H' g3 rv k => q l M' v As' G' H' (g1.trans g3) rv k⟩
theorem q_op {op : Operator} {r : R2} {ρ : R2L} (hl : OpL C r ρ) (ho : OpR X (binaryOp op) r) (ha : QE C X a ta) (hb : QE C X b tb) : QE C X (.BinOp a op b pos) (qOp ρ ta tb) := PE.imp (pe_op ho ha hb) (up_op hl)
theorem q_un {op : UnaryOp} {r : V → Hp → VK → Prop} {ρ : R1L} (hl : UnL C r ρ) (ho : UnR X (unaryOp op) r) (ha : QE C X a ta) : QE C X (.UnaryOp op a pos) (qUn ρ ta) := PE.imp (pe_un ho ha) (up_un hl)
theorem q_cmp {op : CmpOp} {r : R2} {ρ : R2L} (hl : OpL C r ρ) (ho : OpR X (compareOp op) r) (ha : QE C X a ta) (hb : QE C X b tb) (hm : behindInMarks op b = false) : QE C X (.Compare a [op] [b] pos) (qOp ρ ta tb) := PE.imp (pe_cmpR ho ha hb hm) (up_op hl)

/-! ### arguments, displays -/
def rNil : RA := fun _ M K => K [] M
def rCons (ta : RE) (tr : RA) : RA := fun Γ M K => ta Γ M fun x M1 => tr Γ M1 fun xs M2 => K (x :: xs) M2
theorem q_nil : QA C X [] rNil := PA.imp pa_nil fun σ H Q ⟨As, G, Γ, M, K, S, t, q⟩ => q [] M [] As G H (Gr.refl S) .nil t
theorem q_cons {tr : RA} (ha : QE C X e te) (hr : QA C X es tr) (hs : starEach (e :: es) X.env = (false, eval e X.env) :: starEach es X.env := by rfl) : QA C X (e :: es) (rCons te tr) :=
  PA.imp (pa_cons ha hr hs) fun σ H Q ⟨As, G, Γ, M, K, S, t, q⟩ =>
    ⟨As, G, Γ, M, _, S, t, fun lx M1 x As1 G1 H1 g1 rx t1 => ⟨As1, G1, Γ, M1, _, g1.sat, t1, fun ly M2 y As2 G2 H2 g2 ry t2 => q _ M2 _ As2 G2 H2 (g1.trans g2) (.cons (rx.mono g2.g g2.p) ry) t2⟩⟩
/-- all of them data -/
def allIm : List Lo → Option (List D)
  | [] => some []
  | .im d :: r => match allIm r with
    | some ds => some (d :: ds)
    | none => none
  | .ow _ :: _ => none
  | .tp _ :: _ => none
theorem allIm_map : ∀ {ls : List Lo} {ds : List D}, allIm ls = some ds → ls = ds.map Lo.im
  | [], ds, h => by cases h; rfl
  | .im d :: r, ds, h => by
    unfold allIm at h
    split at h
    · rename_i es e
      cases h
      rw [allIm_map e]
      rfl
    · cases h
  | .ow _ :: _, ds, h => by cases h
  | .tp _ :: _, ds, h => by cases h
theorem allIm_rp {K : PySem.W.Frag} {As : List Addr} {G : Hp} {vs : List V} {ls : List Lo} {ds : List D} (r : LRpL K As G vs ls) (h : allIm ls = some ds) : RpL K G vs ds := by
  rw [allIm_map h] at r
  exact r.data
def rTup (t : RA) : RE := fun Γ M K => t Γ M fun ls M1 => match allIm ls with
  | some ds => ds.length ≤ sizeLine ∧ K (.im (.tup ds)) M1
  | none => ls.length ≤ sizeLine ∧ K (.tp ls) M1
/-- a new list, frozen at once -/
def rLst (t : RA) : RE := fun Γ M K => t Γ M fun ls M1 => match allIm ls with
  | some ds => ds.length ≤ sizeLine ∧ K (.im (.lst ds)) M1
  | none => False
/-- a new list of data, owned -/
def rLstO (t : RA) : RE := fun Γ M K => t Γ M fun ls M1 => match allIm ls with
  | some ds => ds.length ≤ sizeLine ∧ K (.ow M1.length) (M1 ++ [.li ds])
  | none => False
/-- a new list of anything, owned -/
def rLstM (t : RA) : RE := fun Γ M K => t Γ M fun ls M1 => ls.length ≤ sizeLine ∧ K (.ow M1.length) (M1 ++ [.ls ls])
section
variable {As : List Addr} {G H : Hp} {Γ : Gam} {M : Led} {σ : L2.St} {p : Addr}
theorem Gr.frz {o : HO} (S : Sat C As G H Γ M σ) (hp : H p = none) : Gr C As G As (upd G p o) (upd H p o) Γ M σ := ⟨S.allocF hp, Same.new (S.gn hp), List.prefix_refl _⟩
theorem Gr.alloc {o : HO} {m : MO} (S : Sat C As G H Γ M σ) (hp : H p = none) (hm : MOis C.K (As ++ [p]) G o m) : Gr C As G (As ++ [p]) G (upd H p o) Γ (M ++ [m]) σ := ⟨S.alloc hp hm, Same.refl _, as_pre _ _⟩
theorem ow_new (S : Sat C As G H Γ M σ) {G' : Hp} : LRp C.K (As ++ [p]) G' (.ref p) (.ow M.length) := ⟨p, by rw [← S.al]; simp, rfl⟩
theorem rp_new_l {xs : List V} {ds : List D} (S : Sat C As G H Γ M σ) (hp : H p = none) (r : RpL C.K G xs ds) : Rp C.K (upd G p (.lst xs)) (.ref p) (.lst ds) := .lst upd_same (r.mono (Same.new (S.gn hp)))
theorem rp_new_t {xs : List V} {ds : List D} (S : Sat C As G H Γ M σ) (hp : H p = none) (r : RpL C.K G xs ds) : Rp C.K (upd G p (.tup xs)) (.ref p) (.tup ds) := .tup upd_same (r.mono (Same.new (S.gn hp)))
end
theorem q_tup {t : RA} {x1} (h : QA C X es t) : QE C X (.Tuple es x1 pos) (rTup t) := PE.imp (pe_tup h) fun σ H Q ⟨As, G, Γ, M, K, S, t, q⟩ =>
  ⟨As, G, Γ, M, _, S, t, fun ls M1 vs As1 G1 H1 g1 rv t1 => by
    split at t1
    · rename_i ds e
      have r := allIm_rp rv e
      exact ⟨by rw [r.length]; exact t1.1, fun p hp => q (.im (.tup ds)) M1 _ As1 _ _ (g1.trans (Gr.frz g1.sat hp)) (rp_new_t g1.sat hp r) t1.2⟩
    · exact ⟨by rw [rv.length]; exact t1.1, fun p hp => q (.tp ls) M1 _ As1 _ _ (g1.trans (Gr.frz g1.sat hp)) ⟨p, vs, rfl, upd_same, (rv.mono (Same.new (g1.sat.gn hp)) (List.prefix_refl _)).s⟩ t1.2⟩⟩
theorem q_lst {t : RA} (h : QA C X es t) : QE C X (.List es pos) (rLst t) := PE.imp (pe_lst h) fun σ H Q ⟨As, G, Γ, M, K, S, t, q⟩ =>
  ⟨As, G, Γ, M, _, S, t, fun ls M1 vs As1 G1 H1 g1 rv t1 => by
    split at t1
    · rename_i ds e
      have r := allIm_rp rv e
      exact ⟨by rw [r.length]; exact t1.1, fun p hp => q (.im (.lst ds)) M1 _ As1 _ _ (g1.trans (Gr.frz g1.sat hp)) (rp_new_l g1.sat hp r) t1.2⟩
    · exact t1.elim⟩
theorem q_lstO {t : RA} (h : QA C X es t) : QE C X (.List es pos) (rLstO t) := PE.imp (pe_lst h) fun σ H Q ⟨As, G, Γ, M, K, S, t, q⟩ =>
  ⟨As, G, Γ, M, _, S, t, fun ls M1 vs As1 G1 H1 g1 rv t1 => by
    split at t1
    · rename_i ds e
      have r := allIm_rp rv e
      exact ⟨by rw [r.length]; exact t1.1, fun p hp => q _ _ _ _ _ _ (g1.trans (Gr.alloc (m := .li ds) g1.sat hp ⟨_, rfl, r⟩)) (ow_new g1.sat) t1.2⟩
    · exact t1.elim⟩
theorem q_lstM {t : RA} (h : QA C X es t) : QE C X (.List es pos) (rLstM t) := PE.imp (pe_lst h) fun σ H Q ⟨As, G, Γ, M, K, S, t, q⟩ =>
  ⟨As, G, Γ, M, _, S, t, fun ls M1 vs As1 G1 H1 g1 rv t1 =>
    ⟨by rw [rv.length]; exact t1.1, fun p hp => q _ _ _ _ _ _ (g1.trans (Gr.alloc (m := .ls ls) g1.sat hp ⟨_, rfl, rv.mono (Same.refl _) (as_pre _ _)⟩)) (ow_new g1.sat) t1.2⟩⟩

/-! ### tests -/
def rB (t : RE) : RT := fun Γ M K => t Γ M fun l M1 => match l with
  | .im (.bl b) => K b M1
  | _ => False
theorem up_b {t : TE} {rt : RE} (h : ∀ σ H Q, UE C rt σ H Q → t σ H Q) : ∀ σ H Q, UT C (rB rt) σ H Q → tB t σ H Q := fun σ H Q ⟨As, G, Γ, M, K, S, t, q⟩ =>
  h σ H _ ⟨As, G, Γ, M, _, S, t, fun l M1 v As1 G1 H1 g1 rv t1 => by
    cases l with
    | ow k => exact t1.elim
    | tp _ => exact t1.elim
    | im d =>
      cases d with
      | bl b =>
        cases rv
        exact ⟨b, rfl, q b M1 As1 G1 H1 g1 t1⟩
      | _ => exact t1.elim⟩
theorem q_tv {e : Expr} {t : RE} (h : QE C X e t) (he : ∀ whole, isTrue e X.env whole = (do let v ← whole; standAt e.pos; holding [v] (truthy v)) := by intro _; rfl) : QT C X e (rB t) := PT.imp (pt_val h he) (up_b fun _ _ _ q => q)
theorem q_tcmp {op : CmpOp} {r : R2} {ρ : R2L} (hl : OpL C r ρ) (ho : OpR X (compareOp op) r) (ha : QE C X a ta) (hb : QE C X b tb) (hm : behindInMarks op b = false) : QT C X (.Compare a [op] [b] pos) (rB (qOp ρ ta tb)) :=
  PT.imp (pt_cmpR ho ha hb hm) (up_b (up_op hl))
def IfP (b : Bool) (A B : Prop) : Prop := (b = true → A) ∧ (b = false → B)
theorem IfP.to {b : Bool} {A B : Prop} (h : IfP b A B) : if b = true then A else B := by
  cases b with
  | true => exact h.1 rfl
  | false =>
    rw [if_neg Bool.false_ne_true]
    exact h.2 rfl
def rAndT (t u : RT) : RT := fun Γ M K => t Γ M fun b M1 => IfP b (u Γ M1 K) (K false M1)
def rOrT (t u : RT) : RT := fun Γ M K => t Γ M fun b M1 => IfP b (K true M1) (u Γ M1 K)
def rNotT (t : RT) : RT := fun Γ M K => t Γ M fun b M1 => K (!b) M1
theorem q_wand1 {t : RT} (ha : QT C X a t) : QW C X (.BoolOp .And [a] pos) t := pw_and1 ha
theorem q_wor1 {t : RT} (ha : QT C X a t) : QW C X (.BoolOp .Or [a] pos) t := pw_or1 ha
theorem q_wand {rest : List Expr} {t u : RT} (ha : QT C X a t) (hb : QW C X (.BoolOp .And (b :: rest) pos) u) : QW C X (.BoolOp .And (a :: b :: rest) pos) (rAndT t u) :=
  PW.imp (pw_and ha hb) fun σ H Q ⟨As, G, Γ, M, K, S, t, q⟩ => ⟨As, G, Γ, M, _, S, t, fun k M1 As1 G1 H1 g1 t1 => by
    cases k with
    | true => exact ⟨As1, G1, Γ, M1, K, g1.sat, t1.1 rfl, fun b M2 As2 G2 H2 g2 k => q b M2 As2 G2 H2 (g1.trans g2) k⟩
    | false =>
      rw [if_neg Bool.false_ne_true]
      exact q false M1 As1 G1 H1 g1 (t1.2 rfl)⟩
theorem q_wor {rest : List Expr} {t u : RT} (ha : QT C X a t) (hb : QW C X (.BoolOp .Or (b :: rest) pos) u) : QW C X (.BoolOp .Or (a :: b :: rest) pos) (rOrT t u) :=
  PW.imp (pw_or ha hb) fun σ H Q ⟨As, G, Γ, M, K, S, t, q⟩ => ⟨As, G, Γ, M, _, S, t, fun k M1 As1 G1 H1 g1 t1 => by
    cases k with
    | true => exact q true M1 As1 G1 H1 g1 (t1.1 rfl)
    | false =>
      rw [if_neg Bool.false_ne_true]
      exact ⟨As1, G1, Γ, M1, K, g1.sat, t1.2 rfl, fun b M2 As2 G2 H2 g2 k => q b M2 As2 G2 H2 (g1.trans g2) k⟩⟩
theorem q_wt {t : RT} (h : QW C X e t) : QT C X e t := PW.pt h
theorem q_not {t : RT} (ha : QT C X a t) : QT C X (.UnaryOp .Not a pos) (rNotT t) := PT.imp (pt_not ha) fun σ H Q ⟨As, G, Γ, M, K, S, t, q⟩ => ⟨As, G, Γ, M, _, S, t, fun k M1 As1 G1 H1 g1 t1 => q _ M1 As1 G1 H1 g1 t1⟩
/-- .. as values -/
def rAndV (ta tb : RE) : RE := fun Γ M K => ta Γ M fun l M1 => match l with
  | .im (.bl b) => IfP b (tb Γ M1 K) (K (.im (.bl false)) M1)
  | _ => False
def rOrV (ta tb : RE) : RE := fun Γ M K => ta Γ M fun l M1 => match l with
  | .im (.bl b) => IfP b (K (.im (.bl true)) M1) (tb Γ M1 K)
  | _ => False
def rNotV (ta : RE) : RE := fun Γ M K => ta Γ M fun l M1 => match l with
  | .im (.bl b) => K (.im (.bl (!b))) M1
  | _ => False
theorem bl_of {K : PySem.W.Frag} {As : List Addr} {G : Hp} {v : V} {b : Bool} (r : LRp K As G v (.im (.bl b))) : v = .bl b := by
  cases r
  rfl
theorem int_of {K : PySem.W.Frag} {As : List Addr} {G : Hp} {v : V} {b : Int} (r : LRp K As G v (.im (.int b))) : v = .int b := by
  cases r
  rfl
theorem str_of {K : PySem.W.Frag} {As : List Addr} {G : Hp} {v : V} {b : Str} (r : LRp K As G v (.im (.str b))) : v = .str b := by
  cases r
  rfl
theorem bl_case {l : Lo} {P : Bool → Prop} (h : match l with | .im (.bl b) => P b | _ => False) : ∃ b, l = .im (.bl b) ∧ P b := by
  cases l with
  | ow k => exact h.elim
  | tp _ => exact h.elim
  | im d =>
    cases d with
    | bl b => exact ⟨b, rfl, h⟩
    | _ => exact h.elim
theorem q_one {op} {t : RE} (h : QE C X a t) : QE C X (.BoolOp op [a] pos) t := pe_one h
theorem q_and {rest : List Expr} (ha : QE C X a ta) (hb : QE C X (.BoolOp .And (b :: rest) pos) tb) : QE C X (.BoolOp .And (a :: b :: rest) pos) (rAndV ta tb) :=
  PE.imp (pe_and ha hb) fun σ H Q ⟨As, G, Γ, M, K, S, t, q⟩ => ⟨As, G, Γ, M, _, S, t, fun l M1 v As1 G1 H1 g1 rv t1 => by
    obtain ⟨k, rfl, t1⟩ := bl_case t1
    refine ⟨k, bl_of rv, ?_⟩
    cases k with
    | true => exact ⟨As1, G1, Γ, M1, K, g1.sat, t1.1 rfl, fun l M2 v As2 G2 H2 g2 rv k => q l M2 v As2 G2 H2 (g1.trans g2) rv k⟩
    | false =>
      rw [if_neg Bool.false_ne_true]
      exact q (.im (.bl false)) M1 _ As1 G1 H1 g1 (Rp.bl false) (t1.2 rfl)⟩
theorem q_or {rest : List Expr} (ha : QE C X a ta) (hb : QE C X (.BoolOp .Or (b :: rest) pos) tb) : QE C X (.BoolOp .Or (a :: b :: rest) pos) (rOrV ta tb) :=
  PE.imp (pe_or ha hb) fun σ H Q ⟨As, G, Γ, M, K, S, t, q⟩ => ⟨As, G, Γ, M, _, S, t, fun l M1 v As1 G1 H1 g1 rv t1 => by
    obtain ⟨k, rfl, t1⟩ := bl_case t1
    refine ⟨k, bl_of rv, ?_⟩
    cases k with
    | true => exact q (.im (.bl true)) M1 _ As1 G1 H1 g1 (Rp.bl true) (t1.1 rfl)
    | false =>
      rw [if_neg Bool.false_ne_true]
      exact ⟨As1, G1, Γ, M1, K, g1.sat, t1.2 rfl, fun l M2 v As2 G2 H2 g2 rv k => q l M2 v As2 G2 H2 (g1.trans g2) rv k⟩⟩
theorem q_notV (ha : QE C X a ta) : QE C X (.UnaryOp .Not a pos) (rNotV ta) :=
  PE.imp (pe_not ha) fun σ H Q ⟨As, G, Γ, M, K, S, t, q⟩ => ⟨As, G, Γ, M, _, S, t, fun l M1 v As1 G1 H1 g1 rv t1 => by
    obtain ⟨k, rfl, t1⟩ := bl_case t1
    exact ⟨k, bl_of rv, q (.im (.bl (!k))) M1 _ As1 G1 H1 g1 (Rp.bl _) t1⟩⟩
def rIfE (t : RT) (ta tb : RE) : RE := fun Γ M K => t Γ M fun b M1 => IfP b (ta Γ M1 K) (tb Γ M1 K)
theorem q_ife {t : RT} (hc : QT C X c t) (ha : QE C X a ta) (hb : QE C X b tb) : QE C X (.IfExp c a b pos) (rIfE t ta tb) :=
  PE.imp (pe_ifExp hc ha hb) fun σ H Q ⟨As, G, Γ, M, K, S, t, q⟩ => ⟨As, G, Γ, M, _, S, t, fun k M1 As1 G1 H1 g1 t1 => by
    have go : ∀ {te : RE}, te Γ M1 K → UE C te σ H1 Q := fun {te} h => ⟨As1, G1, Γ, M1, K, g1.sat, h, fun l M2 v As2 G2 H2 g2 rv k => q l M2 v As2 G2 H2 (g1.trans g2) rv k⟩
    cases k with
    | true => exact go (t1.1 rfl)
    | false => exact go (t1.2 rfl)⟩
/-- a chain of two comparisons -/
def rChain (ρ ρ' : R2L) (ta tb tc : RE) : RE := fun Γ M K => ta Γ M fun x M1 => tb Γ M1 fun y M2 => ρ x y M2 fun z M3 => match z with
  | .im (.bl b) => IfP b (tc Γ M3 fun w M4 => ρ' y w M4 K) (K (.im (.bl false)) M3)
  | _ => False
theorem up_chain {r r' : R2} {ρ ρ' : R2L} (h : OpL C r ρ) (h' : OpL C r' ρ') : ∀ σ H Q, UE C (rChain ρ ρ' ta tb tc) σ H Q → tChain r r' (UE C ta) (UE C tb) (UE C tc) σ H Q := fun σ H Q ⟨As, G, Γ, M, K, S, t, q⟩ =>
  ⟨As, G, Γ, M, _, S, t, fun lx M1 x As1 G1 H1 g1 rx t1 => ⟨As1, G1, Γ, M1, _, g1.sat, t1, fun ly M2 y As2 G2 H2 g2 ry t2 =>
    h g2.sat (rx.mono g2.g g2.p) ry t2 fun l M3 v As3 G3 H3 g3 rv t3 => by
      obtain ⟨k, rfl, t3⟩ := bl_case t3
      refine ⟨k, bl_of rv, ?_⟩
      cases k with
      | true =>
        refine ⟨As3, G3, Γ, M3, _, g3.sat, t3.1 rfl, fun lw M4 w As4 G4 H4 g4 rw4 t4 => h' g4.sat (ry.mono (g3.g.trans g4.g) (g3.p.trans g4.p)) rw4 t4 fun l M5 v As5 G5 H5 g5 rv k => q l M5 v As5 G5 H5 (g1.trans (g2.trans (g3.trans (g4.trans g5)))) rv k⟩
      | false =>
        rw [if_neg Bool.false_ne_true]
        exact q (.im (.bl false)) M3 _ As3 G3 H3 (g1.trans (g2.trans g3)) (Rp.bl false) (t3.2 rfl)⟩⟩
theorem q_chain {op op' : CmpOp} {r r' : R2} {ρ ρ' : R2L} (hl : OpL C r ρ) (ho : OpR X (compareOp op) r) (hl' : OpL C r' ρ') (ho' : OpR X (compareOp op') r') (ha : QE C X a ta) (hb : QE C X b tb) (hc : QE C X c tc)
    (hm : lastMarks [op, op'] [b, c] = false := by with_unfolding_all rfl) : QE C X (.Compare a [op, op'] [b, c] pos) (rChain ρ ρ' ta tb tc) := PE.imp (pe_chain ho ho' ha hb hc hm) (up_chain hl hl')
theorem q_tchain {op op' : CmpOp} {r r' : R2} {ρ ρ' : R2L} (hl : OpL C r ρ) (ho : OpR X (compareOp op) r) (hl' : OpL C r' ρ') (ho' : OpR X (compareOp op') r') (ha : QE C X a ta) (hb : QE C X b tb) (hc : QE C X c tc)
    (hm : lastMarks [op, op'] [b, c] = false := by with_unfolding_all rfl) : QT C X (.Compare a [op, op'] [b, c] pos) (rB (rChain ρ ρ' ta tb tc)) := PT.imp (pt_chain ho ho' ha hb hc hm) (up_b (up_chain hl hl'))
end
end Dl

set_option Elab.async false
set_option maxRecDepth 100000
set_option maxHeartbeats 1000000
namespace Dl
open PySem L2
section
variable {C : Fc} {X : Cx} {a b c e tg iter : Expr} {es : List Expr} {ta tb tc te : RE} {pos : Pos} {st : Stmt} {sts : List Stmt}

/-! ### blocks, small statements -/
def rNext : RS := fun N Γ M => N.nx Γ M
def rSeq (t u : RS) : RS := fun N Γ M => t { N with nx := u N } Γ M
theorem q_snil : QSs C X [] rNext := PSs.imp pss_nil fun D σ H ⟨As, G, Γ, M, N, S, t, f⟩ => f.nx _ _ _ _ _ _ (Gr.refl S).w t
theorem q_scons {t u : RS} (h1 : QS C X st t) (h2 : QSs C X sts u) : QSs C X (st :: sts) (rSeq t u) := PSs.imp (pss_cons h1 h2) fun D σ H ⟨As, G, Γ, M, N, S, t, f⟩ =>
  ⟨As, G, Γ, M, _, S, t, fun Γ' M' σ' As' G' H' g k => ⟨As', G', Γ', M', N, g.sat, k, f.mono g⟩, f.rt, f.bk, f.ct⟩
theorem q_sone {t : RS} (h1 : QS C X st t) : QSs C X [st] t := pss_one h1
def rBreak : RS := fun N Γ M => N.bk Γ M
def rCont : RS := fun N Γ M => N.ct Γ M
theorem q_pass : QS C X (.Pass pos) rNext := PS.imp ps_pass fun D σ H ⟨As, G, Γ, M, N, S, t, f⟩ => f.nx _ _ _ _ _ _ (Gr.refl S).w t
theorem q_break : QS C X (.Break pos) rBreak := PS.imp ps_break fun D σ H ⟨As, G, Γ, M, N, S, t, f⟩ => f.bk _ _ _ _ _ _ (Gr.refl S).w t
theorem q_cont : QS C X (.Continue pos) rCont := PS.imp ps_continue fun D σ H ⟨As, G, Γ, M, N, S, t, f⟩ => f.ct _ _ _ _ _ _ (Gr.refl S).w t
def rDrop (te : RE) : RS := fun N Γ M => te Γ M fun _ M1 => N.nx Γ M1
theorem q_expr (he : QE C X e te) (hs : swapsWith e none pos.line X.env = pure false := by rfl) : QS C X (.Expr e pos) (rDrop te) := PS.imp (ps_expr he hs) fun D σ H ⟨As, G, Γ, M, N, S, t, f⟩ =>
  ⟨As, G, Γ, M, _, S, t, fun l M' v As' G' H' g _ k => f.nx _ _ _ _ _ _ g.w k⟩
def rRet (te : RE) : RS := fun N Γ M => te Γ M N.rt
theorem q_ret (he : QE C X e te) : QS C X (.Return (some e) pos) (rRet te) := PS.imp (ps_ret he) fun D σ H ⟨As, G, Γ, M, N, S, t, f⟩ =>
  ⟨As, G, Γ, M, _, S, t, fun l M' v As' G' H' g rv k => f.rt _ _ _ _ _ _ _ _ g.w rv k⟩
def rRetN : RS := fun N Γ M => N.rt (.im .non) M
theorem q_retN : QS C X (.Return none pos) rRetN := PS.imp ps_retN fun D σ H ⟨As, G, Γ, M, N, S, t, f⟩ => f.rt (.im .non) _ _ _ _ _ _ _ (Gr.refl S).w Rp.non t
def rIf (c : RT) (t u : RS) : RS := fun N Γ M => c Γ M fun b M1 => IfP b (t N Γ M1) (u N Γ M1)
theorem q_if {p q : List Stmt} {rc : RT} {t u : RS} (hc : QT C X c rc) (ha : QSs C X p t) (hb : QSs C X q u) : QS C X (.If c p q pos) (rIf rc t u) := PS.imp (ps_if hc ha hb) fun D σ H ⟨As, G, Γ, M, N, S, t, f⟩ =>
  ⟨As, G, Γ, M, _, S, t, fun b M1 As1 G1 H1 g t1 => by
    cases b with
    | true => exact ⟨As1, G1, Γ, M1, N, g.sat, t1.1 rfl, f.mono g.w⟩
    | false => exact ⟨As1, G1, Γ, M1, N, g.sat, t1.2 rfl, f.mono g.w⟩⟩
def rNever : RS := fun _ _ _ => False
theorem q_never : QS C X st rNever := PS.imp ps_never fun D σ H ⟨As, G, Γ, M, N, S, t, f⟩ => t.elim
theorem q_nevers : QSs C X sts rNever := PSs.imp pss_never fun D σ H ⟨As, G, Γ, M, N, S, t, f⟩ => t.elim

/-! ### targets -/
def rName (i : Nat) : RG := fun l Γ M K => K (Γ.set i (some l)) M
theorem q_name (i : Nat) {x : Str} {pos : Pos} (hN : X.N.Nodup) (hi : X.N[i]? = some x := by rfl) (hx : Loc X.env.scope x := by first | exact Or.inl rfl | exact Or.inr rfl) (hf : X.fn x = true ∨ X.env.scope.names.lookup x = some .local := by first | exact .inl rfl | exact .inr rfl) :
    QG C X (.Name x pos) [i] (rName i) := PG.imp (pg_name hN hi hx hf) fun v σ H Q ⟨As, G, Γ, M, l, K, S, r, t, q⟩ =>
  q _ _ _ As G H ⟨S.set r, Same.refl _, List.prefix_refl _⟩ (fun j hj => List.getElem?_set_ne (fun z => hj (by simp [z]))) (List.length_set ..) t
abbrev RGs := List Lo → Gam → Led → (Gam → Led → Prop) → Prop
def UGs (C : Fc) (is : List Nat) (t : RGs) : TGs := fun vs σ H Q => ∃ (As : List Addr) (G : Hp) (Γ : Gam) (M : Led) (ds : List Lo) (K : Gam → Led → Prop), Sat C As G H Γ M σ ∧ LRpL C.K As G vs ds ∧ t ds Γ M K ∧
  ∀ (Γ' : Gam) (M' : Led) (σ' : L2.St) (As' : List Addr) (G' H' : Hp), Gr C As G As' G' H' Γ' M' σ' → (∀ j, j ∉ is → σ'[j]? = σ[j]?) → σ'.length = σ.length → K Γ' M' → Q σ' H'
theorem PGs.imp {X : Cx} {es : List Expr} {t u : TGs} (h : PGs X es t) (i : ∀ v σ H Q, u v σ H Q → t v σ H Q) : PGs X es u := ⟨fun pins s σ H v u Q I r q => h.run pins s σ H v u Q I r (i v σ H Q q)⟩
def QGs (C : Fc) (X : Cx) (es : List Expr) (is : List Nat) (t : RGs) : Prop := PGs X es (UGs C is t)
def rGNil : RGs := fun ds Γ M K => match ds with
  | [] => K Γ M
  | _ :: _ => False
def rGCons (g : RG) (u : RGs) : RGs := fun ds Γ M K => match ds with
  | [] => False
  | d :: r => g d Γ M fun Γ1 M1 => u r Γ1 M1 K
theorem q_gnil : QGs C X [] [] rGNil := PGs.imp pgs_nil fun vs σ H Q ⟨As, G, Γ, M, ds, K, S, r, t, q⟩ => by
  cases r with
  | nil => exact ⟨rfl, q _ _ _ As G H (Gr.refl S) (fun _ _ => rfl) rfl t⟩
  | cons _ _ => exact t.elim
theorem q_gcons {is js : List Nat} {g : RG} {u : RGs} (h1 : QG C X e is g) (h2 : QGs C X es js u) (hs : (assignEach (e :: es) X.env).map (·.2) = assign e X.env :: (assignEach es X.env).map (·.2) := by rfl) : QGs C X (e :: es) (is ++ js) (rGCons g u) :=
  PGs.imp (pgs_cons h1 h2 hs) fun vs σ H Q ⟨As, G, Γ, M, ds, K, S, r, t, q⟩ => by
    cases r with
    | nil => exact t.elim
    | cons rv rr =>
      refine ⟨_, _, rfl, As, G, Γ, M, _, _, S, rv, t, fun Γ1 M1 σ1 As1 G1 H1 g1 k1 l1 t1 => ⟨As1, G1, Γ1, M1, _, _, g1.sat, rr.mono g1.g g1.p, t1, fun Γ2 M2 σ2 As2 G2 H2 g2 k2 l2 t2 => ?_⟩⟩
      exact q Γ2 M2 σ2 As2 G2 H2 (g1.trans g2) (fun j hj => by
        rw [List.mem_append, not_or] at hj
        exact (k2 j hj.2).trans (k1 j hj.1)) (l2.trans l1) t2
def rGTup (n : Nat) (t : RGs) : RG := fun l Γ M K => match l with
  | .im (.tup ds) => ds.length = n ∧ t (ds.map Lo.im) Γ M K
  | .tp ls => ls.length = n ∧ t ls Γ M K
  | _ => False
theorem q_gtup {is : List Nat} {k n : Nat} {t : RGs} (hc : X.calm = true) (hK : C.K = X.K) (h : QGs C X es is t) (hn : (assignEach es X.env).length = n := by rfl) (hst : (assignEach es X.env).findIdx? (·.1) = none := by rfl) : QG C X (.Tuple es k pos) is (rGTup n t) :=
  PG.imp (pg_tup hc h hn hst) fun v σ H Q ⟨As, G, Γ, M, l, K, S, r, t, q⟩ => by
    cases l with
    | ow k => exact t.elim
    | tp ls =>
      obtain ⟨a, xs, rfl, h1, h2⟩ := r
      exact ⟨_, _, rfl, SqT.of (S.le _ _ h1), h2.l.length.trans t.1, As, G, Γ, M, ls, K, S, h2.l, t.2, q⟩
    | im d =>
      cases d with
      | tup ds =>
        cases r with
        | tup h rr => exact ⟨_, _, rfl, SqT.of (S.le _ _ h), rr.length.trans t.1, As, G, Γ, M, ds.map Lo.im, K, S, .of_data rr, t.2, q⟩
      | _ => exact t.elim
/-- .. = a list of that length -/
def rGLst (n : Nat) (t : RGs) : RG := fun l Γ M K => match l with
  | .im (.lst ds) => ds.length = n ∧ t (ds.map Lo.im) Γ M K
  | _ => False
theorem q_glst {is : List Nat} {k n : Nat} {t : RGs} (hc : X.calm = true) (hK : C.K = X.K) (h : QGs C X es is t) (hn : (assignEach es X.env).length = n := by rfl) (hst : (assignEach es X.env).findIdx? (·.1) = none := by rfl) : QG C X (.Tuple es k pos) is (rGLst n t) :=
  PG.imp (pg_lst hc h hn hst) fun v σ H Q ⟨As, G, Γ, M, l, K, S, r, t, q⟩ => by
    cases l with
    | ow k => exact t.elim
    | tp ls => exact t.elim
    | im d =>
      cases d with
      | lst ds =>
        cases r with
        | lst h rr => exact ⟨_, _, rfl, SqL.of (S.le _ _ h), rr.length.trans t.1, As, G, Γ, M, ds.map Lo.im, K, S, .of_data rr, t.2, q⟩
      | _ => exact t.elim
/-- o[i] = value, a list of one's own -/
def rGSub (to ti : RE) : RG := fun l Γ M K => to Γ M fun o M1 => ti Γ M1 fun i M2 => match o, i with
  | .ow k, .im (.int j) => match M2[k]? with
    | some (.li ds) => match l with
      | .im d => ∃ n, ixN ds.length j = some n ∧ K Γ (M2.set k (.li (ds.set n d)))
      | _ => False
    | some (.ls ls) => ∃ n, ixN ls.length j = some n ∧ K Γ (M2.set k (.ls (ls.set n l)))
    | _ => False
  | _, _ => False
theorem LRpL.set' {K : PySem.W.Frag} {As : List Addr} {G : Hp} {vs : List V} {ls : List Lo} {v : V} {l : Lo} (q : LRp K As G v l) (h : LRpL K As G vs ls) (i : Nat) : LRpL K As G (vs.set i v) (ls.set i l) := h.set q i
theorem q_gsub {o i : Expr} {to ti : RE} (ho : QE C X o to) (hi : QE C X i ti)
    (ha : ∀ v, assign (.Subscript o i pos) X.env v = (do
      let ov ← holding [v] (eval o X.env)
      let iv ← holding [v, ov] (eval i X.env)
      standAt pos
      holding [v, ov, iv] (setItem ov iv v)
      release [v, ov, iv] []) := by intro _; rfl) : QG C X (.Subscript o i pos) [] (rGSub to ti) :=
  PG.imp (pg_sub ho hi set_list ha) fun v σ H Q ⟨As, G, Γ, M, l, K, S, r, t, q⟩ =>
    ⟨As, G, Γ, M, _, S, t, fun lo M1 vo As1 G1 H1 g1 r1 t1 => ⟨As1, G1, Γ, M1, _, g1.sat, t1, fun li M2 vi As2 G2 H2 g2 r2 t2 => by
      cases lo with
      | im _ => exact t2.elim
      | tp _ => exact t2.elim
      | ow k =>
        obtain ⟨p, hp, rfl⟩ := r1
        cases li with
        | ow _ => exact t2.elim
        | tp _ => exact t2.elim
        | im d =>
          cases d with
          | int j =>
            cases r2
            dsimp only at t2
            have hp2 := pre_get g2.p hp
            split at t2
            · rename_i ds e
              cases l with
              | ow _ => exact t2.elim
              | tp _ => exact t2.elim
              | im d =>
                obtain ⟨n, hn, k2⟩ := t2
                obtain ⟨_, u, hu, xs, rfl, rx⟩ := g2.sat.own _ _ _ hp2 e (by intro z; cases z)
                have r' : Rp C.K G2 v d := Rp.mono (g1.g.trans g2.g) r
                refine ⟨p, xs, j, n, rfl, rfl, hu, by rw [rx.length]; exact hn, ?_⟩
                exact q _ _ _ As2 G2 _ (g1.trans (g2.trans ⟨g2.sat.write (m' := .li (ds.set n d)) hp2 e (by intro z; cases z) ⟨_, rfl, RpL.set r' n rx⟩, Same.refl _, List.prefix_refl _⟩)) (fun _ _ => rfl) rfl k2
            · rename_i ls e
              obtain ⟨n, hn, k2⟩ := t2
              obtain ⟨_, u, hu, xs, rfl, rx⟩ := g2.sat.own _ _ _ hp2 e (by intro z; cases z)
              have r' : LRp C.K As2 G2 v l := r.mono (g1.g.trans g2.g) (g1.p.trans g2.p)
              refine ⟨p, xs, j, n, rfl, rfl, hu, by rw [rx.length]; exact hn, ?_⟩
              exact q _ _ _ As2 G2 _ (g1.trans (g2.trans ⟨g2.sat.write (m' := .ls (ls.set n l)) hp2 e (by intro z; cases z) ⟨_, rfl, rx.set r' n⟩, Same.refl _, List.prefix_refl _⟩)) (fun _ _ => rfl) rfl k2
            · exact t2.elim
          | _ => exact t2.elim⟩⟩
def rAsg (te : RE) (g : RG) : RS := fun N Γ M => te Γ M fun l M1 => g l Γ M1 N.nx
theorem up_asg {is : List Nat} {te : RE} {g : RG} : ∀ D σ H, US C (rAsg te g) D σ H → tAsg (UE C te) (UG C is g) D σ H := fun D σ H ⟨As, G, Γ, M, N, S, t, f⟩ =>
  ⟨As, G, Γ, M, _, S, t, fun l M' v As' G' H' g1 rv k => ⟨As', G', Γ, M', l, _, g1.sat, rv, k, fun Γ2 M2 σ2 As2 G2 H2 g2 _ _ k2 => f.nx _ _ _ _ _ _ (g1.trans g2).w k2⟩⟩
theorem q_asg {is : List Nat} {te : RE} {g : RG} (he : QE C X e te) (hg : QG C X tg is g) (hs : swapsWithSole [tg] e pos.line X.env = pure false := by rfl) (hw : swappedStores [tg] e X.env = pure none := by rfl)
    (h1 : (assignEach [tg] X.env).map (·.2) = [assign tg X.env] := by rfl) : QS C X (.Assign [tg] e pos) (rAsg te g) := PS.imp (ps_asg he hg hs hw h1) up_asg
theorem q_set (i : Nat) {x : Str} {pos' : Pos} (hN : X.N.Nodup) (he : QE C X e te) (hi : X.N[i]? = some x := by rfl) (hx : Loc X.env.scope x := by first | exact Or.inl rfl | exact Or.inr rfl) (hs : swapsWith e (some (.Name x pos')) pos.line X.env = pure false := by rfl) (hf : X.fn x = true ∨ X.env.scope.names.lookup x = some .local := by first | exact .inl rfl | exact .inr rfl) :
    QS C X (.Assign [.Name x pos'] e pos) (rAsg te (rName i)) := PS.imp (ps_set hN hi hx he hs hf) fun D σ H ⟨As, G, Γ, M, N, S, t, f⟩ =>
  ⟨As, G, Γ, M, _, S, t, fun l M' v As' G' H' g1 rv k => f.nx _ _ _ _ _ _ (g1.w.trans ⟨g1.sat.set rv, Same.refl _⟩) k⟩
/-- a, b = x, y -/
def rPar (i j : Nat) (ta : RA) : RS := fun N Γ M => ta Γ M fun ls M1 => match ls with
  | [x, y] => N.nx ((Γ.set i (some x)).set j (some y)) M1
  | _ => False
theorem q_par (i j : Nat) {x y : Str} {ra : RA} {px py pt : Pos} {kt k2 pt2} (hc : X.calm = true) (hN : X.N.Nodup) (ha : QA C X [a, b] ra) (hi : X.N[i]? = some x := by rfl) (hj : X.N[j]? = some y := by rfl) (hij : i ≠ j := by decide)
    (hx : X.env.scope.names.lookup x = some .local := by rfl) (hy : X.env.scope.names.lookup y = some .local := by rfl)
    (hw : swappedStores [.Tuple [.Name x px, .Name y py] kt pt] (.Tuple [a, b] k2 pt2) X.env = pure (some [x, y]) := by rfl)
    (hs : swapsWithSole [.Tuple [.Name x px, .Name y py] kt pt] (.Tuple [a, b] k2 pt2) pos.line X.env = pure false := by rfl) :
    QS C X (.Assign [.Tuple [.Name x px, .Name y py] kt pt] (.Tuple [a, b] k2 pt2) pos) (rPar i j ra) := PS.imp (ps_par hc hN hi hj hij hx hy ha hw hs) fun D σ H ⟨As, G, Γ, M, N, S, t, f⟩ =>
  ⟨As, G, Γ, M, _, S, t, fun ls M' vs As' G' H' g1 rv k => by
    cases rv with
    | nil => exact k.elim
    | cons r1 rv =>
      cases rv with
      | nil => exact k.elim
      | cons r2 rv =>
        cases rv with
        | nil => exact ⟨_, _, rfl, f.nx _ _ _ _ _ _ (g1.w.trans ⟨(g1.sat.set r1).set r2, Same.refl _⟩) k⟩
        | cons _ _ => exact k.elim⟩
/-- x op= e -/
def rAug (i : Nat) (te : RE) (ρ : R2L) : RS := fun N Γ M => match Γ[i]? with
  | some (some x) => te Γ M fun y M1 => ρ x y M1 fun z M2 => N.nx (Γ.set i (some z)) M2
  | _ => False
theorem q_aug (i : Nat) {x : Str} {op : Operator} {r : R2} {ρ : R2L} {pos' : Pos} (hN : X.N.Nodup) (hl : OpL C r ρ) (ho : OpR X (inplaceOp op) r) (he : QE C X e te) (hi : X.N[i]? = some x := by rfl) (hx : Loc X.env.scope x := by first | exact Or.inl rfl | exact Or.inr rfl)
    (hf : X.fn x = true ∨ X.env.scope.names.lookup x = some .local := by first | exact .inl rfl | exact .inr rfl) : QS C X (.AugAssign (.Name x pos') op e pos) (rAug i te ρ) :=
  PS.imp (ps_aug (ti := r) hN hi hx he (fun pins s σ H x y v u Q I r1 r2 h => ho pins s σ H x y v u Q I r1 r2 h) hf) fun D σ H ⟨As, G, Γ, M, N, S, t, f⟩ => by
    unfold rAug at t
    split at t
    · rename_i l e
      obtain ⟨v, q1, q2⟩ := S.slot i l e
      exact ⟨v, q1, As, G, Γ, M, _, S, t, fun ly M1 y As1 G1 H1 g1 ry k => hl g1.sat (q2.mono g1.g g1.p) ry k fun lz M2 z As2 G2 H2 g2 rz k2 => f.nx _ _ _ _ _ _ (g1.w.trans (g2.w.trans ⟨g2.sat.set rz, Same.refl _⟩)) k2⟩
    · exact t.elim

/-! ### loops -/
def rWhile (c : RT) (tb : RS) : RS := fun N Γ M => ∃ Iv : Nat → Gam → Led → Prop, (∃ m, Iv m Γ M) ∧ ∀ m Γ' M', Iv m Γ' M' → c Γ' M' fun b M2 => IfP b (tb ⟨fun Γ2 M3 => ∃ m', m' < m ∧ Iv m' Γ2 M3, N.rt, N.nx, fun Γ2 M3 => ∃ m', m' < m ∧ Iv m' Γ2 M3⟩ Γ' M2) (N.nx Γ' M2)
theorem q_while {body : List Stmt} {rc : RT} {tb : RS} (hp : PassesOwn (model X.prog X.w) X.A X.env X.xe) (hc : QT C X c rc) (hb : QSs C X body tb) : QS C X (.While c body [] pos) (rWhile rc tb) :=
  PS.imp (ps_while hp hc hb) fun D σ H ⟨As, G, Γ, M, N, S, ⟨Iv, ⟨m0, i0⟩, step⟩, f⟩ => by
    refine ⟨fun m σ' H' => ∃ As' G' Γ' M', Gw C G As' G' H' Γ' M' σ' ∧ Iv m Γ' M', ⟨m0, As, G, Γ, M, (Gr.refl S).w, i0⟩, ?_⟩
    rintro m σ1 H1 ⟨As1, G1, Γ1, M1, g1, i1⟩
    refine ⟨As1, G1, Γ1, M1, _, g1.sat, step m Γ1 M1 i1, fun b M2 As2 G2 H2 g2 k => ?_⟩
    cases b with
    | false =>
      rw [if_neg Bool.false_ne_true]
      exact f.nx _ _ _ _ _ _ (g1.trans g2.w) (k.2 rfl)
    | true =>
      rw [if_pos rfl]
      refine ⟨fun σ' H' => ∃ As' G' Γ' M', Gw C G As' G' H' Γ' M' σ' ∧ ∃ m', m' < m ∧ Iv m' Γ' M', fun σ' H' ⟨As', G', Γ', M', g', m', hm, i'⟩ => ⟨m', hm, As', G', Γ', M', g', i'⟩, ?_⟩
      refine ⟨As2, G2, Γ1, M2, _, g2.sat, k.1 rfl, fun Γ' M' σ' As' G' H' g' k' => ⟨As', G', Γ', M', g1.trans (g2.w.trans g'), k'⟩, fun l v Γ' M' σ' As' G' H' g' rv k' => f.rt _ _ _ _ _ _ _ _ (g1.trans (g2.w.trans g')) rv k',
        fun Γ' M' σ' As' G' H' g' k' => f.nx _ _ _ _ _ _ (g1.trans (g2.w.trans g')) k', fun Γ' M' σ' As' G' H' g' k' => ⟨As', G', Γ', M', g1.trans (g2.w.trans g'), k'⟩⟩

/-- what is walked: data that stand still -/
def ItD (C : Fc) (As1 : List Addr) (G1 : Hp) (J : It) (ds : List D) : Prop := ∀ (i : Nat) (As : List Addr) (G H : Hp) (Γ : Gam) (M : Led) (σ : L2.St), Sat C As G H Γ M σ → Same G1 G →
  (∀ d, ds[i]? = some d → J.go i H ∧ ∀ x H', J.yld i H x H' → ∃ G', Gr C As G As G' H' Γ M σ ∧ Rp C.K G' x d) ∧ (ds.length ≤ i → J.stop i H)
abbrev RI := Gam → Led → (List D → Led → Prop) → Prop
def UI (C : Fc) (t : RI) : TI := fun σ H R => ∃ (As : List Addr) (G : Hp) (Γ : Gam) (M : Led) (K : List D → Led → Prop), Sat C As G H Γ M σ ∧ t Γ M K ∧
  ∀ (ds : List D) (M' : Led) (As' : List Addr) (G' H' : Hp) (J : It), Gr C As G As' G' H' Γ M' σ → ItD C As' G' J ds → K ds M' → R J H'
theorem PI.imp {tg iter : Expr} {t u : TI} (h : PI X tg iter t) (i : ∀ σ H R, u σ H R → t σ H R) : PI X tg iter u := ⟨fun pins s σ H R I q => h.run pins s σ H R I (i σ H R q)⟩
def QI (C : Fc) (X : Cx) (tg iter : Expr) (t : RI) : Prop := PI X tg iter (UI C t)
def rFor (ti : RI) (g : RG) (tb : RS) : RS := fun N Γ M => ti Γ M fun ds M1 => ∃ Iv : Nat → Gam → Led → Prop, Iv 0 Γ M1 ∧
  (∀ i d Γ' M', ds[i]? = some d → Iv i Γ' M' → g (.im d) Γ' M' fun Γ2 M2 => tb ⟨Iv (i + 1), N.rt, N.nx, Iv (i + 1)⟩ Γ2 M2) ∧ ∀ Γ' M', Iv ds.length Γ' M' → N.nx Γ' M'
theorem q_for {is : List Nat} {body : List Stmt} {ti : RI} {g : RG} {tb : RS} (hp : PassesOwn (model X.prog X.w) X.A X.env X.xe) (hc : X.calm = true) (hi : QI C X tg iter ti) (hg : QG C X tg is g) (hb : QSs C X body tb)
    (hs : ∀ x, foldedSetIterable iter X.env x = pure x := by intro _; rfl) : QS C X (.For tg iter body [] pos) (rFor ti g tb) :=
  PS.imp (ps_for hp hc hi hg hb hs) fun D σ H ⟨As, G, Γ, M, N, S, t, f⟩ => ⟨As, G, Γ, M, _, S, t, fun ds M1 As1 G1 H1 J g1 hJ ⟨Iv, i0, step, done⟩ => by
    refine ⟨fun i m σ' H' => m = ds.length - i ∧ i ≤ ds.length ∧ ∃ As' G' Γ' M', Gw C G1 As' G' H' Γ' M' σ' ∧ Iv i Γ' M', ⟨_, rfl, Nat.zero_le _, As1, G1, Γ, M1, (Gr.refl g1.sat).w, i0⟩, ?_⟩
    rintro i m σ2 H2 ⟨rfl, hi, As2, G2, Γ2, M2, g2, i2⟩
    obtain ⟨hgo, hst⟩ := hJ i As2 G2 H2 Γ2 M2 σ2 g2.sat g2.g
    by_cases hlt : i < ds.length
    · refine .inr ⟨(hgo ds[i] (by simp [hlt])).1, fun σ' H' => ∃ As' G' Γ' M', Gw C G1 As' G' H' Γ' M' σ' ∧ Iv (i + 1) Γ' M', fun σ' H' ⟨As', G', Γ', M', g', i'⟩ => ⟨ds.length - (i + 1), by omega, rfl, hlt, As', G', Γ', M', g', i'⟩, fun x H3 y => ?_⟩
      obtain ⟨G3, g3, r3⟩ := (hgo ds[i] (by simp [hlt])).2 x H3 y
      refine ⟨As2, G3, Γ2, M2, .im ds[i], _, g3.sat, r3, step i ds[i] Γ2 M2 (by simp [hlt]) i2, fun Γ4 M4 σ4 As4 G4 H4 g4 _ _ k4 => ?_⟩
      have g14 := g2.trans (g3.w.trans g4.w)
      refine ⟨As4, G4, Γ4, M4, _, g4.sat, k4, fun Γ' M' σ' As' G' H' g' k' => ⟨As', G', Γ', M', g14.trans g', k'⟩, fun l v Γ' M' σ' As' G' H' g' rv k' => f.rt _ _ _ _ _ _ _ _ (g1.w.trans (g14.trans g')) rv k',
        fun Γ' M' σ' As' G' H' g' k' => f.nx _ _ _ _ _ _ (g1.w.trans (g14.trans g')) k', fun Γ' M' σ' As' G' H' g' k' => ⟨As', G', Γ', M', g14.trans g', k'⟩⟩
    · have e : i = ds.length := by omega
      subst e
      exact .inl ⟨hst (Nat.le_refl _), f.nx _ _ _ _ _ _ (g1.w.trans g2) (done Γ2 M2 i2)⟩⟩
/-! ### a list comprehension -/
theorem wipe_get {σ : L2.St} : ∀ {vs : List Nat} {j : Nat}, j ∉ vs → (wipe σ vs)[j]? = σ[j]?
  | [], j, _ => rfl
  | v :: vs, j, h => by
    rw [List.mem_cons, not_or] at h
    unfold wipe
    rw [List.getElem?_set_ne (Ne.symm h.1)]
    exact wipe_get h.2
theorem wipe_in {σ : L2.St} : ∀ {vs : List Nat} {j : Nat}, j ∈ vs → j < σ.length → (wipe σ vs)[j]? = some none
  | v :: vs, j, h, hl => by
    unfold wipe
    by_cases hj : v = j
    · subst hj
      rw [List.getElem?_set_self (by rw [wipe_length]; exact hl)]
    · rw [List.getElem?_set_ne hj]
      rcases List.mem_cons.mp h with z | z
      · exact absurd z.symm hj
      · exact wipe_in z hl
theorem wipe_eq {σ τ : L2.St} {vs : List Nat} (hl : σ.length = τ.length) (h : ∀ j, j ∉ vs → σ[j]? = τ[j]?) : wipe σ vs = wipe τ vs := by
  refine List.ext_getElem? fun j => ?_
  by_cases hj : j ∈ vs
  · by_cases hjl : j < σ.length
    · rw [wipe_in hj hjl, wipe_in hj (by omega)]
    · rw [List.getElem?_eq_none (by rw [wipe_length]; omega), List.getElem?_eq_none (by rw [wipe_length]; omega)]
  · rw [wipe_get hj, wipe_get hj]
    exact h j hj
theorem wipe_wipe {σ : L2.St} {vs : List Nat} : wipe (wipe σ vs) vs = wipe σ vs := wipe_eq (wipe_length _ _) fun j hj => wipe_get hj
def wipeG (Γ : Gam) : List Nat → Gam
  | [] => Γ
  | v :: vs => (wipeG Γ vs).set v none
theorem wipeG_length (Γ : Gam) : ∀ vs : List Nat, (wipeG Γ vs).length = Γ.length
  | [] => rfl
  | v :: vs => by
    unfold wipeG
    rw [List.length_set, wipeG_length Γ vs]
theorem wipeG_some {Γ : Gam} {i : Nat} {l : Lo} : ∀ {vs : List Nat}, (wipeG Γ vs)[i]? = some (some l) → Γ[i]? = some (some l) ∧ i ∉ vs
  | [], h => ⟨h, by simp⟩
  | v :: vs, h => by
    unfold wipeG at h
    by_cases hi : v = i
    · subst hi
      by_cases hv : v < (wipeG Γ vs).length
      · rw [List.getElem?_set_self hv] at h
        cases h
      · rw [List.getElem?_eq_none (by simpa using hv)] at h
        cases h
    · rw [List.getElem?_set_ne hi] at h
      obtain ⟨h1, h2⟩ := wipeG_some h
      exact ⟨h1, by simp only [List.mem_cons, not_or]; exact ⟨fun e => hi e.symm, h2⟩⟩
theorem Sat.wipe {As : List Addr} {G H : Hp} {Γ : Gam} {M : Led} {σ : L2.St} (S : Sat C As G H Γ M σ) (vs : List Nat) : Sat C As G H (wipeG Γ vs) M (L2.wipe σ vs) :=
  S.sub (by rw [wipeG_length, wipe_length]; exact S.len) (fun i l e => (wipeG_some e).1) fun i l v e q => by rw [wipe_get (wipeG_some e).2]; exact q
/-- the slots as they were, in a state that has grown -/
theorem Gr.back {As As1 : List Addr} {G G1 H H1 : Hp} {Γ Γ1 : Gam} {M M1 : Led} {σ σ1 : L2.St} (S : Sat C As G H Γ M σ) (g : Gr C As G As1 G1 H1 Γ1 M1 σ1) : Gr C As G As1 G1 H1 Γ M1 σ :=
  ⟨⟨g.sat.le, g.sat.stp, g.sat.own, g.sat.fr, g.sat.inj, g.sat.al, g.sat.asS, g.sat.there, fun i l e => by
    obtain ⟨v, q1, q2⟩ := S.slot i l e
    exact ⟨v, q1, q2.mono g.g g.p⟩, S.len, g.sat.bg, g.sat.ba, g.sat.tb⟩, g.g, g.p⟩
def closed (n : Nat) : Led → Prop
  | [] => True
  | .ls ls :: r => refLs (· < n) ls ∧ closed n r
  | .dm ks :: r => refLs (· < n) (ks.map (·.2)) ∧ closed n r
  | .ob _ fs :: r => refLs (· < n) (fs.map (·.2)) ∧ closed n r
  | _ :: r => closed n r
theorem lrp_cut {K : PySem.W.Frag} {As : List Addr} {G : Hp} {v : V} {l : Lo} {n : Nat} (r : LRp K As G v l) (h : refL (· < n) l) : LRp K (As.take n) G v l := by
  have q := r.ren (Au := As.take n) (P := (· < n)) (f := fun k => k) (fun k a hk e => by rw [List.getElem?_take_of_lt hk]; exact e) h
  rwa [renL_id] at q
theorem lrpl_cut {K : PySem.W.Frag} {As : List Addr} {G : Hp} {vs : List V} {ls : List Lo} {n : Nat} (r : LRpL K As G vs ls) (h : refLs (· < n) ls) : LRpL K (As.take n) G vs ls := by
  induction r with
  | nil => exact .nil
  | cons r rr ih => exact .cons (lrp_cut r h.1) (ih h.2)
theorem mois_cut {K : PySem.W.Frag} {As : List Addr} {G : Hp} {o : HO} {m : MO} {n : Nat} (r : MOis K As G o m) (h : closed n [m]) : MOis K (As.take n) G o m := by
  cases m with
  | li ds => exact r
  | ls ls => obtain ⟨xs, h1, h2⟩ := r; exact ⟨xs, h1, lrpl_cut h2 h.1⟩
  | dc ks => exact r
  | dm ks => obtain ⟨xs, h1, h2, h3⟩ := r; exact ⟨xs, h1, h2, lrpl_cut h3 h.1⟩
  | ob C fs => obtain ⟨dx, xs, h1, h2, h3⟩ := r; exact ⟨dx, xs, h1, h2, lrpl_cut h3 h.1⟩
  | gone => trivial
  | dl _ _ _ => exact r
theorem closed_get {n : Nat} : ∀ {M : Led} {k : Nat} {m : MO}, closed n M → M[k]? = some m → closed n [m]
  | [], k, m, _, h => by simp at h
  | x :: r, 0, m, h, e => by
    simp at e
    subst e
    cases x <;> first | exact ⟨h.1, trivial⟩ | trivial
  | x :: r, k + 1, m, h, e => by
    refine closed_get (M := r) (k := k) ?_ (by simpa using e)
    cases x <;> first | exact h.2 | exact h
/-- the youngest objects are let go -/
theorem Sat.cut {As : List Addr} {G H : Hp} {Γ Γ' : Gam} {M : Led} {σ σ' : L2.St} {n : Nat} (S : Sat C As G H Γ M σ) (hc : closed n (M.take n)) (hS : C.S <+: As.take n) (hb : C.Ab <+: As.take n) (hs : ∀ (i : Nat) (l : Lo), Γ'[i]? = some (some l) → ∃ v, σ'[i]? = some (some v) ∧ LRp C.K (As.take n) G v l) (hl : Γ'.length = σ'.length) :
    Sat C (As.take n) G H Γ' (M.take n) σ' := by
  refine ⟨S.le, S.stp, fun k a m e1 e2 e3 => ?_, fun a ha => S.fr a (List.mem_of_mem_take ha), S.inj.sublist (List.take_sublist _ _), by rw [List.length_take, List.length_take, S.al], hS, fun a ha => S.there a (List.mem_of_mem_take ha), hs, hl, S.bg, hb, fun P q e => ⟨fun z => (S.tb P q e).1 (List.mem_of_mem_take z), (S.tb P q e).2⟩⟩
  have hk : k < n := by
    have := (List.getElem?_eq_some_iff.mp e1).1
    rw [List.length_take] at this
    omega
  have cl := closed_get hc e2
  rw [List.getElem?_take_of_lt hk] at e1 e2
  obtain ⟨q1, o, q2, q3⟩ := S.own k a m e1 e2 e3
  exact ⟨q1, o, q2, mois_cut q3 cl⟩
/-- [elt for target in iter if ..], the new list (of data) frozen; out: how the list is handed on -/
def rLcB (out : List D → Led → (Lo → Led → Prop) → Prop) (ti : RI) (g : RG) (tt : RT) (te : RE) (vs : List Nat) : RE := fun Γ M K => ti Γ M fun ds M1 => ∃ Iv : Nat → List D → Led → Prop, Iv 0 [] M1 ∧
  (∀ i d acc M', ds[i]? = some d → Iv i acc M' → M'.length = M1.length ∧ g (.im d) (wipeG Γ vs) (M' ++ [.li acc]) fun Γ2 M2 => tt Γ2 M2 fun b M3 =>
    IfP b (te Γ2 M3 fun l M4 => match l with
      | .im x => acc.length < sizeLine ∧ M4 = M4.take M1.length ++ [.li acc] ∧ Iv (i + 1) (acc ++ [x]) (M4.take M1.length)
      | _ => False) (M3 = M3.take M1.length ++ [.li acc] ∧ Iv (i + 1) acc (M3.take M1.length))) ∧
  ∀ acc M', Iv ds.length acc M' → M'.length = M1.length ∧ closed M1.length M' ∧ out acc M' K
def outF : List D → Led → (Lo → Led → Prop) → Prop := fun acc M K => K (.im (.lst acc)) M
def outO : List D → Led → (Lo → Led → Prop) → Prop := fun acc M K => K (.ow M.length) (M ++ [.li acc])
abbrev rLc := rLcB outF
abbrev rLcO := rLcB outO
theorem take_app {α : Type} {xs ys : List α} {n : Nat} (h : xs.length = n) : (xs ++ ys).take n = xs := by
  subst h
  simp
def OutOk (out : List D → Led → (Lo → Led → Prop) → Prop) : Prop := ∀ {C : Fc} {As1 : List Addr} {G1 H1 G' Hc : Hp} {Dd : Addr} {Γ : Gam} {M1 M' : Led} {acc : List D} {σ : L2.St} {K : Lo → Led → Prop} {Q : VK}, Sat C As1 G1 H1 Γ M1 σ →
  Gr C As1 G1 (As1 ++ [Dd]) G' Hc Γ (M' ++ [.li acc]) σ → M'.length = M1.length → closed M1.length M' → out acc M' K →
  (∀ (l : Lo) (M2 : Led) (v : V) (As2 : List Addr) (G2 H2 : Hp), Gr C As1 G1 As2 G2 H2 Γ M2 σ → LRp C.K As2 G2 v l → K l M2 → Q v H2) → Q (.ref Dd) Hc
theorem outF_ok : OutOk outF := fun {C As1 G1 H1 G' Hc Dd Γ M1 M' acc σ K Q} S g hl hc ho q => by
  have hn : As1.length = M1.length := S.al
  have hA : (As1 ++ [Dd])[M1.length]? = some Dd := by rw [← hn]; simp
  have hM : (M' ++ [MO.li acc])[M1.length]? = some (.li acc) := by rw [← hl]; simp
  obtain ⟨g0, o, h0, xs, rfl, rx⟩ := g.sat.own _ _ _ hA hM (by intro z; cases z)
  have F := g.sat.freeze hA hM (by intro z; cases z) h0
  have eM : ((M' ++ [MO.li acc]).set M1.length .gone).take M1.length = M' := by
    rw [List.take_set_of_le (Nat.le_refl _), take_app hl]
  have eA : (As1 ++ [Dd]).take M1.length = As1 := take_app hn
  have sg : Same G' (upd G' Dd (.lst xs)) := Same.new g0
  have Z := F.cut (n := M1.length) (Γ' := Γ) (σ' := σ) (by rw [eM]; exact hc) (by rw [eA]; exact S.asS) (by rw [eA]; exact S.ba) (fun i l e => by
    obtain ⟨v, q1, q2⟩ := S.slot i l e
    exact ⟨v, q1, by rw [eA]; exact q2.mono (g.g.trans sg) (List.prefix_refl _)⟩) S.len
  rw [eA, eM] at Z
  exact q (.im (.lst acc)) M' _ As1 _ _ ⟨Z, g.g.trans sg, List.prefix_refl _⟩ (Rp.lst upd_same (rx.mono sg)) ho
theorem outO_ok : OutOk outO := fun {C As1 G1 H1 G' Hc Dd Γ M1 M' acc σ K Q} S g hl hc ho q => by
  have hn : As1.length = M1.length := S.al
  exact q (.ow M'.length) _ _ _ _ _ g ⟨Dd, by rw [hl, ← hn]; simp, rfl⟩ ho
theorem up_lc {out : List D → Led → (Lo → Led → Prop) → Prop} (hout : OutOk out) {is vs : List Nat} {ti : RI} {g : RG} {tt : RT} {te : RE} (his : ∀ j ∈ is, j ∈ vs) :
    ∀ σ H Q, UE C (rLcB out ti g tt te vs) σ H Q → tLc (UI C ti) (UG C is g) (UT C tt) (UE C te) vs σ H Q :=
  fun σ H Q ⟨As, G, Γ, M, K, S, t, q⟩ => ⟨As, G, Γ, M, _, S, t, fun ds M1 As1 G1 H1 J g1 hJ ⟨Iv, i0, step, done⟩ Dd hD => by
    have hn : As1.length = M1.length := g1.sat.al
    refine ⟨fun i m Hc => m = ds.length - i ∧ i ≤ ds.length ∧ ∃ G' acc M', M'.length = M1.length ∧ Gr C As1 G1 (As1 ++ [Dd]) G' Hc Γ (M' ++ [.li acc]) σ ∧ Iv i acc M',
      ⟨_, rfl, Nat.zero_le _, G1, [], M1, rfl, Gr.alloc (m := .li []) g1.sat hD ⟨[], rfl, .nil⟩, i0⟩, ?_⟩
    rintro i m Hc ⟨rfl, hi, G2, acc, M2, hl2, g2, iv⟩
    obtain ⟨hgo, hst⟩ := hJ i _ G2 Hc Γ _ σ g2.sat g2.g
    by_cases hlt : i < ds.length
    · refine .inr ⟨(hgo ds[i] (by simp [hlt])).1, fun H' => ∃ G' acc' M', M'.length = M1.length ∧ Gr C As1 G1 (As1 ++ [Dd]) G' H' Γ (M' ++ [.li acc']) σ ∧ Iv (i + 1) acc' M', fun H' ⟨G', acc', M', h1, h2, h3⟩ => ⟨ds.length - (i + 1), by omega, rfl, hlt, G', acc', M', h1, h2, h3⟩, fun x H3 y => ?_⟩
      obtain ⟨G3, g3, r3⟩ := (hgo ds[i] (by simp [hlt])).2 x H3 y
      obtain ⟨_, st⟩ := step i ds[i] acc M2 (by simp [hlt]) iv
      refine ⟨_, G3, wipeG Γ _, _, .im ds[i], _, g3.sat.wipe _, r3, st, fun Γ4 M4 σ4 As4 G4 H4 g4 k4 l4 t4 => ⟨?_, As4, G4, Γ4, M4, _, g4.sat, t4, fun b M5 As5 G5 H5 g5 t5 => ?_⟩⟩
      · rw [← wipe_wipe (σ := σ)]
        exact wipe_eq l4 fun j hj => k4 j fun z => hj (his j z)
      · -- back to the comprehension's own state
        have fin : ∀ {As6 : List Addr} {G6 H6 : Hp} {Γ6 : Gam} {M6 : Led} {σ6 : L2.St}, Gr C (As1 ++ [Dd]) G3 As6 G6 H6 Γ6 M6 σ6 → M6 = M6.take M1.length ++ [.li acc] →
            As6 = As1 ++ [Dd] ∧ (M6.take M1.length).length = M1.length ∧ M6[M1.length]? = some (.li acc) := fun {As6 G6 H6 Γ6 M6 σ6} g6 e6 => by
          have ll := g6.sat.al
          have l1 : (M6.take M1.length).length ≤ M1.length := List.length_take_le _ _
          have l2 : M6.length = (M6.take M1.length).length + 1 := by
            have := congrArg List.length e6
            rw [List.length_append, List.length_singleton] at this
            exact this
          obtain ⟨tl, htl⟩ := g6.p
          have l3 : As6.length = M1.length + 1 + tl.length := by
            rw [← htl, List.length_append, List.length_append, List.length_singleton, hn]
          have tl0 : tl = [] := List.length_eq_zero_iff.mp (by omega)
          subst tl0
          rw [List.append_nil] at htl
          have l4 : (M6.take M1.length).length = M1.length := by omega
          refine ⟨htl.symm, l4, ?_⟩
          rw [e6, List.getElem?_append_right (by omega), l4]
          simp
        cases b with
        | false =>
          obtain ⟨e6, iv'⟩ := t5.2 rfl
          show ∃ G' acc' M', _
          have g35 := g4.trans g5
          obtain ⟨eA, lM, _⟩ := fin g35 e6
          subst eA
          refine ⟨G5, acc, M5.take M1.length, lM, ?_, iv'⟩
          rw [← e6]
          exact Gr.back g1.sat (g2.trans (g3.trans g35))
        | true =>
          show UE C te σ4 H5 _
          refine ⟨As5, G5, Γ4, M5, _, g5.sat, t5.1 rfl, fun l M6 v As6 G6 H6 g6 rv k => ?_⟩
          cases l with
          | ow _ => exact k.elim
          | tp _ => exact k.elim
          | im x' =>
            obtain ⟨hz, e6, iv'⟩ := k
            have g36 := g4.trans (g5.trans g6)
            obtain ⟨eA, lM, eM⟩ := fin g36 e6
            subst eA
            have hA : (As1 ++ [Dd])[M1.length]? = some Dd := by rw [← hn]; simp
            obtain ⟨g0, o, h0, xs, rfl, rx⟩ := g36.sat.own _ _ _ hA eM (by intro z; cases z)
            refine ⟨xs, h0, by rw [rx.length]; exact hz, G6, acc ++ [x'], M6.take M1.length, lM, ?_, iv'⟩
            have W := g36.sat.write (o := .lst (xs ++ [v])) (m' := .li (acc ++ [x'])) hA eM (by intro z; cases z) ⟨_, rfl, rx.app (.one rv)⟩
            have eW : M6.set M1.length (.li (acc ++ [x'])) = M6.take M1.length ++ [.li (acc ++ [x'])] := by
              conv => lhs; rw [e6]
              rw [List.set_append_right _ _ (by omega), lM]
              simp
            rw [eW] at W
            exact Gr.back g1.sat (g2.trans (g3.trans ⟨W, g36.g, g36.p⟩))
    · have e : i = ds.length := by omega
      subst e
      obtain ⟨d1, d2, d3⟩ := done acc M2 iv
      exact .inl ⟨hst (Nat.le_refl _), hout g1.sat g2 d1 d2 d3 fun l M2 v As2 G2 H2 g' rv k => q l M2 v As2 G2 H2 (g1.trans g') rv k⟩⟩
theorem q_lcB {out : List D → Led → (Lo → Led → Prop) → Prop} (hout : OutOk out) {elt : Expr} {ifs : List Expr} {scope : Scope} {own : List (Str × Nat)} {is : List Nat} {ti : RI} {g : RG} {tt : RT} {te : RE} (hc : X.calm = true) (hN : X.N.Nodup) (ok : BlkOk X.N X.env.scope scope own) (his : ∀ j ∈ is, j ∈ own.map (·.2)) (hi : QI C X tg iter ti)
    (hg : ∀ (s : Shared) (H : Hp) (Cc : Addr) (cl : List (Str × Addr)) (fp : List Addr), QG C (X.blk s H scope (compEnvC scope cl Cc X.env) fp) tg is g) (ht : ∀ (s : Shared) (H : Hp) (Cc : Addr) (cl : List (Str × Addr)) (fp : List Addr), PTs (X.blk s H scope (compEnvC scope cl Cc X.env) fp) ifs (UT C tt))
    (he : ∀ (s : Shared) (H : Hp) (Cc : Addr) (cl : List (Str × Addr)) (fp : List Addr), QE C (X.blk s H scope (compEnvC scope cl Cc X.env) fp) elt te) (hs : ∀ x, foldedSetIterable iter X.env x = pure x := by intro _; rfl) :
    QE C X (.ListComp elt [⟨tg, iter, ifs, 0⟩] scope pos) (rLcB out ti g tt te (own.map (·.2))) :=
  PE.imp (pe_lc hc hN hi ok hg ht he hs) (up_lc hout his)
/-- name = [..] on one line, the name a plain local -/
theorem q_setLcB {out : List D → Led → (Lo → Led → Prop) → Prop} (hout : OutOk out) (i : Nat) {y : Str} {py spos : Pos} {elt : Expr} {ifs : List Expr} {scope : Scope} {own : List (Str × Nat)} {is : List Nat} {ti : RI} {g : RG} {tt : RT} {te : RE} (hc : X.calm = true) (hN : X.N.Nodup)
    (hsw : swapsWith (.ListComp elt [⟨tg, iter, ifs, 0⟩] scope pos) (some (.Name y py)) spos.line X.env = pure true) (ok : BlkOk X.N X.env.scope scope own) (his : ∀ j ∈ is, j ∈ own.map (·.2)) (hi : QI C X tg iter ti)
    (hg : ∀ (s : Shared) (H : Hp) (Cc : Addr) (cl : List (Str × Addr)) (fp : List Addr), QG C (X.blk s H scope (compEnvC scope cl Cc X.env) fp) tg is g) (ht : ∀ (s : Shared) (H : Hp) (Cc : Addr) (cl : List (Str × Addr)) (fp : List Addr), PTs (X.blk s H scope (compEnvC scope cl Cc X.env) fp) ifs (UT C tt))
    (he : ∀ (s : Shared) (H : Hp) (Cc : Addr) (cl : List (Str × Addr)) (fp : List Addr), QE C (X.blk s H scope (compEnvC scope cl Cc X.env) fp) elt te) (hy : X.N[i]? = some y := by rfl) (hyl : X.env.scope.names.lookup y = some .local := by rfl) (hs : ∀ x, foldedSetIterable iter X.env x = pure x := by intro _; rfl) :
    QS C X (.Assign [.Name y py] (.ListComp elt [⟨tg, iter, ifs, 0⟩] scope pos) spos) (rAsg (rLcB out ti g tt te (own.map (·.2))) (rName i)) :=
  PS.imp (ps_setLc hc hN hy hyl hsw hi ok hg ht he hs) fun D σ H ⟨As, G, Γ, M, N, S, t, f⟩ =>
    up_lc hout his σ H _ ⟨As, G, Γ, M, _, S, t, fun l M' v As' G' H' g1 rv k => f.nx _ _ _ _ _ _ (g1.w.trans ⟨g1.sat.set rv, Same.refl _⟩) k⟩
theorem q_tnil {X : Cx} : PTs X [] (UT C fun _ M K => K true M) := ⟨fun pins s σ H Q I ⟨As, G, Γ, M, K, S, t, q⟩ => (pts_nil (X := X)).run pins s σ H Q I (q _ _ _ _ _ (Gr.refl S) t)⟩
theorem q_tone {X : Cx} {c : Expr} {t : RT} (h : QT C X c t) : PTs X [c] (UT C t) := pts_one h
def rYes : RT := fun _ M K => K true M
end
end Dl

set_option Elab.async false
set_option maxRecDepth 100000
set_option maxHeartbeats 1000000
namespace L2
open PySem PySem.Spec PyProof.Rows
theorem tuple_mul1 (l : Addr) (items : Array Value) (n : Nat) (dd : Option Addr) (sl : Array (Option Value)) (u : Tok) :
    Meets (Builtin.«tuple.__mul__» ⟨[.ref l, .int 1 u], []⟩) (fun _ R s => s.heap.get? l = some { cls := .type "tuple", dict := dd, data := .seq items n, slots := sl } ∧
      R (.ok (.ret (Value.ref l))) s) :=
  .of_wp fun prog w A R s h => by
    obtain ⟨hp, g, d, tk, os⟩ := s
    obtain ⟨hl, h⟩ := h
    have f1 := AutoSeq1.idx_int
    have c1 : (items.isEmpty || (1 : Int) == 1) = true := by simp
    wp_walk using wpAny_loadPart' hl
    repeat (first
      | (refine wpAny_ite_false (decide_eq_false (by decide)) ?_; wp_walk using wpAny_loadPart' hl)
      | (refine wpAny_ite_true (decide_eq_true c1) ?_; wp_walk using wpAny_loadPart' hl))
    exact ⟨_, rfl, h⟩
def rRep1 (K : PySem.W.Frag) : R2 := fun x y H Q => ∃ l xs, x = .ref l ∧ y = .int 1 ∧ SqT K H l xs ∧ Q (.ref l) H
theorem op_rep1 {X : Cx} : OpR X (binaryOp .Mult) (rRep1 X.K) := by
  intro pins s σ H x y v u Q I rx ry h
  obtain ⟨l, xs, rfl, rfl, hT, q⟩ := h
  cases rx
  obtain ⟨t, rfl⟩ := ry
  obtain ⟨its, r, ⟨⟨cls, dd, data, sl⟩, ho, hc, n, hd⟩, hs⟩ := I.tuple hT
  simp only at hc hd
  subst hc hd
  refine wpAny_binaryOp_repeat_ref (T := "tuple") (U := "int") (by decide) ⟨_, ho, rfl⟩ (fun s' => typeIs_int s' 1 t) noFill_tuple_mul F.fills_int_mul F.slot_int_rmul repeat_tuple F.slot_int_index.lookup
    (call_meets F.slot_int_rmul (typeIs_int s 1 t) F.entry_int_rmul (F.args_int_rmul_2 _ _) (int_rmul_tuple 1 t l its.toArray n dd sl)
      ⟨ho, rfl, ⟨_, ho, rfl⟩, call_meets F.slot_tuple_mul ⟨_, ho, rfl⟩ F.entry_tuple_mul (F.args_tuple_mul_2 _ _) (tuple_mul1 l its.toArray n dd sl t) ⟨ho, ?_⟩⟩)
  exact ⟨.ref l, H, I, rfl, q⟩
end L2

set_option Elab.async false
set_option maxRecDepth 100000
set_option maxHeartbeats 1000000
namespace Dl
open PySem L2

/-! ### new lists -/
abbrev Hand := List D → Led → (Lo → Led → Prop) → Prop
def OutN (out : Hand) : Prop := ∀ {C : Fc} {As : List Addr} {G H : Hp} {p : Addr} {Γ : Gam} {M : Led} {σ : L2.St} {xs : List V} {ds : List D} {K : Lo → Led → Prop} {Q : VK}, Sat C As G H Γ M σ → H p = none → RpL C.K G xs ds → out ds M K →
  (∀ (l : Lo) (M2 : Led) (v : V) (As2 : List Addr) (G2 H2 : Hp), Gr C As G As2 G2 H2 Γ M2 σ → LRp C.K As2 G2 v l → K l M2 → Q v H2) → Q (.ref p) (upd H p (.lst xs))
theorem outF_new : OutN outF := fun {C As G H p Γ M σ xs ds K Q} S hp r ho q => q (.im (.lst ds)) M _ As _ _ (Gr.frz S hp) (rp_new_l S hp r) ho
theorem outO_new : OutN outO := fun {C As G H p Γ M σ xs ds K Q} S hp r ho q => q (.ow M.length) _ _ _ _ _ (Gr.alloc (m := .li ds) S hp ⟨_, rfl, r⟩) (ow_new S) ho

/-- the datum that a place shows now -/
def snap (M : Led) : Lo → Option D
  | .im d => some d
  | .ow k => match M[k]? with
    | some (.li ds) => some (.lst ds)
    | some (.dc ks) => some (.dct ks)
    | _ => none
  | .tp _ => none
section
variable {C : Fc} {As : List Addr} {G H : Hp} {Γ : Gam} {M : Led} {σ : L2.St} {v : V} {l : Lo}
theorem Sat.snapL {ds : List D} (S : Sat C As G H Γ M σ) (r : LRp C.K As G v l) (h : snap M l = some (.lst ds)) : ∃ a xs, v = .ref a ∧ H a = some (.lst xs) ∧ RpL C.K G xs ds := by
  cases l with
  | tp _ => cases h
  | im d =>
    cases h
    cases r with
    | lst e rr => exact ⟨_, _, rfl, S.le _ _ e, rr⟩
  | ow k =>
    obtain ⟨a, ha, rfl⟩ := r
    simp only [snap] at h
    split at h
    · rename_i es e
      cases h
      obtain ⟨_, o, h0, xs, rfl, rx⟩ := S.own _ _ _ ha e (by intro z; cases z)
      exact ⟨a, xs, rfl, h0, rx⟩
    · cases h
    · cases h
theorem Sat.imT {ds : List D} (S : Sat C As G H Γ M σ) (r : LRp C.K As G v (.im (.tup ds))) : ∃ a xs, v = .ref a ∧ H a = some (.tup xs) ∧ RpL C.K G xs ds := by
  cases r with
  | tup e rr => exact ⟨_, _, rfl, S.le _ _ e, rr⟩
end

/-! ### data for == and repr -/
mutual
def D.pd : D → PyData
  | .non => .none
  | .bl b => .bool b
  | .int i => .int i
  | .str x => .str x
  | .lst ds => .list (D.pdL ds)
  | .tup ds => .tuple (D.pdL ds)
  | .ty _ => .none
  | .cl _ => .none
  | .kls _ => .none
  | .scr _ => .none
  | .dct _ => .none
  | .ins _ _ => .none
  | .exc _ _ => .none
def D.pdL : List D → List PyData
  | [] => []
  | d :: ds => d.pd :: D.pdL ds
end
mutual
def D.flat : D → Bool
  | .non => true
  | .bl _ => true
  | .int _ => true
  | .str _ => true
  | .lst ds => D.flatL ds
  | .tup ds => D.flatL ds
  | .ty _ => false
  | .cl _ => false
  | .kls _ => false
  | .scr _ => false
  | .dct _ => false
  | .ins _ _ => false
  | .exc _ _ => false
def D.flatL : List D → Bool
  | [] => true
  | d :: ds => d.flat && D.flatL ds
end
mutual
theorem Rp.dp {K : PySem.W.Frag} {G H : Hp} (e : Same G H) : ∀ {v : V} {d : D}, Rp K G v d → d.flat = true → Dp K H v d.pd
  | _, _, .non, _ => .non
  | _, _, .bl b, _ => .bl b
  | _, _, .int i, _ => .int i
  | _, _, .str x, _ => .str x
  | _, _, .lst h r, f => .lst (SqL.of (e _ _ h)) (RpL.dp e r f)
  | _, _, .tup h r, f => .tup (SqT.of (e _ _ h)) (RpL.dp e r f)
  | _, _, .ty n, f => by cases f
  | _, _, .cl n, f => by cases f
  | _, _, .kls n, f => by cases f
  | _, _, .scr n, f => by cases f
  | _, _, .dct _ _ _, f => by cases f
  | _, _, .ins _ _ _, f => by cases f
  | _, _, .exc0 _, f => by cases f
  | _, _, .excD _ _ _ _, f => by cases f
theorem RpL.dp {K : PySem.W.Frag} {G H : Hp} (e : Same G H) : ∀ {vs : List V} {ds : List D}, RpL K G vs ds → D.flatL ds = true → DpAll K H vs (D.pdL ds)
  | _, _, .nil, _ => .nil
  | _, _, .cons h r, f => by
    have f' := Bool.and_eq_true_iff.mp (show (_ && _) = true from f)
    exact .cons (Rp.dp e h f'.1) (RpL.dp e r f'.2)
end
/-- a datum whose == may be asked -/
def okd (d : D) : Bool := d.flat && SeqAt.shaped d.pd
theorem Sat.dp {C : Fc} {As : List Addr} {G H : Hp} {Γ : Gam} {M : Led} {σ : L2.St} {v : V} {l : Lo} {d : D} (S : Sat C As G H Γ M σ) (r : LRp C.K As G v l) (h : snap M l = some d) (f : d.flat = true) : Dp C.K H v d.pd := by
  cases l with
  | tp _ => cases h
  | im e =>
    cases h
    exact Rp.dp S.le r f
  | ow k =>
    obtain ⟨a, ha, rfl⟩ := r
    simp only [snap] at h
    split at h
    · rename_i es e
      cases h
      obtain ⟨_, o, h0, xs, rfl, rx⟩ := S.own _ _ _ ha e (by intro z; cases z)
      exact .lst (SqL.of h0) (RpL.dp S.le rx f)
    · cases h
      cases f
    · cases h
def eqk (a b : D) (k : Bool → Prop) : Prop := match a, b with
  | .int i, .int j => k (decide (i = j))
  | .str i, .str j => k (decide (i = j))
  | .bl i, .bl j => k (decide (i = j))
  | .non, .non => k true
  | a, b => okd a = true ∧ okd b = true ∧ k (PyData.eqv a.pd b.pd)
def oEqG (f : Bool → Bool) : R2L := fun x y M K => match snap M x, snap M y with
  | some a, some b => eqk a b fun r => K (.im (.bl (f r))) M
  | _, _ => False
abbrev oEq : R2L := oEqG id
abbrev oNe : R2L := oEqG not
def rEqU (K : PySem.W.Frag) : R2 := fun x y H Q => rEq x y H Q ∨ rEqD K x y H Q
def rNeU (K : PySem.W.Frag) : R2 := fun x y H Q => rNe x y H Q ∨ rNeD K x y H Q
theorem eqk_go {C : Fc} {As : List Addr} {G H : Hp} {Γ : Gam} {M : Led} {σ : L2.St} {x y : V} {lx ly : Lo} {a b : D} {f : Bool → Bool} {P : Bool → Prop} (S : Sat C As G H Γ M σ) (rx : LRp C.K As G x lx) (ry : LRp C.K As G y ly) (ha : snap M lx = some a) (hb : snap M ly = some b) (h : eqk a b P) :
    (scal x y = true ∧ P (decide (x = y))) ∨ ∃ d e, Dp C.K H x d ∧ Dp C.K H y e ∧ SeqAt.shaped d = true ∧ SeqAt.shaped e = true ∧ P (PyData.eqv d e) := by
  have im : ∀ {v : V} {l : Lo} {d : D}, LRp C.K As G v l → snap M l = some d → (∀ ds, d ≠ .lst ds) → (∀ ds, d ≠ .dct ds) → Rp C.K G v d := fun {v l d} r e n1 n2 => by
    cases l with
    | im d' => cases e; exact r
    | tp _ => cases e
    | ow k =>
      simp only [snap] at e
      split at e
      · cases e; exact absurd rfl (n1 _)
      · cases e; exact absurd rfl (n2 _)
      · cases e
  unfold eqk at h
  split at h
  · cases im rx ha (fun _ z => nomatch z) (fun _ z => nomatch z)
    cases im ry hb (fun _ z => nomatch z) (fun _ z => nomatch z)
    refine .inl ⟨rfl, ?_⟩
    rw [dec_int, Bool.beq_eq_decide_eq]
    exact h
  · cases im rx ha (fun _ z => nomatch z) (fun _ z => nomatch z)
    cases im ry hb (fun _ z => nomatch z) (fun _ z => nomatch z)
    refine .inl ⟨rfl, ?_⟩
    rw [dec_str]
    exact h
  · cases im rx ha (fun _ z => nomatch z) (fun _ z => nomatch z)
    cases im ry hb (fun _ z => nomatch z) (fun _ z => nomatch z)
    refine .inl ⟨rfl, ?_⟩
    rw [dec_bl, Bool.beq_eq_decide_eq]
    exact h
  · cases im rx ha (fun _ z => nomatch z) (fun _ z => nomatch z)
    cases im ry hb (fun _ z => nomatch z) (fun _ z => nomatch z)
    exact .inl ⟨rfl, by simpa using h⟩
  · obtain ⟨h1, h2, h3⟩ := h
    have f1 := Bool.and_eq_true_iff.mp h1
    have f2 := Bool.and_eq_true_iff.mp h2
    exact .inr ⟨_, _, S.dp rx ha f1.1, S.dp ry hb f2.1, f1.2, f2.2, h3⟩
theorem eqL {C : Fc} : OpL C (rEqU C.K) oEq := fun {As G H Γ M σ x y lx ly K Q} S rx ry t q => by
  unfold oEq oEqG at t
  split at t
  · rename_i a b e1 e2
    rcases eqk_go (f := id) S rx ry e1 e2 t with ⟨h1, h2⟩ | ⟨d, e, h1, h2, h3, h4, h5⟩
    · exact .inl ⟨h1, q (.im (.bl _)) M _ As G H (Gr.refl S) (Rp.bl _) h2⟩
    · exact .inr ⟨d, e, h1, h2, h3, h4, q (.im (.bl _)) M _ As G H (Gr.refl S) (Rp.bl _) h5⟩
  · exact t.elim
theorem neL {C : Fc} : OpL C (rNeU C.K) oNe := fun {As G H Γ M σ x y lx ly K Q} S rx ry t q => by
  unfold oNe oEqG at t
  split at t
  · rename_i a b e1 e2
    rcases eqk_go (f := not) S rx ry e1 e2 t with ⟨h1, h2⟩ | ⟨d, e, h1, h2, h3, h4, h5⟩
    · exact .inl ⟨h1, q (.im (.bl _)) M _ As G H (Gr.refl S) (Rp.bl _) h2⟩
    · exact .inr ⟨d, e, h1, h2, h3, h4, q (.im (.bl _)) M _ As G H (Gr.refl S) (Rp.bl _) h5⟩
  · exact t.elim

/-! ### ints -/
def oI (C : Int → Int → Prop) (g : Int → Int → D) : R2L := fun x y M K => match x, y with
  | .im (.int i), .im (.int j) => C i j ∧ K (.im (g i j)) M
  | _, _ => False
def oI0 (g : Int → Int → D) : R2L := fun x y M K => match x, y with
  | .im (.int i), .im (.int j) => K (.im (g i j)) M
  | _, _ => False
theorem oI0_case {g : Int → Int → D} {x y : Lo} {M : Led} {K : Lo → Led → Prop} (h : oI0 g x y M K) : ∃ i j, x = .im (.int i) ∧ y = .im (.int j) ∧ K (.im (g i j)) M := by
  unfold oI0 at h
  split at h
  · exact ⟨_, _, rfl, rfl, h⟩
  · exact h.elim
theorem oI_case {C : Int → Int → Prop} {g : Int → Int → D} {x y : Lo} {M : Led} {K : Lo → Led → Prop} (h : oI C g x y M K) : ∃ i j, x = .im (.int i) ∧ y = .im (.int j) ∧ C i j ∧ K (.im (g i j)) M := by
  unfold oI at h
  split at h
  · exact ⟨_, _, rfl, rfl, h.1, h.2⟩
  · exact h.elim
theorem liftI0 {C : Fc} {g : Int → Int → V} {g' : Int → Int → D} (h : ∀ i j G, Rp C.K G (g i j) (g' i j)) : OpL C (rI0 g) (oI0 g') := fun {As G H Γ M σ x y lx ly K Q} S rx ry t q => by
  obtain ⟨i, j, rfl, rfl, t⟩ := oI0_case t
  exact ⟨i, j, int_of rx, int_of ry, q (.im (g' i j)) M _ As G H (Gr.refl S) (h i j G) t⟩
theorem liftI {C : Fc} {P P' : Int → Int → Prop} {g : Int → Int → V} {g' : Int → Int → D} (hp : ∀ i j, P' i j → P i j) (h : ∀ i j G, Rp C.K G (g i j) (g' i j)) : OpL C (rI P g) (oI P' g') := fun {As G H Γ M σ x y lx ly K Q} S rx ry t q => by
  obtain ⟨i, j, rfl, rfl, c, t⟩ := oI_case t
  exact ⟨i, j, int_of rx, int_of ry, hp i j c, q (.im (g' i j)) M _ As G H (Gr.refl S) (h i j G) t⟩
abbrev oSub := oI0 fun i j => .int (i - j)
abbrev oLt := oI0 fun i j => .bl (decide (i < j))
abbrev oLe := oI0 fun i j => .bl (decide (i ≤ j))
abbrev oGt := oI0 fun i j => .bl (decide (j < i))
abbrev oGe := oI0 fun i j => .bl (decide (j ≤ i))
abbrev oMod := oI (fun _ j => 0 < j) fun i j => .int (i % j)
abbrev oDiv := oI (fun _ j => 0 < j ∧ j < 4611686018427387904) fun i j => .int (i / j)
def MulC (i j : Int) : Prop := (-18446744073709551616 < i ∧ i < 18446744073709551616) ∨ (-18446744073709551616 < j ∧ j < 18446744073709551616)
abbrev oXor := oI0 fun i j => .int (Builtin.bitXor i j)
abbrev oAnd := oI0 fun i j => .int (Builtin.bitAnd i j)
abbrev oShl := oI (fun i j => 0 ≤ j ∧ j ≤ 1000000 ∧ i.natAbs < 18446744073709551616) fun i j => .int (i * 2 ^ j.toNat)
abbrev oShr := oI (fun _ j => 0 ≤ j) fun i j => .int (i / 2 ^ j.toNat)
section
variable {C : Fc}
theorem subL : OpL C (rI0 fun i j => .int (i - j)) oSub := liftI0 fun i j G => .int _
theorem ltL : OpL C (rI0 fun i j => .bl (decide (i < j))) oLt := liftI0 fun i j G => .bl _
theorem leL : OpL C (rI0 fun i j => .bl (decide (i ≤ j))) oLe := liftI0 fun i j G => .bl _
theorem gtL : OpL C (rI0 fun i j => .bl (decide (j < i))) oGt := liftI0 fun i j G => .bl _
theorem geL : OpL C (rI0 fun i j => .bl (decide (j ≤ i))) oGe := liftI0 fun i j G => .bl _
theorem xorL : OpL C (rI0 fun i j => .int (Builtin.bitXor i j)) oXor := liftI0 fun i j G => .int _
theorem andL : OpL C (rI0 fun i j => .int (Builtin.bitAnd i j)) oAnd := liftI0 fun i j G => .int _
theorem modL : OpL C (rI (fun _ j => 0 < j) fun i j => .int (i % j)) oMod := liftI (fun _ _ h => h) fun i j G => .int _
theorem divL : OpL C (rI CDivW fun i j => .int (i / j)) oDiv := liftI (fun i j h => wide_div (b := 62) h.1 (by omega) (by decide) (by decide)) fun i j G => .int _
theorem shlL : OpL C (rI CPow fun i j => .int (i * 2 ^ j.toNat)) oShl := liftI (fun i j h => ⟨h.1, h.2.1, by have := h.2.2; omega⟩) fun i j G => .int _
theorem shrL : OpL C (rI (fun _ j => 0 ≤ j) fun i j => .int (i / 2 ^ j.toNat)) oShr := liftI (fun i j h => h) fun i j G => .int _
end
def oNeg : R1L := fun x M K => match x with
  | .im (.int i) => K (.im (.int (-i))) M
  | _ => False
theorem negL {C : Fc} : UnL C (rU fun i => .int (-i)) oNeg := fun {As G H Γ M σ x lx K Q} S rx t q => by
  unfold oNeg at t
  split at t
  · exact ⟨_, int_of rx, q (.im (.int _)) M _ As G H (Gr.refl S) (Rp.int _) t⟩
  · exact t.elim

/-! ### + and * -/
def oAdd (out : Hand) : R2L := fun x y M K => match x, y with
  | .im (.int i), .im (.int j) => K (.im (.int (i + j))) M
  | .im (.str a), .im (.str b) => a.length + b.length ≤ sizeLine ∧ K (.im (.str (a ++ b))) M
  | .im (.tup a), .im (.tup b) => a.length + b.length ≤ sizeLine ∧ K (.im (.tup (a ++ b))) M
  | x, y => match snap M x, snap M y with
    | some (.lst a), some (.lst b) => a.length + b.length ≤ sizeLine ∧ out (a ++ b) M K
    | _, _ => False
def rAddU (K : PySem.W.Frag) : R2 := fun x y H Q => rI0 (fun i j => .int (i + j)) x y H Q ∨ (∃ i j, x = .str i ∧ y = .str j ∧ i.length + j.length ≤ sizeLine ∧ Q (.str (i ++ j)) H) ∨ rCatA K x y H Q ∨ rCat x y H Q
theorem op_addU {X : Cx} : OpR X (binaryOp .Add) (rAddU X.K) := op_add.or (op_add_str.or (op_catA.or op_cat))
theorem addL {C : Fc} {out : Hand} (hout : OutN out) : OpL C (rAddU C.K) (oAdd out) := fun {As G H Γ M σ x y lx ly K Q} S rx ry t q => by
  unfold oAdd at t
  split at t
  · exact .inl ⟨_, _, int_of rx, int_of ry, q (.im (.int _)) M _ As G H (Gr.refl S) (Rp.int _) t⟩
  · exact .inr (.inl ⟨_, _, str_of rx, str_of ry, t.1, q (.im (.str _)) M _ As G H (Gr.refl S) (Rp.str _) t.2⟩)
  · rename_i a b
    obtain ⟨p1, xs, rfl, h1, r1⟩ := S.imT rx
    obtain ⟨p2, ys, rfl, h2, r2⟩ := S.imT ry
    refine .inr (.inr (.inl ⟨p1, p2, xs, ys, rfl, rfl, SqT.of h1, SqT.of h2, by rw [r1.length, r2.length]; exact t.1, ?_⟩))
    have im1 : Rp C.K G (.ref p1) (.tup a) := rx
    have im2 : Rp C.K G (.ref p2) (.tup b) := ry
    refine ⟨fun z => ?_, fun z1 z => ?_, fun z1 z2 p hp => ?_⟩
    · subst z
      cases r1
      exact q (.im (.tup _)) M _ As G H (Gr.refl S) im2 t.2
    · subst z
      cases r2
      refine q (.im (.tup _)) M _ As G H (Gr.refl S) ?_ t.2
      rw [List.append_nil]
      exact im1
    · exact q (.im (.tup _)) M _ As _ _ (Gr.frz S hp) (rp_new_t S hp (r1.app r2)) t.2
  · split at t
    · rename_i a b e1 e2
      obtain ⟨p1, xs, rfl, h1, r1⟩ := S.snapL rx e1
      obtain ⟨p2, ys, rfl, h2, r2⟩ := S.snapL ry e2
      exact .inr (.inr (.inr ⟨p1, p2, xs, ys, rfl, rfl, h1, h2, by rw [r1.length, r2.length]; exact t.1, fun p hp => hout S hp (r1.app r2) t.2 q⟩))
    · exact t.elim
/-- * of ints (one of them small), a list or a tuple times an int -/
def oMul (out : Hand) : R2L := fun x y M K => match x, y with
  | .im (.int i), .im (.int j) => MulC i j ∧ K (.im (.int (i * j))) M
  | .im (.tup a), .im (.int k) => a ≠ [] ∧ 1 ≤ k ∧ k ≤ 1000 ∧ a.length ≤ 1000 ∧ K (.im (.tup (List.replicate k.toNat a).flatten)) M
  | x, .im (.int k) => match snap M x with
    | some (.lst a) => -9223372036854775808 ≤ k ∧ k < 9223372036854775808 ∧ a.length * k.toNat ≤ sizeLine ∧ out (List.replicate k.toNat a).flatten M K
    | _ => False
  | _, _ => False
def rMulU (K : PySem.W.Frag) : R2 := fun x y H Q => rI CMul (fun i j => .int (i * j)) x y H Q ∨ rRepT K x y H Q ∨ rRep x y H Q ∨ rRep1 K x y H Q
theorem op_mulU {X : Cx} : OpR X (binaryOp .Mult) (rMulU X.K) := op_mul.or (op_repT.or (op_rep.or op_rep1))
theorem mulL {C : Fc} {out : Hand} (hout : OutN out) : OpL C (rMulU C.K) (oMul out) := fun {As G H Γ M σ x y lx ly K Q} S rx ry t q => by
  unfold oMul at t
  split at t
  · exact .inl ⟨_, _, int_of rx, int_of ry, by have := t.1; unfold MulC at this; unfold CMul; omega, q (.im (.int _)) M _ As G H (Gr.refl S) (Rp.int _) t.2⟩
  · rename_i av kv
    obtain ⟨p1, xs, rfl, h1, r1⟩ := S.imT rx
    obtain ⟨t1, t2, t3, t4, t5⟩ := t
    by_cases hk : 2 ≤ kv
    · refine .inr (.inl ⟨p1, _, xs, rfl, int_of ry, SqT.of h1, ?_, hk, t3, by rw [r1.length]; exact t4, fun p hp => q (.im (.tup _)) M _ As _ _ (Gr.frz S hp) (rp_new_t S hp (r1.rep _)) t5⟩)
      intro z
      subst z
      cases r1
      exact t1 rfl
    · have e1 : kv = (1 : Int) := Int.le_antisymm (by omega) t2
      subst e1
      refine .inr (.inr (.inr ⟨p1, xs, rfl, int_of ry, SqT.of h1, q (.im (.tup _)) M _ As G H (Gr.refl S) ?_ t5⟩))
      rw [show (List.replicate (Int.toNat 1) av).flatten = av by simp]
      exact rx
  · split at t
    · rename_i a e1
      obtain ⟨p1, xs, rfl, h1, r1⟩ := S.snapL rx e1
      exact .inr (.inr (.inl ⟨p1, _, xs, rfl, int_of ry, h1, by omega, by omega, by rw [r1.length]; exact t.2.2.1, fun p hp => hout S hp (r1.rep _) t.2.2.2 q⟩))
    · exact t.elim
  · exact t.elim
/-- a written power -/
theorem cpowL {C : Fc} {X : Cx} {b e c : Int} {k k' : Nat} {p p' pos : Pos} (h : b ^ e.toNat = c := by decide) (h0 : 0 ≤ e ∧ e ≤ 1000000 ∧ b.natAbs < 18446744073709551616 := by decide) : QE C X (.BinOp (.Constant (.int b) k p) .Pow (.Constant (.int e) k' p') pos) (rCon (.int c)) :=
  PE.imp (pe_op op_pow pe_int pe_int) fun σ H Q ⟨As, G, Γ, M, K, S, t, q⟩ => ⟨b, e, rfl, rfl, ⟨h0.1, h0.2.1, by have := h0.2.2; omega⟩, by
    show Q (.int (b ^ e.toNat)) H
    rw [h]
    exact q (.im (.int c)) M _ As G H (Gr.refl S) (Rp.int _) t⟩

/-! ### is None, in -/
def oIsN (f : Bool → Bool) : R2L := fun x y M K => match x, y with
  | .im .non, .im .non => K (.im (.bl (f true))) M
  | .im (.bl _), .im .non => K (.im (.bl (f false))) M
  | .im (.int _), .im .non => K (.im (.bl (f false))) M
  | .im (.str _), .im .non => K (.im (.bl (f false))) M
  | .im (.lst _), .im .non => K (.im (.bl (f false))) M
  | .im (.tup _), .im .non => K (.im (.bl (f false))) M
  | .im (.dct _), .im .non => K (.im (.bl (f false))) M
  | .im (.ins _ _), .im .non => K (.im (.bl (f false))) M
  | .ow _, .im .non => K (.im (.bl (f false))) M
  | .tp _, .im .non => K (.im (.bl (f false))) M
  | .im (.exc _ _), .im .non => K (.im (.bl (f false))) M
  | _, _ => False
theorem isN_go {C : Fc} {f : Bool → Bool} {As : List Addr} {G H : Hp} {Γ : Gam} {M : Led} {σ : L2.St} {x y : V} {lx ly : Lo} {K : Lo → Led → Prop} (S : Sat C As G H Γ M σ) (rx : LRp C.K As G x lx) (ry : LRp C.K As G y ly) (t : oIsN f lx ly M K) :
    y = .non ∧ K (.im (.bl (f (decide (x = .non))))) M := by
  have yn : ∀ {l : Lo}, LRp C.K As G y l → l = .im .non → y = .non := fun {l} r e => by
    subst e
    cases r
    rfl
  unfold oIsN at t
  split at t
  · cases rx; exact ⟨yn ry rfl, by simpa using t⟩
  · cases rx; exact ⟨yn ry rfl, by simpa using t⟩
  · cases rx; exact ⟨yn ry rfl, by simpa using t⟩
  · cases rx; exact ⟨yn ry rfl, by simpa using t⟩
  · cases rx; exact ⟨yn ry rfl, by simpa using t⟩
  · cases rx; exact ⟨yn ry rfl, by simpa using t⟩
  · cases rx; exact ⟨yn ry rfl, by simpa using t⟩
  · cases rx; exact ⟨yn ry rfl, by simpa using t⟩
  · obtain ⟨a, _, rfl⟩ := rx
    exact ⟨yn ry rfl, by simpa using t⟩
  · obtain ⟨a, _, rfl, _⟩ := rx
    exact ⟨yn ry rfl, by simpa using t⟩
  · cases rx <;> exact ⟨yn ry rfl, by simpa using t⟩
  · exact t.elim
theorem isNL {C : Fc} : OpL C (fun x y H Q => y = .non ∧ Q (.bl (decide (x = .non))) H) (oIsN id) := fun {As G H Γ M σ x y lx ly K Q} S rx ry t q => by
  obtain ⟨h1, h2⟩ := isN_go S rx ry t
  exact ⟨h1, q (.im (.bl _)) M _ As G H (Gr.refl S) (Rp.bl _) h2⟩
theorem notNL {C : Fc} : OpL C (fun x y H Q => y = .non ∧ Q (.bl (!decide (x = .non))) H) (oIsN not) := fun {As G H Γ M σ x y lx ly K Q} S rx ry t q => by
  obtain ⟨h1, h2⟩ := isN_go S rx ry t
  exact ⟨h1, q (.im (.bl _)) M _ As G H (Gr.refl S) (Rp.bl _) h2⟩
/-- the flat data -/
def D.flt : D → Bool
  | .non => true
  | .bl _ => true
  | .int _ => true
  | .str _ => true
  | _ => false
def D.toV : D → V
  | .non => .non
  | .bl b => .bl b
  | .int i => .int i
  | .str x => .str x
  | _ => .non
theorem Rp.flt {K : PySem.W.Frag} {G : Hp} {v : V} {d : D} (r : Rp K G v d) (h : d.flt = true) : v = d.toV ∧ flatV v = true := by
  cases r <;> first | exact ⟨rfl, rfl⟩ | cases h
theorem RpL.flt {K : PySem.W.Frag} {G : Hp} {vs : List V} {ds : List D} (r : RpL K G vs ds) (h : ds.all D.flt = true) : vs = ds.map D.toV ∧ vs.all flatV = true := by
  induction ds generalizing vs with
  | nil => cases r; exact ⟨rfl, rfl⟩
  | cons d ds ih =>
    cases r with
    | cons r1 r2 =>
      rw [List.all_cons, Bool.and_eq_true] at h
      obtain ⟨e1, f1⟩ := r1.flt h.1
      obtain ⟨e2, f2⟩ := ih r2 h.2
      rw [List.map_cons, ← e1, ← e2, List.all_cons, f1, f2]
      exact ⟨rfl, rfl⟩
def inD (d : D) (ds : List D) : Bool := inV d.toV (ds.map D.toV)
def seqOf (M : Led) (l : Lo) : Option (List D) := match l with
  | .im (.tup ds) => some ds
  | l => match snap M l with
    | some (.lst ds) => some ds
    | _ => none
theorem Sat.seq {C : Fc} {As : List Addr} {G H : Hp} {Γ : Gam} {M : Led} {σ : L2.St} {v : V} {l : Lo} {ds : List D} (S : Sat C As G H Γ M σ) (r : LRp C.K As G v l) (h : seqOf M l = some ds) : ∃ a xs, v = .ref a ∧ (SqL C.K H a xs ∨ SqT C.K H a xs) ∧ RpL C.K G xs ds := by
  unfold seqOf at h
  split at h
  · cases h
    obtain ⟨a, xs, e, h1, h2⟩ := S.imT r
    exact ⟨a, xs, e, .inr (SqT.of h1), h2⟩
  · split at h
    · rename_i es e
      cases h
      obtain ⟨a, xs, e, h1, h2⟩ := S.snapL r e
      exact ⟨a, xs, e, .inl (SqL.of h1), h2⟩
    · cases h
def oIn (neg : Bool) : R2L := fun x y M K => match x with
  | .im d => match seqOf M y with
    | some ds => d.flt = true ∧ ds.all D.flt = true ∧ K (.im (.bl (if neg then !inD d ds else inD d ds))) M
    | none => False
  | _ => False
theorem inL {C : Fc} {neg : Bool} : OpL C (rIn C.K neg) (oIn neg) := fun {As G H Γ M σ x y lx ly K Q} S rx ry t q => by
  unfold oIn at t
  split at t
  · split at t
    · rename_i d ds e
      obtain ⟨a, xs, rfl, h1, h2⟩ := S.seq ry e
      obtain ⟨e1, f1⟩ := Rp.flt rx t.1
      obtain ⟨e2, f2⟩ := h2.flt t.2.1
      refine ⟨a, xs, rfl, h1, f1, f2, ?_⟩
      rw [e1, e2]
      exact q (.im (.bl _)) M _ As G H (Gr.refl S) (Rp.bl _) t.2.2
    · exact t.elim
  · exact t.elim
/-- one sign within a text -/
def oInS (neg : Bool) : R2L := fun x y M K => match x, y with
  | .im (.str a), .im (.str b) => K (.im (.bl (if neg then !(!(Builtin.Str.occurrences b a 0 b.length 1).isEmpty) else !(Builtin.Str.occurrences b a 0 b.length 1).isEmpty))) M
  | _, _ => False
theorem inSL {C : Fc} : OpL C (fun x y H Q => ∃ i j, x = .str i ∧ y = .str j ∧ Q (.bl (!(Builtin.Str.occurrences j i 0 j.length 1).isEmpty)) H) (oInS false) := fun {As G H Γ M σ x y lx ly K Q} S rx ry t q => by
  unfold oInS at t
  split at t
  · exact ⟨_, _, str_of rx, str_of ry, q (.im (.bl _)) M _ As G H (Gr.refl S) (Rp.bl _) t⟩
  · exact t.elim

/-! ### subscripts, slices -/
def oIx : R2L := fun x y M K => match x, y with
  | .im (.str a), .im (.int i) => ∃ c, a.length ≤ sizeLine ∧ atI a.cps.toList i = some c ∧ K (.im (.str ⟨#[c]⟩)) M
  | .im (.tup ds), .im (.int i) => ∃ d, atI ds i = some d ∧ K (.im d) M
  | .im (.lst ds), .im (.int i) => ∃ d, atI ds i = some d ∧ K (.im d) M
  | .im (.scr ns), .im (.int i) => ∃ d, atI ns i = some d ∧ K (.im (.int d)) M
  | .ow k, .im (.int i) => match M[k]? with
    | some (.li ds) => ∃ d, atI ds i = some d ∧ K (.im d) M
    | some (.ls ls) => ∃ l, atI ls i = some l ∧ K l M
    | _ => False
  | .tp ls, .im (.int i) => ∃ l, atI ls i = some l ∧ K l M
  | _, _ => False
theorem RpL.atI {K : PySem.W.Frag} {G : Hp} {vs : List V} {ds : List D} {i : Int} {d : D} (r : RpL K G vs ds) (h : atI ds i = some d) : ∃ v, L2.atI vs i = some v ∧ Rp K G v d := by
  unfold L2.atI at h ⊢
  rw [← r.length] at h
  cases e : ixN vs.length i with
  | none => rw [e] at h; cases h
  | some j =>
    rw [e] at h
    exact r.get h
theorem LRpL.atI {K : PySem.W.Frag} {As : List Addr} {G : Hp} {vs : List V} {ds : List Lo} {i : Int} {d : Lo} (r : LRpL K As G vs ds) (h : atI ds i = some d) : ∃ v, L2.atI vs i = some v ∧ LRp K As G v d := by
  unfold L2.atI at h ⊢
  rw [← r.length] at h
  cases e : ixN vs.length i with
  | none => rw [e] at h; cases h
  | some j =>
    rw [e] at h
    exact r.get h
theorem atI_map {α β : Type} {f : α → β} {xs : List α} {i : Int} : L2.atI (xs.map f) i = (L2.atI xs i).map f := by
  unfold L2.atI
  rw [List.length_map]
  cases e : ixN xs.length i with
  | none => rfl
  | some j =>
    show (xs.map f)[j]? = (xs[j]?).map f
    rw [List.getElem?_map]
theorem ixL {C : Fc} : OpL C (rIx C.K) oIx := fun {As G H Γ M σ x y lx ly K Q} S rx ry t q => by
  unfold oIx at t
  split at t
  · obtain ⟨c, h1, h2, h3⟩ := t
    exact .inr (.inr ⟨_, _, c, str_of rx, int_of ry, h1, h2, q (.im (.str _)) M _ As G H (Gr.refl S) (Rp.str _) h3⟩)
  · obtain ⟨d, h1, h2⟩ := t
    obtain ⟨a, xs, rfl, h3, r⟩ := S.imT rx
    obtain ⟨v, h4, h5⟩ := r.atI h1
    exact .inr (.inl ⟨a, xs, _, v, rfl, int_of ry, SqT.of h3, h4, q (.im d) M _ As G H (Gr.refl S) h5 h2⟩)
  · obtain ⟨d, h1, h2⟩ := t
    obtain ⟨a, xs, rfl, h3, r⟩ := S.snapL rx rfl
    obtain ⟨v, h4, h5⟩ := r.atI h1
    exact .inl ⟨a, xs, _, v, rfl, int_of ry, SqL.of h3, h4, q (.im d) M _ As G H (Gr.refl S) h5 h2⟩
  · obtain ⟨d, h1, h2⟩ := t
    cases rx with
    | scr h =>
      obtain ⟨v, h4, h5⟩ := (RpL.of_ints (K := C.K) (G := G) _).atI (d := .int d) (by rw [atI_map, h1]; rfl)
      exact .inl ⟨_, _, _, v, rfl, int_of ry, same_l S.le h, h4, q (.im (.int d)) M _ As G H (Gr.refl S) h5 h2⟩
  · rename_i k i
    obtain ⟨a, ha, rfl⟩ := rx
    split at t
    · rename_i ds e
      obtain ⟨d, h1, h2⟩ := t
      obtain ⟨_, o, h0, xs, rfl, r⟩ := S.own _ _ _ ha e (by intro z; cases z)
      obtain ⟨v, h4, h5⟩ := r.atI h1
      exact .inl ⟨a, xs, _, v, rfl, int_of ry, SqL.of h0, h4, q (.im d) M _ As G H (Gr.refl S) h5 h2⟩
    · rename_i ds e
      obtain ⟨d, h1, h2⟩ := t
      obtain ⟨_, o, h0, xs, rfl, r⟩ := S.own _ _ _ ha e (by intro z; cases z)
      obtain ⟨v, h4, h5⟩ := r.atI h1
      exact .inl ⟨a, xs, _, v, rfl, int_of ry, SqL.of h0, h4, q d M _ As G H (Gr.refl S) h5 h2⟩
    · exact t.elim
  · obtain ⟨d, h1, h2⟩ := t
    obtain ⟨a, xs, rfl, h3, r⟩ := rx
    obtain ⟨v, h4, h5⟩ := r.l.atI h1
    exact .inr (.inl ⟨a, xs, _, v, rfl, int_of ry, SqT.of (S.le _ _ h3), h4, q d M _ As G H (Gr.refl S) h5 h2⟩)
  · exact t.elim
section
variable {C : Fc} {X : Cx} {a b c e : Expr} {ta tb te : RE} {pos p2 : Pos}
theorem q_ix (hK : C.K = X.K) (ha : QE C X a ta) (hb : QE C X b tb) (hs : PlainIx b := by exact fun _ _ => rfl) : QE C X (.Subscript a b pos) (qOp oIx ta tb) := PE.imp (pe_ix ix_seq ha hb hs) (hK ▸ up_op ixL)

abbrev RO := Gam → Led → (Option Int → Led → Prop) → Prop
def UO (C : Fc) (t : RO) : TO := fun σ H Q => ∃ (As : List Addr) (G : Hp) (Γ : Gam) (M : Led) (K : Option Int → Led → Prop), Sat C As G H Γ M σ ∧ t Γ M K ∧
  ∀ (b : Option Int) (M' : Led) (As' : List Addr) (G' H' : Hp), Gr C As G As' G' H' Γ M' σ → K b M' → Q b H'
def QO (C : Fc) (X : Cx) (e : Option Expr) (t : RO) : Prop := PO X e (UO C t)
theorem PO.imp {X : Cx} {e : Option Expr} {t u : TO} (h : PO X e t) (i : ∀ σ H Q, u σ H Q → t σ H Q) : PO X e u := ⟨fun pins s σ H Q I q => h.run pins s σ H Q I (i σ H Q q)⟩
def rONone : RO := fun _ M K => K none M
def rOSome (te : RE) : RO := fun Γ M K => te Γ M fun l M1 => match l with
  | .im (.int i) => K (some i) M1
  | _ => False
theorem q_onone : QO C X none rONone := PO.imp po_none fun σ H Q ⟨As, G, Γ, M, K, S, t, q⟩ => q _ M As G H (Gr.refl S) t
theorem q_osome (he : QE C X e te) : QO C X (some e) (rOSome te) := PO.imp (po_some he) fun σ H Q ⟨As, G, Γ, M, K, S, t, q⟩ => ⟨As, G, Γ, M, _, S, t, fun l M1 v As1 G1 H1 g1 rv t1 => by
  split at t1
  · exact ⟨_, int_of rv, q _ M1 As1 G1 H1 g1 t1⟩
  · exact t1.elim⟩
def cutD (ds : List D) (lo hi : Option Int) : List D := (ds.drop (HT.sIx ds.length 0 lo)).take (HT.sIx ds.length ds.length hi - HT.sIx ds.length 0 lo)
theorem RpL.cut {K : PySem.W.Frag} {G : Hp} {vs : List V} {ds : List D} (r : RpL K G vs ds) (lo hi : Option Int) : RpL K G (cutV vs lo hi) (cutD ds lo hi) := by
  unfold cutV cutD
  rw [r.length]
  exact (r.drop _).take _
def rSl (out : Hand) (te : RE) (tl th : RO) : RE := fun Γ M K => te Γ M fun x M1 => tl Γ M1 fun lo M2 => th Γ M2 fun hi M3 => match x with
  | .im (.tup ds) => K (.im (.tup (cutD ds lo hi))) M3
  | .im (.scr ns) => out (cutD (ns.map D.int) lo hi) M3 K
  | x => match snap M3 x with
    | some (.lst ds) => out (cutD ds lo hi) M3 K
    | _ => False
def rSlU (K : PySem.W.Frag) : V → Option Int → Option Int → Hp → VK → Prop := fun x lo hi H Q => rSlL K x lo hi H Q ∨ rSlA K x lo hi H Q
theorem cutD_all {ds : List D} {lo hi : Option Int} (h : HT.sIx ds.length 0 lo = 0 ∧ HT.sIx ds.length ds.length hi = ds.length) : cutD ds lo hi = ds := by
  unfold cutD
  rw [h.1, h.2]
  simp
theorem q_slice {out : Hand} (hout : OutN out) (hK : C.K = X.K) {lo hi : Option Expr} {tl th : RO} (he : QE C X e te) (hl : QO C X lo tl) (hu : QO C X hi th) : QE C X (.Subscript e (.Slice lo hi none p2) pos) (rSl out te tl th) :=
  PE.imp (pe_slice (sl_list.or sl_tupA) he hl hu) fun σ H Q ⟨As, G, Γ, M, K, S, t, q⟩ => ⟨As, G, Γ, M, _, S, t, fun lx M1 x As1 G1 H1 g1 rx t1 => ⟨As1, G1, Γ, M1, _, g1.sat, t1, fun lo M2 As2 G2 H2 g2 t2 => ⟨As2, G2, Γ, M2, _, g2.sat, t2, fun hi M3 As3 G3 H3 g3 t3 => by
    have g := g1.trans (g2.trans g3)
    have rx := rx.mono (g2.g.trans g3.g) (g2.p.trans g3.p)
    rw [← hK]
    split at t3
    · rename_i ds
      obtain ⟨a, xs, rfl, h1, r⟩ := g3.sat.imT rx
      refine .inr ⟨a, xs, rfl, SqT.of h1, fun z => ?_, fun z p hp => ?_⟩
      · rw [r.length] at z
        rw [cutD_all z] at t3
        exact q (.im (.tup _)) M3 _ As3 G3 H3 g rx t3
      · exact q (.im (.tup _)) M3 _ As3 _ _ (g.trans (Gr.frz g3.sat hp)) (rp_new_t g3.sat hp (r.cut lo hi)) t3
    · cases rx with
      | scr h =>
        refine .inl ⟨_, _, rfl, same_l g3.sat.le h, fun p hp => hout g3.sat hp ((RpL.of_ints _).cut lo hi) t3 fun l M2 v As2 G2 H2 g4 rv k => q l M2 v As2 G2 H2 (g.trans g4) rv k⟩
    · split at t3
      · rename_i ds e
        obtain ⟨a, xs, rfl, h1, r⟩ := g3.sat.snapL rx e
        exact .inl ⟨a, xs, rfl, SqL.of h1, fun p hp => hout g3.sat hp (r.cut lo hi) t3 fun l M2 v As2 G2 H2 g4 rv k => q l M2 v As2 G2 H2 (g.trans g4) rv k⟩
      · exact t3.elim⟩⟩⟩
end
end Dl

set_option Elab.async false
set_option maxRecDepth 100000
set_option maxHeartbeats 1000000
namespace Dl
open PySem L2

/-! ### exceptions -/
structure Exn where
  C : String
  pl : Option (List (Str × D))
def ExRp (K : PySem.W.Frag) (G : Hp) (cls : Value) (d : Option Addr) (x : Exn) : Prop := cls = .ref (cn K x.C) ∧ match x.pl with
  | none => d = none
  | some fs => ∃ a fvs, d = some a ∧ G a = some (.xd fvs) ∧ fvs.map (·.1) = fs.map (·.1) ∧ RpL K G (fvs.map (·.2)) (fs.map (·.2))
theorem ExRp.mono {K : PySem.W.Frag} {G G' : Hp} {cls : Value} {d : Option Addr} {x : Exn} (e : Same G G') (h : ExRp K G cls d x) : ExRp K G' cls d x := by
  obtain ⟨C, pl⟩ := x
  cases pl with
  | none => exact h
  | some fs =>
    obtain ⟨h1, a, fvs, h2, h3, h4, h5⟩ := h
    exact ⟨h1, a, fvs, h2, e _ _ h3, h4, RpL.mono e h5⟩
abbrev EX := Exn → Gam → Led → Prop
/-- the wish about exceptions -/
def UW (C : Fc) (ex : EX) : WX := fun cls d σ H => ∃ (As : List Addr) (G : Hp) (Γ : Gam) (M : Led) (x : Exn), Sat C As G H Γ M σ ∧ ExRp C.K G cls d x ∧ ex x Γ M

/-! ### a part of the ledger -/
def loc (is : List Nat) (k : Nat) : Nat := is.idxOf k
def ren (is : List Nat) (n : Nat) (j : Nat) : Nat := is.getD j (n + (j - is.length))
def renM (f : Nat → Nat) : MO → MO
  | .li ds => .li ds
  | .ls ls => .ls (ls.map (renL f))
  | .dc ks => .dc ks
  | .dm ks => .dm (ks.map fun p => (p.1, renL f p.2))
  | .ob C fs => .ob C (fs.map fun p => (p.1, renL f p.2))
  | .gone => .gone
  | .dl o kvs ks => .dl o kvs ks
def refM (P : Nat → Prop) : MO → Prop
  | .li _ => True
  | .ls ls => refLs P ls
  | .dc _ => True
  | .dm ks => refLs P (ks.map (·.2))
  | .ob _ fs => refLs P (fs.map (·.2))
  | .gone => True
  | .dl _ _ _ => True
def refMs (P : Nat → Prop) : Led → Prop
  | [] => True
  | m :: r => refM P m ∧ refMs P r
def pick (is : List Nat) (M : Led) : Led := is.map fun k => renM (loc is) (M.getD k .gone)
/-- the part may be taken out: its places differ, lie in the ledger, and nothing in it points elsewhere -/
def PickOk (is : List Nat) (M : Led) : Prop := is.Nodup ∧ (∀ k ∈ is, k < M.length) ∧ refMs (· ∈ is) (is.map fun k => M.getD k .gone)
section
variable {K : PySem.W.Frag} {As Au : List Addr} {G : Hp} {P : Nat → Prop} {f : Nat → Nat}
theorem LRpL.ren {vs : List V} {ls : List Lo} (hf : ∀ k a, P k → As[k]? = some a → Au[f k]? = some a) (r : LRpL K As G vs ls) : refLs P ls → LRpL K Au G vs (ls.map (renL f)) := by
  induction r with
  | nil => intro _; exact .nil
  | cons r _ ih => intro h; exact .cons (r.ren hf h.1) (ih h.2)
theorem map_snd {α : Type} (f : Nat → Nat) (ks : List (α × Lo)) : (ks.map fun p => (p.1, renL f p.2)).map (·.2) = (ks.map (·.2)).map (renL f) := by
  rw [List.map_map, List.map_map]
  rfl
theorem map_fst {α : Type} (f : Nat → Nat) (ks : List (α × Lo)) : (ks.map fun p => (p.1, renL f p.2)).map (·.1) = ks.map (·.1) := by
  rw [List.map_map]
  rfl
theorem MOis.ren {o : HO} {m : MO} (hf : ∀ k a, P k → As[k]? = some a → Au[f k]? = some a) (r : MOis K As G o m) (h : refM P m) : MOis K Au G o (renM f m) := by
  cases m with
  | li ds => exact r
  | ls ls => obtain ⟨xs, h1, h2⟩ := r; exact ⟨xs, h1, h2.ren hf h⟩
  | dc ks => exact r
  | dm ks => obtain ⟨xs, h1, h2, h3⟩ := r; exact ⟨xs, h1, by rw [map_fst]; exact h2, by rw [map_snd]; exact h3.ren hf h⟩
  | ob C fs => obtain ⟨dx, xs, h1, h2, h3⟩ := r; exact ⟨dx, xs, h1, by rw [map_fst]; exact h2, by rw [map_snd]; exact h3.ren hf h⟩
  | gone => trivial
  | dl _ _ _ => exact r
theorem refMs_get {M : Led} {k : Nat} {m : MO} (h : refMs P M) (e : M[k]? = some m) : refM P m := by
  induction M generalizing k with
  | nil => simp at e
  | cons x r ih =>
    cases k with
    | zero =>
      simp at e
      subst e
      exact h.1
    | succ k => exact ih h.2 (by simpa using e)
theorem renM_gone {f : Nat → Nat} {m : MO} (h : renM f m ≠ .gone) : m ≠ .gone := fun z => h (by rw [z]; rfl)
theorem idx_get {is : List Nat} {k : Nat} (h : k ∈ is) : is[loc is k]? = some k := by
  unfold loc
  induction is with
  | nil => simp at h
  | cons x r ih =>
    rw [List.idxOf_cons]
    by_cases e : x = k
    · subst e; simp
    · have hb : (x == k) = false := beq_eq_false_iff_ne.mpr e
      rw [hb]
      rcases List.mem_cons.mp h with z | z
      · exact absurd z.symm e
      · simpa using ih z
end

/-- the picked part as a state of its own, with another origin -/
theorem Sat.pick {C C' : Fc} {As : List Addr} {G H : Hp} {Γ : Gam} {M : Led} {σ : L2.St} {is : List Nat} (S : Sat C As G H Γ M σ) (ok : PickOk is M) (hK : C'.K = C.K) (hTb : C'.T = C.T) (hst : Stp C'.T C'.S C'.G0 C'.H0 G H)
    (hfr : ∀ a ∈ is.map (fun k => As.getD k 0), a ∈ C'.S ∨ C'.H0 a = none) (hS : C'.S <+: is.map (fun k => As.getD k 0)) (hb : Same C'.Gb G) (ha : C'.Ab <+: is.map (fun k => As.getD k 0)) :
    Sat C' (is.map fun k => As.getD k 0) G H [] (Dl.pick is M) [] ∧ ∀ k a, k ∈ is → As[k]? = some a → (is.map fun k => As.getD k 0)[loc is k]? = some a := by
  obtain ⟨nd, lt, rf⟩ := ok
  have back : ∀ k a, k ∈ is → As[k]? = some a → (is.map fun k => As.getD k 0)[loc is k]? = some a := fun k a hk e => by
    rw [List.getElem?_map, idx_get hk]
    show some (As.getD k 0) = some a
    rw [List.getD_eq_getElem?_getD, e]
    rfl
  have memA : ∀ k, k ∈ is → ∃ a, As[k]? = some a ∧ As.getD k 0 = a := fun k hk => by
    have hl : k < As.length := by rw [S.al]; exact lt k hk
    exact ⟨As[k], by simp [hl], by simp [hl]⟩
  refine ⟨⟨S.le, hst, fun j a m e1 e2 e3 => ?_, hfr, ?_, by simp [Dl.pick], hS, fun a ha => ?_, fun i l e => by simp at e, rfl, hb, ha, fun P q e => ⟨fun z => ?_, (S.tb P q (hTb ▸ e)).2⟩⟩, back⟩
  · rw [List.getElem?_map] at e1
    unfold Dl.pick at e2
    rw [List.getElem?_map] at e2
    cases ej : is[j]? with
    | none => rw [ej] at e1; cases e1
    | some k =>
      rw [ej] at e1 e2
      have hk : k ∈ is := List.mem_of_getElem? ej
      obtain ⟨a', h1, h2⟩ := memA k hk
      have ea : a' = a := by
        have := Option.some.inj e1
        rw [← h2]
        exact this
      subst ea
      have em : renM (loc is) (M.getD k .gone) = m := Option.some.inj e2
      have hkM : M[k]? = some (M.getD k .gone) := by
        have hl := lt k hk
        simp [hl]
      rw [← em] at e3
      obtain ⟨g1, o, g2, g3⟩ := S.own k a' _ h1 hkM (renM_gone e3)
      have rm : refM (· ∈ is) (M.getD k .gone) := refMs_get (k := j) rf (by rw [List.getElem?_map, ej]; rfl)
      refine ⟨g1, o, g2, ?_⟩
      rw [← em, hK]
      exact g3.ren back rm
  · -- no address twice
    have go : ∀ l : List Nat, l.Nodup → (∀ k ∈ l, k < M.length) → (l.map fun k => As.getD k 0).Nodup := fun l => by
      induction l with
      | nil => intro _ _; exact List.nodup_nil
      | cons x r ih =>
        intro h1 h2
        obtain ⟨n1, n2⟩ := List.nodup_cons.mp h1
        rw [List.map_cons, List.nodup_cons]
        refine ⟨fun hm => ?_, ih n2 fun k hk => h2 k (List.mem_cons_of_mem _ hk)⟩
        obtain ⟨y, hy, e⟩ := List.mem_map.mp hm
        have lx : x < As.length := by rw [S.al]; exact h2 x List.mem_cons_self
        have ly : y < As.length := by rw [S.al]; exact h2 y (List.mem_cons_of_mem _ hy)
        have ex : As[x]? = some (As.getD x 0) := by simp [lx]
        have ey : As[y]? = some (As.getD x 0) := by rw [← e]; simp [ly]
        exact n1 (nodup_ix2 S.inj ex ey ▸ hy)
    exact go is nd lt
  · obtain ⟨k, hk, rfl⟩ := List.mem_map.mp ha
    obtain ⟨a', h1, h2⟩ := memA k hk
    rw [h2]
    exact S.there a' (List.mem_of_getElem? h1)
  · obtain ⟨k, hk, e2⟩ := List.mem_map.mp z
    obtain ⟨a', h1, h2⟩ := memA k hk
    exact (S.tb P q (hTb ▸ e)).1 (by rw [← e2, h2]; exact List.mem_of_getElem? h1)

/-! ### what a def promises, in data -/
abbrev DSp := List Lo → Led → (Lo → Led → Prop) → (Exn → Led → Prop) → Prop
abbrev Fc.of (T : Tbs) (K : PySem.W.Frag) (As : List Addr) (G H : Hp) : Fc := ⟨K, As, G, H, As, G, T⟩
structure Gn (T : Tbs) (P : Program) (w : World) (K : PySem.W.Frag) (mg : Str → Option Value) (base : Heap) (k : Nat) (f : Addr) (fd : FuncData) (ps : List Str) (sp : DSp) : Prop where
  len : ∀ ls M Kd Ed, sp ls M Kd Ed → ls.length = ps.length
  run : ∀ (A : Around) (outer : List Env) (s : Shared) (H : Hp) (args : Args) (us : List Value) (vs : List V) (Q : VK) (E : XK) (As : List Addr) (G : Hp) (ls : List Lo) (M : Led) (Kd : Lo → Led → Prop) (Ed : Exn → Led → Prop),
    Room k A → A.guards = some [] → Env0 P w K mg base A outer s H → BindsTo s fd args (ps.zip us) → Vals vs us → Sat (.of T K As G H) As G H [] M [] → LRpL K As G vs ls → sp ls M Kd Ed →
    (∀ (l : Lo) (M' : Led) (v : V) (As' : List Addr) (G' H' : Hp), Sat (.of T K As G H) As' G' H' [] M' [] → LRp K As' G' v l → Kd l M' → Q v H') →
    (∀ (x : Exn) (M' : Led) (cls : Value) (d : Option Addr) (As' : List Addr) (G' H' : Hp), Sat (.of T K As G H) As' G' H' [] M' [] → ExRp K G' cls d x → Ed x M' → E cls d H') →
    codeAny (model P w) A (.call (.ref f) args) (CR (L2.CX P w) outer P w H s Q E) s
theorem Gn.mono {T : Tbs} {P : Program} {w : World} {K : PySem.W.Frag} {mg : Str → Option Value} {base : Heap} {j k : Nat} {f : Addr} {fd : FuncData} {ps : List Str} {sp : DSp} (F : Gn T P w K mg base j f fd ps sp) (h : j ≤ k) : Gn T P w K mg base k f fd ps sp :=
  ⟨F.len, fun A outer s H args us vs Q E As G ls M Kd Ed hr => F.run A outer s H args us vs Q E As G ls M Kd Ed (hr.mono h)⟩

/-- what is handed back, and what is kept of the ledger -/
def Back (m : Nat) (Kd : Lo → Led → Prop) (l : Lo) (M : Led) : Prop := ∃ keep : List Nat, keep.take m = List.range m ∧ PickOk keep M ∧ refL (· ∈ keep) l ∧ Kd (renL (loc keep) l) (pick keep M)
def BackX (m : Nat) (Ed : Exn → Led → Prop) (x : Exn) (M : Led) : Prop := ∃ keep : List Nat, keep.take m = List.range m ∧ PickOk keep M ∧ Ed x (pick keep M)
theorem keep_pre {m : Nat} {keep : List Nat} {As As' : List Addr} (hm : As.length = m) (hp : As <+: As') (hk : keep.take m = List.range m) : As <+: keep.map fun k => As'.getD k 0 := by
  refine ⟨(keep.drop m).map fun k => As'.getD k 0, ?_⟩
  conv => rhs; rw [← List.take_append_drop m keep, List.map_append, hk]
  congr 1
  refine List.ext_getElem? fun i => ?_
  rw [List.getElem?_map]
  by_cases hi : i < m
  · have e : As[i]? = some As[i] := by simp [hm, hi]
    rw [List.getElem?_range hi, e]
    show _ = some (As'.getD i 0)
    rw [List.getD_eq_getElem?_getD, pre_get hp e]
    rfl
  · rw [List.getElem?_eq_none (by omega), List.getElem?_eq_none (by rw [List.length_range]; omega)]
    rfl
section
variable {T : Tbs} {P : Program} {w : World} {K : PySem.W.Frag} {mg : Str → Option Value} {base : Heap}
def gam0 (N : List Str) (ls : List Lo) : Gam := ls.map some ++ List.replicate (N.length - ls.length) none
theorem gam0_ok {K : PySem.W.Frag} {As : List Addr} {G : Hp} {vs : List V} {ls : List Lo} {N : List Str} (r : LRpL K As G vs ls) (i : Nat) (l : Lo) (e : (gam0 N ls)[i]? = some (some l)) : ∃ v, (L2.start N vs)[i]? = some (some v) ∧ LRp K As G v l := by
  unfold gam0 at e
  by_cases hi : i < ls.length
  · rw [List.getElem?_append_left (by simpa using hi), List.getElem?_map] at e
    cases e1 : ls[i]? with
    | none => rw [e1] at e; cases e
    | some l' =>
      rw [e1] at e
      cases e
      obtain ⟨v, h1, h2⟩ := r.get e1
      refine ⟨v, ?_, h2⟩
      unfold L2.start
      rw [List.getElem?_append_left (by rw [List.length_map, r.length]; exact hi), List.getElem?_map, h1]
      rfl
  · rw [List.getElem?_append_right (by simpa using hi), List.getElem?_replicate] at e
    split at e <;> cases e
theorem keepOk {C : Fc} {As As' : List Addr} {G H G' H' : Hp} {Γ : Gam} {M : Led} {σ : L2.St} {m : Nat} {keep : List Nat} (S : Sat (.of T K As G H) As' G' H' Γ M σ) (hm : As.length = m) (hk : keep.take m = List.range m) (ok : PickOk keep M) :
    Sat (.of T K As G H) (keep.map fun k => As'.getD k 0) G' H' [] (pick keep M) [] ∧ ∀ k a, k ∈ keep → As'[k]? = some a → (keep.map fun k => As'.getD k 0)[loc keep k]? = some a := by
  refine S.pick (C' := .of T K As G H) ok rfl rfl S.stp (fun a ha => ?_) (keep_pre hm S.asS hk) S.bg (keep_pre hm S.asS hk)
  obtain ⟨k, hk', rfl⟩ := List.mem_map.mp ha
  have hl : k < As'.length := by rw [S.al]; exact ok.2.1 k hk'
  refine S.fr _ ?_
  simp [hl]
/-- THE RULE for a def -/
theorem gn_of {x qual : Str} {st : Stmt} {f : Addr} {fd : FuncData} {N ps : List Str} {k : Nat} {sp : DSp} (F : Fun K x qual st f fd) (Sc : FnScope N ps (defScope st)) (len : ∀ ls M Kd Ed, sp ls M Kd Ed → ls.length = ps.length)
    (hbody : ∀ (Ss : List Addr) (G0 H0 : Hp) (Ab : List Addr) (Gb : Hp) (X : Cx) (ls : List Lo) (M : Led) (Kd : Lo → Led → Prop) (Ed : Exn → Led → Prop) (cdv : Value) (A : Around) (outer : List Env) (s : Shared) (H : Hp) (E : XK),
      X = cxOf (L2.CX P w) P w K mg base N qual (defScope st) f cdv A outer s H E → fd.code = cdv → Room k X.A → X.A.guards = some [] → Takes X (UW ⟨K, Ss, G0, H0, Ab, Gb, T⟩ fun x _ M' => BackX M.length Ed x M') → PassesOwn (model X.prog X.w) X.A X.env X.xe → (Ss.length ≤ M.length ∧ Ab.length ≤ M.length) → sp ls M Kd Ed →
      ∃ t, QSs ⟨K, Ss, G0, H0, Ab, Gb, T⟩ X (defBody st) t ∧ t { nx := fun _ M' => Back M.length Kd (.im .non) M', rt := Back M.length Kd } (gam0 N ls) M) : Gn T P w K mg base (k + 1) f fd ps sp := by
  obtain ⟨oc, od, kV, doc, pm, an, cdv, ct, osl, rfl, lk, hcd⟩ := F.ex
  refine ⟨len, fun A outer s H args us vs Q E As G ls M Kd Ed hr hg e0 hb rv S rl hsp hQ hE => ?_⟩
  have hl : vs.length = ps.length := by rw [rl.length]; exact len _ _ _ _ hsp
  have KX : K.In s.heap := e0.mod.kin.keeps fun b o e => (e0.bs b o e).1
  have lim : s.heap.NoLimit := e0.mod.nolimit.keeps fun b o e => (e0.bs b o e).1
  have kinds : ∀ y ∈ ps.zip us, (defScope st).names.lookup y.1 = some .local ∨ ((defScope st).names.lookup y.1 = some .cell ∧ ((cellsFrom (s.heap.objs.size + 1) (defScope st).names []).lookup y.1).isSome = true) := fun ⟨n, v⟩ hy =>
    (Sc.par n (List.of_mem_zip hy).1).imp id fun q => ⟨q, PySem.W.cellsFrom_some _ _ _ (.inl q)⟩
  refine codeAny_call_function hr.depth (KX _ _ lk) rfl Sc.co Sc.gen rfl (PySem.W.codeRec_of KX hcd) (hb _ _ _ _ ?_)
  refine wpAny_newFunctionEnv_cells Sc.kind kinds fun env he s1 y => ?_
  subst he
  refine ⟨lim.keeps y.toInCall.keep, codeAny_func ?_⟩
  have hN : (L2.start N vs).length = N.length := by
    have hpl : ps.length ≤ N.length := by
      have := congrArg List.length Sc.pre
      rw [List.length_take] at this
      omega
    unfold L2.start
    rw [List.length_append, List.length_map, List.length_replicate]
    omega
  have I : Inv (cxOf (L2.CX P w) P w K mg base N qual (defScope st) f cdv A outer s H E) [] (L2.start N vs) H s1 := inv_start Sc hr.hd e0 hl rv y
  have hAl : As.length = M.length := S.al
  have tk : Takes (cxOf (L2.CX P w) P w K mg base N qual (defScope st) f cdv A outer s H E) (UW (.of T K As G H) fun x _ M' => BackX M.length Ed x M') :=
    (takes_of rfl rfl rfl rfl).imp fun cls d σ' H' ⟨As', G', Γ', M', x, S', rx, keep, k1, k2, k3⟩ => by
      obtain ⟨Z, _⟩ := keepOk (C := .of T K As G H) S' hAl k1 k2
      exact hE x _ cls d _ G' H' Z rx k3
  obtain ⟨t, ht, hq⟩ := hbody As G H As G _ ls M Kd Ed cdv A outer s H E rfl rfl (hr.deeper _) hg tk (passes_of rfl) ⟨Nat.le_of_eq hAl, Nat.le_of_eq hAl⟩ hsp
  have S0 : Sat (.of T K As G H) As G H (gam0 N ls) M (L2.start N vs) := ⟨S.le, S.stp, S.own, S.fr, S.inj, S.al, S.asS, S.there, gam0_ok rl, by
    rw [hN]
    unfold gam0
    rw [List.length_append, List.length_map, List.length_replicate, ← rl.length]
    have := congrArg List.length Sc.pre
    rw [List.length_take] at this
    omega, S.bg, S.ba, S.tb⟩
  have fin : ∀ (l : Lo) (v : V) (Γ' : Gam) (M' : Led) (σ' : L2.St) (As' : List Addr) (G' H' : Hp), Gw (.of T K As G H) G As' G' H' Γ' M' σ' → LRp K As' G' v l → Back M.length Kd l M' → Q v H' := fun l v Γ' M' σ' As' G' H' g rv ⟨keep, k1, k2, k3, k4⟩ => by
    obtain ⟨Z, bk⟩ := keepOk (C := .of T K As G H) g.sat hAl k1 k2
    exact hQ _ _ v _ G' H' Z (rv.ren bk k3) k4
  refine wpAny_mono (ht.run [] s1 (L2.start N vs) H { nx := fun _ H' => Q .non H', rt := Q } I ⟨As, G, _, M, _, S0, hq, fun Γ' M' σ' As' G' H' g k => fin (.im .non) .non Γ' M' σ' As' G' H' g Rp.non k,
    fun l v Γ' M' σ' As' G' H' g rv k => fin l v Γ' M' σ' As' G' H' g rv k, fun _ _ _ _ _ _ _ k => k, fun _ _ _ _ _ _ _ k => k⟩) (fun fl s' hs => ?_) fun e s' hs => hs
  have ce : ∀ {σ' : L2.St} {H' : Hp} {v : V} {u : Value}, Inv (cxOf (L2.CX P w) P w K mg base N qual (defScope st) f cdv A outer s H E) [] σ' H' s' → RelV v u → Q v H' → CE outer P w H s Q u s' :=
    fun {σ' H' v u} J rv q => ⟨v, H', J.os, J.bare, J.base, J.hok, rv, q⟩
  cases fl with
  | next => obtain ⟨σ', H', J, q⟩ := hs; exact ce (v := V.non) (u := Value.none) J rfl q
  | ret u => obtain ⟨v, σ', H', J, rv, q⟩ := hs; exact ce J rv q
  | brk => obtain ⟨_, _, _, z⟩ := hs; exact z.elim
  | cont => obtain ⟨_, _, _, z⟩ := hs; exact z.elim
end
end Dl

set_option Elab.async false
set_option maxRecDepth 100000
set_option maxHeartbeats 1000000
namespace Dl
open PySem L2

def putI (f : Nat → Nat) : List Nat → Led → Led → Led
  | k :: r, m :: Mu, M => putI f r Mu (M.set k (renM f m))
  | _, _, M => M
def put (is : List Nat) (Mu M : Led) : Led := putI (ren is M.length) is Mu M ++ (Mu.drop is.length).map (renM (ren is M.length))
theorem putI_len {f : Nat → Nat} : ∀ {is : List Nat} {Mu M : Led}, (putI f is Mu M).length = M.length
  | [], _, _ => by unfold putI; rfl
  | _ :: _, [], _ => by unfold putI; rfl
  | k :: r, m :: Mu, M => by
    unfold putI
    rw [putI_len, List.length_set]
theorem putI_out {f : Nat → Nat} {i : Nat} : ∀ {is : List Nat} {Mu M : Led}, i ∉ is → (putI f is Mu M)[i]? = M[i]?
  | [], _, _, _ => by unfold putI; rfl
  | _ :: _, [], _, _ => by unfold putI; rfl
  | k :: r, m :: Mu, M, h => by
    rw [List.mem_cons, not_or] at h
    unfold putI
    rw [putI_out h.2, List.getElem?_set_ne (Ne.symm h.1)]
theorem putI_in {f : Nat → Nat} {i j : Nat} {m : MO} : ∀ {is : List Nat} {Mu M : Led}, is.Nodup → is[j]? = some i → Mu[j]? = some m → i < M.length → (putI f is Mu M)[i]? = some (renM f m)
  | [], _, _, _, h, _, _ => by simp at h
  | _ :: _, [], _, _, _, h, _ => by simp at h
  | k :: r, x :: Mu, M, nd, h1, h2, hi => by
    obtain ⟨n1, n2⟩ := List.nodup_cons.mp nd
    unfold putI
    cases j with
    | zero =>
      simp at h1 h2
      subst h1
      subst h2
      rw [putI_out n1, List.getElem?_set_self hi]
    | succ j => exact putI_in n2 (by simpa using h1) (by simpa using h2) (by rw [List.length_set]; exact hi)

section
variable {C : Fc} {As : List Addr} {G H : Hp} {Γ : Gam} {M : Led} {σ : L2.St} {is : List Nat}
theorem lend (S : Sat C As G H Γ M σ) (ok : PickOk is M) : Sat (.of C.T C.K (is.map fun k => As.getD k 0) G H) (is.map fun k => As.getD k 0) G H [] (pick is M) [] ∧ ∀ k a, k ∈ is → As[k]? = some a → (is.map fun k => As.getD k 0)[loc is k]? = some a :=
  S.pick (C' := .of C.T C.K (is.map fun k => As.getD k 0) G H) ok rfl rfl ⟨Same.refl _, fun a o _ _ h1 h2 => ⟨h2, h1⟩, fun a o h => ⟨o, h⟩⟩ (fun a h => .inl h) (List.prefix_refl _) (Same.refl _) (List.prefix_refl _)
/-- behind a call: the caller's state -/
theorem lent_back {Au' : List Addr} {G' H' : Hp} {Mu : Led} (S : Sat C As G H Γ M σ) (ok : PickOk is M) (Z : Sat (.of C.T C.K (is.map fun k => As.getD k 0) G H) Au' G' H' [] Mu []) :
    ∃ As', Gr C As G As' G' H' Γ (put is Mu M) σ ∧ ∀ (v : V) (l : Lo), LRp C.K Au' G' v l → LRp C.K As' G' v (renL (ren is M.length) l) := by
  obtain ⟨nd, lt, _⟩ := ok
  have hA : As.length = M.length := S.al
  obtain ⟨nw, hnw⟩ := Z.asS
  have hnw : is.map (fun k => As.getD k 0) ++ nw = Au' := hnw
  have lAu : (is.map fun k => As.getD k 0).length = is.length := by simp
  have atI : ∀ {j k : Nat}, is[j]? = some k → As[k]? = some (As.getD k 0) ∧ Au'[j]? = some (As.getD k 0) := fun {j k} e => by
    have hk : k < As.length := by rw [hA]; exact lt k (List.mem_of_getElem? e)
    refine ⟨by simp [hk], ?_⟩
    rw [← hnw, List.getElem?_append_left (by rw [lAu]; exact (List.getElem?_eq_some_iff.mp e).1), List.getElem?_map, e]
    rfl
  have lMu : Mu.length = is.length + nw.length := by
    rw [← Z.al, ← hnw, List.length_append, lAu]
  have nd' : (is.map (fun k => As.getD k 0) ++ nw).Nodup := by rw [hnw]; exact Z.inj
  obtain ⟨_, ndw, dis⟩ := List.nodup_append.mp nd'
  have fresh : ∀ b ∈ nw, H b = none := fun b hb => by
    rcases Z.fr b (by rw [← hnw]; exact List.mem_append_right _ hb) with z | z
    · exact absurd rfl (dis b z b hb)
    · exact z
  have kst := Z.stp
  have rn : ∀ k a, True → Au'[k]? = some a → (As ++ nw)[ren is M.length k]? = some a := fun k a _ e => by
    unfold ren
    by_cases hk : k < is.length
    · have e1 : is[k]? = some is[k] := by simp [hk]
      obtain ⟨q1, q2⟩ := atI e1
      rw [e] at q2
      cases q2
      have eg : is.getD k (M.length + (k - is.length)) = is[k] := by simp [hk]
      rw [eg]
      exact pre_get ⟨nw, rfl⟩ q1
    · have eg : is.getD k (M.length + (k - is.length)) = M.length + (k - is.length) := by
        rw [List.getD_eq_getElem?_getD, List.getElem?_eq_none (by omega)]
        rfl
      rw [eg, List.getElem?_append_right (by omega)]
      rw [← hnw, List.getElem?_append_right (by rw [lAu]; omega), lAu] at e
      rw [← e]
      congr 1
      omega
  have refT := refL_true
  have refTs := refLs_true
  have refTm : ∀ m : MO, refM (fun _ => True) m := fun m => by cases m <;> first | trivial | exact refTs _
  refine ⟨As ++ nw, ⟨⟨Z.le, ⟨S.stp.g.trans kst.g, fun a o h1 hT h2 h3 => ?_, fun a o h => ?_⟩, fun i a m e1 e2 e3 => ?_, fun a ha => ?_, ?_, ?_, S.asS.trans ⟨nw, rfl⟩, fun a ha => ?_, fun i l e => ?_, S.len, S.bg.trans kst.g, S.ba.trans ⟨nw, rfl⟩, fun P q e => ⟨fun hm => (List.mem_append.mp hm).elim (S.tb P q e).1 fun k => S.tb_ne e (fresh P k) rfl, (Z.tb P q e).2⟩⟩, kst.g, ⟨nw, rfl⟩⟩, fun v l r => r.ren rn (refT l)⟩
  · obtain ⟨q1, q2⟩ := S.stp.k a o h1 hT h2 h3
    refine kst.k a o (fun hm => ?_) hT q2 q1
    obtain ⟨k, hk, rfl⟩ := List.mem_map.mp hm
    have hl : k < As.length := by rw [hA]; exact lt k hk
    have hmA : As.getD k 0 ∈ As := by simp [hl]
    rcases S.fr _ hmA with z | z
    · exact h1 z
    · rw [z] at h3; cases h3
  · obtain ⟨o', h'⟩ := S.stp.d a o h
    exact kst.d a o' h'
  · by_cases hi : i < As.length
    · rw [List.getElem?_append_left hi] at e1
      unfold put at e2
      rw [List.getElem?_append_left (by rw [putI_len]; omega)] at e2
      by_cases him : i ∈ is
      · have ej := idx_get him
        obtain ⟨q1, q2⟩ := atI ej
        rw [e1] at q1
        have ea : a = As.getD i 0 := Option.some.inj q1
        have lj : loc is i < Mu.length := by
          have := (List.getElem?_eq_some_iff.mp ej).1
          omega
        have em : Mu[loc is i]? = some Mu[loc is i] := by simp [lj]
        rw [putI_in nd ej em (by omega)] at e2
        cases e2
        obtain ⟨g1, o, g2, g3⟩ := Z.own _ _ _ q2 em (renM_gone e3)
        rw [ea]
        exact ⟨g1, o, g2, g3.ren rn (refTm _)⟩
      · rw [putI_out him] at e2
        obtain ⟨g1, o, g2, g3⟩ := S.own i a m e1 e2 e3
        obtain ⟨z1, z2⟩ := kst.k a o (fun hm => by
          obtain ⟨k, hk, e⟩ := List.mem_map.mp hm
          have hl : k < As.length := by rw [hA]; exact lt k hk
          have ek : As[k]? = some a := by rw [← e]; simp [hl]
          exact him (nodup_ix2 S.inj ek e1 ▸ hk)) (S.tn (List.mem_of_getElem? e1)) g1 g2
        exact ⟨z2, o, z1, g3.mono kst.g ⟨nw, rfl⟩⟩
    · rw [List.getElem?_append_right (by omega)] at e1
      unfold put at e2
      rw [List.getElem?_append_right (by rw [putI_len]; omega), putI_len, List.getElem?_map, List.getElem?_drop] at e2
      have ej : Au'[is.length + (i - M.length)]? = some a := by
        rw [← hnw, List.getElem?_append_right (by rw [lAu]; omega), lAu, ← e1]
        congr 1
        omega
      cases em : Mu[is.length + (i - M.length)]? with
      | none => rw [em] at e2; cases e2
      | some m0 =>
        rw [em] at e2
        cases e2
        obtain ⟨g1, o, g2, g3⟩ := Z.own _ _ _ ej em (renM_gone e3)
        exact ⟨g1, o, g2, g3.ren rn (refTm _)⟩
  · rcases List.mem_append.mp ha with z | z
    · exact S.fr a z
    · exact .inr (S.h0 (fresh a z))
  · rw [List.nodup_append]
    refine ⟨S.inj, ndw, fun a h1 b h2 e => ?_⟩
    subst e
    obtain ⟨o, h⟩ := S.there a h1
    rw [fresh a h2] at h
    cases h
  · unfold put
    rw [List.length_append, List.length_append, putI_len, List.length_map, List.length_drop]
    omega
  · rcases List.mem_append.mp ha with z | z
    · obtain ⟨o, h⟩ := S.there a z
      exact kst.d a o h
    · exact Z.there a (by rw [← hnw]; exact List.mem_append_right _ z)
  · obtain ⟨v, q1, q2⟩ := S.slot i l e
    exact ⟨v, q1, q2.mono kst.g ⟨nw, rfl⟩⟩
end

/-! ### calls -/
def rCall (sp : DSp) (is : List Nat) (ex : EX) (t : RA) : RE := fun Γ M K => t Γ M fun ls M1 => PickOk is M1 ∧ refLs (· ∈ is) ls ∧
  sp (ls.map (renL (loc is))) (pick is M1) (fun l Mu => K (renL (ren is M1.length) l) (put is Mu M1)) fun x Mu => ex x Γ (put is Mu M1)
/-- a call of data alone -/
def rCall0 (sp : DSp) (ex : EX) (t : RA) : RE := fun Γ M K => t Γ M fun ls M1 => match allIm ls with
  | some ds => sp (ds.map Lo.im) [] (fun l Mu => K (renL (fun j => M1.length + j) l) (M1 ++ Mu.map (renM fun j => M1.length + j))) fun x _ => ex x Γ M1
  | none => False
section
variable {C : Fc} {X : Cx} {k : Nat} {f : Addr} {fd : FuncData} {ps : List Str} {sp : DSp} {is : List Nat} {ex : EX} {x : Str} {p pos : Pos} {e : Expr} {es : List Expr} {t : RA}
theorem LRpL.mem_ren {K : PySem.W.Frag} {As Au : List Addr} {G : Hp} {vs : List V} {ls : List Lo} {is : List Nat} (r : LRpL K As G vs ls) (h : refLs (· ∈ is) ls) (bk : ∀ k a, k ∈ is → As[k]? = some a → Au[loc is k]? = some a) : LRpL K Au G vs (ls.map (renL (loc is))) := r.ren bk h
/-- an exception of a callee reaches what is wished here -/
theorem run_gn {pins : List (Addr × Obj)} {σ : L2.St} {H : Hp} {s : Shared} {us : List Value} {vs : List V} {As : List Addr} {G : Hp} {Γ : Gam} {M : Led} {ls : List Lo} {Kd : Lo → Led → Prop} {Ed : Exn → Led → Prop} {Q : VK} (F : Gn C.T X.prog X.w X.K X.mg X.base k f fd ps sp) (hr : Room k X.A) (hg : X.A.guards = some [])
    (hb : Binds X.K fd ps []) (hK : C.K = X.K) (tk : Takes X (UW C ex)) (I : Inv X pins σ H s) (r : Vals vs us) (S : Sat C As G H Γ M σ) (rl : LRpL C.K As G vs ls) (ok : PickOk is M) (hls : refLs (· ∈ is) ls)
    (h : sp (ls.map (renL (loc is))) (pick is M) Kd Ed) (hQ : ∀ (l : Lo) (Mu : Led) (v : V) (As' : List Addr) (G' H' : Hp), Gr C As G As' G' H' Γ (put is Mu M) σ → LRp C.K As' G' v (renL (ren is M.length) l) → Kd l Mu → Q v H')
    (hE : ∀ x Mu, Ed x Mu → ex x Γ (put is Mu M)) : wpAny (model X.prog X.w) X.A (call (.ref f) us) (EP X pins σ Q) X.xe s := by
  obtain ⟨Z0, bk⟩ := lend S ok
  have hlen : us.length = ps.length := by
    rw [← r.length, rl.length, ← List.length_map (f := renL (loc is)) (as := ls)]
    exact F.len _ _ _ _ h
  have b := hb s us I.kIn (by rw [List.append_nil]; exact hlen)
  rw [List.append_nil] at b
  rw [hK] at Z0 rl
  refine wpAny_call (codeAny_mono (F.run X.A X.stack s H ⟨us, []⟩ us vs Q (fun cls d H' => UW C ex cls d σ H') _ G _ _ Kd Ed hr hg I.env0 b r Z0 (rl.mem_ren hls bk) h (fun l Mu v Au' G' H' Z rv k => ?_) fun x Mu cls d Au' G' H' Z rx k => ?_) fun res s' hq => ?_)
  · rw [← hK] at Z rv
    obtain ⟨As', g, hv⟩ := lent_back S ok Z
    exact hQ l Mu v As' G' H' g (hv v l rv) k
  · rw [← hK] at Z rx
    obtain ⟨As', g, _⟩ := lent_back S ok Z
    exact ⟨As', G', Γ, _, x, g.sat, rx, hE x Mu k⟩
  · cases res with
    | error e => exact passAt tk σ pins H s e s' I hq
    | ok fl =>
      cases fl with
      | ret u => exact I.after hq
      | next => exact False.elim hq
      | brk => exact False.elim hq
      | cont => exact False.elim hq
theorem q_call (is : List Nat) (F : Gn C.T X.prog X.w X.K X.mg X.base k f fd ps sp) (hm : X.mg x = some (.ref f)) (hb : Binds X.K fd ps []) (hk : PySem.W.keepIn X.K (.ref f) = true) (hr : Room k X.A) (hg : X.A.guards = some []) (hK : C.K = X.K) (tk : Takes X (UW C ex)) (ha : QA C X (e :: es) t)
    (hgl : Gl X x := by rfl) (hdb : (x == ("__debug__" : Str)) = false := by decide) (he : starEach (e :: es) X.env = (false, eval e X.env) :: starEach es X.env := by rfl) (hpl : (backTo pos (starEach es X.env)).any (·.1) = false := by rfl) :
    QE C X (.Call (.Name x p) (e :: es) [] pos) (rCall sp is ex t) := ⟨fun pins s σ H Q I ⟨As, G, Γ, M, K, S, h, q⟩ => by
  refine wpAny_Call_Name_kw (ld_glob I hgl hm ?_ hdb)
  have hA := ha.run pos pins s σ H (fun vs H1 => ∃ (As1 : List Addr) (G1 : Hp) (M1 : Led) (ls : List Lo), Gr C As G As1 G1 H1 Γ M1 σ ∧ LRpL C.K As1 G1 vs ls ∧ _) I ⟨As, G, Γ, M, _, S, h, fun ls M1 vs As1 G1 H1 g1 rl k1 => ⟨As1, G1, M1, ls, g1, rl, k1⟩⟩
  refine PySem.W.callWith_K (h₀ := X.base) I.ok.mod.kin hk (thn hA fun us s1 ⟨vs, H1, I1, r, As1, G1, M1, ls, g1, rl, ok, hls, h1⟩ => ⟨I1.kIn, ?_⟩) he hpl
  exact run_gn F hr hg hb hK tk I1 r g1.sat rl ok hls h1 (fun l Mu v As' G' H' g rv k => q _ _ v As' G' H' (g1.trans g) rv k) fun x Mu h => h⟩
theorem pick0 {M : Led} : PickOk [] M := ⟨List.nodup_nil, fun k h => by simp at h, trivial⟩
theorem ims_loc (ds : List D) : (ds.map Lo.im).map (renL (loc [])) = ds.map Lo.im := by
  rw [List.map_map]
  rfl
theorem refLs_im {P : Nat → Prop} : ∀ ds : List D, refLs P (ds.map Lo.im)
  | [] => trivial
  | _ :: r => ⟨trivial, refLs_im r⟩
theorem ren0 (n : Nat) : ren [] n = fun j => n + j := by
  funext j
  simp [ren]
theorem put0 (Mu M : Led) : put [] Mu M = M ++ Mu.map (renM fun j => M.length + j) := by
  unfold put
  rw [ren0]
  cases Mu <;> rfl
theorem call0_ok {sp : DSp} {ex : EX} {Γ : Gam} {M1 : Led} {K : Lo → Led → Prop} {ls : List Lo} (h : match allIm ls with
    | some ds => sp (ds.map Lo.im) [] (fun l Mu => K (renL (fun j => M1.length + j) l) (M1 ++ Mu.map (renM fun j => M1.length + j))) fun x _ => ex x Γ M1
    | none => False) (hx : ∀ x Mu, ex x Γ M1 → ex x Γ (M1 ++ Mu)) :
    PickOk [] M1 ∧ refLs (· ∈ ([] : List Nat)) ls ∧ ∃ Ed, sp (ls.map (renL (loc []))) (pick [] M1) (fun l Mu => K (renL (ren [] M1.length) l) (put [] Mu M1)) Ed ∧ ∀ x Mu, Ed x Mu → ex x Γ (put [] Mu M1) := by
  split at h
  · rename_i ds e
    rw [allIm_map e]
    refine ⟨pick0, refLs_im ds, fun x _ => ex x Γ M1, ?_, fun x Mu h => ?_⟩
    · rw [ims_loc, ren0]
      have e2 : (fun (l : Lo) (Mu : Led) => K (renL (fun j => M1.length + j) l) (put [] Mu M1)) = fun l Mu => K (renL (fun j => M1.length + j) l) (M1 ++ Mu.map (renM fun j => M1.length + j)) := by
        funext l Mu
        rw [put0]
      rw [e2]
      exact h
    · rw [put0]
      exact hx _ _ h
  · exact h.elim
theorem q_call0 (hx : ∀ x Γ M Mu, ex x Γ M → ex x Γ (M ++ Mu)) (F : Gn C.T X.prog X.w X.K X.mg X.base k f fd ps sp) (hm : X.mg x = some (.ref f)) (hb : Binds X.K fd ps []) (hk : PySem.W.keepIn X.K (.ref f) = true) (hr : Room k X.A) (hg : X.A.guards = some []) (hK : C.K = X.K) (tk : Takes X (UW C ex)) (ha : QA C X (e :: es) t)
    (hgl : Gl X x := by rfl) (hdb : (x == ("__debug__" : Str)) = false := by decide) (he : starEach (e :: es) X.env = (false, eval e X.env) :: starEach es X.env := by rfl) (hpl : (backTo pos (starEach es X.env)).any (·.1) = false := by rfl) :
    QE C X (.Call (.Name x p) (e :: es) [] pos) (rCall0 sp ex t) := ⟨fun pins s σ H Q I ⟨As, G, Γ, M, K, S, h, q⟩ => by
  refine wpAny_Call_Name_kw (ld_glob I hgl hm ?_ hdb)
  have hA := ha.run pos pins s σ H (fun vs H1 => ∃ (As1 : List Addr) (G1 : Hp) (M1 : Led) (ls : List Lo), Gr C As G As1 G1 H1 Γ M1 σ ∧ LRpL C.K As1 G1 vs ls ∧ _) I ⟨As, G, Γ, M, _, S, h, fun ls M1 vs As1 G1 H1 g1 rl k1 => ⟨As1, G1, M1, ls, g1, rl, k1⟩⟩
  refine PySem.W.callWith_K (h₀ := X.base) I.ok.mod.kin hk (thn hA fun us s1 ⟨vs, H1, I1, r, As1, G1, M1, ls, g1, rl, h1⟩ => ⟨I1.kIn, ?_⟩) he hpl
  obtain ⟨ok, hls, Ed, h2, h3⟩ := call0_ok h1 (fun x Mu => hx x Γ M1 Mu)
  exact run_gn F hr hg hb hK tk I1 r g1.sat rl ok hls h2 (fun l Mu v As' G' H' g rv k => q _ _ v As' G' H' (g1.trans g) rv k) h3⟩
end
end Dl

set_option Elab.async false
set_option maxRecDepth 100000
set_option maxHeartbeats 1000000
namespace Dl
open PySem L2 PyProof.Rows
/-! ### the end of a law -/
section
variable {P : Program} {w : World} {K : PySem.W.Frag} {mg mb : Str → Option Value} {k : Nat} {fa a : Addr} {fd : FuncData} {x : Str} {sp : DSp} {s₁ : Shared} {vs : List Value} {ns : List Int}
/-- the law's call over an abstract heap that tracks the script at most -/
theorem end_core (KX : K.In s₁.heap) (nsG : s₁.heap.Ns mainGlobals mg) (nsB : s₁.heap.Ns builtinsNs mb) (bb : ∀ x : Str, x ≠ "__name__" → mb x = bootBuiltins x) (lim : s₁.heap.NoLimit) (gen : s₁.gens = #[])
    (ha : s₁.heap.get? a = some { cls := .type "list", data := .seq vs.toArray }) (room : Room k callerA) (F : ∀ base : Heap, K.In base → base.Ns mainGlobals mg → Gn (fun _ => none) P w K mg base k fa fd [x] sp)
    (bnd : ∀ (s : Shared) (u : Value), BindsTo s fd ⟨[u], []⟩ [(x, u)]) (hsp : ∀ Kd Ed, (∀ M, Kd (.im (.bl true)) M) → sp [.im (.scr ns)] [] Kd Ed)
    (H : Hp) (only : Only H) (sq : SqL K H a (ns.map V.int)) (okH : HOk P w H s₁.heap) (onlyA : ∀ b, H b ≠ none → b = a) (noK : H a ≠ none → K.lookup a = none) :
    codeAny (model P w) callerA (.call (.ref fa) ⟨[.ref a], []⟩) (fun r s' => r = .ok (.ret (.bool true)) ∧ OldK s₁.heap s'.heap ∧ s'.os = s₁.os ∧ AllBare s'.gens) s₁ := by
  have isA : ∀ {b : Addr} {u : HO}, H b = some u → b = a := fun {b u} q => onlyA b fun z => by rw [q] at z; cases z
  have notDict : ∀ {b : Addr} {o : Obj} {es : Array DictEntry} {ep : Nat}, s₁.heap.get? b = some o → o.data = .dict es ep → H b = none := fun {b o es ep} e d => by
    cases q : H b with
    | none => rfl
    | some u =>
      have e' := isA q
      subst e'
      rw [ha] at e
      cases e
      exact nomatch (show Data.seq vs.toArray _ = Data.dict es ep from d)
  have nsOf : ∀ {b : Addr} {m : Str → Option Value}, s₁.heap.Ns b m → (hidT s₁.heap H).Ns b m := fun {b m} n => by
    obtain ⟨o, es, ep, e, d, r⟩ := n
    exact ⟨o, es, ep, hidT_get e (notDict e d), d, r⟩
  have inB : K.In (hidT s₁.heap H) := fun b o e => hidT_get (KX b o e) (by
    cases q : H b with
    | none => rfl
    | some u =>
      have e' := isA q
      subst e'
      rw [noK (by rw [q]; exact fun z => nomatch z)] at e
      cases e)
  have md : Mod K mg (hidT s₁.heap H) := ⟨inB, nsOf nsG, ⟨mb, nsOf nsB, bb⟩, by
    obtain ⟨mc, h1, h2⟩ := lim
    exact ⟨mc, nsOf h1, h2⟩⟩
  have env : Env0 P w K mg (hidT s₁.heap H) callerA [] s₁ H := ⟨rfl, md, fun b o e => of_hidT e, Nat.le_of_eq (hidT_size _ _), trivial, fun b hb => absurd (show b ∈ ([] : List Addr) from hb) (by simp), okH, .of_eq gen⟩
  have S0 : Sat (.of (fun _ => none) K [] H H) [] H H [] [] [] := ⟨Same.refl _, ⟨Same.refl _, fun b o _ _ h1 h2 => ⟨h2, h1⟩, fun b o h => ⟨o, h⟩⟩, fun k a m e => by simp at e, fun a h => by simp at h, List.nodup_nil, rfl, List.prefix_refl _, fun a h => by simp at h, fun i l e => by simp at e, rfl, Same.refl _, List.prefix_refl _, fun P q e => (by cases e)⟩
  refine codeAny_mono ((F _ inB (nsOf nsG)).run callerA [] s₁ H ⟨[.ref a], []⟩ [.ref a] [.ref a] (fun v _ => v = .bl true) (fun _ _ _ => False) [] H [.im (.scr ns)] [] (fun l _ => l = .im (.bl true)) (fun _ _ => False) room rfl env (bnd s₁ (.ref a))
    (.cons rfl .nil) S0 (.cons (Rp.scr sq) .nil) (hsp _ _ fun _ => rfl) (fun l M' v As' G' H' _ rv e => by subst e; exact bl_of rv) fun _ _ _ _ _ _ _ _ _ z => z) fun r s' h => ?_
  cases r with
  | error e => obtain ⟨_, _, _, _, _, _, _, _, _, _, _, _, z⟩ := h; exact z.elim
  | ok fl =>
    cases fl with
    | ret u =>
      obtain ⟨v, H', os, bare, un, okH', rv, ev⟩ := h
      subst ev
      obtain rfl : u = Value.bool true := rv
      refine ⟨rfl, OldK.of_keep fun b o e => ?_, os, bare⟩
      cases q : H b with
      | none => exact un.keep b o e q (fun z => absurd (show b ∈ ([] : List Addr) from z) (by simp)) (by simp)
      | some u =>
        rcases only b with z | ⟨ob, xs, z⟩
        · rw [q] at z; cases z
        · obtain ⟨e1, _⟩ := okH b _ z
          obtain ⟨e2, _⟩ := okH' b _ (un.frzs b ob _ z)
          rw [e] at e1
          cases e1
          exact e2
    | next => exact False.elim h
    | brk => exact False.elim h
    | cont => exact False.elim h
theorem end_call (KX : K.In s₁.heap) (nsG : s₁.heap.Ns mainGlobals mg) (nsB : s₁.heap.Ns builtinsNs mb) (bb : ∀ x : Str, x ≠ "__name__" → mb x = bootBuiltins x) (lim : s₁.heap.NoLimit) (gen : s₁.gens = #[])
    (ha : s₁.heap.get? a = some { cls := .type "list", data := .seq vs.toArray }) (hi : IntsAre vs ns) (hl : ns.length ≤ sizeLine) (room : Room k callerA) (F : ∀ base : Heap, K.In base → base.Ns mainGlobals mg → Gn (fun _ => none) P w K mg base k fa fd [x] sp)
    (bnd : ∀ (s : Shared) (u : Value), BindsTo s fd ⟨[u], []⟩ [(x, u)]) (hsp : ∀ Kd Ed, (∀ M, Kd (.im (.bl true)) M) → sp [.im (.scr ns)] [] Kd Ed) :
    codeAny (model P w) callerA (.call (.ref fa) ⟨[.ref a], []⟩) (fun r s' => r = .ok (.ret (.bool true)) ∧ OldK s₁.heap s'.heap ∧ s'.os = s₁.os ∧ AllBare s'.gens) s₁ := by
  have rv := vals_ints hi
  have lv := hi.length
  cases hk : K.lookup a with
  | some o =>
    have e := KX a o hk
    rw [ha] at e
    cases e
    refine end_core KX nsG nsB bb lim gen ha room F bnd hsp (fun _ => none) (fun _ => .inl rfl) (.inr ⟨_, vs.toArray, _, hk, rfl, rfl, rfl, ?_, by simpa using rv⟩) (fun b u z => by have z' : (none : Option HO) = some u := z; cases z') (fun b z => absurd rfl z) fun z => absurd rfl z
    rw [List.size_toArray, lv]
    exact hl
  | none =>
    let Hs : Hp := fun b => if b = a then some (.frz { cls := .type "list", data := .seq vs.toArray } (.lst (ns.map V.int))) else none
    have h1 : Hs a = some (.frz { cls := .type "list", data := .seq vs.toArray } (.lst (ns.map V.int))) := if_pos rfl
    have h2 : ∀ b, b ≠ a → Hs b = none := fun b hb => if_neg hb
    refine end_core KX nsG nsB bb lim gen ha room F bnd hsp Hs (fun b => ?_) (.inl (.inr ⟨_, h1⟩)) (fun b u z => ?_) (fun b z => ?_) fun _ => hk
    · by_cases hb : b = a
      · subst hb; exact .inr ⟨_, _, h1⟩
      · exact .inl (h2 b hb)
    · by_cases hb : b = a
      · subst hb
        rw [h1] at z
        cases z
        exact ⟨ha, by rw [List.length_map]; exact hl, vs, _, rv, ha⟩
      · rw [h2 b hb] at z
        cases z
    · by_cases hb : b = a
      · exact hb
      · exact absurd (h2 b hb) z
end
/-- the goal that k_head leaves, from the law's promise -/
theorem end_of {l : PySem.W.OpenLaw} {n k : Nat} {q : Program} {loose : List Str} {XP : (Str → Option Value) → Heap → Prop} {YP : World → Heap → Prop} {d : DefRec} {K : Params → PySem.W.Frag} {sp : DSp} {x : Str}
    (hn : l.most = some n) (hn2 : n ≤ sizeLine) (hdf : d.params.defaults = []) (room : Room k callerA) (hY : ∀ (w : World) (h : Heap), YP w h → (K w.params).In h)
    (F : ∀ (w : World) (mg : Str → Option Value) (fa : Addr) (h : Heap), (K w.params).In h → h.Ns mainGlobals mg → mg d.name = some (.ref fa) →
      ∃ fd : FuncData, (∀ (s : Shared) (u : Value), BindsTo s fd ⟨[u], []⟩ [(x, u)]) ∧ ∀ base : Heap, (K w.params).In base → base.Ns mainGlobals mg → Gn (fun _ => none) l.prog w (K w.params) mg base k fa fd [x] sp)
    (hsp : ∀ (ns : List Int) Kd Ed, ns.length ≤ n → (∀ M, Kd (.im (.bl true)) M) → sp [.im (.scr ns)] [] Kd Ed) :
    PySem.W.WalkO q loose XP YP l.row.toRowW d [] (fun f vs => PySem.call f vs) := by
  refine Att.attach_call hn hdf fun w s₀ s₁ mg mb fa o pm cd doc a vs ns G Y ho hd hcd hmg hobj hints hlen hg => ?_
  have KX := hY w _ Y
  obtain ⟨fd, hb, hF⟩ := F w mg fa _ KX G.T.g hmg
  exact end_call KX G.T.g G.T.b G.T.builtins G.T.nolimit hg hobj hints (Nat.le_trans hlen hn2) room hF hb fun Kd Ed h => hsp ns Kd Ed hlen h
end Dl

set_option Elab.async false
set_option maxRecDepth 100000
set_option maxHeartbeats 1000000
namespace Dl
open PySem L2

section
variable {C : Fc} {X : Cx} {x : Str} {p pos : Pos} {e : Expr} {es : List Expr} {t : RA} {id T : String} {r : List V → Hp → VK → Prop} {ρ : RnL}
theorem q_bi (hl : CaL C r ρ) (hc : CallR X (.builtin id) r) (hv : bootBuiltins x = some (.builtin id)) (hm : X.mg x = none) (ha : QA C X (e :: es) t) (hg : Gl X x := by rfl) (hn : x ≠ "__name__" := by decide) (hdb : (x == ("__debug__" : Str)) = false := by decide)
    (he : starEach (e :: es) X.env = (false, eval e X.env) :: starEach es X.env := by rfl) (hpl : (backTo pos (starEach es X.env)).any (·.1) = false := by rfl) : QE C X (.Call (.Name x p) (e :: es) [] pos) (qCa ρ t) :=
  PE.imp (pe_callB hc hg hm hv ha hn hdb he hpl) (up_ca hl)
theorem q_bt (hl : CaL C r ρ) (hc : CallR X (.type T) r) (hv : bootBuiltins x = some (.type T)) (hm : X.mg x = none) (ha : QA C X (e :: es) t) (hg : Gl X x := by rfl) (hn : x ≠ "__name__" := by decide) (hdb : (x == ("__debug__" : Str)) = false := by decide)
    (he : starEach (e :: es) X.env = (false, eval e X.env) :: starEach es X.env := by rfl) (hpl : (backTo pos (starEach es X.env)).any (·.1) = false := by rfl) : QE C X (.Call (.Name x p) (e :: es) [] pos) (qCa ρ t) :=
  PE.imp (pe_callTy hc hg hm hv ha hn hdb he hpl) (up_ca hl)
end
theorem LRpL.one {K : PySem.W.Frag} {As : List Addr} {G : Hp} {vs : List V} {l : Lo} (r : LRpL K As G vs [l]) : ∃ v, vs = [v] ∧ LRp K As G v l := by
  cases r with
  | cons r1 r2 => cases r2; exact ⟨_, rfl, r1⟩
theorem LRpL.two {K : PySem.W.Frag} {As : List Addr} {G : Hp} {vs : List V} {l l' : Lo} (r : LRpL K As G vs [l, l']) : ∃ v v', vs = [v, v'] ∧ LRp K As G v l ∧ LRp K As G v' l' := by
  cases r with
  | cons r1 r2 =>
    obtain ⟨v', rfl, r3⟩ := r2.one
    exact ⟨_, _, rfl, r1, r3⟩

/-! ### len, int, min, max, sum, any, all, list, tuple, sorted, abs, str -/
def lenOf (M : Led) : Lo → Option Nat
  | .im (.tup ds) => some ds.length
  | .im (.lst ds) => some ds.length
  | .tp ls => some ls.length
  | .ow k => match M[k]? with
    | some (.li ds) => some ds.length
    | some (.ls ls) => some ls.length
    | _ => none
  | _ => none
def oLen : RnL := fun ls M K => match ls with
  | [.im (.str s)] => s.length ≤ sizeLine ∧ K (.im (.int s.length)) M
  | [.im (.scr ns)] => K (.im (.int ns.length)) M
  | [x] => match lenOf M x with
    | some n => K (.im (.int n)) M
    | none => False
  | _ => False
theorem lenL {C : Fc} : CaL C (fun xs H Q => ∃ x n, xs = [x] ∧ LenV C.K x H n ∧ Q (.int n) H) oLen := fun {As G H Γ M σ xs ls K Q} S rl t q => by
  unfold oLen at t
  split at t
  · obtain ⟨v, rfl, r⟩ := rl.one
    rename_i s
    have e := str_of r
    subst e
    exact ⟨_, s.length, rfl, ⟨t.1, rfl⟩, q (.im (.int _)) M _ As G H (Gr.refl S) (Rp.int _) t.2⟩
  · obtain ⟨v, rfl, r⟩ := rl.one
    rename_i ns
    cases r with
    | scr h => exact ⟨_, ns.length, rfl, .inl ⟨_, same_l S.le h, by rw [List.length_map]⟩, q (.im (.int _)) M _ As G H (Gr.refl S) (Rp.int _) t⟩
  · obtain ⟨v, rfl, r⟩ := rl.one
    split at t
    · rename_i n e
      refine ⟨_, n, rfl, ?_, q (.im (.int _)) M _ As G H (Gr.refl S) (Rp.int _) t⟩
      unfold lenOf at e
      split at e
      · cases e
        obtain ⟨a, xs, rfl, h1, h2⟩ := S.imT r
        exact .inr ⟨xs, SqT.of h1, h2.length.symm⟩
      · cases e
        obtain ⟨a, xs, rfl, h1, h2⟩ := S.snapL r rfl
        exact .inl ⟨xs, SqL.of h1, h2.length.symm⟩
      · cases e
        obtain ⟨a, xs, rfl, h1, h2⟩ := r
        exact .inr ⟨xs, SqT.of (S.le _ _ h1), h2.l.length.symm⟩
      · obtain ⟨a, ha, rfl⟩ := r
        split at e
        · rename_i es e1
          cases e
          obtain ⟨_, o, h0, xs, rfl, rx⟩ := S.own _ _ _ ha e1 (by intro z; cases z)
          exact .inl ⟨xs, SqL.of h0, rx.length.symm⟩
        · rename_i es e1
          cases e
          obtain ⟨_, o, h0, xs, rfl, rx⟩ := S.own _ _ _ ha e1 (by intro z; cases z)
          exact .inl ⟨xs, SqL.of h0, rx.length.symm⟩
        · cases e
      · cases e
    · exact t.elim
  · exact t.elim
def oInt : RnL := fun ls M K => match ls with
  | [.im (.int i)] => K (.im (.int i)) M
  | [.im (.bl b)] => K (.im (.int (if b then 1 else 0))) M
  | _ => False
theorem intL {C : Fc} : CaL C (fun xs H Q => (∃ i, xs = [.int i] ∧ Q (.int i) H) ∨ ∃ k, xs = [.bl k] ∧ Q (.int (if k then 1 else 0)) H) oInt := fun {As G H Γ M σ xs ls K Q} S rl t q => by
  unfold oInt at t
  split at t
  · obtain ⟨v, rfl, r⟩ := rl.one
    exact .inl ⟨_, by rw [int_of r], q (.im (.int _)) M _ As G H (Gr.refl S) (Rp.int _) t⟩
  · obtain ⟨v, rfl, r⟩ := rl.one
    exact .inr ⟨_, by rw [bl_of r], q (.im (.int _)) M _ As G H (Gr.refl S) (Rp.int _) t⟩
  · exact t.elim
/-- min, max: of two ints, of a list of ints -/
def oMin : RnL := fun ls M K => match ls with
  | [.im (.int i), .im (.int j)] => K (.im (.int (min i j))) M
  | [x] => ∃ ns : List Int, snap M x = some (.lst (ns.map D.int)) ∧ 0 < ns.length ∧ ∀ m, m ∈ ns → (∀ y, y ∈ ns → m ≤ y) → K (.im (.int m)) M
  | _ => False
def oMax : RnL := fun ls M K => match ls with
  | [.im (.int i), .im (.int j)] => K (.im (.int (max i j))) M
  | [x] => ∃ ns : List Int, snap M x = some (.lst (ns.map D.int)) ∧ 0 < ns.length ∧ ∀ m, m ∈ ns → (∀ y, y ∈ ns → y ≤ m) → K (.im (.int m)) M
  | _ => False
theorem minL {C : Fc} : CaL C (fun xs H Q => (∃ i j, xs = [.int i, .int j] ∧ Q (.int (if j < i then j else i)) H) ∨ rMin C.K xs H Q) oMin := fun {As G H Γ M σ xs ls K Q} S rl t q => by
  unfold oMin at t
  split at t
  · rename_i i j
    obtain ⟨v, v', rfl, r, r'⟩ := rl.two
    refine .inl ⟨i, j, by rw [int_of r, int_of r'], ?_⟩
    rw [show (if j < i then j else i) = min i j by omega]
    exact q (.im (.int _)) M _ As G H (Gr.refl S) (Rp.int _) t
  · obtain ⟨v, rfl, r⟩ := rl.one
    obtain ⟨ns, e, h0, k⟩ := t
    obtain ⟨a, xs, rfl, h1, h2⟩ := S.snapL r e
    rw [h2.ints] at h1
    exact .inr ⟨a, ns, rfl, SqL.of h1, h0, fun m m1 m2 => q (.im (.int _)) M _ As G H (Gr.refl S) (Rp.int _) (k m m1 m2)⟩
  · exact t.elim
theorem maxL {C : Fc} : CaL C (fun xs H Q => (∃ i j, xs = [.int i, .int j] ∧ Q (.int (if j > i then j else i)) H) ∨ rMax C.K xs H Q) oMax := fun {As G H Γ M σ xs ls K Q} S rl t q => by
  unfold oMax at t
  split at t
  · rename_i i j
    obtain ⟨v, v', rfl, r, r'⟩ := rl.two
    refine .inl ⟨i, j, by rw [int_of r, int_of r'], ?_⟩
    rw [show (if j > i then j else i) = max i j by omega]
    exact q (.im (.int _)) M _ As G H (Gr.refl S) (Rp.int _) t
  · obtain ⟨v, rfl, r⟩ := rl.one
    obtain ⟨ns, e, h0, k⟩ := t
    obtain ⟨a, xs, rfl, h1, h2⟩ := S.snapL r e
    rw [h2.ints] at h1
    exact .inr ⟨a, ns, rfl, SqL.of h1, h0, fun m m1 m2 => q (.im (.int _)) M _ As G H (Gr.refl S) (Rp.int _) (k m m1 m2)⟩
  · exact t.elim
def oSum : RnL := fun ls M K => match ls with
  | [x] => ∃ ns : List Int, snap M x = some (.lst (ns.map D.int)) ∧ K (.im (.int ns.sum)) M
  | _ => False
theorem sumL {C : Fc} : CaL C (rSum C.K) oSum := fun {As G H Γ M σ xs ls K Q} S rl t q => by
  unfold oSum at t
  split at t
  · obtain ⟨v, rfl, r⟩ := rl.one
    obtain ⟨ns, e, k⟩ := t
    obtain ⟨a, xs, rfl, h1, h2⟩ := S.snapL r e
    rw [h2.ints] at h1
    exact ⟨a, ns, rfl, SqL.of h1, q (.im (.int _)) M _ As G H (Gr.refl S) (Rp.int _) k⟩
  · exact t.elim
def oBls (f : List Bool → Bool) : RnL := fun ls M K => match ls with
  | [x] => ∃ bs : List Bool, snap M x = some (.lst (bs.map D.bl)) ∧ K (.im (.bl (f bs))) M
  | _ => False
theorem anyL {C : Fc} : CaL C (rAny C.K) (oBls fun bs => bs.any _root_.id) := fun {As G H Γ M σ xs ls K Q} S rl t q => by
  unfold oBls at t
  split at t
  · obtain ⟨v, rfl, r⟩ := rl.one
    obtain ⟨ns, e, k⟩ := t
    obtain ⟨a, xs, rfl, h1, h2⟩ := S.snapL r e
    rw [h2.bls] at h1
    exact ⟨a, ns, rfl, SqL.of h1, q (.im (.bl _)) M _ As G H (Gr.refl S) (Rp.bl _) k⟩
  · exact t.elim
theorem allL {C : Fc} : CaL C (rAll C.K) (oBls fun bs => bs.all _root_.id) := fun {As G H Γ M σ xs ls K Q} S rl t q => by
  unfold oBls at t
  split at t
  · obtain ⟨v, rfl, r⟩ := rl.one
    obtain ⟨ns, e, k⟩ := t
    obtain ⟨a, xs, rfl, h1, h2⟩ := S.snapL r e
    rw [h2.bls] at h1
    exact ⟨a, ns, rfl, SqL.of h1, q (.im (.bl _)) M _ As G H (Gr.refl S) (Rp.bl _) k⟩
  · exact t.elim
def oList (out : Hand) : RnL := fun ls M K => match ls with
  | [x] => match seqOf M x with
    | some ds => out ds M K
    | none => False
  | _ => False
theorem listL {C : Fc} {out : Hand} (hout : OutN out) : CaL C (fun xs H Q => ∃ p ys, xs = [.ref p] ∧ (SqL C.K H p ys ∨ SqT C.K H p ys) ∧ ∀ l, H l = none → Q (.ref l) (upd H l (.lst ys))) (oList out) := fun {As G H Γ M σ xs ls K Q} S rl t q => by
  unfold oList at t
  split at t
  · obtain ⟨v, rfl, r⟩ := rl.one
    split at t
    · rename_i ds e
      obtain ⟨a, xs, rfl, h1, h2⟩ := S.seq r e
      exact ⟨a, xs, rfl, h1, fun l hl => hout S hl h2 t q⟩
    · exact t.elim
  · exact t.elim
def oTuple : RnL := fun ls M K => match ls with
  | [.im (.tup ds)] => K (.im (.tup ds)) M
  | [x] => match snap M x with
    | some (.lst ds) => K (.im (.tup ds)) M
    | _ => False
  | _ => False
theorem tupleL {C : Fc} : CaL C (fun xs H Q => ∃ p ys, xs = [.ref p] ∧ ((SqL C.K H p ys ∧ ∀ l, H l = none → Q (.ref l) (upd H l (.tup ys))) ∨ (SqT C.K H p ys ∧ Q (.ref p) H))) oTuple := fun {As G H Γ M σ xs ls K Q} S rl t q => by
  unfold oTuple at t
  split at t
  · obtain ⟨v, rfl, r⟩ := rl.one
    obtain ⟨a, xs, rfl, h1, h2⟩ := S.imT r
    exact ⟨a, xs, rfl, .inr ⟨SqT.of h1, q (.im (.tup _)) M _ As G H (Gr.refl S) r t⟩⟩
  · obtain ⟨v, rfl, r⟩ := rl.one
    split at t
    · rename_i ds e
      obtain ⟨a, xs, rfl, h1, h2⟩ := S.snapL r e
      exact ⟨a, xs, rfl, .inl ⟨SqL.of h1, fun l hl => q (.im (.tup ds)) M _ As _ _ (Gr.frz S hl) (rp_new_t S hl h2) t⟩⟩
    · exact t.elim
  · exact t.elim
def pairD (p : Int × Int) : D := .tup [.int p.1, .int p.2]
def leP (p q : Int × Int) : Prop := p.1 < q.1 ∨ (p.1 = q.1 ∧ p.2 ≤ q.2)
/-- sorted of ints, of pairs of ints -/
def oSorted (out : Hand) : RnL := fun ls M K => match ls with
  | [x] => (∃ ns : List Int, snap M x = some (.lst (ns.map D.int)) ∧ ∀ ns' : List Int, ns'.Perm ns → ns'.Pairwise (· ≤ ·) → out (ns'.map D.int) M K) ∨
      (∃ ps : List (Int × Int), snap M x = some (.lst (ps.map pairD)) ∧ ∀ ps' : List (Int × Int), ps'.Perm ps → ps'.Pairwise leP → out (ps'.map pairD) M K)
  | _ => False
theorem rp_pair {K : PySem.W.Frag} {G H : Hp} {v : V} {p : Int × Int} (e : Same G H) (r : Rp K G v (pairD p)) : ∃ t, v = .ref t ∧ G t = some (.tup [.int p.1, .int p.2]) ∧ H t = some (.tup [.int p.1, .int p.2]) := by
  cases r with
  | tup h r =>
    cases r with
    | cons r1 r2 =>
      cases r2 with
      | cons r2 r3 =>
        cases r1
        cases r2
        cases r3
        exact ⟨_, rfl, h, e _ _ h⟩
/-- the pair that a reference stands for -/
def keyV (H : Hp) : V → Int × Int
  | .ref t => match H t with
    | some (.tup [.int a, .int b]) => (a, b)
    | _ => (0, 0)
  | _ => (0, 0)
theorem keyV_rp {K : PySem.W.Frag} {G H : Hp} {v : V} {p : Int × Int} (e : Same G H) (r : Rp K G v (pairD p)) : keyV H v = p := by
  obtain ⟨t, rfl, _, h⟩ := rp_pair e r
  unfold keyV
  simp only [h]
theorem rpl_pairs {K : PySem.W.Frag} {G H : Hp} (e : Same G H) : ∀ {vs : List V} {ps : List (Int × Int)}, RpL K G vs (ps.map pairD) → vs.map (keyV H) = ps ∧ ∀ v ∈ vs, Rp K G v (pairD (keyV H v))
  | _, [], .nil => ⟨rfl, fun v h => nomatch h⟩
  | _, p :: ps, .cons r rr => by
    obtain ⟨h1, h2⟩ := rpl_pairs e rr
    have hk := keyV_rp e r
    refine ⟨by rw [List.map_cons, hk, h1], fun v hv => ?_⟩
    rcases List.mem_cons.mp hv with z | z
    · rw [z, hk]; exact r
    · exact h2 v z
theorem rpl_of {K : PySem.W.Frag} {G : Hp} {f : V → Int × Int} : ∀ {vs : List V}, (∀ v ∈ vs, Rp K G v (pairD (f v))) → RpL K G vs ((vs.map f).map pairD)
  | [], _ => .nil
  | v :: vs, h => .cons (h v List.mem_cons_self) (rpl_of fun u hu => h u (List.mem_cons_of_mem _ hu))
def rSrtU (K : PySem.W.Frag) : List V → Hp → VK → Prop := fun vs H Q => rSortedI K vs H Q ∨ rSortedPO K vs H Q
theorem sortedL {C : Fc} {out : Hand} (hout : OutN out) : CaL C (rSrtU C.K) (oSorted out) := fun {As G H Γ M σ xs ls K Q} S rl t q => by
  unfold oSorted at t
  split at t
  · obtain ⟨v, rfl, r⟩ := rl.one
    rcases t with ⟨ns, e, k⟩ | ⟨ps, e, k⟩
    · obtain ⟨a, xs, rfl, h1, h2⟩ := S.snapL r e
      rw [h2.ints] at h1
      exact .inl ⟨a, ns, rfl, SqL.of h1, fun ns' p m1 m2 hp => hout S hp (RpL.of_ints ns') (k ns' m1 m2) q⟩
    · obtain ⟨a, xs, rfl, h1, h2⟩ := S.snapL r e
      obtain ⟨e1, e2⟩ := rpl_pairs S.le h2
      refine .inr ⟨a, xs, keyV H, rfl, SqL.of h1, fun x hx => ?_, fun ys p m1 m2 hp => ?_⟩
      · obtain ⟨t, z, _, h⟩ := rp_pair S.le (e2 x hx)
        exact ⟨t, z, h⟩
      · refine hout S hp (rpl_of fun v hv => e2 v (m2.perm.mem_iff.mp hv)) (k _ ?_ ?_) q
        · rw [← e1]
          exact m2.perm.map _
        · rw [List.pairwise_map]
          refine List.Pairwise.imp (fun {x y} h => ?_) m1
          have := SrtO.lexB_no.mp h
          unfold leP
          omega
  · exact t.elim
def oAbs : RnL := fun ls M K => match ls with
  | [.im (.int i)] => K (.im (.int (if i < 0 then -i else i))) M
  | _ => False
theorem absL {C : Fc} : CaL C (fun xs H Q => ∃ i, xs = [.int i] ∧ Q (.int (if i < 0 then -i else i)) H) oAbs := fun {As G H Γ M σ xs ls K Q} S rl t q => by
  unfold oAbs at t
  split at t
  · obtain ⟨v, rfl, r⟩ := rl.one
    exact ⟨_, by rw [int_of r], q (.im (.int _)) M _ As G H (Gr.refl S) (Rp.int _) t⟩
  · exact t.elim
def oStr : RnL := fun ls M K => match ls with
  | [.im (.int i)] => i.natAbs.log2 < 1920 ∧ K (.im (.str (toString i))) M
  | _ => False
theorem strL {C : Fc} : CaL C (fun xs H Q => ∃ i, xs = [.int i] ∧ i.natAbs.log2 < 1920 ∧ Q (.str (toString i)) H) oStr := fun {As G H Γ M σ xs ls K Q} S rl t q => by
  unfold oStr at t
  split at t
  · obtain ⟨v, rfl, r⟩ := rl.one
    exact ⟨_, by rw [int_of r], t.1, q (.im (.str _)) M _ As G H (Gr.refl S) (Rp.str _) t.2⟩
  · exact t.elim

/-! ### isinstance of a built-in type -/
def D.tyn : D → Option String
  | .non => some "NoneType"
  | .bl _ => some "bool"
  | .int _ => some "int"
  | .str _ => some "str"
  | .lst _ => some "list"
  | .tup _ => some "tuple"
  | .dct _ => some "dict"
  | _ => none
def isiB (n T : String) : Bool := (kitB n T).getD false
/-- the built-in type of what stands there -/
def tyL (M : Led) : Lo → Option String
  | .im d => d.tyn
  | .ow k => match M[k]? with
    | some (.li _) => some "list"
    | some (.ls _) => some "list"
    | some (.dc _) => some "dict"
    | some (.dm _) => some "dict"
    | _ => none
  | .tp _ => some "tuple"
def oIsi (T : String) : R1L := fun x M K => match tyL M x with
  | some n => (kitB n T).isSome = true ∧ K (.im (.bl (isiB n T))) M
  | none => False
theorem tyn_ok {C : Fc} {As : List Addr} {G H : Hp} {Γ : Gam} {M : Led} {σ : L2.St} {v : V} {l : Lo} {n : String} (S : Sat C As G H Γ M σ) (r : LRp C.K As G v l) (h : tyL M l = some n) : TyX C.K H v (.type n) := by
  cases l with
  | im d' =>
    have h : d'.tyn = some n := h
    cases r <;> cases h
    · exact .base .non
    · exact .base (.bl _)
    · exact .base (.int _)
    · exact .base (.str _)
    · rename_i a xs ds e rr
      exact .base (.lst (S.le _ _ e))
    · rename_i a xs ds e rr
      exact .base (.tup (S.le _ _ e))
    · rename_i a kvs ks e rr q
      exact .base (.dK (S.le _ _ e))
  | tp ls =>
    obtain ⟨a, xs, rfl, e, _⟩ := r
    cases h
    exact .base (.tup (S.le _ _ e))
  | ow k =>
    obtain ⟨a, ha, rfl⟩ := r
    simp only [tyL] at h
    split at h
    · rename_i es e1
      cases h
      obtain ⟨_, o, h0, xs, rfl, rx⟩ := S.own _ _ _ ha e1 (by intro z; cases z)
      exact .base (.lst h0)
    · rename_i es e1
      cases h
      obtain ⟨_, o, h0, xs, rfl, rx⟩ := S.own _ _ _ ha e1 (by intro z; cases z)
      exact .base (.lst h0)
    · rename_i es e1
      cases h
      obtain ⟨_, o, h0, xs, rfl, rx⟩ := S.own _ _ _ ha e1 (by intro z; cases z)
      exact .base (.dK h0)
    · rename_i es e1
      cases h
      obtain ⟨_, o, h0, xs, rfl, rx⟩ := S.own _ _ _ ha e1 (by intro z; cases z)
      exact .base (.dK h0)
    · cases h
theorem q_isi {C : Fc} {X : Cx} {a : Expr} {ta : RE} {xT : Str} {p p2 pos : Pos} (T : String) (hK : C.K = X.K) (hm : X.mg "isinstance" = none) (hmT : X.mg xT = none) (hvT : bootBuiltins xT = some (.type T)) (ha : QE C X a ta) (hg : Gl X "isinstance" := by rfl) (hgT : Gl X xT := by rfl)
    (hn : xT ≠ "__name__" := by decide) (hdb : (xT == ("__debug__" : Str)) = false := by decide)
    (he : starEach [a, .Name xT p2] X.env = (false, eval a X.env) :: starEach [.Name xT p2] X.env := by rfl) (he2 : starEach [.Name xT p2] X.env = (false, eval (.Name xT p2) X.env) :: starEach [] X.env := by rfl) (hpl : (backTo pos (starEach [.Name xT p2] X.env)).any (·.1) = false := by rfl) :
    QE C X (.Call (.Name "isinstance" p) [a, .Name xT p2] [] pos) (qUn (oIsi T) ta) :=
  PE.imp (pe_callB call_isi hg hm (by decide +kernel) (pa_cons ha (pa_cons (pe_bltn (v := .ty T) hgT hmT hvT rfl hn hdb) pa_nil he2) he) (by decide) (by decide) he hpl) fun σ H Q ⟨As, G, Γ, M, K, S, t, q⟩ => ⟨As, G, Γ, M, _, S, t, fun l M1 v As1 G1 H1 g1 rv t1 => by
    unfold oIsi at t1
    split at t1
    · rename_i n en
      rw [← hK]
      have ty := tyn_ok g1.sat rv en
      obtain ⟨h1, h2⟩ := t1
      refine ⟨v, .ty T, .type n, .type T, isiB n T, rfl, .ty T, ty, kit_ty ?_, q (.im (.bl _)) M1 _ As1 G1 H1 g1 (Rp.bl _) h2⟩
      unfold isiB
      cases e3 : kitB n T with
      | none => rw [e3] at h1; cases h1
      | some b => rfl
    · exact t1.elim⟩

/-! ### repr -/
/-- a datum that repr shows: it may be shown, and its text is short -/
def okr (d : D) : Bool := d.flat && d.pd.showable && decide (d.pd.depth ≤ 64) && decide (d.pd.shown.length ≤ sizeLine)
def oRepr : RnL := fun ls M K => match ls with
  | [x] => match snap M x with
    | some d => okr d = true ∧ K (.im (.str d.pd.shown)) M
    | none => False
  | _ => False
mutual
theorem noDict_pd : ∀ d : D, d.pd.hasDict = false
  | .non => rfl
  | .bl _ => rfl
  | .int _ => rfl
  | .str _ => rfl
  | .lst ds => noDict_pdL ds
  | .tup ds => noDict_pdL ds
  | .ty _ => rfl
  | .cl _ => rfl
  | .kls _ => rfl
  | .scr _ => rfl
  | .dct _ => rfl
  | .ins _ _ => rfl
  | .exc _ _ => rfl
theorem noDict_pdL : ∀ ds : List D, PyData.hasDictAll (D.pdL ds) = false
  | [] => rfl
  | d :: ds => by
    show (d.pd.hasDict || PyData.hasDictAll (D.pdL ds)) = false
    rw [noDict_pd d, noDict_pdL ds]
    rfl
end
/-- by the value: a scalar, or an object that reads as the datum -/
theorem call_repr {X : Cx} (hg : X.A.guards = some []) (hu : X.A.units + 70 < cLine) : CallR X (.builtin "repr") (fun xs H Q => ∃ x d, xs = [x] ∧ Dp X.K H x d ∧ d.showable = true ∧ d.hasDict = false ∧ d.depth ≤ 64 ∧ d.shown.length ≤ sizeLine ∧ Q (.str d.shown) H) := by
  intro pins s σ H xs us Q I r h
  obtain ⟨x, d, rfl, hd, h1, h2, h3, h4, q⟩ := h
  obtain ⟨u, rfl, ru⟩ := vals1 r
  have leaf : ∀ {t : Str} {tk tk' : Tok}, t = d.shown → EP X pins σ Q (.str t tk) { s with toks := tk' } := fun {t tk tk'} e => by
    subst e
    exact ⟨.str d.shown, H, I.tok _, ⟨_, rfl⟩, q⟩
  cases hd with
  | non => cases ru; exact PySem.P.repr_of_none (leaf (by simp [PyData.shown]))
  | bl b => cases ru; exact PySem.P.repr_of_bool (leaf (by simp [PyData.shown]))
  | int i => obtain ⟨t, rfl⟩ := ru; exact PySem.P.repr_of_int (by simpa [PyData.showable] using h1) (leaf (by simp [PyData.shown]))
  | str y => obtain ⟨t, rfl⟩ := ru; exact PySem.P.repr_of_str (leaf (by simp [PyData.shown])) (by simpa [PyData.shown] using h4)
  | lst hs ha =>
    cases ru
    obtain ⟨as, rd⟩ := Dp.reads I _ _ _ (.lst hs ha) (show RelV (.ref _) (.ref _) from rfl)
    exact PySem.repr_of_reads' rd h1 (PyData.noDict_hsm h2) hg (by omega) (fun _ _ e => e) (fun h' u tk hk => ⟨.str _, H, I.kept hk, ⟨_, rfl⟩, q⟩) h4
  | tup hs ha =>
    cases ru
    obtain ⟨as, rd⟩ := Dp.reads I _ _ _ (.tup hs ha) (show RelV (.ref _) (.ref _) from rfl)
    exact PySem.repr_of_reads' rd h1 (PyData.noDict_hsm h2) hg (by omega) (fun _ _ e => e) (fun h' u tk hk => ⟨.str _, H, I.kept hk, ⟨_, rfl⟩, q⟩) h4
theorem reprL {C : Fc} : CaL C (fun xs H Q => ∃ x d, xs = [x] ∧ Dp C.K H x d ∧ d.showable = true ∧ d.hasDict = false ∧ d.depth ≤ 64 ∧ d.shown.length ≤ sizeLine ∧ Q (.str d.shown) H) oRepr := fun {As G H Γ M σ xs ls K Q} S rl t q => by
  unfold oRepr at t
  split at t
  · obtain ⟨v, rfl, r⟩ := rl.one
    split at t
    · rename_i d e
      obtain ⟨h1, h2⟩ := t
      unfold okr at h1
      simp only [Bool.and_eq_true, decide_eq_true_eq] at h1
      exact ⟨v, d.pd, rfl, S.dp r e h1.1.1.1, h1.1.1.2, noDict_pd d, h1.1.2, h1.2, q (.im (.str _)) M _ As G H (Gr.refl S) (Rp.str _) h2⟩
    · exact t.elim
  · exact t.elim
end Dl

set_option Elab.async false
set_option maxRecDepth 100000
set_option maxHeartbeats 1000000
namespace Dl
open PySem L2
section
variable {C : Fc} {X : Cx} {x : Str} {p pos tpos : Pos} {e e2 tg a b c : Expr} {es : List Expr} {te te2 : RE} {t : RA} {kk : Nat}
def rIList (te : RE) : RI := fun Γ M K => te Γ M fun l M1 => match l with
  | .im (.lst ds) => K ds M1
  | _ => False
def rITup (te : RE) : RI := fun Γ M K => te Γ M fun l M1 => match l with
  | .im (.tup ds) => K ds M1
  | _ => False
theorem sqL_get {K : PySem.W.Frag} {H : Hp} {a : Addr} {xs ys : List V} (h : H a = some (.lst xs)) (q : Rd H a (.lst ys)) : ys = xs := by
  rcases q with q | ⟨o, q⟩
  · rw [h] at q
    injection q with q
    injection q with q
    exact q.symm
  · rw [h] at q
    injection q with q
    cases q
theorem q_ilist (hK : C.K = X.K) (he : QE C X e te) : QI C X tg e (rIList te) := PI.imp (pi_list he) fun σ H R ⟨As, G, Γ, M, K, S, t, q⟩ => ⟨As, G, Γ, M, _, S, t, fun l M1 v As1 G1 H1 g1 rv t1 => by
  split at t1
  · rename_i ds
    cases rv with
    | lst h r =>
      refine ⟨_, rfl, ⟨_, SqL.of (g1.sat.le _ _ h)⟩, q ds M1 As1 G1 H1 _ g1 (fun i As2 G2 H2 Γ2 M2 σ2 S2 sg => ⟨fun d hd => ?_, fun hi => ?_⟩) t1⟩
      · have h2 := S2.le _ _ (sg _ _ h)
        obtain ⟨w, hw, rw'⟩ := (r.mono sg).get hd
        refine ⟨⟨_, w, SqL.of h2, hw⟩, fun y H' hy => ?_⟩
        obtain ⟨rfl, hy⟩ := hy
        have := hy _ (SqL.of h2)
        rw [hw] at this
        cases this
        exact ⟨G2, Gr.refl S2, rw'⟩
      · exact ⟨_, SqL.of (S2.le _ _ (sg _ _ h)), by rw [r.length]; exact hi⟩
  · exact t1.elim⟩
theorem q_itup (hK : C.K = X.K) (he : QE C X e te) : QI C X tg e (rITup te) := PI.imp (pi_tup he) fun σ H R ⟨As, G, Γ, M, K, S, t, q⟩ => ⟨As, G, Γ, M, _, S, t, fun l M1 v As1 G1 H1 g1 rv t1 => by
  split at t1
  · rename_i ds
    cases rv with
    | tup h r =>
      refine ⟨_, rfl, ⟨_, SqT.of (g1.sat.le _ _ h)⟩, q ds M1 As1 G1 H1 _ g1 (fun i As2 G2 H2 Γ2 M2 σ2 S2 sg => ⟨fun d hd => ?_, fun hi => ?_⟩) t1⟩
      · have h2 := S2.le _ _ (sg _ _ h)
        obtain ⟨w, hw, rw'⟩ := (r.mono sg).get hd
        refine ⟨⟨_, w, SqT.of h2, hw⟩, fun y H' hy => ?_⟩
        obtain ⟨rfl, hy⟩ := hy
        have := hy _ (SqT.of h2)
        rw [hw] at this
        cases this
        exact ⟨G2, Gr.refl S2, rw'⟩
      · exact ⟨_, SqT.of (S2.le _ _ (sg _ _ h)), by rw [r.length]; exact hi⟩
  · exact t1.elim⟩
/-- lo, lo + 1, .. -/
def rangeD (lo : Int) (n : Nat) : List D := (List.range n).map fun (i : Nat) => D.int (lo + i)
theorem rangeD_get {lo : Int} {n i : Nat} {d : D} : (rangeD lo n)[i]? = some d ↔ i < n ∧ d = .int (lo + i) := by
  unfold rangeD
  rw [List.getElem?_map]
  by_cases h : i < n
  · rw [List.getElem?_range h]
    simp [h, eq_comm]
  · rw [List.getElem?_eq_none (by rw [List.length_range]; omega)]
    simp [h]
theorem rangeD_len {lo : Int} {n : Nat} : (rangeD lo n).length = n := by simp [rangeD]
theorem range_it {As1 : List Addr} {G1 : Hp} {lo : Int} {n : Nat} : ItD C As1 G1 (Itr lo n) (rangeD lo n) := fun i As2 G2 H2 Γ2 M2 σ2 S2 sg => ⟨fun d hd => by
  obtain ⟨h1, rfl⟩ := rangeD_get.mp hd
  refine ⟨h1, fun y H' hy => ?_⟩
  obtain ⟨rfl, rfl⟩ := hy
  exact ⟨G2, Gr.refl S2, .int _⟩, fun hi => by rw [rangeD_len] at hi; exact hi⟩
def rIRan1 (t : RA) : RI := fun Γ M K => t Γ M fun ls M1 => match ls with
  | [.im (.int j)] => -4611686018427387904 ≤ j ∧ j < 4611686018427387904 ∧ K (rangeD 0 j.toNat) M1
  | _ => False
def rIRan2 (t : RA) : RI := fun Γ M K => t Γ M fun ls M1 => match ls with
  | [.im (.int i), .im (.int j)] => (-4611686018427387904 ≤ i ∧ i < 4611686018427387904 ∧ -4611686018427387904 ≤ j ∧ j < 4611686018427387904) ∧ K (rangeD i (j - i).toNat) M1
  | _ => False
theorem q_iran1 (hm : X.mg "range" = none) (ha : QA C X [a] t) (hg : Gl X "range" := by rfl) (hs : starEach [a] X.env = [(false, eval a X.env)] := by rfl) : QI C X tg (.Call (.Name "range" p) [a] [] pos) (rIRan1 t) :=
  PI.imp (pi_range1 hg hm ha hs) fun σ H R ⟨As, G, Γ, M, K, S, t, q⟩ => ⟨As, G, Γ, M, _, S, t, fun ls M1 vs As1 G1 H1 g1 rv t1 => by
    split at t1
    · obtain ⟨v, rfl, r⟩ := rv.one
      exact ⟨_, by rw [int_of r], by omega, by omega, q _ M1 As1 G1 H1 _ g1 range_it t1.2.2⟩
    · exact t1.elim⟩
theorem q_iran2 (hm : X.mg "range" = none) (ha : QA C X [a, b] t) (hg : Gl X "range" := by rfl) (hs : starEach [a, b] X.env = [(false, eval a X.env), (false, eval b X.env)] := by rfl) (hs2 : starEach [b] X.env = [(false, eval b X.env)] := by rfl) : QI C X tg (.Call (.Name "range" p) [a, b] [] pos) (rIRan2 t) :=
  PI.imp (pi_range2 hg hm ha hs hs2) fun σ H R ⟨As, G, Γ, M, K, S, t, q⟩ => ⟨As, G, Γ, M, _, S, t, fun ls M1 vs As1 G1 H1 g1 rv t1 => by
    split at t1
    · obtain ⟨v, v', rfl, r, r'⟩ := rv.two
      exact ⟨_, _, by rw [int_of r, int_of r'], by omega, q _ M1 As1 G1 H1 _ g1 range_it t1.2⟩
    · exact t1.elim⟩
/-- enumerate, zip -/
def enumD (ds : List D) : List D := ds.zipIdx.map fun p => .tup [.int (p.2 : Nat), p.1]
theorem enumD_get {ds : List D} {i : Nat} {d : D} : (enumD ds)[i]? = some d ↔ ∃ y, ds[i]? = some y ∧ d = .tup [.int (i : Nat), y] := by
  unfold enumD
  rw [List.getElem?_map, List.getElem?_zipIdx]
  cases e : ds[i]? with
  | none => simp
  | some y => simp [eq_comm]
theorem enumD_len {ds : List D} : (enumD ds).length = ds.length := by simp [enumD]
def rIEnum (t : RA) : RI := fun Γ M K => t Γ M fun ls M1 => match ls with
  | [.im (.lst ds)] => K (enumD ds) M1
  | _ => False
theorem q_ienum (hK : C.K = X.K) (hm : X.mg "enumerate" = none) (ha : QA C X [e] t) (hg : Gl X "enumerate" := by rfl) (hs : starEach [e] X.env = [(false, eval e X.env)] := by rfl) : QI C X (.Tuple es kk tpos) (.Call (.Name "enumerate" p) [e] [] pos) (rIEnum t) :=
  PI.imp (pi_enum hg hm ha hs) fun σ H R ⟨As, G, Γ, M, K, S, t, q⟩ => ⟨As, G, Γ, M, _, S, t, fun ls M1 vs As1 G1 H1 g1 rv t1 => by
    split at t1
    · rename_i ds
      obtain ⟨v, rfl, r⟩ := rv.one
      cases r with
      | lst h r =>
        refine ⟨_, _, rfl, SqL.of (g1.sat.le _ _ h), q _ M1 As1 G1 H1 _ g1 (fun i As2 G2 H2 Γ2 M2 σ2 S2 sg => ⟨fun d hd => ?_, fun hi => ?_⟩) t1⟩
        · obtain ⟨y, hy, rfl⟩ := enumD_get.mp hd
          have h2 := S2.le _ _ (sg _ _ h)
          obtain ⟨w, hw, rw'⟩ := (r.mono sg).get hy
          refine ⟨⟨_, w, SqL.of h2, hw⟩, fun z H' hz => ?_⟩
          obtain ⟨T, x, rfl, hT, rfl, hx⟩ := hz
          have := hx _ (SqL.of h2)
          rw [hw] at this
          cases this
          exact ⟨_, Gr.frz S2 hT, rp_new_t S2 hT (.cons (.int _) (.one rw'))⟩
        · rw [enumD_len] at hi
          exact ⟨_, SqL.of (S2.le _ _ (sg _ _ h)), by rw [r.length]; exact hi⟩
    · exact t1.elim⟩
def zipD (ds es : List D) : List D := (ds.zip es).map fun p => .tup [p.1, p.2]
theorem zipD_get {ds es : List D} {i : Nat} {d : D} : (zipD ds es)[i]? = some d ↔ ∃ y z, ds[i]? = some y ∧ es[i]? = some z ∧ d = .tup [y, z] := by
  unfold zipD
  rw [List.getElem?_map, List.zip, List.getElem?_zipWith]
  cases e1 : ds[i]? with
  | none => simp
  | some y =>
    cases e2 : es[i]? with
    | none => simp
    | some z => simp [eq_comm]
theorem zipD_len {ds es : List D} : (zipD ds es).length = min ds.length es.length := by simp [zipD]
def rIZip (t : RA) : RI := fun Γ M K => t Γ M fun ls M1 => match ls with
  | [.im (.lst ds), .im (.lst es)] => K (zipD ds es) M1
  | _ => False
theorem q_izip (hK : C.K = X.K) (hm : X.mg "zip" = none) (ha : QA C X [e, e2] t) (hg : Gl X "zip" := by rfl) (hs : starEach [e, e2] X.env = (false, eval e X.env) :: starEach [e2] X.env := by rfl) (hpl : (backTo pos (starEach [e2] X.env)).any (·.1) = false := by rfl) :
    QI C X (.Tuple es kk tpos) (.Call (.Name "zip" p) [e, e2] [] pos) (rIZip t) :=
  PI.imp (pi_zip hg hm ha hs hpl) fun σ H R ⟨As, G, Γ, M, K, S, t, q⟩ => ⟨As, G, Γ, M, _, S, t, fun ls M1 vs As1 G1 H1 g1 rv t1 => by
    split at t1
    · rename_i ds es
      obtain ⟨v, v', rfl, r, r'⟩ := rv.two
      cases r with
      | lst h r =>
        cases r' with
        | lst h' r' =>
          refine ⟨_, _, _, _, rfl, SqL.of (g1.sat.le _ _ h), SqL.of (g1.sat.le _ _ h'), q _ M1 As1 G1 H1 _ g1 (fun i As2 G2 H2 Γ2 M2 σ2 S2 sg => ⟨fun d hd => ?_, fun hi => ?_⟩) t1⟩
          · obtain ⟨y, z, hy, hz, rfl⟩ := zipD_get.mp hd
            have h2 := S2.le _ _ (sg _ _ h)
            have h2' := S2.le _ _ (sg _ _ h')
            obtain ⟨w, hw, rw1⟩ := (r.mono sg).get hy
            obtain ⟨w', hw', rw2⟩ := (r'.mono sg).get hz
            refine ⟨⟨_, _, w, w', SqL.of h2, SqL.of h2', hw, hw'⟩, fun z H' hz => ?_⟩
            obtain ⟨T, x, x', rfl, hT, rfl, hx, hx'⟩ := hz
            have e1 := hx _ (SqL.of h2)
            have e2 := hx' _ (SqL.of h2')
            rw [hw] at e1
            rw [hw'] at e2
            cases e1
            cases e2
            exact ⟨_, Gr.frz S2 hT, rp_new_t S2 hT (.cons rw1 (.one rw2))⟩
          · rw [zipD_len] at hi
            refine ⟨_, _, SqL.of (S2.le _ _ (sg _ _ h)), SqL.of (S2.le _ _ (sg _ _ h')), ?_⟩
            rw [r.length, r'.length]
            omega
    · exact t1.elim⟩
end
/-! ### methods of lists -/
section
variable {C : Fc} {X : Cx} {o e : Expr} {es : List Expr} {to : RE} {t : RA} {name : Str} {apos cpos : Pos} {T id : String} {r : V → List V → Hp → VK → Prop}
/-- o.m(e, ..) by values -/
abbrev RmL := Lo → List Lo → Led → (Lo → Led → Prop) → Prop
def MeL (C : Fc) (T : String) (r : V → List V → Hp → VK → Prop) (ρ : RmL) : Prop := ∀ {As : List Addr} {G H : Hp} {Γ : Gam} {M : Led} {σ : L2.St} {x : V} {xs : List V} {l : Lo} {ls : List Lo} {K : Lo → Led → Prop} {Q : VK}, Sat C As G H Γ M σ → LRp C.K As G x l → LRpL C.K As G xs ls → ρ l ls M K →
  (∀ (l : Lo) (M' : Led) (v : V) (As' : List Addr) (G' H' : Hp), Gr C As G As' G' H' Γ M' σ → LRp C.K As' G' v l → K l M' → Q v H') → r x xs H Q
/-- is the value of the type T, whatever it holds -/
def isTy (T : String) (M : Led) (l : Lo) : Bool := match T, tyL M l with
  | "list", some "list" => true
  | "dict", some "dict" => true
  | "str", some "str" => true
  | "int", some "int" => true
  | _, _ => false
theorem ty_list {As : List Addr} {G H : Hp} {Γ : Gam} {M : Led} {σ : L2.St} {v : V} {l : Lo} (S : Sat C As G H Γ M σ) (r : LRp C.K As G v l) (h : tyL M l = some "list") : ∃ a xs, v = .ref a ∧ H a = some (.lst xs) := by
  cases l with
  | im d =>
    replace h : d.tyn = some "list" := h
    cases r <;> first | (rename_i a xs ds e rr; exact ⟨a, xs, rfl, S.le _ _ e⟩) | (exact absurd h (by simp [D.tyn]))
  | tp ls => exact absurd h (by simp [tyL])
  | ow k =>
    obtain ⟨a, ha, rfl⟩ := r
    simp only [tyL] at h
    split at h
    · rename_i es e1
      obtain ⟨_, o, h0, xs, rfl, rx⟩ := S.own _ _ _ ha e1 (by intro z; cases z)
      exact ⟨a, xs, rfl, h0⟩
    · rename_i es e1
      obtain ⟨_, o, h0, xs, rfl, rx⟩ := S.own _ _ _ ha e1 (by intro z; cases z)
      exact ⟨a, xs, rfl, h0⟩
    · simp at h
    · simp at h
    · cases h
theorem ty_dict {As : List Addr} {G H : Hp} {Γ : Gam} {M : Led} {σ : L2.St} {v : V} {l : Lo} (S : Sat C As G H Γ M σ) (r : LRp C.K As G v l) (h : tyL M l = some "dict") : ∃ a xs, v = .ref a ∧ H a = some (.dK xs) := by
  cases l with
  | im d =>
    replace h : d.tyn = some "dict" := h
    cases r <;> first | (rename_i a kvs ks e rr rk; exact ⟨a, _, rfl, S.le _ _ e⟩) | (exact absurd h (by simp [D.tyn]))
  | tp ls => exact absurd h (by simp [tyL])
  | ow k =>
    obtain ⟨a, ha, rfl⟩ := r
    simp only [tyL] at h
    split at h
    · simp at h
    · simp at h
    · rename_i es e1
      obtain ⟨_, o, h0, xs, rfl, rx⟩ := S.own _ _ _ ha e1 (by intro z; cases z)
      exact ⟨a, xs, rfl, h0⟩
    · rename_i es e1
      obtain ⟨_, o, h0, xs, rfl, rx⟩ := S.own _ _ _ ha e1 (by intro z; cases z)
      exact ⟨a, xs, rfl, h0⟩
    · cases h
theorem ty_im {M : Led} {l : Lo} {n : String} (h : tyL M l = some n) (h1 : n ≠ "list") (h2 : n ≠ "dict") (h3 : n ≠ "tuple") : ∃ d, l = .im d ∧ d.tyn = some n := by
  cases l with
  | im d => exact ⟨d, rfl, h⟩
  | tp ls => exact absurd (Option.some.inj h).symm h3
  | ow k =>
    simp only [tyL] at h
    split at h
    · exact absurd (Option.some.inj h).symm h1
    · exact absurd (Option.some.inj h).symm h1
    · exact absurd (Option.some.inj h).symm h2
    · exact absurd (Option.some.inj h).symm h2
    · cases h
theorem isTy_ok {As : List Addr} {G H : Hp} {Γ : Gam} {M : Led} {σ : L2.St} {v : V} {l : Lo} (S : Sat C As G H Γ M σ) (r : LRp C.K As G v l) (h : isTy T M l = true) : tyV C.K T v H := by
  unfold isTy at h
  split at h
  · rename_i e
    obtain ⟨a, xs, rfl, h1⟩ := ty_list S r e
    exact .inl ⟨rfl, xs, SqL.of h1⟩
  · rename_i e
    obtain ⟨a, xs, rfl, h1⟩ := ty_dict S r e
    exact .inr (.inr (.inl ⟨rfl, .inl ⟨_, h1⟩⟩))
  · rename_i e
    obtain ⟨d, rfl, e2⟩ := ty_im e (by decide) (by decide) (by decide)
    cases r <;> first | rfl | exact absurd e2 (by simp [D.tyn])
  · rename_i e
    obtain ⟨d, rfl, e2⟩ := ty_im e (by decide) (by decide) (by decide)
    cases r <;> first | rfl | exact absurd e2 (by simp [D.tyn])
  · cases h
def rMe (T : String) (ρ : RmL) (to : RE) (t : RA) : RE := fun Γ M K => to Γ M fun l M1 => isTy T M1 l = true ∧ t Γ M1 fun ls M2 => ρ l ls M2 K
theorem q_me {ρ : RmL} (hl : MeL C T r ρ) (hK : C.K = X.K) (pa : PlainAttrs T) (slot : Slot T name id) (hty : typeOf (.builtin id) = pure (.type "method_descriptor")) (hm : MtR X id r) (ho : QE C X o to) (ha : QA C X (e :: es) t)
    (hbase : attributeBase o name X.env (eval o X.env) = eval o X.env := by rfl)
    (hfew : ((backTo cpos (starEach (e :: es) X.env)).all (fun x => !x.1) && (backToKw cpos (keywordEach [] X.env)).all (fun x => x.1.isSome)
      && decide ((e :: es).length + ([] : List Keyword).length + (if ([] : List Keyword).isEmpty then 0 else 1) < 30)) = true := by rfl)
    (hline : (apos.endLine == cpos.line) = true := by rfl) (hs : starEach (e :: es) X.env = (false, eval e X.env) :: starEach es X.env := by rfl) (hplain : (backTo cpos (starEach es X.env)).any (·.1) = false := by rfl) :
    QE C X (.Call (.Attribute o name apos) (e :: es) [] cpos) (rMe T ρ to t) :=
  PE.imp (pe_bm pa slot hty hm ho ha hbase hfew hline hs hplain) fun σ H Q ⟨As, G, Γ, M, K, S, t, q⟩ => ⟨As, G, Γ, M, _, S, t, fun l M1 v As1 G1 H1 g1 rv t1 => ⟨hK ▸ isTy_ok g1.sat rv t1.1, As1, G1, Γ, M1, _, g1.sat, t1.2, fun ls M2 vs As2 G2 H2 g2 rl t2 =>
    hl g2.sat (rv.mono g2.g g2.p) rl t2 fun l M' v As' G' H' g rv k => q l M' v As' G' H' (g1.trans (g2.trans g)) rv k⟩⟩
def rMe0 (T : String) (ρ : RmL) (to : RE) : RE := fun Γ M K => to Γ M fun l M1 => isTy T M1 l = true ∧ ρ l [] M1 K
theorem q_me0 {ρ : RmL} (hl : MeL C T r ρ) (hK : C.K = X.K) (pa : PlainAttrs T) (slot : Slot T name id) (hty : typeOf (.builtin id) = pure (.type "method_descriptor")) (hm : MtR X id r) (ho : QE C X o to)
    (hbase : attributeBase o name X.env (eval o X.env) = eval o X.env := by rfl) (hline : (apos.endLine == cpos.line) = true := by rfl) : QE C X (.Call (.Attribute o name apos) [] [] cpos) (rMe0 T ρ to) :=
  PE.imp (pe_bm0 pa slot hty hm ho hbase hline) fun σ H Q ⟨As, G, Γ, M, K, S, t, q⟩ => ⟨As, G, Γ, M, _, S, t, fun l M1 v As1 G1 H1 g1 rv t1 => ⟨hK ▸ isTy_ok g1.sat rv t1.1,
    hl g1.sat rv .nil t1.2 fun l M' v As' G' H' g rv k => q l M' v As' G' H' (g1.trans g) rv k⟩⟩
end
section
variable {C : Fc}
/-- xs.append(x), a list of one's own -/
def oAppend : RmL := fun l ls M K => match l with
  | .ow k => match M[k]? with
    | some (.li ds) => match ls with
      | [.im d] => ds.length < sizeLine ∧ K (.im .non) (M.set k (.li (ds ++ [d])))
      | [y] => ds.length < sizeLine ∧ K (.im .non) (M.set k (.ls (ds.map Lo.im ++ [y])))
      | _ => False
    | some (.ls xs) => match ls with
      | [y] => xs.length < sizeLine ∧ K (.im .non) (M.set k (.ls (xs ++ [y])))
      | _ => False
    | _ => False
  | _ => False
theorem appendL : MeL C "list" rAppend oAppend := fun {As G H Γ M σ x xs l ls K Q} S r rl t q => by
  unfold oAppend at t
  split at t
  · obtain ⟨a, ha, rfl⟩ := r
    split at t
    · rename_i ds e
      split at t
      · obtain ⟨v, rfl, rv⟩ := rl.one
        obtain ⟨_, o, h0, xs, rfl, rx⟩ := S.own _ _ _ ha e (by intro z; cases z)
        exact ⟨a, xs, v, rfl, rfl, h0, by rw [rx.length]; exact t.1, q (.im .non) _ _ As G _ ⟨S.write (m' := .li _) ha e (by intro z; cases z) ⟨_, rfl, rx.app (.one rv)⟩, Same.refl _, List.prefix_refl _⟩ Rp.non t.2⟩
      · obtain ⟨v, rfl, rv⟩ := rl.one
        obtain ⟨_, o, h0, xs, rfl, rx⟩ := S.own _ _ _ ha e (by intro z; cases z)
        exact ⟨a, xs, v, rfl, rfl, h0, by rw [rx.length]; exact t.1, q (.im .non) _ _ As G _ ⟨S.write (m' := .ls _) ha e (by intro z; cases z) ⟨_, rfl, (LRpL.of_data rx).app (.cons rv .nil)⟩, Same.refl _, List.prefix_refl _⟩ Rp.non t.2⟩
      · exact t.elim
    · rename_i ds e
      split at t
      · obtain ⟨v, rfl, rv⟩ := rl.one
        obtain ⟨_, o, h0, xs, rfl, rx⟩ := S.own _ _ _ ha e (by intro z; cases z)
        exact ⟨a, xs, v, rfl, rfl, h0, by rw [rx.length]; exact t.1, q (.im .non) _ _ As G _ ⟨S.write (m' := .ls _) ha e (by intro z; cases z) ⟨_, rfl, rx.app (.cons rv .nil)⟩, Same.refl _, List.prefix_refl _⟩ Rp.non t.2⟩
      · exact t.elim
    · exact t.elim
  · exact t.elim
/-- xs.extend(ys) -/
def oExtend : RmL := fun l ls M K => match l with
  | .ow k => match M[k]? with
    | some (.li ds) => match ls with
      | [y] => match snap M y with
        | some (.lst es) => ds.length + es.length ≤ sizeLine ∧ K (.im .non) (M.set k (.li (ds ++ es)))
        | _ => False
      | _ => False
    | _ => False
  | _ => False
theorem extendL : MeL C "list" rExtend oExtend := fun {As G H Γ M σ x xs l ls K Q} S r rl t q => by
  unfold oExtend at t
  split at t
  · obtain ⟨a, ha, rfl⟩ := r
    split at t
    · rename_i ds e
      split at t
      · obtain ⟨v, rfl, rv⟩ := rl.one
        split at t
        · rename_i es e2
          obtain ⟨b, ys, rfl, hb, ry⟩ := S.snapL rv e2
          obtain ⟨_, o, h0, xs, rfl, rx⟩ := S.own _ _ _ ha e (by intro z; cases z)
          exact ⟨a, b, xs, ys, rfl, rfl, h0, hb, by rw [rx.length, ry.length]; exact t.1, q (.im .non) _ _ As G _ ⟨S.write (m' := .li _) ha e (by intro z; cases z) ⟨_, rfl, rx.app ry⟩, Same.refl _, List.prefix_refl _⟩ Rp.non t.2⟩
        · exact t.elim
      · exact t.elim
    · exact t.elim
  · exact t.elim
/-- xs.pop(i) -/
def oPopAt : RmL := fun l ls M K => match l with
  | .ow k => match M[k]? with
    | some (.li ds) => match ls with
      | [.im (.int i)] => ∃ j d, -9223372036854775808 ≤ i ∧ i < 9223372036854775808 ∧ seqIndex? i ds.length = some j ∧ ds[j]? = some d ∧ K (.im d) (M.set k (.li (ds.eraseIdx j)))
      | _ => False
    | _ => False
  | _ => False
theorem popAtL : MeL C "list" rPopAt oPopAt := fun {As G H Γ M σ x xs l ls K Q} S r rl t q => by
  unfold oPopAt at t
  split at t
  · obtain ⟨a, ha, rfl⟩ := r
    split at t
    · rename_i ds e
      split at t
      · obtain ⟨v, rfl, rv⟩ := rl.one
        obtain ⟨j, d, h1, h2, h3, h4, h5⟩ := t
        obtain ⟨_, o, h0, xs, rfl, rx⟩ := S.own _ _ _ ha e (by intro z; cases z)
        obtain ⟨y, hy, ry⟩ := rx.get h4
        exact ⟨a, xs, _, j, y, rfl, by rw [int_of rv], h0, by omega, by omega, by rw [rx.length]; exact h3, hy, q (.im d) _ _ As G _ ⟨S.write (m' := .li _) ha e (by intro z; cases z) ⟨_, rfl, rx.erase j⟩, Same.refl _, List.prefix_refl _⟩ ry h5⟩
      · exact t.elim
    · exact t.elim
  · exact t.elim
end
end Dl

set_option Elab.async false
set_option maxRecDepth 100000
set_option maxHeartbeats 1000000
namespace Dl
open PySem L2
/-! ### short words for generated terms -/
def exF : EX := fun _ _ _ => False
theorem exF_mono : ∀ x Γ M Mu, exF x Γ M → exF x Γ (M ++ Mu) := fun _ _ _ _ h => h
theorem tkF {X : Cx} {C : Fc} : Takes X (UW C exF) := takes0.imp fun _ _ _ _ ⟨_, _, _, _, _, _, _, h⟩ => h
/-- a def of the text, as the top has left it -/
structure Df (K : PySem.W.Frag) (mg : Str → Option Value) (x qual : Str) (st : Stmt) (ps : List Str) where
  f : Addr
  fd : FuncData
  F : Fun K x qual st f fd
  m : mg x = some (.ref f)
  b : Binds K fd ps []
section
variable {X : Cx}
theorem op_eqU {k : Nat} (hr : Room k X.A) : OpR X (compareOp .Eq) (rEqU X.K) := op_eq.or (op_eqD hr.units)
theorem op_neU {k : Nat} (hr : Room k X.A) : OpR X (compareOp .NotEq) (rNeU X.K) := op_ne.or (op_neD hr.units)
theorem cr_minU (hc : X.calm = true) : CallR X (.builtin "min") (fun xs H Q => (∃ i j, xs = [.int i, .int j] ∧ Q (.int (if j < i then j else i)) H) ∨ rMin X.K xs H Q) := (call_min2 hc).or (cr_min hc)
theorem cr_maxU (hc : X.calm = true) : CallR X (.builtin "max") (fun xs H Q => (∃ i j, xs = [.int i, .int j] ∧ Q (.int (if j > i then j else i)) H) ∨ rMax X.K xs H Q) := (call_max2 hc).or (cr_max hc)
theorem cr_srtU : CallR X (.builtin "sorted") (rSrtU X.K) := cr_sortedI.or cr_sortedPO
theorem room70 {k : Nat} (hr : Room k X.A) : X.A.units + 70 < cLine := by have := hr.un; omega
end
end Dl

set_option Elab.async false
set_option maxRecDepth 100000
set_option maxHeartbeats 1000000
namespace Dl
open PySem L2
/-! ### ends and lendings, the common cases -/
theorem pickN (M : Led) : PickOk [] M := ⟨List.nodup_nil, fun k h => by simp at h, trivial⟩
theorem pick1 {M : Led} {k : Nat} {ds : List D} (h : M[k]? = some (.li ds)) : PickOk [k] M ∧ pick [k] M = [.li ds] := by
  have hd : M.getD k .gone = .li ds := by rw [List.getD_eq_getElem?_getD, h]; rfl
  refine ⟨⟨by simp, fun j hj => ?_, ?_⟩, ?_⟩
  · obtain rfl : j = k := by simpa using hj
    exact (List.getElem?_eq_some_iff.mp h).1
  · show refM _ (M.getD k .gone) ∧ True
    rw [hd]
    exact ⟨trivial, trivial⟩
  · show [renM _ (M.getD k .gone)] = _
    rw [hd]
    rfl
theorem back0 {Kd : Lo → Led → Prop} {d : D} {M : Led} (h : Kd (.im d) []) : Back 0 Kd (.im d) M := ⟨[], rfl, pickN M, trivial, h⟩
theorem back0o {Kd : Lo → Led → Prop} {k : Nat} {ds : List D} {M : Led} (e : M[k]? = some (.li ds)) (h : Kd (.ow 0) [.li ds]) : Back 0 Kd (.ow k) M :=
  ⟨[k], rfl, (pick1 e).1, by show k ∈ [k]; simp, by rw [(pick1 e).2]; show Kd (.ow (loc [k] k)) _; simpa [loc] using h⟩
theorem back1 {Kd : Lo → Led → Prop} {d : D} {ds : List D} {M : Led} (e : M[0]? = some (.li ds)) (h : Kd (.im d) [.li ds]) : Back 1 Kd (.im d) M :=
  ⟨[0], rfl, (pick1 e).1, trivial, by rw [(pick1 e).2]; exact h⟩
theorem back1o {Kd : Lo → Led → Prop} {k : Nat} {ds es : List D} {M : Led} (hk : k ≠ 0) (e : M[0]? = some (.li ds)) (e2 : M[k]? = some (.li es)) (h : Kd (.ow 1) [.li ds, .li es]) : Back 1 Kd (.ow k) M := by
  have hd : M.getD 0 .gone = .li ds := by rw [List.getD_eq_getElem?_getD, e]; rfl
  have hd2 : M.getD k .gone = .li es := by rw [List.getD_eq_getElem?_getD, e2]; rfl
  refine ⟨[0, k], rfl, ⟨by simp; omega, fun j hj => ?_, ?_⟩, by show k ∈ [0, k]; simp, ?_⟩
  · rcases List.mem_cons.mp hj with rfl | hj
    · exact (List.getElem?_eq_some_iff.mp e).1
    · obtain rfl : j = k := by simpa using hj
      exact (List.getElem?_eq_some_iff.mp e2).1
  · show refM _ (M.getD 0 .gone) ∧ refM _ (M.getD k .gone) ∧ True
    rw [hd, hd2]
    exact ⟨trivial, trivial, trivial⟩
  · have e3 : pick [0, k] M = [.li ds, .li es] := by
      show [renM _ (M.getD 0 .gone), renM _ (M.getD k .gone)] = _
      rw [hd, hd2]
      rfl
    have e4 : renL (loc [0, k]) (.ow k) = .ow 1 := by
      show Lo.ow (List.idxOf k [0, k]) = _
      simp [List.idxOf_cons, show (0 == k) = false from by simp; omega]
    rw [e3, e4]
    exact h
theorem cutD_to {ds : List D} {n : Nat} : cutD ds none (some (n : Int)) = ds.take n := by
  unfold cutD
  rw [show HT.sIx ds.length 0 none = 0 from rfl, HT.sIx_nat, List.drop_zero, Nat.sub_zero]
  by_cases h : n ≤ ds.length
  · rw [Nat.min_eq_left h]
  · rw [Nat.min_eq_right (by omega), List.take_of_length_le (Nat.le_refl _), List.take_of_length_le (by omega)]
theorem atI_nat {α : Type} {ds : List α} {i : Int} (h0 : 0 ≤ i) : atI ds i = ds[i.toNat]? := by
  unfold atI ixN
  rw [if_pos h0]
  by_cases h : i < ds.length
  · rw [if_pos h]
    rfl
  · rw [if_neg h]
    rw [List.getElem?_eq_none (by omega)]
    rfl
theorem ft {P : Prop} (h : false = true) : P := nomatch h
theorem tf {P : Prop} (h : true = false) : P := nomatch h
theorem sz0 : 0 ≤ sizeLine := Nat.zero_le _
theorem sz3 : 3 ≤ sizeLine := by decide
end Dl

set_option Elab.async false
set_option maxRecDepth 100000
set_option maxHeartbeats 1000000
namespace Dl
open PySem L2
/-! ### data that may be shown and compared: fit, and how long its text is at most -/
mutual
def D.fit : D → Bool
  | .non => true
  | .bl _ => true
  | .int i => decide (i.natAbs < 10 ^ 40)
  | .str x => PyData.strOk x
  | .lst ds => D.fitL ds
  | .tup ds => D.fitL ds
  | _ => false
def D.fitL : List D → Bool
  | [] => true
  | d :: ds => d.fit && D.fitL ds
end
mutual
def D.wt : D → Nat
  | .int _ => 41
  | .str x => 10 * x.length + 2
  | .lst ds => 4 + D.wtL ds
  | .tup ds => 4 + D.wtL ds
  | _ => 6
def D.wtL : List D → Nat
  | [] => 0
  | d :: ds => (d.wt + 2) + D.wtL ds
end
mutual
def D.dep : D → Nat
  | .lst ds => D.depL ds + 1
  | .tup ds => D.depL ds + 1
  | _ => 0
def D.depL : List D → Nat
  | [] => 0
  | d :: ds => max d.dep (D.depL ds)
end
theorem listText_le : ∀ ts : List Str, (PySem.listText ts).length ≤ 4 + piled ts
  | [] => by decide
  | t :: r => by
    have h := textFrom_length_pos r 1 (("[" : Str) ++ (if (0 : Nat) > 0 then ", " else "" : String) ++ t) (Nat.succ_pos 0)
    have e : ((("[" : Str) ++ (if (0 : Nat) > 0 then ", " else "" : String) ++ t)).length = 1 + t.length := by
      rw [strLen_append, strLen_append]; rfl
    have hX : (PySem.listText (t :: r)).length = (textFrom 0 "[" (t :: r)).length + 1 := by
      show (textFrom 0 "[" (t :: r) ++ "]").length = _
      rw [strLen_append]; rfl
    have hY : (textFrom 0 "[" (t :: r)).length = (textFrom 1 (("[" : Str) ++ (if (0 : Nat) > 0 then ", " else "" : String) ++ t) r).length := rfl
    rw [hX, hY, h, e, piled_cons]; omega
theorem tupleText_le (ts : List Str) : (PySem.tupleText ts).length ≤ 4 + piled ts := by
  unfold PySem.tupleText
  rw [strLen_append, strLen_append]
  have e1 : ((("(" : String) : Str)).length = 1 := rfl
  have e3 : (((if ts.length == 1 then ",)" else ")" : String) : Str)).length ≤ 2 := by split <;> decide
  rw [e1]
  by_cases h : ts = []
  · subst h
    have : (Str.join ", " []).length = 0 := rfl
    rw [this]
    omega
  · have := join_length_add ts h
    omega
theorem strOk_lt {x : Str} (h : PyData.strOk x = true) : ∀ c ∈ x.cps.toList, c < 16 ^ 8 := fun c hc => by
  have h' : x.cps.all (· < 0x110000) = true := h
  rw [← Array.all_toList] at h'
  have := of_decide_eq_true (List.all_eq_true.mp h' c hc)
  omega
mutual
theorem fit_ok : ∀ d : D, d.fit = true → d.pd.shown.length ≤ d.wt ∧ d.pd.showable = true ∧ d.flat = true ∧ d.pd.canLay0 = true ∧ d.pd.depth = d.dep
  | .non, _ => ⟨by decide, rfl, rfl, rfl, rfl⟩
  | .bl b, _ => ⟨by cases b <;> decide, rfl, rfl, rfl, rfl⟩
  | .int i, h => by
    have h' : i.natAbs < 10 ^ 40 := of_decide_eq_true h
    refine ⟨?_, ?_, rfl, rfl, rfl⟩
    · show (Str.ofString (toString i)).length ≤ 41
      rw [PySem.ofString_length]
      exact int_text_length_le10 (k := 40) (by decide) h'
    · show decide (i.natAbs.log2 < 1920) = true
      refine decide_eq_true ?_
      by_cases z : i.natAbs = 0
      · rw [z]; decide
      · exact (Nat.log2_lt z).mpr (Nat.lt_of_lt_of_le h' (by decide))
  | .str x, h => by
    have h' : PyData.strOk x = true := h
    exact ⟨PySem.StrLaws.reprText_len x (strOk_lt h'), rfl, rfl, h', rfl⟩
  | .lst ds, h => by
    obtain ⟨h1, h2, h3, h4, h5⟩ := fitL_ok ds h
    refine ⟨?_, h2, h3, h4, ?_⟩
    · show (PySem.listText (PyData.shownAll (D.pdL ds))).length ≤ 4 + D.wtL ds
      have := listText_le (PyData.shownAll (D.pdL ds))
      omega
    · show PyData.depthAll (D.pdL ds) + 1 = D.depL ds + 1
      rw [h5]
  | .tup ds, h => by
    obtain ⟨h1, h2, h3, h4, h5⟩ := fitL_ok ds h
    refine ⟨?_, h2, h3, h4, ?_⟩
    · show (PySem.tupleText (PyData.shownAll (D.pdL ds))).length ≤ 4 + D.wtL ds
      have := tupleText_le (PyData.shownAll (D.pdL ds))
      omega
    · show PyData.depthAll (D.pdL ds) + 1 = D.depL ds + 1
      rw [h5]
  | .ty _, h => by cases h
  | .cl _, h => by cases h
  | .kls _, h => by cases h
  | .scr _, h => by cases h
  | .dct _, h => by cases h
  | .ins _ _, h => by cases h
  | .exc _ _, h => by cases h
theorem fitL_ok : ∀ ds : List D, D.fitL ds = true → piled (PyData.shownAll (D.pdL ds)) ≤ D.wtL ds ∧ PyData.showableAll (D.pdL ds) = true ∧ D.flatL ds = true ∧ PyData.canLayAll0 (D.pdL ds) = true ∧ PyData.depthAll (D.pdL ds) = D.depL ds
  | [], _ => ⟨Nat.zero_le _, rfl, rfl, rfl, rfl⟩
  | d :: ds, h => by
    have h' := Bool.and_eq_true_iff.mp (show (d.fit && D.fitL ds) = true from h)
    obtain ⟨a1, a2, a3, a4, a5⟩ := fit_ok d h'.1
    obtain ⟨b1, b2, b3, b4, b5⟩ := fitL_ok ds h'.2
    refine ⟨?_, ?_, ?_, ?_, ?_⟩
    · show piled (d.pd.shown :: PyData.shownAll (D.pdL ds)) ≤ (d.wt + 2) + D.wtL ds
      rw [piled_cons]
      omega
    · show (PyData.showable d.pd && PyData.showableAll (D.pdL ds)) = true
      rw [a2, b2]; rfl
    · show (d.flat && D.flatL ds) = true
      rw [a3, b3]; rfl
    · show (PyData.canLay0 d.pd && PyData.canLayAll0 (D.pdL ds)) = true
      rw [a4, b4]; rfl
    · show max (PyData.depth d.pd) (PyData.depthAll (D.pdL ds)) = max d.dep (D.depL ds)
      rw [a5, b5]
end
theorem okr_fit {d : D} (h : d.fit = true) (h2 : d.dep ≤ 64) (h3 : d.wt ≤ sizeLine) : okr d = true := by
  obtain ⟨a1, a2, a3, a4, a5⟩ := fit_ok d h
  unfold okr
  rw [a2, a3, decide_eq_true (by rw [a5]; exact h2), decide_eq_true (Nat.le_trans a1 h3)]
  rfl
theorem okd_fit {d : D} (h : d.fit = true) (h2 : d.dep ≤ 64) : okd d = true := by
  obtain ⟨a1, a2, a3, a4, a5⟩ := fit_ok d h
  unfold okd SeqAt.shaped
  rw [a3, a4, decide_eq_true (by rw [a5]; exact h2)]
  rfl
theorem eqv_self {d : D} (h : d.fit = true) : PyData.eqv d.pd d.pd = true := PySem.SeqAt.eqv_refl _ (fit_ok d h).2.2.2.1
theorem fitL_all {ds : List D} (h : ∀ d ∈ ds, d.fit = true) : D.fitL ds = true := by
  induction ds with
  | nil => rfl
  | cons d r ih =>
    show (d.fit && D.fitL r) = true
    rw [h d List.mem_cons_self, ih fun x hx => h x (List.mem_cons_of_mem _ hx)]
    rfl
theorem wtL_le {ds : List D} {n : Nat} (h : ∀ d ∈ ds, d.wt ≤ n) : D.wtL ds ≤ (n + 2) * ds.length := by
  induction ds with
  | nil => exact Nat.zero_le _
  | cons d r ih =>
    show (d.wt + 2) + D.wtL r ≤ (n + 2) * (r.length + 1)
    have := h d List.mem_cons_self
    have := ih fun x hx => h x (List.mem_cons_of_mem _ hx)
    rw [Nat.mul_add]
    omega
theorem depL_le {ds : List D} {n : Nat} (h : ∀ d ∈ ds, d.dep ≤ n) : D.depL ds ≤ n := by
  induction ds with
  | nil => exact Nat.zero_le _
  | cons d r ih =>
    show max d.dep (D.depL r) ≤ n
    exact Nat.max_le.mpr ⟨h d List.mem_cons_self, ih fun x hx => h x (List.mem_cons_of_mem _ hx)⟩
/-- a list (tuple) of at most n items, each fit, not deeper than k and of a text not longer than m -/
theorem okr_lst {ds : List D} (k m n : Nat) (h : ∀ d ∈ ds, d.fit = true ∧ d.dep ≤ k ∧ d.wt ≤ m) (hl : ds.length ≤ n) (hk : k ≤ 63 := by decide) (hz : 4 + (m + 2) * n ≤ sizeLine := by decide) : okr (.lst ds) = true :=
  okr_fit (fitL_all fun d hd => (h d hd).1) (by have := depL_le fun d hd => (h d hd).2.1; show D.depL ds + 1 ≤ 64; omega)
    (by have h1 := wtL_le fun d hd => (h d hd).2.2
        have h2 := Nat.mul_le_mul_left (m + 2) hl
        show 4 + D.wtL ds ≤ sizeLine
        omega)
theorem okr_tup {ds : List D} (k m n : Nat) (h : ∀ d ∈ ds, d.fit = true ∧ d.dep ≤ k ∧ d.wt ≤ m) (hl : ds.length ≤ n) (hk : k ≤ 63 := by decide) (hz : 4 + (m + 2) * n ≤ sizeLine := by decide) : okr (.tup ds) = true :=
  okr_fit (fitL_all fun d hd => (h d hd).1) (by have := depL_le fun d hd => (h d hd).2.1; show D.depL ds + 1 ≤ 64; omega)
    (by have h1 := wtL_le fun d hd => (h d hd).2.2
        have h2 := Nat.mul_le_mul_left (m + 2) hl
        show 4 + D.wtL ds ≤ sizeLine
        omega)
theorem fit_int {i : Int} (h : i.natAbs < 10 ^ 40) : (D.int i).fit = true ∧ (D.int i).dep ≤ 0 ∧ (D.int i).wt ≤ 41 := ⟨decide_eq_true h, Nat.le_refl _, Nat.le_refl _⟩
theorem fit_non : D.non.fit = true ∧ D.non.dep ≤ 0 ∧ D.non.wt ≤ 41 := ⟨rfl, Nat.le_refl _, by decide⟩
theorem okd_ints (ns : List Int) : okd (.lst (ns.map D.int)) = true := by
  have h1 : ∀ ns : List Int, D.flatL (ns.map D.int) = true ∧ PyData.canLayAll0 (D.pdL (ns.map D.int)) = true ∧ PyData.depthAll (D.pdL (ns.map D.int)) = 0 := fun ns => by
    induction ns with
    | nil => exact ⟨rfl, rfl, rfl⟩
    | cons n r ih =>
      obtain ⟨a, b, c⟩ := ih
      refine ⟨a, b, ?_⟩
      show max 0 (PyData.depthAll (D.pdL (r.map D.int))) = 0
      rw [c]
      rfl
  obtain ⟨a, b, c⟩ := h1 ns
  have e1 : (D.lst (ns.map D.int)).flat = true := a
  have e2 : (D.lst (ns.map D.int)).pd.canLay0 = true := b
  have e3 : (D.lst (ns.map D.int)).pd.depth = 0 + 1 := congrArg (· + 1) c
  unfold okd SeqAt.shaped
  rw [e1, e2, e3]
  rfl
theorem pdL_ints : ∀ ns : List Int, D.pdL (ns.map D.int) = ns.map PyData.int
  | [] => rfl
  | n :: r => congrArg (PyData.int n :: ·) (pdL_ints r)
theorem evInts : ∀ xs ys : List Int, PyData.eqvAll (xs.map PyData.int) (ys.map PyData.int) = decide (xs = ys)
  | [], [] => by simp only [List.map_nil, PyData.eqvAll, decide_true]
  | [], _ :: _ => by simp [PyData.eqvAll]
  | _ :: _, [] => by simp [PyData.eqvAll]
  | x :: xs, y :: ys => by
    have e : PyData.eqv (.int x) (.int y) = decide (x = y) := by
      simp only [PyData.eqv]
      by_cases h : x = y
      · subst h; simp
      · rw [decide_eq_false h]; simpa using h
    rw [List.map_cons, List.map_cons, PyData.eqvAll, e, evInts xs ys, ← Bool.decide_and]
    exact decide_eq_decide.mpr (by rw [List.cons.injEq])
theorem eqv_ints (ns ms : List Int) : PyData.eqv (D.lst (ns.map D.int)).pd (D.lst (ms.map D.int)).pd = decide (ns = ms) := by
  show PyData.eqvAll (D.pdL (ns.map D.int)) (D.pdL (ms.map D.int)) = _
  rw [pdL_ints, pdL_ints]
  exact evInts ns ms
/-- what is to be shown of a def, the program out of sight -/
abbrev Mt (sp : DSp) (rd : RS) (N : List Str) : Prop := ∀ {ls : List Lo} {M : Led} {Kd : Lo → Led → Prop} {Ed : Exn → Led → Prop}, sp ls M Kd Ed → rd { nx := fun _ M' => Back M.length Kd (.im .non) M', rt := Back M.length Kd } (gam0 N ls) M
theorem ixI (ns : List Int) {r : Int} (h0 : 0 ≤ r) (h : r < ns.length) : ∃ v, v ∈ ns ∧ atI (ns.map D.int) r = some (.int v) := by
  have hl : r.toNat < ns.length := by omega
  refine ⟨ns[r.toNat], List.getElem_mem hl, ?_⟩
  rw [atI_nat h0, List.getElem?_map, List.getElem?_eq_getElem hl]
  rfl
theorem ixD {ds : List D} {r : Int} (h0 : 0 ≤ r) (h : r < ds.length) : ∃ v, v ∈ ds ∧ atI ds r = some v ∧ ds[r.toNat]? = some v := by
  have hl : r.toNat < ds.length := by omega
  exact ⟨ds[r.toNat], List.getElem_mem hl, by rw [atI_nat h0, List.getElem?_eq_getElem hl], List.getElem?_eq_getElem hl⟩
theorem mem1 {k : Nat} : refL (· ∈ [k]) (.ow k) := by show k ∈ [k]; simp
theorem dvk {j : Int} (h : decide (0 < j ∧ j < 4611686018427387904) = true) : 0 < j ∧ j < 4611686018427387904 := of_decide_eq_true h
theorem mdk {j : Int} (h : decide (0 < j) = true) : 0 < j := of_decide_eq_true h
theorem szk {n : Nat} (h : decide (n ≤ 1000) = true) : n ≤ sizeLine := Nat.le_trans (of_decide_eq_true h) (by decide)
theorem szl {n : Nat} (h : n < 10000000) : n < sizeLine := Nat.lt_of_lt_of_le h (by decide)
end Dl

set_option Elab.async false
set_option maxRecDepth 100000
set_option maxHeartbeats 1000000
namespace Dl
open PySem L2
section
variable {C : Fc} {X : Cx} {x : Str} {p pos tpos : Pos} {e e2 tg a b c : Expr} {es : List Expr} {te te2 : RE} {t : RA} {kk : Nat}
/-! ### list(range(n)), starred items, a range downwards, [::-1], index -/
theorem rgV_rp {K : PySem.W.Frag} {G : Hp} (n : Int) : RpL K G (rgV 0 n) (rangeD 0 n.toNat) := by
  unfold rgV rangeD
  rw [Int.sub_zero]
  generalize n.toNat = m
  have go : ∀ l : List Nat, RpL K G (l.map fun i : Nat => V.int (0 + (i : Nat))) (l.map fun i : Nat => D.int (0 + (i : Nat))) := fun l => by
    induction l with
    | nil => exact .nil
    | cons h r ih => exact .cons (.int _) ih
  exact go _
def rLstRg (out : Hand) (te : RE) : RE := fun Γ M K => te Γ M fun l M1 => match l with
  | .im (.int n) => n ≤ 16777216 ∧ 0 ≤ n ∧ out (rangeD 0 n.toNat) M1 K
  | _ => False
theorem q_listRg {out : Hand} (hout : OutN out) (hc : X.calm = true) (hm : X.mg "list" = none) (hmr : X.mg "range" = none) (ha : QE C X a te) (hg : Gl X "list" := by rfl) (hgr : Gl X "range" := by rfl)
    (n1 : starEach [a] X.env = (false, eval a X.env) :: starEach [] X.env := by rfl) (n2 : starEach [.Call (.Name "range" p) [a] [] pos] X.env = (false, eval (.Call (.Name "range" p) [a] [] pos) X.env) :: starEach [] X.env := by rfl) {p2 pos2 : Pos} :
    QE C X (.Call (.Name "list" p2) [.Call (.Name "range" p) [a] [] pos] [] pos2) (rLstRg out te) :=
  PE.imp (pe_listRg hc hg hm (prg_1 hgr hmr ha n1) n2) fun σ H Q ⟨As, G, Γ, M, K, S, t, q⟩ => ⟨As, G, Γ, M, _, S, t, fun l M1 v As1 G1 H1 g1 rv t1 => by
    split at t1
    · rename_i n
      exact ⟨n, int_of rv, RgOk.of_le (Int.le_refl _) t1.1 (by decide) t1.2.1, fun q0 hq => hout g1.sat hq (rgV_rp n) t1.2.2 fun l2 M2 v2 As2 G2 H2 g2 r2 k2 => q l2 M2 v2 As2 G2 H2 (g1.trans g2) r2 k2⟩
    · exact t1.elim⟩
theorem RpL.lo {K : PySem.W.Frag} {As : List Addr} {G : Hp} : ∀ {vs : List V} {ds : List D}, RpL K G vs ds → LRpL K As G vs (ds.map Lo.im)
  | _, _, .nil => .nil
  | _, _, .cons h r => .cons h (RpL.lo r)
def rStar (te : RE) (t : RA) : RA := fun Γ M K => te Γ M fun x M1 => match seqOf M1 x with
  | some ds => t Γ M1 fun ys M2 => K (ds.map Lo.im ++ ys) M2
  | none => False
theorem q_star (hK : C.K = X.K) (he : QE C X e te) (hr : QA C X es t) (hs : starEach (.Starred e p :: es) X.env = (true, eval e X.env) :: starEach es X.env := by rfl) : QA C X (.Starred e p :: es) (rStar te t) :=
  PA.imp (StX.pa_star he hr hs) fun σ H Q ⟨As, G, Γ, M, K, S, t, q⟩ => ⟨As, G, Γ, M, _, S, t, fun l M1 v As1 G1 H1 g1 rv t1 => by
    split at t1
    · rename_i ds ed
      obtain ⟨a, xs, rfl, h1, h2⟩ := g1.sat.seq rv ed
      rw [hK] at h1
      exact ⟨a, xs, rfl, h1.symm, As1, G1, Γ, M1, _, g1.sat, t1, fun ls M2 vs As2 G2 H2 g2 rl k => q _ M2 _ As2 G2 H2 (g1.trans g2) ((h2.mono g2.g).lo.app rl) k⟩
    · exact t1.elim⟩
def downD (lo : Int) (n : Nat) : List D := (List.range n).map fun (i : Nat) => D.int (lo - i)
theorem downD_get {lo : Int} {n i : Nat} {d : D} : (downD lo n)[i]? = some d ↔ i < n ∧ d = .int (lo - i) := by
  unfold downD
  rw [List.getElem?_map]
  by_cases h : i < n
  · rw [List.getElem?_range h]
    simp [h, eq_comm]
  · rw [List.getElem?_eq_none (by rw [List.length_range]; omega)]
    simp [h]
theorem downD_len {lo : Int} {n : Nat} : (downD lo n).length = n := by simp [downD]
theorem down_it {As1 : List Addr} {G1 : Hp} {lo : Int} {n : Nat} : ItD C As1 G1 (Itc lo (-1) n) (downD lo n) := fun i As2 G2 H2 Γ2 M2 σ2 S2 sg => ⟨fun d hd => by
  obtain ⟨h1, rfl⟩ := downD_get.mp hd
  refine ⟨h1, fun y H' hy => ?_⟩
  obtain ⟨rfl, rfl⟩ := hy
  have e : lo + (i : Int) * -1 = lo - i := by omega
  rw [e]
  exact ⟨G2, Gr.refl S2, .int _⟩, fun hi => by rw [downD_len] at hi; exact hi⟩
def rIDown (t : RA) : RI := fun Γ M K => t Γ M fun ls M1 => match ls with
  | [.im (.int i), .im (.int j), .im (.int c)] => c = -1 ∧ (-4611686018427387904 ≤ i ∧ i < 4611686018427387904 ∧ -4611686018427387904 ≤ j ∧ j < 4611686018427387904) ∧ K (downD i (i - j).toNat) M1
  | _ => False
theorem LRpL.three {K : PySem.W.Frag} {As : List Addr} {G : Hp} {vs : List V} {l l' l'' : Lo} (r : LRpL K As G vs [l, l', l'']) : ∃ v v' v'', vs = [v, v', v''] ∧ LRp K As G v l ∧ LRp K As G v' l' ∧ LRp K As G v'' l'' := by
  cases r with
  | cons r1 r2 =>
    obtain ⟨v', v'', rfl, r3, r4⟩ := r2.two
    exact ⟨_, _, _, rfl, r1, r3, r4⟩
theorem q_idown (hm : X.mg "range" = none) (ha : QA C X [a, b, c] t) (hg : Gl X "range" := by rfl) (hs : starEach [a, b, c] X.env = (false, eval a X.env) :: starEach [b, c] X.env := by rfl) (hpl : (backTo pos (starEach [b, c] X.env)).any (·.1) = false := by rfl) :
    QI C X tg (.Call (.Name "range" p) [a, b, c] [] pos) (rIDown t) :=
  PI.imp (pi_range3 hg hm ha hs hpl) fun σ H R ⟨As, G, Γ, M, K, S, t, q⟩ => ⟨As, G, Γ, M, _, S, t, fun ls M1 vs As1 G1 H1 g1 rv t1 => by
    split at t1
    · obtain ⟨v, v', v'', rfl, r, r', r''⟩ := rv.three
      obtain ⟨rfl, ⟨h1, h2, h3, h4⟩, k⟩ := t1
      exact ⟨_, _, _, _, by rw [int_of r, int_of r', int_of r''], RgC.neg (by omega) (by omega) (by omega) (by omega), q _ M1 As1 G1 H1 _ g1 down_it k⟩
    · exact t1.elim⟩
def rRev (out : Hand) (te : RE) : RE := fun Γ M K => te Γ M fun l M1 => match snap M1 l with
  | some (.lst ds) => out ds.reverse M1 K
  | _ => False
theorem q_revL {out : Hand} (hout : OutN out) (hK : C.K = X.K) {k : Nat} {p1 p2 p3 : Pos} (he : QE C X e te) : QE C X (.Subscript e (.Slice none none (some (.UnaryOp .USub (.Constant (.int 1) k p1) p2)) p3) pos) (rRev out te) :=
  PE.imp (pe_revL he) fun σ H Q ⟨As, G, Γ, M, K, S, t, q⟩ => ⟨As, G, Γ, M, _, S, t, fun l M1 v As1 G1 H1 g1 rv t1 => by
    split at t1
    · rename_i ds ed
      obtain ⟨a, xs, rfl, h1, h2⟩ := g1.sat.snapL rv ed
      rw [← hK]
      exact ⟨a, xs, rfl, SqL.of h1, fun q0 hq => hout g1.sat hq h2.rev t1 fun l2 M2 v2 As2 G2 H2 g2 r2 k2 => q l2 M2 v2 As2 G2 H2 (g1.trans g2) r2 k2⟩
    · exact t1.elim⟩
def oIndex : RmL := fun l ls M K => match ls with
  | [.im (.int v)] => ∃ (ns : List Int) (j : Nat), snap M l = some (.lst (ns.map D.int)) ∧ ns[j]? = some v ∧ (∀ (m : Nat) (z : Int), m < j → ns[m]? = some z → z ≠ v) ∧ K (.im (.int j)) M
  | _ => False
theorem RpL.ints' {K : PySem.W.Frag} {G : Hp} : ∀ {vs : List V} {ns : List Int}, RpL K G vs (ns.map D.int) → vs = ns.map V.int
  | _, [], r => by cases r; rfl
  | _, n :: ns, r => by
    cases r with
    | cons h r =>
      cases h
      rw [RpL.ints' r]
      rfl
theorem indexL : MeL C "list" (rIndex C.K) oIndex := fun {As G H Γ M σ x xs l ls K Q} S r rl t q => by
  unfold oIndex at t
  split at t
  · rename_i v
    obtain ⟨ns, j, e1, e2, e3, k⟩ := t
    obtain ⟨w, rfl, r1⟩ := rl.one
    obtain rfl := int_of r1
    obtain ⟨a, ys, rfl, h1, h2⟩ := S.snapL r e1
    obtain rfl := RpL.ints' h2
    refine ⟨a, _, _, j, .int v, rfl, rfl, SqL.of h1, rfl, ?_, by rw [List.getElem?_map, e2]; rfl, ?_, ?_, q (.im (.int _)) M _ As G H (Gr.refl S) (Rp.int _) k⟩
    · rw [List.all_map]
      exact List.all_eq_true.mpr fun _ _ => rfl
    · show (v == v) = true
      simp
    · intro m z' hm hz
      rw [List.getElem?_map] at hz
      cases e4 : ns[m]? with
      | none => rw [e4] at hz; cases hz
      | some z =>
        rw [e4] at hz
        cases hz
        have := e3 m z hm e4
        show (z == v) = false
        simpa using this
  · exact t.elim
end
end Dl

set_option Elab.async false
set_option maxRecDepth 100000
set_option maxHeartbeats 1000000
namespace Dl
open PySem L2
/-! ### the ledger made smaller: objects that are frozen, slots and objects that are let go -/
def Wk (b : Nat) (Γ : Gam) (M : Led) (Γ' : Gam) (M' : Led) : Prop := ∀ {C : Fc} {As : List Addr} {G H : Hp} {σ : L2.St}, C.S.length ≤ b → C.Ab.length ≤ b → Sat C As G H Γ M σ → ∃ As' G' H', H' = H ∧ Sat C As' G' H' Γ' M' σ ∧ Same G G'
theorem Wk.refl {b : Nat} {Γ : Gam} {M : Led} : Wk b Γ M Γ M := fun {C As G H σ} _ _ S => ⟨As, G, H, rfl, S, Same.refl _⟩
theorem Wk.trans {b : Nat} {Γ Γ1 Γ2 : Gam} {M M1 M2 : Led} (h : Wk b Γ M Γ1 M1) (k : Wk b Γ1 M1 Γ2 M2) : Wk b Γ M Γ2 M2 := fun {C As G H σ} h1 h2 S => by
  obtain ⟨A1, G1, H1, rfl, S1, s1⟩ := h h1 h2 S
  obtain ⟨A2, G2, H2, rfl, S2, s2⟩ := k h1 h2 S1
  exact ⟨A2, G2, _, rfl, S2, s1.trans s2⟩
/-- slots forgotten -/
theorem wk_wipe (vs : List Nat) {b : Nat} {Γ : Gam} {M : Led} : Wk b Γ M (wipeG Γ vs) M := fun {C As G H σ} _ _ S =>
  ⟨As, G, H, rfl, S.sub (by rw [wipeG_length]; exact S.len) (fun i l e => (wipeG_some e).1) fun i l v e q => q, Same.refl _⟩
/-- what an owned object of data holds -/
def datM : MO → Option D
  | .li ds => some (.lst ds)
  | .ls ls => match allIm ls with
    | some ds => some (.lst ds)
    | none => none
  | .dc ks => some (.dct ks)
  | .dm ks => match allIm (ks.map (·.2)) with
    | some ds => some (.dct ((ks.map (·.1)).zip ds))
    | none => none
  | .ob C fs => match allIm (fs.map (·.2)) with
    | some ds => some (.ins C ((fs.map (·.1)).zip ds))
    | none => none
  | .gone => none
  | .dl _ _ _ => none
theorem zip_fst {α β : Type} : ∀ {xs : List α} {ys : List β}, xs.length = ys.length → (xs.zip ys).map (·.1) = xs
  | [], [], _ => rfl
  | x :: xs, y :: ys, h => by
    have := zip_fst (xs := xs) (ys := ys) (by simpa using h)
    simp [this]
theorem zip_snd {α β : Type} : ∀ {xs : List α} {ys : List β}, xs.length = ys.length → (xs.zip ys).map (·.2) = ys
  | [], [], _ => rfl
  | x :: xs, y :: ys, h => by
    have := zip_snd (xs := xs) (ys := ys) (by simpa using h)
    simp [this]
theorem datM_rp {K : PySem.W.Frag} {As : List Addr} {G : Hp} {o : HO} {m : MO} {d : D} {a : Addr} (r : MOis K As G o m) (h : datM m = some d) (hg : G a = some o) : Rp K G (.ref a) d := by
  cases m with
  | li ds =>
    obtain ⟨xs, rfl, rx⟩ := r
    cases h
    exact .lst hg rx
  | ls ls =>
    obtain ⟨xs, rfl, rx⟩ := r
    simp only [datM] at h
    split at h
    · rename_i ds e
      cases h
      exact .lst hg (allIm_rp rx e)
    · cases h
  | dc ks =>
    obtain ⟨kvs, rfl, h1, h2⟩ := r
    cases h
    exact .dct hg h1 h2
  | dm ks =>
    obtain ⟨kvs, rfl, h1, h2⟩ := r
    simp only [datM] at h
    split at h
    · rename_i ds e
      cases h
      have r2 := allIm_rp h2 e
      have hl : (ks.map (·.1)).length = ds.length := by
        have e2 := congrArg List.length (allIm_map e)
        simpa using e2
      exact .dct hg (by rw [zip_fst hl]; exact h1) (by rw [zip_snd hl]; exact r2)
    · cases h
  | ob C fs =>
    obtain ⟨dx, fvs, rfl, h1, h2⟩ := r
    simp only [datM] at h
    split at h
    · rename_i ds e
      cases h
      have r2 := allIm_rp h2 e
      have hl : (fs.map (·.1)).length = ds.length := by
        have e2 := congrArg List.length (allIm_map e)
        simpa using e2
      exact .ins hg (by rw [zip_fst hl]; exact h1) (by rw [zip_snd hl]; exact r2)
    · cases h
  | gone => cases h
  | dl _ _ _ => cases h
def mkTp (ls : List Lo) : Lo := match allIm ls with
  | some ds => .im (.tup ds)
  | none => .tp ls
mutual
/-- the k-th object seen as a datum -/
def frL (k : Nat) (d : D) : Lo → Lo
  | .im e => .im e
  | .ow j => if j = k then .im d else .ow j
  | .tp ls => mkTp (frLs k d ls)
def frLs (k : Nat) (d : D) : List Lo → List Lo
  | [] => []
  | l :: r => frL k d l :: frLs k d r
end
def frM (k : Nat) (d : D) : MO → MO
  | .ls ls => .ls (frLs k d ls)
  | .dm ks => .dm ((ks.map (·.1)).zip (frLs k d (ks.map (·.2))))
  | .ob C fs => .ob C ((fs.map (·.1)).zip (frLs k d (fs.map (·.2))))
  | m => m
theorem LRpS.of_tp {K : PySem.W.Frag} {As : List Addr} {G : Hp} {a : Addr} {xs : List V} {ls : List Lo} (h : G a = some (.tup xs)) (r : LRpS K As G xs ls) : LRp K As G (.ref a) (mkTp ls) := by
  unfold mkTp
  split
  · rename_i ds e
    exact Rp.tup h (allIm_rp r.l e)
  · exact ⟨a, xs, rfl, h, r⟩
theorem frLs_len (k : Nat) (d : D) : ∀ ls : List Lo, (frLs k d ls).length = ls.length
  | [] => rfl
  | _ :: r => congrArg (· + 1) (frLs_len k d r)
section
variable {K : PySem.W.Frag} {As : List Addr} {G G' : Hp} {k : Nat} {d : D} {b : Addr}
mutual
theorem LRp.fr (sg : Same G G') (ha : As[k]? = some b) (hd : Rp K G' (.ref b) d) : ∀ {v : V} {l : Lo}, LRp K As G v l → LRp K As G' v (frL k d l)
  | _, .im e, r => Rp.mono sg r
  | _, .ow j, r => by
    obtain ⟨a, h1, rfl⟩ := r
    unfold frL
    by_cases hj : j = k
    · rw [if_pos hj]
      subst hj
      rw [ha] at h1
      cases h1
      exact hd
    · rw [if_neg hj]
      exact ⟨a, h1, rfl⟩
  | _, .tp ls, r => by
    obtain ⟨a, xs, rfl, h2, h3⟩ := r
    unfold frL
    exact LRpS.of_tp (sg _ _ h2) (LRpS.fr sg ha hd h3)
theorem LRpS.fr (sg : Same G G') (ha : As[k]? = some b) (hd : Rp K G' (.ref b) d) : ∀ {xs : List V} {ls : List Lo}, LRpS K As G xs ls → LRpS K As G' xs (frLs k d ls)
  | _, [], r => r
  | _, l :: ls, r => by
    obtain ⟨v, vs, h1, h2, h3⟩ := r
    exact ⟨v, vs, h1, LRp.fr sg ha hd h2, LRpS.fr sg ha hd h3⟩
end
theorem MOis.fr (sg : Same G G') (ha : As[k]? = some b) (hd : Rp K G' (.ref b) d) {o : HO} {m : MO} (r : MOis K As G o m) : MOis K As G' o (frM k d m) := by
  cases m with
  | li ds => obtain ⟨xs, h1, h2⟩ := r; exact ⟨xs, h1, h2.mono sg⟩
  | ls ls => obtain ⟨xs, h1, h2⟩ := r; exact ⟨xs, h1, (LRpS.fr sg ha hd h2.s).l⟩
  | dc ks => obtain ⟨xs, h1, h2, h3⟩ := r; exact ⟨xs, h1, h2, h3.mono sg⟩
  | dm ks =>
    obtain ⟨xs, h1, h2, h3⟩ := r
    have hl : (ks.map (·.1)).length = (frLs k d (ks.map (·.2))).length := by rw [frLs_len]; simp
    exact ⟨xs, h1, by rw [zip_fst hl]; exact h2, by rw [zip_snd hl]; exact (LRpS.fr sg ha hd h3.s).l⟩
  | ob C fs =>
    obtain ⟨dx, xs, h1, h2, h3⟩ := r
    have hl : (fs.map (·.1)).length = (frLs k d (fs.map (·.2))).length := by rw [frLs_len]; simp
    exact ⟨dx, xs, h1, by rw [zip_fst hl]; exact h2, by rw [zip_snd hl]; exact (LRpS.fr sg ha hd h3.s).l⟩
  | gone => trivial
  | dl _ _ _ => obtain ⟨h1, h2, h3⟩ := r; exact ⟨h1, h2, h3.mono sg⟩
end
def frG (k : Nat) (d : D) : Option Lo → Option Lo
  | some l => some (frL k d l)
  | none => none
theorem frM_gone {k : Nat} {d : D} {m : MO} (h : frM k d m ≠ .gone) : m ≠ .gone := fun z => h (by rw [z]; rfl)
/-- an owned object of data frozen -/
theorem wk_frz (k : Nat) {d : D} {m : MO} {b : Nat} {Γ : Gam} {M : Led} (hk : M[k]? = some m) (hd : datM m = some d) : Wk b Γ M (Γ.map (frG k d)) ((M.map (frM k d)).set k .gone) := fun {C As G H σ} _ _ S => by
  have hm : m ≠ .gone := fun z => by rw [z] at hd; cases hd
  have hl : k < As.length := by rw [S.al]; exact (List.getElem?_eq_some_iff.mp hk).1
  have ha : As[k]? = some As[k] := List.getElem?_eq_getElem hl
  obtain ⟨g0, o, h0, rx⟩ := S.own _ _ _ ha hk hm
  have F := S.freeze ha hk hm h0
  have sg : Same G (upd G As[k] o) := Same.new g0
  have rd : Rp C.K (upd G As[k] o) (.ref As[k]) d := datM_rp (rx.mono sg (List.prefix_refl _)) hd upd_same
  refine ⟨As, upd G As[k] o, H, rfl, ⟨F.le, F.stp, fun j a m2 e1 e2 e3 => ?_, F.fr, F.inj, by rw [List.length_set, List.length_map]; exact S.al, F.asS, F.there, fun i l e => ?_, by rw [List.length_map]; exact F.len, F.bg, F.ba, F.tb⟩, sg⟩
  · by_cases hj : j = k
    · subst hj
      rw [List.getElem?_set_self (by rw [List.length_map, ← S.al]; exact hl)] at e2
      cases e2
      exact absurd rfl e3
    · rw [List.getElem?_set_ne (Ne.symm hj), List.getElem?_map] at e2
      cases e4 : M[j]? with
      | none => rw [e4] at e2; cases e2
      | some m1 =>
        rw [e4] at e2
        cases e2
        have hm1 := frM_gone e3
        obtain ⟨p1, u, p2, p3⟩ := S.own j a m1 e1 e4 hm1
        have hne : a ≠ As[k] := fun z => by
          subst z
          exact hj (nodup_ix2 S.inj e1 ha)
        rw [upd_ne hne]
        exact ⟨p1, u, p2, p3.fr sg ha rd⟩
  · rw [List.getElem?_map] at e
    cases e1 : Γ[i]? with
    | none => rw [e1] at e; cases e
    | some q =>
      rw [e1] at e
      have e' : frG k d q = some l := Option.some.inj e
      cases q with
      | none => cases e'
      | some l0 =>
        cases e'
        obtain ⟨v, q1, q2⟩ := S.slot i l0 e1
        exact ⟨v, q1, q2.fr sg ha rd⟩
/-- the youngest objects let go -/
theorem wk_cut (n : Nat) {b : Nat} {Γ : Gam} {M : Led} (hb : b ≤ n) (hn : n ≤ M.length) (hc : closed n (M.take n)) (hs : ∀ l, some l ∈ Γ → refL (· < n) l) : Wk b Γ M Γ (M.take n) := fun {C As G H σ} h1 h2 S => by
  have pre : ∀ {L : List Addr}, L.length ≤ b → L <+: As → L <+: As.take n := fun {L} hl hp => by
    exact List.prefix_take_iff.mpr ⟨hp, by omega⟩
  refine ⟨As.take n, G, H, rfl, S.cut hc (pre h1 S.asS) (pre h2 S.ba) (fun i l e => ?_) S.len, Same.refl _⟩
  obtain ⟨v, q1, q2⟩ := S.slot i l e
  exact ⟨v, q1, lrp_cut q2 (hs l (List.mem_of_getElem? e))⟩
def okG (n : Nat) : Gam → Prop
  | [] => True
  | some l :: r => refL (· < n) l ∧ okG n r
  | none :: r => okG n r
theorem okG_all {n : Nat} : ∀ {Γ : Gam}, okG n Γ → ∀ l, some l ∈ Γ → refL (· < n) l
  | none :: r, h, l, hl => by
    rcases List.mem_cons.mp hl with e | e
    · cases e
    · exact okG_all (Γ := r) h l e
  | some a :: r, h, l, hl => by
    rcases List.mem_cons.mp hl with e | e
    · cases e; exact h.1
    · exact okG_all h.2 l e
/-- ahead of a statement -/
def rWk (b : Nat) (t : RS) : RS := fun N Γ M => ∃ Γ' M', Wk b Γ M Γ' M' ∧ t N Γ' M'
section
variable {C : Fc} {X : Cx} {st : Stmt} {t : RS} {b : Nat}
theorem q_wk (h1 : C.S.length ≤ b) (h2 : C.Ab.length ≤ b) (h : QS C X st t) : QS C X st (rWk b t) := PS.imp h fun D σ H ⟨As, G, Γ, M, N, S, ⟨Γ', M', w, q⟩, f⟩ => by
  obtain ⟨A1, G1, H1, rfl, S1, s1⟩ := w h1 h2 S
  exact ⟨A1, G1, Γ', M', N, S1, q, f.mono ⟨S1, s1⟩⟩
end

/-! ### what is new, frozen at once -/
/-- the datum of a value whose objects are all from the n-th on -/
def frzL (n : Nat) (M : Led) : Nat → Lo → Option D
  | _, .im d => some d
  | 0, _ => none
  | f + 1, .ow k => if n ≤ k then match M[k]? with
      | some (.li ds) => some (.lst ds)
      | some (.ls ls) => (ls.mapM (frzL n M f)).map D.lst
      | some (.dc ks) => some (.dct ks)
      | some (.dm ks) => ((ks.map (·.2)).mapM (frzL n M f)).map fun ds => .dct ((ks.map (·.1)).zip ds)
      | some (.ob C fs) => ((fs.map (·.2)).mapM (frzL n M f)).map fun ds => .ins C ((fs.map (·.1)).zip ds)
      | _ => none
    else none
  | f + 1, .tp ls => (ls.mapM (frzL n M f)).map D.tup
theorem mapM_rp {K : PySem.W.Frag} {As : List Addr} {G G' : Hp} {g : Lo → Option D} (hg : ∀ v l d, LRp K As G v l → g l = some d → Rp K G' v d) : ∀ {xs : List V} {ls : List Lo} {ds : List D}, LRpL K As G xs ls → ls.mapM g = some ds → RpL K G' xs ds
  | _, [], ds, .nil, h => by
    cases h
    exact .nil
  | _, l :: ls, ds, .cons r rr, h => by
    rw [List.mapM_cons] at h
    cases e1 : g l with
    | none => rw [e1] at h; cases h
    | some d =>
      rw [e1] at h
      cases e2 : ls.mapM g with
      | none => rw [e2] at h; cases h
      | some es =>
        rw [e2] at h
        cases h
        exact .cons (hg _ _ _ r e1) (mapM_rp hg rr e2)
theorem mapM_len {g : Lo → Option D} : ∀ {ls : List Lo} {ds : List D}, ls.mapM g = some ds → ls.length = ds.length
  | [], ds, h => by cases h; rfl
  | l :: ls, ds, h => by
    rw [List.mapM_cons] at h
    cases e1 : g l with
    | none => rw [e1] at h; cases h
    | some d =>
      rw [e1] at h
      cases e2 : ls.mapM g with
      | none => rw [e2] at h; cases h
      | some es =>
        rw [e2] at h
        cases h
        exact congrArg (· + 1) (mapM_len e2)
theorem frzL_rp {K : PySem.W.Frag} {As : List Addr} {G G' : Hp} {M : Led} {n : Nat} (sg : Same G G') (hM : ∀ (k : Nat) (a : Addr) (m : MO), n ≤ k → As[k]? = some a → M[k]? = some m → m ≠ .gone → ∃ o, G' a = some o ∧ MOis K As G o m)
    (al : As.length = M.length) : ∀ (f : Nat) {v : V} {l : Lo} {d : D}, LRp K As G v l → frzL n M f l = some d → Rp K G' v d
  | 0, v, l, d, r, h => by
    cases l with
    | im e => cases h; exact Rp.mono sg r
    | ow k => cases h
    | tp ls => cases h
  | f + 1, v, l, d, r, h => by
    have ih := fun (v : V) (l : Lo) (d : D) (r : LRp K As G v l) (h : frzL n M f l = some d) => frzL_rp sg hM al f r h
    cases l with
    | im e => cases h; exact Rp.mono sg r
    | tp ls =>
      obtain ⟨a, xs, rfl, h2, h3⟩ := r
      unfold frzL at h
      cases e : ls.mapM (frzL n M f) with
      | none => rw [e] at h; cases h
      | some ds =>
        rw [e] at h
        cases h
        exact .tup (sg _ _ h2) (mapM_rp ih h3.l e)
    | ow k =>
      obtain ⟨a, ha, rfl⟩ := r
      unfold frzL at h
      split at h
      · rename_i hn
        split at h
        · rename_i ds e
          cases h
          obtain ⟨o, q1, xs, rfl, q2⟩ := hM k a _ hn ha e (by intro z; cases z)
          exact .lst q1 (q2.mono sg)
        · rename_i ls e
          obtain ⟨o, q1, xs, rfl, q2⟩ := hM k a _ hn ha e (by intro z; cases z)
          cases e2 : ls.mapM (frzL n M f) with
          | none => rw [e2] at h; cases h
          | some ds =>
            rw [e2] at h
            cases h
            exact .lst q1 (mapM_rp ih q2 e2)
        · rename_i ks e
          cases h
          obtain ⟨o, q1, xs, rfl, q2, q3⟩ := hM k a _ hn ha e (by intro z; cases z)
          exact .dct q1 q2 (q3.mono sg)
        · rename_i ks e
          obtain ⟨o, q1, xs, rfl, q2, q3⟩ := hM k a _ hn ha e (by intro z; cases z)
          cases e2 : (ks.map (·.2)).mapM (frzL n M f) with
          | none => rw [e2] at h; cases h
          | some ds =>
            rw [e2] at h
            cases h
            have hl : (ks.map (·.1)).length = ds.length := by have := mapM_len e2; simpa using this
            exact .dct q1 (by rw [zip_fst hl]; exact q2) (by rw [zip_snd hl]; exact mapM_rp ih q3 e2)
        · rename_i C fs e
          obtain ⟨o, q1, dx, xs, rfl, q2, q3⟩ := hM k a _ hn ha e (by intro z; cases z)
          cases e2 : (fs.map (·.2)).mapM (frzL n M f) with
          | none => rw [e2] at h; cases h
          | some ds =>
            rw [e2] at h
            cases h
            have hl : (fs.map (·.1)).length = ds.length := by have := mapM_len e2; simpa using this
            exact .ins q1 (by rw [zip_fst hl]; exact q2) (by rw [zip_snd hl]; exact mapM_rp ih q3 e2)
        · cases h
      · cases h
/-- everything from the n-th object on is frozen and let go -/
theorem Sat.freezeFrom {C : Fc} {As : List Addr} {G H : Hp} {Γ Γ' : Gam} {M : Led} {σ σ' : L2.St} (S : Sat C As G H Γ M σ) (n : Nat) (hc : closed n (M.take n)) (hS : C.S <+: As.take n) (hb : C.Ab <+: As.take n) :
    ∃ G', Same G G' ∧ (∀ (k : Nat) (a : Addr) (m : MO), n ≤ k → As[k]? = some a → M[k]? = some m → m ≠ .gone → ∃ o, G' a = some o ∧ MOis C.K As G o m) ∧
      ((∀ (i : Nat) (l : Lo), Γ'[i]? = some (some l) → ∃ v, σ'[i]? = some (some v) ∧ LRp C.K (As.take n) G v l) → Γ'.length = σ'.length → Sat C (As.take n) G' H Γ' (M.take n) σ') := by
  refine ⟨fun b => if b ∈ As.drop n then H b else G b, fun b o e => ?_, fun k a m hn e1 e2 e3 => ?_, fun hs hl => ?_⟩
  · show (if b ∈ As.drop n then H b else G b) = some o
    split
    · exact S.le b o e
    · exact e
  · obtain ⟨q1, o, q2, q3⟩ := S.own k a m e1 e2 e3
    refine ⟨o, ?_, q3⟩
    show (if a ∈ As.drop n then H a else G a) = some o
    rw [if_pos]
    · exact q2
    · refine List.mem_of_getElem? (i := k - n) ?_
      rw [List.getElem?_drop, show n + (k - n) = k by omega]
      exact e1
  · have nd : ∀ a ∈ As.take n, a ∉ As.drop n := fun a h1 h2 => by
      have := S.inj
      rw [← List.take_append_drop n As, List.nodup_append] at this
      exact this.2.2 a h1 a h2 rfl
    have sg : Same G (fun b => if b ∈ As.drop n then H b else G b) := fun b o e => by
      show (if b ∈ As.drop n then H b else G b) = some o
      split
      · exact S.le b o e
      · exact e
    have Z := S.cut (n := n) (Γ' := Γ') (σ' := σ') hc hS hb hs hl
    refine ⟨fun b o e => ?_, ⟨Z.stp.g.trans sg, fun a o h1 hT h2 h3 => ?_, Z.stp.d⟩, fun k a m e1 e2 e3 => ?_, Z.fr, Z.inj, Z.al, Z.asS, Z.there, fun i l e => ?_, Z.len, Z.bg.trans sg, Z.ba, fun P q e => ⟨(Z.tb P q e).1, (Z.tb P q e).2.keep sg (by
      show (if P ∈ As.drop n then H P else G P) = none
      rw [if_neg fun hm => (S.tb P q e).1 (List.mem_of_mem_drop hm)]
      exact (Z.tb P q e).2.1) rfl⟩⟩
    · have e' : (if b ∈ As.drop n then H b else G b) = some o := e
      split at e'
      · exact e'
      · exact S.le b o e'
    · obtain ⟨q1, q2⟩ := S.stp.k a o h1 hT h2 h3
      refine ⟨q1, ?_⟩
      show (if a ∈ As.drop n then H a else G a) = none
      rw [if_neg]
      · exact q2
      · intro hm
        rcases S.fr a (List.mem_of_mem_drop hm) with z | z
        · exact h1 z
        · rw [z] at h3; cases h3
    · obtain ⟨q1, o, q2, q3⟩ := Z.own k a m e1 e2 e3
      refine ⟨?_, o, q2, q3.mono sg (List.prefix_refl _)⟩
      show (if a ∈ As.drop n then H a else G a) = none
      rw [if_neg (nd a (List.mem_of_getElem? e1))]
      exact q1
    · obtain ⟨v, q1, q2⟩ := hs i l e
      exact ⟨v, q1, q2.mono sg (List.prefix_refl _)⟩
/-- e, whatever is new in it frozen -/
def rFz (te : RE) : RE := fun Γ M K => te Γ M fun l M1 => ∃ d, frzL M.length M1 8 l = some d ∧ closed M.length (M1.take M.length) ∧ K (.im d) (M1.take M.length)
section
variable {C : Fc} {X : Cx} {e : Expr} {te : RE}
theorem q_fz (h : QE C X e te) : QE C X e (rFz te) := PE.imp h fun σ H Q ⟨As, G, Γ, M, K, S, t, q⟩ => ⟨As, G, Γ, M, _, S, t, fun l M1 v As1 G1 H1 g rv ⟨d, hd, hc, k⟩ => by
  obtain ⟨tl, htl⟩ := g.p
  have eA : As1.take M.length = As := by rw [← htl, ← S.al]; simp
  obtain ⟨G2, sg, hM, fin⟩ := g.sat.freezeFrom (Γ' := Γ) (σ' := σ) M.length hc (by rw [eA]; exact S.asS) (by rw [eA]; exact S.ba)
  have Z := fin (fun i l e => by
    obtain ⟨w, q1, q2⟩ := S.slot i l e
    exact ⟨w, q1, by rw [eA]; exact q2.mono g.g (List.prefix_refl _)⟩) S.len
  rw [eA] at Z
  exact q (.im d) _ v As G2 H1 ⟨Z, g.g.trans sg, List.prefix_refl _⟩ (frzL_rp sg hM g.sat.al 8 rv hd) k⟩
end

/-! ### a call with lent objects; what comes back stands under a name -/
def rCallX (sp : DSp) (ex : EX) (t : RA) : RE := fun Γ M K => t Γ M fun ls M1 => ∃ is, PickOk is M1 ∧ refLs (· ∈ is) ls ∧
  sp (ls.map (renL (loc is))) (pick is M1) (fun l Mu => ∀ l' M', l' = renL (ren is M1.length) l → M' = put is Mu M1 → K l' M') fun x Mu => ∀ M', M' = put is Mu M1 → ex x Γ M'
def rCallE (sp : DSp) (is : List Nat) (ex : EX) (t : RA) : RE := fun Γ M K => t Γ M fun ls M1 => PickOk is M1 ∧ refLs (· ∈ is) ls ∧
  sp (ls.map (renL (loc is))) (pick is M1) (fun l Mu => ∀ l' M', l' = renL (ren is M1.length) l → M' = put is Mu M1 → K l' M') fun x Mu => ex x Γ (put is Mu M1)
section
variable {C : Fc} {X : Cx} {k : Nat} {f : Addr} {fd : FuncData} {ps : List Str} {sp : DSp} {is : List Nat} {ex : EX} {x : Str} {p pos : Pos} {e : Expr} {es : List Expr} {t : RA}
theorem q_callX (F : Gn C.T X.prog X.w X.K X.mg X.base k f fd ps sp) (hm : X.mg x = some (.ref f)) (hb : Binds X.K fd ps []) (hk : PySem.W.keepIn X.K (.ref f) = true) (hr : Room k X.A) (hg : X.A.guards = some []) (hK : C.K = X.K) (tk : Takes X (UW C ex)) (ha : QA C X (e :: es) t)
    (hgl : Gl X x := by rfl) (hdb : (x == ("__debug__" : Str)) = false := by decide) (he : starEach (e :: es) X.env = (false, eval e X.env) :: starEach es X.env := by rfl) (hpl : (backTo pos (starEach es X.env)).any (·.1) = false := by rfl) :
    QE C X (.Call (.Name x p) (e :: es) [] pos) (rCallX sp ex t) := ⟨fun pins s σ H Q I ⟨As, G, Γ, M, K, S, h, q⟩ => by
  refine wpAny_Call_Name_kw (ld_glob I hgl hm ?_ hdb)
  have hA := ha.run pos pins s σ H (fun vs H1 => ∃ (As1 : List Addr) (G1 : Hp) (M1 : Led) (ls : List Lo), Gr C As G As1 G1 H1 Γ M1 σ ∧ LRpL C.K As1 G1 vs ls ∧ _) I ⟨As, G, Γ, M, _, S, h, fun ls M1 vs As1 G1 H1 g1 rl k1 => ⟨As1, G1, M1, ls, g1, rl, k1⟩⟩
  refine PySem.W.callWith_K (h₀ := X.base) I.ok.mod.kin hk (thn hA fun us s1 ⟨vs, H1, I1, r, As1, G1, M1, ls, g1, rl, is, ok, hls, h1⟩ => ⟨I1.kIn, ?_⟩) he hpl
  exact run_gn F hr hg hb hK tk I1 r g1.sat rl ok hls h1 (fun l Mu v As' G' H' g rv k => q _ _ v As' G' H' (g1.trans g) rv (k _ _ rfl rfl)) fun x Mu h => h _ rfl⟩
theorem q_callE (is : List Nat) (F : Gn C.T X.prog X.w X.K X.mg X.base k f fd ps sp) (hm : X.mg x = some (.ref f)) (hb : Binds X.K fd ps []) (hk : PySem.W.keepIn X.K (.ref f) = true) (hr : Room k X.A) (hg : X.A.guards = some []) (hK : C.K = X.K) (tk : Takes X (UW C ex)) (ha : QA C X (e :: es) t)
    (hgl : Gl X x := by rfl) (hdb : (x == ("__debug__" : Str)) = false := by decide) (he : starEach (e :: es) X.env = (false, eval e X.env) :: starEach es X.env := by rfl) (hpl : (backTo pos (starEach es X.env)).any (·.1) = false := by rfl) :
    QE C X (.Call (.Name x p) (e :: es) [] pos) (rCallE sp is ex t) := ⟨fun pins s σ H Q I ⟨As, G, Γ, M, K, S, h, q⟩ => by
  refine wpAny_Call_Name_kw (ld_glob I hgl hm ?_ hdb)
  have hA := ha.run pos pins s σ H (fun vs H1 => ∃ (As1 : List Addr) (G1 : Hp) (M1 : Led) (ls : List Lo), Gr C As G As1 G1 H1 Γ M1 σ ∧ LRpL C.K As1 G1 vs ls ∧ _) I ⟨As, G, Γ, M, _, S, h, fun ls M1 vs As1 G1 H1 g1 rl k1 => ⟨As1, G1, M1, ls, g1, rl, k1⟩⟩
  refine PySem.W.callWith_K (h₀ := X.base) I.ok.mod.kin hk (thn hA fun us s1 ⟨vs, H1, I1, r, As1, G1, M1, ls, g1, rl, ok, hls, h1⟩ => ⟨I1.kIn, ?_⟩) he hpl
  exact run_gn F hr hg hb hK tk I1 r g1.sat rl ok hls h1 (fun l Mu v As' G' H' g rv k => q _ _ v As' G' H' (g1.trans g) rv (k _ _ rfl rfl)) fun x Mu h => h⟩
end
end Dl

set_option Elab.async false
set_option maxRecDepth 100000
set_option maxHeartbeats 1000000
namespace Dl
open PySem L2
/-! ### raise X('..'), X an own class without own __init__ -/
structure Xcl (K : PySem.W.Frag) (mg : Str → Option Value) (x : String) (bm : List Value) (nw : String) : Prop where
  g : mg (Str.ofString x) = some (.ref (cn K x))
  q : PySem.W.excIn K (cn K x) bm nw = true
  k : PySem.W.keepIn K (.ref (cn K x)) = true
  b : PySem.W.subIn K (.ref (cn K x)) (.type "BaseException") = some true
  t : PySem.W.typeIn K (.ref (cn K x)) = some (.type "type")
def rRaise (x : String) (ex : EX) : RS := fun _ Γ M => ex ⟨x, none⟩ Γ M
section
variable {C : Fc} {X : Cx} {m : Str} {x : String} {j : Nat} {p p2 pos pos2 : Pos} {ex : EX} {bm : List Value} {B nw ni : String}
theorem q_raise (hc : X.calm = true) (F : ExcBaseFacts B nw ni bm) (D : Xcl X.K X.mg x bm nw) (hK : C.K = X.K) (tk : Takes X (UW C ex)) (hg : Gl X (Str.ofString x) := by rfl) (hdb : (Str.ofString x == ("__debug__" : Str)) = false := by decide) :
    QS C X (.Raise (some (.Call (.Name (Str.ofString x) p) [.Constant (.str m) j p2] [] pos)) none pos2) (rRaise x ex) :=
  PS.imp (ps_raise hc tk (pmk_own F D.q D.g D.k (raises_own D.b D.t) hg hdb)) fun D' σ H ⟨As, G, Γ, M, N, S, t, f⟩ => (⟨As, G, Γ, M, ⟨x, none⟩, S, ⟨by rw [hK], rfl⟩, t⟩ : UW C ex (.ref (cn X.K x)) none σ H)
end
end Dl

set_option Elab.async false
set_option maxRecDepth 100000
set_option maxHeartbeats 1000000
/-! zip(a, b, strict=False): as without the keyword -/
namespace PySem
open F
theorem typeCall_zip_k (a b v : Value) : checkTypeCall "zip" ⟨[a, b], [("strict", v)]⟩ = pure () := by kernel_rfl
theorem newCall_zip_k (a b v : Value) : checkBuiltinCall "zip.__new__" ⟨[.type "zip", a, b], [("strict", v)]⟩ = pure () := by kernel_rfl
theorem args_init_k (a b c v : Value) : argsOk "object.__init__" ⟨[a, b, c], [("strict", v)]⟩ := by
  unfold argsOk; (rw [signature?_of (id := "object.__init__") (n := ['_', '_', 't', 'i', 'n', 'i', '_', '_']) (o := ['t', 'c', 'e', 'j', 'b', 'o']) (by kernel_rfl) owner_object]); kernel_rfl
theorem meets_zip_k (l1 l2 : Addr) (xs ys : Array Value) : Meets (Builtin.«zip.__new__» ⟨[.type "zip", .ref l1, .ref l2], [("strict", .bool false)]⟩)
    (fun _ R s => s.heap.IsList l1 xs ∧ s.heap.IsList l2 ys ∧ R (.ok (.ret (.ref (zipH4 s.heap l1 l2).objs.size))) { s with heap := zipH5 s.heap l1 l2 }) := .of_wp fun prog w A R s h => by
  obtain ⟨hp, g, d, tk, os⟩ := s
  obtain ⟨q1, q2, h⟩ := h
  have hsub := sub_zip
  have hL1 : (Shared.mk hp g d tk os).heap.IsList l1 xs := q1
  have hL2 : (Shared.mk (hp.push { cls := .type "list_iterator", data := .fields #[.ref l1, .int 0 0] }) g d tk os).heap.IsList l2 ys := q2.push _
  wp_walk using wpAny_pyIter_list hL1, wpAny_pyIter_list hL2
  exact ⟨_, rfl, h⟩
section
variable {prog : Program} {w : World} {A : Around} {E : Value → Shared → Prop} {s : Shared}
theorem initK {T newId : String} {self a : Value} {rest : List Value} {kw : List (Str × Value)} (hl : typeLookup (.type T) "__init__" = pure (some (.builtin "object.__init__")))
    (hm : Bind.madeBy (.type T) = pure (some newId)) (hne : (some newId != some "object.__new__") = true) :
    Meets (Builtin.«object.__init__» ⟨self :: a :: rest, kw⟩) (fun _ R s => s.TypeIs self T ∧ R (.ok (.ret .none)) s) := .of_wp fun prog w A R s ⟨hT, hq⟩ => by
  (repeat (any_goals (first | assumption | wp_step)))
  exact ⟨_, rfl, hq⟩
theorem callTypeK {T newId : String} {Bn : Builtin} {a₀ : Value} {args : List Value} {kw : List (Str × Value)} {S : Spec} {Q : Value → Shared → Prop} (ft : TypeCalled T newId "object.__init__") (hne : (some newId != some "object.__new__") = true)
    (hct : checkTypeCall T ⟨a₀ :: args, kw⟩ = pure ()) (hcn : checkBuiltinCall newId ⟨(.type T) :: a₀ :: args, kw⟩ = pure ()) (hok : ∀ obj, argsOk "object.__init__" ⟨obj :: a₀ :: args, kw⟩) (entryN : entryFor table newId = some Bn)
    (g : Meets (Bn ⟨(.type T) :: a₀ :: args, kw⟩) S) (h : S A.in1 (wants (fun obj s₁ => s₁.TypeIs obj T ∧ Q obj s₁) E) s) : wpAny (model prog w) A (call (.type T) (a₀ :: args) kw) Q E s := by
  obtain ⟨c, tl, hmro⟩ := ft.mro
  have hmade := ft.made; have hsub := ft.sub; have h1 := ft.notType; have h2 := ft.canCreate; have hli := ft.init.lookup
  refine wpAny_call (codeAny_of_tree (show wpAny _ _ (callAny (.type T) _) _ _ _ from wpAny_pure ⟨Code.quiet_builtin _ (by decide +kernel), codeAny_builtin F.entry_type_call ?_⟩))
  rw [Around.under_plain (weight_type_call_type T (a₀ :: args) kw) (units_type_call_type T (a₀ :: args) kw)]
  (repeat (any_goals (first | assumption | wp_step)))
  refine codeAny_mono (codeAny_call_builtin ft.plain entryN (wpAny_of_eq hcn (g prog w A.in1 _ s h))) (fun r s₁ hr => ?_)
  cases r with
  | error e => exact hr
  | ok fl =>
    cases fl with
    | ret obj =>
      obtain ⟨hT, hq⟩ := hr
      have hbi := ft.init.bind obj
      (repeat (any_goals (first | assumption | wp_step)))
      refine codeAny_mono (codeAny_call_builtin ft.init.plain F.entry_object_init (ft.init.check _ _ _ _ _ _ _ _ hT (hok obj) (initK ft.init.lookup ft.made hne prog w A.in1 (wants (fun r s₂ => r = .none ∧ Q obj s₂) E) s₁ ⟨hT, rfl, hq⟩))) (fun r₂ s₂ hr₂ => ?_)
      cases r₂ with
      | error e => exact hr₂
      | ok fl₂ =>
        cases fl₂ with
        | ret r => obtain ⟨rfl, hq⟩ := hr₂; (repeat (any_goals (first | assumption | wp_step)))
        | _ => exact hr₂.elim
    | _ => exact hr.elim
theorem call_zip_k {l1 l2 : Addr} {xs ys : Array Value} {Q : Value → Shared → Prop} (hl1 : s.heap.IsList l1 xs) (hl2 : s.heap.IsList l2 ys)
    (h : ∀ h', IsZip h' (s.heap.objs.size + 4) (s.heap.objs.size + 2) (s.heap.objs.size + 3) .none → IsPair h' (s.heap.objs.size + 2) (.ref s.heap.objs.size) (.ref (s.heap.objs.size + 1)) → IsPair h' (s.heap.objs.size + 3) .none .none →
      h'.IsListIter s.heap.objs.size l1 0 → h'.IsListIter (s.heap.objs.size + 1) l2 0 → h'.objs.size = s.heap.objs.size + 5 → (∀ c o, s.heap.get? c = some o → h'.get? c = some o) → Q (.ref (s.heap.objs.size + 4)) { s with heap := h' }) :
    wpAny (model prog w) A (call (.type "zip") [.ref l1, .ref l2] [("strict", .bool false)]) Q E s := by
  refine callTypeK F.called_zip (by decide) (typeCall_zip_k _ _ _) (newCall_zip_k _ _ _) (fun obj => args_init_k obj _ _ _) F.entry_zip_new (meets_zip_k l1 l2 xs ys) ⟨hl1, hl2, ?_⟩
  have z1 : (zipH1 s.heap l1).objs.size = s.heap.objs.size + 1 := by rw [Heap.size_push]
  have z2 : (zipH2 s.heap l1 l2).objs.size = s.heap.objs.size + 2 := by rw [Heap.size_push, z1]
  have z3 : (zipH3 s.heap l1 l2).objs.size = s.heap.objs.size + 3 := by rw [Heap.size_push, z2]
  have z4 : (zipH4 s.heap l1 l2).objs.size = s.heap.objs.size + 4 := by rw [Heap.size_push, z3]
  have z5 : (zipH5 s.heap l1 l2).objs.size = s.heap.objs.size + 5 := by rw [Heap.size_push, z4]
  have up : ∀ c o, (zipH4 s.heap l1 l2).get? c = some o → (zipH5 s.heap l1 l2).get? c = some o := fun c o x => Heap.get?_push_of_some _ x
  have up4 : ∀ c o, (zipH3 s.heap l1 l2).get? c = some o → (zipH5 s.heap l1 l2).get? c = some o := fun c o x => up c o (Heap.get?_push_of_some _ x)
  have up3 : ∀ c o, (zipH2 s.heap l1 l2).get? c = some o → (zipH5 s.heap l1 l2).get? c = some o := fun c o x => up4 c o (Heap.get?_push_of_some _ x)
  have up2 : ∀ c o, (zipH1 s.heap l1).get? c = some o → (zipH5 s.heap l1 l2).get? c = some o := fun c o x => up3 c o (Heap.get?_push_of_some _ x)
  have g5 : (zipH5 s.heap l1 l2).get? (zipH4 s.heap l1 l2).objs.size = some _ := Heap.get?_push_size _ rfl
  have g4 : (zipH5 s.heap l1 l2).get? (zipH3 s.heap l1 l2).objs.size = some _ := up _ _ (Heap.get?_push_size _ rfl)
  have g3 : (zipH5 s.heap l1 l2).get? (zipH2 s.heap l1 l2).objs.size = some _ := up4 _ _ (Heap.get?_push_size _ rfl)
  have g2 : (zipH5 s.heap l1 l2).get? (zipH1 s.heap l1).objs.size = some _ := up3 _ _ (Heap.get?_push_size _ rfl)
  have g1 : (zipH5 s.heap l1 l2).get? s.heap.objs.size = some _ := up2 _ _ (Heap.get?_push_size _ rfl)
  show _ ∧ _
  rw [z2, z3, z4] at g5
  rw [z1, z2] at g3
  rw [z3] at g4
  rw [z1] at g2
  rw [z4]
  exact ⟨⟨_, g5, rfl⟩, h _ g5 g3 g4 ⟨_, g1, rfl, rfl⟩ ⟨_, g2, rfl, rfl⟩ z5 fun c o x => up2 c o (Heap.get?_push_of_some _ x)⟩
end
end PySem
namespace PySem
open PyProof.Rows
theorem cwTyK {M : Model} {A : Around} {E : Value → Shared → Prop} {s : Shared} {env : Env} {pos : Pos} {T : String} {e : Expr} {rest : List Expr} {kws : List Keyword} {Q : Value → Shared → Prop}
    (h : wpAny M A (spliced (backTo pos (starEach (e :: rest) env))) (fun vs s₁ => wpAny M A (evalAll ((backToKw pos (keywordEach kws env)).map (·.2))) (fun ks s₂ => wpAny M A (call (.type T) vs (((backToKw pos (keywordEach kws env)).filterMap (·.1)).zip ks)) Q E s₂) E s₁) E s)
    (he : starEach (e :: rest) env = (false, eval e env) :: starEach rest env := by rfl) (hplain : (backTo pos (starEach rest env)).any (·.1) = false := by rfl)
    (hall : (backToKw pos (keywordEach kws env)).all (·.1.isSome) = true := by rfl) (hkw : (backToKw pos (keywordEach kws env)).any (·.1.isNone) = false := by rfl) :
    wpAny M A (callWith pos (.type T) [] (backTo pos (starEach (e :: rest) env)) (backToKw pos (keywordEach kws env))) Q E s := by
  have he' : backTo pos (starEach (e :: rest) env) = (false, eval e env) :: backTo pos (starEach rest env) := by rw [he]; rfl
  have hp : (backTo pos (starEach (e :: rest) env)).any (·.1) = false := by rw [he']; show (false || (backTo pos (starEach rest env)).any (·.1)) = false; rw [hplain]; rfl
  rw [he'] at h hp ⊢
  unfold callWith
  refine wpAny_bind (wpAny_holding (wpAny_mono (evalArgs_kw (Q := fun a s₁ => wpAny M A (call (.type T) ([] ++ a.pos) a.kw) Q E s₁) hall h) (fun a s₁ h₁ => wpAny_bind (wpAny_standAt ?_)) fun _ _ x => x))
  simp only [hp, hkw, Bool.or_false]
  exact wpAny_bind (wpAny_pure (wpAny_bind (wpAny_mono h₁ (fun r s₂ hr => wpAny_bind (wpAny_holding (wpAny_point (wpAny_pure hr)))) fun _ _ x => x)))
end PySem
namespace Dl
open PySem L2
theorem pi_zip_k {X : Cx} {e e2 : Expr} {ta : TA} {p p2 p3 pos tpos : Pos} {j : Nat} {elts : List Expr} {kk : Nat} (hg : Gl X "zip") (hm : X.mg "zip" = none) (ha : PA X [e, e2] ta)
    (hs : starEach [e, e2] X.env = (false, eval e X.env) :: starEach [e2] X.env := by rfl) (hpl : (backTo pos (starEach [e2] X.env)).any (·.1) = false := by rfl) :
    PI X (.Tuple elts kk tpos) (.Call (.Name "zip" p) [e, e2] [⟨some "strict", .Constant (.bool false) j p2, p3⟩] pos) (iZip X.K ta) := ⟨fun pins s σ H R I h => by
  refine wpAny_Call_Name_kw (ld_blt I hg hm PyProof.Rows.boot_zip (PySem.cwTyK (thn (ha.run pos pins s σ H _ I h) fun us s1 ⟨vs, H1, I1, r1, q1⟩ => ?_) hs hpl))
  have hk := (pk_cons (e := .Constant (.bool false) j p2) (kpos := p3) (nm := some "strict") (pe_bl (X := X) (b := false)) pk_nil).run pos pins s1 σ H1 (fun zs H2 => zs = [.bl false] ∧ H2 = H1) I1 ⟨rfl, rfl⟩
  refine thn hk fun ws s2 ⟨zs, H2, I2, r2, ez, eH⟩ => ?_
  subst ez eH
  obtain ⟨a, b, xs, ys, ex, hqx, hqy, q⟩ := q1
  subst ex
  cases r1 with
  | cons r rr =>
    cases rr with
    | cons r' rr =>
      cases rr
      cases r
      cases r'
      cases r2 with
      | cons r3 rr3 =>
        cases rr3
        obtain rfl : _ = Value.bool false := r3
        obtain ⟨its, rv, p1, _⟩ := I2.list hqx
        obtain ⟨its2, rv2, p2', _⟩ := I2.list hqy
        have la : a < s2.heap.objs.size := p1.lt
        have lb : b < s2.heap.objs.size := p2'.lt
        have I3 : ∀ h', (∀ c o, s2.heap.get? c = some o → h'.get? c = some o) → Inv X pins σ H2 { s2 with heap := h' } := fun h' hk => I2.kept (t' := s2.toks) hk
        refine PySem.call_zip_k p1.isList p2'.isList fun h' hz hTI hTO h1 h2 hsz hk => wpAny_pyIter_zip hz ?_
        refine ⟨s2.heap.objs.size + 4, [s2.heap.objs.size + 4, s2.heap.objs.size + 2, s2.heap.objs.size + 3, s2.heap.objs.size, s2.heap.objs.size + 1], _, _, H2, rfl, I3 h' hk, turn_zip (PySem.W.ktu_apart s2.heap.objs.size a b la lb), ⟨hz, hTI, ⟨_, _, hTO⟩, h1, h2⟩, fun c hcm => ?_, q⟩
        have hle : s2.heap.objs.size ≤ c := by
          have hc5 : c = s2.heap.objs.size + 4 ∨ c = s2.heap.objs.size + 2 ∨ c = s2.heap.objs.size + 3 ∨ c = s2.heap.objs.size ∨ c = s2.heap.objs.size + 1 := by simpa using hcm
          rcases hc5 with z | z | z | z | z <;> rw [z] <;> first | exact Nat.le_add_right _ _ | exact Nat.le_refl _
        exact I2.fpOk hle (I2.hok.fresh hle)⟩
theorem q_izipK {C : Fc} {X : Cx} {p p2 p3 pos tpos : Pos} {e e2 : Expr} {es : List Expr} {t : RA} {kk j : Nat} (hK : C.K = X.K) (hm : X.mg "zip" = none) (ha : QA C X [e, e2] t) (hg : Gl X "zip" := by rfl) (hs : starEach [e, e2] X.env = (false, eval e X.env) :: starEach [e2] X.env := by rfl) (hpl : (backTo pos (starEach [e2] X.env)).any (·.1) = false := by rfl) :
    QI C X (.Tuple es kk tpos) (.Call (.Name "zip" p) [e, e2] [⟨some "strict", .Constant (.bool false) j p2, p3⟩] pos) (rIZip t) :=
  PI.imp (pi_zip_k hg hm ha hs hpl) fun σ H R ⟨As, G, Γ, M, K, S, t, q⟩ => ⟨As, G, Γ, M, _, S, t, fun ls M1 vs As1 G1 H1 g1 rv t1 => by
    split at t1
    · rename_i ds es
      obtain ⟨v, v', rfl, r, r'⟩ := rv.two
      cases r with
      | lst h r =>
        cases r' with
        | lst h' r' =>
          refine ⟨_, _, _, _, rfl, SqL.of (g1.sat.le _ _ h), SqL.of (g1.sat.le _ _ h'), q _ M1 As1 G1 H1 _ g1 (fun i As2 G2 H2 Γ2 M2 σ2 S2 sg => ⟨fun d hd => ?_, fun hi => ?_⟩) t1⟩
          · obtain ⟨y, z, hy, hz, rfl⟩ := zipD_get.mp hd
            have h2 := S2.le _ _ (sg _ _ h)
            have h2' := S2.le _ _ (sg _ _ h')
            obtain ⟨w, hw, rw1⟩ := (r.mono sg).get hy
            obtain ⟨w', hw', rw2⟩ := (r'.mono sg).get hz
            refine ⟨⟨_, _, w, w', SqL.of h2, SqL.of h2', hw, hw'⟩, fun z H' hz => ?_⟩
            obtain ⟨T, x, x', rfl, hT, rfl, hx, hx'⟩ := hz
            have e1 := hx _ (SqL.of h2)
            have e2 := hx' _ (SqL.of h2')
            rw [hw] at e1
            rw [hw'] at e2
            cases e1
            cases e2
            exact ⟨_, Gr.frz S2 hT, rp_new_t S2 hT (.cons rw1 (.one rw2))⟩
          · rw [zipD_len] at hi
            refine ⟨_, _, SqL.of (S2.le _ _ (sg _ _ h)), SqL.of (S2.le _ _ (sg _ _ h')), ?_⟩
            rw [r.length, r'.length]
            omega
    · exact t1.elim⟩
end Dl

set_option Elab.async false
set_option maxRecDepth 100000
set_option maxHeartbeats 1000000
namespace Dl
open PySem L2
/-! ### calls: of data alone; with the object 0 lent -/
def rCallD (sp : DSp) (ex : EX) (t : RA) : RE := fun Γ M K => t Γ M fun ls M1 => match allIm ls with
  | some ds => sp (ds.map Lo.im) [] (fun l Mu => match l, Mu with
      | .im d, [] => K (.im d) M1
      | l, Mu => ∀ l' M', l' = renL (fun j => M1.length + j) l → M' = M1 ++ Mu.map (renM fun j => M1.length + j) → K l' M')
      fun x Mu => match Mu with
      | [] => ex x Γ M1
      | _ => ∀ M', M' = M1 ++ Mu.map (renM fun j => M1.length + j) → ex x Γ M'
  | none => False
/-- what holds no reference -/
def flatM : MO → Bool
  | .li _ => true
  | .dc _ => true
  | _ => false
def rCallP (sp : DSp) (t : RA) : RE := fun Γ M K => t Γ M fun ls M1 => match ls with
  | .ow 0 :: r => match allIm r, M1[0]? with
    | some ds, some m => flatM m = true ∧ sp (.ow 0 :: ds.map Lo.im) [m] (fun l Mu => match l, Mu with
      | .im d, [.li x] => K (.im d) (M1.set 0 (.li x))
      | _, _ => False) fun _ _ => False
    | _, _ => False
  | _ => False
theorem map_ren (f : Nat → Nat) (Mu : Led) : Mu.map (renM f) = [] ↔ Mu = [] := by simp
theorem flat_pick {M : Led} {k : Nat} {m : MO} (h : M[k]? = some m) (hf : flatM m = true) : PickOk [k] M ∧ pick [k] M = [m] := by
  have hd : M.getD k .gone = m := by rw [List.getD_eq_getElem?_getD, h]; rfl
  refine ⟨⟨by simp, fun j hj => ?_, ?_⟩, ?_⟩
  · obtain rfl : j = k := by simpa using hj
    exact (List.getElem?_eq_some_iff.mp h).1
  · show refM _ (M.getD k .gone) ∧ True
    rw [hd]
    cases m <;> first | exact ⟨trivial, trivial⟩ | cases hf
  · show [renM _ (M.getD k .gone)] = _
    rw [hd]
    cases m <;> first | rfl | cases hf
section
variable {C : Fc} {X : Cx} {k : Nat} {f : Addr} {fd : FuncData} {ps : List Str} {sp : DSp} {ex : EX} {x : Str} {p pos : Pos} {e : Expr} {es : List Expr} {t : RA}
theorem map_ren0 (ds : List D) (f : Nat → Nat) : (ds.map Lo.im).map (renL f) = ds.map Lo.im := by
  rw [List.map_map]
  rfl
/-- how a call of data goes on, put into run_gn's form -/
theorem callD_ok {Γ : Gam} {M1 : Led} {K : Lo → Led → Prop} {ls : List Lo} (h : match allIm ls with
    | some ds => sp (ds.map Lo.im) [] (fun l Mu => match l, Mu with
      | .im d, [] => K (.im d) M1
      | l, Mu => ∀ l' M', l' = renL (fun j => M1.length + j) l → M' = M1 ++ Mu.map (renM fun j => M1.length + j) → K l' M')
      fun x Mu => match Mu with
      | [] => ex x Γ M1
      | _ => ∀ M', M' = M1 ++ Mu.map (renM fun j => M1.length + j) → ex x Γ M'
    | none => False) : PickOk [] M1 ∧ refLs (· ∈ ([] : List Nat)) ls ∧ ∃ (Kd : Lo → Led → Prop) (Ed : Exn → Led → Prop), sp (ls.map (renL (loc []))) (pick [] M1) Kd Ed ∧ (∀ l Mu, Kd l Mu → K (renL (ren [] M1.length) l) (put [] Mu M1)) ∧ ∀ x Mu, Ed x Mu → ex x Γ (put [] Mu M1) := by
  split at h
  · rename_i ds e
    rw [allIm_map e]
    refine ⟨pick0, refLs_im ds, _, _, by rw [ims_loc]; exact h, fun l Mu k => ?_, fun x Mu k => ?_⟩
    · rw [put0, ren0]
      split at k
      · show K (.im _) (M1 ++ [])
        rw [List.append_nil]
        exact k
      · exact k _ _ rfl rfl
    · rw [put0]
      split at k
      · show ex x Γ (M1 ++ [])
        rw [List.append_nil]
        exact k
      · exact k _ rfl
  · exact h.elim
theorem callP_ok {Γ : Gam} {M1 : Led} {K : Lo → Led → Prop} {ls : List Lo} (h : match ls with
  | .ow 0 :: r => match allIm r, M1[0]? with
    | some ds, some m => flatM m = true ∧ sp (.ow 0 :: ds.map Lo.im) [m] (fun l Mu => match l, Mu with
      | .im d, [.li x] => K (.im d) (M1.set 0 (.li x))
      | _, _ => False) fun _ _ => False
    | _, _ => False
  | _ => False) : PickOk [0] M1 ∧ refLs (· ∈ ([0] : List Nat)) ls ∧ ∃ (Kd : Lo → Led → Prop) (Ed : Exn → Led → Prop), sp (ls.map (renL (loc [0]))) (pick [0] M1) Kd Ed ∧ (∀ l Mu, Kd l Mu → K (renL (ren [0] M1.length) l) (put [0] Mu M1)) ∧ ∀ x Mu, Ed x Mu → False := by
  split at h
  · rename_i r
    split at h
    · rename_i ds m e1 e2
      obtain ⟨hf, h⟩ := h
      obtain ⟨h1, h2⟩ := flat_pick e2 hf
      rw [allIm_map e1]
      refine ⟨h1, ⟨by show (0 : Nat) ∈ [0]; simp, refLs_im ds⟩, (fun l Mu => match l, Mu with
        | .im d, [.li x] => K (.im d) (M1.set 0 (.li x))
        | _, _ => False), (fun _ _ => False), ?_, fun l Mu k => ?_, fun x Mu k => k⟩
      · rw [h2]
        show sp (.ow 0 :: (ds.map Lo.im).map (renL (loc [0]))) [m] _ _
        rw [map_ren0]
        exact h
      · dsimp only at k
        split at k
        · rename_i d x
          show K (.im d) (M1.set 0 (.li x) ++ [])
          rw [List.append_nil]
          exact k
        · exact k.elim
    · exact h.elim
  · exact h.elim
theorem q_callD (F : Gn C.T X.prog X.w X.K X.mg X.base k f fd ps sp) (hm : X.mg x = some (.ref f)) (hb : Binds X.K fd ps []) (hk : PySem.W.keepIn X.K (.ref f) = true) (hr : Room k X.A) (hg : X.A.guards = some []) (hK : C.K = X.K) (tk : Takes X (UW C ex)) (ha : QA C X (e :: es) t)
    (hgl : Gl X x := by rfl) (hdb : (x == ("__debug__" : Str)) = false := by decide) (he : starEach (e :: es) X.env = (false, eval e X.env) :: starEach es X.env := by rfl) (hpl : (backTo pos (starEach es X.env)).any (·.1) = false := by rfl) :
    QE C X (.Call (.Name x p) (e :: es) [] pos) (rCallD sp ex t) := ⟨fun pins s σ H Q I ⟨As, G, Γ, M, K, S, h, q⟩ => by
  refine wpAny_Call_Name_kw (ld_glob I hgl hm ?_ hdb)
  have hA := ha.run pos pins s σ H (fun vs H1 => ∃ (As1 : List Addr) (G1 : Hp) (M1 : Led) (ls : List Lo), Gr C As G As1 G1 H1 Γ M1 σ ∧ LRpL C.K As1 G1 vs ls ∧ _) I ⟨As, G, Γ, M, _, S, h, fun ls M1 vs As1 G1 H1 g1 rl k1 => ⟨As1, G1, M1, ls, g1, rl, k1⟩⟩
  refine PySem.W.callWith_K (h₀ := X.base) I.ok.mod.kin hk (thn hA fun us s1 ⟨vs, H1, I1, r, As1, G1, M1, ls, g1, rl, h1⟩ => ⟨I1.kIn, ?_⟩) he hpl
  obtain ⟨ok, hls, Kd, Ed, h2, h3, h4⟩ := callD_ok h1
  exact run_gn F hr hg hb hK tk I1 r g1.sat rl ok hls h2 (fun l Mu v As' G' H' g rv k => q _ _ v As' G' H' (g1.trans g) rv (h3 l Mu k)) h4⟩
theorem q_callP (F : Gn C.T X.prog X.w X.K X.mg X.base k f fd ps sp) (hm : X.mg x = some (.ref f)) (hb : Binds X.K fd ps []) (hk : PySem.W.keepIn X.K (.ref f) = true) (hr : Room k X.A) (hg : X.A.guards = some []) (hK : C.K = X.K) (ha : QA C X (e :: es) t)
    (hgl : Gl X x := by rfl) (hdb : (x == ("__debug__" : Str)) = false := by decide) (he : starEach (e :: es) X.env = (false, eval e X.env) :: starEach es X.env := by rfl) (hpl : (backTo pos (starEach es X.env)).any (·.1) = false := by rfl) :
    QE C X (.Call (.Name x p) (e :: es) [] pos) (rCallP sp t) := ⟨fun pins s σ H Q I ⟨As, G, Γ, M, K, S, h, q⟩ => by
  refine wpAny_Call_Name_kw (ld_glob I hgl hm ?_ hdb)
  have hA := ha.run pos pins s σ H (fun vs H1 => ∃ (As1 : List Addr) (G1 : Hp) (M1 : Led) (ls : List Lo), Gr C As G As1 G1 H1 Γ M1 σ ∧ LRpL C.K As1 G1 vs ls ∧ _) I ⟨As, G, Γ, M, _, S, h, fun ls M1 vs As1 G1 H1 g1 rl k1 => ⟨As1, G1, M1, ls, g1, rl, k1⟩⟩
  refine PySem.W.callWith_K (h₀ := X.base) I.ok.mod.kin hk (thn hA fun us s1 ⟨vs, H1, I1, r, As1, G1, M1, ls, g1, rl, h1⟩ => ⟨I1.kIn, ?_⟩) he hpl
  obtain ⟨ok, hls, Kd, Ed, h2, h3, h4⟩ := callP_ok (Γ := Γ) h1
  exact run_gn F hr hg hb hK (tkF (C := C)) I1 r g1.sat rl ok hls h2 (fun l Mu v As' G' H' g rv k => q _ _ v As' G' H' (g1.trans g) rv (h3 l Mu k)) fun x Mu z => (h4 x Mu z).elim⟩
end
/-- what is to be shown of a def, the program out of sight -/
abbrev MtX (sp : DSp) (rd : EX → RS) (N : List Str) : Prop := ∀ {ls : List Lo} {M : Led} {Kd : Lo → Led → Prop} {Ed : Exn → Led → Prop}, sp ls M Kd Ed → rd (fun x _ M' => BackX M.length Ed x M') { nx := fun _ M' => Back M.length Kd (.im .non) M', rt := Back M.length Kd } (gam0 N ls) M
theorem backX0 {Ed : Exn → Led → Prop} {x : Exn} {M : Led} (h : Ed x []) : BackX 0 Ed x M := ⟨[], rfl, pickN M, h⟩
theorem backX1 {Ed : Exn → Led → Prop} {x : Exn} {ds : List D} {M : Led} (e : M[0]? = some (.li ds)) (h : Ed x [.li ds]) : BackX 1 Ed x M :=
  ⟨[0], rfl, (pick1 e).1, by rw [(pick1 e).2]; exact h⟩
end Dl

set_option Elab.async false
set_option maxRecDepth 100000
set_option maxHeartbeats 1000000
/-! try .. except X as e: the exception is kept as a thing of its own behind the clause -/
namespace L2
open PySem PySem.Spec PyProof.Rows
section
variable {X : Cx} {pins : List (Addr × Obj)} {σ : St} {H : Hp} {s : Shared}
theorem Inv.track {a : Addr} {oe : Obj} {vs : Array Value} {cls : Value} {d : Option Addr} (I : Inv X ((a, oe) :: pins) σ H s) (hz : Zc cls d oe) (hd : oe.data = .fields vs) (n0 : X.s_0.heap.get? a = none) (hp : ∀ p ∈ X.pn ++ pins, p.1 ≠ a) :
    Inv X pins σ (upd H a (Dl.ExT cls d a)) s := by
  obtain ⟨ea, na, nL, nF, nc⟩ := I.pin (a, oe) (List.mem_append_right _ List.mem_cons_self)
  have nC : ∀ x c, X.env.cells.lookup x = some c → c ≠ a := fun x c e z => by
    obtain ⟨v, o, e1, e2⟩ := I.cell x c e
    rw [z] at e1
    have ea' : s.heap.get? a = some oe := ea
    rw [ea'] at e1
    cases e1
    exact nc _ e2
  have neN : ∀ {b : Addr} {o : HO}, H b = some o → b ≠ a := fun {b o} e z => by
    rw [z] at e
    have na' : H a = none := na
    rw [na'] at e
    cases e
  refine ⟨I.ok, I.os, I.bare, ⟨I.base.keep, I.base.slot, fun b o e n hx => ?_, I.base.there, fun b xs e => ?_, fun b o u e => ?_, fun b ps e => ?_⟩, I.loc, I.cell, ?_, fun x c e => ?_, fun p hp' => ?_, fun b o e => ?_, I.len⟩
  · have hb : b ≠ a := fun z => by rw [z, n0] at e; cases e
    rw [upd_ne hb]
    exact I.base.free b o e n hx
  · have q := I.base.tups b xs e
    rw [upd_ne (neN q)]
    exact q
  · have q := I.base.frzs b o u e
    rw [upd_ne (neN q)]
    exact q
  · obtain ⟨m, q⟩ := I.base.tbls b ps e
    rw [upd_ne (neN q)]
    exact ⟨m, q⟩
  · rw [upd_ne (Ne.symm nL)]
    exact I.free
  · rw [upd_ne (nC x c e)]
    exact I.freeC x c e
  · have q := hp p hp'
    obtain ⟨q1, q2, q3⟩ := I.pin p (by
      rcases List.mem_append.mp hp' with z | z
      · exact List.mem_append_left _ z
      · exact List.mem_append_right _ (List.mem_cons_of_mem _ z))
    rw [upd_ne q]
    exact ⟨q1, q2, q3⟩
  · by_cases hb : b = a
    · subst hb
      rw [upd_same] at e
      cases e
      exact ⟨⟨oe, vs, ea, hz, hd⟩, ⟨oe, ea⟩, fun h1 h2 ⟨o, v, q, r⟩ k => ⟨o, v, k o q, r⟩⟩
    · rw [upd_ne hb] at e
      exact (I.hok b o e).stay (fun c v _ q => q) (fun c q => by rw [upd_ne (neN q)]; exact q) fun c xs q => by rw [upd_ne (neN q)]; exact q
end
/-- as wAs, but behind the clause the exception's object is tracked -/
def wAsT (K : PySem.W.Frag) (c : Value) (i : Nat) (ts : Addr → Value → Option Addr → TS) (Wout : WX) (D : Ends) : WX := fun cls d σ H =>
  ∃ b, PySem.W.exmOne K cls c = some b ∧ (b = true → ∀ a, H a = none → ts a cls d { nx := fun σ' H' => D.nx (σ'.set i none) (upd H' a (Dl.ExT cls d a)), rt := D.rt, bk := fun _ _ => False, ct := fun _ _ => False } (σ.set i (some (.ref a))) H) ∧
    (b = false → Wout cls d σ H)
section
variable {X : Cx} {x n : Str} {c : Value} {i : Nat} {body suite : List Stmt} {b₀ : Stmt} {np pos pos' : Pos} {tb : WX → TS} {ts : Addr → Value → Option Addr → TS} {Wout : WX}
theorem ps_try_asT (hx : X.ex = []) (hs : X.stack = X.env :: X.outer) (hf : X.env.frame = some X.env.locals) (hN : X.N.Nodup) (hi : X.N[i]? = some n) (hln : X.env.kindOf n = some .local) (hc : Names X x c) (tk : Takes X Wout)
    (hb : ∀ (W : WX) (pn : List (Addr × Obj)) (xe : Value → Shared → Prop), Takes (X.tr pn xe) W → PassesOwn (model X.prog X.w) X.A X.env xe → PSs (X.tr pn xe) body (tb W))
    (hsu : ∀ (a : Addr) (oe : Obj) (cls : Value) (d : Option Addr) (pn : List (Addr × Obj)), Zc cls d oe → (∃ vs, oe.data = .fields vs) → PSs (X.suite a ((a, oe) :: pn)) (b₀ :: suite) (ts a cls d)) :
    PS X (.Try body [.ExceptHandler (some (.Name x np)) (some n) (b₀ :: suite) pos'] [] [] pos) (fun D σ H => tb (wAsT X.K c i ts Wout D) D σ H) := by
  refine ⟨fun pins s σ H D I h => ?_⟩
  have ok := I.ok
  have hfr : X.A.frames = some (X.env :: X.outer) := by rw [ok.frames, hs]
  have hloc : Loc X.env.scope n := .inl hln
  refine wpAny_Try_except ?_
  refine wpAny_mono ((hb (wAsT X.K c i ts Wout D) (X.pn ++ pins) (fun e s₁ => wpAny (model X.prog X.w) X.A (noteFrame e X.env) (fun _ s₂ => wpAny (model X.prog X.w) X.A (setFlight e none) (fun _ s₃ =>
    wpAny (model X.prog X.w) X.A (handleBy e X.env [.ExceptHandler (some (.Name x np)) (some n) (b₀ :: suite) pos']) (SP X pins D) X.xe s₃) X.xe s₂) X.xe s₁) (fun u s' xx => ?_) PassesOwn.looking).run [] s σ H D (I.toTry _) h) (fun f s1 hsp => ?_) (fun e s1 he => he)
  · obtain ⟨a, B, sI, pins', σ', H', cls, d, rfl, J', nb, up, sky, na, os, ag, b, hb1, hyes, hno⟩ := xx
    have J : Inv X pins σ' H' sI := J'.ofTry ok
    have sky' : Sky B (X.env :: X.outer) a (Zc cls d) X.env.locals s'.heap := by rw [← hs]; exact sky
    show wpAny (model X.prog X.w) X.A (noteFrame (.ref a) X.env) _ _ _
    refine Sky.land Zc.steady hfr hf sky' fun h3 fl3 up3 => ?_
    have J3 : Inv X pins σ' H' { s' with heap := h3 } := J.landed nb fl3.1 (up.trans up3) os ag
    obtain ⟨oe3, vs3, he3, hz3, hd3⟩ := fl3.there
    have notFr : ∀ {h : Heap} {o : Obj} {vs : Array Value}, h.FunFrames B (X.env :: X.outer) → h.get? a = some o → o.data = .fields vs → a ∉ frs (X.env :: X.outer) := fun {h o vs} ff e dd hm => by
      obtain ⟨_, o', e', hnf⟩ := ff.mem hm
      rw [e] at e'; cases e'
      exact hnf _ dd
    have nfr := notFr fl3.2.2.1 he3 hd3
    have nL : a ≠ X.env.locals := fun z => nfr (List.mem_filterMap.mpr ⟨X.env, List.mem_cons_self, by rw [hf, z]⟩)
    have nF : a ∉ X.fs := fun hm => by
      obtain ⟨e, he, q⟩ := List.mem_filterMap.mp hm
      exact nfr (List.mem_filterMap.mpr ⟨e, List.mem_cons_of_mem _ he, q⟩)
    have nI : sI.heap.get? a = none := by
      cases q : sI.heap.get? a with
      | none => rfl
      | some o =>
        have z := nb a o q (by rw [hs]; exact nfr)
        rw [fl3.2.1] at z
        cases z
    have n0 : X.s_0.heap.get? a = none := by
      cases q : X.s_0.heap.get? a with
      | none => rfl
      | some o =>
        obtain ⟨o', z⟩ := J.base.there a o q (by rw [hx]; exact fun z => nomatch z)
        rw [nI] at z
        cases z
    have npin : ∀ p ∈ X.pn ++ pins, p.1 ≠ a := fun p hp z => by
      have q := (J.pin p hp).1
      rw [z, nI] at q
      cases q
    have S3 := J3.suite he3 hd3 na nL nF
    refine wpAny_handleBy_cons (codeAny_handlers_test ?_) (by intro q; cases q)
    have LT : PySem.W.Looks (model X.prog X.w) h3 (typeOf (.ref a)) cls := fun A Q E s k q => wpAny_typeOf_ref (k _ _ he3) (by rw [hz3.1]; exact q)
    have LM := PySem.W.exm_one (M := model X.prog X.w) (J3.kIn) LT hb1
    have test : ∀ {Q : Value → Shared → Prop} {E : Value → Shared → Prop}, Q c { s' with heap := h3 } → wpAny (model X.prog X.w) (X.A.mark (some (.ref a))) (eval (.Name x np) X.env) Q E { s' with heap := h3 } := fun {Q E} q => by
      obtain ⟨hg, hdbg, hm | ⟨hm, hv, hnn⟩⟩ := hc
      · exact ld_glob (X := X.suite a ((a, oe3) :: (X.pn ++ pins))) S3 hg hm q hdbg
      · exact ld_blt (X := X.suite a ((a, oe3) :: (X.pn ++ pins))) S3 hg hm hv q hnn hdbg
    refine test (LM.here ?_)
    cases b with
    | true =>
      refine codeAny_handlers_suite_as ?_
      refine HandSPX.lands_againZ fl3 fun h4 fl4 up4 => ?_
      have J4 : Inv X pins σ' H' { s' with heap := h4 } := J.landed nb fl4.1 ((up.trans up3).trans up4) os ag
      obtain ⟨oe4, vs4, he4, hz4, hd4⟩ := fl4.there
      have S4 := J4.suite he4 hd4 na nL nF
      refine store_ok (X := X.suite a ((a, oe4) :: (X.pn ++ pins))) (v := .ref a) S4 hN hi hloc rfl (fun s5 S5 => ?_) (.inr hln)
      refine wpAny_mono ((hsu a oe4 cls d (X.pn ++ pins) hz4 ⟨_, hd4⟩).run [] s5 _ H' _ S5 (hyes rfl a na)) (fun f s6 hsp => ?_) (fun _ _ z => False.elim z)
      cases f with
      | next =>
        obtain ⟨σ6, H6, S6, q6⟩ := hsp
        have S7 : Inv X ((a, oe4) :: pins) σ6 H6 s6 := ⟨ok, S6.os, S6.bare, S6.base, S6.loc, S6.cell, S6.free, S6.freeC, fun p hp => S6.pin p (by
          rw [List.append_nil]
          show p ∈ (a, oe4) :: (X.pn ++ pins)
          rcases List.mem_append.mp hp with z | z
          · exact List.mem_cons_of_mem _ (List.mem_append_left _ z)
          · rcases List.mem_cons.mp z with z | z
            · rw [z]; exact List.mem_cons_self
            · exact List.mem_cons_of_mem _ (List.mem_append_right _ z)), S6.hok, S6.len⟩
        exact gone_ok S7 hN hi hln fun s7 J7 => ⟨_, _, J7.track hz4 hd4 n0 npin, q6⟩
      | brk =>
        obtain ⟨σ6, H6, S6, q6⟩ := hsp
        exact q6.elim
      | cont =>
        obtain ⟨σ6, H6, S6, q6⟩ := hsp
        exact q6.elim
      | ret u =>
        obtain ⟨v6, σ6, H6, S6, r6, q6⟩ := hsp
        exact gone_ok (S6.unsuite ok) hN hi hln fun s7 J7 => ⟨_, _, _, J7, r6, q6⟩
    | false =>
      show wpAny _ X.A (handleBy (.ref a) X.env []) _ _ _
      refine wpAny_handleBy_nil ?_
      obtain ⟨k1, k2, k3, oe, vs, T, oT, ts', he, hz, hd, h1, hr⟩ := id fl3
      unfold PySem.passOn
      refine wpAny_bind (wpAny_field he hd h1 ?_)
      rw [if_neg (show ¬ ((Value.ref T == Value.none) = true) from by simp)]
      have fin : wpAny (model X.prog X.w) X.A (setFlight (.ref a) X.env.frame) (fun _ s4 => wpAny (model X.prog X.w) X.A (throw (.ref a) : Sem Flow) (SP X pins D) X.xe s4) X.xe { s' with heap := h3 } := by
        rw [hf]
        refine HandSPX.setFlight_upZ fl3 fun h4 hh4 up4 => wpAny_throw (tk _ _ ?_)
        exact ⟨a, B, sI, pins, σ', H', cls, d, rfl, J, nb, (up.trans up3).trans up4, .inr (.inr (by rw [hs]; exact hh4)), na, os, ag, hno rfl⟩
      first
        | exact wpAny_bind (wpAny_pure (wpAny_bind fin))
        | exact wpAny_bind fin
  · cases f with
    | next =>
      obtain ⟨σ', H', J', q⟩ := hsp
      exact wpAny_execs_nil ⟨σ', H', J'.ofTry ok, q⟩
    | brk =>
      obtain ⟨σ', H', J', q⟩ := hsp
      exact ⟨σ', H', J'.ofTry ok, q⟩
    | cont =>
      obtain ⟨σ', H', J', q⟩ := hsp
      exact ⟨σ', H', J'.ofTry ok, q⟩
    | ret u =>
      obtain ⟨v, σ', H', J', r, q⟩ := hsp
      exact ⟨v, σ', H', J'.ofTry ok, r, q⟩
end
end L2
namespace Dl
open PySem PySem.Spec PyProof.Rows L2
/-! ### isinstance -/
/-- a class by its name: a built-in one, an exception of the program's own, another own one -/
inductive Tn where
  | b (n : String) | e (n : String) | o (n : String)
  deriving DecidableEq
def Tn.val (K : PySem.W.Frag) : Tn → Value
  | .b n => .type n
  | .e n => .ref (cn K n)
  | .o n => .ref (cn K n)
def Tn.d : Tn → D
  | .b n => .ty n
  | .e n => .kls n
  | .o n => .kls n
structure InsC (K : PySem.W.Frag) (C : Addr) : Prop where
  cl : Cls K C
  ha : PySem.W.findIn K (.ref C) "__class__" = some (some (.builtin "object.__class__"))
  hn : PySem.W.specialIn K (.builtin "object.__class__") "__get__" = some (some (.builtin "getset_descriptor.__get__"))
  ht : PySem.W.takesIn K (.builtin "object.__class__") = some true
  hm : PySem.W.mroIn K C (.type "object") = some true
abbrev Tb := List (Tn × Tn × Bool)
def isT : Tb → Tn → Tn → Option Bool
  | [], _, _ => none
  | (a, c, r) :: t, m, n => if a = m ∧ c = n then some r else isT t m n
def isAny (tb : Tb) (m : Tn) : List Tn → Option Bool
  | [] => some false
  | n :: r => match isT tb m n with
    | some true => some true
    | some false => isAny tb m r
    | none => none
def MOk (K : PySem.W.Frag) : Tn → Prop
  | .b _ => True
  | .e n => ExcC K (cn K n)
  | .o n => InsC K (cn K n)
def TbOk (K : PySem.W.Frag) : Tb → Prop
  | [] => True
  | (m, n, r) :: t => (PySem.W.kitOne K (m.val K) (n.val K) = some r ∧ MOk K m) ∧ TbOk K t
theorem isT_ok {K : PySem.W.Frag} {m n : Tn} {r : Bool} : ∀ {tb : Tb}, TbOk K tb → isT tb m n = some r → PySem.W.kitOne K (m.val K) (n.val K) = some r ∧ MOk K m
  | [], _, h => by cases h
  | (a, c, q) :: t, ok, h => by
    unfold isT at h
    by_cases e : a = m ∧ c = n
    · rw [if_pos e] at h
      cases h
      obtain ⟨rfl, rfl⟩ := e
      exact ok.1
    · rw [if_neg e] at h
      exact isT_ok ok.2 h
theorem isAny_ok {K : PySem.W.Frag} {m : Tn} {tb : Tb} (ok : TbOk K tb) : ∀ {ns : List Tn} {r : Bool}, isAny tb m ns = some r → PySem.W.kitAny K (m.val K) (ns.map (Tn.val K)) = some r ∧ (ns ≠ [] → MOk K m)
  | [], r, h => by
    cases h
    exact ⟨rfl, fun z => absurd rfl z⟩
  | n :: ns, r, h => by
    unfold isAny at h
    split at h
    · rename_i e
      cases h
      obtain ⟨h1, h2⟩ := isT_ok ok e
      exact ⟨kitAny_cons h1 (fun z => nomatch z) fun _ => rfl, fun _ => h2⟩
    · rename_i e
      obtain ⟨h1, h2⟩ := isT_ok ok e
      exact ⟨kitAny_cons h1 (fun _ => (isAny_ok ok h).1) (fun z => nomatch z), fun _ => h2⟩
    · cases h
/-- the class of what stands there -/
def tyT (M : Led) : Lo → Option Tn
  | .im (.exc C _) => some (.e C)
  | .im (.ins C _) => some (.o C)
  | .im d => d.tyn.map Tn.b
  | .tp _ => some (.b "tuple")
  | .ow k => match M[k]? with
    | some (.ob C _) => some (.o C)
    | _ => (tyL M (.ow k)).map Tn.b
/-- what the library's rules ask of such a value -/
def KitP (X : Cx) (s : Shared) (u t : Value) : Prop := ∃ P : Heap → Prop, PySem.W.KitX X.K u t P ∧ P s.heap ∧ u ≠ .builtin "__main__.__loader__#opaque"
theorem exc_inst {X : Cx} {pins : List (Addr × Obj)} {σ : L2.St} {H : Hp} {s : Shared} {a C : Addr} {d : Option Addr} (I : Inv X pins σ H s) (h : H a = some (ExT (.ref C) d a)) (hd : ∀ dd, d = some dd → ∃ fs, H dd = some (.xd fs)) :
    ∃ oe od, PySem.W.InstAt s.heap a oe C od ∧ ∀ dd, d = some dd → ∃ o, od = some o ∧ s.heap.get? dd = some o := by
  obtain ⟨⟨oe, vs, e, hz, hv⟩, _⟩ := (show ObjOk X.prog X.w H s.heap a (ExT (.ref C) d a) from I.hok a _ h)
  obtain ⟨oc, od, oda, osl⟩ := oe
  obtain ⟨h1, h2⟩ := hz
  dsimp only at h1 h2 hv
  subst h1 h2 hv
  cases od with
  | none => exact ⟨_, none, ⟨e, rfl, rfl, trivial⟩, fun dd z => nomatch z⟩
  | some dd =>
    obtain ⟨fs, q⟩ := hd dd rfl
    obtain ⟨mA, hn, _⟩ := (show ObjOk X.prog X.w H s.heap dd (.xd fs) from I.hok dd _ q)
    obtain ⟨o, _, _, eo, _⟩ := hn
    exact ⟨_, some o, ⟨e, rfl, rfl, eo⟩, fun d' z => by cases z; exact ⟨o, rfl, eo⟩⟩
theorem kit_lo {C : Fc} {X : Cx} {pins : List (Addr × Obj)} {σ σ' : L2.St} {H : Hp} {s : Shared} {As : List Addr} {G : Hp} {Γ : Gam} {M : Led} {v : V} {u : Value} {l : Lo} {m : Tn} (hK : C.K = X.K) (I : Inv X pins σ' H s) (S : Sat C As G H Γ M σ) (r : LRp C.K As G v l) (ru : RelV v u) (e : tyT M l = some m) (ok : MOk C.K m) :
    KitP X s u (m.val C.K) := by
  have base : ∀ {n : String}, tyL M l = some n → m = .b n → KitP X s u (m.val C.K) := fun {n} h1 h2 => by
    subst h2
    have ty := tyn_ok S r h1
    rw [hK] at ty
    exact kit_of I ru ty
  have exc : ∀ {a : Addr} {n : String} {d : Option Addr}, u = .ref a → G a = some (ExT (.ref (cn C.K n)) d a) → (∀ dd, d = some dd → ∃ fs, G dd = some (.xd fs)) → m = .e n → KitP X s u (m.val C.K) := fun {a n d} eu hg hd em => by
    subst em eu
    obtain ⟨oe, od, J, _⟩ := exc_inst I (S.le _ _ hg) fun dd z => by
      obtain ⟨fs, q⟩ := hd dd z
      exact ⟨fs, S.le _ _ q⟩
    have E : ExcC C.K (cn C.K n) := ok
    have hcl : (PySem.W.clsIn C.K (cn C.K n)).isSome = true := by
      obtain ⟨cd, hc, _⟩ := PySem.W.any_some E.hd
      rw [hc]; rfl
    rw [hK] at E hcl J ⊢
    exact ⟨_, PySem.W.kitx_exc hcl E.hg E.hk E.hs E.ha E.hn E.ht E.hm, J, fun z => nomatch z⟩
  have ins : ∀ {a dx : Addr} {n : String} {fs : List (Str × V)}, v = .ref a → H a = some (.ins (cn C.K n) dx fs) → m = .o n → KitP X s u (m.val C.K) := fun {a dx n fs} ev hh em => by
    subst em ev
    have E : InsC C.K (cn C.K n) := ok
    rw [hK] at E hh ⊢
    exact kit_of I ru (.base (.ins hh E.cl E.ha E.hn E.ht E.hm))
  cases l with
  | tp ls =>
    cases e
    exact base (n := "tuple") rfl rfl
  | ow k =>
    obtain ⟨a, ha, rfl⟩ := r
    simp only [tyT] at e
    split at e
    · rename_i C' fs e1
      cases e
      obtain ⟨_, o, h0, dx, fvs, rfl, _⟩ := S.own _ _ _ ha e1 (by intro z; cases z)
      exact ins rfl h0 rfl
    · cases e2 : tyL M (.ow k) with
      | none => rw [e2] at e; cases e
      | some n => rw [e2] at e; cases e; exact base e2 rfl
  | im d =>
    cases d with
    | exc n fs =>
      cases e
      cases r with
      | exc0 h => exact exc ru h (fun dd z => nomatch z) rfl
      | excD h h2 _ _ => exact exc ru h (fun dd z => by cases z; exact ⟨_, h2⟩) rfl
    | ins n fs =>
      cases e
      cases r with
      | ins h _ _ => exact ins rfl (S.le _ _ h) rfl
    | non => cases e; exact base (n := "NoneType") rfl rfl
    | bl b => cases e; exact base (n := "bool") rfl rfl
    | int b => cases e; exact base (n := "int") rfl rfl
    | str b => cases e; exact base (n := "str") rfl rfl
    | lst b => cases e; exact base (n := "list") rfl rfl
    | tup b => cases e; exact base (n := "tuple") rfl rfl
    | dct b => cases e; exact base (n := "dict") rfl rfl
    | _ => cases e
theorem clsv (K : PySem.W.Frag) (n : Tn) : ∃ v, ClsV v (n.val K) ∧ (∀ G, Rp K G v n.d) := by
  cases n with
  | b n => exact ⟨.ty n, .ty n, fun _ => .ty n⟩
  | e n => exact ⟨.ref _, .own _, fun _ => .kls n⟩
  | o n => exact ⟨.ref _, .own _, fun _ => .kls n⟩
theorem clsv_of {K : PySem.W.Frag} {G : Hp} {v : V} {n : Tn} (r : Rp K G v n.d) : ClsV v (n.val K) := by
  cases n with
  | b n => cases r; exact .ty n
  | e n => cases r; exact .own _
  | o n => cases r; exact .own _
/-- isinstance(e, c), (c1, ..) -/
def rIs (tb : Tb) (ns : List Tn) (te : RE) : RE := fun Γ M K => te Γ M fun l M1 => match tyT M1 l with
  | some m => match isAny tb m ns with
    | some b => K (.im (.bl b)) M1
    | none => False
  | none => False
section
variable {C : Fc} {X : Cx} {a : Expr} {ta : RE} {p pos : Pos} {c : Expr} {tc : RE}
theorem call_isX {C : Fc} {As : List Addr} {G : Hp} {Γ : Gam} {M : Led} {tb : Tb} {m : Tn} {ns : List Tn} {b : Bool} {l lc : Lo} {pins : List (Addr × Obj)} {σ σ' : L2.St} {H : Hp} {s : Shared} {us : List Value} {v vc : V} {Q : VK} (hK : C.K = X.K) (tok : TbOk C.K tb) (hne : ns ≠ []) (S : Sat C As G H Γ M σ) (r : LRp C.K As G v l)
    (rc : LRp C.K As G vc lc) (hc : (∃ n, ns = [n] ∧ lc = .im n.d) ∨ lc = .im (.tup (ns.map Tn.d))) (e : tyT M l = some m) (hb : isAny tb m ns = some b) (I : Inv X pins σ' H s) (rv : Vals [v, vc] us) (q : Q (.bl b) H) :
    wpAny (model X.prog X.w) X.A (call (.builtin "isinstance") us) (EP X pins σ' Q) X.xe s := by
  obtain ⟨h1, h2⟩ := isAny_ok tok hb
  obtain ⟨u1, u2, rfl, r1, r2⟩ := vals2 rv
  obtain ⟨P, Z, p, hx⟩ := kit_lo hK I S r r1 e (h2 hne)
  rcases hc with ⟨n, rfl, rfl⟩ | rfl
  · have e2 := (clsv_of rc).eq r2
    subst e2
    have h1' : PySem.W.kitOne C.K (m.val C.K) (n.val C.K) = some b := by
      unfold isAny at hb
      split at hb
      · rename_i e3; cases hb; exact (isT_ok tok e3).1
      · rename_i e3; cases hb; exact (isT_ok tok e3).1
      · cases hb
    rw [hK] at h1' Z ⊢
    exact PySem.W.kia_one Z I.kIn p h1' hx fun tk => ⟨.bl b, H, I.tok tk, rfl, q⟩
  · obtain ⟨tp, cs, rfl, hT, rr⟩ := S.imT rc
    cases (show u2 = Value.ref tp from r2)
    obtain ⟨_, its, rw', o, g1, g2, n, g3⟩ := (show ObjOk X.prog X.w H s.heap tp (.tup cs) from I.hok tp _ hT)
    have k : ∀ {cs : List V} {ns : List Tn}, RpL C.K G cs (ns.map Tn.d) → Paired ClsV cs (ns.map (Tn.val C.K)) := fun {cs ns} rr => by
      induction ns generalizing cs with
      | nil => cases rr; exact .nil
      | cons n ns ih =>
        cases rr with
        | cons r1 r2 => exact .cons (clsv_of r1) (ih r2)
    have e3 := ClsV.all (k rr) rw'
    subst e3
    obtain ⟨oc, od, dt, sl⟩ := o
    simp only at g2 g3
    subst g2 g3
    rw [hK] at h1 Z
    rw [hK] at g1
    exact PySem.W.kia_tup Z I.kIn p g1 h1 hx fun tk => ⟨.bl b, H, I.tok tk, rfl, q⟩
/-- the class as a value -/
theorem q_kls (n : String) {x : Str} {pos : Pos} (hK : C.K = X.K) (hm : X.mg x = some (.ref (cn X.K n))) (hg : Gl X x := by rfl) (hd : (x == ("__debug__" : Str)) = false := by decide) : QE C X (.Name x pos) (rCon (.kls n)) :=
  PE.imp (pe_glob (v := .ref (cn X.K n)) hg hm rfl hd) (up_con fun _ => by rw [hK]; exact .kls n)
theorem q_bty (n : String) {x : Str} {pos : Pos} (hm : X.mg x = none) (hv : bootBuiltins x = some (.type n)) (hg : Gl X x := by rfl) (hn : x ≠ "__name__" := by decide) (hd : (x == ("__debug__" : Str)) = false := by decide) : QE C X (.Name x pos) (rCon (.ty n)) :=
  PE.imp (pe_bltn (v := .ty n) hg hm hv rfl hn hd) (up_con fun _ => .ty n)
/-- a call asked as it stands -/
def rRaw (X : Cx) (f : Value) : List V → Hp → VK → Prop := fun xs H Q => ∀ (pins : List (Addr × Obj)) (σ : L2.St) (s : Shared) (us : List Value), Inv X pins σ H s → Vals xs us → wpAny (model X.prog X.w) X.A (call f us) (EP X pins σ Q) X.xe s
theorem raw_ok {f : Value} : CallR X f (rRaw X f) := fun pins s σ H xs us Q I r h => h pins σ s us I r
theorem q_isX {tb : Tb} (ns : List Tn) (hK : C.K = X.K) (tok : TbOk C.K tb) (hm : X.mg "isinstance" = none) (hne : ns ≠ []) (hc : QE C X c tc) (dc : D) (hdc : (∃ n, ns = [n] ∧ dc = n.d) ∨ dc = .tup (ns.map Tn.d)) (hcv : ∀ Γ M K, K (.im dc) M → tc Γ M K) (ha : QE C X a ta) (hg : Gl X "isinstance" := by rfl)
    (he : starEach [a, c] X.env = (false, eval a X.env) :: starEach [c] X.env := by rfl) (he2 : starEach [c] X.env = (false, eval c X.env) :: starEach [] X.env := by rfl) (hpl : (backTo pos (starEach [c] X.env)).any (·.1) = false := by rfl) :
    QE C X (.Call (.Name "isinstance" p) [a, c] [] pos) (rIs tb ns ta) :=
  PE.imp (pe_callB (id := "isinstance") raw_ok hg hm (by decide +kernel) (pa_cons ha (pa_cons hc pa_nil he2) he) (by decide) (by decide) he hpl) fun σ H Q ⟨As, G, Γ, M, K, S, h, q⟩ => by
    refine ⟨As, G, Γ, M, _, S, h, fun l M1 v As1 G1 H1 g1 rv t1 => ?_⟩
    split at t1
    · rename_i m e1
      split at t1
      · rename_i b e2
        refine ⟨As1, G1, Γ, M1, fun l M2 => l = .im dc ∧ M2 = M1, g1.sat, hcv _ _ _ ⟨rfl, rfl⟩, fun lc M2 vc As2 G2 H2 g2 rc e => ?_⟩
        obtain ⟨rfl, rfl⟩ := e
        have rv2 := rv.mono g2.g g2.p
        intro pins σ' s us I rvs
        refine call_isX hK tok hne g2.sat rv2 rc ?_ e1 e2 I rvs (q (.im (.bl b)) _ _ As2 G2 H2 (g1.trans g2) (Rp.bl b) t1)
        rcases hdc with ⟨n, h1, h2⟩ | h1
        · exact .inl ⟨n, h1, by rw [h2]⟩
        · exact .inr (by rw [h1])
      · exact t1.elim
    · exact t1.elim
end
end Dl
namespace Dl
open PySem PySem.Spec PyProof.Rows L2
/-! ### try: .. except X as e: y = e -/
theorem Fc_try {C : Fc} {As As' : List Addr} {G G' H' : Hp} {Γ' : Gam} {M' : Led} {σ' : L2.St} (ha : C.Ab <+: As) (hg : Same C.Gb G) (S : Sat { C with Ab := As, Gb := G } As' G' H' Γ' M' σ') : Sat C As' G' H' Γ' M' σ' :=
  ⟨S.le, S.stp, S.own, S.fr, S.inj, S.al, S.asS, S.there, S.slot, S.len, hg.trans S.bg, ha.trans S.ba, S.tb⟩
theorem Fc_in {C : Fc} {As : List Addr} {G H : Hp} {Γ : Gam} {M : Led} {σ : L2.St} (S : Sat C As G H Γ M σ) : Sat { C with Ab := As, Gb := G } As G H Γ M σ :=
  ⟨S.le, S.stp, S.own, S.fr, S.inj, S.al, S.asS, S.there, S.slot, S.len, Same.refl _, List.prefix_refl _, S.tb⟩
theorem Fin_try {C : Fc} {As : List Addr} {G : Hp} {N : Nd} {D : Ends} (ha : C.Ab <+: As) (hg : Same C.Gb G) (f : Fin C G N D) : Fin { C with Ab := As, Gb := G } G N D :=
  ⟨fun Γ' M' σ' As' G' H' g k => f.nx Γ' M' σ' As' G' H' ⟨Fc_try ha hg g.sat, g.g⟩ k, fun l v Γ' M' σ' As' G' H' g rv k => f.rt l v Γ' M' σ' As' G' H' ⟨Fc_try ha hg g.sat, g.g⟩ rv k,
    fun Γ' M' σ' As' G' H' g k => f.bk Γ' M' σ' As' G' H' ⟨Fc_try ha hg g.sat, g.g⟩ k, fun Γ' M' σ' As' G' H' g k => f.ct Γ' M' σ' As' G' H' ⟨Fc_try ha hg g.sat, g.g⟩ k⟩
/-- the names of exceptions and whether the clause takes them -/
abbrev Xb := List (String × Bool)
def XbOk (K : PySem.W.Frag) (n : String) : Xb → Prop
  | [] => True
  | (m, r) :: t => PySem.W.exmOne K (.ref (cn K m)) (.ref (cn K n)) = some r ∧ XbOk K n t
theorem xb_ok {K : PySem.W.Frag} {n m : String} {r : Bool} : ∀ {xb : Xb}, XbOk K n xb → xb.lookup m = some r → PySem.W.exmOne K (.ref (cn K m)) (.ref (cn K n)) = some r
  | [], _, h => by cases h
  | (a, b) :: t, ok, h => by
    rw [List.lookup_cons] at h
    by_cases e : m = a
    · subst e
      rw [beq_self_eq_true] at h
      cases h
      exact ok.1
    · have e' : (m == a) = false := beq_eq_false_iff_ne.mpr e
      rw [e'] at h
      exact xb_ok ok.2 h
def excOf (x : Exn) : D := .exc x.C (x.pl.getD [])
/-- what is wished of an exception in the body -/
def exTry (xb : Xb) (K : Exn → Gam → Led → Prop) (exO : EX) : EX := fun x Γ M => match xb.lookup x.C with
  | some true => K x Γ M
  | some false => exO x Γ M
  | none => False
def rTry (xb : Xb) (i j : Nat) (body : EX → RS) (exO : EX) : RS := fun N Γ M => body (exTry xb (fun x Γ1 M1 => match Γ1[i]? with
  | some _ => N.nx ((Γ1.set j (some (.im (excOf x)))).set i none) M1
  | none => False) exO) N Γ M
/-- y = e.f -/
def rTryF (xb : Xb) (i j : Nat) (f : Str) (body : EX → RS) (exO : EX) : RS := fun N Γ M => body (exTry xb (fun x Γ1 M1 => match Γ1[i]?, x.pl with
  | some _, some fs => ∃ v, fs.lookup f = some v ∧ N.nx ((Γ1.set j (some (.im v))).set i none) M1
  | _, _ => False) exO) N Γ M
theorem excOf_rp {K : PySem.W.Frag} {G : Hp} {a : Addr} {d : Option Addr} {x : Exn} {cls : Value} (h : ExRp K G cls d x) (ha : G a = some (ExT cls d a)) : Rp K G (.ref a) (excOf x) := by
  obtain ⟨C, pl⟩ := x
  obtain ⟨rfl, h2⟩ := h
  cases pl with
  | none =>
    obtain rfl : d = none := h2
    exact .exc0 ha
  | some fs =>
    obtain ⟨dd, fvs, rfl, h3, h4, h5⟩ := h2
    exact .excD ha h3 h4 h5
theorem slot_fin {C : Fc} {As : List Addr} {G H : Hp} {Γ : Gam} {M : Led} {σ : L2.St} {i j : Nat} {a : Addr} {l : Lo} {v : V} (S : Sat C As G H Γ M σ) (r : LRp C.K As G v l) :
    Sat C As G H ((Γ.set j (some l)).set i none) M (((σ.set i (some (.ref a))).set j (some v)).set i none) := by
  refine ⟨S.le, S.stp, S.own, S.fr, S.inj, S.al, S.asS, S.there, fun k l' e => ?_, by simp only [List.length_set]; exact S.len, S.bg, S.ba, S.tb⟩
  by_cases hi : k = i
  · subst hi
    by_cases hl : k < ((Γ.set j (some l))).length
    · rw [List.getElem?_set_self hl] at e; cases e
    · rw [List.getElem?_eq_none (by simpa using hl)] at e; cases e
  · rw [List.getElem?_set_ne (Ne.symm hi)] at e ⊢
    by_cases hj : k = j
    · subst hj
      by_cases hl : k < Γ.length
      · rw [List.getElem?_set_self hl] at e
        cases e
        exact ⟨v, by rw [List.getElem?_set_self (by rw [List.length_set, ← S.len]; exact hl)], r⟩
      · rw [List.getElem?_eq_none (by simpa using hl)] at e; cases e
    · rw [List.getElem?_set_ne (Ne.symm hj)] at e ⊢
      rw [List.getElem?_set_ne (Ne.symm hi)]
      exact S.slot k l' e
section
variable {C : Fc} {X : Cx} {x nm y : Str} {n : String} {i j : Nat} {xb : Xb} {exO : EX} {body : List Stmt} {np p1 p2 p3 sp pos pos' : Pos} {tb : EX → RS}
theorem q_tryS {ts : Addr → Value → Option Addr → TS} {Kx : Nd → Exn → Gam → Led → Prop} {suite : List Stmt} {b₀ : Stmt} (hx : X.ex = []) (hs : X.stack = X.env :: X.outer) (hf : X.env.frame = some X.env.locals) (hN : X.N.Nodup) (hi : X.N[i]? = some nm) (hln : X.env.kindOf nm = some .local) (hc : Names X x (.ref (cn X.K n)))
    (hK : C.K = X.K) (hxb : XbOk C.K n xb) (tk : Takes X (UW C exO))
    (hsu : ∀ (a : Addr) (oe : Obj) (cls : Value) (d : Option Addr) (pn : List (Addr × Obj)), Zc cls d oe → (∃ vs, oe.data = .fields vs) → PSs (X.suite a ((a, oe) :: pn)) (b₀ :: suite) (ts a cls d))
    (hts : ∀ (N : Nd) (C : Fc), C.K = X.K → ∀ (As : List Addr) (G H : Hp) (Γ : Gam) (M : Led) (σ : L2.St) (xx : Exn) (a : Addr) (cls : Value) (d : Option Addr) (nx : L2.St → Hp → Prop) (rt : VK) (bk ct : L2.St → Hp → Prop), Sat C As G H Γ M σ → ExRp C.K G cls d xx → Kx N xx Γ M → H a = none →
      (∀ (Γ' : Gam) (M' : Led) (σ' : L2.St) (As' : List Addr) (G' H' : Hp), Gr C As (upd G a (ExT cls d a)) As' G' H' Γ' M' σ' → Same G G' → N.nx Γ' M' → nx σ' H') →
      ts a cls d { nx := fun σ' H' => nx (σ'.set i none) (upd H' a (ExT cls d a)), rt := rt, bk := bk, ct := ct } (σ.set i (some (.ref a))) H)
    (hb : ∀ (Ab : List Addr) (Gb : Hp) (ex : EX) (pn : List (Addr × Obj)) (xe : Value → Shared → Prop), Takes (X.tr pn xe) (UW { C with Ab := Ab, Gb := Gb } ex) → PassesOwn (model X.prog X.w) X.A X.env xe → QSs { C with Ab := Ab, Gb := Gb } (X.tr pn xe) body (tb ex)) :
    QS C X (.Try body [.ExceptHandler (some (.Name x np)) (some nm) (b₀ :: suite) pos'] [] [] pos) (fun N Γ M => tb (exTry xb (Kx N) exO) N Γ M) := by
  refine PS.imp (ps_try_asT (tb := fun W D σ H => ∃ ex Ab Gb, (∀ cls d σ H, UW { C with Ab := Ab, Gb := Gb } ex cls d σ H → W cls d σ H) ∧ US { C with Ab := Ab, Gb := Gb } (tb ex) D σ H) hx hs hf hN hi hln hc tk
    (fun W pn xe t po => ⟨fun pins s σ H D I ⟨ex, Ab, Gb, hex, us⟩ => (hb Ab Gb ex pn xe (t.imp hex) po).run pins s σ H D I us⟩) hsu) fun D σ H ⟨As, G, Γ, M, N, S, t, f⟩ => ?_
  refine ⟨_, As, G, fun cls d σ' H' => ?_, As, G, Γ, M, N, Fc_in S, t, Fin_try S.ba S.bg f⟩
  rintro ⟨As1, G1, Γ1, M1, xx, S1, rx, k⟩
  have S2 := Fc_try S.ba S.bg S1
  have gg : Same G G1 := S1.bg
  have ec : cls = .ref (cn C.K xx.C) := rx.1
  unfold exTry at k
  split at k
  · rename_i e
    refine ⟨true, by rw [ec, ← hK]; exact xb_ok hxb e, (fun _ a na => ?_), (fun z => nomatch z)⟩
    exact hts N C hK As1 G1 H' Γ1 M1 σ' xx a cls d D.nx D.rt (fun _ _ => False) (fun _ _ => False) S2 rx k na fun Γ' M' σ2 As' G' H2 g sg kk => f.nx Γ' M' σ2 As' G' H2 ⟨g.sat, gg.trans sg⟩ kk
  · rename_i e
    exact ⟨false, by rw [ec, ← hK]; exact xb_ok hxb e, (fun z => nomatch z), fun _ => ⟨As1, G1, Γ1, M1, xx, S2, rx, k⟩⟩
  · exact k.elim
theorem suite_nd {a : Addr} {pn : List (Addr × Obj)} (h : X.N.Nodup) : (X.suite a pn).N.Nodup := h
theorem q_try (i j : Nat) (hx : X.ex = []) (hs : X.stack = X.env :: X.outer) (hf : X.env.frame = some X.env.locals) (hN : X.N.Nodup) (hc : Names X x (.ref (cn X.K n))) (hK : C.K = X.K) (hxb : XbOk C.K n xb) (tk : Takes X (UW C exO))
    (hb : ∀ (Ab : List Addr) (Gb : Hp) (ex : EX) (pn : List (Addr × Obj)) (xe : Value → Shared → Prop), Takes (X.tr pn xe) (UW { C with Ab := Ab, Gb := Gb } ex) → PassesOwn (model X.prog X.w) X.A X.env xe → QSs { C with Ab := Ab, Gb := Gb } (X.tr pn xe) body (tb ex))
    (hi : X.N[i]? = some nm := by rfl) (hj : X.N[j]? = some y := by rfl) (hln : X.env.kindOf nm = some .local := by rfl) (hv : Vis X.env.scope nm := by first | exact Or.inl rfl | exact Or.inr (Or.inl rfl) | exact Or.inr (Or.inr rfl)) (hyx : Loc X.env.scope y := by first | exact Or.inl rfl | exact Or.inr rfl)
    (hyf : X.fn y = true ∨ X.env.scope.names.lookup y = some .local := by first | exact .inl rfl | exact .inr rfl) (hsw : swapsWith (.Name nm p2) (some (.Name y p1)) sp.line X.env = pure false := by rfl) (hd : (nm == ("__debug__" : Str)) = false := by decide) (hcd : (nm == ("__classdict__" : Str)) = false := by decide) :
    QS C X (.Try body [.ExceptHandler (some (.Name x np)) (some nm) [.Assign [.Name y p1] (.Name nm p2) sp] pos'] [] [] pos) (rTry xb i j tb exO) :=
  q_tryS (ts := fun a cls d => tAsg (tVar i) (gName j)) (Kx := fun N x Γ1 M1 => match Γ1[i]? with
    | some _ => N.nx ((Γ1.set j (some (.im (excOf x)))).set i none) M1
    | none => False) hx hs hf hN hi hln hc hK hxb tk
    (fun a oe cls d pn hz hfl => pss_one (ps_set (X := X.suite a ((a, oe) :: pn)) (i := j) hN hj hyx (pe_var (X := X.suite a ((a, oe) :: pn)) (i := i) hi hv hd hcd) hsw hyf))
    (fun N C hK As G H Γ M σ xx a cls d nx rt bk ct S rx k na q => by
      split at k
      · rename_i w ew
        have hlen : i < σ.length := by rw [← S.len]; exact (List.getElem?_eq_some_iff.mp ew).1
        have S1 := S.allocF (o := ExT cls d a) na
        have sg : Same G (upd G a (ExT cls d a)) := Same.new (S.gn na)
        have rr : Rp C.K (upd G a (ExT cls d a)) (.ref a) (excOf xx) := excOf_rp (rx.mono sg) upd_same
        refine ⟨.ref a, List.getElem?_set_self hlen, ?_⟩
        exact q _ _ _ As _ _ (Gr.refl (slot_fin (l := .im (excOf xx)) S1 rr)) sg k
      · exact k.elim)
    hb
theorem lookup_rp {K : PySem.W.Frag} {G : Hp} {f : Str} {d : D} : ∀ {fvs : List (Str × V)} {fs : List (Str × D)}, fvs.map (·.1) = fs.map (·.1) → RpL K G (fvs.map (·.2)) (fs.map (·.2)) → fs.lookup f = some d → ∃ v, fvs.lookup f = some v ∧ Rp K G v d
  | [], [], _, _, h => by cases h
  | (a, v) :: fvs, (b, e) :: fs, hk, .cons r rr, h => by
    rw [List.map_cons, List.map_cons, List.cons.injEq] at hk
    obtain ⟨h1, h2⟩ := hk
    obtain rfl : a = b := h1
    rw [List.lookup_cons] at h ⊢
    by_cases e2 : f = a
    · subst e2
      rw [beq_self_eq_true] at h ⊢
      cases h
      exact ⟨v, rfl, r⟩
    · have e3 : (f == a) = false := beq_eq_false_iff_ne.mpr e2
      rw [e3] at h ⊢
      exact lookup_rp h2 rr h
theorem q_tryF (i j : Nat) (f : Str) (hx : X.ex = []) (hs : X.stack = X.env :: X.outer) (hf : X.env.frame = some X.env.locals) (hN : X.N.Nodup) (hc : Names X x (.ref (cn X.K n))) (hK : C.K = X.K) (hxb : XbOk C.K n xb) (T : XfC X.K (cn X.K n)) (hno : PySem.W.findIn X.K (.ref (cn X.K n)) f = some none) (hone : ∀ m, xb.lookup m = some true → m = n) (tk : Takes X (UW C exO))
    (hb : ∀ (Ab : List Addr) (Gb : Hp) (ex : EX) (pn : List (Addr × Obj)) (xe : Value → Shared → Prop), Takes (X.tr pn xe) (UW { C with Ab := Ab, Gb := Gb } ex) → PassesOwn (model X.prog X.w) X.A X.env xe → QSs { C with Ab := Ab, Gb := Gb } (X.tr pn xe) body (tb ex))
    (hi : X.N[i]? = some nm := by rfl) (hj : X.N[j]? = some y := by rfl) (hln : X.env.kindOf nm = some .local := by rfl) (hv : Vis X.env.scope nm := by first | exact Or.inl rfl | exact Or.inr (Or.inl rfl) | exact Or.inr (Or.inr rfl)) (hyx : Loc X.env.scope y := by first | exact Or.inl rfl | exact Or.inr rfl)
    (hyf : X.fn y = true ∨ X.env.scope.names.lookup y = some .local := by first | exact .inl rfl | exact .inr rfl) (hsw : swapsWith (.Attribute (.Name nm p2) f p3) (some (.Name y p1)) sp.line X.env = pure false := by rfl) (hab : attributeBase (.Name nm p2) f X.env (eval (.Name nm p2) X.env) = eval (.Name nm p2) X.env := by rfl) (hd : (nm == ("__debug__" : Str)) = false := by decide) (hcd : (nm == ("__classdict__" : Str)) = false := by decide) :
    QS C X (.Try body [.ExceptHandler (some (.Name x np)) (some nm) [.Assign [.Name y p1] (.Attribute (.Name nm p2) f p3) sp] pos'] [] [] pos) (rTryF xb i j f tb exO) := by
  refine PS.imp (q_tryS (tb := tb) (exO := exO) (xb := xb) (ts := fun a cls d => tAsg (tXf a cls d (cn X.K n) f (tVar i)) (gName j)) (Kx := fun N x Γ1 M1 => x.C = n ∧ match Γ1[i]?, x.pl with
    | some _, some fs => ∃ v, fs.lookup f = some v ∧ N.nx ((Γ1.set j (some (.im v))).set i none) M1
    | _, _ => False) hx hs hf hN hi hln hc hK hxb tk
    (fun a oe cls d pn hz hfl => pss_one (ps_set (X := X.suite a ((a, oe) :: pn)) (i := j) hN hj hyx (pe_xf T hno hz hfl (pe_var (X := X.suite a ((a, oe) :: pn)) (i := i) hi hv hd hcd) hab) hsw hyf))
    (fun N C hK As G H Γ M σ xx a cls d nx rt bk ct S rx k na q => by
      obtain ⟨ec, k⟩ := k
      split at k
      · rename_i w fs ew ep
        obtain ⟨v, hl, k⟩ := k
        have hlen : i < σ.length := by rw [← S.len]; exact (List.getElem?_eq_some_iff.mp ew).1
        obtain ⟨cx, pl⟩ := xx
        obtain ⟨r1, r2⟩ := rx
        dsimp only at ep ec r1 r2
        subst ep ec
        obtain ⟨dd, fvs, rfl, h3, h4, h5⟩ := r2
        obtain ⟨vv, hvv, rv⟩ := lookup_rp h4 h5 hl
        have S1 := S.allocF (o := ExT cls (some dd) a) na
        have sg : Same G (upd G a (ExT cls (some dd) a)) := Same.new (S.gn na)
        refine ⟨.ref a, List.getElem?_set_self hlen, rfl, by rw [r1, hK], dd, fvs, vv, rfl, S.le _ _ h3, hvv, ?_⟩
        exact q _ _ _ As _ _ (Gr.refl (slot_fin (l := .im v) S1 (rv.mono sg))) sg k
      · exact k.elim)
    hb) fun D σ H ⟨As, G, Γ, M, N, S, t, ff⟩ => ⟨As, G, Γ, M, N, S, ?_, ff⟩
  unfold rTryF at t
  have e : (exTry xb (fun x Γ1 M1 => match Γ1[i]?, x.pl with
    | some _, some fs => ∃ v, fs.lookup f = some v ∧ N.nx ((Γ1.set j (some (.im v))).set i none) M1
    | _, _ => False) exO) = exTry xb (fun x Γ1 M1 => x.C = n ∧ match Γ1[i]?, x.pl with
    | some _, some fs => ∃ v, fs.lookup f = some v ∧ N.nx ((Γ1.set j (some (.im v))).set i none) M1
    | _, _ => False) exO := by
    funext x Γ1 M1
    unfold exTry
    cases hq : xb.lookup x.C with
    | none => rfl
    | some b =>
      cases b with
      | false => rfl
      | true => simp [hone _ hq]
  rw [e] at t
  exact t
end
end Dl
namespace Dl
open PySem PySem.Spec PyProof.Rows L2
/-! ### the facts of the program's exceptions -/
structure Xf (K : PySem.W.Frag) (mg : Str → Option Value) (x : String) : Prop where
  g : mg (Str.ofString x) = some (.ref (cn K x))
  k : PySem.W.keepIn K (.ref (cn K x)) = true
  e : ExcC K (cn K x)
  t : PySem.W.typeIn K (.ref (cn K x)) = some (.type "type")
theorem xb_mk {K : PySem.W.Frag} {mg : Str → Option Value} {n : String} {cls : Value} {r : Bool} (F : Xf K mg n) (h : PySem.W.subIn K cls (.ref (cn K n)) = some r) : PySem.W.exmOne K cls (.ref (cn K n)) = some r := PySem.W.exm_ref F.e.hs F.e.hd F.t h
theorem cls_some {K : PySem.W.Frag} {C : Addr} (h : PySem.W.hasDictIn K C = true) : (PySem.W.clsIn K C).isSome = true := by
  obtain ⟨cd, hc, _⟩ := PySem.W.any_some h
  rw [hc]
  rfl
theorem kit_own {K : PySem.W.Frag} {m C : Addr} {r : Bool} (hd : (PySem.W.clsIn K C).isSome = true) (ht : PySem.W.typeIn K (.ref C) = some (.type "type")) (hs : PySem.W.subIn K (.ref m) (.ref m) = some true) (h : PySem.W.subIn K (.ref m) (.ref C) = some r) : PySem.W.kitOne K (.ref m) (.ref C) = some r := by
  unfold PySem.W.kitOne
  by_cases e : m = C
  · subst e
    rw [hs] at h
    cases h
    rw [if_pos (by simp)]
  · rw [if_neg (by simp [e])]
    unfold PySem.W.kitCls
    dsimp only
    rw [if_pos (by rw [hd, ht]; rfl)]
    exact h
theorem kit_bo {K : PySem.W.Frag} {T : String} {C : Addr} {r : Bool} (hd : (PySem.W.clsIn K C).isSome = true) (ht : PySem.W.typeIn K (.ref C) = some (.type "type")) (h : PySem.W.subIn K (.type T) (.ref C) = some r) : PySem.W.kitOne K (.type T) (.ref C) = some r := by
  unfold PySem.W.kitOne
  rw [if_neg (by simp)]
  unfold PySem.W.kitCls
  dsimp only
  rw [if_pos (by rw [hd, ht]; rfl)]
  exact h
theorem kit_ob {K : PySem.W.Frag} {T : String} {m : Addr} {r : Bool} (hT : PySem.W.kitMeta T = true) (h : PySem.W.subIn K (.ref m) (.type T) = some r) : PySem.W.kitOne K (.ref m) (.type T) = some r := by
  unfold PySem.W.kitOne
  rw [if_neg (by simp)]
  unfold PySem.W.kitCls
  dsimp only
  rw [if_pos hT]
  exact h
/-! ### the field of a kept exception -/
structure XfF (K : PySem.W.Frag) (x : String) (f : Str) : Prop where
  hno : PySem.W.findIn K (.ref (cn K x)) f = some none
def rXf (xs : List String) (f : Str) (te : RE) : RE := fun Γ M K => te Γ M fun l M1 => match l with
  | .im (.exc C fs) => C ∈ xs ∧ ∃ d, fs.lookup f = some d ∧ K (.im d) M1
  | _ => False
section
variable {C : Fc} {X : Cx} {e : Expr} {te : RE} {f : Str} {pos : Pos} {xs : List String}
theorem q_xf (hK : C.K = X.K) (hT : ∀ n ∈ xs, ExcC C.K (cn C.K n) ∧ PySem.W.findIn C.K (.ref (cn C.K n)) f = some none) (he : QE C X e te) (hab : attributeBase e f X.env (eval e X.env) = eval e X.env := by rfl) : QE C X (.Attribute e f pos) (rXf xs f te) := ⟨fun pins s σ H Q I ⟨As, G, Γ, M, K, S, h, q⟩ => by
  refine attr_of hab (thn (he.run pins s σ H (fun v H1 => ∃ (As1 : List Addr) (G1 : Hp) (M1 : Led) (l : Lo), Gr C As G As1 G1 H1 Γ M1 σ ∧ LRp C.K As1 G1 v l ∧ _) I ⟨As, G, Γ, M, _, S, h, fun l M1 v As1 G1 H1 g1 rv k1 => ⟨As1, G1, M1, l, g1, rv, k1⟩⟩) fun u s1 ⟨v, H1, I1, ru, As1, G1, M1, l, g1, rv, k1⟩ => ?_)
  split at k1
  · rename_i n fs
    obtain ⟨hm, d, hl, k⟩ := k1
    obtain ⟨E, hno⟩ := hT n hm
    cases rv with
    | exc0 h1 => cases hl
    | @excD a dd _ fvs _ h1 h2 h3 h4 =>
      obtain rfl : u = Value.ref a := ru
      obtain ⟨vv, hvv, rvv⟩ := lookup_rp h3 h4 hl
      obtain ⟨oe, od, J, hod⟩ := exc_inst I1 (g1.sat.le _ _ h1) fun d' z => by cases z; exact ⟨_, g1.sat.le _ _ h2⟩
      obtain ⟨o, rfl, ho⟩ := hod dd rfl
      obtain ⟨mA, hns, hr⟩ := (show ObjOk X.prog X.w H1 s1.heap dd (.xd fvs) from I1.hok dd _ (g1.sat.le _ _ h2))
      obtain ⟨o2, ho2, hl2⟩ := lookIn_ns hns
      rw [ho] at ho2
      cases ho2
      obtain ⟨uu, hu, ruu⟩ := RelO.some_of (v := vv) (o := mA f) (by rw [← hvv]; exact hr f)
      rw [hK] at E hno J
      exact HandSPX.exc_get I1.kIn J E.hg E.hk E.hs (PySem.W.findObj_own E.hd hno rfl (by rw [hl2, hu])) (handed_of ruu) ⟨vv, H1, I1.tok _, ruu, q (.im d) M1 vv As1 G1 H1 g1 rvv k⟩
  · exact k1.elim⟩
end
end Dl
namespace Dl
open PySem PySem.Spec PyProof.Rows L2
/-! ### the facts made from what the top says of the classes -/
section
variable {K : PySem.W.Frag} {mg : Str → Option Value} {x m n : String} {c cm : Addr} {r : Bool}
theorem xf_mk (nx : PySem.W.nsIn K mainGlobals (Str.ofString x) = some (some (.ref c))) (g : mg (Str.ofString x) = some (.ref c)) (k : PySem.W.keepIn K (.ref c) = true) (t : PySem.W.typeIn K (.ref c) = some (.type "type"))
    (hg : PySem.W.findIn K (.ref c) "__getattribute__" = some (some (.builtin "BaseException.__getattribute__"))) (hk : PySem.W.findIn K (.ref c) "__getattr__" = some none) (hs : PySem.W.subIn K (.ref c) (.type "BaseException") = some true) (hd : PySem.W.hasDictIn K c = true)
    (ha : PySem.W.findIn K (.ref c) "__class__" = some (some (.builtin "object.__class__"))) (hm : PySem.W.mroIn K c (.type "object") = some true)
    (hn : PySem.W.specialIn K (.builtin "object.__class__") "__get__" = some (some (.builtin "getset_descriptor.__get__"))) (ht : PySem.W.takesIn K (.builtin "object.__class__") = some true) : Xf K mg x := by
  have e := cn_eq nx
  subst e
  exact ⟨g, k, ⟨hg, hk, hs, hd, ha, hn, ht, hm⟩, t⟩
theorem xcl_mk {bm : List Value} {nw : String} (nx : PySem.W.nsIn K mainGlobals (Str.ofString x) = some (some (.ref c))) (F : Xf K mg x) (q : PySem.W.excIn K c bm nw = true) : Xcl K mg x bm nw := by
  have e := cn_eq nx
  subst e
  exact ⟨F.g, q, F.k, F.e.hs, F.t⟩
theorem xf_of (F : Xf K mg x) : XfC K (cn K x) := ⟨F.e.hg, F.e.hk, F.e.hs, F.e.hd⟩
theorem xb1 (nm : PySem.W.nsIn K mainGlobals (Str.ofString m) = some (some (.ref cm))) (nn : PySem.W.nsIn K mainGlobals (Str.ofString n) = some (some (.ref c))) (F : Xf K mg n) (s : PySem.W.subIn K (.ref cm) (.ref c) = some r) :
    PySem.W.exmOne K (.ref (cn K m)) (.ref (cn K n)) = some r := by
  have e := cn_eq nm
  have e2 := cn_eq nn
  subst e e2
  exact xb_mk F s
/-- own exception, own class of exceptions -/
theorem tb_ee (nm : PySem.W.nsIn K mainGlobals (Str.ofString m) = some (some (.ref cm))) (nn : PySem.W.nsIn K mainGlobals (Str.ofString n) = some (some (.ref c))) (Fm : Xf K mg m) (F : Xf K mg n) (s0 : PySem.W.subIn K (.ref cm) (.ref cm) = some true) (s : PySem.W.subIn K (.ref cm) (.ref c) = some r) :
    PySem.W.kitOne K (Tn.val K (.e m)) (Tn.val K (.e n)) = some r ∧ MOk K (.e m) := by
  have e := cn_eq nm
  have e2 := cn_eq nn
  subst e e2
  exact ⟨kit_own (cls_some F.e.hd) F.t s0 s, Fm.e⟩
/-- own exception, built-in class -/
theorem tb_eb (nm : PySem.W.nsIn K mainGlobals (Str.ofString m) = some (some (.ref cm))) (Fm : Xf K mg m) (hT : PySem.W.kitMeta n = true) (s : PySem.W.subIn K (.ref cm) (.type n) = some r) :
    PySem.W.kitOne K (Tn.val K (.e m)) (Tn.val K (.b n)) = some r ∧ MOk K (.e m) := by
  have e := cn_eq nm
  subst e
  exact ⟨kit_ob hT s, Fm.e⟩
/-- a built-in thing, own class of exceptions -/
theorem tb_be (nn : PySem.W.nsIn K mainGlobals (Str.ofString n) = some (some (.ref c))) (F : Xf K mg n) (s : PySem.W.subIn K (.type m) (.ref c) = some r) :
    PySem.W.kitOne K (Tn.val K (.b m)) (Tn.val K (.e n)) = some r ∧ MOk K (.b m) := by
  have e2 := cn_eq nn
  subst e2
  exact ⟨kit_bo (cls_some F.e.hd) F.t s, trivial⟩
theorem tb_bb (h : PySem.W.kitOne K (.type m) (.type n) = some r) : PySem.W.kitOne K (Tn.val K (.b m)) (Tn.val K (.b n)) = some r ∧ MOk K (.b m) := ⟨h, trivial⟩
theorem no_mk {f : Str} (nx : PySem.W.nsIn K mainGlobals (Str.ofString x) = some (some (.ref c))) (h : PySem.W.findIn K (.ref c) f = some none) : PySem.W.findIn K (.ref (cn K x)) f = some none := by
  have e := cn_eq nx
  subst e
  exact h
theorem in_mk {f : Str} {v : Value} (nx : PySem.W.nsIn K mainGlobals (Str.ofString x) = some (some (.ref c))) (h : PySem.W.findIn K (.ref c) f = some (some v)) : PySem.W.findIn K (.ref (cn K x)) f = some (some v) := by
  have e := cn_eq nx
  subst e
  exact h
end
end Dl

set_option Elab.async false
set_option maxRecDepth 100000
set_option maxHeartbeats 1000000
/-! exceptions with an own __init__ that hands a text to the base and keeps one field -/
namespace L2
open PySem PySem.Spec PyProof.Rows
section
variable {X : Cx} {o e : Expr} {es : List Expr} {to te : TE} {ta : TA} {f x : Str} {C0 : Addr} {p p' p1 p2 pos : Pos}
theorem pe_veinitC {pl : Sem Bool} (hg : Gl X x) (hm : X.mg x = some (.ref C0)) (rd : ClX.CRead X.K C0 (.type "type")) (vV : PySem.W.findCls X.K (.ref C0) (.type "type") "__init__" = some (.val (.builtin "ValueError.__init__"))) (ha : PA X (e :: es) ta)
    (hdb : (x == ("__debug__" : Str)) = false := by decide)
    (hc : eval (.Call (.Attribute (.Name x p1) "__init__" p2) (e :: es) [] pos) X.env = (do
      let ov ← eval (.Name x p1) X.env
      standAt p2.atName
      let (f, first) ← holding [ov] (getMethod ov "__init__" pl)
      callWith pos f first (backTo pos (starEach (e :: es) X.env)) (backToKw pos (keywordEach [] X.env))) := by rfl)
    (he : starEach (e :: es) X.env = (false, eval e X.env) :: starEach es X.env := by rfl) (hpl : (backTo pos (starEach es X.env)).any (·.1) = false := by rfl) :
    PE X (.Call (.Attribute (.Name x p1) "__init__" p2) (e :: es) [] pos) (tVeI X.K ta) := by
  refine ⟨fun pins s σ H Q I h => ?_⟩
  refine PySem.W.methodCall_KW (ld_glob I hg hm ?_ hdb) hc
  refine PySem.W.method_cls I.kIn rd.ga (PySem.W.cls_value I.kIn rd.rd vV (by decide +kernel) ?_)
  show wpAny _ _ (callWith pos (Value.builtin "ValueError.__init__") [] (backTo pos (starEach (e :: es) X.env)) []) _ _ _
  refine PyProof.Rows.callWith_method1 (thn (ha.run pos pins _ σ H _ (I.tok _) h) fun us s1 ⟨vs, H1, I1, r1, a, C, ws, ev, hl, T, ea, q⟩ => ?_) he hpl
  subst ev
  cases r1 with
  | @cons _ u0 _ ur ra rw' =>
    obtain rfl : u0 = Value.ref a := ra
    have hlen : ur.length ≤ sizeLine := by
      rw [← Paired.length rw', sizeLine_eq]
      omega
    exact oinit_ok T I1 ea hlen fun s' J => ⟨.non, H1, J, rfl, q⟩
end
/-- the promise of such an __init__: one field f, of the first argument; Y: what its text asks of it -/
def spXI (K : PySem.W.Frag) (f : Str) (Y : V → Prop) : Sp := fun vs H Q _ => ∃ (a C : Addr) (y : V), vs = [.ref a, y] ∧ OexC K C ∧ H a = some (exo a C none) ∧ PySem.W.findIn K (.ref C) f = some none ∧ Y y ∧
  ∀ dx, H dx = none → dx ≠ a → Q .non (upd (upd H dx (exd dx [(f, y)])) a (exo a C (some dx)))
theorem spXI_len {K : PySem.W.Frag} {f : Str} {Y : V → Prop} : ∀ vs H Q E, spXI K f Y vs H Q E → vs.length = 2 := fun vs H Q E ⟨_, _, _, e, _⟩ => by rw [e]; rfl
end L2
namespace Dl
open PySem PySem.Spec PyProof.Rows L2
def rRaiseI (x : String) (f : Str) (te : RE) (ex : EX) : RS := fun _ Γ M => te Γ M fun l M1 => match l with
  | .im d => ex ⟨x, some [(f, d)]⟩ Γ M1
  | _ => False
/-- .. whose text shows an int -/
def rRaiseN (x : String) (f : Str) (te : RE) (ex : EX) : RS := fun _ Γ M => te Γ M fun l M1 => match l with
  | .im (.int i) => i.natAbs.log2 < 1000 ∧ ex ⟨x, some [(f, .int i)]⟩ Γ M1
  | _ => False
theorem del_upd {H : Hp} {a dx : Addr} {o1 o2 o3 o4 : HO} (ha : H a = none) (hd : dx ≠ a) : upd (L2.del (upd (upd (upd H a o1) dx o2) a o3) a) dx o4 = upd H dx o4 := by
  funext b
  by_cases h1 : b = dx
  · rw [h1, upd_same, upd_same]
  · rw [upd_ne h1, upd_ne h1]
    by_cases h2 : b = a
    · rw [h2, del_same, ha]
    · rw [del_ne h2, upd_ne h2, upd_ne h1, upd_ne h2]
section
variable {C : Fc} {X : Cx} {x : String} {f : Str} {fI : Addr} {k : Nat} {fd : FuncData} {ps : List Str} {e : Expr} {te : RE} {p pos pos2 : Pos} {ex : EX} {Y : V → Prop}
theorem q_raiseY (hc : X.calm = true) (T : OexC X.K (cn X.K x)) (hno : PySem.W.findIn X.K (.ref (cn X.K x)) f = some none) (iC : PySem.W.findIn X.K (.ref (cn X.K x)) "__init__" = some (some (.ref fI))) (tI : PySem.W.typeIn X.K (.ref fI) = some (.type "function"))
    (F1 : FnOk X.prog X.w X.K X.mg X.base CX0 k fI fd ps (spXI X.K f Y)) (hr : Room (k + 1) X.A) (hb : Binds X.K fd ps []) (hm : X.mg (Str.ofString x) = some (.ref (cn X.K x))) (hK : C.K = X.K) (tk : Takes X (UW C ex)) (he : QE C X e te)
    (hg : Gl X (Str.ofString x) := by rfl) (hdb : (Str.ofString x == ("__debug__" : Str)) = false := by decide) (hs : starEach [e] X.env = (false, eval e X.env) :: starEach [] X.env := by rfl) :
    PS X (.Raise (some (.Call (.Name (Str.ofString x) p) [e] [] pos)) none pos2) (fun _ σ H => UE C te σ H fun v H1 => Y v ∧ ∀ dx, H1 dx = none → UW C ex (.ref (cn X.K x)) (some dx) σ (upd H1 dx (.xd [(f, v)]))) :=
  PS.imp (ps_raise hc tk (pmk_oex T iC tI F1 hr hb .nil (fun _ _ _ _ _ _ _ h => h.elim) hg hm (pa_cons he pa_nil hs) hdb hs)) fun D σ H h => by
    obtain ⟨As, G, Γ, M, K, S, t, q⟩ := h
    refine ⟨As, G, Γ, M, K, S, t, fun l M1 v As1 G1 H1 g1 rv k1 => ?_⟩
    obtain ⟨hy, q1⟩ := q l M1 v As1 G1 H1 g1 rv k1
    refine ⟨by show (1 : Nat) ≤ 1000; decide, fun a na => ⟨a, cn X.K x, v, rfl, T, upd_same, hno, hy, fun dx nd ne => ⟨rfl, dx, [(f, v)], upd_same, by rw [upd_ne ne, upd_same], ?_, ?_⟩⟩⟩
    · rw [upd_ne ne] at nd
      exact nd
    · rw [upd_ne ne] at nd
      rw [del_upd na ne]
      exact q1 dx nd
theorem exr_new {K : PySem.W.Frag} {As : List Addr} {G H : Hp} {Γ : Gam} {M : Led} {σ : L2.St} {C : Fc} {dx : Addr} {v : V} {d : D} (S : Sat C As G H Γ M σ) (nd : H dx = none) (r : Rp C.K G v d) (h : ex ⟨x, some [(f, d)]⟩ Γ M) :
    UW C ex (.ref (cn C.K x)) (some dx) σ (upd H dx (.xd [(f, v)])) :=
  ⟨As, _, Γ, M, ⟨x, some [(f, d)]⟩, S.allocF nd, ⟨rfl, dx, [(f, v)], rfl, upd_same, rfl, .one (r.mono (Same.new (S.gn nd)))⟩, h⟩
theorem q_raiseI (hc : X.calm = true) (T : OexC X.K (cn X.K x)) (hno : PySem.W.findIn X.K (.ref (cn X.K x)) f = some none) (iC : PySem.W.findIn X.K (.ref (cn X.K x)) "__init__" = some (some (.ref fI))) (tI : PySem.W.typeIn X.K (.ref fI) = some (.type "function"))
    (F1 : FnOk X.prog X.w X.K X.mg X.base CX0 k fI fd ps (spXI X.K f fun _ => True)) (hr : Room (k + 1) X.A) (hb : Binds X.K fd ps []) (hm : X.mg (Str.ofString x) = some (.ref (cn X.K x))) (hK : C.K = X.K) (tk : Takes X (UW C ex)) (he : QE C X e te)
    (hg : Gl X (Str.ofString x) := by rfl) (hdb : (Str.ofString x == ("__debug__" : Str)) = false := by decide) (hs : starEach [e] X.env = (false, eval e X.env) :: starEach [] X.env := by rfl) :
    QS C X (.Raise (some (.Call (.Name (Str.ofString x) p) [e] [] pos)) none pos2) (rRaiseI x f te ex) :=
  PS.imp (q_raiseY hc T hno iC tI F1 hr hb hm hK tk he hg hdb hs) fun D σ H ⟨As, G, Γ, M, N, S, t, _⟩ => ⟨As, G, Γ, M, _, S, t, fun l M1 v As1 G1 H1 g1 rv k1 => by
    split at k1
    · rename_i d
      refine ⟨trivial, fun dx nd => ?_⟩
      rw [← hK]
      exact exr_new (K := C.K) g1.sat nd rv k1
    · exact k1.elim⟩
theorem q_raiseN (hc : X.calm = true) (T : OexC X.K (cn X.K x)) (hno : PySem.W.findIn X.K (.ref (cn X.K x)) f = some none) (iC : PySem.W.findIn X.K (.ref (cn X.K x)) "__init__" = some (some (.ref fI))) (tI : PySem.W.typeIn X.K (.ref fI) = some (.type "function"))
    (F1 : FnOk X.prog X.w X.K X.mg X.base CX0 k fI fd ps (spXI X.K f fun v => ∃ i : Int, v = .int i ∧ i.natAbs.log2 < 1000)) (hr : Room (k + 1) X.A) (hb : Binds X.K fd ps []) (hm : X.mg (Str.ofString x) = some (.ref (cn X.K x))) (hK : C.K = X.K) (tk : Takes X (UW C ex)) (he : QE C X e te)
    (hg : Gl X (Str.ofString x) := by rfl) (hdb : (Str.ofString x == ("__debug__" : Str)) = false := by decide) (hs : starEach [e] X.env = (false, eval e X.env) :: starEach [] X.env := by rfl) :
    QS C X (.Raise (some (.Call (.Name (Str.ofString x) p) [e] [] pos)) none pos2) (rRaiseN x f te ex) :=
  PS.imp (q_raiseY hc T hno iC tI F1 hr hb hm hK tk he hg hdb hs) fun D σ H ⟨As, G, Γ, M, N, S, t, _⟩ => ⟨As, G, Γ, M, _, S, t, fun l M1 v As1 G1 H1 g1 rv k1 => by
    split at k1
    · rename_i i
      obtain ⟨h1, h2⟩ := k1
      refine ⟨⟨i, int_of rv, h1⟩, fun dx nd => ?_⟩
      rw [← hK]
      exact exr_new (K := C.K) g1.sat nd rv h2
    · exact k1.elim⟩
end
end Dl
namespace Dl
open PySem PySem.Spec PyProof.Rows L2
section
variable {K : PySem.W.Frag} {mg : Str → Option Value} {x : String} {c : Addr}
theorem oex_mk {nm q : Str} {N : Addr} {bs bm : List Value} {sn sub ab col dd k0 k1 k2 k3 k5} (nx : PySem.W.nsIn K mainGlobals (Str.ofString x) = some (some (.ref c))) (F : Xf K mg x)
    (l : K.lookup c = some (excClassObj nm q c N bs bm true sn sub ab col dd k0 k1 k2 k3 k5 "ValueError.__new__")) (hb : PySem.HandSPX.refsVE bm = true) (sa : PySem.W.findIn K (.ref c) "__setattr__" = some (some (.builtin "object.__setattr__"))) : OexC K (cn K x) := by
  have e := cn_eq nx
  subst e
  exact ⟨⟨nm, q, N, bs, bm, sn, sub, ab, col, dd, k0, k1, k2, k3, k5, l, hb⟩, sa, F.e.hs, F.t, F.k⟩
end
end Dl

set_option Elab.async false
set_option maxRecDepth 100000
set_option maxHeartbeats 1000000
/-! zip(a, b, strict=True) of two lists, of two tuples, of one length -/
namespace PySem
abbrev IsZipS (h : Heap) (z TI TO : Addr) (f0 : Value) : Prop :=
  h.get? z = some { cls := .type "zip", dict := none, data := .fields #[f0, .bool false, .bool true, .ref TI, .ref TO], slots := #[] }
section
variable {prog : Program} {w : World} {A : Around} {E : Value → Shared → Prop} {s : Shared}
theorem nextOrEnd_item {it : Value} {Q : Option Value → Shared → Prop} (h : wpAny (model prog w) A (Builtin.SmallTypes.nextOf it) (fun v s' => Q (some v) s') (fun _ _ => False) s) : wpAny (model prog w) A (Builtin.SmallTypes.nextOrEnd it) Q E s := by
  unfold Builtin.SmallTypes.nextOrEnd
  exact wpAny_bind (wpAny_attempt (wpAny_mono h (fun v s' q => wpAny_pure q) fun _ _ z => z.elim))
theorem nextOrEnd_end {it : Value} {Q : Option Value → Shared → Prop} (h : wpAny (model prog w) A (Builtin.SmallTypes.nextOf it) (fun _ _ => False) (fun e s' => s'.TypeIs e "StopIteration" ∧ Q none s') s) : wpAny (model prog w) A (Builtin.SmallTypes.nextOrEnd it) Q E s := by
  unfold Builtin.SmallTypes.nextOrEnd
  refine wpAny_bind (wpAny_attempt (wpAny_mono h (fun _ _ z => z.elim) fun e s' q => ?_))
  refine wpAny_bind (wpAny_isInstance (T := "StopIteration") (b := true) q.1 isSubtype_stop ?_)
  exact wpAny_pure q.2
theorem stopIt_new (hh : A.handled = none) {α : Type} {Q : α → Shared → Prop} (hE : ∀ h' e, (∀ c o, s.heap.get? c = some o → h'.get? c = some o) → (∃ o, h'.get? e = some o ∧ o.cls = .type "StopIteration") → E (.ref e) { s with heap := h' }) :
    wpAny (model prog w) A (Builtin.SmallTypes.stopIteration : Sem α) Q E s := by
  show wpAny _ _ (newExc (.type "StopIteration") [] >>= _) _ _ _
  refine wpAny_bind ?_
  simp only [newExc, newTuple]
  refine wpAny_bind (wpAny_newObj_type ?_ (by size_fits))
  refine wpAny_bind (m := firstArgMember _ _) (wpAny_of_eq (a := Value.none) (by first | rfl | (simp only [firstArgMember]; rfl)) ?_)
  refine wpAny_newObj_type ?_ (by size_fits)
  simp only [raiseNew]
  refine wpAny_bind (wpAny_handled ?_)
  first | rw [show A.in1.handled = none from hh] | rw [hh]
  refine wpAny_bind (wpAny_pure (wpAny_throw ?_))
  exact hE _ _ (fun c o e => Heap.get?_push_of_some _ (Heap.get?_push_of_some _ e)) ⟨_, Heap.get?_push_size _ rfl, rfl⟩
theorem letOwnedTupleGo_zipS {elts : List Expr} {x1} {pos : Pos} {z TI TO T : Addr} {Q : Unit → Shared → Prop} (hz : IsZipS s.heap z TI TO (rawInt T))
    (hQ : ∀ h', IsZipS h' z TI TO .none → Heap.SameBut z s.heap h' → Q () { s with heap := h' }) :
    wpAny (model prog w) A (letOwnedTupleGo (.Tuple elts x1 pos) (.ref z) (.ref T)) Q E s := by
  unfold letOwnedTupleGo
  refine wpAny_bind (wpAny_load hz ?_)
  show wpAny _ _ (if (["enumerate", "zip", "dict_itemiterator", "dict_reverseitemiterator", "odict_iterator", "itertools.zip_longest", "itertools.pairwise"].contains "zip" &&
      (#[rawInt T, .bool false, .bool true, .ref TI, .ref TO] : Array Value)[0]? == some (rawInt T)) = true then _ else _) Q E s
  rw [if_pos (by simp)]
  refine wpAny_bind (wpAny_rule ?_)
  show wpAny _ _ (setField (.ref z) 0 .none) Q E s
  exact wpAny_setField_rec hz (by simp) fun h' hz' hs' => hQ h' hz' hs'
theorem pyIter_zipS {z TI TO : Addr} {f0 : Value} {Q : Value → Shared → Prop} (hz : IsZipS s.heap z TI TO f0) (h : Q (.ref z) s) : wpAny (model prog w) A (pyIter (.ref z)) Q E s := by
  have hT : s.TypeIs (.ref z) "zip" := ⟨_, hz, rfl⟩
  refine wpAny_pyIter_slot hT F.slot_zip_iter (wpAny_call_entry F.slot_zip_iter hT F.entry_zip_iter ?_ (F.args_zip_iter_1 _))
  show wpAny _ _ (ret (.ref z)) _ _ s
  exact wpAny_pure ⟨_, rfl, "zip", _, hT, F.slot_zip_next.lookup, h⟩
end
section
variable {prog : Program} {w : World} {A : Around} {E : Value → Shared → Prop} {s : Shared}
theorem callTypeK2 {T newId : String} {Bn : Builtin} {a₀ : Value} {args : List Value} {kw : List (Str × Value)} {S : Spec} {Q : Value → Shared → Prop} (ft : TypeCalled T newId "object.__init__") (hne : (some newId != some "object.__new__") = true)
    (hct : checkTypeCall T ⟨a₀ :: args, kw⟩ = pure ()) (hcn : checkBuiltinCall newId ⟨(.type T) :: a₀ :: args, kw⟩ = pure ()) (hok : ∀ obj, argsOk "object.__init__" ⟨obj :: a₀ :: args, kw⟩) (entryN : entryFor table newId = some Bn)
    (g : Meets (Bn ⟨(.type T) :: a₀ :: args, kw⟩) S) (h : S A.in1 (wants (fun obj s₁ => s₁.TypeIs obj T ∧ Q obj s₁) E) s) : wpAny (model prog w) A (call (.type T) (a₀ :: args) kw) Q E s := callTypeK ft hne hct hcn hok entryN g h
end
end PySem

namespace PySem
section
variable {prog : Program} {w : World} {A : Around} {E : Value → Shared → Prop} {s : Shared}
theorem zSL_next_item {z TI TO i1 i2 l1 l2 : Addr} {k1 k2 : Nat} {xs ys : Array Value} {x y a b : Value} {Q : Value → Shared → Prop} (D : ZipApart z TI TO i1 i2 l1 l2)
    (hz : IsZipS s.heap z TI TO .none) (hTI : IsPair s.heap TI (.ref i1) (.ref i2)) (hTO : IsPair s.heap TO a b)
    (h1 : s.heap.IsListIter i1 l1 k1) (h2 : s.heap.IsListIter i2 l2 k2) (hl1 : s.heap.IsList l1 xs) (hl2 : s.heap.IsList l2 ys) (hx : xs[k1]? = some x) (hy : ys[k2]? = some y)
    (hQ : ∀ h', IsZipS h' z TI TO (rawInt s.heap.objs.size) → IsPair h' TO x y → h'.IsListIter i1 l1 (k1 + 1) → h'.IsListIter i2 l2 (k2 + 1) → IsPair h' s.heap.objs.size x y → h'.objs.size = s.heap.objs.size + 1 →
      (∀ c o, c ≠ z → c ≠ TO → c ≠ i1 → c ≠ i2 → s.heap.get? c = some o → h'.get? c = some o) → Q (.ref s.heap.objs.size) { s with heap := h' }) :
    wpAny (model prog w) A (Builtin.«zip.__next__» ⟨[.ref z], []⟩) (fun fin s' => ∃ v, fin = .done (.ret v) ∧ Q v s') E s := by
  show wpAny _ _ (field (.ref z) 2 >>= _) _ _ _
  refine wpAny_bind (wpAny_field hz rfl (x := .bool true) rfl ?_)
  show wpAny _ _ (field (.ref z) 3 >>= _) _ _ _
  refine wpAny_bind (wpAny_field hz rfl (x := .ref TI) rfl ?_)
  refine wpAny_bind (wpAny_seqItems hTI rfl ?_)
  show wpAny _ _ (Builtin.SmallTypes.ownedTupleIsFree (.ref z) >>= _) _ _ _
  refine wpAny_bind ?_
  unfold Builtin.SmallTypes.ownedTupleIsFree
  refine wpAny_bind (wpAny_field hz rfl (x := .none) rfl (wpAny_pure ?_))
  simp only [if_true]
  refine wpAny_bind (wpAny_rule ?_)
  refine wpAny_bind (wpAny_field hz rfl (x := .ref TO) rfl ?_)
  refine wpAny_bind (wpAny_setField_rec hz (by simp) fun h₁ hz₁ hs₁ => ?_)
  replace hz₁ : IsZipS h₁ z TI TO .ellipsis := hz₁
  refine wpAny_bind ?_
  simp only [List.zipIdx_cons, List.zipIdx_nil, List.forIn_cons, List.forIn_nil]
  refine wpAny_bind (wpAny_bind (wpAny_onRaise ?_))
  show wpAny _ _ (Builtin.SmallTypes.nextOrEnd (.ref i1)) _ _ _
  refine nextOrEnd_item (wpAny_nextOf_list_item (h1.extBut hs₁.extBut D.i1z) (hl1.extBut hs₁.extBut D.l1z) hx fun h₂ h1₂ hs₂ => ?_)
  have hTO₂ : IsPair h₂ TO a b := hs₂.extBut _ _ D.TOi1 (hs₁.extBut _ _ D.TOz hTO)
  refine wpAny_bind (wpAny_seqItems hTO₂ rfl ?_)
  refine wpAny_bind (wpAny_updateSeq_pair hTO₂ fun h₃ hTO₃ hs₃ => ?_)
  replace hTO₃ : IsPair h₃ TO x b := hTO₃
  refine wpAny_bind (wpAny_letGo (wpAny_pure ?_))
  refine wpAny_bind (wpAny_bind (wpAny_onRaise ?_))
  show wpAny _ _ (Builtin.SmallTypes.nextOrEnd (.ref i2)) _ _ _
  refine nextOrEnd_item (wpAny_nextOf_list_item (((h2.extBut hs₁.extBut D.i2z).extBut hs₂.extBut D.i12.symm).extBut hs₃.extBut D.TOi2.symm)
    (((hl2.extBut hs₁.extBut D.l2z).extBut hs₂.extBut D.l2i1).extBut hs₃.extBut D.l2TO) hy fun h₄ h2₄ hs₄ => ?_)
  have hTO₄ : IsPair h₄ TO x b := hs₄.extBut _ _ D.TOi2 hTO₃
  refine wpAny_bind (wpAny_seqItems hTO₄ rfl ?_)
  refine wpAny_bind (wpAny_updateSeq_pair hTO₄ fun h₅ hTO₅ hs₅ => ?_)
  replace hTO₅ : IsPair h₅ TO x y := hTO₅
  refine wpAny_bind (wpAny_letGo (wpAny_pure (wpAny_pure ?_)))
  refine wpAny_bind (wpAny_seqItems hTO₅ rfl ?_)
  refine wpAny_bind (wpAny_newTuple ?_)
  have hsz : h₅.objs.size = s.heap.objs.size := by rw [hs₅.1, hs₄.1, hs₃.1, hs₂.1, hs₁.1]
  have hz₅ : IsZipS h₅ z TI TO .ellipsis := hs₅.extBut _ _ D.TOz.symm (hs₄.extBut _ _ D.i2z.symm (hs₃.extBut _ _ D.TOz.symm (hs₂.extBut _ _ D.i1z.symm hz₁)))
  have hk₅ : ∀ c o, c ≠ z → c ≠ TO → c ≠ i1 → c ≠ i2 → s.heap.get? c = some o → h₅.get? c = some o := fun c o c1 c2 c3 c4 e =>
    hs₅.extBut _ _ c2 (hs₄.extBut _ _ c4 (hs₃.extBut _ _ c2 (hs₂.extBut _ _ c3 (hs₁.extBut _ _ c1 e))))
  have h1₅ : h₅.IsListIter i1 l1 (k1 + 1) := ((h1₂.extBut hs₃.extBut D.TOi1.symm).extBut hs₄.extBut D.i12).extBut hs₅.extBut D.TOi1.symm
  have h2₅ : h₅.IsListIter i2 l2 (k2 + 1) := h2₄.extBut hs₅.extBut D.TOi2.symm
  have hzlt : z < h₅.objs.size := Heap.lt_size hz₅
  show wpAny _ _ (Builtin.SmallTypes.ownedTupleHandOut (.ref z) (.ref h₅.objs.size) >>= _) _ _ _
  refine wpAny_bind ?_
  unfold Builtin.SmallTypes.ownedTupleHandOut
  have hz₆ : IsZipS (h₅.push { cls := .type "tuple", data := .seq #[x, y] }) z TI TO .ellipsis := Heap.get?_push_of_some _ hz₅
  refine wpAny_bind (wpAny_setField_rec hz₆ (by simp) fun h₇ hz₇ hs₇ => ?_)
  replace hz₇ : IsZipS h₇ z TI TO (rawInt h₅.objs.size) := hz₇
  refine wpAny_setField_rec hz₇ (by simp) fun h₈ hz₈ hs₈ => ?_
  replace hz₈ : IsZipS h₈ z TI TO (rawInt h₅.objs.size) := hz₈
  have up : ∀ c o, c ≠ z → h₅.get? c = some o → h₈.get? c = some o := fun c o c1 e => hs₈.extBut _ _ c1 (hs₇.extBut _ _ c1 (Heap.get?_push_of_some _ e))
  have hT₈ : IsPair h₈ h₅.objs.size x y := hs₈.extBut _ _ (Nat.ne_of_gt hzlt) (hs₇.extBut _ _ (Nat.ne_of_gt hzlt) (Heap.get?_push_size _ rfl))
  have hz8 : h₈.objs.size = h₅.objs.size + 1 := by rw [hs₈.1, hs₇.1, Heap.size_push]
  rw [hsz] at hz₈ hT₈ hz8
  refine wpAny_pure ⟨_, rfl, ?_⟩
  show Q (.ref h₅.objs.size) _
  rw [hsz]
  exact hQ h₈ hz₈ (up _ _ D.TOz hTO₅) (h1₅.at fun o e => up _ o D.i1z e) (h2₅.at fun o e => up _ o D.i2z e) hT₈ hz8 fun c o c1 c2 c3 c4 e => up c o c1 (hk₅ c o c1 c2 c3 c4 e)
theorem zSL_next_end {z TI TO i1 i2 l1 l2 : Addr} {k1 k2 : Nat} {xs ys : Array Value} {a b : Value} {Q : Fin → Shared → Prop} (hh : A.handled = none) (D : ZipApart z TI TO i1 i2 l1 l2)
    (hz : IsZipS s.heap z TI TO .none) (hTI : IsPair s.heap TI (.ref i1) (.ref i2)) (hTO : IsPair s.heap TO a b)
    (h1 : s.heap.IsListIter i1 l1 k1) (h2 : s.heap.IsListIter i2 l2 k2) (hl1 : s.heap.IsList l1 xs) (hl2 : s.heap.IsList l2 ys) (hx : xs[k1]? = none) (hy : ys[k2]? = none)
    (hE : ∀ h' e, (∀ c o, c ≠ z → c ≠ TO → c ≠ i1 → c ≠ i2 → s.heap.get? c = some o → h'.get? c = some o) → (∃ o, h'.get? e = some o ∧ o.cls = .type "StopIteration") → E (.ref e) { s with heap := h' }) :
    wpAny (model prog w) A (Builtin.«zip.__next__» ⟨[.ref z], []⟩) Q E s := by
  show wpAny _ _ (field (.ref z) 2 >>= _) _ _ _
  refine wpAny_bind (wpAny_field hz rfl (x := .bool true) rfl ?_)
  show wpAny _ _ (field (.ref z) 3 >>= _) _ _ _
  refine wpAny_bind (wpAny_field hz rfl (x := .ref TI) rfl ?_)
  refine wpAny_bind (wpAny_seqItems hTI rfl ?_)
  show wpAny _ _ (Builtin.SmallTypes.ownedTupleIsFree (.ref z) >>= _) _ _ _
  refine wpAny_bind ?_
  unfold Builtin.SmallTypes.ownedTupleIsFree
  refine wpAny_bind (wpAny_field hz rfl (x := .none) rfl (wpAny_pure ?_))
  simp only [if_true]
  refine wpAny_bind (wpAny_rule ?_)
  refine wpAny_bind (wpAny_field hz rfl (x := .ref TO) rfl ?_)
  refine wpAny_bind (wpAny_setField_rec hz (by simp) fun h₁ hz₁ hs₁ => ?_)
  replace hz₁ : IsZipS h₁ z TI TO .ellipsis := hz₁
  refine wpAny_bind ?_
  simp only [List.zipIdx_cons, List.zipIdx_nil, List.forIn_cons, List.forIn_nil]
  refine wpAny_bind (wpAny_bind (wpAny_onRaise ?_))
  show wpAny _ _ (Builtin.SmallTypes.nextOrEnd (.ref i1)) _ _ _
  refine nextOrEnd_end (wpAny_nextOf_list_end hh (h1.extBut hs₁.extBut D.i1z) (hl1.extBut hs₁.extBut D.l1z) hx fun h₂ e hs₂ he => ⟨?_, ?_⟩)
  · obtain ⟨oe, hoe, hce⟩ := he
    exact ⟨oe, hoe, hce⟩
  have hz₂ : IsZipS h₂ z TI TO .ellipsis := hs₂ _ _ D.i1z.symm hz₁
  refine wpAny_bind (wpAny_setField_rec hz₂ (by simp) fun h₃ _ hs₃ => ?_)
  refine wpAny_bind ?_
  refine wpAny_bind ?_
  simp only [List.drop_succ_cons, List.drop_zero, List.zipIdx_cons, List.zipIdx_nil, List.forIn_cons, List.forIn_nil]
  refine wpAny_bind (wpAny_bind (nextOrEnd_end (wpAny_nextOf_list_end hh (((h2.extBut hs₁.extBut D.i2z).at fun o q => hs₂ _ o D.i12.symm q).extBut hs₃.extBut D.i2z) (((hl2.extBut hs₁.extBut D.l2z).at fun o q => hs₂ _ o D.l2i1 q).extBut hs₃.extBut D.l2z) hy fun h₄ e' hs₄ he' => ⟨?_, ?_⟩)))
  · obtain ⟨oe, hoe, hce⟩ := he'
    exact ⟨oe, hoe, hce⟩
  refine wpAny_pure (wpAny_pure (wpAny_bind (wpAny_rule ?_)))
  exact stopIt_new hh fun h₅ e5 k5 he5 => hE h₅ e5 (fun c o c1 _ c3 c4 x => k5 _ _ (hs₄ _ _ c4 (hs₃.extBut _ _ c1 (hs₂ _ _ c3 (hs₁.extBut _ _ c1 x))))) he5
end
end PySem

namespace PySem
section
variable {prog : Program} {w : World} {A : Around} {E : Value → Shared → Prop} {s : Shared}
theorem zST_next_item {z TI TO i1 i2 l1 l2 : Addr} {k1 k2 : Nat} {xs ys : Array Value} {x y a b : Value} {Q : Value → Shared → Prop} (D : ZipApart z TI TO i1 i2 l1 l2)
    (hz : IsZipS s.heap z TI TO .none) (hTI : IsPair s.heap TI (.ref i1) (.ref i2)) (hTO : IsPair s.heap TO a b)
    (h1 : s.heap.IsTupleIter i1 l1 k1) (h2 : s.heap.IsTupleIter i2 l2 k2) (hl1 : s.heap.IsTuple l1 xs) (hl2 : s.heap.IsTuple l2 ys) (hx : xs[k1]? = some x) (hy : ys[k2]? = some y)
    (hQ : ∀ h', IsZipS h' z TI TO (rawInt s.heap.objs.size) → IsPair h' TO x y → h'.IsTupleIter i1 l1 (k1 + 1) → h'.IsTupleIter i2 l2 (k2 + 1) → IsPair h' s.heap.objs.size x y → h'.objs.size = s.heap.objs.size + 1 →
      (∀ c o, c ≠ z → c ≠ TO → c ≠ i1 → c ≠ i2 → s.heap.get? c = some o → h'.get? c = some o) → Q (.ref s.heap.objs.size) { s with heap := h' }) :
    wpAny (model prog w) A (Builtin.«zip.__next__» ⟨[.ref z], []⟩) (fun fin s' => ∃ v, fin = .done (.ret v) ∧ Q v s') E s := by
  show wpAny _ _ (field (.ref z) 2 >>= _) _ _ _
  refine wpAny_bind (wpAny_field hz rfl (x := .bool true) rfl ?_)
  show wpAny _ _ (field (.ref z) 3 >>= _) _ _ _
  refine wpAny_bind (wpAny_field hz rfl (x := .ref TI) rfl ?_)
  refine wpAny_bind (wpAny_seqItems hTI rfl ?_)
  show wpAny _ _ (Builtin.SmallTypes.ownedTupleIsFree (.ref z) >>= _) _ _ _
  refine wpAny_bind ?_
  unfold Builtin.SmallTypes.ownedTupleIsFree
  refine wpAny_bind (wpAny_field hz rfl (x := .none) rfl (wpAny_pure ?_))
  simp only [if_true]
  refine wpAny_bind (wpAny_rule ?_)
  refine wpAny_bind (wpAny_field hz rfl (x := .ref TO) rfl ?_)
  refine wpAny_bind (wpAny_setField_rec hz (by simp) fun h₁ hz₁ hs₁ => ?_)
  replace hz₁ : IsZipS h₁ z TI TO .ellipsis := hz₁
  refine wpAny_bind ?_
  simp only [List.zipIdx_cons, List.zipIdx_nil, List.forIn_cons, List.forIn_nil]
  refine wpAny_bind (wpAny_bind (wpAny_onRaise ?_))
  show wpAny _ _ (Builtin.SmallTypes.nextOrEnd (.ref i1)) _ _ _
  refine nextOrEnd_item (RZ.nextOf_tuple_item (h1.extBut hs₁.extBut D.i1z) (hl1.extBut hs₁.extBut D.l1z) hx fun h₂ h1₂ hs₂ => ?_)
  have hTO₂ : IsPair h₂ TO a b := hs₂.extBut _ _ D.TOi1 (hs₁.extBut _ _ D.TOz hTO)
  refine wpAny_bind (wpAny_seqItems hTO₂ rfl ?_)
  refine wpAny_bind (wpAny_updateSeq_pair hTO₂ fun h₃ hTO₃ hs₃ => ?_)
  replace hTO₃ : IsPair h₃ TO x b := hTO₃
  refine wpAny_bind (wpAny_letGo (wpAny_pure ?_))
  refine wpAny_bind (wpAny_bind (wpAny_onRaise ?_))
  show wpAny _ _ (Builtin.SmallTypes.nextOrEnd (.ref i2)) _ _ _
  refine nextOrEnd_item (RZ.nextOf_tuple_item (((h2.extBut hs₁.extBut D.i2z).extBut hs₂.extBut D.i12.symm).extBut hs₃.extBut D.TOi2.symm)
    (((hl2.extBut hs₁.extBut D.l2z).extBut hs₂.extBut D.l2i1).extBut hs₃.extBut D.l2TO) hy fun h₄ h2₄ hs₄ => ?_)
  have hTO₄ : IsPair h₄ TO x b := hs₄.extBut _ _ D.TOi2 hTO₃
  refine wpAny_bind (wpAny_seqItems hTO₄ rfl ?_)
  refine wpAny_bind (wpAny_updateSeq_pair hTO₄ fun h₅ hTO₅ hs₅ => ?_)
  replace hTO₅ : IsPair h₅ TO x y := hTO₅
  refine wpAny_bind (wpAny_letGo (wpAny_pure (wpAny_pure ?_)))
  refine wpAny_bind (wpAny_seqItems hTO₅ rfl ?_)
  refine wpAny_bind (wpAny_newTuple ?_)
  have hsz : h₅.objs.size = s.heap.objs.size := by rw [hs₅.1, hs₄.1, hs₃.1, hs₂.1, hs₁.1]
  have hz₅ : IsZipS h₅ z TI TO .ellipsis := hs₅.extBut _ _ D.TOz.symm (hs₄.extBut _ _ D.i2z.symm (hs₃.extBut _ _ D.TOz.symm (hs₂.extBut _ _ D.i1z.symm hz₁)))
  have hk₅ : ∀ c o, c ≠ z → c ≠ TO → c ≠ i1 → c ≠ i2 → s.heap.get? c = some o → h₅.get? c = some o := fun c o c1 c2 c3 c4 e =>
    hs₅.extBut _ _ c2 (hs₄.extBut _ _ c4 (hs₃.extBut _ _ c2 (hs₂.extBut _ _ c3 (hs₁.extBut _ _ c1 e))))
  have h1₅ : h₅.IsTupleIter i1 l1 (k1 + 1) := ((h1₂.extBut hs₃.extBut D.TOi1.symm).extBut hs₄.extBut D.i12).extBut hs₅.extBut D.TOi1.symm
  have h2₅ : h₅.IsTupleIter i2 l2 (k2 + 1) := h2₄.extBut hs₅.extBut D.TOi2.symm
  have hzlt : z < h₅.objs.size := Heap.lt_size hz₅
  show wpAny _ _ (Builtin.SmallTypes.ownedTupleHandOut (.ref z) (.ref h₅.objs.size) >>= _) _ _ _
  refine wpAny_bind ?_
  unfold Builtin.SmallTypes.ownedTupleHandOut
  have hz₆ : IsZipS (h₅.push { cls := .type "tuple", data := .seq #[x, y] }) z TI TO .ellipsis := Heap.get?_push_of_some _ hz₅
  refine wpAny_bind (wpAny_setField_rec hz₆ (by simp) fun h₇ hz₇ hs₇ => ?_)
  replace hz₇ : IsZipS h₇ z TI TO (rawInt h₅.objs.size) := hz₇
  refine wpAny_setField_rec hz₇ (by simp) fun h₈ hz₈ hs₈ => ?_
  replace hz₈ : IsZipS h₈ z TI TO (rawInt h₅.objs.size) := hz₈
  have up : ∀ c o, c ≠ z → h₅.get? c = some o → h₈.get? c = some o := fun c o c1 e => hs₈.extBut _ _ c1 (hs₇.extBut _ _ c1 (Heap.get?_push_of_some _ e))
  have hT₈ : IsPair h₈ h₅.objs.size x y := hs₈.extBut _ _ (Nat.ne_of_gt hzlt) (hs₇.extBut _ _ (Nat.ne_of_gt hzlt) (Heap.get?_push_size _ rfl))
  have hz8 : h₈.objs.size = h₅.objs.size + 1 := by rw [hs₈.1, hs₇.1, Heap.size_push]
  rw [hsz] at hz₈ hT₈ hz8
  refine wpAny_pure ⟨_, rfl, ?_⟩
  show Q (.ref h₅.objs.size) _
  rw [hsz]
  exact hQ h₈ hz₈ (up _ _ D.TOz hTO₅) (h1₅.at fun o e => up _ o D.i1z e) (h2₅.at fun o e => up _ o D.i2z e) hT₈ hz8 fun c o c1 c2 c3 c4 e => up c o c1 (hk₅ c o c1 c2 c3 c4 e)
theorem zST_next_end {z TI TO i1 i2 l1 l2 : Addr} {k1 k2 : Nat} {xs ys : Array Value} {a b : Value} {Q : Fin → Shared → Prop} (hh : A.handled = none) (D : ZipApart z TI TO i1 i2 l1 l2)
    (hz : IsZipS s.heap z TI TO .none) (hTI : IsPair s.heap TI (.ref i1) (.ref i2)) (hTO : IsPair s.heap TO a b)
    (h1 : s.heap.IsTupleIter i1 l1 k1) (h2 : s.heap.IsTupleIter i2 l2 k2) (hl1 : s.heap.IsTuple l1 xs) (hl2 : s.heap.IsTuple l2 ys) (hx : xs[k1]? = none) (hy : ys[k2]? = none)
    (hE : ∀ h' e, (∀ c o, c ≠ z → c ≠ TO → c ≠ i1 → c ≠ i2 → s.heap.get? c = some o → h'.get? c = some o) → (∃ o, h'.get? e = some o ∧ o.cls = .type "StopIteration") → E (.ref e) { s with heap := h' }) :
    wpAny (model prog w) A (Builtin.«zip.__next__» ⟨[.ref z], []⟩) Q E s := by
  show wpAny _ _ (field (.ref z) 2 >>= _) _ _ _
  refine wpAny_bind (wpAny_field hz rfl (x := .bool true) rfl ?_)
  show wpAny _ _ (field (.ref z) 3 >>= _) _ _ _
  refine wpAny_bind (wpAny_field hz rfl (x := .ref TI) rfl ?_)
  refine wpAny_bind (wpAny_seqItems hTI rfl ?_)
  show wpAny _ _ (Builtin.SmallTypes.ownedTupleIsFree (.ref z) >>= _) _ _ _
  refine wpAny_bind ?_
  unfold Builtin.SmallTypes.ownedTupleIsFree
  refine wpAny_bind (wpAny_field hz rfl (x := .none) rfl (wpAny_pure ?_))
  simp only [if_true]
  refine wpAny_bind (wpAny_rule ?_)
  refine wpAny_bind (wpAny_field hz rfl (x := .ref TO) rfl ?_)
  refine wpAny_bind (wpAny_setField_rec hz (by simp) fun h₁ hz₁ hs₁ => ?_)
  replace hz₁ : IsZipS h₁ z TI TO .ellipsis := hz₁
  refine wpAny_bind ?_
  simp only [List.zipIdx_cons, List.zipIdx_nil, List.forIn_cons, List.forIn_nil]
  refine wpAny_bind (wpAny_bind (wpAny_onRaise ?_))
  show wpAny _ _ (Builtin.SmallTypes.nextOrEnd (.ref i1)) _ _ _
  refine nextOrEnd_end (RZ.nextOf_tuple_end hh (h1.extBut hs₁.extBut D.i1z) (hl1.extBut hs₁.extBut D.l1z) hx fun h₂ e hs₂ he => ⟨?_, ?_⟩)
  · obtain ⟨oe, hoe, hce⟩ := he
    exact ⟨oe, hoe, hce⟩
  have hz₂ : IsZipS h₂ z TI TO .ellipsis := hs₂ _ _ D.i1z.symm hz₁
  refine wpAny_bind (wpAny_setField_rec hz₂ (by simp) fun h₃ _ hs₃ => ?_)
  refine wpAny_bind ?_
  refine wpAny_bind ?_
  simp only [List.drop_succ_cons, List.drop_zero, List.zipIdx_cons, List.zipIdx_nil, List.forIn_cons, List.forIn_nil]
  refine wpAny_bind (wpAny_bind (nextOrEnd_end (RZ.nextOf_tuple_end hh (((h2.extBut hs₁.extBut D.i2z).at fun o q => hs₂ _ o D.i12.symm q).extBut hs₃.extBut D.i2z) (((hl2.extBut hs₁.extBut D.l2z).at fun o q => hs₂ _ o D.l2i1 q).extBut hs₃.extBut D.l2z) hy fun h₄ e' hs₄ he' => ⟨?_, ?_⟩)))
  · obtain ⟨oe, hoe, hce⟩ := he'
    exact ⟨oe, hoe, hce⟩
  refine wpAny_pure (wpAny_pure (wpAny_bind (wpAny_rule ?_)))
  exact stopIt_new hh fun h₅ e5 k5 he5 => hE h₅ e5 (fun c o c1 _ c3 c4 x => k5 _ _ (hs₄ _ _ c4 (hs₃.extBut _ _ c1 (hs₂ _ _ c3 (hs₁.extBut _ _ c1 x))))) he5
end
end PySem

namespace PySem
section
variable {prog : Program} {w : World} {A : Around} {E : Value → Shared → Prop} {s : Shared}
theorem pyNext_zSL_item {z TI TO i1 i2 l1 l2 : Addr} {k1 k2 : Nat} {xs ys : Array Value} {x y a b : Value} {Q : Option Value → Shared → Prop} (D : ZipApart z TI TO i1 i2 l1 l2)
    (hz : IsZipS s.heap z TI TO .none) (hTI : IsPair s.heap TI (.ref i1) (.ref i2)) (hTO : IsPair s.heap TO a b)
    (h1 : s.heap.IsListIter i1 l1 k1) (h2 : s.heap.IsListIter i2 l2 k2) (hl1 : s.heap.IsList l1 xs) (hl2 : s.heap.IsList l2 ys) (hx : xs[k1]? = some x) (hy : ys[k2]? = some y)
    (hQ : ∀ h', IsZipS h' z TI TO (rawInt s.heap.objs.size) → IsPair h' TO x y → h'.IsListIter i1 l1 (k1 + 1) → h'.IsListIter i2 l2 (k2 + 1) → IsPair h' s.heap.objs.size x y → h'.objs.size = s.heap.objs.size + 1 →
      (∀ c o, c ≠ z → c ≠ TO → c ≠ i1 → c ≠ i2 → s.heap.get? c = some o → h'.get? c = some o) → Q (some (.ref s.heap.objs.size)) { s with heap := h' }) :
    wpAny (model prog w) A (pyNext (.ref z)) Q E s := by
  have hT : s.TypeIs (.ref z) "zip" := ⟨_, hz, rfl⟩
  unfold pyNext
  exact wpAny_bind (wpAny_attempt (wpAny_callSpecial?_slot (name := Str.ofString "__next__") hT F.slot_zip_next
    (wpAny_call_entry F.slot_zip_next hT F.entry_zip_next
      (zSL_next_item D hz hTI hTO h1 h2 hl1 hl2 hx hy fun h' a1 a2 a3 a4 a5 a6 a7 => wpAny_pure (hQ h' a1 a2 a3 a4 a5 a6 a7)) (F.args_zip_next_1 _))))
theorem pyNext_zSL_end {z TI TO i1 i2 l1 l2 : Addr} {k1 k2 : Nat} {xs ys : Array Value} {a b : Value} {Q : Option Value → Shared → Prop} (hh : A.handled = none) (D : ZipApart z TI TO i1 i2 l1 l2)
    (hz : IsZipS s.heap z TI TO .none) (hTI : IsPair s.heap TI (.ref i1) (.ref i2)) (hTO : IsPair s.heap TO a b)
    (h1 : s.heap.IsListIter i1 l1 k1) (h2 : s.heap.IsListIter i2 l2 k2) (hl1 : s.heap.IsList l1 xs) (hl2 : s.heap.IsList l2 ys) (hx : xs[k1]? = none) (hy : ys[k2]? = none)
    (hQ : ∀ h', (∀ c o, c ≠ z → c ≠ TO → c ≠ i1 → c ≠ i2 → s.heap.get? c = some o → h'.get? c = some o) → Q none { s with heap := h' }) : wpAny (model prog w) A (pyNext (.ref z)) Q E s := by
  have hT : s.TypeIs (.ref z) "zip" := ⟨_, hz, rfl⟩
  unfold pyNext
  refine wpAny_bind (wpAny_attempt (wpAny_callSpecial?_slot (name := Str.ofString "__next__") hT F.slot_zip_next
    (wpAny_call_entry F.slot_zip_next hT F.entry_zip_next (zSL_next_end hh D hz hTI hTO h1 h2 hl1 hl2 hx hy fun h' e hk he => ?_) (F.args_zip_next_1 _))))
  obtain ⟨o, ho, hc⟩ := he
  refine wpAny_bind (wpAny_isInstance (T := "StopIteration") (b := true) ⟨o, ho, hc⟩ isSubtype_stop ?_)
  exact wpAny_pure (hQ _ hk)
abbrev zSLH1 (h : Heap) (l1 : Addr) : Heap := h.push { cls := .type "list_iterator", data := .fields #[.ref l1, .int 0 0] }
abbrev zSLH2 (h : Heap) (l1 l2 : Addr) : Heap := (zSLH1 h l1).push { cls := .type "list_iterator", data := .fields #[.ref l2, .int 0 0] }
abbrev zSLH3 (h : Heap) (l1 l2 : Addr) : Heap := (zSLH2 h l1 l2).push { cls := .type "tuple", data := .seq #[.ref h.objs.size, .ref (zSLH1 h l1).objs.size] }
abbrev zSLH4 (h : Heap) (l1 l2 : Addr) : Heap := (zSLH3 h l1 l2).push { cls := .type "tuple", data := .seq #[.none, .none] }
abbrev zSLH5 (h : Heap) (l1 l2 : Addr) : Heap := (zSLH4 h l1 l2).push { cls := .type "zip", data := .fields #[.none, .bool false, .bool true, .ref (zSLH2 h l1 l2).objs.size, .ref (zSLH3 h l1 l2).objs.size] }
theorem meets_zSL (l1 l2 : Addr) (xs ys : Array Value) : Meets (Builtin.«zip.__new__» ⟨[.type "zip", .ref l1, .ref l2], [("strict", .bool true)]⟩)
    (fun _ R s => s.heap.IsList l1 xs ∧ s.heap.IsList l2 ys ∧ R (.ok (.ret (.ref (zSLH4 s.heap l1 l2).objs.size))) { s with heap := zSLH5 s.heap l1 l2 }) := .of_wp fun prog w A R s h => by
  obtain ⟨hp, g, d, tk, os⟩ := s
  obtain ⟨q1, q2, h⟩ := h
  have hsub := sub_zip
  have hL1 : (Shared.mk hp g d tk os).heap.IsList l1 xs := q1
  have hL2 : (Shared.mk (hp.push { cls := .type "list_iterator", data := .fields #[.ref l1, .int 0 0] }) g d tk os).heap.IsList l2 ys := q2.push _
  wp_walk using wpAny_pyIter_list hL1, wpAny_pyIter_list hL2
  exact ⟨_, rfl, h⟩
theorem call_zSL {l1 l2 : Addr} {xs ys : Array Value} {Q : Value → Shared → Prop} (hl1 : s.heap.IsList l1 xs) (hl2 : s.heap.IsList l2 ys)
    (h : ∀ h', IsZipS h' (s.heap.objs.size + 4) (s.heap.objs.size + 2) (s.heap.objs.size + 3) .none → IsPair h' (s.heap.objs.size + 2) (.ref s.heap.objs.size) (.ref (s.heap.objs.size + 1)) → IsPair h' (s.heap.objs.size + 3) .none .none →
      h'.IsListIter s.heap.objs.size l1 0 → h'.IsListIter (s.heap.objs.size + 1) l2 0 → h'.objs.size = s.heap.objs.size + 5 → (∀ c o, s.heap.get? c = some o → h'.get? c = some o) → Q (.ref (s.heap.objs.size + 4)) { s with heap := h' }) :
    wpAny (model prog w) A (call (.type "zip") [.ref l1, .ref l2] [("strict", .bool true)]) Q E s := by
  refine callTypeK F.called_zip (by decide) (typeCall_zip_k _ _ _) (newCall_zip_k _ _ _) (fun obj => args_init_k obj _ _ _) F.entry_zip_new (meets_zSL l1 l2 xs ys) ⟨hl1, hl2, ?_⟩
  have z1 : (zSLH1 s.heap l1).objs.size = s.heap.objs.size + 1 := by rw [Heap.size_push]
  have z2 : (zSLH2 s.heap l1 l2).objs.size = s.heap.objs.size + 2 := by rw [Heap.size_push, z1]
  have z3 : (zSLH3 s.heap l1 l2).objs.size = s.heap.objs.size + 3 := by rw [Heap.size_push, z2]
  have z4 : (zSLH4 s.heap l1 l2).objs.size = s.heap.objs.size + 4 := by rw [Heap.size_push, z3]
  have z5 : (zSLH5 s.heap l1 l2).objs.size = s.heap.objs.size + 5 := by rw [Heap.size_push, z4]
  have up : ∀ c o, (zSLH4 s.heap l1 l2).get? c = some o → (zSLH5 s.heap l1 l2).get? c = some o := fun c o x => Heap.get?_push_of_some _ x
  have up4 : ∀ c o, (zSLH3 s.heap l1 l2).get? c = some o → (zSLH5 s.heap l1 l2).get? c = some o := fun c o x => up c o (Heap.get?_push_of_some _ x)
  have up3 : ∀ c o, (zSLH2 s.heap l1 l2).get? c = some o → (zSLH5 s.heap l1 l2).get? c = some o := fun c o x => up4 c o (Heap.get?_push_of_some _ x)
  have up2 : ∀ c o, (zSLH1 s.heap l1).get? c = some o → (zSLH5 s.heap l1 l2).get? c = some o := fun c o x => up3 c o (Heap.get?_push_of_some _ x)
  have g5 : (zSLH5 s.heap l1 l2).get? (zSLH4 s.heap l1 l2).objs.size = some _ := Heap.get?_push_size _ rfl
  have g4 : (zSLH5 s.heap l1 l2).get? (zSLH3 s.heap l1 l2).objs.size = some _ := up _ _ (Heap.get?_push_size _ rfl)
  have g3 : (zSLH5 s.heap l1 l2).get? (zSLH2 s.heap l1 l2).objs.size = some _ := up4 _ _ (Heap.get?_push_size _ rfl)
  have g2 : (zSLH5 s.heap l1 l2).get? (zSLH1 s.heap l1).objs.size = some _ := up3 _ _ (Heap.get?_push_size _ rfl)
  have g1 : (zSLH5 s.heap l1 l2).get? s.heap.objs.size = some _ := up2 _ _ (Heap.get?_push_size _ rfl)
  show _ ∧ _
  rw [z2, z3, z4] at g5
  rw [z1, z2] at g3
  rw [z3] at g4
  rw [z1] at g2
  rw [z4]
  exact ⟨⟨_, g5, rfl⟩, h _ g5 g3 g4 ⟨_, g1, rfl, rfl⟩ ⟨_, g2, rfl, rfl⟩ z5 fun c o x => up2 c o (Heap.get?_push_of_some _ x)⟩
end
end PySem
namespace Dl
open PySem PySem.Spec PyProof.Rows L2
/-- the two as they stand at each turn, of one length, the items in new pairs -/
def ItzSL (K : PySem.W.Frag) (a b : Addr) : It :=
  ⟨fun i H => ∃ (xs ys : List V) (x y : V), SqL K H a xs ∧ SqL K H b ys ∧ xs[i]? = some x ∧ ys[i]? = some y,
    fun i H v H' => ∃ T x y, v = .ref T ∧ H T = none ∧ H' = upd H T (.tup [x, y]) ∧ (∀ xs, SqL K H a xs → xs[i]? = some x) ∧ ∀ ys, SqL K H b ys → ys[i]? = some y,
    fun i H => ∃ xs ys : List V, SqL K H a xs ∧ SqL K H b ys ∧ xs.length ≤ i ∧ ys.length ≤ i⟩
theorem turn_zSL {P : Program} {w : World} {K : PySem.W.Frag} {elts : List Expr} {kk : Nat} {tpos : Pos} {a b z TI TO i1 i2 : Addr} (D : ZipApart z TI TO i1 i2 a b) :
    Turn P w K (.Tuple elts kk tpos) (ItzSL K a b) [z, TI, TO, i1, i2] z (fun i h => IsZipS h z TI TO .none ∧ IsPair h TI (.ref i1) (.ref i2) ∧ (∃ x y, IsPair h TO x y) ∧ h.IsListIter i1 a i ∧ h.IsListIter i2 b i) where
  mem := by simp
  obj := fun i h st c hc => by
    obtain ⟨hz, hTI, ⟨x, y, hTO⟩, ⟨o1, e1, _, d1⟩, ⟨o2, e2, _, d2⟩⟩ := st
    have e' : c = z ∨ c = TI ∨ c = TO ∨ c = i1 ∨ c = i2 := by simpa using hc
    rcases e' with q | q | q | q | q
    · rw [q]; exact ⟨_, hz, fun v q => nomatch q⟩
    · rw [q]; exact ⟨_, hTI, fun v q => nomatch q⟩
    · rw [q]; exact ⟨_, hTO, fun v q => nomatch q⟩
    · rw [q]; exact ⟨o1, e1, fun v q => by rw [d1] at q; cases q⟩
    · rw [q]; exact ⟨o2, e2, fun v q => by rw [d2] at q; cases q⟩
  keep := fun i h h' st k => by
    obtain ⟨hz, hTI, ⟨x, y, hTO⟩, h1, h2⟩ := st
    exact ⟨k z (by simp) _ hz, k TI (by simp) _ hTI, ⟨x, y, k TO (by simp) _ hTO⟩, h1.at fun o q => k i1 (by simp) o q, h2.at fun o q => k i2 (by simp) o q⟩
  item := by
    intro X hP hw hK hc i pins s σ H E I hf st hg
    subst hP hw hK
    obtain ⟨hz, hTI, ⟨x0, y0, hTO⟩, h1, h2⟩ := st
    obtain ⟨xs, ys, x, y, hqx, hqy, hx, hy⟩ := hg
    obtain ⟨its, rv, p, _⟩ := I.list hqx
    obtain ⟨its2, rv2, p2, _⟩ := I.list hqy
    obtain ⟨u, hu, ru⟩ := rv.get hx
    obtain ⟨u2, hu2, ru2⟩ := rv2.get hy
    have hzl : z < s.heap.objs.size := Heap.lt_size hz
    refine pyNext_zSL_item D hz hTI hTO h1 h2 p.isList p2.isList (x := u) (y := u2) (by simpa using hu) (by simpa using hu2) fun h' z' TO' h1' h2' hT hsz hk => ?_
    refine ⟨_, rfl, letOwnedTupleGo_zipS (s := { s with heap := h' }) z' fun h'' z'' sb => ?_⟩
    have hT2 : h''.get? s.heap.objs.size = some { cls := .type "tuple", data := .seq #[u, u2] } := (sb.2 _ (Nat.ne_of_gt hzl)).trans hT
    have new : ObjOk X.prog X.w (upd H s.heap.objs.size (.tup [x, y])) h'' s.heap.objs.size (.tup [x, y]) :=
      ⟨by show 2 ≤ sizeLine; decide, [u, u2], .cons ru (.cons ru2 .nil), ⟨_, hT2, rfl, _, rfl⟩⟩
    have I1 : Inv X pins σ (upd H s.heap.objs.size (.tup [x, y])) { s with heap := h'' } :=
      I.turnedNew (t' := s.toks) (ch := [z, TI, TO, i1, i2]) (fun c o hb q => (sb.2 c (fun q' => hb (by simp [q']))).trans (hk c o (fun q' => hb (by simp [q'])) (fun q' => hb (by simp [q'])) (fun q' => hb (by simp [q'])) (fun q' => hb (by simp [q'])) q)) hf (Nat.le_refl _) new
    refine ⟨.ref s.heap.objs.size, _, I1, rfl, ⟨_, x, y, rfl, I.hok.fresh (Nat.le_refl _), rfl, fun l hl => by rw [I.list_inj hl hqx]; exact hx, fun l hl => by rw [I.list_inj hl hqy]; exact hy⟩, ⟨z'', ?_, ⟨u, u2, ?_⟩, ?_, ?_⟩, fun c hcm => ?_⟩
    · exact (sb.2 _ D.TIz).trans (hk _ _ D.TIz D.TITO D.TIi1 D.TIi2 hTI)
    · exact (sb.2 _ D.TOz).trans TO'
    · exact h1'.at fun o q => (sb.2 _ D.i1z).trans q
    · exact h2'.at fun o q => (sb.2 _ D.i2z).trans q
    · have hlt : c < s.heap.objs.size := by
        have e' : c = z ∨ c = TI ∨ c = TO ∨ c = i1 ∨ c = i2 := by simpa using hcm
        rcases e' with q | q | q | q | q
        · rw [q]; exact hzl
        · rw [q]; exact Heap.lt_size hTI
        · rw [q]; exact Heap.lt_size hTO
        · rw [q]; obtain ⟨_, e1, _⟩ := h1; exact Heap.lt_size e1
        · rw [q]; obtain ⟨_, e2, _⟩ := h2; exact Heap.lt_size e2
      rw [upd_ne (Nat.ne_of_lt hlt)]
      exact (hf c hcm).1
  done := by
    intro X hP hw hK hc i pins s σ H E I hf st hg
    subst hP hw hK
    obtain ⟨hz, hTI, ⟨x0, y0, hTO⟩, h1, h2⟩ := st
    obtain ⟨xs, ys, hqx, hqy, e1, e2⟩ := hg
    obtain ⟨its, rv, p, _⟩ := I.list hqx
    obtain ⟨its2, rv2, p2, _⟩ := I.list hqy
    have l1 := rv.length
    have l2 := rv2.length
    exact pyNext_zSL_end (I.ok.hd hc) D hz hTI hTO h1 h2 p.isList p2.isList (by simp; omega) (by simp; omega) fun h' hk => ⟨rfl, I.turnedL (t' := s.toks) (ch := [z, TI, TO, i1, i2]) (fun c o hb q =>
      hk c o (fun q' => hb (by simp [q'])) (fun q' => hb (by simp [q'])) (fun q' => hb (by simp [q'])) (fun q' => hb (by simp [q'])) q) hf⟩
  self := fun A i s Q E st h => pyIter_zipS st.1 h
end Dl

namespace PySem
section
variable {prog : Program} {w : World} {A : Around} {E : Value → Shared → Prop} {s : Shared}
theorem pyNext_zST_item {z TI TO i1 i2 l1 l2 : Addr} {k1 k2 : Nat} {xs ys : Array Value} {x y a b : Value} {Q : Option Value → Shared → Prop} (D : ZipApart z TI TO i1 i2 l1 l2)
    (hz : IsZipS s.heap z TI TO .none) (hTI : IsPair s.heap TI (.ref i1) (.ref i2)) (hTO : IsPair s.heap TO a b)
    (h1 : s.heap.IsTupleIter i1 l1 k1) (h2 : s.heap.IsTupleIter i2 l2 k2) (hl1 : s.heap.IsTuple l1 xs) (hl2 : s.heap.IsTuple l2 ys) (hx : xs[k1]? = some x) (hy : ys[k2]? = some y)
    (hQ : ∀ h', IsZipS h' z TI TO (rawInt s.heap.objs.size) → IsPair h' TO x y → h'.IsTupleIter i1 l1 (k1 + 1) → h'.IsTupleIter i2 l2 (k2 + 1) → IsPair h' s.heap.objs.size x y → h'.objs.size = s.heap.objs.size + 1 →
      (∀ c o, c ≠ z → c ≠ TO → c ≠ i1 → c ≠ i2 → s.heap.get? c = some o → h'.get? c = some o) → Q (some (.ref s.heap.objs.size)) { s with heap := h' }) :
    wpAny (model prog w) A (pyNext (.ref z)) Q E s := by
  have hT : s.TypeIs (.ref z) "zip" := ⟨_, hz, rfl⟩
  unfold pyNext
  exact wpAny_bind (wpAny_attempt (wpAny_callSpecial?_slot (name := Str.ofString "__next__") hT F.slot_zip_next
    (wpAny_call_entry F.slot_zip_next hT F.entry_zip_next
      (zST_next_item D hz hTI hTO h1 h2 hl1 hl2 hx hy fun h' a1 a2 a3 a4 a5 a6 a7 => wpAny_pure (hQ h' a1 a2 a3 a4 a5 a6 a7)) (F.args_zip_next_1 _))))
theorem pyNext_zST_end {z TI TO i1 i2 l1 l2 : Addr} {k1 k2 : Nat} {xs ys : Array Value} {a b : Value} {Q : Option Value → Shared → Prop} (hh : A.handled = none) (D : ZipApart z TI TO i1 i2 l1 l2)
    (hz : IsZipS s.heap z TI TO .none) (hTI : IsPair s.heap TI (.ref i1) (.ref i2)) (hTO : IsPair s.heap TO a b)
    (h1 : s.heap.IsTupleIter i1 l1 k1) (h2 : s.heap.IsTupleIter i2 l2 k2) (hl1 : s.heap.IsTuple l1 xs) (hl2 : s.heap.IsTuple l2 ys) (hx : xs[k1]? = none) (hy : ys[k2]? = none)
    (hQ : ∀ h', (∀ c o, c ≠ z → c ≠ TO → c ≠ i1 → c ≠ i2 → s.heap.get? c = some o → h'.get? c = some o) → Q none { s with heap := h' }) : wpAny (model prog w) A (pyNext (.ref z)) Q E s := by
  have hT : s.TypeIs (.ref z) "zip" := ⟨_, hz, rfl⟩
  unfold pyNext
  refine wpAny_bind (wpAny_attempt (wpAny_callSpecial?_slot (name := Str.ofString "__next__") hT F.slot_zip_next
    (wpAny_call_entry F.slot_zip_next hT F.entry_zip_next (zST_next_end hh D hz hTI hTO h1 h2 hl1 hl2 hx hy fun h' e hk he => ?_) (F.args_zip_next_1 _))))
  obtain ⟨o, ho, hc⟩ := he
  refine wpAny_bind (wpAny_isInstance (T := "StopIteration") (b := true) ⟨o, ho, hc⟩ isSubtype_stop ?_)
  exact wpAny_pure (hQ _ hk)
abbrev zSTH1 (h : Heap) (l1 : Addr) : Heap := h.push { cls := .type "tuple_iterator", data := .fields #[.ref l1, .int 0 0] }
abbrev zSTH2 (h : Heap) (l1 l2 : Addr) : Heap := (zSTH1 h l1).push { cls := .type "tuple_iterator", data := .fields #[.ref l2, .int 0 0] }
abbrev zSTH3 (h : Heap) (l1 l2 : Addr) : Heap := (zSTH2 h l1 l2).push { cls := .type "tuple", data := .seq #[.ref h.objs.size, .ref (zSTH1 h l1).objs.size] }
abbrev zSTH4 (h : Heap) (l1 l2 : Addr) : Heap := (zSTH3 h l1 l2).push { cls := .type "tuple", data := .seq #[.none, .none] }
abbrev zSTH5 (h : Heap) (l1 l2 : Addr) : Heap := (zSTH4 h l1 l2).push { cls := .type "zip", data := .fields #[.none, .bool false, .bool true, .ref (zSTH2 h l1 l2).objs.size, .ref (zSTH3 h l1 l2).objs.size] }
theorem meets_zST (l1 l2 : Addr) (xs ys : Array Value) : Meets (Builtin.«zip.__new__» ⟨[.type "zip", .ref l1, .ref l2], [("strict", .bool true)]⟩)
    (fun _ R s => s.heap.IsTuple l1 xs ∧ s.heap.IsTuple l2 ys ∧ R (.ok (.ret (.ref (zSTH4 s.heap l1 l2).objs.size))) { s with heap := zSTH5 s.heap l1 l2 }) := .of_wp fun prog w A R s h => by
  obtain ⟨hp, g, d, tk, os⟩ := s
  obtain ⟨q1, q2, h⟩ := h
  have hsub := sub_zip
  have hL1 : (Shared.mk hp g d tk os).heap.IsTuple l1 xs := q1
  have hL2 : (Shared.mk (hp.push { cls := .type "tuple_iterator", data := .fields #[.ref l1, .int 0 0] }) g d tk os).heap.IsTuple l2 ys := q2.push _
  wp_walk using wpAny_pyIter_tuple hL1, wpAny_pyIter_tuple hL2
  exact ⟨_, rfl, h⟩
theorem call_zST {l1 l2 : Addr} {xs ys : Array Value} {Q : Value → Shared → Prop} (hl1 : s.heap.IsTuple l1 xs) (hl2 : s.heap.IsTuple l2 ys)
    (h : ∀ h', IsZipS h' (s.heap.objs.size + 4) (s.heap.objs.size + 2) (s.heap.objs.size + 3) .none → IsPair h' (s.heap.objs.size + 2) (.ref s.heap.objs.size) (.ref (s.heap.objs.size + 1)) → IsPair h' (s.heap.objs.size + 3) .none .none →
      h'.IsTupleIter s.heap.objs.size l1 0 → h'.IsTupleIter (s.heap.objs.size + 1) l2 0 → h'.objs.size = s.heap.objs.size + 5 → (∀ c o, s.heap.get? c = some o → h'.get? c = some o) → Q (.ref (s.heap.objs.size + 4)) { s with heap := h' }) :
    wpAny (model prog w) A (call (.type "zip") [.ref l1, .ref l2] [("strict", .bool true)]) Q E s := by
  refine callTypeK F.called_zip (by decide) (typeCall_zip_k _ _ _) (newCall_zip_k _ _ _) (fun obj => args_init_k obj _ _ _) F.entry_zip_new (meets_zST l1 l2 xs ys) ⟨hl1, hl2, ?_⟩
  have z1 : (zSTH1 s.heap l1).objs.size = s.heap.objs.size + 1 := by rw [Heap.size_push]
  have z2 : (zSTH2 s.heap l1 l2).objs.size = s.heap.objs.size + 2 := by rw [Heap.size_push, z1]
  have z3 : (zSTH3 s.heap l1 l2).objs.size = s.heap.objs.size + 3 := by rw [Heap.size_push, z2]
  have z4 : (zSTH4 s.heap l1 l2).objs.size = s.heap.objs.size + 4 := by rw [Heap.size_push, z3]
  have z5 : (zSTH5 s.heap l1 l2).objs.size = s.heap.objs.size + 5 := by rw [Heap.size_push, z4]
  have up : ∀ c o, (zSTH4 s.heap l1 l2).get? c = some o → (zSTH5 s.heap l1 l2).get? c = some o := fun c o x => Heap.get?_push_of_some _ x
  have up4 : ∀ c o, (zSTH3 s.heap l1 l2).get? c = some o → (zSTH5 s.heap l1 l2).get? c = some o := fun c o x => up c o (Heap.get?_push_of_some _ x)
  have up3 : ∀ c o, (zSTH2 s.heap l1 l2).get? c = some o → (zSTH5 s.heap l1 l2).get? c = some o := fun c o x => up4 c o (Heap.get?_push_of_some _ x)
  have up2 : ∀ c o, (zSTH1 s.heap l1).get? c = some o → (zSTH5 s.heap l1 l2).get? c = some o := fun c o x => up3 c o (Heap.get?_push_of_some _ x)
  have g5 : (zSTH5 s.heap l1 l2).get? (zSTH4 s.heap l1 l2).objs.size = some _ := Heap.get?_push_size _ rfl
  have g4 : (zSTH5 s.heap l1 l2).get? (zSTH3 s.heap l1 l2).objs.size = some _ := up _ _ (Heap.get?_push_size _ rfl)
  have g3 : (zSTH5 s.heap l1 l2).get? (zSTH2 s.heap l1 l2).objs.size = some _ := up4 _ _ (Heap.get?_push_size _ rfl)
  have g2 : (zSTH5 s.heap l1 l2).get? (zSTH1 s.heap l1).objs.size = some _ := up3 _ _ (Heap.get?_push_size _ rfl)
  have g1 : (zSTH5 s.heap l1 l2).get? s.heap.objs.size = some _ := up2 _ _ (Heap.get?_push_size _ rfl)
  show _ ∧ _
  rw [z2, z3, z4] at g5
  rw [z1, z2] at g3
  rw [z3] at g4
  rw [z1] at g2
  rw [z4]
  exact ⟨⟨_, g5, rfl⟩, h _ g5 g3 g4 ⟨_, g1, rfl, rfl⟩ ⟨_, g2, rfl, rfl⟩ z5 fun c o x => up2 c o (Heap.get?_push_of_some _ x)⟩
end
end PySem
namespace Dl
open PySem PySem.Spec PyProof.Rows L2
/-- the two as they stand at each turn, of one length, the items in new pairs -/
def ItzST (K : PySem.W.Frag) (a b : Addr) : It :=
  ⟨fun i H => ∃ (xs ys : List V) (x y : V), SqT K H a xs ∧ SqT K H b ys ∧ xs[i]? = some x ∧ ys[i]? = some y,
    fun i H v H' => ∃ T x y, v = .ref T ∧ H T = none ∧ H' = upd H T (.tup [x, y]) ∧ (∀ xs, SqT K H a xs → xs[i]? = some x) ∧ ∀ ys, SqT K H b ys → ys[i]? = some y,
    fun i H => ∃ xs ys : List V, SqT K H a xs ∧ SqT K H b ys ∧ xs.length ≤ i ∧ ys.length ≤ i⟩
theorem turn_zST {P : Program} {w : World} {K : PySem.W.Frag} {elts : List Expr} {kk : Nat} {tpos : Pos} {a b z TI TO i1 i2 : Addr} (D : ZipApart z TI TO i1 i2 a b) :
    Turn P w K (.Tuple elts kk tpos) (ItzST K a b) [z, TI, TO, i1, i2] z (fun i h => IsZipS h z TI TO .none ∧ IsPair h TI (.ref i1) (.ref i2) ∧ (∃ x y, IsPair h TO x y) ∧ h.IsTupleIter i1 a i ∧ h.IsTupleIter i2 b i) where
  mem := by simp
  obj := fun i h st c hc => by
    obtain ⟨hz, hTI, ⟨x, y, hTO⟩, ⟨o1, e1, _, d1⟩, ⟨o2, e2, _, d2⟩⟩ := st
    have e' : c = z ∨ c = TI ∨ c = TO ∨ c = i1 ∨ c = i2 := by simpa using hc
    rcases e' with q | q | q | q | q
    · rw [q]; exact ⟨_, hz, fun v q => nomatch q⟩
    · rw [q]; exact ⟨_, hTI, fun v q => nomatch q⟩
    · rw [q]; exact ⟨_, hTO, fun v q => nomatch q⟩
    · rw [q]; exact ⟨o1, e1, fun v q => by rw [d1] at q; cases q⟩
    · rw [q]; exact ⟨o2, e2, fun v q => by rw [d2] at q; cases q⟩
  keep := fun i h h' st k => by
    obtain ⟨hz, hTI, ⟨x, y, hTO⟩, h1, h2⟩ := st
    exact ⟨k z (by simp) _ hz, k TI (by simp) _ hTI, ⟨x, y, k TO (by simp) _ hTO⟩, h1.at fun o q => k i1 (by simp) o q, h2.at fun o q => k i2 (by simp) o q⟩
  item := by
    intro X hP hw hK hc i pins s σ H E I hf st hg
    subst hP hw hK
    obtain ⟨hz, hTI, ⟨x0, y0, hTO⟩, h1, h2⟩ := st
    obtain ⟨xs, ys, x, y, hqx, hqy, hx, hy⟩ := hg
    obtain ⟨its, rv, p, _⟩ := I.tuple hqx
    obtain ⟨its2, rv2, p2, _⟩ := I.tuple hqy
    obtain ⟨u, hu, ru⟩ := rv.get hx
    obtain ⟨u2, hu2, ru2⟩ := rv2.get hy
    have hzl : z < s.heap.objs.size := Heap.lt_size hz
    refine pyNext_zST_item D hz hTI hTO h1 h2 p p2 (x := u) (y := u2) (by simpa using hu) (by simpa using hu2) fun h' z' TO' h1' h2' hT hsz hk => ?_
    refine ⟨_, rfl, letOwnedTupleGo_zipS (s := { s with heap := h' }) z' fun h'' z'' sb => ?_⟩
    have hT2 : h''.get? s.heap.objs.size = some { cls := .type "tuple", data := .seq #[u, u2] } := (sb.2 _ (Nat.ne_of_gt hzl)).trans hT
    have new : ObjOk X.prog X.w (upd H s.heap.objs.size (.tup [x, y])) h'' s.heap.objs.size (.tup [x, y]) :=
      ⟨by show 2 ≤ sizeLine; decide, [u, u2], .cons ru (.cons ru2 .nil), ⟨_, hT2, rfl, _, rfl⟩⟩
    have I1 : Inv X pins σ (upd H s.heap.objs.size (.tup [x, y])) { s with heap := h'' } :=
      I.turnedNew (t' := s.toks) (ch := [z, TI, TO, i1, i2]) (fun c o hb q => (sb.2 c (fun q' => hb (by simp [q']))).trans (hk c o (fun q' => hb (by simp [q'])) (fun q' => hb (by simp [q'])) (fun q' => hb (by simp [q'])) (fun q' => hb (by simp [q'])) q)) hf (Nat.le_refl _) new
    refine ⟨.ref s.heap.objs.size, _, I1, rfl, ⟨_, x, y, rfl, I.hok.fresh (Nat.le_refl _), rfl, fun l hl => by rw [I.tuple_inj hl hqx]; exact hx, fun l hl => by rw [I.tuple_inj hl hqy]; exact hy⟩, ⟨z'', ?_, ⟨u, u2, ?_⟩, ?_, ?_⟩, fun c hcm => ?_⟩
    · exact (sb.2 _ D.TIz).trans (hk _ _ D.TIz D.TITO D.TIi1 D.TIi2 hTI)
    · exact (sb.2 _ D.TOz).trans TO'
    · exact h1'.at fun o q => (sb.2 _ D.i1z).trans q
    · exact h2'.at fun o q => (sb.2 _ D.i2z).trans q
    · have hlt : c < s.heap.objs.size := by
        have e' : c = z ∨ c = TI ∨ c = TO ∨ c = i1 ∨ c = i2 := by simpa using hcm
        rcases e' with q | q | q | q | q
        · rw [q]; exact hzl
        · rw [q]; exact Heap.lt_size hTI
        · rw [q]; exact Heap.lt_size hTO
        · rw [q]; obtain ⟨_, e1, _⟩ := h1; exact Heap.lt_size e1
        · rw [q]; obtain ⟨_, e2, _⟩ := h2; exact Heap.lt_size e2
      rw [upd_ne (Nat.ne_of_lt hlt)]
      exact (hf c hcm).1
  done := by
    intro X hP hw hK hc i pins s σ H E I hf st hg
    subst hP hw hK
    obtain ⟨hz, hTI, ⟨x0, y0, hTO⟩, h1, h2⟩ := st
    obtain ⟨xs, ys, hqx, hqy, e1, e2⟩ := hg
    obtain ⟨its, rv, p, _⟩ := I.tuple hqx
    obtain ⟨its2, rv2, p2, _⟩ := I.tuple hqy
    have l1 := rv.length
    have l2 := rv2.length
    exact pyNext_zST_end (I.ok.hd hc) D hz hTI hTO h1 h2 p p2 (by simp; omega) (by simp; omega) fun h' hk => ⟨rfl, I.turnedL (t' := s.toks) (ch := [z, TI, TO, i1, i2]) (fun c o hb q =>
      hk c o (fun q' => hb (by simp [q'])) (fun q' => hb (by simp [q'])) (fun q' => hb (by simp [q'])) (fun q' => hb (by simp [q'])) q) hf⟩
  self := fun A i s Q E st h => pyIter_zipS st.1 h
end Dl

namespace Dl
open PySem PySem.Spec PyProof.Rows L2
def iZipS (K : PySem.W.Frag) (ta : TA) : TI := fun σ H R => ta σ H fun vs H1 => ∃ a b xs ys, vs = [.ref a, .ref b] ∧ ((SqL K H1 a xs ∧ SqL K H1 b ys ∧ R (ItzSL K a b) H1) ∨ (SqT K H1 a xs ∧ SqT K H1 b ys ∧ R (ItzST K a b) H1))
theorem pi_zipS {X : Cx} {e e2 : Expr} {ta : TA} {p p2 p3 pos tpos : Pos} {j : Nat} {elts : List Expr} {kk : Nat} (hg : Gl X "zip") (hm : X.mg "zip" = none) (ha : PA X [e, e2] ta)
    (hs : starEach [e, e2] X.env = (false, eval e X.env) :: starEach [e2] X.env := by rfl) (hpl : (backTo pos (starEach [e2] X.env)).any (·.1) = false := by rfl) :
    PI X (.Tuple elts kk tpos) (.Call (.Name "zip" p) [e, e2] [⟨some "strict", .Constant (.bool true) j p2, p3⟩] pos) (iZipS X.K ta) := ⟨fun pins s σ H R I h => by
  refine wpAny_Call_Name_kw (ld_blt I hg hm PyProof.Rows.boot_zip (PySem.cwTyK (thn (ha.run pos pins s σ H _ I h) fun us s1 ⟨vs, H1, I1, r1, q1⟩ => ?_) hs hpl))
  have hk := (pk_cons (e := .Constant (.bool true) j p2) (kpos := p3) (nm := some "strict") (pe_bl (X := X) (b := true)) pk_nil).run pos pins s1 σ H1 (fun zs H2 => zs = [.bl true] ∧ H2 = H1) I1 ⟨rfl, rfl⟩
  refine thn hk fun ws s2 ⟨zs, H2, I2, r2, ez, eH⟩ => ?_
  subst ez eH
  obtain ⟨a, b, xs, ys, ex, q1⟩ := q1
  subst ex
  cases r1 with
  | cons r rr =>
    cases rr with
    | cons r' rr =>
      cases rr
      cases r
      cases r'
      cases r2 with
      | cons r3 rr3 =>
        cases rr3
        obtain rfl : _ = Value.bool true := r3
        have I3 : ∀ h', (∀ c o, s2.heap.get? c = some o → h'.get? c = some o) → Inv X pins σ H2 { s2 with heap := h' } := fun h' hk => I2.kept (t' := s2.toks) hk
        have fresh5 : ∀ c, c ∈ [s2.heap.objs.size + 4, s2.heap.objs.size + 2, s2.heap.objs.size + 3, s2.heap.objs.size, s2.heap.objs.size + 1] → FpOk X pins H2 c := fun c hcm => by
          have hle : s2.heap.objs.size ≤ c := by
            have hc5 : c = s2.heap.objs.size + 4 ∨ c = s2.heap.objs.size + 2 ∨ c = s2.heap.objs.size + 3 ∨ c = s2.heap.objs.size ∨ c = s2.heap.objs.size + 1 := by simpa using hcm
            rcases hc5 with z | z | z | z | z <;> rw [z] <;> first | exact Nat.le_add_right _ _ | exact Nat.le_refl _
          exact I2.fpOk hle (I2.hok.fresh hle)
        rcases q1 with ⟨hqx, hqy, q⟩ | ⟨hqx, hqy, q⟩
        · obtain ⟨its, rv, p1, _⟩ := I2.list hqx
          obtain ⟨its2, rv2, p2', _⟩ := I2.list hqy
          refine PySem.call_zSL p1.isList p2'.isList fun h' hz hTI hTO h1 h2 hsz hk => pyIter_zipS hz ?_
          exact ⟨s2.heap.objs.size + 4, [s2.heap.objs.size + 4, s2.heap.objs.size + 2, s2.heap.objs.size + 3, s2.heap.objs.size, s2.heap.objs.size + 1], _, _, H2, rfl, I3 h' hk, turn_zSL (PySem.W.ktu_apart s2.heap.objs.size a b p1.lt p2'.lt), ⟨hz, hTI, ⟨_, _, hTO⟩, h1, h2⟩, fresh5, q⟩
        · obtain ⟨its, rv, p1, _⟩ := I2.tuple hqx
          obtain ⟨its2, rv2, p2', _⟩ := I2.tuple hqy
          obtain ⟨o1, ho1, _⟩ := id p1
          obtain ⟨o2, ho2, _⟩ := id p2'
          refine PySem.call_zST (show s2.heap.IsTuple a its.toArray from p1) (show s2.heap.IsTuple b its2.toArray from p2') fun h' hz hTI hTO h1 h2 hsz hk => pyIter_zipS hz ?_
          exact ⟨s2.heap.objs.size + 4, [s2.heap.objs.size + 4, s2.heap.objs.size + 2, s2.heap.objs.size + 3, s2.heap.objs.size, s2.heap.objs.size + 1], _, _, H2, rfl, I3 h' hk, turn_zST (PySem.W.ktu_apart s2.heap.objs.size a b (Heap.lt_size ho1) (Heap.lt_size ho2)), ⟨hz, hTI, ⟨_, _, hTO⟩, h1, h2⟩, fresh5, q⟩⟩
def rIZipS (t : RA) : RI := fun Γ M K => t Γ M fun ls M1 => match ls with
  | [.im (.lst ds), .im (.lst es)] => ds.length = es.length ∧ K (zipD ds es) M1
  | [.im (.tup ds), .im (.tup es)] => ds.length = es.length ∧ K (zipD ds es) M1
  | _ => False
theorem q_izipS {C : Fc} {X : Cx} {p p2 p3 pos tpos : Pos} {e e2 : Expr} {es : List Expr} {t : RA} {kk j : Nat} (hK : C.K = X.K) (hm : X.mg "zip" = none) (ha : QA C X [e, e2] t) (hg : Gl X "zip" := by rfl) (hs : starEach [e, e2] X.env = (false, eval e X.env) :: starEach [e2] X.env := by rfl) (hpl : (backTo pos (starEach [e2] X.env)).any (·.1) = false := by rfl) :
    QI C X (.Tuple es kk tpos) (.Call (.Name "zip" p) [e, e2] [⟨some "strict", .Constant (.bool true) j p2, p3⟩] pos) (rIZipS t) :=
  PI.imp (pi_zipS hg hm ha hs hpl) fun σ H R ⟨As, G, Γ, M, K, S, t, q⟩ => ⟨As, G, Γ, M, _, S, t, fun ls M1 vs As1 G1 H1 g1 rv t1 => by
    split at t1
    · rename_i ds es
      obtain ⟨v, v', rfl, r, r'⟩ := rv.two
      cases r with
      | lst h r =>
        cases r' with
        | lst h' r' =>
          refine ⟨_, _, _, _, rfl, .inl ⟨SqL.of (g1.sat.le _ _ h), SqL.of (g1.sat.le _ _ h'), q _ M1 As1 G1 H1 _ g1 (fun i As2 G2 H2 Γ2 M2 σ2 S2 sg => ⟨fun d hd => ?_, fun hi => ?_⟩) t1.2⟩⟩
          · obtain ⟨y, z, hy, hz, rfl⟩ := zipD_get.mp hd
            have h2 := S2.le _ _ (sg _ _ h)
            have h2' := S2.le _ _ (sg _ _ h')
            obtain ⟨w, hw, rw1⟩ := (r.mono sg).get hy
            obtain ⟨w', hw', rw2⟩ := (r'.mono sg).get hz
            refine ⟨⟨_, _, w, w', SqL.of h2, SqL.of h2', hw, hw'⟩, fun z H' hz => ?_⟩
            obtain ⟨T, x, x', rfl, hT, rfl, hx, hx'⟩ := hz
            have e1 := hx _ (SqL.of h2)
            have e2 := hx' _ (SqL.of h2')
            rw [hw] at e1
            rw [hw'] at e2
            cases e1
            cases e2
            exact ⟨_, Gr.frz S2 hT, rp_new_t S2 hT (.cons rw1 (.one rw2))⟩
          · rw [zipD_len] at hi
            have := t1.1
            refine ⟨_, _, SqL.of (S2.le _ _ (sg _ _ h)), SqL.of (S2.le _ _ (sg _ _ h')), ?_, ?_⟩ <;> first | rw [r.length] | rw [r'.length]
            · omega
            · omega
    · rename_i ds es
      obtain ⟨v, v', rfl, r, r'⟩ := rv.two
      cases r with
      | tup h r =>
        cases r' with
        | tup h' r' =>
          refine ⟨_, _, _, _, rfl, .inr ⟨SqT.of (g1.sat.le _ _ h), SqT.of (g1.sat.le _ _ h'), q _ M1 As1 G1 H1 _ g1 (fun i As2 G2 H2 Γ2 M2 σ2 S2 sg => ⟨fun d hd => ?_, fun hi => ?_⟩) t1.2⟩⟩
          · obtain ⟨y, z, hy, hz, rfl⟩ := zipD_get.mp hd
            have h2 := S2.le _ _ (sg _ _ h)
            have h2' := S2.le _ _ (sg _ _ h')
            obtain ⟨w, hw, rw1⟩ := (r.mono sg).get hy
            obtain ⟨w', hw', rw2⟩ := (r'.mono sg).get hz
            refine ⟨⟨_, _, w, w', SqT.of h2, SqT.of h2', hw, hw'⟩, fun z H' hz => ?_⟩
            obtain ⟨T, x, x', rfl, hT, rfl, hx, hx'⟩ := hz
            have e1 := hx _ (SqT.of h2)
            have e2 := hx' _ (SqT.of h2')
            rw [hw] at e1
            rw [hw'] at e2
            cases e1
            cases e2
            exact ⟨_, Gr.frz S2 hT, rp_new_t S2 hT (.cons rw1 (.one rw2))⟩
          · rw [zipD_len] at hi
            have := t1.1
            refine ⟨_, _, SqT.of (S2.le _ _ (sg _ _ h)), SqT.of (S2.le _ _ (sg _ _ h')), ?_, ?_⟩ <;> first | rw [r.length] | rw [r'.length]
            · omega
            · omega
    · exact t1.elim⟩
end Dl

set_option Elab.async false
set_option maxRecDepth 100000
set_option maxHeartbeats 1000000
namespace Dl
open PySem PySem.Spec PyProof.Rows L2
/-! ### is True, is False -/
def oIsB (f : Bool → Bool) : R2L := fun x y M K => match x, y with
  | .im (.bl a), .im (.bl b) => K (.im (.bl (f (decide (a = b))))) M
  | _, _ => False
theorem isBL {C : Fc} : OpL C rIsB (oIsB id) := fun {As G H Γ M σ x y lx ly K Q} S rx ry t q => by
  unfold oIsB at t
  split at t
  · rename_i a b
    cases rx
    cases ry
    exact ⟨a, b, rfl, rfl, q (.im (.bl _)) M _ As G H (Gr.refl S) (Rp.bl _) t⟩
  · exact t.elim
theorem notBL {C : Fc} : OpL C rNotB (oIsB not) := fun {As G H Γ M σ x y lx ly K Q} S rx ry t q => by
  unfold oIsB at t
  split at t
  · rename_i a b
    cases rx
    cases ry
    exact ⟨a, b, rfl, rfl, q (.im (.bl _)) M _ As G H (Gr.refl S) (Rp.bl _) t⟩
  · exact t.elim
/-! ### a call whose def only reads the owned lists it is given -/
def unow (M : Led) : Lo → Option D
  | .im d => some d
  | .ow k => match M[k]? with
    | some m => datM m
    | none => none
  | .tp _ => none
def unows (M : Led) : List Lo → Option (List D)
  | [] => some []
  | l :: r => match unow M l, unows M r with
    | some d, some ds => some (d :: ds)
    | _, _ => none
def rCallF (sp : DSp) (ex : EX) (t : RA) : RE := fun Γ M K => t Γ M fun ls M1 => match unows M1 ls with
  | some ds => sp (ds.map Lo.im) [] (fun l Mu => match l with
      | .im d => d.flt = true ∧ K (.im d) M1
      | _ => False) fun x _ => x.pl = none ∧ ex x Γ M1
  | none => False
open Classical in
/-- all that is owned, frozen, but for code objects -/
noncomputable def allFz (As : List Addr) (G H : Hp) : Hp := fun a => if a ∈ As ∧ ¬ ∃ q, H a = some (LamX.CodeO a q) then H a else G a
section
variable {C : Fc} {As : List Addr} {G H : Hp} {Γ : Gam} {M : Led} {σ : L2.St}
theorem fz_same (S : Sat C As G H Γ M σ) : Same G (allFz As G H) := fun a o e => by
  unfold allFz
  split
  · exact S.le a o e
  · exact e
theorem fz_le (S : Sat C As G H Γ M σ) : Same (allFz As G H) H := fun a o e => by
  unfold allFz at e
  split at e
  · exact e
  · exact S.le a o e
theorem fz_sat (S : Sat C As G H Γ M σ) : Sat (.of C.T C.K [] (allFz As G H) H) [] (allFz As G H) H [] [] [] :=
  ⟨fz_le S, ⟨Same.refl _, fun a o _ _ h1 h2 => ⟨h2, h1⟩, fun a o h => ⟨o, h⟩⟩, fun k a m e => by simp at e, fun a h => by simp at h, List.nodup_nil, rfl, List.prefix_refl _, fun a h => by simp at h, fun i l e => by simp at e, rfl, Same.refl _, List.prefix_refl _, fun P q e => ⟨by simp, (S.tb P q e).2.keep (fz_same S) (by
    unfold allFz
    rw [if_neg fun z => (S.tb P q e).1 z.1]
    exact (S.tb P q e).2.1) rfl⟩⟩
theorem unow_rp (S : Sat C As G H Γ M σ) {v : V} {l : Lo} {d : D} (r : LRp C.K As G v l) (h : unow M l = some d) : Rp C.K (allFz As G H) v d := by
  cases l with
  | im d' => cases h; exact Rp.mono (fz_same S) r
  | tp ls => cases h
  | ow k =>
    obtain ⟨a, ha, rfl⟩ := r
    unfold unow at h
    dsimp only at h
    split at h
    · rename_i m e
      have hm : m ≠ .gone := fun z => by rw [z] at h; cases h
      obtain ⟨g0, o, h0, rx⟩ := S.own _ _ _ ha e hm
      refine datM_rp (rx.mono (fz_same S) (List.prefix_refl _)) h ?_
      have hq : ¬ ∃ q, H a = some (LamX.CodeO a q) := by
        rintro ⟨q, z⟩
        rw [h0] at z
        have z := Option.some.inj z
        unfold LamX.CodeO at z
        subst z
        cases m with
        | li ds => obtain ⟨_, z, _⟩ := rx; cases z
        | ls ds => obtain ⟨_, z, _⟩ := rx; cases z
        | dc ks => obtain ⟨_, z, _⟩ := rx; cases z
        | dm ks => obtain ⟨_, z, _⟩ := rx; cases z
        | ob C fs => obtain ⟨_, _, z, _⟩ := rx; cases z
        | gone => exact hm rfl
        | dl od kvs ks => obtain ⟨z, _⟩ := rx; cases z
      unfold allFz
      rw [if_pos ⟨List.mem_of_getElem? ha, hq⟩, h0]
    · cases h
theorem unows_rp (S : Sat C As G H Γ M σ) : ∀ {vs : List V} {ls : List Lo} {ds : List D}, LRpL C.K As G vs ls → unows M ls = some ds → LRpL C.K [] (allFz As G H) vs (ds.map Lo.im)
  | _, [], ds, r, h => by
    cases h
    cases r
    exact .nil
  | _, l :: ls, ds, r, h => by
    unfold unows at h
    split at h
    · rename_i d ds' e1 e2
      cases h
      cases r with
      | cons r1 r2 => exact .cons (unow_rp S r1 e1) (unows_rp S r2 e2)
    · cases h
theorem fz_back {As2 : List Addr} {G2 H2 : Hp} {Mu : Led} (S : Sat C As G H Γ M σ) (Z : Sat (.of C.T C.K [] (allFz As G H) H) As2 G2 H2 [] Mu []) : ∃ G', Gr C As G As G' H2 Γ M σ := by
  have keep : ∀ a o, C.T a = none → H a = some o → H2 a = some o := fun a o hT e => by
    cases q : allFz As G H a with
    | none => exact (Z.stp.k a o (by simp) hT q e).1
    | some o' =>
      have e1 := Z.le a o' (Z.stp.g a o' q)
      have e2 := fz_le S a o' q
      rw [e] at e2
      cases e2
      exact e1
  have old : ∀ a o, H a = some o → (match H a with | none => G2 a | some _ => G a) = G a := fun a o e => by rw [e]
  have nw : ∀ a, H a = none → (match H a with | none => G2 a | some _ => G a) = G2 a := fun a e => by rw [e]
  have sg : Same G (fun a => match H a with | none => G2 a | some _ => G a) := fun a o e => (old a o (S.le a o e)).trans e
  refine ⟨fun a => match H a with | none => G2 a | some _ => G a, ⟨fun a o e => ?_, ⟨S.stp.g.trans sg, fun a o h1 hT h2 h3 => ?_, fun a o h => ?_⟩, fun k a m e1 e2 e3 => ?_, S.fr, S.inj, S.al, S.asS, fun a h => ?_, fun i l e => ?_, S.len, S.bg.trans sg, S.ba, fun P q e => ?_⟩, sg, List.prefix_refl _⟩
  · cases hH : H a with
    | none =>
      have e := (nw a hH).symm.trans e
      exact Z.le a o e
    | some u =>
      have e := (old a u hH).symm.trans e
      refine keep a o ?_ (S.le a o e)
      cases q : C.T a with
      | none => rfl
      | some x =>
        have := (S.tb a x q).2.1
        rw [e] at this
        cases this
  · obtain ⟨q1, q2⟩ := S.stp.k a o h1 hT h2 h3
    exact ⟨keep a o hT q1, (old a o q1).trans q2⟩
  · obtain ⟨o', q⟩ := S.stp.d a o h
    exact Z.stp.d a o' q
  · obtain ⟨q1, o, q2, q3⟩ := S.own k a m e1 e2 e3
    exact ⟨(old a o q2).trans q1, o, keep a o (S.tn (List.mem_of_getElem? e1)) q2, q3.mono sg (List.prefix_refl _)⟩
  · obtain ⟨o, q⟩ := S.there a h
    exact ⟨o, keep a o (S.tn h) q⟩
  · obtain ⟨v, q1, q2⟩ := S.slot i l e
    exact ⟨v, q1, q2.mono sg (List.prefix_refl _)⟩
  · obtain ⟨z1, z2, ps0, z3, _⟩ := S.tb P q e
    obtain ⟨_, ps, h1, h2, h3⟩ := (Z.tb P q e).2
    refine ⟨z1, (old P _ z3).trans z2, ps, h1, h2, fun pos cv hc => ?_⟩
    obtain ⟨c, e1, e2⟩ := h3 pos cv hc
    refine ⟨c, e1, ?_⟩
    cases hH : H c with
    | none => exact (nw c hH).trans e2
    | some u =>
      refine (old c u hH).trans ?_
      have hT : C.T c = none := by
        cases q : C.T c with
        | none => rfl
        | some x =>
          have := (Z.tb c x q).2.1
          rw [e2] at this
          cases this
      cases q : allFz As G H c with
      | none =>
        have := (Z.stp.k c u (by simp) hT q hH).2
        rw [e2] at this
        cases this
      | some o' =>
        have e3 := Z.stp.g c o' q
        rw [e2] at e3
        cases e3
        have e4 := fz_le S c _ q
        unfold allFz at q
        split at q
        · rename_i hh
          exact absurd ⟨_, e4⟩ hh.2
        · exact q
end
theorem flt_any {K : PySem.W.Frag} {G G' : Hp} {v : V} {d : D} (r : Rp K G v d) (h : d.flt = true) : Rp K G' v d := by
  cases r <;> first | exact .non | exact .bl _ | exact .int _ | exact .str _ | cases h
section
variable {C : Fc} {X : Cx} {k : Nat} {f : Addr} {fd : FuncData} {ps : List Str} {sp : DSp} {ex : EX} {x : Str} {p pos : Pos} {e : Expr} {es : List Expr} {t : RA}
theorem q_callF (F : Gn C.T X.prog X.w X.K X.mg X.base k f fd ps sp) (hm : X.mg x = some (.ref f)) (hb : Binds X.K fd ps []) (hk : PySem.W.keepIn X.K (.ref f) = true) (hr : Room k X.A) (hg : X.A.guards = some []) (hK : C.K = X.K) (tk : Takes X (UW C ex)) (ha : QA C X (e :: es) t)
    (hgl : Gl X x := by rfl) (hdb : (x == ("__debug__" : Str)) = false := by decide) (he : starEach (e :: es) X.env = (false, eval e X.env) :: starEach es X.env := by rfl) (hpl : (backTo pos (starEach es X.env)).any (·.1) = false := by rfl) :
    QE C X (.Call (.Name x p) (e :: es) [] pos) (rCallF sp ex t) := ⟨fun pins s σ H Q I ⟨As, G, Γ, M, K, S, h, q⟩ => by
  refine wpAny_Call_Name_kw (ld_glob I hgl hm ?_ hdb)
  have hA := ha.run pos pins s σ H (fun vs H1 => ∃ (As1 : List Addr) (G1 : Hp) (M1 : Led) (ls : List Lo), Gr C As G As1 G1 H1 Γ M1 σ ∧ LRpL C.K As1 G1 vs ls ∧ _) I ⟨As, G, Γ, M, _, S, h, fun ls M1 vs As1 G1 H1 g1 rl k1 => ⟨As1, G1, M1, ls, g1, rl, k1⟩⟩
  refine PySem.W.callWith_K (h₀ := X.base) I.ok.mod.kin hk (thn hA fun us s1 ⟨vs, H1, I1, r, As1, G1, M1, ls, g1, rl, h1⟩ => ⟨I1.kIn, ?_⟩) he hpl
  split at h1
  · rename_i ds eds
    have rd := unows_rp g1.sat rl eds
    have Z0 := fz_sat g1.sat
    rw [hK] at Z0 rd
    have hlen : us.length = ps.length := by
      rw [← r.length, rd.length]
      exact F.len _ _ _ _ h1
    have b := hb s1 us I1.kIn (by rw [List.append_nil]; exact hlen)
    rw [List.append_nil] at b
    refine wpAny_call (codeAny_mono (F.run X.A X.stack s1 H1 ⟨us, []⟩ us vs Q (fun cls d H' => UW C ex cls d σ H') _ (allFz As1 G1 H1) _ _ _ _ hr hg I1.env0 b r Z0 rd h1 (fun l Mu v Au' G' H' Z rv k => ?_) fun x Mu cls d Au' G' H' Z rx k => ?_) fun res s' hq => ?_)
    · rw [← hK] at Z rv
      split at k
      · rename_i d
        obtain ⟨G', gb⟩ := fz_back g1.sat Z
        exact q (.im d) _ v As1 G' H' (g1.trans gb) (flt_any rv k.1) k.2
      · exact k.elim
    · rw [← hK] at Z rx
      obtain ⟨k1, k2⟩ := k
      obtain ⟨cx, pl⟩ := x
      dsimp only at k1
      subst k1
      obtain ⟨G', gb⟩ := fz_back g1.sat Z
      exact ⟨As1, G', Γ, _, _, gb.sat, rx, k2⟩
    · cases res with
      | error e => exact passAt tk σ pins H1 s1 e s' I1 hq
      | ok fl =>
        cases fl with
        | ret u => exact I1.after hq
        | next => exact False.elim hq
        | brk => exact False.elim hq
        | cont => exact False.elim hq
  · exact h1.elim⟩
end
/-! ### try around what raises nothing -/
theorem q_thru {C : Fc} {X : Cx} {body : List Stmt} {h₀ : ExceptHandler} {hs : List ExceptHandler} {t : RS} {pos : Pos} (hb : QSs C X.nox body t) : QS C X (.Try body (h₀ :: hs) [] [] pos) t := ps_try_thru0 hb
end Dl
namespace L2
open PySem PySem.Spec PyProof.Rows
section
variable {X : Cx}
/-- l.count(x), of data -/
def rCountD (K : PySem.W.Frag) : V → List V → Hp → VK → Prop := fun x xs H Q => ∃ (a : Addr) (y : V) (d : PyData) (ds : List PyData), x = V.ref a ∧ xs = [y] ∧ Dp K H (V.ref a) (.list ds) ∧ Dp K H y d ∧
  SeqAt.shaped (.list ds) = true ∧ SeqAt.shaped d = true ∧ Q (.int ((ds.countP fun z => PyData.eqv z d : Nat) : Int)) H
theorem mt_countD (hu : X.A.units + 65 < cLine) : MtR X "list.count" (rCountD X.K) := by
  intro pins s σ H x xs v us Q I rx rxs h
  obtain ⟨a, y, d, ds, rfl, rfl, hl, hy, sl, sd, q⟩ := h
  cases rx
  cases rxs with
  | cons ry rt =>
    rename_i uy ut
    cases rt
    obtain ⟨bs, r1⟩ := Dp.reads I d y uy hy ry
    have hxs : PyData.canLayAll0 ds = true := SeqAt.canLay_of_shaped sl
    have hroom : X.A.units + 1 + min (PyData.depthAll ds) d.depth < cLine := room_in_shaped sd hu
    cases hl with
    | lst hs ha =>
      obtain ⟨its, rv, ⟨⟨cls, dd, data, sls⟩, n, ho, hc, hdn, hdt⟩, hlen⟩ := I.list hs
      simp only at hc hdt
      subst hc hdt
      obtain ⟨as, h4⟩ := Dp.readsAll I ds _ its ha rv
      have hmap : its.map (SeqAt.readOf s.heap) = ds := SeqAt.readsAll_map ds its as hxs h4
      refine call_meets PySem.F.slot_list_count ⟨_, ho, rfl⟩ PySem.F.entry_list_count (PySem.F.args_list_count_2 _ _)
        (SeqAt.list_countAt a its.toArray n dd sls uy (fun u => PyData.eqv (SeqAt.readOf s.heap u) d)) ⟨ho, SeqAt.items_eqAt (vs := its.toArray) (show ReadsAll s.heap its.toArray.toList ds as from h4) r1 hxs (SeqAt.canLay_of_shaped sd) hroom, ?_⟩
      have ec : its.toArray.toList.countP (fun u => PyData.eqv (SeqAt.readOf s.heap u) d) = ds.countP fun z => PyData.eqv z d := by
        rw [← hmap, List.countP_map]
        rfl
      refine ⟨.int _, H, I.tok _, ⟨s.toks, ?_⟩, q⟩
      show Value.int ((its.toArray.toList.countP (fun u => PyData.eqv (SeqAt.readOf s.heap u) d) : Nat) : Int) s.toks = _
      rw [ec]
end
end L2
namespace Dl
open PySem PySem.Spec PyProof.Rows L2
def oCount : RmL := fun l ls M K => match ls with
  | [x] => match snap M l, snap M x with
    | some (.lst ds), some d => okd (.lst ds) = true ∧ okd d = true ∧ K (.im (.int ((ds.countP fun z => PyData.eqv z.pd d.pd : Nat) : Int))) M
    | _, _ => False
  | _ => False
/-- the first place of an equal one, of any data -/
def oIndexD : RmL := fun l ls M K => match ls with
  | [x] => match snap M l, snap M x with
    | some (.lst ds), some d => okd (.lst ds) = true ∧ okd d = true ∧ ∃ (j : Nat) (z : D), ds[j]? = some z ∧ PyData.eqv z.pd d.pd = true ∧ (∀ (m : Nat) (z' : D), m < j → ds[m]? = some z' → PyData.eqv z'.pd d.pd = false) ∧ K (.im (.int j)) M
    | _, _ => False
  | _ => False
theorem pdL_map : ∀ ds : List D, D.pdL ds = ds.map D.pd
  | [] => rfl
  | d :: ds => by
    show d.pd :: D.pdL ds = _
    rw [pdL_map ds]
    rfl
theorem snap_ref {C : Fc} {As : List Addr} {G H : Hp} {Γ : Gam} {M : Led} {σ : L2.St} {v : V} {l : Lo} {ds : List D} (S : Sat C As G H Γ M σ) (r : LRp C.K As G v l) (h : snap M l = some (.lst ds)) : ∃ a, v = .ref a := by
  obtain ⟨a, xs, e, _⟩ := S.snapL r h
  exact ⟨a, e⟩
theorem okd_split {d : D} (h : okd d = true) : d.flat = true ∧ SeqAt.shaped d.pd = true := by
  unfold okd at h
  exact Bool.and_eq_true_iff.mp h
theorem countDL {C : Fc} : MeL C "list" (rCountD C.K) oCount := fun {As G H Γ M σ x xs l ls K Q} S r rl t q => by
  unfold oCount at t
  split at t
  · split at t
    · rename_i x0 ds d e1 e2
      obtain ⟨w, rfl, r1⟩ := rl.one
      obtain ⟨a, rfl⟩ := snap_ref S r e1
      obtain ⟨f1, s1⟩ := okd_split t.1
      obtain ⟨f2, s2⟩ := okd_split t.2.1
      have p1 : Dp C.K H (.ref a) (.list (D.pdL ds)) := S.dp r e1 f1
      have p2 := S.dp r1 e2 f2
      refine ⟨a, w, d.pd, D.pdL ds, rfl, rfl, p1, p2, s1, s2, ?_⟩
      rw [pdL_map, List.countP_map]
      exact q (.im (.int _)) M _ As G H (Gr.refl S) (Rp.int _) t.2.2
    · exact t.elim
  · exact t.elim
theorem indexDL {C : Fc} : MeL C "list" (rIndexD C.K) oIndexD := fun {As G H Γ M σ x xs l ls K Q} S r rl t q => by
  unfold oIndexD at t
  split at t
  · split at t
    · rename_i x0 ds d e1 e2
      obtain ⟨w, rfl, r1⟩ := rl.one
      obtain ⟨a, rfl⟩ := snap_ref S r e1
      obtain ⟨t1, t2, j, z, t3, t4, t5, t6⟩ := t
      obtain ⟨f1, s1⟩ := okd_split t1
      obtain ⟨f2, s2⟩ := okd_split t2
      have p1 : Dp C.K H (.ref a) (.list (D.pdL ds)) := S.dp r e1 f1
      have p2 := S.dp r1 e2 f2
      refine ⟨a, w, d.pd, D.pdL ds, j, z.pd, rfl, rfl, p1, p2, s1, s2, ?_, t4, fun m z' hm hz => ?_, q (.im (.int _)) M _ As G H (Gr.refl S) (Rp.int _) t6⟩
      · rw [pdL_map, List.getElem?_map, t3]
        rfl
      · rw [pdL_map, List.getElem?_map] at hz
        cases e4 : ds[m]? with
        | none => rw [e4] at hz; cases hz
        | some y =>
          rw [e4] at hz
          cases hz
          exact t5 m y hm e4
    · exact t.elim
  · exact t.elim
theorem room65 {X : Cx} {k : Nat} (hr : Room k X.A) : X.A.units + 65 < cLine := by have := hr.un; omega
/-- {} -/
theorem q_dict0 {C : Fc} {X : Cx} {pos : Pos} : QE C X (.Dict [] [] pos) (rCon (.dct [])) := PE.imp pe_dnewK fun σ H Q ⟨As, G, Γ, M, K, S, t, q⟩ =>
  fun p hp => q (.im (.dct [])) M _ As _ _ (Gr.frz S hp) (Rp.dct upd_same rfl .nil) t
end Dl
namespace Dl
open PySem PySem.Spec PyProof.Rows L2
/-! ### a call with one owned object lent -/
def ow1 : List Lo → Option Nat
  | [] => none
  | .ow k :: r => match allIm r with
    | some _ => some k
    | none => none
  | .im _ :: r => ow1 r
  | .tp _ :: _ => none
def lo0 : Lo → Lo
  | .ow _ => .ow 0
  | l => l
def rCall1 (sp : DSp) (ex : EX) (t : RA) : RE := fun Γ M K => t Γ M fun ls M1 => match ow1 ls with
  | some k => match M1[k]? with
    | some m => flatM m = true ∧ sp (ls.map lo0) [m] (fun l Mu => match l, Mu with
        | .im d, [m'] => flatM m' = true ∧ K (.im d) (M1.set k m')
        | _, _ => False) fun x Mu => match Mu with
        | [m'] => flatM m' = true ∧ ex x Γ (M1.set k m')
        | _ => False
    | none => False
  | none => False
theorem ow1_ok : ∀ {ls : List Lo} {k : Nat}, ow1 ls = some k → ls.map (renL (loc [k])) = ls.map lo0 ∧ refLs (· ∈ ([k] : List Nat)) ls
  | [], k, h => by cases h
  | .ow j :: r, k, h => by
    unfold ow1 at h
    split at h
    · rename_i ds e
      cases h
      rw [allIm_map e]
      refine ⟨?_, ?_⟩
      · show Lo.ow (loc [j] j) :: (ds.map Lo.im).map (renL (loc [j])) = Lo.ow 0 :: (ds.map Lo.im).map lo0
        rw [map_ren0, List.map_map]
        have : loc [j] j = 0 := by simp [loc]
        rw [this]
        rfl
      · exact ⟨by show j ∈ [j]; simp, refLs_im ds⟩
    · cases h
  | .im d :: r, k, h => by
    obtain ⟨h1, h2⟩ := ow1_ok (ls := r) h
    refine ⟨?_, trivial, h2⟩
    rw [List.map_cons, List.map_cons, h1]
    rfl
  | .tp _ :: r, k, h => by cases h
theorem flat_ren {m : MO} {f : Nat → Nat} (h : flatM m = true) : renM f m = m := by cases m <;> first | rfl | cases h
theorem call1_ok {sp : DSp} {ex : EX} {Γ : Gam} {M1 : Led} {K : Lo → Led → Prop} {ls : List Lo} (h : match ow1 ls with
  | some k => match M1[k]? with
    | some m => flatM m = true ∧ sp (ls.map lo0) [m] (fun l Mu => match l, Mu with
        | .im d, [m'] => flatM m' = true ∧ K (.im d) (M1.set k m')
        | _, _ => False) fun x Mu => match Mu with
        | [m'] => flatM m' = true ∧ ex x Γ (M1.set k m')
        | _ => False
    | none => False
  | none => False) : ∃ k, PickOk [k] M1 ∧ refLs (· ∈ ([k] : List Nat)) ls ∧ ∃ (Kd : Lo → Led → Prop) (Ed : Exn → Led → Prop), sp (ls.map (renL (loc [k]))) (pick [k] M1) Kd Ed ∧ (∀ l Mu, Kd l Mu → K (renL (ren [k] M1.length) l) (put [k] Mu M1)) ∧ ∀ x Mu, Ed x Mu → ex x Γ (put [k] Mu M1) := by
  split at h
  · rename_i k ek
    split at h
    · rename_i m em
      obtain ⟨hf, h⟩ := h
      obtain ⟨h1, h2⟩ := flat_pick em hf
      obtain ⟨h3, h4⟩ := ow1_ok ek
      have hput : ∀ m' : MO, flatM m' = true → put [k] [m'] M1 = M1.set k m' := fun m' hm => by
        show M1.set k (renM _ m') ++ [] = _
        rw [flat_ren hm, List.append_nil]
      refine ⟨k, h1, h4, _, _, by rw [h3, h2]; exact h, fun l Mu q => ?_, fun x Mu q => ?_⟩
      · split at q
        · rename_i d m'
          rw [hput _ q.1]
          exact q.2
        · exact q.elim
      · split at q
        · rename_i m'
          rw [hput _ q.1]
          exact q.2
        · exact q.elim
    · exact h.elim
  · exact h.elim
section
variable {C : Fc} {X : Cx} {k : Nat} {f : Addr} {fd : FuncData} {ps : List Str} {sp : DSp} {ex : EX} {x : Str} {p pos : Pos} {e : Expr} {es : List Expr} {t : RA}
theorem q_call1 (F : Gn C.T X.prog X.w X.K X.mg X.base k f fd ps sp) (hm : X.mg x = some (.ref f)) (hb : Binds X.K fd ps []) (hk : PySem.W.keepIn X.K (.ref f) = true) (hr : Room k X.A) (hg : X.A.guards = some []) (hK : C.K = X.K) (tk : Takes X (UW C ex)) (ha : QA C X (e :: es) t)
    (hgl : Gl X x := by rfl) (hdb : (x == ("__debug__" : Str)) = false := by decide) (he : starEach (e :: es) X.env = (false, eval e X.env) :: starEach es X.env := by rfl) (hpl : (backTo pos (starEach es X.env)).any (·.1) = false := by rfl) :
    QE C X (.Call (.Name x p) (e :: es) [] pos) (rCall1 sp ex t) := ⟨fun pins s σ H Q I ⟨As, G, Γ, M, K, S, h, q⟩ => by
  refine wpAny_Call_Name_kw (ld_glob I hgl hm ?_ hdb)
  have hA := ha.run pos pins s σ H (fun vs H1 => ∃ (As1 : List Addr) (G1 : Hp) (M1 : Led) (ls : List Lo), Gr C As G As1 G1 H1 Γ M1 σ ∧ LRpL C.K As1 G1 vs ls ∧ _) I ⟨As, G, Γ, M, _, S, h, fun ls M1 vs As1 G1 H1 g1 rl k1 => ⟨As1, G1, M1, ls, g1, rl, k1⟩⟩
  refine PySem.W.callWith_K (h₀ := X.base) I.ok.mod.kin hk (thn hA fun us s1 ⟨vs, H1, I1, r, As1, G1, M1, ls, g1, rl, h1⟩ => ⟨I1.kIn, ?_⟩) he hpl
  obtain ⟨k, ok, hls, Kd, Ed, h2, h3, h4⟩ := call1_ok h1
  exact run_gn F hr hg hb hK tk I1 r g1.sat rl ok hls h2 (fun l Mu v As' G' H' g rv k => q _ _ v As' G' H' (g1.trans g) rv (h3 l Mu k)) h4⟩
end
end Dl

set_option Elab.async false
set_option maxRecDepth 100000
set_option maxHeartbeats 1000000
namespace Dl
open PySem PySem.Spec PyProof.Rows L2
/-! ### repr of data that hold dicts -/
def kPd : Key → PyData
  | .inl i => .int i
  | .inr x => .str x
mutual
def D.pr : D → PyData
  | .non => .none
  | .bl b => .bool b
  | .int i => .int i
  | .str x => .str x
  | .lst ds => .list (D.prL ds)
  | .tup ds => .tuple (D.prL ds)
  | .dct ks => .dict (D.prK ks)
  | .ty _ => .none
  | .cl _ => .none
  | .kls _ => .none
  | .scr _ => .none
  | .ins _ _ => .none
  | .exc _ _ => .none
def D.prL : List D → List PyData
  | [] => []
  | d :: ds => d.pr :: D.prL ds
def D.prK : List (Key × D) → List (PyData × PyData)
  | [] => []
  | p :: r => D.prP p :: D.prK r
def D.prP : Key × D → PyData × PyData
  | (k, d) => (kPd k, d.pr)
end
mutual
def D.flr : D → Bool
  | .non => true
  | .bl _ => true
  | .int _ => true
  | .str _ => true
  | .lst ds => D.flrL ds
  | .tup ds => D.flrL ds
  | .dct ks => D.flrK ks
  | .ty _ => false
  | .cl _ => false
  | .kls _ => false
  | .scr _ => false
  | .ins _ _ => false
  | .exc _ _ => false
def D.flrL : List D → Bool
  | [] => true
  | d :: ds => d.flr && D.flrL ds
def D.flrK : List (Key × D) → Bool
  | [] => true
  | p :: r => D.flrP p && D.flrK r
def D.flrP : Key × D → Bool
  | (_, d) => d.flr
end
mutual
theorem pr_pd : ∀ d : D, d.flat = true → d.pr = d.pd ∧ d.flr = true
  | .non, _ => ⟨rfl, rfl⟩
  | .bl _, _ => ⟨rfl, rfl⟩
  | .int _, _ => ⟨rfl, rfl⟩
  | .str _, _ => ⟨rfl, rfl⟩
  | .lst ds, h => by
    obtain ⟨h1, h2⟩ := pr_pdL ds h
    exact ⟨congrArg PyData.list h1, h2⟩
  | .tup ds, h => by
    obtain ⟨h1, h2⟩ := pr_pdL ds h
    exact ⟨congrArg PyData.tuple h1, h2⟩
  | .dct _, h => by cases h
  | .ty _, h => by cases h
  | .cl _, h => by cases h
  | .kls _, h => by cases h
  | .scr _, h => by cases h
  | .ins _ _, h => by cases h
  | .exc _ _, h => by cases h
theorem pr_pdL : ∀ ds : List D, D.flatL ds = true → D.prL ds = D.pdL ds ∧ D.flrL ds = true
  | [], _ => ⟨rfl, rfl⟩
  | d :: ds, h => by
    have h' := Bool.and_eq_true_iff.mp (show (d.flat && D.flatL ds) = true from h)
    obtain ⟨h1, h2⟩ := pr_pd d h'.1
    obtain ⟨h3, h4⟩ := pr_pdL ds h'.2
    refine ⟨?_, ?_⟩
    · show d.pr :: D.prL ds = d.pd :: D.pdL ds
      rw [h1, h3]
    · show (d.flr && D.flrL ds) = true
      rw [h2, h4]
      rfl
end
def okrr (d : D) : Bool := d.flr && d.pr.showable && decide (d.pr.depth ≤ 64) && decide (d.pr.shown.length ≤ sizeLine)
/-- what a value shows -/
def Sh (P : Program) (w : World) (h : Heap) (u : Value) (p : PyData) : Prop := (∃ as, Reads h u p as) ∧ ∃ bs, ReadAtMost h p.depth bs ∧ ReprK P w bs h p.depth u p.shown
def ShL (P : Program) (w : World) (h : Heap) (us : List Value) (ps : List PyData) : Prop := (∃ as, ReadsAll h us ps as) ∧ ∃ bs, ReadAtMost h (PyData.depthAll ps) bs ∧ ReprAllK P w bs h (PyData.depthAll ps) us (PyData.shownAll ps)
section
variable {P : Program} {w : World} {h : Heap} {a : Addr}
theorem shL_nil : ShL P w h [] [] := ⟨⟨_, .nil⟩, [], (fun _ h => nomatch h), by simp only [PyData.shownAll]; exact .nil⟩
theorem shL_cons {u : Value} {p : PyData} {us : List Value} {ps : List PyData} (h1 : Sh P w h u p) (h2 : ShL P w h us ps) : ShL P w h (u :: us) (p :: ps) := by
  obtain ⟨⟨as, r⟩, b1, hb1, k1⟩ := h1
  obtain ⟨⟨as2, r2⟩, b2, hb2, k2⟩ := h2
  refine ⟨⟨_, .cons r r2⟩, b1 ++ b2, (hb1.mono ?_).append (hb2.mono ?_), ?_⟩
  · simp only [PyData.depthAll]
    exact Nat.le_max_left _ _
  · simp only [PyData.depthAll]
    exact Nat.le_max_right _ _
  · simp only [PyData.depthAll, PyData.shownAll]
    exact .cons ((k1.more fun b hb => List.mem_append_left _ hb).level_le (Nat.le_max_left _ _)) (k2.more_le (fun b hb => List.mem_append_right _ hb) (Nat.le_max_right _ _))
theorem sh_list {o : Obj} {its : List Value} {n : Nat} {ps : List PyData} (h1 : h.get? a = some o) (h2 : o.cls = .type "list") (h3 : o.data = .seq its.toArray n) (k : ShL P w h its ps) : Sh P w h (.ref a) (.list ps) := by
  obtain ⟨⟨as, r⟩, bs, hb, hk⟩ := k
  have rr : Reads h (.ref a) (.list ps) _ := .list h1 h2 h3 r
  have hna : a ∉ bs := not_mem_of_deeper rr (by simp only [PyData.depth]; omega) hb
  refine ⟨⟨_, rr⟩, a :: bs, ReadAtMost.cons rr (by simp only [PyData.depth]; omega) hb, ?_⟩
  simp only [PyData.depth, PyData.shown]
  cases its with
  | nil =>
    cases r
    simp only [PyData.shownAll, listText_nil]
    exact ReprK.listEmpty h1 h2 h3
  | cons x l => exact ReprK.list h1 h2 h3 hna (by simpa using hk.length_eq) (fun i y e => hk.item i y (by simpa using e))
theorem sh_tuple {o : Obj} {its : List Value} {n : Nat} {ps : List PyData} (h1 : h.get? a = some o) (h2 : o.cls = .type "tuple") (h3 : o.data = .seq its.toArray n) (k : ShL P w h its ps) : Sh P w h (.ref a) (.tuple ps) := by
  obtain ⟨⟨as, r⟩, bs, hb, hk⟩ := k
  have rr : Reads h (.ref a) (.tuple ps) _ := .tuple h1 h2 h3 r
  have hna : a ∉ bs := not_mem_of_deeper rr (by simp only [PyData.depth]; omega) hb
  refine ⟨⟨_, rr⟩, a :: bs, ReadAtMost.cons rr (by simp only [PyData.depth]; omega) hb, ?_⟩
  simp only [PyData.depth, PyData.shown]
  exact ReprK.tuple h1 h2 h3 hna hk
theorem sh_dict {o : Obj} {es : Array DictEntry} {n : Nat} {kvs : List (PyData × PyData)} (h1 : h.get? a = some o) (h2 : o.cls = .type "dict") (h3 : o.data = .dict es n) (hs : (a == sysModules) = false)
    (k : ShL P w h (es.toList.map (·.key)) (kvs.map (·.1))) (k2 : ShL P w h (es.toList.map (·.val)) (kvs.map (·.2))) : Sh P w h (.ref a) (.dict kvs) := by
  obtain ⟨⟨as, r⟩, b1, hb1, hk1⟩ := k
  obtain ⟨⟨as2, r2⟩, b2, hb2, hk2⟩ := k2
  have rr : Reads h (.ref a) (.dict kvs) _ := .dict h1 h2 h3 r r2
  have hb : ReadAtMost h (PyData.depthKv kvs) (b1 ++ b2) := (hb1.mono (PyData.depthAll_keys_le kvs)).append (hb2.mono (PyData.depthAll_vals_le kvs))
  have hna : a ∉ b1 ++ b2 := not_mem_of_deeper rr (by simp only [PyData.depth]; omega) hb
  refine ⟨⟨_, rr⟩, a :: (b1 ++ b2), ReadAtMost.cons rr (by simp only [PyData.depth]; omega) hb, ?_⟩
  simp only [PyData.depth, PyData.shown, PyData.shownKv_eq]
  exact ReprK.dict h1 h2 h3 hs hna (ReprEntriesK.of_two es.toList _ _ (hk1.more_le (fun b hb => List.mem_append_left _ hb) (PyData.depthAll_keys_le kvs)) (hk2.more_le (fun b hb => List.mem_append_right _ hb) (PyData.depthAll_vals_le kvs)))
end
theorem shown_list_le {ps : List PyData} (h : (PyData.list ps).shown.length ≤ sizeLine) : ∀ t ∈ PyData.shownAll ps, t.length ≤ sizeLine := fun t ht => by
  simp only [PyData.shown] at h
  exact Nat.le_trans (listText_mem_le ht) h
theorem shown_tup_le {ps : List PyData} (h : (PyData.tuple ps).shown.length ≤ sizeLine) : ∀ t ∈ PyData.shownAll ps, t.length ≤ sizeLine := fun t ht => by
  simp only [PyData.shown] at h
  exact Nat.le_trans (tupleText_mem_le ht) h
theorem shown_dict_le {kvs : List (PyData × PyData)} (h : (PyData.dict kvs).shown.length ≤ sizeLine) : (∀ t ∈ PyData.shownAll (kvs.map (·.1)), t.length ≤ sizeLine) ∧ ∀ t ∈ PyData.shownAll (kvs.map (·.2)), t.length ≤ sizeLine := by
  simp only [PyData.shown] at h
  refine ⟨fun t ht => ?_, fun t ht => ?_⟩
  · obtain ⟨p, hp, hl⟩ := PyData.shownKv_key_le kvs t ht
    exact Nat.le_trans hl (Nat.le_trans (dictText_mem_le hp) h)
  · obtain ⟨p, hp, hl⟩ := PyData.shownKv_val_le kvs t ht
    exact Nat.le_trans hl (Nat.le_trans (dictText_mem_le hp) h)
theorem kv_cons {p : Key × V} {l : List (Key × V)} {vs : List (Key × Value)} (h : KV (p :: l) vs) : ∃ q r, vs = q :: r ∧ p.1 = q.1 ∧ RelV p.2 q.2 ∧ KV l r := by
  cases h with
  | cons h1 h2 => exact ⟨_, _, rfl, h1.1, h1.2, h2⟩
theorem key_sh {P : Program} {w : World} {h : Heap} {k : Key} {u : Value} (hk : keyIs k u = true) (hs : (kPd k).showable = true) (hz : (kPd k).shown.length ≤ sizeLine) : Sh P w h u (kPd k) := by
  rcases keyIs_shape hk with ⟨i, t, rfl, rfl⟩ | ⟨x, t, rfl, rfl⟩
  · exact ⟨⟨_, .int i t⟩, [], (fun _ h => nomatch h), by simp only [kPd, PyData.shown]; exact .of_is (ReprIs.int t (by simpa [kPd, PyData.showable] using hs)) _ _ _⟩
  · exact ⟨⟨_, .str x t⟩, [], (fun _ h => nomatch h), by simp only [kPd, PyData.shown]; exact .of_is (ReprIs.str x t (by simpa only [kPd, PyData.shown] using hz)) _ _ _⟩
section
variable {X : Cx} {pins : List (Addr × Obj)} {σ : L2.St} {H : Hp} {s : Shared}
mutual
theorem sh_rp (I : Inv X pins σ H s) : ∀ (d : D) (v : V) (u : Value), Rp X.K H v d → d.flr = true → RelV v u → d.pr.showable = true → d.pr.shown.length ≤ sizeLine → Sh X.prog X.w s.heap u d.pr
  | .non, _, _, r, _, ru, _, _ => by
    cases r
    cases ru
    exact ⟨⟨_, .none⟩, [], (fun _ h => nomatch h), by simp only [D.pr, PyData.shown]; exact .of_is ReprIs.none _ _ _⟩
  | .bl b, _, _, r, _, ru, _, _ => by
    cases r
    cases ru
    exact ⟨⟨_, .bool b⟩, [], (fun _ h => nomatch h), by simp only [D.pr, PyData.shown]; exact .of_is (ReprIs.bool b) _ _ _⟩
  | .int i, _, _, r, _, ru, hs, _ => by
    cases r
    obtain ⟨t, rfl⟩ := ru
    exact ⟨⟨_, .int i t⟩, [], (fun _ h => nomatch h), by simp only [D.pr, PyData.shown]; exact .of_is (ReprIs.int t (by simpa [D.pr, PyData.showable] using hs)) _ _ _⟩
  | .str x, _, _, r, _, ru, _, hz => by
    cases r
    obtain ⟨t, rfl⟩ := ru
    exact ⟨⟨_, .str x t⟩, [], (fun _ h => nomatch h), by simp only [D.pr, PyData.shown]; exact .of_is (ReprIs.str x t (by simpa only [D.pr, PyData.shown] using hz)) _ _ _⟩
  | .lst ds, _, u, r, f, ru, hs, hz => by
    cases r with
    | @lst a xs _ h1 h2 =>
      obtain rfl : u = .ref a := ru
      obtain ⟨its, rv, ⟨o, n, ho, hc, hdn, hd⟩, hlen⟩ := I.list (SqL.of h1)
      exact sh_list ho hc hd (sh_rpL I ds xs its h2 f rv (by simpa [D.pr, PyData.showable] using hs) (shown_list_le hz))
  | .tup ds, _, u, r, f, ru, hs, hz => by
    cases r with
    | @tup a xs _ h1 h2 =>
      obtain rfl : u = .ref a := ru
      obtain ⟨_, its, rv, o, ho, hc, n, hd⟩ : xs.length ≤ sizeLine ∧ ∃ its : List Value, Vals xs its ∧ IsTup s.heap a its.toArray := I.hok a _ h1
      exact sh_tuple ho hc hd (sh_rpL I ds xs its h2 f rv (by simpa [D.pr, PyData.showable] using hs) (shown_tup_le hz))
  | .dct ks, _, u, r, f, ru, hs, hz => by
    cases r with
    | @dct a kvs _ h1 h2 h3 =>
      obtain rfl : u = .ref a := ru
      obtain ⟨_, hsm, vs, kv, o, es, ep, ho, hx, hd, _, pr, _⟩ := dk_of I.hok h1
      have hs' := PyData.showableKv_split _ (show PyData.showableKv (D.prK ks) = true by simpa [D.pr, PyData.showable] using hs)
      have hz' := shown_dict_le (kvs := D.prK ks) hz
      have q := sh_rpK I ks kvs vs es.toList h2 h3 f kv pr hs'.1 hs'.2 hz'.1 hz'.2
      exact sh_dict ho hx.1 hd hsm q.1 q.2
  | .ty _, _, _, _, f, _, _, _ => by cases f
  | .cl _, _, _, _, f, _, _, _ => by cases f
  | .kls _, _, _, _, f, _, _, _ => by cases f
  | .scr _, _, _, _, f, _, _, _ => by cases f
  | .ins _ _, _, _, _, f, _, _, _ => by cases f
  | .exc _ _, _, _, _, f, _, _, _ => by cases f
theorem sh_rpL (I : Inv X pins σ H s) : ∀ (ds : List D) (vs : List V) (us : List Value), RpL X.K H vs ds → D.flrL ds = true → Vals vs us → PyData.showableAll (D.prL ds) = true → (∀ t ∈ PyData.shownAll (D.prL ds), t.length ≤ sizeLine) → ShL X.prog X.w s.heap us (D.prL ds)
  | [], _, _, r, _, rv, _, _ => by
    cases r
    cases rv
    exact shL_nil
  | d :: ds, _, _, r, f, rv, hs, hz => by
    cases r with
    | cons r1 r2 =>
      cases rv with
      | cons v1 v2 =>
        have f' := Bool.and_eq_true_iff.mp (show (d.flr && D.flrL ds) = true from f)
        have hs' : d.pr.showable = true ∧ PyData.showableAll (D.prL ds) = true := by simpa [D.prL, PyData.showableAll] using hs
        exact shL_cons (sh_rp I d _ _ r1 f'.1 v1 hs'.1 (hz _ (by simp only [D.prL, PyData.shownAll]; exact List.mem_cons_self))) (sh_rpL I ds _ _ r2 f'.2 v2 hs'.2 fun t ht => hz t (by simp only [D.prL, PyData.shownAll]; exact List.mem_cons_of_mem _ ht))
theorem sh_rpK (I : Inv X pins σ H s) : ∀ (ks : List (Key × D)) (kvs : List (Key × V)) (vs : List (Key × Value)) (es : List DictEntry), kvs.map (·.1) = ks.map (·.1) → RpL X.K H (kvs.map (·.2)) (ks.map (·.2)) → D.flrK ks = true → KV kvs vs → Pairs (mixKind X.prog X.w) es vs →
    PyData.showableAll ((D.prK ks).map (·.1)) = true → PyData.showableAll ((D.prK ks).map (·.2)) = true → (∀ t ∈ PyData.shownAll ((D.prK ks).map (·.1)), t.length ≤ sizeLine) → (∀ t ∈ PyData.shownAll ((D.prK ks).map (·.2)), t.length ≤ sizeLine) →
    ShL X.prog X.w s.heap (es.map (·.key)) ((D.prK ks).map (·.1)) ∧ ShL X.prog X.w s.heap (es.map (·.val)) ((D.prK ks).map (·.2))
  | [], kvs, vs, es, hk, r, _, kv, pr, _, _, _, _ => by
    cases kvs with
    | cons _ _ => cases hk
    | nil =>
      cases kv
      cases pr
      exact ⟨shL_nil, shL_nil⟩
  | (k, d) :: ks, kvs, vs, es, hk, r, f, kv, pr, hs1, hs2, hz1, hz2 => by
    cases kvs with
    | nil => cases hk
    | cons p kvs =>
      obtain ⟨k', v⟩ := p
      rw [List.map_cons, List.map_cons, List.cons.injEq] at hk
      obtain ⟨hk1, hk2⟩ := hk
      obtain rfl : k' = k := hk1
      obtain ⟨q, r', rfl, e1, e2, kv'⟩ := kv_cons kv
      obtain ⟨kq, vq⟩ := q
      obtain rfl : k' = kq := e1
      cases pr with
      | @cons e _ es' _ q1 q2 q3 =>
        cases r with
        | cons r1 r2 =>
          have f' := Bool.and_eq_true_iff.mp (show (d.flr && D.flrK ks) = true from f)
          have hs1' : (kPd k').showable = true ∧ PyData.showableAll ((D.prK ks).map (·.1)) = true := by simpa [D.prK, D.prP, PyData.showableAll] using hs1
          have hs2' : d.pr.showable = true ∧ PyData.showableAll ((D.prK ks).map (·.2)) = true := by simpa [D.prK, D.prP, PyData.showableAll] using hs2
          have m1 : ∀ t, t ∈ (kPd k').shown :: PyData.shownAll ((D.prK ks).map (·.1)) → t.length ≤ sizeLine := fun t ht => hz1 t (by simp only [D.prK, D.prP, List.map_cons, PyData.shownAll]; exact ht)
          have m2 : ∀ t, t ∈ d.pr.shown :: PyData.shownAll ((D.prK ks).map (·.2)) → t.length ≤ sizeLine := fun t ht => hz2 t (by simp only [D.prK, D.prP, List.map_cons, PyData.shownAll]; exact ht)
          have q2' : e.val = vq := q2
          obtain ⟨z1, z2⟩ := sh_rpK I ks kvs r' es' hk2 r2 f'.2 kv' q3 hs1'.2 hs2'.2 (fun t ht => m1 t (List.mem_cons_of_mem _ ht)) fun t ht => m2 t (List.mem_cons_of_mem _ ht)
          refine ⟨shL_cons (key_sh q1 hs1'.1 (m1 _ List.mem_cons_self)) z1, ?_⟩
          show ShL X.prog X.w s.heap (e.val :: es'.map (·.val)) (d.pr :: (D.prK ks).map (·.2))
          rw [q2']
          exact shL_cons (sh_rp I d _ _ r1 f'.1 e2 hs2'.1 (m2 _ List.mem_cons_self)) z2
end
end
/-- by the value: a scalar, or an object that reads as the datum -/
theorem call_reprR {X : Cx} (hg : X.A.guards = some []) (hu : X.A.units + 70 < cLine) : CallR X (.builtin "repr") (fun xs H Q => ∃ x d, xs = [x] ∧ Rp X.K H x d ∧ okrr d = true ∧ Q (.str d.pr.shown) H) := by
  intro pins s σ H xs us Q I r h
  obtain ⟨x, d, rfl, hd, ho, q⟩ := h
  obtain ⟨u, rfl, ru⟩ := vals1 r
  unfold okrr at ho
  simp only [Bool.and_eq_true, decide_eq_true_eq] at ho
  obtain ⟨⟨⟨hf, h1⟩, h3⟩, h4⟩ := ho
  have leaf : ∀ {t : Str} {tk tk' : Tok}, t = d.pr.shown → EP X pins σ Q (.str t tk) { s with toks := tk' } := fun {t tk tk'} e => by
    subst e
    exact ⟨.str d.pr.shown, H, I.tok _, ⟨_, rfl⟩, q⟩
  have last : ∀ (h' : Heap) (u : Tok) (tk : Nat), (∀ b o, s.heap.get? b = some o → h'.get? b = some o) → EP X pins σ Q (.str d.pr.shown u) { s with heap := h', toks := tk } := fun h' u tk hk => ⟨.str _, H, I.kept hk, ⟨_, rfl⟩, q⟩
  cases d with
  | non => cases hd; cases ru; exact PySem.P.repr_of_none (leaf (by simp [D.pr, PyData.shown]))
  | bl b => cases hd; cases ru; exact PySem.P.repr_of_bool (leaf (by simp [D.pr, PyData.shown]))
  | int i => cases hd; obtain ⟨t, rfl⟩ := ru; exact PySem.P.repr_of_int (by simpa [D.pr, PyData.showable] using h1) (leaf (by simp [D.pr, PyData.shown]))
  | str y => cases hd; obtain ⟨t, rfl⟩ := ru; exact PySem.P.repr_of_str (leaf (by simp [D.pr, PyData.shown])) (by simpa [D.pr, PyData.shown] using h4)
  | lst ds =>
    cases hd with
    | @lst a xs _ e1 e2 =>
      obtain rfl : u = .ref a := ru
      obtain ⟨its, rv, ⟨o, n, ho, hc, hdn, hd⟩, hlen⟩ := I.list (SqL.of e1)
      obtain ⟨⟨as, r⟩, bs, hb, hk⟩ := sh_rpL I ds xs its e2 hf rv (by simpa [D.pr, PyData.showable] using h1) (shown_list_le h4)
      have hna : a ∉ bs := not_mem_of_deeper (.list ho hc hd r) (by simp only [PyData.depth]; omega) hb
      have hz : (listText (PyData.shownAll (D.prL ds))).length ≤ sizeLine := by simpa only [D.pr, PyData.shown] using h4
      have hde : PyData.depthAll (D.prL ds) + 1 ≤ 64 := by simpa only [D.pr, PyData.depth] using h3
      simp only [D.pr, PyData.shown] at last
      refine call_repr_slot (by omega) ⟨o, ho, hc⟩ PySem.F.slot_list_repr.toG ?_
      cases its with
      | nil =>
        generalize D.prL ds = ps at r last
        cases r
        simp only [PyData.shownAll, listText_nil] at last
        exact call_list_repr_empty ⟨o, ho, hc⟩ ho hd ⟨_, _, rfl, last s.heap _ _ fun _ _ e => e⟩
      | cons x l =>
        exact call_list_reprK ho hc hd hna (by simpa using hk.length_eq) (fun i y e => hk.item i y (by simpa using e)) hg (fun b _ => Clear.nil b) (by show X.A.units + 1 + (PyData.depthAll (D.prL ds) + 1) < cLine; omega) (fun _ _ e => e) (fun h' u tk hk => ⟨_, _, rfl, last h' u tk hk⟩) hz
  | tup ds =>
    cases hd with
    | @tup a xs _ e1 e2 =>
      obtain rfl : u = .ref a := ru
      obtain ⟨_, its, rv, o, ho, hc, n, hd⟩ : xs.length ≤ sizeLine ∧ ∃ its : List Value, Vals xs its ∧ IsTup s.heap a its.toArray := I.hok a _ e1
      obtain ⟨⟨as, r⟩, bs, hb, hk⟩ := sh_rpL I ds xs its e2 hf rv (by simpa [D.pr, PyData.showable] using h1) (shown_tup_le h4)
      have hna : a ∉ bs := not_mem_of_deeper (.tuple ho hc hd r) (by simp only [PyData.depth]; omega) hb
      have hz : (tupleText (PyData.shownAll (D.prL ds))).length ≤ sizeLine := by simpa only [D.pr, PyData.shown] using h4
      have hde : PyData.depthAll (D.prL ds) + 1 ≤ 64 := by simpa only [D.pr, PyData.depth] using h3
      simp only [D.pr, PyData.shown] at last
      refine call_repr_slot (by omega) ⟨o, ho, hc⟩ PySem.F.slot_tuple_repr ?_
      exact call_tuple_reprK ho hc hd hna hk hg (fun b _ => Clear.nil b) (by show X.A.units + 1 + (PyData.depthAll (D.prL ds) + 1) < cLine; omega) (fun _ _ e => e) (fun h' u tk hk => ⟨_, _, rfl, last h' u tk hk⟩) hz
  | dct ks =>
    cases hd with
    | @dct a kvs _ e1 e2 e3 =>
      obtain rfl : u = .ref a := ru
      obtain ⟨_, hsm, vs, kv, o, es, ep, ho, hx, hd, _, pr, _⟩ := dk_of I.hok e1
      have hs' := PyData.showableKv_split _ (show PyData.showableKv (D.prK ks) = true by simpa [D.pr, PyData.showable] using h1)
      have hz' := shown_dict_le (kvs := D.prK ks) h4
      obtain ⟨⟨⟨as, r⟩, b1, hb1, hk1⟩, ⟨as2, r2⟩, b2, hb2, hk2⟩ := sh_rpK I ks kvs vs es.toList e2 e3 hf kv pr hs'.1 hs'.2 hz'.1 hz'.2
      have hb : ReadAtMost s.heap (PyData.depthKv (D.prK ks)) (b1 ++ b2) := (hb1.mono (PyData.depthAll_keys_le _)).append (hb2.mono (PyData.depthAll_vals_le _))
      have hna : a ∉ b1 ++ b2 := not_mem_of_deeper (.dict ho hx.1 hd r r2) (by simp only [PyData.depth]; omega) hb
      have hde : PyData.depthKv (D.prK ks) + 1 ≤ 64 := by simpa only [D.pr, PyData.depth] using h3
      have hz : (dictText (PyData.shownKv (D.prK ks))).length ≤ sizeLine := by simpa only [D.pr, PyData.shown] using h4
      simp only [D.pr, PyData.shown, PyData.shownKv_eq] at last
      refine call_repr_slot (by omega) ⟨o, ho, hx.1⟩ PySem.F.slot_dict_repr ?_
      exact call_dict_reprK ho hx.1 hd hsm hna (ReprEntriesK.of_two es.toList _ _ (hk1.more_le (fun b hb => List.mem_append_left _ hb) (PyData.depthAll_keys_le _)) (hk2.more_le (fun b hb => List.mem_append_right _ hb) (PyData.depthAll_vals_le _)))
        hg (fun b _ => Clear.nil b) (by show X.A.units + 1 + (PyData.depthKv (D.prK ks) + 1) < cLine; omega) (fun _ _ e => e) (fun h' u tk hk => ⟨_, _, rfl, last h' u tk hk⟩) (by rw [← PyData.shownKv_eq]; exact hz)
  | _ => cases hf
/-- what is owned, read as a datum in the heap itself -/
theorem Sat.rpH {C : Fc} {As : List Addr} {G H : Hp} {Γ : Gam} {M : Led} {σ : L2.St} {v : V} {l : Lo} {d : D} (S : Sat C As G H Γ M σ) (r : LRp C.K As G v l) (h : snap M l = some d) : Rp C.K H v d := by
  cases l with
  | tp _ => cases h
  | im e =>
    cases h
    exact Rp.mono S.le r
  | ow k =>
    obtain ⟨a, ha, rfl⟩ := r
    simp only [snap] at h
    split at h
    · rename_i es e
      cases h
      obtain ⟨_, o, h0, xs, rfl, rx⟩ := S.own _ _ _ ha e (by intro z; cases z)
      exact .lst h0 (rx.mono S.le)
    · rename_i ks e
      cases h
      obtain ⟨_, o, h0, kvs, rfl, rk, rx⟩ := S.own _ _ _ ha e (by intro z; cases z)
      exact .dct h0 rk (rx.mono S.le)
    · cases h
def oReprR : RnL := fun ls M K => match ls with
  | [x] => match snap M x with
    | some d => okrr d = true ∧ K (.im (.str d.pr.shown)) M
    | none => False
  | _ => False
theorem reprRL {C : Fc} : CaL C (fun xs H Q => ∃ x d, xs = [x] ∧ Rp C.K H x d ∧ okrr d = true ∧ Q (.str d.pr.shown) H) oReprR := fun {As G H Γ M σ xs ls K Q} S rl t q => by
  unfold oReprR at t
  split at t
  · obtain ⟨v, rfl, r⟩ := rl.one
    split at t
    · rename_i d e
      exact ⟨v, d, rfl, S.rpH r e, t.1, q (.im (.str _)) M _ As G H (Gr.refl S) (Rp.str _) t.2⟩
    · exact t.elim
  · exact t.elim
/-- a datum that repr shows, not deeper than k, its text not longer than m -/
structure Fr (k m : Nat) (d : D) : Prop where
  f : d.flr = true
  s : d.pr.showable = true
  p : d.pr.depth ≤ k
  l : d.pr.shown.length ≤ m
theorem Fr.ok {k m : Nat} {d : D} (h : Fr k m d) (hk : k ≤ 64 := by decide) (hm : m ≤ sizeLine := by decide) : okrr d = true := by
  unfold okrr
  rw [h.f, h.s, decide_eq_true (Nat.le_trans h.p hk), decide_eq_true (Nat.le_trans h.l hm)]
  rfl
theorem Fr.up {k m k' m' : Nat} {d : D} (h : Fr k m d) (hk : k ≤ k' := by decide) (hm : m ≤ m' := by decide) : Fr k' m' d := ⟨h.f, h.s, Nat.le_trans h.p hk, Nat.le_trans h.l hm⟩
theorem Fr.of {k m : Nat} {d : D} (h : d.fit = true ∧ d.dep ≤ k ∧ d.wt ≤ m) : Fr k m d := by
  obtain ⟨h1, h2, h3⟩ := h
  obtain ⟨a1, a2, a3, a4, a5⟩ := fit_ok d h1
  obtain ⟨e1, e2⟩ := pr_pd d a3
  exact ⟨e2, by rw [e1]; exact a2, by rw [e1, a5]; exact h2, by rw [e1]; exact Nat.le_trans a1 h3⟩
theorem fr_int {i : Int} (h : i.natAbs < 10 ^ 40) : Fr 0 41 (.int i) := .of (fit_int h)
theorem fr_non : Fr 0 41 .non := .of fit_non
theorem fr_bl (b : Bool) : Fr 0 41 (.bl b) := .of ⟨rfl, Nat.le_refl _, by cases b <;> decide⟩
theorem fr_dct0 : Fr 1 41 (.dct []) := ⟨rfl, rfl, by decide, by decide⟩
theorem fr_str {x : Str} {m : Nat} (h : PyData.strOk x = true) (hm : (D.str x).wt ≤ m) : Fr 0 m (.str x) := .of ⟨h, Nat.le_refl _, hm⟩
theorem prL_all {k m : Nat} : ∀ {ds : List D}, (∀ d ∈ ds, Fr k m d) → D.flrL ds = true ∧ PyData.showableAll (D.prL ds) = true ∧ PyData.depthAll (D.prL ds) ≤ k ∧ piled (PyData.shownAll (D.prL ds)) ≤ (m + 2) * ds.length
  | [], _ => ⟨rfl, rfl, Nat.zero_le _, Nat.zero_le _⟩
  | d :: ds, h => by
    obtain ⟨h1, h2, h3, h4⟩ := prL_all (ds := ds) fun x hx => h x (List.mem_cons_of_mem _ hx)
    have hd := h d List.mem_cons_self
    refine ⟨?_, ?_, ?_, ?_⟩
    · show (d.flr && D.flrL ds) = true
      rw [hd.f, h1]; rfl
    · show (PyData.showable d.pr && PyData.showableAll (D.prL ds)) = true
      rw [hd.s, h2]; rfl
    · show max (PyData.depth d.pr) (PyData.depthAll (D.prL ds)) ≤ k
      exact Nat.max_le.mpr ⟨hd.p, h3⟩
    · show piled (d.pr.shown :: PyData.shownAll (D.prL ds)) ≤ (m + 2) * (ds.length + 1)
      rw [piled_cons, Nat.mul_add]
      have := hd.l
      omega
theorem fr_lst {ds : List D} {k m : Nat} (n : Nat) (h : ∀ d ∈ ds, Fr k m d) (hl : ds.length ≤ n) : Fr (k + 1) (4 + (m + 2) * n) (.lst ds) := by
  obtain ⟨h1, h2, h3, h4⟩ := prL_all h
  refine ⟨h1, h2, Nat.succ_le_succ h3, ?_⟩
  have := listText_le (PyData.shownAll (D.prL ds))
  have q := Nat.mul_le_mul_left (m + 2) hl
  show (PySem.listText (PyData.shownAll (D.prL ds))).length ≤ _
  omega
theorem fr_tup {ds : List D} {k m : Nat} (n : Nat) (h : ∀ d ∈ ds, Fr k m d) (hl : ds.length ≤ n) : Fr (k + 1) (4 + (m + 2) * n) (.tup ds) := by
  obtain ⟨h1, h2, h3, h4⟩ := prL_all h
  refine ⟨h1, h2, Nat.succ_le_succ h3, ?_⟩
  have := tupleText_le (PyData.shownAll (D.prL ds))
  have q := Nat.mul_le_mul_left (m + 2) hl
  show (PySem.tupleText (PyData.shownAll (D.prL ds))).length ≤ _
  omega
theorem strOk_of (s : String) : PyData.strOk (Str.ofString s) = true := by
  rw [Str.ofString_eq_toList]
  unfold PyData.strOk
  simp only [List.all_toArray, List.all_map]
  rw [List.all_eq_true]
  intro c hc
  refine decide_eq_true ?_
  rcases c.valid with h | h
  · show c.toNat < 1114112
    have : c.toNat < 0xd800 := h
    omega
  · exact h.2
theorem fr_text {i : Int} (h : i.natAbs < 10 ^ 40) : Fr 0 420 (.str (Str.ofString (toString i))) := fr_str (strOk_of _) (by
  show 10 * (Str.ofString (toString i)).length + 2 ≤ 420
  have : (Str.ofString (toString i)).length ≤ 41 := by
    rw [PySem.ofString_length]
    exact int_text_length_le10 (k := 40) (by decide) h
  omega)
end Dl

set_option Elab.async false
set_option maxRecDepth 100000
set_option maxHeartbeats 1000000
namespace Dl
open PySem L2
/-! ### the readings' equations, and a walk that computes with them -/
/-- an int that is no bool -/
def D.isI : D → Bool
  | .int _ => true
  | _ => false
theorem isI_a {i : Int} : D.isI (.int i) = true := rfl
theorem isI_b : D.isI (.non) = false := rfl
theorem isI_c {b : Bool} : D.isI (.bl b) = false := rfl
theorem isI_d {s : Str} : D.isI (.str s) = false := rfl
theorem isI_e {ds : List D} : D.isI (.lst ds) = false := rfl
theorem isI_f {ds : List D} : D.isI (.tup ds) = false := rfl
theorem isI_g {ks : List (Key × D)} : D.isI (.dct ks) = false := rfl
theorem isI_h {n : String} {fs : List (Str × D)} : D.isI (.exc n fs) = false := rfl
theorem isI_i {n : String} {fs : List (Str × D)} : D.isI (.ins n fs) = false := rfl
/-- what simp is not to look into -/
class KW (α : Type) where
  K : α
theorem kw_K {α : Type} {x : α} : (KW.mk x).K = x := rfl
def CallI (sp : DSp) (ls : List Lo) (M : Led) [w : KW ((Lo → Led → Prop) × (Exn → Led → Prop))] : Prop := sp ls M w.K.1 w.K.2
def IfB (b : Bool) [w : KW (Prop × Prop)] : Prop := IfP b w.K.1 w.K.2
def IfC (c : Prop) [w : KW (Prop × Prop)] : Prop := (c → w.K.1) ∧ (¬ c → w.K.2)
theorem ifp_i {b : Bool} {A B : Prop} : IfP b A B = @IfB b ⟨(A, B)⟩ := rfl
theorem ifb_t {A B : Prop} : @IfB true ⟨(A, B)⟩ = A := propext ⟨fun h => h.1 rfl, fun h => ⟨fun _ => h, fun z => nomatch z⟩⟩
theorem ifb_f {A B : Prop} : @IfB false ⟨(A, B)⟩ = B := propext ⟨fun h => h.2 rfl, fun h => ⟨(fun z => nomatch z), fun _ => h⟩⟩
theorem ifb_d {c A B : Prop} [Decidable c] : @IfB (decide c) ⟨(A, B)⟩ = @IfC c ⟨(A, B)⟩ := propext ⟨fun h => ⟨fun z => h.1 (decide_eq_true z), fun z => h.2 (decide_eq_false z)⟩, fun h => ⟨fun z => h.1 (of_decide_eq_true z), fun z => h.2 (of_decide_eq_false z)⟩⟩
theorem ifb_n {b : Bool} {A B : Prop} : @IfB (!b) ⟨(A, B)⟩ = @IfB b ⟨(B, A)⟩ := by cases b <;> simp [ifb_t, ifb_f]
theorem ifc_t {A B : Prop} : @IfC True ⟨(A, B)⟩ = A := propext ⟨fun h => h.1 trivial, fun h => ⟨fun _ => h, fun z => absurd trivial z⟩⟩
theorem ifc_f {A B : Prop} : @IfC False ⟨(A, B)⟩ = B := propext ⟨fun h => h.2 (fun z => z), fun h => ⟨fun z => z.elim, fun _ => h⟩⟩
theorem ifc_n {c A B : Prop} : @IfC (¬ c) ⟨(A, B)⟩ = @IfC c ⟨(B, A)⟩ := propext ⟨fun h => ⟨fun z => h.2 (fun q => q z), fun z => h.1 z⟩, fun h => ⟨fun z => h.2 z, fun z => h.1 (Classical.byContradiction z)⟩⟩
theorem ifc {c A B : Prop} (h : c → A) (k : ¬ c → B) : @IfC c ⟨(A, B)⟩ := ⟨h, k⟩
theorem ifb {b : Bool} {A B : Prop} (h : b = true → A) (k : b = false → B) : @IfB b ⟨(A, B)⟩ := ⟨h, k⟩
/-- both branches of an expression end alike -/
theorem ifb_same {b : Bool} {ta tb : RE} {Γ : Gam} {M : Led} {K : Lo → Led → Prop} (G : Lo → Prop) (ha : b = true → ∀ R : Lo → Led → Prop, (∀ l, G l → R l M) → ta Γ M R) (hb : b = false → ∀ R : Lo → Led → Prop, (∀ l, G l → R l M) → tb Γ M R) (h : ∀ l, G l → K l M) : @IfB b ⟨(ta Γ M K, tb Γ M K)⟩ := ⟨fun e => ha e K h, fun e => hb e K h⟩
theorem ifc_same {c : Prop} {ta tb : RE} {Γ : Gam} {M : Led} {K : Lo → Led → Prop} (G : Lo → Prop) (ha : c → ∀ R : Lo → Led → Prop, (∀ l, G l → R l M) → ta Γ M R) (hb : ¬ c → ∀ R : Lo → Led → Prop, (∀ l, G l → R l M) → tb Γ M R) (h : ∀ l, G l → K l M) : @IfC c ⟨(ta Γ M K, tb Γ M K)⟩ := ⟨fun e => ha e K h, fun e => hb e K h⟩
/-- both branches of a statement end alike -/
theorem ifb_stmt {b : Bool} {t u : RS} {N : Nd} {Γ : Gam} {M : Led} (Iv : Gam → Led → Prop) (ht : b = true → ∀ R : Gam → Led → Prop, (∀ Γ' M', Iv Γ' M' → R Γ' M') → t ⟨R, N.rt, N.bk, N.ct⟩ Γ M) (hu : b = false → ∀ R : Gam → Led → Prop, (∀ Γ' M', Iv Γ' M' → R Γ' M') → u ⟨R, N.rt, N.bk, N.ct⟩ Γ M) (h : ∀ Γ' M', Iv Γ' M' → N.nx Γ' M') : @IfB b ⟨(t N Γ M, u N Γ M)⟩ := ⟨fun e => ht e N.nx h, fun e => hu e N.nx h⟩
theorem ifc_stmt {c : Prop} {t u : RS} {N : Nd} {Γ : Gam} {M : Led} (Iv : Gam → Led → Prop) (ht : c → ∀ R : Gam → Led → Prop, (∀ Γ' M', Iv Γ' M' → R Γ' M') → t ⟨R, N.rt, N.bk, N.ct⟩ Γ M) (hu : ¬ c → ∀ R : Gam → Led → Prop, (∀ Γ' M', Iv Γ' M' → R Γ' M') → u ⟨R, N.rt, N.bk, N.ct⟩ Γ M) (h : ∀ Γ' M', Iv Γ' M' → N.nx Γ' M') : @IfC c ⟨(t N Γ M, u N Γ M)⟩ := ⟨fun e => ht e N.nx h, fun e => hu e N.nx h⟩
/-- a value that may be there -/
def ExI {α : Type} (o : Option α) [w : KW (α → Prop)] : Prop := ∃ d, o = some d ∧ w.K d
theorem exI_s {α : Type} {d : α} {P : α → Prop} : @ExI α (some d) ⟨P⟩ = P d := propext ⟨fun ⟨_, h, k⟩ => by cases h; exact k, fun h => ⟨d, rfl, h⟩⟩
theorem exI_of {α : Type} {o : Option α} {d : α} {P : α → Prop} (e : o = some d) (h : P d) : @ExI α o ⟨P⟩ := ⟨d, e, h⟩
def MinI (o : Option D) [w : KW (Int → Prop)] : Prop := ∃ ns : List Int, o = some (.lst (ns.map D.int)) ∧ 0 < ns.length ∧ ∀ m, m ∈ ns → (∀ y, y ∈ ns → m ≤ y) → w.K m
def MaxI (o : Option D) [w : KW (Int → Prop)] : Prop := ∃ ns : List Int, o = some (.lst (ns.map D.int)) ∧ 0 < ns.length ∧ ∀ m, m ∈ ns → (∀ y, y ∈ ns → y ≤ m) → w.K m
def IntsI (o : Option D) [w : KW (List Int → Prop)] : Prop := ∃ ns : List Int, o = some (.lst (ns.map D.int)) ∧ w.K ns
def BlsI (o : Option D) [w : KW (List Bool → Prop)] : Prop := ∃ bs : List Bool, o = some (.lst (bs.map D.bl)) ∧ w.K bs
theorem blsI_map {α : Type} {p : α → Bool} {l : List α} {P : List Bool → Prop} (h : P (l.map p)) : @BlsI (some (.lst (l.map fun d => D.bl (p d)))) ⟨P⟩ := ⟨l.map p, by simp, h⟩
theorem intsI_map {α : Type} {p : α → Int} {l : List α} {P : List Int → Prop} (h : P (l.map p)) : @IntsI (some (.lst (l.map fun d => D.int (p d)))) ⟨P⟩ := ⟨l.map p, by simp, h⟩
theorem rVar_e  (i : Nat) : ∀ Γ M K, rVar i Γ M K = (match Γ[i]? with
  | some (some l) => K l M
  | _ => False) := fun _ _ _ => rfl
theorem rCon_e  (d : D) : ∀ u0 M K, rCon d u0 M K = (K (.im d) M) := fun _ _ _ => rfl
theorem qOp_e  (ρ : R2L) (ta tb : RE) : ∀ Γ M K, qOp ρ ta tb Γ M K = (ta Γ M fun x M1 => tb Γ M1 fun y M2 => ρ x y M2 K) := fun _ _ _ => rfl
theorem qUn_e  (ρ : R1L) (ta : RE) : ∀ Γ M K, qUn ρ ta Γ M K = (ta Γ M fun x M1 => ρ x M1 K) := fun _ _ _ => rfl
theorem qCa_e  (ρ : RnL) (ta : RA) : ∀ Γ M K, qCa ρ ta Γ M K = (ta Γ M fun xs M1 => ρ xs M1 K) := fun _ _ _ => rfl
theorem rNil_e  : ∀ u0 M K, rNil  u0 M K = (K [] M) := fun _ _ _ => rfl
theorem rCons_e  (ta : RE) (tr : RA) : ∀ Γ M K, rCons ta tr Γ M K = (ta Γ M fun x M1 => tr Γ M1 fun xs M2 => K (x :: xs) M2) := fun _ _ _ => rfl
theorem rTup_e  (t : RA) : ∀ Γ M K, rTup t Γ M K = (t Γ M fun ls M1 => match allIm ls with
  | some ds => ds.length ≤ sizeLine ∧ K (.im (.tup ds)) M1
  | none => ls.length ≤ sizeLine ∧ K (.tp ls) M1) := fun _ _ _ => rfl
theorem rLst_e  (t : RA) : ∀ Γ M K, rLst t Γ M K = (t Γ M fun ls M1 => match allIm ls with
  | some ds => ds.length ≤ sizeLine ∧ K (.im (.lst ds)) M1
  | none => False) := fun _ _ _ => rfl
theorem rLstO_e  (t : RA) : ∀ Γ M K, rLstO t Γ M K = (t Γ M fun ls M1 => match allIm ls with
  | some ds => ds.length ≤ sizeLine ∧ K (.ow M1.length) (M1 ++ [.li ds])
  | none => False) := fun _ _ _ => rfl
theorem rLstM_e  (t : RA) : ∀ Γ M K, rLstM t Γ M K = (t Γ M fun ls M1 => ls.length ≤ sizeLine ∧ K (.ow M1.length) (M1 ++ [.ls ls])) := fun _ _ _ => rfl
theorem rB_e  (t : RE) : ∀ Γ M K, rB t Γ M K = (t Γ M fun l M1 => match l with
  | .im (.bl b) => K b M1
  | _ => False) := fun _ _ _ => rfl
theorem rAndT_e  (t u : RT) : ∀ Γ M K, rAndT t u Γ M K = (t Γ M fun b M1 => IfP b (u Γ M1 K) (K false M1)) := fun _ _ _ => rfl
theorem rOrT_e  (t u : RT) : ∀ Γ M K, rOrT t u Γ M K = (t Γ M fun b M1 => IfP b (K true M1) (u Γ M1 K)) := fun _ _ _ => rfl
theorem rNotT_e  (t : RT) : ∀ Γ M K, rNotT t Γ M K = (t Γ M fun b M1 => K (!b) M1) := fun _ _ _ => rfl
theorem rAndV_e  (ta tb : RE) : ∀ Γ M K, rAndV ta tb Γ M K = (ta Γ M fun l M1 => match l with
  | .im (.bl b) => IfP b (tb Γ M1 K) (K (.im (.bl false)) M1)
  | _ => False) := fun _ _ _ => rfl
theorem rOrV_e  (ta tb : RE) : ∀ Γ M K, rOrV ta tb Γ M K = (ta Γ M fun l M1 => match l with
  | .im (.bl b) => IfP b (K (.im (.bl true)) M1) (tb Γ M1 K)
  | _ => False) := fun _ _ _ => rfl
theorem rNotV_e  (ta : RE) : ∀ Γ M K, rNotV ta Γ M K = (ta Γ M fun l M1 => match l with
  | .im (.bl b) => K (.im (.bl (!b))) M1
  | _ => False) := fun _ _ _ => rfl
theorem rIfE_e  (t : RT) (ta tb : RE) : ∀ Γ M K, rIfE t ta tb Γ M K = (t Γ M fun b M1 => IfP b (ta Γ M1 K) (tb Γ M1 K)) := fun _ _ _ => rfl
theorem rChain_e  (ρ ρ' : R2L) (ta tb tc : RE) : ∀ Γ M K, rChain ρ ρ' ta tb tc Γ M K = (ta Γ M fun x M1 => tb Γ M1 fun y M2 => ρ x y M2 fun z M3 => match z with
  | .im (.bl b) => IfP b (tc Γ M3 fun w M4 => ρ' y w M4 K) (K (.im (.bl false)) M3)
  | _ => False) := fun _ _ _ => rfl
theorem rNext_e  : ∀ N Γ M, rNext  N Γ M = (N.nx Γ M) := fun _ _ _ => rfl
theorem rSeq_e  (t u : RS) : ∀ N Γ M, rSeq t u N Γ M = (t { N with nx := u N } Γ M) := fun _ _ _ => rfl
theorem rBreak_e  : ∀ N Γ M, rBreak  N Γ M = (N.bk Γ M) := fun _ _ _ => rfl
theorem rCont_e  : ∀ N Γ M, rCont  N Γ M = (N.ct Γ M) := fun _ _ _ => rfl
theorem rDrop_e  (te : RE) : ∀ N Γ M, rDrop te N Γ M = (te Γ M fun _ M1 => N.nx Γ M1) := fun _ _ _ => rfl
theorem rRet_e  (te : RE) : ∀ N Γ M, rRet te N Γ M = (te Γ M N.rt) := fun _ _ _ => rfl
theorem rRetN_e  : ∀ N Γ M, rRetN  N Γ M = (N.rt (.im .non) M) := fun _ _ _ => rfl
theorem rIf_e  (c : RT) (t u : RS) : ∀ N Γ M, rIf c t u N Γ M = (c Γ M fun b M1 => IfP b (t N Γ M1) (u N Γ M1)) := fun _ _ _ => rfl
theorem rNever_e  : ∀ u0 u1 u2, rNever  u0 u1 u2 = (False) := fun _ _ _ => rfl
theorem rName_e  (i : Nat) : ∀ l Γ M K, rName i l Γ M K = (K (Γ.set i (some l)) M) := fun _ _ _ _ => rfl
theorem rGNil_e  : ∀ ds Γ M K, rGNil  ds Γ M K = (match ds with
  | [] => K Γ M
  | _ :: _ => False) := fun _ _ _ _ => rfl
theorem rGCons_e  (g : RG) (u : RGs) : ∀ ds Γ M K, rGCons g u ds Γ M K = (match ds with
  | [] => False
  | d :: r => g d Γ M fun Γ1 M1 => u r Γ1 M1 K) := fun _ _ _ _ => rfl
theorem rGTup_e  (n : Nat) (t : RGs) : ∀ l Γ M K, rGTup n t l Γ M K = (match l with
  | .im (.tup ds) => ds.length = n ∧ t (ds.map Lo.im) Γ M K
  | .tp ls => ls.length = n ∧ t ls Γ M K
  | _ => False) := fun _ _ _ _ => rfl
theorem rGLst_e  (n : Nat) (t : RGs) : ∀ l Γ M K, rGLst n t l Γ M K = (match l with
  | .im (.lst ds) => ds.length = n ∧ t (ds.map Lo.im) Γ M K
  | _ => False) := fun _ _ _ _ => rfl
theorem rGSub_e  (to ti : RE) : ∀ l Γ M K, rGSub to ti l Γ M K = (to Γ M fun o M1 => ti Γ M1 fun i M2 => match o, i with
  | .ow k, .im (.int j) => match M2[k]? with
    | some (.li ds) => match l with
      | .im d => @ExI _ (ixN ds.length j) ⟨fun n => K Γ (M2.set k (.li (ds.set n d)))⟩
      | _ => False
    | some (.ls ls) => @ExI _ (ixN ls.length j) ⟨fun n => K Γ (M2.set k (.ls (ls.set n l)))⟩
    | _ => False
  | _, _ => False) := fun _ _ _ _ => rfl
theorem rAsg_e  (te : RE) (g : RG) : ∀ N Γ M, rAsg te g N Γ M = (te Γ M fun l M1 => g l Γ M1 N.nx) := fun _ _ _ => rfl
theorem rPar_e  (i j : Nat) (ta : RA) : ∀ N Γ M, rPar i j ta N Γ M = (ta Γ M fun ls M1 => match ls with
  | [x, y] => N.nx ((Γ.set i (some x)).set j (some y)) M1
  | _ => False) := fun _ _ _ => rfl
theorem rAug_e  (i : Nat) (te : RE) (ρ : R2L) : ∀ N Γ M, rAug i te ρ N Γ M = (match Γ[i]? with
  | some (some x) => te Γ M fun y M1 => ρ x y M1 fun z M2 => N.nx (Γ.set i (some z)) M2
  | _ => False) := fun _ _ _ => rfl
theorem rWhile_e  (c : RT) (tb : RS) : ∀ N Γ M, rWhile c tb N Γ M = (∃ Iv : Nat → Gam → Led → Prop, (∃ m, Iv m Γ M) ∧ ∀ m Γ' M', Iv m Γ' M' → c Γ' M' fun b M2 => IfP b (tb ⟨fun Γ2 M3 => ∃ m', m' < m ∧ Iv m' Γ2 M3, N.rt, N.nx, fun Γ2 M3 => ∃ m', m' < m ∧ Iv m' Γ2 M3⟩ Γ' M2) (N.nx Γ' M2)) := fun _ _ _ => rfl
theorem rYes_e  : ∀ u0 M K, rYes  u0 M K = (K true M) := fun _ _ _ => rfl
theorem oEqG_e  (f : Bool → Bool) : ∀ x y M K, oEqG f x y M K = (match snap M x, snap M y with
  | some a, some b => eqk a b fun r => K (.im (.bl (f r))) M
  | _, _ => False) := fun _ _ _ _ => rfl
theorem oI_e  (C : Int → Int → Prop) (g : Int → Int → D) : ∀ x y M K, oI C g x y M K = (match x, y with
  | .im (.int i), .im (.int j) => C i j ∧ K (.im (g i j)) M
  | _, _ => False) := fun _ _ _ _ => rfl
theorem oI0_e  (g : Int → Int → D) : ∀ x y M K, oI0 g x y M K = (match x, y with
  | .im (.int i), .im (.int j) => K (.im (g i j)) M
  | _, _ => False) := fun _ _ _ _ => rfl
theorem oNeg_e  : ∀ x M K, oNeg  x M K = (match x with
  | .im (.int i) => K (.im (.int (-i))) M
  | _ => False) := fun _ _ _ => rfl
theorem oAdd_e  (out : Hand) : ∀ x y M K, oAdd out x y M K = (match x, y with
  | .im (.int i), .im (.int j) => K (.im (.int (i + j))) M
  | .im (.str a), .im (.str b) => a.length + b.length ≤ sizeLine ∧ K (.im (.str (a ++ b))) M
  | .im (.tup a), .im (.tup b) => a.length + b.length ≤ sizeLine ∧ K (.im (.tup (a ++ b))) M
  | x, y => match snap M x, snap M y with
    | some (.lst a), some (.lst b) => a.length + b.length ≤ sizeLine ∧ out (a ++ b) M K
    | _, _ => False) := fun _ _ _ _ => rfl
theorem oMul_e  (out : Hand) : ∀ x y M K, oMul out x y M K = (match x, y with
  | .im (.int i), .im (.int j) => MulC i j ∧ K (.im (.int (i * j))) M
  | .im (.tup a), .im (.int k) => a ≠ [] ∧ 1 ≤ k ∧ k ≤ 1000 ∧ a.length ≤ 1000 ∧ K (.im (.tup (List.replicate k.toNat a).flatten)) M
  | x, .im (.int k) => match snap M x with
    | some (.lst a) => -9223372036854775808 ≤ k ∧ k < 9223372036854775808 ∧ a.length * k.toNat ≤ sizeLine ∧ out (List.replicate k.toNat a).flatten M K
    | _ => False
  | _, _ => False) := fun _ _ _ _ => rfl
theorem oIsN_e  (f : Bool → Bool) : ∀ x y M K, oIsN f x y M K = (match x, y with
  | .im .non, .im .non => K (.im (.bl (f true))) M
  | .im (.bl _), .im .non => K (.im (.bl (f false))) M
  | .im (.int _), .im .non => K (.im (.bl (f false))) M
  | .im (.str _), .im .non => K (.im (.bl (f false))) M
  | .im (.lst _), .im .non => K (.im (.bl (f false))) M
  | .im (.tup _), .im .non => K (.im (.bl (f false))) M
  | .im (.dct _), .im .non => K (.im (.bl (f false))) M
  | .im (.ins _ _), .im .non => K (.im (.bl (f false))) M
  | .ow _, .im .non => K (.im (.bl (f false))) M
  | .tp _, .im .non => K (.im (.bl (f false))) M
  | .im (.exc _ _), .im .non => K (.im (.bl (f false))) M
  | _, _ => False) := fun _ _ _ _ => rfl
theorem oIn_e  (neg : Bool) : ∀ x y M K, oIn neg x y M K = (match x with
  | .im d => match seqOf M y with
    | some ds => d.flt = true ∧ ds.all D.flt = true ∧ K (.im (.bl (if neg then !inD d ds else inD d ds))) M
    | none => False
  | _ => False) := fun _ _ _ _ => rfl
theorem oInS_e  (neg : Bool) : ∀ x y M K, oInS neg x y M K = (match x, y with
  | .im (.str a), .im (.str b) => K (.im (.bl (if neg then !(!(Builtin.Str.occurrences b a 0 b.length 1).isEmpty) else !(Builtin.Str.occurrences b a 0 b.length 1).isEmpty))) M
  | _, _ => False) := fun _ _ _ _ => rfl
theorem oIx_e  : ∀ x y M K, oIx  x y M K = (match x, y with
  | .im (.str a), .im (.int i) => ∃ c, a.length ≤ sizeLine ∧ atI a.cps.toList i = some c ∧ K (.im (.str ⟨#[c]⟩)) M
  | .im (.tup ds), .im (.int i) => @ExI _ (atI ds i) ⟨fun d => K (.im d) M⟩
  | .im (.lst ds), .im (.int i) => @ExI _ (atI ds i) ⟨fun d => K (.im d) M⟩
  | .im (.scr ns), .im (.int i) => @ExI _ (atI ns i) ⟨fun d => K (.im (.int d)) M⟩
  | .ow k, .im (.int i) => match M[k]? with
    | some (.li ds) => @ExI _ (atI ds i) ⟨fun d => K (.im d) M⟩
    | some (.ls ls) => @ExI _ (atI ls i) ⟨fun l => K l M⟩
    | _ => False
  | .tp ls, .im (.int i) => @ExI _ (atI ls i) ⟨fun l => K l M⟩
  | _, _ => False) := fun _ _ _ _ => rfl
theorem rONone_e  : ∀ u0 M K, rONone  u0 M K = (K none M) := fun _ _ _ => rfl
theorem rOSome_e  (te : RE) : ∀ Γ M K, rOSome te Γ M K = (te Γ M fun l M1 => match l with
  | .im (.int i) => K (some i) M1
  | _ => False) := fun _ _ _ => rfl
theorem rSl_e  (out : Hand) (te : RE) (tl th : RO) : ∀ Γ M K, rSl out te tl th Γ M K = (te Γ M fun x M1 => tl Γ M1 fun lo M2 => th Γ M2 fun hi M3 => match x with
  | .im (.tup ds) => K (.im (.tup (cutD ds lo hi))) M3
  | .im (.scr ns) => out (cutD (ns.map D.int) lo hi) M3 K
  | x => match snap M3 x with
    | some (.lst ds) => out (cutD ds lo hi) M3 K
    | _ => False) := fun _ _ _ => rfl
theorem rCall_e  (sp : DSp) (is : List Nat) (ex : EX) (t : RA) : ∀ Γ M K, rCall sp is ex t Γ M K = (t Γ M fun ls M1 => PickOk is M1 ∧ refLs (· ∈ is) ls ∧
  sp (ls.map (renL (loc is))) (pick is M1) (fun l Mu => K (renL (ren is M1.length) l) (put is Mu M1)) fun x Mu => ex x Γ (put is Mu M1)) := fun _ _ _ => rfl
theorem rCall0_e  (sp : DSp) (ex : EX) (t : RA) : ∀ Γ M K, rCall0 sp ex t Γ M K = (t Γ M fun ls M1 => match allIm ls with
  | some ds => @CallI sp (ds.map Lo.im) [] ⟨(fun l Mu => K (renL (fun j => M1.length + j) l) (M1 ++ Mu.map (renM fun j => M1.length + j)), fun x _ => ex x Γ M1)⟩
  | none => False) := fun _ _ _ => rfl
theorem oLen_e  : ∀ ls M K, oLen  ls M K = (match ls with
  | [.im (.str s)] => s.length ≤ sizeLine ∧ K (.im (.int s.length)) M
  | [.im (.scr ns)] => K (.im (.int ns.length)) M
  | [x] => match lenOf M x with
    | some n => K (.im (.int n)) M
    | none => False
  | _ => False) := fun _ _ _ => rfl
theorem oInt_e  : ∀ ls M K, oInt  ls M K = (match ls with
  | [.im (.int i)] => K (.im (.int i)) M
  | [.im (.bl b)] => K (.im (.int (if b then 1 else 0))) M
  | _ => False) := fun _ _ _ => rfl
theorem oMin_e  : ∀ ls M K, oMin  ls M K = (match ls with
  | [.im (.int i), .im (.int j)] => K (.im (.int (min i j))) M
  | [x] => @MinI (snap M x) ⟨(fun m => K (.im (.int m)) M)⟩
  | _ => False) := fun _ _ _ => rfl
theorem oMax_e  : ∀ ls M K, oMax  ls M K = (match ls with
  | [.im (.int i), .im (.int j)] => K (.im (.int (max i j))) M
  | [x] => @MaxI (snap M x) ⟨(fun m => K (.im (.int m)) M)⟩
  | _ => False) := fun _ _ _ => rfl
theorem oSum_e  : ∀ ls M K, oSum  ls M K = (match ls with
  | [x] => @IntsI (snap M x) ⟨fun ns => K (.im (.int ns.sum)) M⟩
  | _ => False) := fun _ _ _ => rfl
theorem oBls_e  (f : List Bool → Bool) : ∀ ls M K, oBls f ls M K = (match ls with
  | [x] => @BlsI (snap M x) ⟨fun bs => K (.im (.bl (f bs))) M⟩
  | _ => False) := fun _ _ _ => rfl
theorem oList_e  (out : Hand) : ∀ ls M K, oList out ls M K = (match ls with
  | [x] => match seqOf M x with
    | some ds => out ds M K
    | none => False
  | _ => False) := fun _ _ _ => rfl
theorem oTuple_e  : ∀ ls M K, oTuple  ls M K = (match ls with
  | [.im (.tup ds)] => K (.im (.tup ds)) M
  | [x] => match snap M x with
    | some (.lst ds) => K (.im (.tup ds)) M
    | _ => False
  | _ => False) := fun _ _ _ => rfl
theorem oSorted_e  (out : Hand) : ∀ ls M K, oSorted out ls M K = (match ls with
  | [x] => (∃ ns : List Int, snap M x = some (.lst (ns.map D.int)) ∧ ∀ ns' : List Int, ns'.Perm ns → ns'.Pairwise (· ≤ ·) → out (ns'.map D.int) M K) ∨
      (∃ ps : List (Int × Int), snap M x = some (.lst (ps.map pairD)) ∧ ∀ ps' : List (Int × Int), ps'.Perm ps → ps'.Pairwise leP → out (ps'.map pairD) M K)
  | _ => False) := fun _ _ _ => rfl
theorem oAbs_e  : ∀ ls M K, oAbs  ls M K = (match ls with
  | [.im (.int i)] => K (.im (.int (if i < 0 then -i else i))) M
  | _ => False) := fun _ _ _ => rfl
theorem oStr_e  : ∀ ls M K, oStr  ls M K = (match ls with
  | [.im (.int i)] => i.natAbs.log2 < 1920 ∧ K (.im (.str (toString i))) M
  | _ => False) := fun _ _ _ => rfl
theorem oIsi_e  (T : String) : ∀ x M K, oIsi T x M K = (match tyL M x with
  | some n => (kitB n T).isSome = true ∧ K (.im (.bl (isiB n T))) M
  | none => False) := fun _ _ _ => rfl
theorem oRepr_e  : ∀ ls M K, oRepr  ls M K = (match ls with
  | [x] => match snap M x with
    | some d => okr d = true ∧ K (.im (.str d.pd.shown)) M
    | none => False
  | _ => False) := fun _ _ _ => rfl
theorem rIList_e  (te : RE) : ∀ Γ M K, rIList te Γ M K = (te Γ M fun l M1 => match l with
  | .im (.lst ds) => K ds M1
  | _ => False) := fun _ _ _ => rfl
theorem rITup_e  (te : RE) : ∀ Γ M K, rITup te Γ M K = (te Γ M fun l M1 => match l with
  | .im (.tup ds) => K ds M1
  | _ => False) := fun _ _ _ => rfl
theorem rIRan1_e  (t : RA) : ∀ Γ M K, rIRan1 t Γ M K = (t Γ M fun ls M1 => match ls with
  | [.im (.int j)] => -4611686018427387904 ≤ j ∧ j < 4611686018427387904 ∧ K (rangeD 0 j.toNat) M1
  | _ => False) := fun _ _ _ => rfl
theorem rIRan2_e  (t : RA) : ∀ Γ M K, rIRan2 t Γ M K = (t Γ M fun ls M1 => match ls with
  | [.im (.int i), .im (.int j)] => (-4611686018427387904 ≤ i ∧ i < 4611686018427387904 ∧ -4611686018427387904 ≤ j ∧ j < 4611686018427387904) ∧ K (rangeD i (j - i).toNat) M1
  | _ => False) := fun _ _ _ => rfl
theorem rIEnum_e  (t : RA) : ∀ Γ M K, rIEnum t Γ M K = (t Γ M fun ls M1 => match ls with
  | [.im (.lst ds)] => K (enumD ds) M1
  | _ => False) := fun _ _ _ => rfl
theorem rIZip_e  (t : RA) : ∀ Γ M K, rIZip t Γ M K = (t Γ M fun ls M1 => match ls with
  | [.im (.lst ds), .im (.lst es)] => K (zipD ds es) M1
  | _ => False) := fun _ _ _ => rfl
theorem rMe_e  (T : String) (ρ : RmL) (to : RE) (t : RA) : ∀ Γ M K, rMe T ρ to t Γ M K = (to Γ M fun l M1 => isTy T M1 l = true ∧ t Γ M1 fun ls M2 => ρ l ls M2 K) := fun _ _ _ => rfl
theorem rMe0_e  (T : String) (ρ : RmL) (to : RE) : ∀ Γ M K, rMe0 T ρ to Γ M K = (to Γ M fun l M1 => isTy T M1 l = true ∧ ρ l [] M1 K) := fun _ _ _ => rfl
theorem oAppend_e  : ∀ l ls M K, oAppend  l ls M K = (match l with
  | .ow k => match M[k]? with
    | some (.li ds) => match ls with
      | [.im d] => ds.length < sizeLine ∧ K (.im .non) (M.set k (.li (ds ++ [d])))
      | [y] => ds.length < sizeLine ∧ K (.im .non) (M.set k (.ls (ds.map Lo.im ++ [y])))
      | _ => False
    | some (.ls xs) => match ls with
      | [y] => xs.length < sizeLine ∧ K (.im .non) (M.set k (.ls (xs ++ [y])))
      | _ => False
    | _ => False
  | _ => False) := fun _ _ _ _ => rfl
theorem oExtend_e  : ∀ l ls M K, oExtend  l ls M K = (match l with
  | .ow k => match M[k]? with
    | some (.li ds) => match ls with
      | [y] => match snap M y with
        | some (.lst es) => ds.length + es.length ≤ sizeLine ∧ K (.im .non) (M.set k (.li (ds ++ es)))
        | _ => False
      | _ => False
    | _ => False
  | _ => False) := fun _ _ _ _ => rfl
theorem oPopAt_e  : ∀ l ls M K, oPopAt  l ls M K = (match l with
  | .ow k => match M[k]? with
    | some (.li ds) => match ls with
      | [.im (.int i)] => ∃ j d, -9223372036854775808 ≤ i ∧ i < 9223372036854775808 ∧ seqIndex? i ds.length = some j ∧ ds[j]? = some d ∧ K (.im d) (M.set k (.li (ds.eraseIdx j)))
      | _ => False
    | _ => False
  | _ => False) := fun _ _ _ _ => rfl
theorem rLstRg_e  (out : Hand) (te : RE) : ∀ Γ M K, rLstRg out te Γ M K = (te Γ M fun l M1 => match l with
  | .im (.int n) => n ≤ 16777216 ∧ 0 ≤ n ∧ out (rangeD 0 n.toNat) M1 K
  | _ => False) := fun _ _ _ => rfl
theorem rStar_e  (te : RE) (t : RA) : ∀ Γ M K, rStar te t Γ M K = (te Γ M fun x M1 => match seqOf M1 x with
  | some ds => t Γ M1 fun ys M2 => K (ds.map Lo.im ++ ys) M2
  | none => False) := fun _ _ _ => rfl
theorem rIDown_e  (t : RA) : ∀ Γ M K, rIDown t Γ M K = (t Γ M fun ls M1 => match ls with
  | [.im (.int i), .im (.int j), .im (.int c)] => c = -1 ∧ (-4611686018427387904 ≤ i ∧ i < 4611686018427387904 ∧ -4611686018427387904 ≤ j ∧ j < 4611686018427387904) ∧ K (downD i (i - j).toNat) M1
  | _ => False) := fun _ _ _ => rfl
theorem rRev_e  (out : Hand) (te : RE) : ∀ Γ M K, rRev out te Γ M K = (te Γ M fun l M1 => match snap M1 l with
  | some (.lst ds) => out ds.reverse M1 K
  | _ => False) := fun _ _ _ => rfl
theorem oIndex_e  : ∀ l ls M K, oIndex  l ls M K = (match ls with
  | [.im (.int v)] => ∃ (ns : List Int) (j : Nat), snap M l = some (.lst (ns.map D.int)) ∧ ns[j]? = some v ∧ (∀ (m : Nat) (z : Int), m < j → ns[m]? = some z → z ≠ v) ∧ K (.im (.int j)) M
  | _ => False) := fun _ _ _ _ => rfl
theorem rWk_e  (b : Nat) (t : RS) : ∀ N Γ M, rWk b t N Γ M = (∃ Γ' M', Wk b Γ M Γ' M' ∧ t N Γ' M') := fun _ _ _ => rfl
theorem rFz_e  (te : RE) : ∀ Γ M K, rFz te Γ M K = (te Γ M fun l M1 => @ExI _ (frzL M.length M1 8 l) ⟨fun d => closed M.length (M1.take M.length) ∧ K (.im d) (M1.take M.length)⟩) := fun _ _ _ => rfl
theorem rCallX_e  (sp : DSp) (ex : EX) (t : RA) : ∀ Γ M K, rCallX sp ex t Γ M K = (t Γ M fun ls M1 => ∃ is, PickOk is M1 ∧ refLs (· ∈ is) ls ∧
  sp (ls.map (renL (loc is))) (pick is M1) (fun l Mu => ∀ l' M', l' = renL (ren is M1.length) l → M' = put is Mu M1 → K l' M') fun x Mu => ∀ M', M' = put is Mu M1 → ex x Γ M') := fun _ _ _ => rfl
theorem rCallE_e  (sp : DSp) (is : List Nat) (ex : EX) (t : RA) : ∀ Γ M K, rCallE sp is ex t Γ M K = (t Γ M fun ls M1 => PickOk is M1 ∧ refLs (· ∈ is) ls ∧
  sp (ls.map (renL (loc is))) (pick is M1) (fun l Mu => ∀ l' M', l' = renL (ren is M1.length) l → M' = put is Mu M1 → K l' M') fun x Mu => ex x Γ (put is Mu M1)) := fun _ _ _ => rfl
theorem rRaise_e  (x : String) (ex : EX) : ∀ u0 Γ M, rRaise x ex u0 Γ M = (ex ⟨x, none⟩ Γ M) := fun _ _ _ => rfl
def kD (M1 : Led) (K : Lo → Led → Prop) : Lo → Led → Prop := fun l Mu => match l, Mu with
      | .im d, [] => K (.im d) M1
      | l, Mu => ∀ l' M', l' = renL (fun j => M1.length + j) l → M' = M1 ++ Mu.map (renM fun j => M1.length + j) → K l' M'
def kDX (M1 : Led) (K : Exn → Led → Prop) : Exn → Led → Prop := fun x Mu => match Mu with
      | [] => K x M1
      | _ => ∀ M', M' = M1 ++ Mu.map (renM fun j => M1.length + j) → K x M'
def kP (M1 : Led) (K : Lo → Led → Prop) : Lo → Led → Prop := fun l Mu => match l, Mu with
      | .im d, [.li x] => K (.im d) (M1.set 0 (.li x))
      | _, _ => False
def kF (M1 : Led) (K : Lo → Led → Prop) : Lo → Led → Prop := fun l Mu => match l with
      | .im d => d.flt = true ∧ K (.im d) M1
      | _ => False
theorem kD_im {M1 : Led} {K : Lo → Led → Prop} {d : D} : kD M1 K (.im d) [] = K (.im d) M1 := rfl
theorem kD_ow {M1 : Led} {K : Lo → Led → Prop} {k : Nat} {Mu : Led} : kD M1 K (.ow k) Mu = K (.ow (M1.length + k)) (M1 ++ Mu.map (renM fun j => M1.length + j)) := propext ⟨fun h => h _ _ rfl rfl, fun h _ _ e1 e2 => by subst e1 e2; exact h⟩
theorem kD_im2 {M1 : Led} {K : Lo → Led → Prop} {d : D} {m : MO} {Mu : Led} : kD M1 K (.im d) (m :: Mu) = K (.im d) (M1 ++ (m :: Mu).map (renM fun j => M1.length + j)) := propext ⟨fun h => h _ _ rfl rfl, fun h _ _ e1 e2 => by subst e1 e2; exact h⟩
theorem kD_tp {M1 : Led} {K : Lo → Led → Prop} {ls : List Lo} {Mu : Led} : kD M1 K (.tp ls) Mu = K (renL (fun j => M1.length + j) (.tp ls)) (M1 ++ Mu.map (renM fun j => M1.length + j)) := propext ⟨fun h => h _ _ rfl rfl, fun h _ _ e1 e2 => by subst e1 e2; exact h⟩
theorem kDX_e {M1 : Led} {K : Exn → Led → Prop} {x : Exn} : kDX M1 K x [] = K x M1 := rfl
theorem kP_e {M1 : Led} {K : Lo → Led → Prop} {d : D} {x : List D} : kP M1 K (.im d) [.li x] = K (.im d) (M1.set 0 (.li x)) := rfl
theorem kF_e {M1 : Led} {K : Lo → Led → Prop} {d : D} {Mu : Led} : kF M1 K (.im d) Mu = (d.flt = true ∧ K (.im d) M1) := rfl
theorem rCallD_e  (sp : DSp) (ex : EX) (t : RA) : ∀ Γ M K, rCallD sp ex t Γ M K = (t Γ M fun ls M1 => match allIm ls with
  | some ds => @CallI sp (ds.map Lo.im) [] ⟨(kD M1 K, kDX M1 fun x M' => ex x Γ M')⟩
  | none => False) := fun _ _ _ => rfl
theorem rCallP_e  (sp : DSp) (t : RA) : ∀ Γ M K, rCallP sp t Γ M K = (t Γ M fun ls M1 => match ls with
  | .ow 0 :: r => match allIm r, M1[0]? with
    | some ds, some m => flatM m = true ∧ @CallI sp (.ow 0 :: ds.map Lo.im) [m] ⟨(kP M1 K, fun _ _ => False)⟩
    | _, _ => False
  | _ => False) := fun _ _ _ => rfl
theorem rIs_e  (tb : Tb) (ns : List Tn) (te : RE) : ∀ Γ M K, rIs tb ns te Γ M K = (te Γ M fun l M1 => match tyT M1 l with
  | some m => match isAny tb m ns with
    | some b => K (.im (.bl b)) M1
    | none => False
  | none => False) := fun _ _ _ => rfl
theorem rTry_e  (xb : Xb) (i j : Nat) (body : EX → RS) (exO : EX) : ∀ N Γ M, rTry xb i j body exO N Γ M = (body (exTry xb (fun x Γ1 M1 => match Γ1[i]? with
  | some _ => N.nx ((Γ1.set j (some (.im (excOf x)))).set i none) M1
  | none => False) exO) N Γ M) := fun _ _ _ => rfl
theorem rTryF_e  (xb : Xb) (i j : Nat) (f : Str) (body : EX → RS) (exO : EX) : ∀ N Γ M, rTryF xb i j f body exO N Γ M = (body (exTry xb (fun x Γ1 M1 => match Γ1[i]?, x.pl with
  | some _, some fs => @ExI _ (fs.lookup f) ⟨fun v => N.nx ((Γ1.set j (some (.im v))).set i none) M1⟩
  | _, _ => False) exO) N Γ M) := fun _ _ _ => rfl
theorem rXf_e  (xs : List String) (f : Str) (te : RE) : ∀ Γ M K, rXf xs f te Γ M K = (te Γ M fun l M1 => match l with
  | .im (.exc C fs) => C ∈ xs ∧ @ExI _ (fs.lookup f) ⟨fun d => K (.im d) M1⟩
  | _ => False) := fun _ _ _ => rfl
theorem rRaiseI_e  (x : String) (f : Str) (te : RE) (ex : EX) : ∀ u0 Γ M, rRaiseI x f te ex u0 Γ M = (te Γ M fun l M1 => match l with
  | .im d => ex ⟨x, some [(f, d)]⟩ Γ M1
  | _ => False) := fun _ _ _ => rfl
theorem rRaiseN_e  (x : String) (f : Str) (te : RE) (ex : EX) : ∀ u0 Γ M, rRaiseN x f te ex u0 Γ M = (te Γ M fun l M1 => match l with
  | .im (.int i) => i.natAbs.log2 < 1000 ∧ ex ⟨x, some [(f, .int i)]⟩ Γ M1
  | _ => False) := fun _ _ _ => rfl
theorem rIZipS_e  (t : RA) : ∀ Γ M K, rIZipS t Γ M K = (t Γ M fun ls M1 => match ls with
  | [.im (.lst ds), .im (.lst es)] => ds.length = es.length ∧ K (zipD ds es) M1
  | [.im (.tup ds), .im (.tup es)] => ds.length = es.length ∧ K (zipD ds es) M1
  | _ => False) := fun _ _ _ => rfl
theorem oIsB_e (f : Bool → Bool) : ∀ x y M K, oIsB f x y M K = (match x, y with
  | .im (.bl a), .im (.bl b) => K (.im (.bl (f (decide (a = b))))) M
  | _, _ => False) := fun _ _ _ _ => rfl
theorem rCallF_e (sp : DSp) (ex : EX) (t : RA) : ∀ Γ M K, rCallF sp ex t Γ M K = (t Γ M fun ls M1 => match unows M1 ls with
  | some ds => @CallI sp (ds.map Lo.im) [] ⟨(kF M1 K, fun x _ => x.pl = none ∧ ex x Γ M1)⟩
  | none => False) := fun _ _ _ => rfl
theorem ifp_t {A B : Prop} : IfP true A B = A := propext ⟨fun h => h.1 rfl, fun h => ⟨fun _ => h, fun z => nomatch z⟩⟩
theorem ifp_f {A B : Prop} : IfP false A B = B := propext ⟨fun h => h.2 rfl, fun h => ⟨(fun z => nomatch z), fun _ => h⟩⟩
theorem outF_e : ∀ acc M K, outF acc M K = K (.im (.lst acc)) M := fun _ _ _ => rfl
theorem outO_e : ∀ acc M K, outO acc M K = K (.ow M.length) (M ++ [.li acc]) := fun _ _ _ => rfl
theorem all_map {α : Type} (p : α → Bool) (l : List α) : (l.map p).all _root_.id = l.all p := by simp [List.all_map]
theorem any_map {α : Type} (p : α → Bool) (l : List α) : (l.map p).any _root_.id = l.any p := by simp [List.any_map]
theorem bls_map {α : Type} (p : α → Bool) (l : List α) : D.lst (l.map fun d => D.bl (p d)) = .lst ((l.map p).map D.bl) := by simp
theorem zipD_mem {ds es : List D} {d : D} : d ∈ zipD ds es ↔ ∃ q ∈ ds.zip es, d = .tup [q.1, q.2] := by simp [zipD, eq_comm]
theorem zipD_at {ds es : List D} {i : Nat} {d : D} : (zipD ds es)[i]? = some d ↔ ∃ q, (ds.zip es)[i]? = some q ∧ d = .tup [q.1, q.2] := by
  unfold zipD
  rw [List.getElem?_map]
  cases h : (ds.zip es)[i]? with
  | none => simp
  | some q => simp [eq_comm]
theorem zipD_len2 {ds es : List D} : (zipD ds es).length = (ds.zip es).length := by simp [zipD]
theorem all_take_succ {α : Type} {p : α → Bool} {l : List α} {i : Nat} {x : α} (h : l[i]? = some x) : (l.take (i + 1)).all p = ((l.take i).all p && p x) := by
  rw [List.take_add_one, h, List.all_append]
  simp
theorem all_no {α : Type} {p : α → Bool} {l : List α} {i : Nat} {x : α} (h : l[i]? = some x) (hx : p x = false) : l.all p = false := by
  rw [List.all_eq_false]
  exact ⟨x, List.mem_of_getElem? h, by simp [hx]⟩
theorem cutD_two {ds : List D} {a b : Nat} : cutD ds (some (a : Int)) (some (b : Int)) = (ds.drop (min a ds.length)).take (min b ds.length - min a ds.length) := by
  unfold cutD
  rw [HT.sIx_nat, HT.sIx_nat]
theorem cutD_from {ds : List D} {a : Nat} : cutD ds (some (a : Int)) none = ds.drop a := by
  unfold cutD
  rw [HT.sIx_nat, HT.sIx_none]
  by_cases h : a ≤ ds.length
  · rw [Nat.min_eq_left h, List.take_of_length_le (by rw [List.length_drop]; exact Nat.le_refl _)]
  · rw [Nat.min_eq_right (by omega), List.drop_of_length_le (Nat.le_refl _), List.drop_of_length_le (by omega)]
    simp
theorem cutD_tail {ds : List D} : cutD ds (some 1) none = ds.tail := by
  rw [show (1 : Int) = ((1 : Nat) : Int) from rfl, cutD_from, List.drop_one]
def Flats (L : Led) : Prop := ∀ m ∈ L, flatM m = true
theorem flats_nil : Flats [] := fun m h => by cases h
theorem Flats.snoc {L : Led} (h : Flats L) (x : List D) : Flats (L ++ [.li x]) := fun m hm => by
  rcases List.mem_append.mp hm with q | q
  · exact h m q
  · rw [List.mem_singleton.mp q]
    rfl
theorem closed_flat {n : Nat} : ∀ {L : Led}, Flats L → closed n L
  | [], _ => trivial
  | m :: r, h => by
    have h1 := h m List.mem_cons_self
    have h2 := closed_flat (n := n) fun m hm => h m (List.mem_cons_of_mem _ hm)
    cases m <;> first | exact h2 | cases h1
theorem set_concat {L : Led} {x y : MO} : (L ++ [x]).set L.length y = L ++ [y] := by simp
theorem all_zip {α β : Type} {f : α × β → Bool} {xs : List α} {ys : List β} : (xs.zip ys).all f = true ↔ ∀ (i : Nat) (x : α) (y : β), xs[i]? = some x → ys[i]? = some y → f (x, y) = true := by
  rw [List.all_eq_true]
  refine ⟨fun h i x y hx hy => h (x, y) (List.mem_of_getElem? (i := i) ?_), fun h q hq => ?_⟩
  · rw [List.getElem?_zip_eq_some]
    exact ⟨hx, hy⟩
  · obtain ⟨i, hi, e⟩ := List.mem_iff_getElem.mp hq
    have := List.getElem?_eq_getElem hi
    rw [e, List.getElem?_zip_eq_some] at this
    exact h i q.1 q.2 this.1 this.2
theorem isTy_l {M : Led} {l : Lo} : isTy "list" M l = decide (tyL M l = some "list") := by
  cases h : decide (tyL M l = some "list") with
  | true => simp [isTy, of_decide_eq_true h]
  | false =>
    have h' := of_decide_eq_false h
    unfold isTy
    split <;> first | rfl | (rename_i e; exact absurd e h') | simp_all
theorem cutD_le {ds : List D} {a b : Option Int} : (cutD ds a b).length ≤ ds.length := by
  unfold cutD
  rw [List.length_take, List.length_drop]
  omega
theorem mem_app {α : Type} {P : α → Prop} {A B : List α} (h : ∀ x ∈ A, P x) (k : ∀ x ∈ B, P x) : ∀ x ∈ A ++ B, P x := fun x hx => (List.mem_append.mp hx).elim (h x) (k x)
theorem atI_last {α : Type} {xs : List α} (h : xs ≠ []) : ∃ x, x ∈ xs ∧ atI xs (-1) = some x := by
  have hl : 0 < xs.length := List.length_pos_iff.mpr h
  refine ⟨xs[xs.length - 1], List.getElem_mem _, ?_⟩
  unfold atI ixN
  rw [if_neg (by decide), if_pos (by omega)]
  show xs[((-1 : Int) + (xs.length : Int)).toNat]? = _
  rw [show ((-1 : Int) + (xs.length : Int)).toNat = xs.length - 1 from by omega, List.getElem?_eq_getElem (by omega)]
theorem mem_cut {ds : List D} {a b : Option Int} {d : D} (h : d ∈ cutD ds a b) : d ∈ ds := List.mem_of_mem_drop (List.mem_of_mem_take h)
def lowG (n : Nat) : Gam → Prop
  | [] => True
  | some l :: r => refL (· < n) l ∧ lowG n r
  | none :: r => lowG n r
theorem lowG_ok {n : Nat} : ∀ {Γ : Gam}, lowG n Γ → ∀ l, some l ∈ Γ → refL (· < n) l
  | [], _, l, h => by cases h
  | some l :: r, h, l', hl => by
    rcases List.mem_cons.mp hl with e | hl
    · cases e
      exact h.1
    · exact lowG_ok h.2 l' hl
  | none :: r, h, l', hl => by
    rcases List.mem_cons.mp hl with e | hl
    · cases e
    · exact lowG_ok (Γ := r) h l' hl
/-- what is younger than n let go -/
theorem wk_low (n : Nat) {b : Nat} {Γ : Gam} {M : Led} (hb : b ≤ n) (hn : n ≤ M.length) (hc : closed n (M.take n)) (hs : lowG n Γ) : Wk b Γ M Γ (M.take n) := wk_cut n hb hn hc (lowG_ok hs)
theorem allIm_ims : ∀ {ds : List D}, allIm (ds.map Lo.im) = some ds
  | [] => rfl
  | d :: r => by
    show (match allIm (r.map Lo.im) with | some ds => some (d :: ds) | none => none) = _
    rw [allIm_ims]
/-- a loop over known items -/
def FrI (ds : List D) (Γ : Gam) (M : Led) [w : KW (RG × RS × Nd)] : Prop := ∃ Iv : Nat → Gam → Led → Prop, Iv 0 Γ M ∧
  (∀ i d Γ' M', ds[i]? = some d → Iv i Γ' M' → w.K.1 (.im d) Γ' M' fun Γ2 M2 => w.K.2.1 ⟨Iv (i + 1), w.K.2.2.rt, w.K.2.2.nx, Iv (i + 1)⟩ Γ2 M2) ∧ ∀ Γ' M', Iv ds.length Γ' M' → w.K.2.2.nx Γ' M'
theorem rFor_e (ti : RI) (g : RG) (tb : RS) : ∀ N Γ M, rFor ti g tb N Γ M = (ti Γ M fun ds M1 => @FrI ds Γ M1 ⟨(g, tb, N)⟩) := fun _ _ _ => rfl
abbrev LcW := (List D → Led → (Lo → Led → Prop) → Prop) × RG × RT × RE × (Lo → Led → Prop)
def LcI (ds : List D) (vs : List Nat) (Γ : Gam) (M : Led) [w : KW LcW] : Prop := ∃ Iv : Nat → List D → Led → Prop, Iv 0 [] M ∧
  (∀ i d acc M', ds[i]? = some d → Iv i acc M' → M'.length = M.length ∧ w.K.2.1 (.im d) (wipeG Γ vs) (M' ++ [.li acc]) fun Γ2 M2 => w.K.2.2.1 Γ2 M2 fun b M3 =>
    IfP b (w.K.2.2.2.1 Γ2 M3 fun l M4 => match l with
      | .im x => acc.length < sizeLine ∧ M4 = M4.take M.length ++ [.li acc] ∧ Iv (i + 1) (acc ++ [x]) (M4.take M.length)
      | _ => False) (M3 = M3.take M.length ++ [.li acc] ∧ Iv (i + 1) acc (M3.take M.length))) ∧
  ∀ acc M', Iv ds.length acc M' → M'.length = M.length ∧ closed M.length M' ∧ w.K.1 acc M' w.K.2.2.2.2
theorem rLcB_e (out : List D → Led → (Lo → Led → Prop) → Prop) (ti : RI) (g : RG) (tt : RT) (te : RE) (vs : List Nat) : ∀ Γ M K, rLcB out ti g tt te vs Γ M K = (ti Γ M fun ds M1 => @LcI ds vs Γ M1 ⟨(out, g, tt, te, K)⟩) := fun _ _ _ => rfl
section
variable {out : List D → Led → (Lo → Led → Prop) → Prop} {ds : List D} {g : RG} {tt : RT} {te : RE} {vs : List Nat} {Γ : Gam} {M : Led} {K : Lo → Led → Prop}
theorem take_len {M : Led} {m : MO} : (M ++ [m]).take M.length = M := by simp
/-- [f d for d in ds if p d], nothing changed -/
theorem lc_filter (p : D → Bool) (f : D → D) (hl : ds.length ≤ 1000000) (hc : closed M.length M)
    (h : ∀ d ∈ ds, ∀ acc (R : Lo → Led → Prop) (R2 : Led → Prop), (p d = true → R (.im (f d)) (M ++ [.li acc])) → (p d = false → R2 (M ++ [.li acc])) → g (.im d) (wipeG Γ vs) (M ++ [.li acc]) fun Γ2 M2 => tt Γ2 M2 fun b M3 => IfP b (te Γ2 M3 R) (R2 M3))
    (hK : out ((ds.filter p).map f) M K) : @LcI ds vs Γ M ⟨(out, g, tt, te, K)⟩ := by
  refine ⟨fun i acc M' => M' = M ∧ acc = ((ds.take i).filter p).map f, ⟨rfl, rfl⟩, ?_, ?_⟩
  · rintro i d acc M' hd ⟨rfl, rfl⟩
    have hi := (List.getElem?_eq_some_iff.mp hd).1
    have e1 : ((ds.take (i + 1)).filter p).map f = ((ds.take i).filter p).map f ++ if p d then [f d] else [] := by
      rw [List.take_add_one, hd, List.filter_append, List.map_append]
      congr 1
      show ([d].filter p).map f = _
      cases e : p d <;> simp [e]
    have z : (((ds.take i).filter p).map f).length < sizeLine := by
      rw [List.length_map]
      have := List.length_filter_le p (ds.take i)
      rw [List.length_take] at this
      rw [sizeLine_eq]
      omega
    refine ⟨rfl, h d (List.mem_of_getElem? hd) _ _ _ (fun hp => ⟨z, by rw [take_len], by rw [take_len], ?_⟩) fun hp => ⟨by rw [take_len], by rw [take_len], ?_⟩⟩
    · rw [e1, hp]; rfl
    · rw [e1, hp]; simp
  · rintro acc M' ⟨rfl, rfl⟩
    rw [List.take_length]
    exact ⟨rfl, hc, hK⟩
theorem lc_map (f : D → D) (hl : ds.length ≤ 1000000) (hc : closed M.length M)
    (h : ∀ d ∈ ds, ∀ acc (R : Lo → Led → Prop), R (.im (f d)) (M ++ [.li acc]) → g (.im d) (wipeG Γ vs) (M ++ [.li acc]) fun Γ2 M2 => te Γ2 M2 R)
    (hK : out (ds.map f) M K) : @LcI ds vs Γ M ⟨(out, g, rYes, te, K)⟩ := by
  refine lc_filter (fun _ => true) f hl hc (fun d hd acc R R2 r1 r2 => ?_) (by rw [List.filter_eq_self.mpr (by simp)]; exact hK)
  have := h d hd acc R (r1 rfl)
  show g (.im d) (wipeG Γ vs) (M ++ [.li acc]) fun Γ2 M2 => IfP true (te Γ2 M2 R) (R2 M2)
  simp only [ifp_t]
  exact this
end
theorem oCount_e : ∀ l ls M K, oCount l ls M K = (match ls with
  | [x] => match snap M l, snap M x with
    | some (.lst ds), some d => okd (.lst ds) = true ∧ okd d = true ∧ K (.im (.int ((ds.countP fun z => PyData.eqv z.pd d.pd : Nat) : Int))) M
    | _, _ => False
  | _ => False) := fun _ _ _ _ => rfl
def FindI (ds : List D) (d : D) [w : KW (Nat → Prop)] : Prop := ∃ (j : Nat) (z : D), ds[j]? = some z ∧ PyData.eqv z.pd d.pd = true ∧ (∀ (m : Nat) (z' : D), m < j → ds[m]? = some z' → PyData.eqv z'.pd d.pd = false) ∧ w.K j
theorem oIndexD_e : ∀ l ls M K, oIndexD l ls M K = (match ls with
  | [x] => match snap M l, snap M x with
    | some (.lst ds), some d => okd (.lst ds) = true ∧ okd d = true ∧ @FindI ds d ⟨fun j => K (.im (.int j)) M⟩
    | _, _ => False
  | _ => False) := fun _ _ _ _ => rfl
theorem oReprR_e : ∀ ls M K, oReprR ls M K = (match ls with
  | [x] => match snap M x with
    | some d => okrr d = true ∧ K (.im (.str d.pr.shown)) M
    | none => False
  | _ => False) := fun _ _ _ => rfl
def k1 (k : Nat) (M1 : Led) (K : Lo → Led → Prop) : Lo → Led → Prop := fun l Mu => match l, Mu with
        | .im d, [m'] => flatM m' = true ∧ K (.im d) (M1.set k m')
        | _, _ => False
def k1X (k : Nat) (M1 : Led) (K : Exn → Led → Prop) : Exn → Led → Prop := fun x Mu => match Mu with
        | [m'] => flatM m' = true ∧ K x (M1.set k m')
        | _ => False
theorem k1_e {k : Nat} {M1 : Led} {K : Lo → Led → Prop} {d : D} {m : MO} : k1 k M1 K (.im d) [m] = (flatM m = true ∧ K (.im d) (M1.set k m)) := rfl
theorem k1X_e {k : Nat} {M1 : Led} {K : Exn → Led → Prop} {x : Exn} {m : MO} : k1X k M1 K x [m] = (flatM m = true ∧ K x (M1.set k m)) := rfl
theorem rCall1_e (sp : DSp) (ex : EX) (t : RA) : ∀ Γ M K, rCall1 sp ex t Γ M K = (t Γ M fun ls M1 => match ow1 ls with
  | some k => match M1[k]? with
    | some m => flatM m = true ∧ @CallI sp (ls.map lo0) [m] ⟨(k1 k M1 K, k1X k M1 fun x M' => ex x Γ M')⟩
    | none => False
  | none => False) := fun _ _ _ => rfl
theorem isi_int_int : isiB "int" "int" = true := by decide +kernel
theorem kb_int_int : (kitB "int" "int").isSome = true := by decide +kernel
theorem isi_int_bool : isiB "int" "bool" = false := by decide +kernel
theorem kb_int_bool : (kitB "int" "bool").isSome = true := by decide +kernel
theorem isi_int_list : isiB "int" "list" = false := by decide +kernel
theorem kb_int_list : (kitB "int" "list").isSome = true := by decide +kernel
theorem isi_int_tuple : isiB "int" "tuple" = false := by decide +kernel
theorem kb_int_tuple : (kitB "int" "tuple").isSome = true := by decide +kernel
theorem isi_int_str : isiB "int" "str" = false := by decide +kernel
theorem kb_int_str : (kitB "int" "str").isSome = true := by decide +kernel
theorem isi_int_dict : isiB "int" "dict" = false := by decide +kernel
theorem kb_int_dict : (kitB "int" "dict").isSome = true := by decide +kernel
theorem isi_bool_int : isiB "bool" "int" = true := by decide +kernel
theorem kb_bool_int : (kitB "bool" "int").isSome = true := by decide +kernel
theorem isi_bool_bool : isiB "bool" "bool" = true := by decide +kernel
theorem kb_bool_bool : (kitB "bool" "bool").isSome = true := by decide +kernel
theorem isi_bool_list : isiB "bool" "list" = false := by decide +kernel
theorem kb_bool_list : (kitB "bool" "list").isSome = true := by decide +kernel
theorem isi_bool_tuple : isiB "bool" "tuple" = false := by decide +kernel
theorem kb_bool_tuple : (kitB "bool" "tuple").isSome = true := by decide +kernel
theorem isi_bool_str : isiB "bool" "str" = false := by decide +kernel
theorem kb_bool_str : (kitB "bool" "str").isSome = true := by decide +kernel
theorem isi_bool_dict : isiB "bool" "dict" = false := by decide +kernel
theorem kb_bool_dict : (kitB "bool" "dict").isSome = true := by decide +kernel
theorem isi_list_int : isiB "list" "int" = false := by decide +kernel
theorem kb_list_int : (kitB "list" "int").isSome = true := by decide +kernel
theorem isi_list_bool : isiB "list" "bool" = false := by decide +kernel
theorem kb_list_bool : (kitB "list" "bool").isSome = true := by decide +kernel
theorem isi_list_list : isiB "list" "list" = true := by decide +kernel
theorem kb_list_list : (kitB "list" "list").isSome = true := by decide +kernel
theorem isi_list_tuple : isiB "list" "tuple" = false := by decide +kernel
theorem kb_list_tuple : (kitB "list" "tuple").isSome = true := by decide +kernel
theorem isi_list_str : isiB "list" "str" = false := by decide +kernel
theorem kb_list_str : (kitB "list" "str").isSome = true := by decide +kernel
theorem isi_list_dict : isiB "list" "dict" = false := by decide +kernel
theorem kb_list_dict : (kitB "list" "dict").isSome = true := by decide +kernel
theorem isi_tuple_int : isiB "tuple" "int" = false := by decide +kernel
theorem kb_tuple_int : (kitB "tuple" "int").isSome = true := by decide +kernel
theorem isi_tuple_bool : isiB "tuple" "bool" = false := by decide +kernel
theorem kb_tuple_bool : (kitB "tuple" "bool").isSome = true := by decide +kernel
theorem isi_tuple_list : isiB "tuple" "list" = false := by decide +kernel
theorem kb_tuple_list : (kitB "tuple" "list").isSome = true := by decide +kernel
theorem isi_tuple_tuple : isiB "tuple" "tuple" = true := by decide +kernel
theorem kb_tuple_tuple : (kitB "tuple" "tuple").isSome = true := by decide +kernel
theorem isi_tuple_str : isiB "tuple" "str" = false := by decide +kernel
theorem kb_tuple_str : (kitB "tuple" "str").isSome = true := by decide +kernel
theorem isi_tuple_dict : isiB "tuple" "dict" = false := by decide +kernel
theorem kb_tuple_dict : (kitB "tuple" "dict").isSome = true := by decide +kernel
theorem isi_str_int : isiB "str" "int" = false := by decide +kernel
theorem kb_str_int : (kitB "str" "int").isSome = true := by decide +kernel
theorem isi_str_bool : isiB "str" "bool" = false := by decide +kernel
theorem kb_str_bool : (kitB "str" "bool").isSome = true := by decide +kernel
theorem isi_str_list : isiB "str" "list" = false := by decide +kernel
theorem kb_str_list : (kitB "str" "list").isSome = true := by decide +kernel
theorem isi_str_tuple : isiB "str" "tuple" = false := by decide +kernel
theorem kb_str_tuple : (kitB "str" "tuple").isSome = true := by decide +kernel
theorem isi_str_str : isiB "str" "str" = true := by decide +kernel
theorem kb_str_str : (kitB "str" "str").isSome = true := by decide +kernel
theorem isi_str_dict : isiB "str" "dict" = false := by decide +kernel
theorem kb_str_dict : (kitB "str" "dict").isSome = true := by decide +kernel
theorem isi_dict_int : isiB "dict" "int" = false := by decide +kernel
theorem kb_dict_int : (kitB "dict" "int").isSome = true := by decide +kernel
theorem isi_dict_bool : isiB "dict" "bool" = false := by decide +kernel
theorem kb_dict_bool : (kitB "dict" "bool").isSome = true := by decide +kernel
theorem isi_dict_list : isiB "dict" "list" = false := by decide +kernel
theorem kb_dict_list : (kitB "dict" "list").isSome = true := by decide +kernel
theorem isi_dict_tuple : isiB "dict" "tuple" = false := by decide +kernel
theorem kb_dict_tuple : (kitB "dict" "tuple").isSome = true := by decide +kernel
theorem isi_dict_str : isiB "dict" "str" = false := by decide +kernel
theorem kb_dict_str : (kitB "dict" "str").isSome = true := by decide +kernel
theorem isi_dict_dict : isiB "dict" "dict" = true := by decide +kernel
theorem kb_dict_dict : (kitB "dict" "dict").isSome = true := by decide +kernel
theorem isi_NoneType_int : isiB "NoneType" "int" = false := by decide +kernel
theorem kb_NoneType_int : (kitB "NoneType" "int").isSome = true := by decide +kernel
theorem isi_NoneType_bool : isiB "NoneType" "bool" = false := by decide +kernel
theorem kb_NoneType_bool : (kitB "NoneType" "bool").isSome = true := by decide +kernel
theorem isi_NoneType_list : isiB "NoneType" "list" = false := by decide +kernel
theorem kb_NoneType_list : (kitB "NoneType" "list").isSome = true := by decide +kernel
theorem isi_NoneType_tuple : isiB "NoneType" "tuple" = false := by decide +kernel
theorem kb_NoneType_tuple : (kitB "NoneType" "tuple").isSome = true := by decide +kernel
theorem isi_NoneType_str : isiB "NoneType" "str" = false := by decide +kernel
theorem kb_NoneType_str : (kitB "NoneType" "str").isSome = true := by decide +kernel
theorem isi_NoneType_dict : isiB "NoneType" "dict" = false := by decide +kernel
theorem kb_NoneType_dict : (kitB "NoneType" "dict").isSome = true := by decide +kernel
theorem sl_0 : (0 ≤ sizeLine) = True := eq_true (by decide)
theorem st_0 : (0 < sizeLine) = True := eq_true (by decide)
theorem sl_1 : (1 ≤ sizeLine) = True := eq_true (by decide)
theorem st_1 : (1 < sizeLine) = True := eq_true (by decide)
theorem sl_2 : (2 ≤ sizeLine) = True := eq_true (by decide)
theorem st_2 : (2 < sizeLine) = True := eq_true (by decide)
theorem sl_3 : (3 ≤ sizeLine) = True := eq_true (by decide)
theorem st_3 : (3 < sizeLine) = True := eq_true (by decide)
theorem sl_4 : (4 ≤ sizeLine) = True := eq_true (by decide)
theorem st_4 : (4 < sizeLine) = True := eq_true (by decide)
theorem sl_5 : (5 ≤ sizeLine) = True := eq_true (by decide)
theorem st_5 : (5 < sizeLine) = True := eq_true (by decide)
theorem sl_6 : (6 ≤ sizeLine) = True := eq_true (by decide)
theorem st_6 : (6 < sizeLine) = True := eq_true (by decide)
theorem sl_7 : (7 ≤ sizeLine) = True := eq_true (by decide)
theorem st_7 : (7 < sizeLine) = True := eq_true (by decide)
theorem sl_8 : (8 ≤ sizeLine) = True := eq_true (by decide)
theorem st_8 : (8 < sizeLine) = True := eq_true (by decide)
theorem sl_9 : (9 ≤ sizeLine) = True := eq_true (by decide)
theorem st_9 : (9 < sizeLine) = True := eq_true (by decide)
theorem sl_10 : (10 ≤ sizeLine) = True := eq_true (by decide)
theorem st_10 : (10 < sizeLine) = True := eq_true (by decide)
theorem sl_11 : (11 ≤ sizeLine) = True := eq_true (by decide)
theorem st_11 : (11 < sizeLine) = True := eq_true (by decide)
theorem sl_12 : (12 ≤ sizeLine) = True := eq_true (by decide)
theorem st_12 : (12 < sizeLine) = True := eq_true (by decide)
theorem sl_13 : (13 ≤ sizeLine) = True := eq_true (by decide)
theorem st_13 : (13 < sizeLine) = True := eq_true (by decide)
theorem sl_14 : (14 ≤ sizeLine) = True := eq_true (by decide)
theorem st_14 : (14 < sizeLine) = True := eq_true (by decide)
theorem sl_15 : (15 ≤ sizeLine) = True := eq_true (by decide)
theorem st_15 : (15 < sizeLine) = True := eq_true (by decide)
theorem sl_16 : (16 ≤ sizeLine) = True := eq_true (by decide)
theorem st_16 : (16 < sizeLine) = True := eq_true (by decide)
theorem tyl_l {M : Led} {ds : List D} : isTy "list" M (.im (.lst ds)) = true := rfl
theorem tyl_o {M : Led} {k : Nat} {ds : List D} (h : M[k]? = some (.li ds)) : isTy "list" M (.ow k) = true := by simp only [isTy, tyL, h]
theorem tyl_d {M : Led} {ds : List (Str × D)} : True := trivial
theorem gam0_e (N : List Str) (ls : List Lo) : gam0 N ls = ls.map some ++ List.replicate (N.length - ls.length) none := rfl
end Dl

set_option Elab.async false
set_option maxRecDepth 100000
set_option maxHeartbeats 1000000
namespace Dl
open PySem L2
/-! ### comprehensions whose items leave the ledger as it is, by what each item gives -/
def IfE (b : Bool) (A B : Prop) : Prop := IfP b A B
def ImR (l : Lo) (R : D → Prop) : Prop := match l with
  | .im d => R d
  | _ => False
def LcR {α : Type} (xs : List α) (body : α → List D → (D → Prop) → Prop → Prop) (k : List D → Prop) : Prop :=
  xs.length < sizeLine ∧ ∃ rs : List (Option D), rs.length = xs.length ∧ (∀ (i : Nat) (x : α) (r : Option D), xs[i]? = some x → rs[i]? = some r → ∀ (acc : List D) (R : D → Prop) (R2 : Prop), (match r with
    | some d => R d
    | none => R2) → body x acc R R2) ∧ k (rs.filterMap id)
def LcQ {α : Type} (xs : List α) (body : α → List D → (D → Prop) → Prop → Prop) [w : KW (List D → Prop)] : Prop := LcR xs body w.K
def rLcG (out : Hand) (ti : RI) (g : RG) (tt : RT) (te : RE) (vs : List Nat) : RE := fun Γ M K => ti Γ M fun ds M1 => closed M1.length M1 ∧ LcR ds (fun d acc R R2 => g (.im d) (wipeG Γ vs) (M1 ++ [.li acc]) fun Γ2 M2 => tt Γ2 M2 fun b M3 =>
  IfP b (te Γ2 M3 fun l M4 => M4 = M1 ++ [.li acc] ∧ ImR l R) (M3 = M1 ++ [.li acc] ∧ R2)) fun acc => out acc M1 K
section
variable {C : Fc} {X : Cx}
def mnI (t : RI) : RI := fun Γ M K => ∃ K0, t Γ M K0 ∧ ∀ ds M1, K0 ds M1 → K ds M1
def mnE (t : RE) : RE := fun Γ M K => ∃ K0, t Γ M K0 ∧ ∀ l M1, K0 l M1 → K l M1
def mnT (t : RT) : RT := fun Γ M K => ∃ K0, t Γ M K0 ∧ ∀ b M1, K0 b M1 → K b M1
def mnG (t : RG) : RG := fun l Γ M K => ∃ K0, t l Γ M K0 ∧ ∀ Γ1 M1, K0 Γ1 M1 → K Γ1 M1
theorem mnI_ok {tg e : Expr} {t : RI} (h : QI C X tg e t) : QI C X tg e (mnI t) := PI.imp h fun σ H Q ⟨As, G, Γ, M, K, S, ⟨K0, t, k⟩, q⟩ =>
  ⟨As, G, Γ, M, K0, S, t, fun ds M' J As' G' H' g hj hk => q ds M' J As' G' H' g hj (k _ _ hk)⟩
theorem mnE_ok {e : Expr} {t : RE} (h : QE C X e t) : QE C X e (mnE t) := PE.imp h fun σ H Q ⟨As, G, Γ, M, K, S, ⟨K0, t, k⟩, q⟩ =>
  ⟨As, G, Γ, M, K0, S, t, fun l M' v As' G' H' g rv hk => q l M' v As' G' H' g rv (k _ _ hk)⟩
theorem mnG_ok {e : Expr} {is : List Nat} {t : RG} (h : QG C X e is t) : QG C X e is (mnG t) := PG.imp h fun v σ H Q ⟨As, G, Γ, M, l, K, S, r, ⟨K0, t, k⟩, q⟩ =>
  ⟨As, G, Γ, M, l, K0, S, r, t, fun Γ' M' σ' As' G' H' g h1 h2 hk => q Γ' M' σ' As' G' H' g h1 h2 (k _ _ hk)⟩
theorem mnT_ok {es : List Expr} {t : RT} (h : PTs X es (UT C t)) : PTs X es (UT C (mnT t)) := ⟨fun pins s σ H Q I ⟨As, G, Γ, M, K, S, ⟨K0, t, k⟩, q⟩ => h.run pins s σ H Q I
  ⟨As, G, Γ, M, K0, S, t, fun b M' As' G' H' g hk => q b M' As' G' H' g (k _ _ hk)⟩⟩
theorem lcr_b {ds : List D} {out : Hand} {g : RG} {tt : RT} {te : RE} {vs : List Nat} {Γ : Gam} {M1 : Led} {K : Lo → Led → Prop} (hc : closed M1.length M1) (h : LcR ds (fun d acc R R2 => g (.im d) (wipeG Γ vs) (M1 ++ [.li acc]) fun Γ2 M2 => tt Γ2 M2 fun b M3 =>
    IfP b (te Γ2 M3 fun l M4 => M4 = M1 ++ [.li acc] ∧ ImR l R) (M3 = M1 ++ [.li acc] ∧ R2)) fun acc => out acc M1 K) : ∃ Iv : Nat → List D → Led → Prop, Iv 0 [] M1 ∧
  (∀ i d acc M', ds[i]? = some d → Iv i acc M' → M'.length = M1.length ∧ mnG g (.im d) (wipeG Γ vs) (M' ++ [.li acc]) fun Γ2 M2 => mnT tt Γ2 M2 fun b M3 =>
    IfP b (mnE te Γ2 M3 fun l M4 => match l with
      | .im x => acc.length < sizeLine ∧ M4 = M4.take M1.length ++ [.li acc] ∧ Iv (i + 1) (acc ++ [x]) (M4.take M1.length)
      | _ => False) (M3 = M3.take M1.length ++ [.li acc] ∧ Iv (i + 1) acc (M3.take M1.length))) ∧
  ∀ acc M', Iv ds.length acc M' → M'.length = M1.length ∧ closed M1.length M' ∧ out acc M' K := by
  obtain ⟨hs, rs, hl, hb, hk⟩ := h
  refine ⟨fun i acc M' => M' = M1 ∧ i ≤ ds.length ∧ acc = (rs.take i).filterMap id, ⟨rfl, Nat.zero_le _, rfl⟩, ?_, ?_⟩
  · rintro i d acc M' hd ⟨rfl, hi, ea⟩
    have hi' := (List.getElem?_eq_some_iff.mp hd).1
    have hr : rs[i]? = some rs[i] := List.getElem?_eq_getElem (by omega)
    have la : acc.length ≤ i := by
      rw [ea]
      exact Nat.le_trans (List.length_filterMap_le _ _) (by rw [List.length_take]; omega)
    have tk : (M' ++ [MO.li acc]).take M'.length = M' := by simp
    have nx : ∀ x, rs[i] = some x → acc ++ [x] = (rs.take (i + 1)).filterMap id := fun x e => by
      rw [List.take_add_one, hr, List.filterMap_append, ea, e]
      rfl
    have nn : rs[i] = none → acc = (rs.take (i + 1)).filterMap id := fun e => by
      rw [List.take_add_one, hr, List.filterMap_append, ← ea, e]
      exact (List.append_nil _).symm
    refine ⟨rfl, _, hb i d _ hd hr acc (fun x => rs[i] = some x) (rs[i] = none) (by cases rs[i] <;> rfl), fun Γ2 M2 q => ⟨_, q, fun b M3 q2 => ⟨fun e => ⟨_, q2.1 e, fun l M4 q3 => ?_⟩, fun e => ?_⟩⟩⟩
    · obtain ⟨rfl, q4⟩ := q3
      cases l with
      | im x =>
        refine ⟨by omega, by rw [tk], by rw [tk], by omega, nx x q4⟩
      | _ => exact q4.elim
    · obtain ⟨rfl, q4⟩ := q2.2 e
      exact ⟨by rw [tk], by rw [tk], by omega, nn q4⟩
  · rintro acc M' ⟨rfl, _, rfl⟩
    refine ⟨rfl, hc, ?_⟩
    rw [List.take_of_length_le (by omega)]
    exact hk
theorem lcG_B {out : Hand} {ti : RI} {g : RG} {tt : RT} {te : RE} {vs : List Nat} : ∀ σ H Q, UE C (rLcG out ti g tt te vs) σ H Q → UE C (rLcB out (mnI ti) (mnG g) (mnT tt) (mnE te) vs) σ H Q := fun σ H Q ⟨As, G, Γ, M, K, S, t, q⟩ =>
  ⟨As, G, Γ, M, K, S, ⟨_, t, fun ds M1 h => lcr_b h.1 h.2⟩, q⟩
section
variable {tg iter : Expr} {pos : Pos}
theorem q_lcG {out : List D → Led → (Lo → Led → Prop) → Prop} (hout : OutOk out) {elt : Expr} {ifs : List Expr} {scope : Scope} {own : List (Str × Nat)} {is : List Nat} {ti : RI} {g : RG} {tt : RT} {te : RE} (hc : X.calm = true) (hN : X.N.Nodup) (ok : BlkOk X.N X.env.scope scope own) (his : ∀ j ∈ is, j ∈ own.map (·.2)) (hi : QI C X tg iter ti)
    (hg : ∀ (s : Shared) (H : Hp) (Cc : Addr) (cl : List (Str × Addr)) (fp : List Addr), QG C (X.blk s H scope (compEnvC scope cl Cc X.env) fp) tg is g) (ht : ∀ (s : Shared) (H : Hp) (Cc : Addr) (cl : List (Str × Addr)) (fp : List Addr), PTs (X.blk s H scope (compEnvC scope cl Cc X.env) fp) ifs (UT C tt))
    (he : ∀ (s : Shared) (H : Hp) (Cc : Addr) (cl : List (Str × Addr)) (fp : List Addr), QE C (X.blk s H scope (compEnvC scope cl Cc X.env) fp) elt te) (hs : ∀ x, foldedSetIterable iter X.env x = pure x := by intro _; rfl) :
    QE C X (.ListComp elt [⟨tg, iter, ifs, 0⟩] scope pos) (rLcG out ti g tt te (own.map (·.2))) :=
  PE.imp (q_lcB hout hc hN ok his (mnI_ok hi) (fun s H Cc cl fp => mnG_ok (hg s H Cc cl fp)) (fun s H Cc cl fp => mnT_ok (ht s H Cc cl fp)) (fun s H Cc cl fp => mnE_ok (he s H Cc cl fp)) hs) lcG_B
theorem q_setLcG {out : List D → Led → (Lo → Led → Prop) → Prop} (hout : OutOk out) (i : Nat) {y : Str} {py spos : Pos} {elt : Expr} {ifs : List Expr} {scope : Scope} {own : List (Str × Nat)} {is : List Nat} {ti : RI} {g : RG} {tt : RT} {te : RE} (hc : X.calm = true) (hN : X.N.Nodup)
    (hsw : swapsWith (.ListComp elt [⟨tg, iter, ifs, 0⟩] scope pos) (some (.Name y py)) spos.line X.env = pure true) (ok : BlkOk X.N X.env.scope scope own) (his : ∀ j ∈ is, j ∈ own.map (·.2)) (hi : QI C X tg iter ti)
    (hg : ∀ (s : Shared) (H : Hp) (Cc : Addr) (cl : List (Str × Addr)) (fp : List Addr), QG C (X.blk s H scope (compEnvC scope cl Cc X.env) fp) tg is g) (ht : ∀ (s : Shared) (H : Hp) (Cc : Addr) (cl : List (Str × Addr)) (fp : List Addr), PTs (X.blk s H scope (compEnvC scope cl Cc X.env) fp) ifs (UT C tt))
    (he : ∀ (s : Shared) (H : Hp) (Cc : Addr) (cl : List (Str × Addr)) (fp : List Addr), QE C (X.blk s H scope (compEnvC scope cl Cc X.env) fp) elt te) (hy : X.N[i]? = some y := by rfl) (hyl : X.env.scope.names.lookup y = some .local := by rfl) (hs : ∀ x, foldedSetIterable iter X.env x = pure x := by intro _; rfl) :
    QS C X (.Assign [.Name y py] (.ListComp elt [⟨tg, iter, ifs, 0⟩] scope pos) spos) (rAsg (rLcG out ti g tt te (own.map (·.2))) (rName i)) :=
  PS.imp (q_setLcB hout i hc hN hsw ok his (mnI_ok hi) (fun s H Cc cl fp => mnG_ok (hg s H Cc cl fp)) (fun s H Cc cl fp => mnT_ok (ht s H Cc cl fp)) (fun s H Cc cl fp => mnE_ok (he s H Cc cl fp)) hy hyl hs) fun D σ H ⟨As, G, Γ, M, N, S, t, f⟩ =>
    ⟨As, G, Γ, M, N, S, ⟨_, t, fun ds M1 h => lcr_b h.1 h.2⟩, f⟩
end
end
/-! ### what simp does with them -/
theorem rLcG_e (out : Hand) (ti : RI) (g : RG) (tt : RT) (te : RE) (vs : List Nat) : ∀ Γ M K, rLcG out ti g tt te vs Γ M K = ti Γ M fun ds M1 => closed M1.length M1 ∧ @LcQ D ds (fun d acc R R2 => g (.im d) (wipeG Γ vs) (M1 ++ [.li acc]) fun Γ2 M2 => tt Γ2 M2 fun b M3 =>
  IfE b (te Γ2 M3 fun l M4 => M4 = M1 ++ [.li acc] ∧ ImR l R) (M3 = M1 ++ [.li acc] ∧ R2)) ⟨fun acc => out acc M1 K⟩ := fun _ _ _ => rfl
theorem imR_e {d : D} {R : D → Prop} : ImR (.im d) R = R d := rfl
theorem ife_t {A B : Prop} : IfE true A B = A := propext ⟨fun h => h.1 rfl, fun h => ⟨fun _ => h, fun z => nomatch z⟩⟩
theorem ife_f {A B : Prop} : IfE false A B = B := propext ⟨fun h => h.2 rfl, fun h => ⟨(fun z => nomatch z), fun _ => h⟩⟩
theorem lcq_map {α β : Type} (e : α → β) (xs : List α) (body : β → List D → (D → Prop) → Prop → Prop) (k : List D → Prop) : @LcQ β (xs.map e) body ⟨k⟩ = @LcQ α xs (fun x => body (e x)) ⟨k⟩ := propext ⟨fun ⟨h1, rs, h2, h3, h4⟩ => ⟨by rwa [List.length_map] at h1, rs, by rwa [List.length_map] at h2, fun i x r hx hr => h3 i (e x) r (by rw [List.getElem?_map, hx]; rfl) hr, h4⟩,
  fun ⟨h1, rs, h2, h3, h4⟩ => ⟨by rwa [List.length_map], rs, by rwa [List.length_map], fun i x r hx hr => by
    rw [List.getElem?_map] at hx
    obtain ⟨y, hy, rfl⟩ := Option.map_eq_some_iff.mp hx
    exact h3 i y r hy hr, h4⟩⟩
theorem fm_if {α : Type} (p : α → Bool) (F : α → D) (xs : List α) : (xs.map fun x => if p x = true then some (F x) else none).filterMap _root_.id = (xs.filter p).map F := by
  induction xs with
  | nil => rfl
  | cons x r ih => cases hp : p x <;> simp_all
theorem lcq_flt {α : Type} (xs : List α) (p : α → Bool) (F : α → D) (k : List D → Prop) : @LcQ α xs (fun x _ R R2 => IfE (p x) (R (F x)) R2) ⟨k⟩ = (xs.length < sizeLine ∧ k ((xs.filter p).map F)) := propext ⟨fun ⟨h1, rs, h2, h3, h4⟩ => ⟨h1, by
    have e : rs = xs.map fun x => if p x = true then some (F x) else none := by
      refine List.ext_getElem? fun i => ?_
      rw [List.getElem?_map]
      cases hx : xs[i]? with
      | none =>
        rw [List.getElem?_eq_none_iff] at hx
        rw [List.getElem?_eq_none (by omega)]
        rfl
      | some x =>
        have hi := (List.getElem?_eq_some_iff.mp hx).1
        have hr : rs[i]? = some rs[i] := List.getElem?_eq_getElem (by omega)
        have q := h3 i x _ hx hr [] (fun d => rs[i] = some d) (rs[i] = none) (by cases rs[i] <;> rfl)
        rw [hr]
        show some rs[i] = some (if p x = true then some (F x) else none)
        cases hp : p x with
        | true => rw [q.1 hp]; rfl
        | false => rw [q.2 hp]; rfl
    have e2 : rs.filterMap _root_.id = (xs.filter p).map F := by rw [e, fm_if]
    have h4 : k (rs.filterMap _root_.id) := h4
    rwa [e2] at h4⟩,
  fun ⟨h1, h4⟩ => ⟨h1, xs.map fun x => if p x = true then some (F x) else none, by simp, fun i x r hx hr acc R R2 q => by
      rw [List.getElem?_map, hx] at hr
      cases hr
      dsimp only at q
      refine ⟨fun hp => ?_, fun hp => ?_⟩
      · rw [if_pos hp] at q; exact q
      · rw [if_neg (by rw [hp]; decide)] at q; exact q, by
      show k (List.filterMap _root_.id _)
      rw [fm_if]
      exact h4⟩⟩
theorem flt_true {α : Type} (xs : List α) : xs.filter (fun _ => true) = xs := List.filter_eq_self.mpr fun _ _ => rfl
theorem lcq_all {α : Type} (xs : List α) (F : α → D) (k : List D → Prop) : @LcQ α xs (fun x _ R _ => R (F x)) ⟨k⟩ = (xs.length < sizeLine ∧ k (xs.map F)) := by
  have h := lcq_flt xs (fun _ => true) F k
  simp only [ife_t] at h
  rw [h, flt_true]

/-- each item asks something first -/
theorem lcq_fltc {α : Type} (xs : List α) (c : α → Prop) (p : α → Bool) (F : α → D) (k : List D → Prop) : @LcQ α xs (fun x _ R R2 => c x ∧ IfE (p x) (R (F x)) R2) ⟨k⟩ = (xs.length < sizeLine ∧ (∀ x ∈ xs, c x) ∧ k ((xs.filter p).map F)) := propext ⟨fun h => by
    have hc : ∀ x ∈ xs, c x := fun x hx => by
      obtain ⟨h1, rs, h2, h3, h4⟩ := h
      obtain ⟨i, hi⟩ := List.mem_iff_getElem?.mp hx
      have hi' := (List.getElem?_eq_some_iff.mp hi).1
      have hr : rs[i]? = some rs[i] := List.getElem?_eq_getElem (by omega)
      exact (h3 i x _ hi hr [] (fun _ => True) True (by cases rs[i] <;> trivial)).1
    have q : @LcQ α xs (fun x _ R R2 => IfE (p x) (R (F x)) R2) ⟨k⟩ := by
      obtain ⟨h1, rs, h2, h3, h4⟩ := h
      exact ⟨h1, rs, h2, fun i x r hx hr acc R R2 z => (h3 i x r hx hr acc R R2 z).2, h4⟩
    rw [lcq_flt] at q
    exact ⟨q.1, hc, q.2⟩, fun ⟨h1, hc, h4⟩ => by
    have q : @LcQ α xs (fun x _ R R2 => IfE (p x) (R (F x)) R2) ⟨k⟩ := by rw [lcq_flt]; exact ⟨h1, h4⟩
    obtain ⟨h1, rs, h2, h3, h4⟩ := q
    exact ⟨h1, rs, h2, fun i x r hx hr acc R R2 z => ⟨hc x (List.mem_of_getElem? hx), h3 i x r hx hr acc R R2 z⟩, h4⟩⟩
theorem lcq_allc {α : Type} (xs : List α) (c : α → Prop) (F : α → D) (k : List D → Prop) : @LcQ α xs (fun x _ R _ => c x ∧ R (F x)) ⟨k⟩ = (xs.length < sizeLine ∧ (∀ x ∈ xs, c x) ∧ k (xs.map F)) := by
  have h := lcq_fltc xs c (fun _ => true) F k
  simp only [ife_t] at h
  rw [h, flt_true]
/-- by hand: what each item gives -/
theorem lcq_of {α : Type} {xs : List α} {body : α → List D → (D → Prop) → Prop → Prop} {k : List D → Prop} (p : α → Bool) (F : α → D) (hs : xs.length < 1000000) (h : ∀ x ∈ xs, ∀ (acc : List D) (R : D → Prop) (R2 : Prop), (p x = true → R (F x)) → (p x = false → R2) → body x acc R R2) (hk : k ((xs.filter p).map F)) : @LcQ α xs body ⟨k⟩ :=
  ⟨by rw [sizeLine_eq]; omega, xs.map fun x => if p x = true then some (F x) else none, by simp, fun i x r hx hr acc R R2 q => by
    rw [List.getElem?_map, hx] at hr
    cases hr
    dsimp only at q
    refine h x (List.mem_of_getElem? hx) acc R R2 (fun hp => ?_) fun hp => ?_
    · rw [if_pos hp] at q; exact q
    · rw [if_neg (by rw [hp]; decide)] at q; exact q, by
    show k (List.filterMap _root_.id _)
    rw [fm_if]
    exact hk⟩
theorem lcq_of1 {α : Type} {xs : List α} {body : α → List D → (D → Prop) → Prop → Prop} {k : List D → Prop} (F : α → D) (hs : xs.length < 1000000) (h : ∀ x ∈ xs, ∀ (acc : List D) (R : D → Prop) (R2 : Prop), R (F x) → body x acc R R2) (hk : k (xs.map F)) : @LcQ α xs body ⟨k⟩ :=
  lcq_of (fun _ => true) F hs (fun x hx acc R R2 q _ => h x hx acc R R2 (q rfl)) (by rw [flt_true]; exact hk)
/-! ### and, or, if: joined again -/
def Jn (l : Lo) (M : Led) [w : KW (Lo → Led → Prop)] : Prop := w.K l M
def JT (b : Bool) (M : Led) [w : KW (Bool → Led → Prop)] : Prop := w.K b M
theorem jn_e {l : Lo} {M : Led} {K : Lo → Led → Prop} : @Jn l M ⟨K⟩ = K l M := rfl
theorem jt_e {l : Bool} {M : Led} {K : Bool → Led → Prop} : @JT l M ⟨K⟩ = K l M := rfl
def AndE (b : Bool) (A : Prop) (M : Led) [w : KW (Lo → Led → Prop)] : Prop := IfP b A (w.K (.im (.bl false)) M)
def OrE (b : Bool) (A : Prop) (M : Led) [w : KW (Lo → Led → Prop)] : Prop := IfP b (w.K (.im (.bl true)) M) A
def AndT (b : Bool) (A : Prop) (M : Led) [w : KW (Bool → Led → Prop)] : Prop := IfP b A (w.K false M)
def OrT (b : Bool) (A : Prop) (M : Led) [w : KW (Bool → Led → Prop)] : Prop := IfP b (w.K true M) A
def IfV (b : Bool) (A B : Prop) : Prop := IfP b A B
theorem andE_j {b x : Bool} {M : Led} {K : Lo → Led → Prop} : @AndE b (@Jn (.im (.bl x)) M ⟨K⟩) M ⟨K⟩ = K (.im (.bl (b && x))) M := by
  cases b
  · exact propext ⟨fun h => h.2 rfl, fun h => ⟨(fun z => nomatch z), fun _ => h⟩⟩
  · exact propext ⟨fun h => h.1 rfl, fun h => ⟨fun _ => h, fun z => nomatch z⟩⟩
theorem orE_j {b x : Bool} {M : Led} {K : Lo → Led → Prop} : @OrE b (@Jn (.im (.bl x)) M ⟨K⟩) M ⟨K⟩ = K (.im (.bl (b || x))) M := by
  cases b
  · exact propext ⟨fun h => h.2 rfl, fun h => ⟨(fun z => nomatch z), fun _ => h⟩⟩
  · exact propext ⟨fun h => h.1 rfl, fun h => ⟨fun _ => h, fun z => nomatch z⟩⟩
theorem andT_j {b x : Bool} {M : Led} {K : Bool → Led → Prop} : @AndT b (@JT x M ⟨K⟩) M ⟨K⟩ = K (b && x) M := by
  cases b
  · exact propext ⟨fun h => h.2 rfl, fun h => ⟨(fun z => nomatch z), fun _ => h⟩⟩
  · exact propext ⟨fun h => h.1 rfl, fun h => ⟨fun _ => h, fun z => nomatch z⟩⟩
theorem orT_j {b x : Bool} {M : Led} {K : Bool → Led → Prop} : @OrT b (@JT x M ⟨K⟩) M ⟨K⟩ = K (b || x) M := by
  cases b
  · exact propext ⟨fun h => h.2 rfl, fun h => ⟨(fun z => nomatch z), fun _ => h⟩⟩
  · exact propext ⟨fun h => h.1 rfl, fun h => ⟨fun _ => h, fun z => nomatch z⟩⟩
theorem ifV_j {b : Bool} {d e : D} {M : Led} {K : Lo → Led → Prop} : IfV b (@Jn (.im d) M ⟨K⟩) (@Jn (.im e) M ⟨K⟩) = K (.im (bif b then d else e)) M := by
  cases b
  · exact propext ⟨fun h => h.2 rfl, fun h => ⟨(fun z => nomatch z), fun _ => h⟩⟩
  · exact propext ⟨fun h => h.1 rfl, fun h => ⟨fun _ => h, fun z => nomatch z⟩⟩
/-- the condition is known -/
theorem andE_t {l : Lo} {M M' : Led} {K K' : Lo → Led → Prop} : @AndE true (@Jn l M ⟨K⟩) M' ⟨K'⟩ = K l M := propext ⟨fun h => h.1 rfl, fun h => ⟨fun _ => h, fun z => nomatch z⟩⟩
theorem andE_f {A : Prop} {M : Led} {K : Lo → Led → Prop} : @AndE false A M ⟨K⟩ = K (.im (.bl false)) M := propext ⟨fun h => h.2 rfl, fun h => ⟨(fun z => nomatch z), fun _ => h⟩⟩
theorem orE_t {A : Prop} {M : Led} {K : Lo → Led → Prop} : @OrE true A M ⟨K⟩ = K (.im (.bl true)) M := propext ⟨fun h => h.1 rfl, fun h => ⟨fun _ => h, fun z => nomatch z⟩⟩
theorem orE_f {l : Lo} {M M' : Led} {K K' : Lo → Led → Prop} : @OrE false (@Jn l M ⟨K⟩) M' ⟨K'⟩ = K l M := propext ⟨fun h => h.2 rfl, fun h => ⟨(fun z => nomatch z), fun _ => h⟩⟩
theorem andT_t {l : Bool} {M M' : Led} {K K' : Bool → Led → Prop} : @AndT true (@JT l M ⟨K⟩) M' ⟨K'⟩ = K l M := propext ⟨fun h => h.1 rfl, fun h => ⟨fun _ => h, fun z => nomatch z⟩⟩
theorem andT_f {A : Prop} {M : Led} {K : Bool → Led → Prop} : @AndT false A M ⟨K⟩ = K false M := propext ⟨fun h => h.2 rfl, fun h => ⟨(fun z => nomatch z), fun _ => h⟩⟩
theorem orT_t {A : Prop} {M : Led} {K : Bool → Led → Prop} : @OrT true A M ⟨K⟩ = K true M := propext ⟨fun h => h.1 rfl, fun h => ⟨fun _ => h, fun z => nomatch z⟩⟩
theorem orT_f {l : Bool} {M M' : Led} {K K' : Bool → Led → Prop} : @OrT false (@JT l M ⟨K⟩) M' ⟨K'⟩ = K l M := propext ⟨fun h => h.2 rfl, fun h => ⟨(fun z => nomatch z), fun _ => h⟩⟩
theorem ifV_t {l : Lo} {M : Led} {K : Lo → Led → Prop} {B : Prop} : IfV true (@Jn l M ⟨K⟩) B = K l M := propext ⟨fun h => h.1 rfl, fun h => ⟨fun _ => h, fun z => nomatch z⟩⟩
theorem ifV_f {l : Lo} {M : Led} {K : Lo → Led → Prop} {A : Prop} : IfV false A (@Jn l M ⟨K⟩) = K l M := propext ⟨fun h => h.2 rfl, fun h => ⟨(fun z => nomatch z), fun _ => h⟩⟩
/-- by hand -/
theorem andE_of {b : Bool} {A : Prop} {M : Led} {K : Lo → Led → Prop} (h : b = true → A) (k : b = false → K (.im (.bl false)) M) : @AndE b A M ⟨K⟩ := ⟨h, k⟩
theorem orE_of {b : Bool} {A : Prop} {M : Led} {K : Lo → Led → Prop} (h : b = true → K (.im (.bl true)) M) (k : b = false → A) : @OrE b A M ⟨K⟩ := ⟨h, k⟩
theorem andT_of {b : Bool} {A : Prop} {M : Led} {K : Bool → Led → Prop} (h : b = true → A) (k : b = false → K false M) : @AndT b A M ⟨K⟩ := ⟨h, k⟩
theorem orT_of {b : Bool} {A : Prop} {M : Led} {K : Bool → Led → Prop} (h : b = true → K true M) (k : b = false → A) : @OrT b A M ⟨K⟩ := ⟨h, k⟩
theorem ifV_of {b : Bool} {A B : Prop} (h : b = true → A) (k : b = false → B) : IfV b A B := ⟨h, k⟩
theorem ife_of {b : Bool} {A B : Prop} (h : b = true → A) (k : b = false → B) : IfE b A B := ⟨h, k⟩
theorem rAndV_j (ta tb : RE) : ∀ Γ M K, rAndV ta tb Γ M K = (ta Γ M fun l M1 => match l with
  | .im (.bl b) => @AndE b (tb Γ M1 fun l M => @Jn l M ⟨K⟩) M1 ⟨K⟩
  | _ => False) := fun _ _ _ => rfl
theorem rOrV_j (ta tb : RE) : ∀ Γ M K, rOrV ta tb Γ M K = (ta Γ M fun l M1 => match l with
  | .im (.bl b) => @OrE b (tb Γ M1 fun l M => @Jn l M ⟨K⟩) M1 ⟨K⟩
  | _ => False) := fun _ _ _ => rfl
theorem rAndT_j (t u : RT) : ∀ Γ M K, rAndT t u Γ M K = (t Γ M fun b M1 => @AndT b (u Γ M1 fun l M => @JT l M ⟨K⟩) M1 ⟨K⟩) := fun _ _ _ => rfl
theorem rOrT_j (t u : RT) : ∀ Γ M K, rOrT t u Γ M K = (t Γ M fun b M1 => @OrT b (u Γ M1 fun l M => @JT l M ⟨K⟩) M1 ⟨K⟩) := fun _ _ _ => rfl
theorem rIfE_j (t : RT) (ta tb : RE) : ∀ Γ M K, rIfE t ta tb Γ M K = (t Γ M fun b M1 => IfV b (ta Γ M1 fun l M => @Jn l M ⟨K⟩) (tb Γ M1 fun l M => @Jn l M ⟨K⟩)) := fun _ _ _ => rfl
theorem rChain_j (ρ ρ' : R2L) (ta tb tc : RE) : ∀ Γ M K, rChain ρ ρ' ta tb tc Γ M K = (ta Γ M fun x M1 => tb Γ M1 fun y M2 => ρ x y M2 fun z M3 => match z with
  | .im (.bl b) => @AndE b (tc Γ M3 fun w M4 => ρ' y w M4 fun l M => @Jn l M ⟨K⟩) M3 ⟨K⟩
  | _ => False) := fun _ _ _ => rfl
/-! ### lists of bools, of ints, asked -/
theorem blsI_m {α : Type} {p : α → Bool} {xs : List α} {P : List Bool → Prop} : @BlsI (some (.lst (xs.map fun x => D.bl (p x)))) ⟨P⟩ = P (xs.map p) := propext ⟨fun ⟨bs, h, k⟩ => by
    have e : xs.map p = bs := by
      have h' : (xs.map p).map D.bl = bs.map D.bl := by rw [List.map_map]; exact D.lst.inj (Option.some.inj h)
      exact (List.map_inj_right fun a b z => by cases z; rfl).mp h'
    show P (xs.map p)
    rw [e]
    exact k, fun h => ⟨xs.map p, by simp, h⟩⟩
theorem intsI_m {α : Type} {p : α → Int} {xs : List α} {P : List Int → Prop} : @IntsI (some (.lst (xs.map fun x => D.int (p x)))) ⟨P⟩ = P (xs.map p) := propext ⟨fun ⟨bs, h, k⟩ => by
    have e : xs.map p = bs := by
      have h' : (xs.map p).map D.int = bs.map D.int := by rw [List.map_map]; exact D.lst.inj (Option.some.inj h)
      exact (List.map_inj_right fun a b z => by cases z; rfl).mp h'
    show P (xs.map p)
    rw [e]
    exact k, fun h => ⟨xs.map p, by simp, h⟩⟩
theorem intsI_i {xs : List Int} {P : List Int → Prop} : @IntsI (some (.lst (xs.map D.int))) ⟨P⟩ = P xs := by
  have := intsI_m (p := fun x => x) (xs := xs) (P := P)
  simpa using this
theorem blsI_0 {P : List Bool → Prop} : @BlsI (some (.lst [])) ⟨P⟩ = P [] := blsI_m (p := fun x : Nat => true) (xs := [])
theorem intsI_0 {P : List Int → Prop} : @IntsI (some (.lst [])) ⟨P⟩ = P [] := intsI_i (xs := [])
theorem blsI_1 {a : Bool} {P : List Bool → Prop} : @BlsI (some (.lst [.bl a])) ⟨P⟩ = P [a] := blsI_m (p := fun x => x) (xs := [a])
theorem blsI_2 {a b : Bool} {P : List Bool → Prop} : @BlsI (some (.lst [.bl a, .bl b])) ⟨P⟩ = P [a, b] := blsI_m (p := fun x => x) (xs := [a, b])
theorem blsI_3 {a b c : Bool} {P : List Bool → Prop} : @BlsI (some (.lst [.bl a, .bl b, .bl c])) ⟨P⟩ = P [a, b, c] := blsI_m (p := fun x => x) (xs := [a, b, c])
theorem blsI_4 {a b c d : Bool} {P : List Bool → Prop} : @BlsI (some (.lst [.bl a, .bl b, .bl c, .bl d])) ⟨P⟩ = P [a, b, c, d] := blsI_m (p := fun x => x) (xs := [a, b, c, d])
/-! ### sizes, bounds -/
theorem szd_lt {n : Nat} {Q : Prop} (h : n < 1000000) : (n < sizeLine ∧ Q) = Q := propext ⟨fun h => h.2, fun q => ⟨by rw [sizeLine_eq]; omega, q⟩⟩
theorem szd_le {n : Nat} {Q : Prop} (h : n < 1000000) : (n ≤ sizeLine ∧ Q) = Q := propext ⟨fun h => h.2, fun q => ⟨by rw [sizeLine_eq]; omega, q⟩⟩
theorem dr_le {a b : Int} {Q : Prop} (h : a ≤ b) : (a ≤ b ∧ Q) = Q := propext ⟨fun h => h.2, fun q => ⟨h, q⟩⟩
theorem dr_lt {a b : Int} {Q : Prop} (h : a < b) : (a < b ∧ Q) = Q := propext ⟨fun h => h.2, fun q => ⟨h, q⟩⟩
theorem dr_leN {a b : Nat} {Q : Prop} (h : a ≤ b) : (a ≤ b ∧ Q) = Q := propext ⟨fun h => h.2, fun q => ⟨h, q⟩⟩
theorem dr_ltN {a b : Nat} {Q : Prop} (h : a < b) : (a < b ∧ Q) = Q := propext ⟨fun h => h.2, fun q => ⟨h, q⟩⟩
theorem tr_le {a b : Int} (h : a ≤ b) : (a ≤ b) = True := eq_true h
theorem tr_lt {a b : Int} (h : a < b) : (a < b) = True := eq_true h
theorem mulc_l {i j : Int} {Q : Prop} (h1 : -18446744073709551616 < i) (h2 : i < 18446744073709551616) : (MulC i j ∧ Q) = Q := propext ⟨fun h => h.2, fun q => ⟨.inl ⟨h1, h2⟩, q⟩⟩
theorem mulc_r {i j : Int} {Q : Prop} (h1 : -18446744073709551616 < j) (h2 : j < 18446744073709551616) : (MulC i j ∧ Q) = Q := propext ⟨fun h => h.2, fun q => ⟨.inr ⟨h1, h2⟩, q⟩⟩
theorem ifc_y {c A B : Prop} (h : c) : @IfC c ⟨(A, B)⟩ = A := propext ⟨fun z => z.1 h, fun z => ⟨fun _ => z, fun n => absurd h n⟩⟩
theorem ifc_no {c A B : Prop} (h : ¬ c) : @IfC c ⟨(A, B)⟩ = B := propext ⟨fun z => z.2 h, fun z => ⟨fun n => absurd n h, fun _ => z⟩⟩
theorem exI_ix {ds : List D} {i : Int} {P : D → Prop} (h0 : 0 ≤ i) (h : i < ds.length) : @ExI D (atI ds i) ⟨P⟩ = P (ds.getD i.toNat .non) := by
  have e : atI ds i = some (ds.getD i.toNat .non) := by
    rw [atI_nat h0, List.getD_eq_getElem?_getD, List.getElem?_eq_getElem (by omega)]
    rfl
  rw [e]
  exact exI_s
theorem exI_int {ns : List Int} {i : Int} {P : D → Prop} (h0 : 0 ≤ i) (h : i < ns.length) : @ExI D (atI (ns.map D.int) i) ⟨P⟩ = P (.int (ns.getD i.toNat 0)) := by
  have e : atI (ns.map D.int) i = some (.int (ns.getD i.toNat 0)) := by
    rw [atI_nat h0, List.getElem?_map, List.getD_eq_getElem?_getD, List.getElem?_eq_getElem (by omega)]
    rfl
  rw [e]
  exact exI_s
/-- a drawn item of a list of items -/
theorem exI_q {ds : List D} {i : Int} {P : D → Prop} (h0 : 0 ≤ i) (h : i < ds.length) (k : ∀ d ∈ ds, P d) : @ExI D (atI ds i) ⟨P⟩ := by
  have e : atI ds i = some (ds[i.toNat]'(by omega)) := by rw [atI_nat h0, List.getElem?_eq_getElem (by omega)]
  exact exI_of e (k _ (List.getElem_mem _))
theorem enumD_z (ds : List D) : enumD ds = ds.zipIdx.map fun p => .tup [.int (p.2 : Nat), p.1] := rfl
theorem rangeD_z (lo : Int) (n : Nat) : rangeD lo n = (List.range n).map fun (i : Nat) => D.int (lo + i) := rfl
theorem zipD_z (ds es : List D) : zipD ds es = (ds.zip es).map fun p => .tup [p.1, p.2] := rfl
theorem zipIdx_m {α β : Type} (e : α → β) (xs : List α) : (xs.map e).zipIdx = xs.zipIdx.map fun p => (e p.1, p.2) := by rw [List.zipIdx_map]; rfl
theorem zip_m {α β γ δ : Type} (e : α → γ) (f : β → δ) (xs : List α) (ys : List β) : (xs.map e).zip (ys.map f) = (xs.zip ys).map fun p => (e p.1, f p.2) := by rw [List.zip_map]; rfl
theorem lcq_enum (ds : List D) (body : D → List D → (D → Prop) → Prop → Prop) (k : List D → Prop) : @LcQ D (enumD ds) body ⟨k⟩ = @LcQ (D × Nat) ds.zipIdx (fun p => body (.tup [.int (p.2 : Nat), p.1])) ⟨k⟩ := lcq_map _ _ _ _
theorem lcq_rng (lo : Int) (n : Nat) (body : D → List D → (D → Prop) → Prop → Prop) (k : List D → Prop) : @LcQ D (rangeD lo n) body ⟨k⟩ = @LcQ Nat (List.range n) (fun i => body (.int (lo + (i : Nat)))) ⟨k⟩ := lcq_map _ _ _ _
theorem lcq_rng0 (n : Nat) (body : D → List D → (D → Prop) → Prop → Prop) (k : List D → Prop) : @LcQ D (rangeD 0 n) body ⟨k⟩ = @LcQ Nat (List.range n) (fun i => body (.int (i : Nat))) ⟨k⟩ := by
  rw [lcq_rng]
  simp only [Int.zero_add]
theorem lcq_zip (ds es : List D) (body : D → List D → (D → Prop) → Prop → Prop) (k : List D → Prop) : @LcQ D (zipD ds es) body ⟨k⟩ = @LcQ (D × D) (ds.zip es) (fun p => body (.tup [p.1, p.2])) ⟨k⟩ := lcq_map _ _ _ _
theorem dec_and {p q : Prop} [Decidable p] [Decidable q] : (decide p && decide q) = decide (p ∧ q) := (Bool.decide_and ..).symm
theorem dec_or {p q : Prop} [Decidable p] [Decidable q] : (decide p || decide q) = decide (p ∨ q) := (Bool.decide_or ..).symm
theorem dec_not {p : Prop} [Decidable p] : (!decide p) = decide (¬ p) := (decide_not ..).symm
theorem lcq_i1 {a : Int} (body : D → List D → (D → Prop) → Prop → Prop) (k : List D → Prop) : @LcQ D [.int a] body ⟨k⟩ = @LcQ Int [a] (fun x => body (.int x)) ⟨k⟩ := lcq_map D.int [a] _ _
theorem lcq_i2 {a b : Int} (body : D → List D → (D → Prop) → Prop → Prop) (k : List D → Prop) : @LcQ D [.int a, .int b] body ⟨k⟩ = @LcQ Int [a, b] (fun x => body (.int x)) ⟨k⟩ := lcq_map D.int [a, b] _ _
theorem lcq_i3 {a b c : Int} (body : D → List D → (D → Prop) → Prop → Prop) (k : List D → Prop) : @LcQ D [.int a, .int b, .int c] body ⟨k⟩ = @LcQ Int [a, b, c] (fun x => body (.int x)) ⟨k⟩ := lcq_map D.int [a, b, c] _ _
theorem lcq_i4 {a b c d : Int} (body : D → List D → (D → Prop) → Prop → Prop) (k : List D → Prop) : @LcQ D [.int a, .int b, .int c, .int d] body ⟨k⟩ = @LcQ Int [a, b, c, d] (fun x => body (.int x)) ⟨k⟩ := lcq_map D.int [a, b, c, d] _ _
theorem all_tt {α : Type} (xs : List α) : (xs.all fun _ => true) = true := by simp
theorem any_ff {α : Type} (xs : List α) : (xs.any fun _ => false) = false := by simp
/-! ### sorted, as a function -/
def srt (ns : List Int) : List Int := ns.mergeSort fun a b => decide (a ≤ b)
def leB (p q : Int × Int) : Bool := decide (p.1 < q.1) || (decide (p.1 = q.1) && decide (p.2 ≤ q.2))
def srtP (ps : List (Int × Int)) : List (Int × Int) := ps.mergeSort leB
theorem srt_perm (ns : List Int) : (srt ns).Perm ns := List.mergeSort_perm ..
theorem srt_pw (ns : List Int) : (srt ns).Pairwise (· ≤ ·) := by
  have h := List.pairwise_mergeSort (le := fun a b : Int => decide (a ≤ b)) (fun a b c h1 h2 => by simp at *; omega) (fun a b => by simp; omega) ns
  exact h.imp fun h => by simpa using h
theorem leB_iff {p q : Int × Int} : leB p q = true ↔ leP p q := by simp [leB, leP]
theorem srtP_perm (ns : List (Int × Int)) : (srtP ns).Perm ns := List.mergeSort_perm ..
theorem srtP_pw (ns : List (Int × Int)) : (srtP ns).Pairwise leP := by
  have h := List.pairwise_mergeSort (le := leB) (fun a b c h1 h2 => by rw [leB_iff] at *; unfold leP at *; omega) (fun a b => by
    rw [Bool.or_eq_true, leB_iff, leB_iff]
    unfold leP
    omega) ns
  exact h.imp fun h => leB_iff.mp h
theorem srt_uniq {ns ns' : List Int} (h1 : ns'.Perm ns) (h2 : ns'.Pairwise (· ≤ ·)) : ns' = srt ns := List.Perm.eq_of_pairwise (fun a b _ _ h3 h4 => Int.le_antisymm h3 h4) h2 (srt_pw ns) (h1.trans (srt_perm ns).symm)
theorem srtP_uniq {ns ns' : List (Int × Int)} (h1 : ns'.Perm ns) (h2 : ns'.Pairwise leP) : ns' = srtP ns := List.Perm.eq_of_pairwise (fun a b _ _ h3 h4 => by
  unfold leP at h3 h4
  exact Prod.ext (by omega) (by omega)) h2 (srtP_pw ns) (h1.trans (srtP_perm ns).symm)
def SrtI (o : Option D) [w : KW (List D → Prop)] : Prop := (∃ ns : List Int, o = some (.lst (ns.map D.int)) ∧ ∀ ns' : List Int, ns'.Perm ns → ns'.Pairwise (· ≤ ·) → w.K (ns'.map D.int)) ∨
      (∃ ps : List (Int × Int), o = some (.lst (ps.map pairD)) ∧ ∀ ps' : List (Int × Int), ps'.Perm ps → ps'.Pairwise leP → w.K (ps'.map pairD))
theorem oSorted_i (out : Hand) : ∀ ls M K, oSorted out ls M K = (match ls with
  | [x] => @SrtI (snap M x) ⟨fun ds => out ds M K⟩
  | _ => False) := fun _ _ _ => rfl
theorem dint_inj : ∀ {a b : List Int}, a.map D.int = b.map D.int → a = b := fun h => (List.map_inj_right fun a b z => by cases z; rfl).mp h
theorem pairD_inj : ∀ {a b : List (Int × Int)}, a.map pairD = b.map pairD → a = b := fun h => (List.map_inj_right fun a b z => by
  unfold pairD at z
  cases a
  cases b
  cases z
  rfl).mp h
theorem mix_nil {ps : List (Int × Int)} {ns : List Int} (h : ns.map D.int = ps.map pairD) : ns = [] ∧ ps = [] := by
  cases ns <;> cases ps <;> first | exact ⟨rfl, rfl⟩ | (simp [pairD] at h)
theorem srt_nil : srt [] = [] := List.perm_nil.mp (srt_perm [])
theorem srtP_nil : srtP [] = [] := List.perm_nil.mp (srtP_perm [])
theorem srtI_i {ns : List Int} {P : List D → Prop} : @SrtI (some (.lst (ns.map D.int))) ⟨P⟩ = P ((srt ns).map D.int) := propext ⟨fun h => by
  rcases h with ⟨ns2, e, k⟩ | ⟨ps, e, k⟩
  · have e := dint_inj (D.lst.inj (Option.some.inj e))
    subst e
    exact k _ (srt_perm _) (srt_pw _)
  · obtain ⟨rfl, rfl⟩ := mix_nil (D.lst.inj (Option.some.inj e))
    rw [srt_nil]
    exact k [] (List.Perm.refl _) List.Pairwise.nil, fun h => .inl ⟨ns, rfl, fun ns' h1 h2 => by rw [srt_uniq h1 h2]; exact h⟩⟩
theorem srtI_p {ps : List (Int × Int)} {P : List D → Prop} : @SrtI (some (.lst (ps.map pairD))) ⟨P⟩ = P ((srtP ps).map pairD) := propext ⟨fun h => by
  rcases h with ⟨ns2, e, k⟩ | ⟨ps, e, k⟩
  · obtain ⟨rfl, rfl⟩ := mix_nil (D.lst.inj (Option.some.inj e)).symm
    show P ((srtP []).map pairD)
    rw [srtP_nil]
    exact k [] (List.Perm.refl _) List.Pairwise.nil
  · have e := pairD_inj (D.lst.inj (Option.some.inj e))
    subst e
    exact k _ (srtP_perm _) (srtP_pw _), fun h => .inr ⟨ps, rfl, fun ns' h1 h2 => by rw [srtP_uniq h1 h2]; exact h⟩⟩
theorem srtI_0 {P : List D → Prop} : @SrtI (some (.lst [])) ⟨P⟩ = P [] := by
  have h := srtI_i (ns := []) (P := P)
  rw [srt_nil] at h
  exact h
theorem srt_self {ns : List Int} (h : ns.Pairwise (· ≤ ·)) : srt ns = ns := (srt_uniq (List.Perm.refl _) h).symm
theorem okd_nil : okd (.lst []) = true := okd_ints []
theorem eqv_ints0 (ns : List Int) : PyData.eqv (D.lst (ns.map D.int)).pd (D.lst []).pd = decide (ns = []) := eqv_ints ns []
theorem eqv_ints1 (ns : List Int) : PyData.eqv (D.lst []).pd (D.lst (ns.map D.int)).pd = decide ([] = ns) := eqv_ints [] ns
theorem eqv_nil : PyData.eqv (D.lst []).pd (D.lst []).pd = true := (eqv_ints0 []).trans rfl
/-! ### drawn items; slices -/
theorem exI_bd {ds : List D} {i : Int} {P : D → Prop} (lo hi : Int) (h0 : 0 ≤ i) (h : i < ds.length) (hq : ∀ d ∈ ds, ∃ t : Int, d = .int t ∧ lo ≤ t ∧ t ≤ hi) (k : ∀ t : Int, lo ≤ t → t ≤ hi → P (.int t)) : @ExI D (atI ds i) ⟨P⟩ := exI_q h0 h fun d hd => by
  obtain ⟨t, rfl, h1, h2⟩ := hq d hd
  exact k t h1 h2
theorem exI_in {ds : List D} {i : Int} {P : D → Prop} (Q : D → Prop) (h0 : 0 ≤ i) (h : i < ds.length) (hq : ∀ d ∈ ds, Q d) (k : ∀ d, Q d → P d) : @ExI D (atI ds i) ⟨P⟩ := exI_q h0 h fun d hd => k d (hq d hd)
def cutL {α : Type} (xs : List α) (lo hi : Option Int) : List α := (xs.drop (HT.sIx xs.length 0 lo)).take (HT.sIx xs.length xs.length hi - HT.sIx xs.length 0 lo)
theorem cut_m {α : Type} (e : α → D) (xs : List α) (lo hi : Option Int) : cutD (xs.map e) lo hi = (cutL xs lo hi).map e := by
  unfold cutD cutL
  rw [List.length_map, List.map_take, List.map_drop]
theorem cutL_to {α : Type} {ds : List α} {n : Nat} : cutL ds none (some (n : Int)) = ds.take n := by
  unfold cutL
  rw [show HT.sIx ds.length 0 none = 0 from rfl, HT.sIx_nat, List.drop_zero, Nat.sub_zero]
  by_cases h : n ≤ ds.length
  · rw [Nat.min_eq_left h]
  · rw [Nat.min_eq_right (by omega), List.take_of_length_le (Nat.le_refl _), List.take_of_length_le (by omega)]
theorem cutL_from {α : Type} {ds : List α} {a : Nat} : cutL ds (some (a : Int)) none = ds.drop a := by
  unfold cutL
  rw [HT.sIx_nat, HT.sIx_none]
  by_cases h : a ≤ ds.length
  · rw [Nat.min_eq_left h, List.take_of_length_le (by rw [List.length_drop]; exact Nat.le_refl _)]
  · rw [Nat.min_eq_right (by omega), List.drop_of_length_le (Nat.le_refl _), List.drop_of_length_le (by omega)]
    simp
theorem cutL_two {α : Type} {ds : List α} {a b : Nat} : cutL ds (some (a : Int)) (some (b : Int)) = (ds.drop a).take (b - a) := by
  unfold cutL
  rw [HT.sIx_nat, HT.sIx_nat]
  refine List.ext_getElem? fun i => ?_
  simp only [List.getElem?_take, List.getElem?_drop]
  by_cases ha : a ≤ ds.length
  · rw [Nat.min_eq_left ha]
    by_cases hb : b ≤ ds.length
    · rw [Nat.min_eq_left hb]
    · rw [Nat.min_eq_right (by omega)]
      by_cases h1 : i < ds.length - a
      · rw [if_pos h1, if_pos (by omega)]
      · rw [if_neg h1, List.getElem?_eq_none (by omega)]
        simp
  · rw [List.getElem?_eq_none (by omega), List.getElem?_eq_none (by omega)]
    simp
theorem cutL_last {α : Type} {ds : List α} : cutL ds (some (-1)) none = ds.drop (ds.length - 1) := by
  unfold cutL
  rw [HT.sIx_none]
  have e : HT.sIx ds.length 0 (some (-1)) = ds.length - 1 := by
    unfold HT.sIx
    simp
    omega
  rw [e, List.take_of_length_le (by rw [List.length_drop]; exact Nat.le_refl _)]
theorem cutL_le {α : Type} {ds : List α} {a b : Option Int} : (cutL ds a b).length ≤ ds.length := by
  unfold cutL
  rw [List.length_take, List.length_drop]
  omega
/-! ### all owned lists from the b-th on, frozen -/
def frzG (n k : Nat) (Γ : Gam) (M : Led) : Gam × Led := match n with
  | 0 => (Γ, M)
  | n + 1 => match M[k]? with
    | some m => match datM m with
      | some d => frzG n (k + 1) (Γ.map (frG k d)) ((M.map (frM k d)).set k .gone)
      | none => frzG n (k + 1) Γ M
    | none => (Γ, M)
theorem frzG_ok {b : Nat} : ∀ {n k : Nat} {Γ : Gam} {M : Led}, Wk b Γ M (frzG n k Γ M).1 (frzG n k Γ M).2
  | 0, _, _, _ => Wk.refl
  | n + 1, k, Γ, M => by
    unfold frzG
    split
    · rename_i m hm
      split
      · rename_i d hd
        exact Wk.trans (wk_frz k hm hd) frzG_ok
      · exact frzG_ok
    · exact Wk.refl
def rWkF (b : Nat) (t : RS) : RS := fun N Γ M => t N (frzG (M.length - b) b Γ M).1 (frzG (M.length - b) b Γ M).2
theorem rWkF_e (b : Nat) (t : RS) : ∀ N Γ M, rWkF b t N Γ M = t N (frzG (M.length - b) b Γ M).1 (frzG (M.length - b) b Γ M).2 := fun _ _ _ => rfl
theorem frzG_0 {k : Nat} {Γ : Gam} {M : Led} : frzG 0 k Γ M = (Γ, M) := rfl
theorem frzG_s {n k : Nat} {Γ : Gam} {M : Led} : frzG (n + 1) k Γ M = match M[k]? with
    | some m => match datM m with
      | some d => frzG n (k + 1) (Γ.map (frG k d)) ((M.map (frM k d)).set k .gone)
      | none => frzG n (k + 1) Γ M
    | none => (Γ, M) := rfl
theorem q_wkF {C : Fc} {X : Cx} {st : Stmt} {b : Nat} {t : RS} (h1 : C.S.length ≤ b) (h2 : C.Ab.length ≤ b) (h : QS C X st t) : QS C X st (rWkF b t) := PS.imp (q_wk h1 h2 h) fun D σ H ⟨As, G, Γ, M, N, S, t, f⟩ => ⟨As, G, Γ, M, N, S, ⟨_, _, frzG_ok, t⟩, f⟩
/-! ### what repr shows -/
def Ft (k m : Nat) (d : D) : Prop := d.fit = true ∧ d.dep ≤ k ∧ d.wt ≤ m
theorem Ft.okr {k m : Nat} {d : D} (h : Ft k m d) (hk : k ≤ 64 := by decide) (hm : m ≤ sizeLine := by decide) : okr d = true := okr_fit h.1 (Nat.le_trans h.2.1 hk) (Nat.le_trans h.2.2 hm)
theorem Ft.okd {k m : Nat} {d : D} (h : Ft k m d) (hk : k ≤ 64 := by decide) : okd d = true := okd_fit h.1 (Nat.le_trans h.2.1 hk)
theorem Ft.up {k m k' m' : Nat} {d : D} (h : Ft k m d) (hk : k ≤ k' := by decide) (hm : m ≤ m' := by decide) : Ft k' m' d := ⟨h.1, Nat.le_trans h.2.1 hk, Nat.le_trans h.2.2 hm⟩
theorem ft_int {i : Int} (h : i.natAbs < 10 ^ 40) : Ft 0 41 (.int i) := fit_int h
theorem ft_non : Ft 0 41 .non := fit_non
theorem ft_bl (b : Bool) : Ft 0 41 (.bl b) := ⟨rfl, Nat.le_refl _, by cases b <;> decide⟩
theorem ft_lst {ds : List D} {k m : Nat} (n : Nat) (h : ∀ d ∈ ds, Ft k m d) (hl : ds.length ≤ n) : Ft (k + 1) (4 + (m + 2) * n) (.lst ds) :=
  ⟨fitL_all fun d hd => (h d hd).1, (by have := depL_le fun d hd => (h d hd).2.1; show D.depL ds + 1 ≤ k + 1; omega), (by
    have h1 := wtL_le fun d hd => (h d hd).2.2
    have h2 := Nat.mul_le_mul_left (m + 2) hl
    show 4 + D.wtL ds ≤ _
    omega)⟩
theorem ft_tup {ds : List D} {k m : Nat} (n : Nat) (h : ∀ d ∈ ds, Ft k m d) (hl : ds.length ≤ n) : Ft (k + 1) (4 + (m + 2) * n) (.tup ds) := ft_lst n h hl
theorem ft_dI {ns : List Int} (n : Nat) (h : ∀ x ∈ ns, x.natAbs < 10 ^ 40) (hl : ns.length ≤ n) : Ft 1 (4 + 43 * n) (.lst (ns.map D.int)) := ft_lst n (fun d hd => by
  obtain ⟨x, hx, rfl⟩ := List.mem_map.mp hd
  exact ft_int (h x hx)) (by rwa [List.length_map])
theorem ft_nil {k m : Nat} : ∀ d ∈ ([] : List D), Ft k m d := fun d h => by cases h
theorem ft_cons {k m : Nat} {d : D} {ds : List D} (h : Ft k m d) (r : ∀ d ∈ ds, Ft k m d) : ∀ x ∈ d :: ds, Ft k m x := fun x hx => by
  rcases List.mem_cons.mp hx with rfl | hx
  · exact h
  · exact r x hx
/-! ### items of written lists -/
theorem exI_l0 {α : Type} {x0 : α} {r : List α} {P : α → Prop} : @ExI α (atI (x0 :: r) 0) ⟨P⟩ = P x0 := by
  have e : atI (x0 :: r) (0 : Int) = some x0 := by rw [atI_nat (by decide)]; rfl
  rw [e]
  exact exI_s
theorem exI_l1 {α : Type} {x0 x1 : α} {r : List α} {P : α → Prop} : @ExI α (atI (x0 :: x1 :: r) 1) ⟨P⟩ = P x1 := by
  have e : atI (x0 :: x1 :: r) (1 : Int) = some x1 := by rw [atI_nat (by decide)]; rfl
  rw [e]
  exact exI_s
theorem exI_l2 {α : Type} {x0 x1 x2 : α} {r : List α} {P : α → Prop} : @ExI α (atI (x0 :: x1 :: x2 :: r) 2) ⟨P⟩ = P x2 := by
  have e : atI (x0 :: x1 :: x2 :: r) (2 : Int) = some x2 := by rw [atI_nat (by decide)]; rfl
  rw [e]
  exact exI_s
theorem exI_l3 {α : Type} {x0 x1 x2 x3 : α} {r : List α} {P : α → Prop} : @ExI α (atI (x0 :: x1 :: x2 :: x3 :: r) 3) ⟨P⟩ = P x3 := by
  have e : atI (x0 :: x1 :: x2 :: x3 :: r) (3 : Int) = some x3 := by rw [atI_nat (by decide)]; rfl
  rw [e]
  exact exI_s
theorem exI_l4 {α : Type} {x0 x1 x2 x3 x4 : α} {r : List α} {P : α → Prop} : @ExI α (atI (x0 :: x1 :: x2 :: x3 :: x4 :: r) 4) ⟨P⟩ = P x4 := by
  have e : atI (x0 :: x1 :: x2 :: x3 :: x4 :: r) (4 : Int) = some x4 := by rw [atI_nat (by decide)]; rfl
  rw [e]
  exact exI_s
theorem exI_l5 {α : Type} {x0 x1 x2 x3 x4 x5 : α} {r : List α} {P : α → Prop} : @ExI α (atI (x0 :: x1 :: x2 :: x3 :: x4 :: x5 :: r) 5) ⟨P⟩ = P x5 := by
  have e : atI (x0 :: x1 :: x2 :: x3 :: x4 :: x5 :: r) (5 : Int) = some x5 := by rw [atI_nat (by decide)]; rfl
  rw [e]
  exact exI_s
theorem exI_l6 {α : Type} {x0 x1 x2 x3 x4 x5 x6 : α} {r : List α} {P : α → Prop} : @ExI α (atI (x0 :: x1 :: x2 :: x3 :: x4 :: x5 :: x6 :: r) 6) ⟨P⟩ = P x6 := by
  have e : atI (x0 :: x1 :: x2 :: x3 :: x4 :: x5 :: x6 :: r) (6 : Int) = some x6 := by rw [atI_nat (by decide)]; rfl
  rw [e]
  exact exI_s
theorem exI_l7 {α : Type} {x0 x1 x2 x3 x4 x5 x6 x7 : α} {r : List α} {P : α → Prop} : @ExI α (atI (x0 :: x1 :: x2 :: x3 :: x4 :: x5 :: x6 :: x7 :: r) 7) ⟨P⟩ = P x7 := by
  have e : atI (x0 :: x1 :: x2 :: x3 :: x4 :: x5 :: x6 :: x7 :: r) (7 : Int) = some x7 := by rw [atI_nat (by decide)]; rfl
  rw [e]
  exact exI_s
theorem exI_e1 {α : Type} {x0 : α} {P : α → Prop} : @ExI α (atI [x0] (-1)) ⟨P⟩ = P x0 := exI_s (P := P)
theorem exI_e2 {α : Type} {x0 x1 : α} {P : α → Prop} : @ExI α (atI [x0, x1] (-1)) ⟨P⟩ = P x1 := exI_s (P := P)
theorem exI_e3 {α : Type} {x0 x1 x2 : α} {P : α → Prop} : @ExI α (atI [x0, x1, x2] (-1)) ⟨P⟩ = P x2 := exI_s (P := P)
theorem exI_e4 {α : Type} {x0 x1 x2 x3 : α} {P : α → Prop} : @ExI α (atI [x0, x1, x2, x3] (-1)) ⟨P⟩ = P x3 := exI_s (P := P)
theorem exI_e5 {α : Type} {x0 x1 x2 x3 x4 : α} {P : α → Prop} : @ExI α (atI [x0, x1, x2, x3, x4] (-1)) ⟨P⟩ = P x4 := exI_s (P := P)
theorem okr_a {d : D} (h : okr d = true) : (okr d = true) = True := eq_true h
theorem okd_a {d : D} (h : okd d = true) : (okd d = true) = True := eq_true h
theorem okrr_a {d : D} (h : okrr d = true) : (okrr d = true) = True := eq_true h
theorem rep_m {α : Type} (e : α → D) (n : Nat) (a : α) : (List.replicate n [e a]).flatten = (List.replicate n a).map e := by
  rw [List.flatten_replicate_singleton, List.map_replicate]
theorem rep_i (n : Nat) (a : Int) : (List.replicate n [D.int a]).flatten = (List.replicate n a).map D.int := rep_m D.int n a
theorem closed_app {n : Nat} : ∀ {A B : Led}, closed n (A ++ B) = (closed n A ∧ closed n B)
  | [], B => by simp [closed]
  | m :: A, B => by
    have ih := closed_app (n := n) (A := A) (B := B)
    cases m <;> simp only [List.cons_append, closed, ih, and_assoc]
theorem closed_fl {n : Nat} {L : Led} (h : Flats L) : closed n L = True := eq_true (closed_flat h)
theorem repl_s {n : Nat} : List.replicate (n + 1) (none : Option Lo) = none :: List.replicate n none := rfl
theorem okd_im {α : Type} (f : α → Int) (xs : List α) : okd (.lst (xs.map fun x => .int (f x))) = true := by
  have := okd_ints (xs.map f)
  rwa [List.map_map] at this
theorem eqv_mm {α β : Type} (f : α → Int) (g : β → Int) (xs : List α) (ys : List β) : PyData.eqv (D.lst (xs.map fun x => .int (f x))).pd (D.lst (ys.map fun x => .int (g x))).pd = decide (xs.map f = ys.map g) := by
  have := eqv_ints (xs.map f) (ys.map g)
  rwa [List.map_map, List.map_map] at this
theorem eqv_im {β : Type} (g : β → Int) (xs : List Int) (ys : List β) : PyData.eqv (D.lst (xs.map D.int)).pd (D.lst (ys.map fun x => .int (g x))).pd = decide (xs = ys.map g) := by
  have := eqv_ints xs (ys.map g)
  rwa [List.map_map] at this
theorem eqv_mi {β : Type} (g : β → Int) (xs : List Int) (ys : List β) : PyData.eqv (D.lst (ys.map fun x => .int (g x))).pd (D.lst (xs.map D.int)).pd = decide (ys.map g = xs) := by
  have := eqv_ints (ys.map g) xs
  rwa [List.map_map] at this
theorem lk_l {A B : Led} {n : Nat} (h : n < A.length) : (A ++ B)[n]? = A[n]? := List.getElem?_append_left h
theorem lk_r {A B : Led} {n : Nat} (h : A.length ≤ n) : (A ++ B)[n]? = B[n - A.length]? := List.getElem?_append_right h
/-! ### behind a loop's turn: slots forgotten, the ledger cut -/
def rCutB (n : Nat) (vs : List Nat) (t : RS) : RS := fun N Γ M => t ⟨fun Γ' M' => n ≤ M'.length ∧ closed n (M'.take n) ∧ lowG n (wipeG Γ' vs) ∧ N.nx (wipeG Γ' vs) (M'.take n), N.rt, N.bk, fun Γ' M' => n ≤ M'.length ∧ closed n (M'.take n) ∧ lowG n (wipeG Γ' vs) ∧ N.ct (wipeG Γ' vs) (M'.take n)⟩ Γ M
theorem rCutB_e (n : Nat) (vs : List Nat) (t : RS) : ∀ N Γ M, rCutB n vs t N Γ M = t ⟨fun Γ' M' => n ≤ M'.length ∧ closed n (M'.take n) ∧ lowG n (wipeG Γ' vs) ∧ N.nx (wipeG Γ' vs) (M'.take n), N.rt, N.bk, fun Γ' M' => n ≤ M'.length ∧ closed n (M'.take n) ∧ lowG n (wipeG Γ' vs) ∧ N.ct (wipeG Γ' vs) (M'.take n)⟩ Γ M := fun _ _ _ => rfl
theorem lowG_mem {n : Nat} : ∀ {Γ : Gam}, lowG n Γ → ∀ l, some l ∈ Γ → refL (· < n) l
  | [], _, l, h => by cases h
  | some x :: r, h, l, hl => by
    rcases List.mem_cons.mp hl with e | hl
    · cases e; exact h.1
    · exact lowG_mem (Γ := r) h.2 l hl
  | none :: r, h, l, hl => by
    rcases List.mem_cons.mp hl with e | hl
    · cases e
    · exact lowG_mem (Γ := r) h l hl
theorem q_cutB {C : Fc} {X : Cx} {st : List Stmt} {n : Nat} {vs : List Nat} {t : RS} (h1 : C.S.length ≤ n) (h2 : C.Ab.length ≤ n) (h : QSs C X st t) : QSs C X st (rCutB n vs t) := PSs.imp h fun D σ H ⟨As, G, Γ, M, N, S, t, f⟩ =>
  have go : ∀ {Γ' : Gam} {M' : Led} {σ' : L2.St} {As' : List Addr} {G' H' : Hp}, Gw C G As' G' H' Γ' M' σ' → n ≤ M'.length → closed n (M'.take n) → lowG n (wipeG Γ' vs) → ∃ As2 G2, Gw C G As2 G2 H' (wipeG Γ' vs) (M'.take n) σ' := fun {Γ' M' σ' As' G' H'} g a1 a2 a3 => by
    obtain ⟨As2, G2, H2, e, S2, q⟩ := (Wk.trans (wk_wipe vs) (wk_cut n (Nat.le_refl n) a1 a2 (lowG_mem a3))) h1 h2 g.sat
    subst e
    exact ⟨As2, G2, S2, g.g.trans q⟩
  ⟨As, G, Γ, M, _, S, t, ⟨fun Γ' M' σ' As' G' H' g ⟨a1, a2, a3, k⟩ => by
      obtain ⟨As2, G2, g2⟩ := go g a1 a2 a3
      exact f.nx _ _ _ _ _ _ g2 k, f.rt, f.bk, fun Γ' M' σ' As' G' H' g ⟨a1, a2, a3, k⟩ => by
      obtain ⟨As2, G2, g2⟩ := go g a1 a2 a3
      exact f.ct _ _ _ _ _ _ g2 k⟩⟩
/-! ### a, b, c = x, y, z; x op= e -/
def rPar3 (i j l : Nat) (ta : RA) : RS := fun N Γ M => ta Γ M fun ls M1 => match ls with
  | [x, y, z] => N.nx (((Γ.set i (some x)).set j (some y)).set l (some z)) M1
  | _ => False
theorem rPar3_e (i j l : Nat) (ta : RA) : ∀ N Γ M, rPar3 i j l ta N Γ M = (ta Γ M fun ls M1 => match ls with
  | [x, y, z] => N.nx (((Γ.set i (some x)).set j (some y)).set l (some z)) M1
  | _ => False) := fun _ _ _ => rfl
theorem q_par3 {C : Fc} {X : Cx} {a b c : Expr} {pos : Pos} (i j l : Nat) {x y z : Str} {ra : RA} {px py pz pt : Pos} {kt k2 pt2} (hc : X.calm = true) (hN : X.N.Nodup) (ha : QA C X [a, b, c] ra) (hi : X.N[i]? = some x := by rfl) (hj : X.N[j]? = some y := by rfl) (hl : X.N[l]? = some z := by rfl) (hij : i ≠ j := by decide) (hil : i ≠ l := by decide) (hjl : j ≠ l := by decide)
    (hx : X.env.scope.names.lookup x = some .local := by rfl) (hy : X.env.scope.names.lookup y = some .local := by rfl) (hz : X.env.scope.names.lookup z = some .local := by rfl)
    (hw : swappedStores [.Tuple [.Name x px, .Name y py, .Name z pz] kt pt] (.Tuple [a, b, c] k2 pt2) X.env = pure (some [x, y, z]) := by rfl)
    (hs : swapsWithSole [.Tuple [.Name x px, .Name y py, .Name z pz] kt pt] (.Tuple [a, b, c] k2 pt2) pos.line X.env = pure false := by rfl) :
    QS C X (.Assign [.Tuple [.Name x px, .Name y py, .Name z pz] kt pt] (.Tuple [a, b, c] k2 pt2) pos) (rPar3 i j l ra) := PS.imp (ps_par3 hc hN hi hj hl hij hil hjl hx hy hz ha hw hs) fun D σ H ⟨As, G, Γ, M, N, S, t, f⟩ =>
  ⟨As, G, Γ, M, _, S, t, fun ls M' vs As' G' H' g1 rv k => by
    cases rv with
    | nil => exact k.elim
    | cons r1 rv =>
      cases rv with
      | nil => exact k.elim
      | cons r2 rv =>
        cases rv with
        | nil => exact k.elim
        | cons r3 rv =>
          cases rv with
          | nil => exact ⟨_, _, _, rfl, f.nx _ _ _ _ _ _ (g1.w.trans ⟨((g1.sat.set r1).set r2).set r3, Same.refl _⟩) k⟩
          | cons _ _ => exact k.elim⟩
abbrev oAddI := oI0 fun i j => .int (i + j)
theorem addIL {C : Fc} : OpL C (rI0 fun i j => .int (i + j)) oAddI := liftI0 fun i j G => .int _
end Dl

set_option Elab.async false
set_option maxRecDepth 100000
set_option maxHeartbeats 400000
namespace Dl
open PySem L2
/-! ### the pen: what it draws -/
abbrev pn (ns : List Int) (i c : Int) : MO := .li [.lst (ns.map D.int), .int i, .int c]
def PenC (B i c : Int) : Prop := 0 ≤ i ∧ i ≤ B ∧ 0 ≤ c
theorem PenC.up {B B' i c : Int} (h : PenC B i c) (q : B ≤ B') : PenC B' i c := ⟨h.1, by have := h.2.1; omega, h.2.2⟩
def sp_l_pen : DSp := fun ls M Kd _ => ∃ ns : List Int, ls = [.im (.scr ns)] ∧ M = [] ∧ ∀ ns' : List Int, ns'.length ≤ 60 → Kd (.ow 0) [pn ns' 0 0]
def sp_l_next : DSp := fun ls M Kd _ => ∃ (ns : List Int) (i c : Int), ls = [.ow 0] ∧ M = [pn ns i c] ∧ 0 ≤ i ∧ i < 1000000000000 ∧ ∀ r : Int, 0 ≤ r → Kd (.im (.int r)) [pn ns (i + 1) c]
def sp_l_draw : DSp := fun ls M Kd _ => ∃ (B : Int) (ns : List Int) (i c u : Int), ls = [.ow 0, .im (.int u)] ∧ M = [pn ns i c] ∧ PenC B i c ∧ B < 1000000000000 ∧ 0 < u ∧ u < 4611686018427387904 ∧ ∀ i' c' r : Int, PenC (B + 1) i' c' → 0 ≤ r → r < u → Kd (.im (.int r)) [pn ns i' c']
theorem len_l_pen : ∀ ls M Kd Ed, sp_l_pen ls M Kd Ed → ls.length = 1 := fun ls M Kd Ed ⟨_, e, _⟩ => by rw [e]; rfl
theorem len_l_next : ∀ ls M Kd Ed, sp_l_next ls M Kd Ed → ls.length = 1 := fun ls M Kd Ed ⟨_, _, _, e, _⟩ => by rw [e]; rfl
theorem len_l_draw : ∀ ls M Kd Ed, sp_l_draw ls M Kd Ed → ls.length = 2 := fun ls M Kd Ed ⟨_, _, _, _, _, e, _⟩ => by rw [e]; rfl
def n_l_pen : List Str := ["_law_script"]
def rd_l_pen (ex : EX) : RS := (rRet (rLstO (rCons (qCa (oList outF) (rCons (rSl outF (rVar 0) rONone (rOSome (rCon (.int 60)))) rNil)) (rCons (rCon (.int 0)) (rCons (rCon (.int 0)) rNil)))))
def n_l_next : List Str := ["_law_pen_here", "_law_index", "_law_cell_here", "_law_some_here", "_law_more", "_law_top"]
def rd_l_next (ex : EX) : RS := (rSeq (rAsg (qOp oIx (rVar 0) (rCon (.int 1))) (rName 1))
  (rSeq (rAsg (qOp (oAdd outF) (rVar 1) (rCon (.int 1))) (rGSub (rVar 0) (rCon (.int 1))))
  (rSeq (rAsg (qOp (oAdd outF) (qOp (oMul outF) (rVar 1) (rCon (.int 1063))) (rCon (.int 47))) (rName 2))
  (rSeq (rIf (rB (qOp oNe (qOp oIx (rVar 0) (rCon (.int 0))) (rLst rNil))) (rAsg (qOp oIx (qOp oIx (rVar 0) (rCon (.int 0))) (qOp oMod (qCa oInt (rCons (rVar 1) rNil)) (qCa oLen (rCons (qOp oIx (rVar 0) (rCon (.int 0))) rNil)))) (rName 2)) rNext)
  (rSeq (rIf (rAndT (rB (qOp oLt (rVar 1) (qCa oLen (rCons (qOp oIx (rVar 0) (rCon (.int 0))) rNil)))) (rB (qOp oGe (rVar 2) (rCon (.int 1000000000000000000))))) (rRet (rVar 2)) rNext)
  (rSeq (rAsg (qOp oMod (qCa oInt (rCons (qOp (oAdd outF) (qOp (oAdd outF) (qOp oMod (qCa oInt (rCons (rVar 2) rNil)) (rCon (.int 2147483587))) (qOp (oMul outF) (rVar 1) (rCon (.int 30097)))) (rCon (.int 73))) rNil)) (rCon (.int 2147483587))) (rName 3))
  (rSeq (rAsg (qOp oMod (qCa oInt (rCons (qOp (oAdd outF) (qOp (oAdd outF) (qOp (oMul outF) (rVar 3) (rVar 3)) (qOp (oMul outF) (rVar 1) (rCon (.int 70019)))) (rCon (.int 59))) rNil)) (rCon (.int 2147483563))) (rName 4))
  (rSeq (rAsg (qOp oMod (qCa oInt (rCons (qOp (oAdd outF) (qOp (oAdd outF) (qOp (oMul outF) (rVar 4) (rVar 4)) (rVar 3)) (qOp (oMul outF) (qOp (oMul outF) (rVar 1) (rVar 1)) (rCon (.int 31)))) rNil)) (rCon (.int 2147483549))) (rName 5))
  (rRet (qOp (oAdd outF) (qOp (oMul outF) (qOp (oAdd outF) (qOp (oMul outF) (rVar 5) (rCon (.int 2147483587))) (rVar 4)) (rCon (.int 2147483563))) (rVar 3)))))))))))
def n_l_draw : List Str := ["_law_pen_here", "_law_under", "_law_digit"]
def rd_l_draw (ex : EX) : RS := (rSeq (rIf (rB (qOp oLt (qOp oIx (rVar 0) (rCon (.int 2))) (rVar 1))) (rAsg (rCallP sp_l_next (rCons (rVar 0) rNil)) (rGSub (rVar 0) (rCon (.int 2)))) rNext)
  (rSeq (rAsg (qOp oMod (qCa oInt (rCons (qOp oIx (rVar 0) (rCon (.int 2))) rNil)) (rVar 1)) (rName 2))
  (rSeq (rAsg (qOp oDiv (qOp oIx (rVar 0) (rCon (.int 2))) (rVar 1)) (rGSub (rVar 0) (rCon (.int 2))))
  (rRet (rVar 2)))))
theorem m_l_pen : MtX sp_l_pen rd_l_pen n_l_pen := fun {ls M Kd Ed} h => by
  obtain ⟨ns, rfl, rfl, k⟩ := h
  have e : cutD (ns.map D.int) none (some ((60 : Nat) : Int)) = (ns.take 60).map D.int := by rw [cutD_to, List.map_take]
  have q := k (ns.take 60) (by rw [List.length_take]; omega)
  unfold pn at q
  rw [← e] at q
  exact ⟨sz3, back0o (k := 0) rfl q⟩
theorem p87 : (0 : Int) < 2147483587 := by decide
theorem p63 : (0 : Int) < 2147483563 := by decide
theorem p49 : (0 : Int) < 2147483549 := by decide
theorem sm62 {i : Int} (h0 : 0 ≤ i) (h : i < 1000000000000) : -18446744073709551616 < i ∧ i < 18446744073709551616 := by omega
theorem m_l_next : MtX sp_l_next rd_l_next n_l_next := fun {ls M Kd Ed} h => by
  obtain ⟨ns, i, c, rfl, rfl, hi, hi2, k⟩ := h
  refine ⟨_, rfl, _, rfl, .inr (by decide), ?_⟩
  have tail : ∀ cell : Int, (rSeq (rIf (rAndT (rB (qOp oLt (rVar 1) (qCa oLen (rCons (qOp oIx (rVar 0) (rCon (.int 0))) rNil)))) (rB (qOp oGe (rVar 2) (rCon (.int 1000000000000000000))))) (rRet (rVar 2)) rNext)
  (rSeq (rAsg (qOp oMod (qCa oInt (rCons (qOp (oAdd outF) (qOp (oAdd outF) (qOp oMod (qCa oInt (rCons (rVar 2) rNil)) (rCon (.int 2147483587))) (qOp (oMul outF) (rVar 1) (rCon (.int 30097)))) (rCon (.int 73))) rNil)) (rCon (.int 2147483587))) (rName 3))
  (rSeq (rAsg (qOp oMod (qCa oInt (rCons (qOp (oAdd outF) (qOp (oAdd outF) (qOp (oMul outF) (rVar 3) (rVar 3)) (qOp (oMul outF) (rVar 1) (rCon (.int 70019)))) (rCon (.int 59))) rNil)) (rCon (.int 2147483563))) (rName 4))
  (rSeq (rAsg (qOp oMod (qCa oInt (rCons (qOp (oAdd outF) (qOp (oAdd outF) (qOp (oMul outF) (rVar 4) (rVar 4)) (rVar 3)) (qOp (oMul outF) (qOp (oMul outF) (rVar 1) (rVar 1)) (rCon (.int 31)))) rNil)) (rCon (.int 2147483549))) (rName 5))
  (rRet (qOp (oAdd outF) (qOp (oMul outF) (qOp (oAdd outF) (qOp (oMul outF) (rVar 5) (rCon (.int 2147483587))) (rVar 4)) (rCon (.int 2147483563))) (rVar 3))))))) { nx := fun _ M' => Back 1 Kd (.im .non) M', rt := Back 1 Kd } [some (.ow 0), some (.im (.int i)), some (.im (.int cell)), none, none, none] [.li [.lst (ns.map D.int), .int (i + 1), .int c]] := fun cell => by
    refine ⟨_, rfl, ⟨fun hlt => ⟨fun hge => back1 rfl (k _ ?_), fun _ => ?_⟩, fun _ => ⟨ft, fun _ => ?_⟩⟩⟩
    · have := of_decide_eq_true hge
      omega
    all_goals
      refine ⟨p87, .inr (by decide), p87, ?_⟩
      have s1 := Int.emod_lt_of_pos (cell % 2147483587 + i * 30097 + 73) (show (0 : Int) < 2147483587 by decide)
      have s0 := Int.emod_nonneg (cell % 2147483587 + i * 30097 + 73) (show (2147483587 : Int) ≠ 0 by decide)
      generalize (cell % 2147483587 + i * 30097 + 73) % 2147483587 = so at s0 s1
      refine ⟨.inl (by omega), .inr (by decide), p63, ?_⟩
      have t1 := Int.emod_lt_of_pos (so * so + i * 70019 + 59) (show (0 : Int) < 2147483563 by decide)
      have t0 := Int.emod_nonneg (so * so + i * 70019 + 59) (show (2147483563 : Int) ≠ 0 by decide)
      generalize (so * so + i * 70019 + 59) % 2147483563 = mo at t0 t1
      refine ⟨.inl (by omega), .inl (by omega), .inr (by decide), p49, ?_⟩
      have u1 := Int.emod_lt_of_pos (mo * mo + so + i * i * 31) (show (0 : Int) < 2147483549 by decide)
      have u0 := Int.emod_nonneg (mo * mo + so + i * i * 31) (show (2147483549 : Int) ≠ 0 by decide)
      generalize (mo * mo + so + i * i * 31) % 2147483549 = to at u0 u1
      exact ⟨.inr (by decide), .inr (by decide), back1 rfl (k _ (by omega))⟩
  refine ⟨_, rfl, sz0, okd_ints ns, okd_ints [], fun hne => ?_, fun _ => tail _⟩
  have hne' : ns ≠ [] := fun z => by
    subst z
    exact absurd hne (by decide)
  have hl : 0 < ns.length := List.length_pos_iff.mpr hne'
  have e1 := Int.emod_nonneg i (show ((ns.map D.int).length : Int) ≠ 0 by rw [List.length_map]; omega)
  have e2 := Int.emod_lt_of_pos i (show (0 : Int) < ((ns.map D.int).length : Int) by rw [List.length_map]; omega)
  rw [List.length_map] at e1 e2
  refine ⟨_, rfl, _, rfl, (by show (0 : Int) < ((ns.map D.int).length : Int); rw [List.length_map]; omega), D.int (ns[(i % (ns.length : Int)).toNat]'(by omega)), ?_, tail _⟩
  show atI (ns.map D.int) (i % ((ns.map D.int).length : Int)) = _
  rw [List.length_map, atI_nat e1, List.getElem?_map, List.getElem?_eq_getElem (by omega)]
  rfl
theorem m_l_draw : MtX sp_l_draw rd_l_draw n_l_draw := fun {ls M Kd Ed} h => by
  obtain ⟨B, ns, i, c, u, rfl, rfl, ⟨h0, h1, h2⟩, hB, hu, hu2, k⟩ := h
  have tail : ∀ i' c' : Int, 0 ≤ i' → i' ≤ B + 1 → 0 ≤ c' → (rSeq (rAsg (qOp oMod (qCa oInt (rCons (qOp oIx (rVar 0) (rCon (.int 2))) rNil)) (rVar 1)) (rName 2))
  (rSeq (rAsg (qOp oDiv (qOp oIx (rVar 0) (rCon (.int 2))) (rVar 1)) (rGSub (rVar 0) (rCon (.int 2))))
  (rRet (rVar 2)))) { nx := fun _ M' => Back 1 Kd (.im .non) M', rt := Back 1 Kd } [some (.ow 0), some (.im (.int u)), none] [.li [.lst (ns.map D.int), .int i', .int c']] := fun i' c' q1 q2 q3 =>
    ⟨_, rfl, hu, _, rfl, ⟨hu, hu2⟩, _, rfl, back1 rfl (k i' (c' / u) _ ⟨q1, q2, Int.ediv_nonneg q3 (by omega)⟩ (Int.emod_nonneg _ (by omega)) (Int.emod_lt_of_pos _ hu))⟩
  refine ⟨_, rfl, fun _ => ?_, fun _ => tail i c h0 (by omega) h2⟩
  exact ⟨rfl, ns, i, c, rfl, rfl, h0, by omega, fun r hr => ⟨_, rfl, tail (i + 1) r (by omega) (by omega) hr⟩⟩
theorem draw_ok {B : Int} {ns : List Int} {i c u : Int} {Kd : Lo → Led → Prop} {Ed : Exn → Led → Prop} (hp : PenC B i c) (hB : B < 1000000000000) (hu : 0 < u) (hu2 : u < 4611686018427387904) (h : ∀ i' c' r : Int, PenC (B + 1) i' c' → 0 ≤ r → r < u → Kd (.im (.int r)) [pn ns i' c']) :
    sp_l_draw [.ow 0, .im (.int u)] [pn ns i c] Kd Ed := ⟨B, ns, i, c, u, rfl, rfl, hp, hB, hu, hu2, h⟩
section
variable {out : List D → Led → (Lo → Led → Prop) → Prop} {ds : List D} {g : RG} {tt : RT} {te : RE} {vs : List Nat} {Γ : Gam} {rest : Led} {K : Lo → Led → Prop}
/-- [.. for d in ds if ..] with k draws for each item; p: what stands for the filter's answers -/
theorem lc_penF (Q : D → D → Prop) {ns : List Int} {i c B : Int} (k : Int) (hp : PenC B i c) (hk : 0 ≤ k) (hl : ds.length ≤ 1000000) (hc : ∀ i c : Int, closed (rest.length + 1) (pn ns i c :: rest))
    (h : ∀ (j : Nat) (d : D) (acc : List D) (i' c' : Int) (R : Lo → Led → Prop) (R2 : Led → Prop), ds[j]? = some d → PenC (B + k * j) i' c' → (∀ x i'' c'', Q d x → PenC (B + k * j + k) i'' c'' → R (.im x) (pn ns i'' c'' :: (rest ++ [.li acc]))) → (∀ i'' c'', PenC (B + k * j + k) i'' c'' → R2 (pn ns i'' c'' :: (rest ++ [.li acc]))) →
      g (.im d) (wipeG Γ vs) (pn ns i' c' :: (rest ++ [.li acc])) fun Γ2 M2 => tt Γ2 M2 fun b M3 => IfP b (te Γ2 M3 R) (R2 M3))
    (hK : ∀ (acc : List D) (i' c' : Int), PenC (B + k * ds.length) i' c' → (∀ x ∈ acc, ∃ d ∈ ds, Q d x) → acc.length ≤ ds.length → out acc (pn ns i' c' :: rest) K) : @LcI ds vs Γ (pn ns i c :: rest) ⟨(out, g, tt, te, K)⟩ := by
  refine ⟨fun j acc M' => ∃ i' c', M' = pn ns i' c' :: rest ∧ PenC (B + k * j) i' c' ∧ acc.length ≤ j ∧ (∀ x ∈ acc, ∃ d ∈ ds, Q d x), ⟨i, c, rfl, hp.up (by simp), Nat.le_refl _, fun x h => by cases h⟩, ?_, ?_⟩
  · rintro j d acc M' hd ⟨i', c', rfl, hp', hlen, hacc⟩
    have hj := (List.getElem?_eq_some_iff.mp hd).1
    have ek : B + k * j + k = B + k * ((j + 1 : Nat) : Int) := by
      rw [Int.natCast_add, Int.mul_add, Int.add_assoc]
      simp
    refine ⟨rfl, h j d acc i' c' _ _ hd hp' (fun x i2 c2 hx hp2 => ⟨by rw [sizeLine_eq]; omega, ?_, i2, c2, ?_, by rw [← ek]; exact hp2, by rw [List.length_append]; show acc.length + 1 ≤ _; omega, fun y hy => ?_⟩) fun i2 c2 hp2 => ⟨?_, i2, c2, ?_, by rw [← ek]; exact hp2, by omega, hacc⟩⟩
    · show _ = ((pn ns i2 c2 :: rest) ++ [MO.li acc]).take (rest.length + 1) ++ [MO.li acc]
      rw [show rest.length + 1 = (pn ns i2 c2 :: rest).length from rfl, take_len]
      rfl
    · show ((pn ns i2 c2 :: rest) ++ [MO.li acc]).take (rest.length + 1) = _
      rw [show rest.length + 1 = (pn ns i2 c2 :: rest).length from rfl, take_len]
    · rcases List.mem_append.mp hy with hy | hy
      · exact hacc y hy
      · obtain rfl := List.mem_singleton.mp hy
        exact ⟨d, List.mem_of_getElem? hd, hx⟩
    · show _ = ((pn ns i2 c2 :: rest) ++ [MO.li acc]).take (rest.length + 1) ++ [MO.li acc]
      rw [show rest.length + 1 = (pn ns i2 c2 :: rest).length from rfl, take_len]
      rfl
    · show ((pn ns i2 c2 :: rest) ++ [MO.li acc]).take (rest.length + 1) = _
      rw [show rest.length + 1 = (pn ns i2 c2 :: rest).length from rfl, take_len]
  · rintro acc M' ⟨i', c', rfl, hp', hlen, hacc⟩
    exact ⟨rfl, hc i' c', hK acc i' c' hp' hacc hlen⟩
/-- .. without a filter; the lengths agree -/
theorem lc_pen (Q : D → D → Prop) {ns : List Int} {i c B : Int} (k : Int) (hp : PenC B i c) (hk : 0 ≤ k) (hl : ds.length ≤ 1000000) (hc : ∀ i c : Int, closed (rest.length + 1) (pn ns i c :: rest))
    (h : ∀ (j : Nat) (d : D) (acc : List D) (i' c' : Int) (R : Lo → Led → Prop), ds[j]? = some d → PenC (B + k * j) i' c' → (∀ x i'' c'', Q d x → PenC (B + k * j + k) i'' c'' → R (.im x) (pn ns i'' c'' :: (rest ++ [.li acc]))) →
      g (.im d) (wipeG Γ vs) (pn ns i' c' :: (rest ++ [.li acc])) fun Γ2 M2 => te Γ2 M2 R)
    (hK : ∀ (acc : List D) (i' c' : Int), PenC (B + k * ds.length) i' c' → (∀ (j : Nat) (x : D), acc[j]? = some x → ∃ d, ds[j]? = some d ∧ Q d x) → acc.length = ds.length → out acc (pn ns i' c' :: rest) K) : @LcI ds vs Γ (pn ns i c :: rest) ⟨(out, g, rYes, te, K)⟩ := by
  refine ⟨fun j acc M' => ∃ i' c', M' = pn ns i' c' :: rest ∧ PenC (B + k * j) i' c' ∧ acc.length = j ∧ (∀ (j : Nat) (x : D), acc[j]? = some x → ∃ d, ds[j]? = some d ∧ Q d x), ⟨i, c, rfl, hp.up (by simp), rfl, fun j x h => by simp at h⟩, ?_, ?_⟩
  · rintro j d acc M' hd ⟨i', c', rfl, hp', hlen, hacc⟩
    have hj := (List.getElem?_eq_some_iff.mp hd).1
    have ek : B + k * j + k = B + k * ((j + 1 : Nat) : Int) := by
      rw [Int.natCast_add, Int.mul_add, Int.add_assoc]
      simp
    refine ⟨rfl, ?_⟩
    show g (.im d) (wipeG Γ vs) (pn ns i' c' :: (rest ++ [.li acc])) fun Γ2 M2 => IfP true (te Γ2 M2 _) _
    simp only [ifp_t]
    refine h j d acc i' c' _ hd hp' fun x i2 c2 hx hp2 => ⟨by rw [sizeLine_eq]; omega, ?_, i2, c2, ?_, by rw [← ek]; exact hp2, by rw [List.length_append]; show acc.length + 1 = _; omega, fun j2 y hy => ?_⟩
    · show _ = ((pn ns i2 c2 :: rest) ++ [MO.li acc]).take (rest.length + 1) ++ [MO.li acc]
      rw [show rest.length + 1 = (pn ns i2 c2 :: rest).length from rfl, take_len]
      rfl
    · show ((pn ns i2 c2 :: rest) ++ [MO.li acc]).take (rest.length + 1) = _
      rw [show rest.length + 1 = (pn ns i2 c2 :: rest).length from rfl, take_len]
    · by_cases h2 : j2 < acc.length
      · rw [List.getElem?_append_left h2] at hy
        exact hacc j2 y hy
      · rw [List.getElem?_append_right (by omega)] at hy
        obtain ⟨e1, e2⟩ := List.getElem?_eq_some_iff.mp hy
        have e3 : j2 = j := by simp at e1; omega
        subst e3
        rw [show j2 - acc.length = 0 from by omega] at hy
        simp at hy
        subst hy
        exact ⟨d, hd, hx⟩
  · rintro acc M' ⟨i', c', rfl, hp', hlen, hacc⟩
    exact ⟨rfl, hc i' c', hK acc i' c' hp' hacc hlen⟩
end
/-! ### is_integer -/
def sp_is_integer : DSp := fun ls M Kd _ => ∃ (d : D) (n : String), ls = [.im d] ∧ M = [] ∧ d.tyn = some n ∧ Kd (.im (.bl d.isI)) []
theorem len_is_integer : ∀ ls M Kd Ed, sp_is_integer ls M Kd Ed → ls.length = 1 := fun ls M Kd Ed ⟨_, _, e, _⟩ => by rw [e]; rfl
def n_is_integer : List Str := ["thing"]
def rd_is_integer (ex : EX) : RS := (rRet (rAndV (qUn (oIsi "int") (rVar 0)) (rNotV (qUn (oIsi "bool") (rVar 0)))))
theorem m_is_integer : MtX sp_is_integer rd_is_integer n_is_integer := fun {ls M Kd Ed} h => by
  obtain ⟨d, n, rfl, rfl, hn, k⟩ := h
  cases d <;> cases hn
  · exact ⟨by decide +kernel, ft, fun _ => back0 k⟩
  · exact ⟨by decide +kernel, fun _ => ⟨by decide +kernel, back0 k⟩, fun h => absurd h (by decide +kernel)⟩
  · exact ⟨by decide +kernel, fun _ => ⟨by decide +kernel, back0 k⟩, fun h => absurd h (by decide +kernel)⟩
  · exact ⟨by decide +kernel, ft, fun _ => back0 k⟩
  · exact ⟨by decide +kernel, ft, fun _ => back0 k⟩
  · exact ⟨by decide +kernel, ft, fun _ => back0 k⟩
  · exact ⟨by decide +kernel, ft, fun _ => back0 k⟩
theorem ci_isint {d : D} {Kd : Lo → Led → Prop} {Ed : Exn → Led → Prop} : @CallI sp_is_integer [.im d] [] ⟨(Kd, Ed)⟩ = (d.tyn.isSome = true ∧ Kd (.im (.bl d.isI)) []) := propext ⟨fun ⟨e, n, h1, _, h3, h4⟩ => by
    cases h1
    exact ⟨by rw [h3]; rfl, h4⟩, fun ⟨h1, h2⟩ => by
    obtain ⟨n, hn⟩ := Option.isSome_iff_exists.mp h1
    exact ⟨d, n, rfl, rfl, hn, h2⟩⟩

end Dl

set_option Elab.async false
set_option maxRecDepth 100000
set_option maxHeartbeats 1000000
namespace Dl
open PySem PySem.Spec PyProof.Rows L2
/-! ### calls in general: what is called, what is lent -/
section
variable {C : Fc} {X : Cx} {k : Nat} {f : Addr} {fd : FuncData} {ps : List Str} {sp : DSp} {is : List Nat} {ex : EX}
/-- a callee's run, around A' -/
theorem gn_core {A' : Around} {σ : L2.St} {H : Hp} {s : Shared} {us : List Value} {vs : List V} {As : List Addr} {G : Hp} {Γ : Gam} {M : Led} {ls : List Lo} {Kd : Lo → Led → Prop} {Ed : Exn → Led → Prop} {Q : VK} (F : Gn C.T X.prog X.w X.K X.mg X.base k f fd ps sp) (hr : Room k A') (hg : A'.guards = some [])
    (e0 : Env0 X.prog X.w X.K X.mg X.base A' X.stack s H) (kI : X.K.In s.heap) (hb : Binds X.K fd ps []) (hK : C.K = X.K) (r : Vals vs us) (S : Sat C As G H Γ M σ) (rl : LRpL C.K As G vs ls) (ok : PickOk is M) (hls : refLs (· ∈ is) ls)
    (h : sp (ls.map (renL (loc is))) (pick is M) Kd Ed) (hQ : ∀ (l : Lo) (Mu : Led) (v : V) (As' : List Addr) (G' H' : Hp), Gr C As G As' G' H' Γ (put is Mu M) σ → LRp C.K As' G' v (renL (ren is M.length) l) → Kd l Mu → Q v H')
    (hE : ∀ x Mu, Ed x Mu → ex x Γ (put is Mu M)) : codeAny (model X.prog X.w) A' (.call (.ref f) ⟨us, []⟩) (CR (L2.CX X.prog X.w) X.stack X.prog X.w H s Q fun cls d H' => UW C ex cls d σ H') s := by
  obtain ⟨Z0, bk⟩ := lend S ok
  have hlen : us.length = ps.length := by
    rw [← r.length, rl.length, ← List.length_map (f := renL (loc is)) (as := ls)]
    exact F.len _ _ _ _ h
  have b := hb s us kI (by rw [List.append_nil]; exact hlen)
  rw [List.append_nil] at b
  rw [hK] at Z0 rl
  refine F.run A' X.stack s H ⟨us, []⟩ us vs Q (fun cls d H' => UW C ex cls d σ H') _ G _ _ Kd Ed hr hg e0 b r Z0 (rl.mem_ren hls bk) h (fun l Mu v Au' G' H' Z rv k => ?_) fun x Mu cls d Au' G' H' Z rx k => ?_
  · rw [← hK] at Z rv
    obtain ⟨As', g, hv⟩ := lent_back S ok Z
    exact hQ l Mu v As' G' H' g (hv v l rv) k
  · rw [← hK] at Z rx
    obtain ⟨As', g, _⟩ := lent_back S ok Z
    exact ⟨As', G', Γ, _, x, g.sat, rx, hE x Mu k⟩
end
/-- the expression calls the def at f with what t gives -/
structure CA (C : Fc) (X : Cx) (e : Expr) (f : Addr) (t : RA) : Prop where
  run : ∀ (pins : List (Addr × Obj)) (s : Shared) (σ : L2.St) (H : Hp) (Q : VK) (R : List V → Hp → Prop), Inv X pins σ H s → UA C t σ H R →
    (∀ us s1 vs H1, Inv X pins σ H1 s1 → Vals vs us → R vs H1 → wpAny (model X.prog X.w) X.A (call (.ref f) us) (EP X pins σ Q) X.xe s1) → wpAny (model X.prog X.w) X.A (eval e X.env) (EP X pins σ Q) X.xe s
section
variable {C : Fc} {X : Cx} {f : Addr} {x : Str} {p pos : Pos} {e : Expr} {es : List Expr} {t : RA}
theorem ca_name (hm : X.mg x = some (.ref f)) (hk : PySem.W.keepIn X.K (.ref f) = true) (ha : QA C X (e :: es) t)
    (hgl : Gl X x := by rfl) (hdb : (x == ("__debug__" : Str)) = false := by decide) (he : starEach (e :: es) X.env = (false, eval e X.env) :: starEach es X.env := by rfl) (hpl : (backTo pos (starEach es X.env)).any (·.1) = false := by rfl) :
    CA C X (.Call (.Name x p) (e :: es) [] pos) f t := ⟨fun pins s σ H Q R I h k => by
  refine wpAny_Call_Name_kw (ld_glob I hgl hm ?_ hdb)
  exact PySem.W.callWith_K (h₀ := X.base) I.ok.mod.kin hk (thn (ha.run pos pins s σ H R I h) fun us s1 ⟨vs, H1, I1, r, q⟩ => ⟨I1.kIn, k us s1 vs H1 I1 r q⟩) he hpl⟩
theorem ca_name0 (hm : X.mg x = some (.ref f)) (hk : PySem.W.keepIn X.K (.ref f) = true) (hgl : Gl X x := by rfl) (hdb : (x == ("__debug__" : Str)) = false := by decide) : CA C X (.Call (.Name x p) [] [] pos) f rNil := ⟨fun pins s σ H Q R I ⟨As, G, Γ, M, K, S, h, q⟩ k => by
  refine wpAny_Call_Name_kw (ld_glob I hgl hm ?_ hdb)
  exact PySem.W.callWith_K0 I.kIn hk (k [] s [] H I .nil (q [] M [] As G H (Gr.refl S) .nil h))⟩
end

/-! ### which owned objects a call may touch -/
def kids : MO → List Lo
  | .ls xs => xs
  | .dm ks => ks.map (·.2)
  | .ob _ fs => fs.map (·.2)
  | _ => []
def reach (M : Led) : Nat → List Lo → List Nat → List Nat
  | 0, _, acc => acc
  | _ + 1, [], acc => acc
  | n + 1, .im _ :: r, acc => reach M n r acc
  | n + 1, .tp ls :: r, acc => reach M n (ls ++ r) acc
  | n + 1, .ow k :: r, acc => if k ∈ acc then reach M n r acc else reach M n (kids (M.getD k .gone) ++ r) (acc ++ [k])
def callU (is : List Nat) (sp : DSp) (ex : EX) (Γ : Gam) (ls : List Lo) (M1 : Led) (K : Lo → Led → Prop) : Prop := PickOk is M1 ∧ refLs (· ∈ is) ls ∧
  sp (ls.map (renL (loc is))) (pick is M1) (fun l Mu => K (renL (ren is M1.length) l) (put is Mu M1)) fun x Mu => ex x Γ (put is Mu M1)
def rCallU (sp : DSp) (ex : EX) (t : RA) : RE := fun Γ M K => t Γ M fun ls M1 => callU (reach M1 64 ls []) sp ex Γ ls M1 K
section
variable {C : Fc} {X : Cx} {k : Nat} {f : Addr} {fd : FuncData} {ps : List Str} {sp : DSp} {ex : EX} {e : Expr} {t : RA}
theorem q_U (c : CA C X e f t) (F : Gn C.T X.prog X.w X.K X.mg X.base k f fd ps sp) (hb : Binds X.K fd ps []) (hr : Room k X.A) (hg : X.A.guards = some []) (hK : C.K = X.K) (tk : Takes X (UW C ex)) : QE C X e (rCallU sp ex t) := ⟨fun pins s σ H Q I ⟨As, G, Γ, M, K, S, h, q⟩ => by
  refine c.run pins s σ H Q (fun vs H1 => ∃ (As1 : List Addr) (G1 : Hp) (M1 : Led) (ls : List Lo), Gr C As G As1 G1 H1 Γ M1 σ ∧ LRpL C.K As1 G1 vs ls ∧ callU (reach M1 64 ls []) sp ex Γ ls M1 K) I ⟨As, G, Γ, M, _, S, h, fun ls M1 vs As1 G1 H1 g1 rl k1 => ⟨As1, G1, M1, ls, g1, rl, k1⟩⟩ ?_
  rintro us s1 vs H1 I1 r ⟨As1, G1, M1, ls, g1, rl, ok, hls, h2⟩
  exact run_gn F hr hg hb hK tk I1 r g1.sat rl ok hls h2 (fun l Mu v As' G' H' g rv k => q _ _ v As' G' H' (g1.trans g) rv k) fun x Mu k => k⟩
theorem q_D (c : CA C X e f t) (F : Gn C.T X.prog X.w X.K X.mg X.base k f fd ps sp) (hb : Binds X.K fd ps []) (hr : Room k X.A) (hg : X.A.guards = some []) (hK : C.K = X.K) (tk : Takes X (UW C ex)) : QE C X e (rCallD sp ex t) := ⟨fun pins s σ H Q I ⟨As, G, Γ, M, K, S, h, q⟩ => by
  refine c.run pins s σ H Q (fun vs H1 => ∃ (As1 : List Addr) (G1 : Hp) (M1 : Led) (ls : List Lo), Gr C As G As1 G1 H1 Γ M1 σ ∧ LRpL C.K As1 G1 vs ls ∧ _) I ⟨As, G, Γ, M, _, S, h, fun ls M1 vs As1 G1 H1 g1 rl k1 => ⟨As1, G1, M1, ls, g1, rl, k1⟩⟩ ?_
  rintro us s1 vs H1 I1 r ⟨As1, G1, M1, ls, g1, rl, h1⟩
  obtain ⟨ok, hls, Kd, Ed, h2, h3, h4⟩ := callD_ok h1
  exact run_gn F hr hg hb hK tk I1 r g1.sat rl ok hls h2 (fun l Mu v As' G' H' g rv k => q _ _ v As' G' H' (g1.trans g) rv (h3 l Mu k)) h4⟩
end
/-! ### instances: fields, methods -/
def putL (f : Str) (l : Lo) : List (Str × Lo) → List (Str × Lo)
  | [] => [(f, l)]
  | (g, x) :: r => if g = f then (g, l) :: r else (g, x) :: putL f l r
theorem putL_ok {K : PySem.W.Frag} {As : List Addr} {G : Hp} {f : Str} {v : V} {l : Lo} (rv : LRp K As G v l) : ∀ {fvs : List (Str × V)} {fs : List (Str × Lo)}, fvs.map (·.1) = fs.map (·.1) → LRpL K As G (fvs.map (·.2)) (fs.map (·.2)) →
    (putF f v fvs).map (·.1) = (putL f l fs).map (·.1) ∧ LRpL K As G ((putF f v fvs).map (·.2)) ((putL f l fs).map (·.2))
  | [], [], _, _ => ⟨rfl, .cons rv .nil⟩
  | (g, x) :: r, (g', x') :: r', h1, h2 => by
    simp only [List.map_cons, List.cons.injEq] at h1
    obtain ⟨rfl, h1⟩ := h1
    cases h2 with
    | cons q qs =>
      obtain ⟨i1, i2⟩ := putL_ok rv h1 qs
      unfold putF putL
      by_cases e : g = f
      · rw [if_pos e, if_pos e]
        exact ⟨by simpa using h1, .cons rv qs⟩
      · rw [if_neg e, if_neg e]
        exact ⟨by simpa using i1, .cons q i2⟩
  | [], _ :: _, h, _ => by simp at h
  | _ :: _, [], h, _ => by simp at h
theorem lookup_rel {α : Type} {R : V → α → Prop} : ∀ {fvs : List (Str × V)} {fs : List (Str × α)} {f : Str} {l : α}, fvs.map (·.1) = fs.map (·.1) → (∀ (i : Nat) (l : α), (fs.map (·.2))[i]? = some l → ∃ v, (fvs.map (·.2))[i]? = some v ∧ R v l) → fs.lookup f = some l → ∃ v, fvs.lookup f = some v ∧ R v l
  | [], [], f, l, _, _, h => by simp at h
  | (g, x) :: r, (g', x') :: r', f, l, h1, h2, h => by
    simp only [List.map_cons, List.cons.injEq] at h1
    obtain ⟨rfl, h1⟩ := h1
    rw [List.lookup_cons] at h ⊢
    cases e : f == g with
    | true =>
      rw [e] at h
      cases h
      obtain ⟨v, a1, a2⟩ := h2 0 _ rfl
      cases a1
      exact ⟨_, rfl, a2⟩
    | false =>
      rw [e] at h
      exact lookup_rel h1 (fun i l hl => h2 (i + 1) l hl) h
  | [], _ :: _, f, l, h, _, _ => by simp at h
  | _ :: _, [], f, l, h, _, _ => by simp at h
theorem lookup_none {α : Type} : ∀ {fvs : List (Str × V)} {fs : List (Str × α)} {f : Str}, fvs.map (·.1) = fs.map (·.1) → fs.lookup f = none → fvs.lookup f = none
  | [], [], f, _, _ => rfl
  | (g, x) :: r, (g', x') :: r', f, h1, h => by
    simp only [List.map_cons, List.cons.injEq] at h1
    obtain ⟨rfl, h1⟩ := h1
    rw [List.lookup_cons] at h ⊢
    cases e : f == g with
    | true => rw [e] at h; cases h
    | false => rw [e] at h; exact lookup_none h1 h
  | [], _ :: _, f, h, _ => by simp at h
  | _ :: _, [], f, h, _ => by simp at h
/-- the value is an instance of cl, with these fields -/
def insOf (M : Led) : Lo → Option (String × List (Str × Lo))
  | .im (.ins C fs) => some (C, fs.map fun p => (p.1, Lo.im p.2))
  | .ow k => match M[k]? with
    | some (.ob C fs) => some (C, fs)
    | _ => none
  | _ => none
theorem insOf_ok {C : Fc} {As : List Addr} {G H : Hp} {Γ : Gam} {M : Led} {σ : L2.St} {v : V} {l : Lo} {cl : String} {fs : List (Str × Lo)} (S : Sat C As G H Γ M σ) (r : LRp C.K As G v l) (h : insOf M l = some (cl, fs)) :
    ∃ a dx fvs, v = .ref a ∧ H a = some (.ins (cn C.K cl) dx fvs) ∧ fvs.map (·.1) = fs.map (·.1) ∧ LRpL C.K As G (fvs.map (·.2)) (fs.map (·.2)) := by
  cases l with
  | im d =>
    cases d <;> first | (cases h; done) | skip
    rename_i cl' fs'
    cases h
    cases r with
    | ins h1 h2 h3 => exact ⟨_, _, _, rfl, S.le _ _ h1, by rw [h2, List.map_map]; rfl, by
        have e : (fs'.map fun p => (p.1, Lo.im p.2)).map (·.2) = (fs'.map (·.2)).map Lo.im := by rw [List.map_map, List.map_map]; rfl
        rw [e]
        exact LRpL.of_data h3⟩
  | ow k =>
    obtain ⟨a, ha, rfl⟩ := r
    unfold insOf at h
    dsimp only at h
    split at h
    · rename_i cl' fs' e
      cases h
      obtain ⟨_, o, h0, dx, fvs, rfl, h1, h2⟩ := S.own _ _ _ ha e (by intro z; cases z)
      exact ⟨a, dx, fvs, rfl, h0, h1, h2⟩
    · cases h
  | tp ls => cases h
structure FldOk (K : PySem.W.Frag) (C : String) (f : Str) : Prop where
  c : Cls K (cn K C)
  n : NoAttr K (cn K C) f
def rFld (cs : List String) (f : Str) (te : RE) : RE := fun Γ M K => te Γ M fun l M1 => match insOf M1 l with
  | some (C, fs) => C ∈ cs ∧ ∃ l', fs.lookup f = some l' ∧ K l' M1
  | none => False
def rSetF (cs : List String) (f : Str) (to tv : RE) : RS := fun N Γ M => tv Γ M fun l M1 => to Γ M1 fun o M2 => match o with
  | .ow k => match M2[k]? with
    | some (.ob C fs) => C ∈ cs ∧ fs.length < 1000 ∧ N.nx Γ (M2.set k (.ob C (putL f l fs)))
    | _ => False
  | _ => False
section
variable {C : Fc} {X : Cx} {e o value : Expr} {f : Str} {pos pos' : Pos} {te to tv : RE} {cs : List String}
theorem q_fld (hK : C.K = X.K) (hc : ∀ c ∈ cs, FldOk X.K c f) (he : QE C X e te) (hb : attributeBase e f X.env (eval e X.env) = eval e X.env := by rfl) : QE C X (.Attribute e f pos) (rFld cs f te) := PE.imp (pe_fld he hb) fun σ H Q ⟨As, G, Γ, M, K, S, t, q⟩ =>
  ⟨As, G, Γ, M, _, S, t, fun l M1 v As1 G1 H1 g1 rv k1 => by
    split at k1
    · rename_i cl fs e1
      obtain ⟨hcl, l', hl, k2⟩ := k1
      obtain ⟨a, dx, fvs, rfl, h1, h2, h3⟩ := insOf_ok g1.sat rv e1
      obtain ⟨v', hv, r'⟩ := lookup_rel (R := fun v l => LRp C.K As1 G1 v l) h2 (fun i l hl => h3.get hl) hl
      rw [hK] at h1
      exact ⟨a, _, dx, fvs, v', rfl, h1, (hc cl hcl).c, (hc cl hcl).n, hv, q l' M1 v' As1 G1 H1 g1 r' k2⟩
    · exact k1.elim⟩
theorem q_setF (hK : C.K = X.K) (hc : ∀ c ∈ cs, FldOk X.K c f) (ho : QE C X o to) (hv : QE C X value tv) (hs : swapsWith value (some (.Attribute o f pos')) pos.line X.env = pure false := by rfl) : QS C X (.Assign [.Attribute o f pos'] value pos) (rSetF cs f to tv) := PS.imp (ps_fld ho hv hs) fun D σ H ⟨As, G, Γ, M, N, S, t, F⟩ =>
  ⟨As, G, Γ, M, _, S, t, fun l M1 v As1 G1 H1 g1 rv k1 => ⟨As1, G1, Γ, M1, _, g1.sat, k1, fun lo M2 vo As2 G2 H2 g2 ro k2 => by
    split at k2
    · rename_i k
      split at k2
      · rename_i cl fs e1
        obtain ⟨hcl, hlen, k3⟩ := k2
        obtain ⟨a, ha, rfl⟩ := ro
        obtain ⟨_, ob, h0, dx, fvs, rfl, h1, h2⟩ := g2.sat.own _ _ _ ha e1 (by intro z; cases z)
        obtain ⟨p1, p2⟩ := putL_ok (f := f) (rv.mono g2.g g2.p) h1 h2
        have hl : fvs.length < 1000 := by
          have := congrArg List.length h1
          rw [List.length_map, List.length_map] at this
          omega
        rw [hK] at h0
        refine ⟨a, _, dx, fvs, rfl, h0, (hc cl hcl).c, (hc cl hcl).n, hl, ?_⟩
        have S3 := g2.sat.write (o := .ins (cn C.K cl) dx (putF f v fvs)) (m' := .ob cl (putL f l fs)) ha e1 (by intro z; cases z) ⟨dx, _, rfl, p1, p2⟩
        rw [hK] at S3
        exact F.nx _ _ _ _ _ _ (g1.w.trans (g2.w.trans ⟨S3, Same.refl _⟩)) k3
      · exact k2.elim
    · exact k2.elim⟩⟩
end
structure MetOk (K : PySem.W.Frag) (C : String) (m : Str) (f : Addr) : Prop where
  c : Cls K (cn K C)
  m : Meth K (cn K C) m f
/-- the object ahead of the arguments -/
def rSelf (cl : String) (m : Str) (to : RE) (t : RA) : RA := fun Γ M K => to Γ M fun l M1 => match insOf M1 l with
  | some (C, fs) => C = cl ∧ fs.lookup m = none ∧ t Γ M1 fun ls M2 => K (l :: ls) M2
  | none => False
section
variable {C : Fc} {X : Cx} {f : Addr} {o e : Expr} {es : List Expr} {m : Str} {cl : String} {to : RE} {t : RA} {apos pos : Pos}
theorem ca_meth {pl : Sem Bool} (hK : C.K = X.K) (c : MetOk X.K cl m f) (ho : QE C X o to) (ha : QA C X (e :: es) t)
    (hst : starEach (e :: es) X.env = (false, eval e X.env) :: starEach es X.env := by rfl) (hpl : (backTo pos (starEach es X.env)).any (·.1) = false := by rfl)
    (ht : eval (.Call (.Attribute o m apos) (e :: es) [] pos) X.env = (do
      let ov ← eval o X.env
      standAt apos.atName
      let (f, first) ← holding [ov] (getMethod ov m pl)
      callWith pos f first (backTo pos (starEach (e :: es) X.env)) (backToKw pos (keywordEach [] X.env))) := by rfl) :
    CA C X (.Call (.Attribute o m apos) (e :: es) [] pos) f (rSelf cl m to t) := ⟨fun pins s σ H Q R I ⟨As, G, Γ, M, K, S, h, q⟩ k => by
  refine PySem.W.methodCall_KW (pl := pl) (thn (ho.run pins s σ H (fun v H1 => ∃ (As1 : List Addr) (G1 : Hp) (M1 : Led) (l : Lo), Gr C As G As1 G1 H1 Γ M1 σ ∧ LRp C.K As1 G1 v l ∧ (match insOf M1 l with
      | some (C, fs) => C = cl ∧ fs.lookup m = none ∧ t Γ M1 fun ls M2 => K (l :: ls) M2
      | none => False)) I ⟨As, G, Γ, M, _, S, h, fun l M1 v As1 G1 H1 g1 rv k1 => ⟨As1, G1, M1, l, g1, rv, k1⟩⟩) fun u s1 ⟨x, H1, I1, rx, As1, G1, M1, l, g1, rv, k1⟩ => ?_) ht
  split at k1
  · rename_i cl' fs e1
    obtain ⟨rfl, hl, k2⟩ := k1
    obtain ⟨a, dx, fvs, rfl, h1, h2, h3⟩ := insOf_ok g1.sat rv e1
    obtain rfl : u = Value.ref a := rx
    rw [hK] at h1
    refine getmeth_ok I1 h1 c.c c.m (lookup_none h2 hl) ?_
    refine PySem.W.callWith_K (first := [.ref a]) (h₀ := X.base) I.ok.mod.kin c.m.kp (thn (ha.run pos pins s1 σ H1 (fun vs H2 => R (.ref a :: vs) H2) I1 ⟨As1, G1, Γ, M1, _, g1.sat, k2, fun ls M2 vs As2 G2 H2 g2 rl k3 => q _ M2 _ As2 G2 H2 (g1.trans g2) (.cons (rv.mono g2.g g2.p) rl) k3⟩) fun us s2 ⟨vs, H2, I2, r, q2⟩ => ⟨I2.kIn, ?_⟩) hst hpl
    exact k (.ref a :: us) s2 (.ref a :: vs) H2 I2 (.cons rfl r) q2
  · exact k1.elim⟩
theorem ca_meth0 {pl : Sem Bool} (hK : C.K = X.K) (c : MetOk X.K cl m f) (ho : QE C X o to)
    (ht : eval (.Call (.Attribute o m apos) [] [] pos) X.env = (do
      let ov ← eval o X.env
      standAt apos.atName
      let (f, first) ← holding [ov] (getMethod ov m pl)
      callWith pos f first (backTo pos (starEach [] X.env)) (backToKw pos (keywordEach [] X.env))) := by rfl) :
    CA C X (.Call (.Attribute o m apos) [] [] pos) f (rSelf cl m to rNil) := ⟨fun pins s σ H Q R I ⟨As, G, Γ, M, K, S, h, q⟩ k => by
  refine PySem.W.methodCall_KW (pl := pl) (thn (ho.run pins s σ H (fun v H1 => ∃ (As1 : List Addr) (G1 : Hp) (M1 : Led) (l : Lo), Gr C As G As1 G1 H1 Γ M1 σ ∧ LRp C.K As1 G1 v l ∧ (match insOf M1 l with
      | some (C, fs) => C = cl ∧ fs.lookup m = none ∧ rNil Γ M1 fun ls M2 => K (l :: ls) M2
      | none => False)) I ⟨As, G, Γ, M, _, S, h, fun l M1 v As1 G1 H1 g1 rv k1 => ⟨As1, G1, M1, l, g1, rv, k1⟩⟩) fun u s1 ⟨x, H1, I1, rx, As1, G1, M1, l, g1, rv, k1⟩ => ?_) ht
  split at k1
  · rename_i cl' fs e1
    obtain ⟨rfl, hl, k2⟩ := k1
    obtain ⟨a, dx, fvs, rfl, h1, h2, h3⟩ := insOf_ok g1.sat rv e1
    obtain rfl : u = Value.ref a := rx
    rw [hK] at h1
    refine getmeth_ok I1 h1 c.c c.m (lookup_none h2 hl) ?_
    exact PySem.W.callWith_K0 (first := [.ref a]) I1.kIn c.m.kp (k [.ref a] s1 [.ref a] H1 I1 (.cons rfl .nil) (q _ M1 _ As1 G1 H1 g1 (.cons rv .nil) k2))
  · exact k1.elim⟩
end

/-! ### construction -/
section
variable {C : Fc} {As : List Addr} {G H : Hp} {Γ : Gam} {M : Led} {σ : L2.St} {a : Addr} {o : HO}
/-- something new that is not looked at -/
theorem Sat.extra (S : Sat C As G H Γ M σ) (h : H a = none) : Sat C As G (upd H a o) Γ M σ := by
  have hg := S.gn h
  refine ⟨fun b u e => ?_, ⟨S.stp.g, fun b u h1 hT h2 h3 => ?_, fun b u h1 => ?_⟩, fun k b m' e1 e2 e3 => ?_, S.fr, S.inj, S.al, S.asS, fun b hb => ?_, S.slot, S.len, S.bg, S.ba, fun P q e => ⟨(S.tb P q e).1, (S.tb P q e).2.keep (Same.refl _) (S.tb P q e).2.1 (upd_ne (S.tb_ne e h))⟩⟩
  · rw [upd_ne (ne_of_none (S.le b u e) h)]
    exact S.le b u e
  · obtain ⟨q1, q2⟩ := S.stp.k b u h1 hT h2 h3
    rw [upd_ne (ne_of_none q1 h)]
    exact ⟨q1, q2⟩
  · obtain ⟨o', q⟩ := S.stp.d b u h1
    by_cases hb : b = a
    · subst hb; exact ⟨_, upd_same⟩
    · rw [upd_ne hb]; exact ⟨o', q⟩
  · obtain ⟨q1, u, q2, q3⟩ := S.own k b m' e1 e2 e3
    exact ⟨q1, u, by rw [upd_ne (ne_of_none q2 h)]; exact q2, q3⟩
  · obtain ⟨u, q⟩ := S.there b hb
    exact ⟨u, by rw [upd_ne (ne_of_none q h)]; exact q⟩
end
def rMake (cl : String) (sp : DSp) (ex : EX) (t : RA) : RE := fun Γ M K => t Γ M fun ls M1 => callU (reach (M1 ++ [.ob cl []]) 64 (.ow M1.length :: ls) []) sp ex Γ (.ow M1.length :: ls) (M1 ++ [.ob cl []]) fun l Mu => l = .im .non ∧ K (.ow M1.length) Mu
section
variable {C : Fc} {X : Cx} {k : Nat} {f : Addr} {fd : FuncData} {ps : List Str} {sp : DSp} {ex : EX} {x : Str} {cl : String} {e : Expr} {es : List Expr} {t : RA} {p pos : Pos}
theorem run_mk {pins : List (Addr × Obj)} {σ : L2.St} {H : Hp} {s : Shared} {Q : VK} {us : List Value} {vs : List V} {As : List Addr} {G : Hp} {Γ : Gam} {M1 : Led} {ls : List Lo} {K : Lo → Led → Prop} (Mx : Mk X.K (cn X.K cl) f) (F : Gn C.T X.prog X.w X.K X.mg X.base k f fd ps sp) (hb : Binds X.K fd ps []) (hr : Room (k + 1) X.A) (hg : X.A.guards = some []) (hK : C.K = X.K)
    (tk : Takes X (UW C ex)) (I : Inv X pins σ H s) (r : Vals vs us) (S : Sat C As G H Γ M1 σ) (rl : LRpL C.K As G vs ls)
    (h : callU (reach (M1 ++ [.ob cl []]) 64 (.ow M1.length :: ls) []) sp ex Γ (.ow M1.length :: ls) (M1 ++ [.ob cl []]) fun l Mu => l = .im .non ∧ K (.ow M1.length) Mu)
    (hQ : ∀ (M' : Led) (v : V) (As' : List Addr) (G' H' : Hp), Gr C As G As' G' H' Γ M' σ → LRp C.K As' G' v (.ow M1.length) → K (.ow M1.length) M' → Q v H') : wpAny (model X.prog X.w) X.A (call (.ref (cn X.K cl)) us) (EP X pins σ Q) X.xe s := by
  obtain ⟨ok, hls, hsp⟩ := h
  have n1 : H (s.heap.objs.size + 1) = none := I.hok.fresh (Nat.le_succ _)
  have n2 : H s.heap.objs.size = none := I.hok.fresh (Nat.le_refl _)
  have ne : s.heap.objs.size ≠ s.heap.objs.size + 1 := Nat.ne_of_lt (Nat.lt_succ_self _)
  have I2 := Inv.made (C := cn X.K cl) I
  have S1 : Sat C As G (upd H s.heap.objs.size (.own (s.heap.objs.size + 1))) Γ M1 σ := S.extra n2
  have n3 : upd H s.heap.objs.size (.own (s.heap.objs.size + 1)) (s.heap.objs.size + 1) = none := by rw [upd_ne (Ne.symm ne)]; exact n1
  have S2 := S1.alloc (o := .ins (cn X.K cl) s.heap.objs.size []) (m := .ob cl []) n3 ⟨s.heap.objs.size, [], by rw [hK], rfl, .nil⟩
  have rl2 : LRpL C.K (As ++ [s.heap.objs.size + 1]) G (.ref (s.heap.objs.size + 1) :: vs) (.ow M1.length :: ls) := .cons ⟨_, by rw [← S.al]; simp, rfl⟩ (rl.mono (Same.refl _) (as_pre _ _))
  have r2 : Vals (V.ref (s.heap.objs.size + 1) :: vs) (Value.ref (s.heap.objs.size + 1) :: us) := .cons rfl r
  refine wpAny_call (make_map (f := f) I.kIn Mx.makes Mx.init (beq_iff_eq.mp Mx.fn) (codeAny_mono (gn_core (A' := X.A.under (.builtin "type.__call__" ⟨.ref (cn X.K cl) :: us, []⟩)) (Q := fun v H2 => v = .non ∧ Q (.ref (s.heap.objs.size + 1)) H2) F (hr.make _ us []) hg (I2.env0.make _ us []) I2.kIn hb hK r2 S2 rl2 ok hls hsp
    (fun l Mu v As' G' H' g rv k => ?_) fun x Mu k => k) fun res s' hq => ?_))
  · obtain ⟨kl, k⟩ := k
    rw [kl] at rv
    obtain rfl : v = .non := by cases rv; rfl
    refine ⟨rfl, hQ _ _ As' G' H' ⟨g.sat, g.g, (as_pre _ _).trans g.p⟩ ⟨_, pre_get g.p (by rw [← S.al]; simp), rfl⟩ k⟩
  · cases res with
    | error e => exact passAt tk σ pins _ _ e s' I2 hq
    | ok fl =>
      cases fl with
      | ret u =>
        obtain ⟨v, H', I3, rv, ev, q3⟩ := I2.after hq
        subst ev
        exact ⟨rv, ⟨V.ref (s.heap.objs.size + 1), H', I3, rfl, q3⟩⟩
      | next => exact False.elim hq
      | brk => exact False.elim hq
      | cont => exact False.elim hq
theorem q_make (hm : X.mg x = some (.ref (cn X.K cl))) (Mx : Mk X.K (cn X.K cl) f) (F : Gn C.T X.prog X.w X.K X.mg X.base k f fd ps sp) (hb : Binds X.K fd ps []) (hr : Room (k + 1) X.A) (hg : X.A.guards = some []) (hK : C.K = X.K) (tk : Takes X (UW C ex)) (ha : QA C X (e :: es) t)
    (hgl : Gl X x := by rfl) (hdb : (x == ("__debug__" : Str)) = false := by decide) (he : starEach (e :: es) X.env = (false, eval e X.env) :: starEach es X.env := by rfl) (hpl : (backTo pos (starEach es X.env)).any (·.1) = false := by rfl) :
    QE C X (.Call (.Name x p) (e :: es) [] pos) (rMake cl sp ex t) := ⟨fun pins s σ H Q I ⟨As, G, Γ, M, K, S, h, q⟩ => by
  refine wpAny_Call_Name_kw (ld_glob I hgl hm ?_ hdb)
  refine PySem.W.callWith_K (h₀ := X.base) I.ok.mod.kin Mx.kp (thn (ha.run pos pins s σ H (fun vs H1 => ∃ (As1 : List Addr) (G1 : Hp) (M1 : Led) (ls : List Lo), Gr C As G As1 G1 H1 Γ M1 σ ∧ LRpL C.K As1 G1 vs ls ∧ _) I ⟨As, G, Γ, M, _, S, h, fun ls M1 vs As1 G1 H1 g1 rl k1 => ⟨As1, G1, M1, ls, g1, rl, k1⟩⟩) fun us s1 ⟨vs, H1, I1, r, As1, G1, M1, ls, g1, rl, k1⟩ => ⟨I1.kIn, ?_⟩) he hpl
  exact run_mk Mx F hb hr hg hK tk I1 r g1.sat rl k1 fun M' v As' G' H' g rv k => q _ _ v As' G' H' (g1.trans g) rv k⟩
theorem q_make0 (hm : X.mg x = some (.ref (cn X.K cl))) (Mx : Mk X.K (cn X.K cl) f) (F : Gn C.T X.prog X.w X.K X.mg X.base k f fd ps sp) (hb : Binds X.K fd ps []) (hr : Room (k + 1) X.A) (hg : X.A.guards = some []) (hK : C.K = X.K) (tk : Takes X (UW C ex))
    (hgl : Gl X x := by rfl) (hdb : (x == ("__debug__" : Str)) = false := by decide) : QE C X (.Call (.Name x p) [] [] pos) (rMake cl sp ex rNil) := ⟨fun pins s σ H Q I ⟨As, G, Γ, M, K, S, h, q⟩ => by
  refine wpAny_Call_Name_kw (ld_glob I hgl hm ?_ hdb)
  exact PySem.W.callWith_K0 I.kIn Mx.kp (run_mk Mx F hb hr hg hK tk I .nil S .nil h fun M' v As' G' H' g rv k => q _ _ v As' G' H' g rv k)⟩
end
/-! ### a property -/
def rProp (cl : String) (sp : DSp) (to : RE) : RE := fun Γ M K => to Γ M fun l M1 => match insOf M1 l with
  | some (C, _) => C = cl ∧ callU (reach M1 64 [l] []) sp exF Γ [l] M1 K
  | none => False
section
variable {C : Fc} {X : Cx} {k : Nat} {p g : Addr} {fd : FuncData} {ps : List Str} {sp : DSp} {cl : String} {e : Expr} {f : Str} {to : RE} {pos : Pos}
theorem q_prop (hK : C.K = X.K) (c : Cls X.K (cn X.K cl)) (hp : PropOf X.K (cn X.K cl) f p g) (F : Gn C.T X.prog X.w X.K X.mg X.base k g fd ps sp) (hb : Binds X.K fd ps []) (hr : Room (k + 1) X.A) (hg : X.A.guards = some []) (he : QE C X e to) (hab : attributeBase e f X.env (eval e X.env) = eval e X.env := by rfl) : QE C X (.Attribute e f pos) (rProp cl sp to) := ⟨fun pins s σ H Q I ⟨As, G, Γ, M, K, S, h, q⟩ => by
  refine attr_of hab (thn (he.run pins s σ H (fun v H1 => ∃ (As1 : List Addr) (G1 : Hp) (M1 : Led) (l : Lo), Gr C As G As1 G1 H1 Γ M1 σ ∧ LRp C.K As1 G1 v l ∧ (match insOf M1 l with
      | some (C, _) => C = cl ∧ callU (reach M1 64 [l] []) sp exF Γ [l] M1 K
      | none => False)) I ⟨As, G, Γ, M, _, S, h, fun l M1 v As1 G1 H1 g1 rv k1 => ⟨As1, G1, M1, l, g1, rv, k1⟩⟩) fun u s1 ⟨x, H1, I1, rx, As1, G1, M1, l, g1, rv, k1⟩ => ?_)
  split at k1
  · rename_i cl' fs e1
    obtain ⟨rfl, ok, hls, hsp⟩ := k1
    obtain ⟨a, dx, fvs, rfl, h1, h2, h3⟩ := insOf_ok g1.sat rv e1
    obtain rfl : u = Value.ref a := rx
    rw [hK] at h1
    obtain ⟨mA, O, _, _, _, _⟩ := ins_get I1.hok h1
    obtain ⟨od, J, _⟩ := O.look
    obtain ⟨rest, hrec⟩ := hp.rec_
    have I2 := I1.tok (s1.toks + 1)
    have hc : (PySem.W.clsIn X.K (cn X.K cl')).isSome = true := by
      obtain ⟨cd, hc, _⟩ := PySem.W.any_some c.hd
      rw [hc]
      rfl
    refine PySem.W.get_bind I1.kIn J (PySem.W.plainGet_of (c.get f)).1 (PySem.W.findObj_data hc hp.at_ hp.get hp.tak) (PySem.W.plainGet_of (c.get f)).2 (wpAny_call (PySem.W.prop_get (s := { s1 with toks := s1.toks + 1 }) I1.kIn hrec ?_))
    refine codeAny_mono (gn_core (A' := X.A.in1) (ex := exF) (Q := Q) F hr.in1 hg I2.env0.in1 I2.kIn hb hK (us := [.ref a]) (vs := [.ref a]) (.cons rfl .nil) g1.sat (.cons rv .nil) ok hls hsp (fun l Mu v As' G' H' g rv k => q _ _ v As' G' H' (g1.trans g) rv k) fun x Mu k => k) fun r s' hq => ?_
    cases r with
    | error er =>
      obtain ⟨_, _, _, _, _, _, _, _, _, _, _, _, _, _, _, _, _, _, _, z⟩ := hq
      exact z.elim
    | ok fl =>
      cases fl with
      | ret u =>
        obtain ⟨v, H', I3, rv, q3⟩ := I2.after hq
        show wpAny _ _ (handedOut u) _ _ _
        rw [PySem.W.handedOut_of (handed_of rv)]
        exact wpAny_pure ⟨v, H', I3, rv, q3⟩
      | next => exact False.elim hq
      | brk => exact False.elim hq
      | cont => exact False.elim hq
  · exact k1.elim⟩
end
end Dl

set_option Elab.async false
set_option maxRecDepth 100000
set_option maxHeartbeats 4000000
/-! sets of the ints of a list or a tuple: how many, and in order -/
namespace Dl
open PySem PySem.Spec PyProof.Rows L2
section
variable {P : Program} {w : World} {A : Around} {E : Value → Shared → Prop} {s : Shared} {l : Addr} {its : Array Value} {ns : List Int}
/-- a set without members -/
abbrev so0 (w : World) : Obj := { cls := .type "set", dict := none, data := .set #[] 0 (.fresh 0 0 (!w.params.followText "set-order")) }
/-- what the filling leaves -/
abbrev SFill (w : World) (s : Shared) (a : Addr) (ns : List Int) (s2 : Shared) : Prop := ∃ h' tk c, s2 = { s with heap := h', toks := tk } ∧ SetR w h' a (fun j => decide (j ∈ ns)) c ∧ c ≤ ns.length ∧ ∀ b o, s.heap.get? b = some o → h'.get? b = some o
theorem ia_at (hi : IntsAre its.toList ns) (hz : its.size = ns.length) (i : Nat) (v : Value) (hv : its[i]? = some v) : ∃ k t, ns[i]? = some k ∧ v = .int k t := by
  obtain ⟨t, e⟩ := PyProof.Rows.IntsAre.int_at hi i v (by rw [Array.getElem?_toList]; exact hv)
  have lt : i < ns.length := by have := (Array.getElem?_eq_some_iff.mp hv).1; omega
  have g : ns[i]? = some (ns.getD i 0) := by rw [List.getD_eq_getElem?_getD, List.getElem?_eq_getElem lt]; rfl
  exact ⟨_, t, g, e⟩
/-- the filling of a new set from a list -/
theorem fill_lst {R : Result → Shared → Prop} (hh : A.in1.handled = none) (hl : s.heap.IsList l its) (hi : IntsAre its.toList ns) (hb : ns.length + 1 < scanBound) (hR : ∀ s2, SFill w s s.heap.objs.size ns s2 → R (.ok (.ret .none)) s2) :
    codeAny (model P w) A (.builtin "set.update.loop" ⟨[.ref s.heap.objs.size, .ref (s.heap.push (so0 w)).objs.size], []⟩) R { s with heap := (s.heap.push (so0 w)).push { cls := .type "list_iterator", data := .fields #[.ref l, .int 0 0] } } := by
  have hz : its.size = ns.length := by rw [← Array.length_toList]; exact IntsAre.length hi
  obtain ⟨ol, hol, _⟩ := id hl
  have lt := Heap.lt_size hol
  have n1 : l ≠ (s.heap.push (so0 w)).objs.size := by rw [Heap.size_push]; exact Nat.ne_of_lt (Nat.lt_succ_of_lt lt)
  have n2 : s.heap.objs.size ∉ [(s.heap.push (so0 w)).objs.size, l] := by
    rw [Heap.size_push]
    simp only [List.mem_cons, List.not_mem_nil, or_false, not_or]
    exact ⟨Nat.ne_of_lt (Nat.lt_succ_self _), Nat.ne_of_gt lt⟩
  have g1 : (s.heap.push (so0 w)).get? s.heap.objs.size = some (so0 w) := Heap.get?_push_size _ rfl
  refine set_update_ints (Walks.list hh _ l n1 its).toS s.heap.objs.size n2 ns hz hb (fun i v hv => ia_at hi hz i v hv) its.size 0 _ (Nat.sub_zero _) (Nat.zero_le _) ⟨⟨_, Heap.get?_push_size _ rfl, rfl, rfl⟩, (hl.push _).push _⟩ ⟨0, Nat.le_refl 0, setR_new_at (Heap.get?_push_of_some _ g1)⟩ fun s2 c hm hc hS => hR s2 ⟨s2.heap, s2.toks, c, ?_, hS, by omega, fun b o e => ?_⟩
  · obtain ⟨a1, a2, a3, a4, a5⟩ := s2
    cases hm.gens
    cases hm.drawn
    cases hm.os
    rfl
  · have b1 := Heap.lt_size e
    refine hm.heap b o ?_ (Heap.get?_push_of_some _ (Heap.get?_push_of_some _ e))
    rw [Heap.size_push]
    simp only [List.mem_cons, List.not_mem_nil, or_false, not_or]
    exact ⟨Nat.ne_of_lt b1, Nat.ne_of_lt (Nat.lt_succ_of_lt b1)⟩
/-- set.__init__ of the new set, from a list -/
theorem init_lst {Q : Value → Shared → Prop} (hh : A.handled = none) (hl : s.heap.IsList l its) (hi : IntsAre its.toList ns) (hb : ns.length + 1 < scanBound) (hQ : ∀ s2, SFill w s s.heap.objs.size ns s2 → Q .none s2) :
    codeAny (model P w) A (.call (.builtin "set.__init__") ⟨[.ref s.heap.objs.size, .ref l], []⟩) (wants Q E) { s with heap := s.heap.push (so0 w) } := by
  have ty : Shared.TypeIs { s with heap := s.heap.push (so0 w) } (.ref s.heap.objs.size) "set" := ⟨_, Heap.get?_push_size _ rfl, rfl⟩
  refine codeAny_call_builtin F.called_set.init.plain F.entry_set_init (check_set_init_1 ty ?_)
  obtain ⟨⟨oc, od, dt, sl⟩, g0, c0, m0, d0⟩ := id hl
  simp only at c0 d0
  subst c0 d0
  have g2 := Heap.get?_push_of_some (so0 w) g0
  have il : (s.heap.push (so0 w)).IsList l its := ⟨_, g2, rfl, m0, rfl⟩
  have k1 := F.sub_list_set
  have k2 := F.sub_list_frozenset
  have k3 : (Value.type "list" == Value.type "dict") = false := rfl
  unfold Builtin.«set.__init__» noKeywords Builtin.Frozenset.updateFrom
  generalize hp : pyIter = it
  wp_walk
  subst hp
  refine wpAny_pyIter_list il (wpAny_bind (wpAny_runValue (fill_lst (by simp [hh]) hl hi hb fun s2 f => ?_)))
  exact wpAny_pure (wpAny_pure (hQ s2 f))
theorem call_setL {Q : Value → Shared → Prop} (hh : A.handled = none) (hl : s.heap.IsList l its) (hi : IntsAre its.toList ns) (hb : ns.length + 1 < scanBound) (hQ : ∀ s2, SFill w s s.heap.objs.size ns s2 → Q (.ref s.heap.objs.size) s2) : wpAny (model P w) A (call (.type "set") [.ref l]) Q E s := by
  obtain ⟨_, _, m1⟩ := F.called_set.mro
  have m2 := F.called_set.made
  have m3 := F.called_set.sub
  have m4 := F.called_set.notType
  have m5 := F.called_set.canCreate
  have m6 := F.typeCall_set_1 (.ref l)
  refine wpAny_call (codeAny_of_tree (?_ : wpAny _ _ (callAny (.type "set") _) _ _ _))
  refine wpAny_pure ⟨Code.quiet_builtin _ (by decide +kernel), codeAny_builtin F.entry_type_call ?_⟩
  rw [Around.under_plain (weight_type_call_type "set" [.ref l] []) rfl]
  repeat (any_goals (first | assumption | wp_step))
  refine codeAny_mono (code_set_led1 (.ref l) (E := E) (Q₁ := fun v s1 => v = .ref s.heap.objs.size ∧ s1 = { s with heap := s.heap.push (so0 w) }) ⟨rfl, rfl⟩) fun r s1 z => ?_
  cases r with
  | error e => exact z
  | ok f =>
    cases f with
    | ret v =>
      obtain ⟨rfl, rfl⟩ := z
      have ty : Shared.TypeIs { s with heap := s.heap.push (so0 w) } (.ref s.heap.objs.size) "set" := ⟨_, Heap.get?_push_size _ rfl, rfl⟩
      have m7 := F.called_set.init.lookup
      have m8 := F.called_set.init.bind (.ref s.heap.objs.size)
      repeat (any_goals (first | assumption | wp_step))
      refine codeAny_mono (init_lst (E := E) (Q := fun v s2 => v = .none ∧ SFill w s s.heap.objs.size ns s2) (by simp [hh]) hl hi hb fun s2 f => ⟨rfl, f⟩) fun r2 s2 z2 => ?_
      cases r2 with
      | error e => exact z2
      | ok f2 =>
        cases f2 with
        | ret v2 =>
          obtain ⟨rfl, f⟩ := z2
          repeat (any_goals (first | assumption | wp_step))
          exact hQ s2 f
        | _ => exact z2.elim
    | _ => exact z.elim
end

/-- a new set of the ints of a list or a tuple -/
theorem set_seq {X : Cx} {pins : List (Addr × Obj)} {σ : L2.St} {H : Hp} {s : Shared} {l : Addr} {ns : List Int} {E : Value → Shared → Prop} {Q : Value → Shared → Prop} (hc : X.calm = true) (I : Inv X pins σ H s) (h : SqL X.K H l (ns.map V.int) ∨ SqT X.K H l (ns.map V.int)) (hb : ns.length ≤ 1000)
    (hQ : ∀ s2 c, SetR X.w s2.heap s.heap.objs.size (fun j => decide (j ∈ ns)) c → c ≤ ns.length → Inv X pins σ H s2 → Q (.ref s.heap.objs.size) s2) : wpAny (model X.prog X.w) X.A (call (.type "set") [.ref l]) Q E s := by
  rcases h with h | h
  · obtain ⟨its, r, pl, hz⟩ := I.list h
    refine call_setL (I.ok.hd hc) pl.isList (ns := ns) (ints_of_vals r) (by unfold scanBound; omega) fun s2 f => ?_
    obtain ⟨h', tk, c, rfl, R, c1, k⟩ := f
    exact hQ _ c R c1 (I.kept k)
  · obtain ⟨its, r, pl, hz⟩ := I.tuple h
    refine call_set_tupI ns (I.ok.hd hc) (show s.heap.IsTuple l its.toArray from pl) (ints_of_vals r) (by unfold scanBound; omega) fun h' tk c R c1 k => ?_
    exact hQ _ c R c1 (I.kept k)
/-! ### sorted(set(e)), len(set(e)) -/
def uq : List Int → List Int
  | [] => []
  | [a] => [a]
  | a :: b :: r => if a = b then uq (b :: r) else a :: uq (b :: r)
theorem uq_mem {k : Int} : ∀ l : List Int, k ∈ uq l ↔ k ∈ l
  | [] => Iff.rfl
  | [a] => Iff.rfl
  | a :: b :: r => by
    have ih := uq_mem (k := k) (b :: r)
    unfold uq
    split
    · rename_i e
      subst e
      rw [ih]
      simp
    · rw [List.mem_cons, ih, List.mem_cons (a := k) (b := a)]
theorem uq_pw : ∀ {l : List Int}, l.Pairwise (· ≤ ·) → (uq l).Pairwise (· < ·)
  | [], _ => List.Pairwise.nil
  | [a], _ => List.pairwise_singleton _ _
  | a :: b :: r, h => by
    have h2 := (List.pairwise_cons.mp h).2
    have ih := uq_pw h2
    unfold uq
    split
    · exact ih
    · rename_i e
      refine List.pairwise_cons.mpr ⟨fun x hx => ?_, ih⟩
      have hx := (uq_mem _).mp hx
      have h1 := (List.pairwise_cons.mp h).1
      have hb := h1 b List.mem_cons_self
      rcases List.mem_cons.mp hx with rfl | hx
      · omega
      · have := (List.pairwise_cons.mp h2).1 x hx
        omega
/-- the members of a list of ints, ascending -/
def srtU (ns : List Int) : List Int := uq (srt ns)
theorem srtU_mem {ns : List Int} {k : Int} : k ∈ srtU ns ↔ k ∈ ns := (uq_mem _).trans (srt_perm ns).mem_iff
theorem srtU_pw (ns : List Int) : (srtU ns).Pairwise (· < ·) := uq_pw (srt_pw ns)
theorem pw_uniq : ∀ {xs ys : List Int}, xs.Pairwise (· < ·) → ys.Pairwise (· < ·) → (∀ k, k ∈ xs ↔ k ∈ ys) → xs = ys
  | [], [], _, _, _ => rfl
  | [], y :: ys, _, _, h => absurd ((h y).mpr List.mem_cons_self) (by simp)
  | x :: xs, [], _, _, h => absurd ((h x).mp List.mem_cons_self) (by simp)
  | x :: xs, y :: ys, h1, h2, h => by
    obtain ⟨a1, a2⟩ := List.pairwise_cons.mp h1
    obtain ⟨b1, b2⟩ := List.pairwise_cons.mp h2
    have e : x = y := by
      have q1 := (h x).mp List.mem_cons_self
      have q2 := (h y).mpr List.mem_cons_self
      rcases List.mem_cons.mp q1 with e | q1
      · exact e
      · rcases List.mem_cons.mp q2 with e | q2
        · exact e.symm
        · have := b1 x q1
          have := a1 y q2
          omega
    subst e
    refine congrArg (x :: ·) (pw_uniq a2 b2 fun k => ?_)
    have := h k
    rw [List.mem_cons, List.mem_cons] at this
    constructor
    · intro hk
      have lt := a1 k hk
      exact (this.mp (.inr hk)).resolve_left (by omega)
    · intro hk
      have lt := b1 k hk
      exact (this.mpr (.inr hk)).resolve_left (by omega)
theorem srtU_of {ns xs : List Int} (h1 : xs.Pairwise (· < ·)) (h2 : ∀ k, k ∈ xs ↔ k ∈ ns) : xs = srtU ns := pw_uniq h1 (srtU_pw ns) fun k => (h2 k).trans srtU_mem.symm
theorem srtU_self {ns : List Int} (h : ns.Pairwise (· < ·)) : srtU ns = ns := (srtU_of h fun _ => Iff.rfl).symm
theorem setR_len {w : World} {h : Heap} {a : Addr} {ns : List Int} {c : Nat} (R : SetR w h a (fun j => decide (j ∈ ns)) c) : (srtU ns).length = c := by
  obtain ⟨o, es, ep, t, ho, hx, hd, g, nd, hm, hb, hf, hn, _⟩ := R
  have p : (srtU ns).Perm (es.toList.map keyOf) := (List.perm_ext_iff_of_nodup ((srtU_pw ns).imp fun h => Int.ne_of_lt h) nd).mpr fun k => by
    rw [srtU_mem, ← hm k]
    simp
  rw [p.length_eq, List.length_map, Array.length_toList]
  exact hn
def tSeqI (K : PySem.W.Frag) (te : TE) (Z : List Int → Hp → VK → Prop) : TE := fun σ H Q => te σ H fun x H1 => ∃ (l : Addr) (ns : List Int), x = .ref l ∧ (SqL K H1 l (ns.map V.int) ∨ SqT K H1 l (ns.map V.int)) ∧ Z ns H1 Q
section
variable {X : Cx} {e : Expr} {te : TE} {p p2 q pos : Pos}
theorem pe_lenSetU (hg : Gl X "len") (hm : X.mg "len" = none) (hg2 : Gl X "set") (hm2 : X.mg "set" = none) (ha : PE X e te) (hc : X.calm = true := by rfl)
    (na : starEach [e] X.env = (false, eval e X.env) :: starEach [] X.env := by rfl) : PE X (.Call (.Name "len" p) [.Call (.Name "set" p2) [e] [] q] [] pos) (tSeqI X.K te fun ns H Q => ns.length ≤ 1000 ∧ Q (.int ((srtU ns).length : Nat)) H) := by
  refine ⟨fun pins s σ H Q I h => ?_⟩
  refine Call_ (ld_blt I hg hm boot_len ?_)
  refine PyProof.Rows.callWith_builtin1 (PyProof.Rows.args_cons ?_ rfl) rfl rfl
  refine Call_ (ld_blt I hg2 hm2 PyProof.Rows.boot_set ?_)
  refine PyProof.Rows.callWith_type1 (PyProof.Rows.args_cons (thn (ha.run pins s σ H _ I h) fun v s1 ⟨x, H1, I1, r1, q1⟩ => PyProof.Rows.args_nil ?_) na) na rfl
  obtain ⟨l, ns, rfl, hq, hl, q1⟩ := q1
  cases r1
  refine set_seq hc I1 hq hl fun s2 c R c1 I2 => PyProof.Rows.args_nil ?_
  have hlen := setR_len R
  obtain ⟨o, es, ep, t, ho, hex, hd, _, _, _, _, hf, hn, _⟩ := id R
  exact call_len_set ho hex hd hf (by rw [hn]; omega) ⟨.int ((srtU ns).length : Nat), H1, I2.tok _, ⟨_, by rw [hn, hlen]⟩, q1⟩
theorem pe_srtSetU (hg : Gl X "sorted") (hm : X.mg "sorted" = none) (hg2 : Gl X "set") (hm2 : X.mg "set" = none) (ha : PE X e te) (hc : X.calm = true := by rfl)
    (na : starEach [e] X.env = (false, eval e X.env) :: starEach [] X.env := by rfl) : PE X (.Call (.Name "sorted" p) [.Call (.Name "set" p2) [e] [] q] [] pos) (tSeqI X.K te fun ns H Q => ns.length < 64 ∧ ∀ p, H p = none → Q (.ref p) (upd H p (.lst ((srtU ns).map V.int)))) := by
  refine ⟨fun pins s σ H Q I h => ?_⟩
  refine Call_ (ld_blt I hg hm boot_sorted ?_)
  refine PyProof.Rows.callWith_builtin1 (PyProof.Rows.args_cons ?_ rfl) rfl rfl
  refine Call_ (ld_blt I hg2 hm2 PyProof.Rows.boot_set ?_)
  refine PyProof.Rows.callWith_type1 (PyProof.Rows.args_cons (thn (ha.run pins s σ H _ I h) fun v s1 ⟨x, H1, I1, r1, q1⟩ => PyProof.Rows.args_nil ?_) na) na rfl
  obtain ⟨l, ns, rfl, hq, hl, q1⟩ := q1
  cases r1
  refine set_seq hc I1 hq (by omega) fun s2 c R c1 I2 => PyProof.Rows.args_nil ?_
  refine sorted_set R (I2.ok.hd hc) (by omega) fun s' p out c2 ms k g o hp hgo hi hs hmem hlen => ?_
  have em : ms = srtU ns := srtU_of hs fun k => by rw [hmem k]; simp
  subst em
  have hz : ((srtU ns).map V.int).length ≤ sizeLine := by rw [List.length_map, hlen, sizeLine_eq]; omega
  have hn : H1 p = none := I2.hok.fresh hp
  have J : Inv X pins σ (upd H1 p (.lst ((srtU ns).map V.int))) { s2 with heap := s'.heap, gens := s'.gens, drawn := s'.drawn, toks := s'.toks } :=
    I2.call (ch := []) (Un.laid k hp hn) (I2.hok.laid k hp ⟨hz, out.toList, c2, vals_of_ints hi, hgo⟩) (by rw [g]; exact I2.bare) (fun _ z => nomatch z)
  have e2 : s' = { s2 with heap := s'.heap, gens := s'.gens, drawn := s'.drawn, toks := s'.toks } := by
    cases s'
    cases s2
    cases o
    rfl
  rw [e2]
  exact ⟨.ref p, _, J, rfl, q1 p hn⟩
end
/-- the ints of a list, of a tuple -/
def rLenSet (te : RE) : RE := fun Γ M K => te Γ M fun l M1 => match seqOf M1 l with
  | some ds => ∃ ns : List Int, some (D.lst ds) = some (.lst (ns.map D.int)) ∧ ns.length ≤ 1000 ∧ K (.im (.int ((srtU ns).length : Nat))) M1
  | none => False
def rSrtSet (out : Hand) (te : RE) : RE := fun Γ M K => te Γ M fun l M1 => match seqOf M1 l with
  | some ds => ∃ ns : List Int, some (D.lst ds) = some (.lst (ns.map D.int)) ∧ ns.length < 64 ∧ out ((srtU ns).map D.int) M1 K
  | none => False
section
variable {C : Fc} {X : Cx} {e : Expr} {te : RE} {p p2 q pos : Pos} {out : Hand}
theorem q_lenSet (hK : C.K = X.K) (hm : X.mg "len" = none) (hm2 : X.mg "set" = none) (ha : QE C X e te) (hg : Gl X "len" := by rfl) (hg2 : Gl X "set" := by rfl) (hc : X.calm = true := by rfl)
    (na : starEach [e] X.env = (false, eval e X.env) :: starEach [] X.env := by rfl) : QE C X (.Call (.Name "len" p) [.Call (.Name "set" p2) [e] [] q] [] pos) (rLenSet te) := PE.imp (pe_lenSetU hg hm hg2 hm2 ha hc na) fun σ H Q ⟨As, G, Γ, M, K, S, t, q⟩ =>
  ⟨As, G, Γ, M, _, S, t, fun l M1 v As1 G1 H1 g1 rv k1 => by
    split at k1
    · rename_i ds e1
      obtain ⟨ns, e2, hl, k2⟩ := k1
      cases e2
      obtain ⟨a, xs, rfl, h1, h2⟩ := g1.sat.seq rv e1
      obtain rfl := RpL.ints h2
      rw [hK] at h1
      exact ⟨a, ns, rfl, h1, hl, q (.im (.int _)) M1 _ As1 G1 H1 g1 (Rp.int _) k2⟩
    · exact k1.elim⟩
theorem q_srtSet (hK : C.K = X.K) (hout : OutN out) (hm : X.mg "sorted" = none) (hm2 : X.mg "set" = none) (ha : QE C X e te) (hg : Gl X "sorted" := by rfl) (hg2 : Gl X "set" := by rfl) (hc : X.calm = true := by rfl)
    (na : starEach [e] X.env = (false, eval e X.env) :: starEach [] X.env := by rfl) : QE C X (.Call (.Name "sorted" p) [.Call (.Name "set" p2) [e] [] q] [] pos) (rSrtSet out te) := PE.imp (pe_srtSetU hg hm hg2 hm2 ha hc na) fun σ H Q ⟨As, G, Γ, M, K, S, t, q⟩ =>
  ⟨As, G, Γ, M, _, S, t, fun l M1 v As1 G1 H1 g1 rv k1 => by
    split at k1
    · rename_i ds e1
      obtain ⟨ns, e2, hl, k2⟩ := k1
      cases e2
      obtain ⟨a, xs, rfl, h1, h2⟩ := g1.sat.seq rv e1
      obtain rfl := RpL.ints h2
      rw [hK] at h1
      exact ⟨a, ns, rfl, h1, hl, fun p0 hp => hout g1.sat hp (RpL.of_ints _) k2 fun l2 M2 v2 As2 G2 H2 g2 r2 k3 => q l2 M2 v2 As2 G2 H2 (g1.trans g2) r2 k3⟩
    · exact k1.elim⟩
end
theorem rLenSet_e (te : RE) : ∀ Γ M K, rLenSet te Γ M K = (te Γ M fun l M1 => match seqOf M1 l with
  | some ds => @IntsI (some (.lst ds)) ⟨fun ns => ns.length ≤ 1000 ∧ K (.im (.int ((srtU ns).length : Nat))) M1⟩
  | none => False) := fun _ _ _ => rfl
theorem rSrtSet_e (out : Hand) (te : RE) : ∀ Γ M K, rSrtSet out te Γ M K = (te Γ M fun l M1 => match seqOf M1 l with
  | some ds => @IntsI (some (.lst ds)) ⟨fun ns => ns.length < 64 ∧ out ((srtU ns).map D.int) M1 K⟩
  | none => False) := fun _ _ _ => rfl
end Dl

set_option Elab.async false
set_option maxRecDepth 100000
set_option maxHeartbeats 1000000
namespace Dl
open PySem PySem.Spec PyProof.Rows L2
/-! ### == of instances by an own __eq__ -/
def rRawC (X : Cx) (op : CmpOp) : R2 := fun x y H Q => ∀ (pins : List (Addr × Obj)) (σ : L2.St) (s : Shared) (u v : Value), Inv X pins σ H s → RelV x u → RelV y v → wpAny (model X.prog X.w) X.A (compareOp op u v) (EP X pins σ Q) X.xe s
theorem op_rawC {X : Cx} {op : CmpOp} : OpR X (compareOp op) (rRawC X op) := fun pins s σ H x y v u Q I rx ry h => h pins σ s v u I rx ry
def oEqO (cl : String) (sp : DSp) : R2L := fun x y M K => match insOf M x, insOf M y with
  | some (C, _), some (C', _) => C = cl ∧ C' = cl ∧ callU (reach M 64 [x, y] []) sp exF [] [x, y] M K
  | _, _ => False
section
variable {C : Fc} {X : Cx} {k : Nat} {g : Addr} {fd : FuncData} {ps : List Str} {sp : DSp} {cl : String}
theorem eqOL (hK : C.K = X.K) (c : MetOk X.K cl "__eq__" g) (F : Gn C.T X.prog X.w X.K X.mg X.base k g fd ps sp) (hb : Binds X.K fd ps []) (hr : Room k X.A) (hg : X.A.guards = some []) : OpL C (rRawC X .Eq) (oEqO cl sp) := fun {As G H Γ M σ x y lx ly K Q} S rx ry t q => by
  intro pins σ' s u v I r1 r2
  unfold oEqO at t
  split at t
  · rename_i e1 e2
    obtain ⟨rfl, rfl, ok, hls, hsp⟩ := t
    obtain ⟨a, dx, fvs, rfl, h1, _, _⟩ := insOf_ok S rx e1
    obtain ⟨b, dy, gvs, rfl, h2, _, _⟩ := insOf_ok S ry e2
    obtain rfl : u = Value.ref a := r1
    obtain rfl : v = Value.ref b := r2
    rw [hK] at h1 h2
    obtain ⟨_, O1, _, _, _, _⟩ := ins_get I.hok h1
    obtain ⟨_, O2, _, _, _, _⟩ := ins_get I.hok h2
    obtain ⟨od, J, _⟩ := O1.look
    obtain ⟨od', J', _⟩ := O2.look
    obtain ⟨m, hF⟩ := I.fr
    have S' : Sat C As G H [] M [] := ⟨S.le, S.stp, S.own, S.fr, S.inj, S.al, S.asS, S.there, fun i l e => by simp at e, rfl, S.bg, S.ba, S.tb⟩
    show wpAny _ _ (richCompare .Eq _ _) _ _ _
    refine PySem.W.cmp_K (op := .Eq) (tb := .ref _) hr.units0 hF I.ok.mod.kin J J'.type (by unfold PySem.W.notFirst; simp) (show PySem.W.findIn X.K _ "__eq__" = _ from c.m.at_) c.m.fn ?_
    refine wpAny_call (codeAny_mono (gn_core (ex := exF) (Γ := []) (σ := []) (Q := Q) F hr hg I.env0 I.kIn hb hK (us := [.ref a, .ref b]) (vs := [.ref a, .ref b]) (.cons rfl (.cons rfl .nil)) S' (.cons rx (.cons ry .nil)) ok hls hsp (fun l Mu v As' G' H' g rv k => q _ _ v As' G' H' ⟨⟨g.sat.le, g.sat.stp, g.sat.own, g.sat.fr, g.sat.inj, g.sat.al, g.sat.asS, g.sat.there, fun i l e => by
      obtain ⟨w, q1, q2⟩ := S.slot i l e
      exact ⟨w, q1, q2.mono g.g g.p⟩, S.len, g.sat.bg, g.sat.ba, g.sat.tb⟩, g.g, g.p⟩ rv k) fun x Mu k => k) fun r s' hq => ?_)
    cases r with
    | error er =>
      obtain ⟨_, _, _, _, _, _, _, _, _, _, _, _, _, _, _, _, _, _, _, z⟩ := hq
      exact z.elim
    | ok fl =>
      cases fl with
      | ret u =>
        obtain ⟨v, H', I3, rv, q3⟩ := I.after hq
        exact SlX.cmpback rv ⟨v, H', I3, rv, q3⟩
      | next => exact False.elim hq
      | brk => exact False.elim hq
      | cont => exact False.elim hq
  · exact t.elim
end
/-! ### truth of ints and lists; bit_length -/
def rTru (te : RE) : RT := fun Γ M K => te Γ M fun l M1 => match l with
  | .im (.bl b) => K b M1
  | .im (.int i) => K (decide (i ≠ 0)) M1
  | .im .non => K false M1
  | x => match seqOf M1 x with
    | some ds => K (!ds.isEmpty) M1
    | none => False
section
variable {C : Fc} {X : Cx} {e o : Expr} {te to : RE} {apos pos : Pos}
theorem q_tru (hK : C.K = X.K) (h : QE C X e te) (he : ∀ whole, isTrue e X.env whole = (do let v ← whole; standAt e.pos; holding [v] (truthy v)) := by intro _; rfl) : QT C X e (rTru te) := PT.imp (pt_truth h he) fun σ H Q ⟨As, G, Γ, M, K, S, t, q⟩ =>
  ⟨As, G, Γ, M, _, S, t, fun l M1 v As1 G1 H1 g1 rv k1 => by
    split at k1
    · rename_i b
      obtain rfl := bl_of rv
      exact ⟨b, rfl, q b M1 As1 G1 H1 g1 k1⟩
    · rename_i i
      obtain rfl := int_of rv
      refine ⟨i != 0, rfl, ?_⟩
      have e : (i != 0) = decide (i ≠ 0) := by by_cases h : i = 0 <;> simp [h]
      rw [e]
      exact q _ M1 As1 G1 H1 g1 k1
    · cases rv
      exact ⟨false, rfl, q _ M1 As1 G1 H1 g1 k1⟩
    · split at k1
      · rename_i ds e1
        obtain ⟨a, xs, rfl, h1, h2⟩ := g1.sat.seq rv e1
        have e2 : ds.isEmpty = xs.isEmpty := by cases h2 <;> rfl
        rw [e2] at k1
        rw [hK] at h1
        rcases h1 with h1 | h1
        · exact ⟨_, .inl ⟨xs, h1, rfl⟩, q _ M1 As1 G1 H1 g1 k1⟩
        · exact ⟨_, .inr (.inl ⟨xs, h1, rfl⟩), q _ M1 As1 G1 H1 g1 k1⟩
      · exact k1.elim⟩
def rBits (te : RE) : RE := fun Γ M K => te Γ M fun l M1 => match l with
  | .im (.int i) => K (.im (.int (Builtin.Int.intBits i : Nat))) M1
  | _ => False
theorem q_bits (h : QE C X o to) (hbase : attributeBase o "bit_length" X.env (eval o X.env) = eval o X.env := by rfl) (hline : (apos.endLine == pos.line) = true := by rfl) : QE C X (.Call (.Attribute o "bit_length" apos) [] [] pos) (rBits to) := PE.imp (pe_bits h hbase hline) fun σ H Q ⟨As, G, Γ, M, K, S, t, q⟩ =>
  ⟨As, G, Γ, M, _, S, t, fun l M1 v As1 G1 H1 g1 rv k1 => by
    split at k1
    · rename_i i
      exact ⟨i, int_of rv, q (.im (.int _)) M1 _ As1 G1 H1 g1 (Rp.int _) k1⟩
    · exact k1.elim⟩
/-- {} of one's own -/
def rDictO : RE := fun Γ M K => K (.ow M.length) (M ++ [.dc []])
theorem q_dictO : QE C X (.Dict [] [] pos) rDictO := PE.imp pe_dnewK fun σ H Q ⟨As, G, Γ, M, K, S, t, q⟩ =>
  fun p hp => q _ _ _ _ _ _ (Gr.alloc (m := .dc []) S hp ⟨_, rfl, rfl, .nil⟩) (ow_new S) t
end
/-! ### a class of the text, as the top has left it -/
structure Dm (K : PySem.W.Frag) (cl : String) (m qual : Str) (st : Stmt) (ps : List Str) where
  f : Addr
  fd : FuncData
  F : Fun K m qual st f fd
  m : MetOk K cl m f
  b : Binds K fd ps []
structure Dp (K : PySem.W.Frag) (cl : String) (m qual : Str) (st : Stmt) (ps : List Str) where
  f : Addr
  p : Addr
  fd : FuncData
  F : Fun K m qual st f fd
  c : Cls K (cn K cl)
  m : PropOf K (cn K cl) m p f
  b : Binds K fd ps []
structure Dn (K : PySem.W.Frag) (mg : Str → Option Value) (cl : String) (qual : Str) (st : Stmt) (ps : List Str) where
  f : Addr
  fd : FuncData
  F : Fun K "__init__" qual st f fd
  m : Mk K (cn K cl) f
  g : mg (Str.ofString cl) = some (.ref (cn K cl))
  b : Binds K fd ps []
theorem rFld_e (cs : List String) (f : Str) (te : RE) : ∀ Γ M K, rFld cs f te Γ M K = (te Γ M fun l M1 => match insOf M1 l with
  | some (C, fs) => C ∈ cs ∧ @ExI _ (fs.lookup f) ⟨fun l' => K l' M1⟩
  | none => False) := fun _ _ _ => rfl
theorem rSetF_e (cs : List String) (f : Str) (to tv : RE) : ∀ N Γ M, rSetF cs f to tv N Γ M = (tv Γ M fun l M1 => to Γ M1 fun o M2 => match o with
  | .ow k => match M2[k]? with
    | some (.ob C fs) => C ∈ cs ∧ fs.length < 1000 ∧ N.nx Γ (M2.set k (.ob C (putL f l fs)))
    | _ => False
  | _ => False) := fun _ _ _ => rfl
theorem rSelf_e (cl : String) (m : Str) (to : RE) (t : RA) : ∀ Γ M K, rSelf cl m to t Γ M K = (to Γ M fun l M1 => match insOf M1 l with
  | some (C, fs) => C = cl ∧ fs.lookup m = none ∧ t Γ M1 fun ls M2 => K (l :: ls) M2
  | none => False) := fun _ _ _ => rfl
theorem rCallU_e (sp : DSp) (ex : EX) (t : RA) : ∀ Γ M K, rCallU sp ex t Γ M K = (t Γ M fun ls M1 => callU (reach M1 64 ls []) sp ex Γ ls M1 K) := fun _ _ _ => rfl
theorem rMake_e (cl : String) (sp : DSp) (ex : EX) (t : RA) : ∀ Γ M K, rMake cl sp ex t Γ M K = (t Γ M fun ls M1 => callU (reach (M1 ++ [.ob cl []]) 64 (.ow M1.length :: ls) []) sp ex Γ (.ow M1.length :: ls) (M1 ++ [.ob cl []]) fun l Mu => l = .im .non ∧ K (.ow M1.length) Mu) := fun _ _ _ => rfl
theorem rProp_e (cl : String) (sp : DSp) (to : RE) : ∀ Γ M K, rProp cl sp to Γ M K = (to Γ M fun l M1 => match insOf M1 l with
  | some (C, _) => C = cl ∧ callU (reach M1 64 [l] []) sp exF Γ [l] M1 K
  | none => False) := fun _ _ _ => rfl
theorem oEqO_e (cl : String) (sp : DSp) : ∀ x y M K, oEqO cl sp x y M K = (match insOf M x, insOf M y with
  | some (C, _), some (C', _) => C = cl ∧ C' = cl ∧ callU (reach M 64 [x, y] []) sp exF [] [x, y] M K
  | _, _ => False) := fun _ _ _ _ => rfl
theorem rTru_e (te : RE) : ∀ Γ M K, rTru te Γ M K = (te Γ M fun l M1 => match l with
  | .im (.bl b) => K b M1
  | .im (.int i) => K (decide (i ≠ 0)) M1
  | .im .non => K false M1
  | x => match seqOf M1 x with
    | some ds => K (!ds.isEmpty) M1
    | none => False) := fun _ _ _ => rfl
theorem rBits_e (te : RE) : ∀ Γ M K, rBits te Γ M K = (te Γ M fun l M1 => match l with
  | .im (.int i) => K (.im (.int (Builtin.Int.intBits i : Nat))) M1
  | _ => False) := fun _ _ _ => rfl
theorem rDictO_e : ∀ Γ M K, rDictO Γ M K = K (.ow M.length) (M ++ [.dc []]) := fun _ _ _ => rfl
/-- a call's ways on, hidden -/
def kU (is : List Nat) (M1 : Led) (K : Lo → Led → Prop) : Lo → Led → Prop := fun l Mu => K (renL (ren is M1.length) l) (put is Mu M1)
def kUX (is : List Nat) (M1 : Led) (K : Exn → Led → Prop) : Exn → Led → Prop := fun x Mu => K x (put is Mu M1)
theorem callU_e {is : List Nat} {sp : DSp} {ex : EX} {Γ : Gam} {ls : List Lo} {M1 : Led} {K : Lo → Led → Prop} : callU is sp ex Γ ls M1 K = (PickOk is M1 ∧ refLs (· ∈ is) ls ∧ @CallI sp (ls.map (renL (loc is))) (pick is M1) ⟨(kU is M1 K, kUX is M1 fun x M' => ex x Γ M')⟩) := rfl
theorem kU_e {is : List Nat} {M1 : Led} {K : Lo → Led → Prop} {l : Lo} {Mu : Led} : kU is M1 K l Mu = K (renL (ren is M1.length) l) (put is Mu M1) := rfl
theorem kUX_e {is : List Nat} {M1 : Led} {K : Exn → Led → Prop} {x : Exn} {Mu : Led} : kUX is M1 K x Mu = K x (put is Mu M1) := rfl
/-- pieces that simp computes with -/
theorem ofStr_inj {a b : String} (h : Str.ofString a = Str.ofString b) : a = b := by
  rw [Str.ofString_eq_toList, Str.ofString_eq_toList] at h
  have h1 : (a.toList.map Char.toNat).toArray = (b.toList.map Char.toNat).toArray := congrArg Str.cps h
  have h2 : a.toList.map Char.toNat = b.toList.map Char.toNat := by simpa using h1
  have h3 : a.toList = b.toList := (List.map_inj_right fun x y e => Char.toNat_inj.mp e).mp h2
  exact String.toList_inj.mp h3
theorem str_beq {a b : String} : (Str.ofString a == Str.ofString b) = decide (a = b) := by
  by_cases h : a = b
  · subst h; simp
  · have : Str.ofString a ≠ Str.ofString b := fun e => h (ofStr_inj e)
    rw [beq_eq_false_iff_ne.mpr this, decide_eq_false h]
theorem str_eq {a b : String} : (Str.ofString a = Str.ofString b) = (a = b) := propext ⟨ofStr_inj, fun h => by rw [h]⟩
end Dl
namespace Dl
open PySem PySem.Spec PyProof.Rows L2
section
variable {K : PySem.W.Frag} {mg : Str → Option Value} {x : String} {c f p : Addr} {m : Str} {rs : List Value}
theorem cls_mk (nx : PySem.W.nsIn K mainGlobals (Str.ofString x) = some (some (.ref c))) (pg : PySem.W.plainGet K c Str.empty = true) (hd : PySem.W.hasDictIn K c = true) (po : PySem.W.plainOver K c = true) (sa : PySem.W.findIn K (.ref c) "__setattr__" = some (some (.builtin "object.__setattr__"))) : Cls K (cn K x) := by
  rw [cn_eq nx]
  exact ⟨pg, hd, po, sa⟩
theorem fld_mk (C : Cls K (cn K x)) (nx : PySem.W.nsIn K mainGlobals (Str.ofString x) = some (some (.ref c))) (n : PySem.W.findIn K (.ref c) m = some none) : FldOk K x m := ⟨C, by
  rw [cn_eq nx]
  exact n⟩
theorem met_mk (C : Cls K (cn K x)) (nx : PySem.W.nsIn K mainGlobals (Str.ofString x) = some (some (.ref c))) (a : PySem.W.findIn K (.ref c) m = some (some (.ref f))) (fn : PySem.W.isFn K (.ref f) = true) (k : PySem.W.keepIn K (.ref f) = true) : MetOk K x m f := ⟨C, by
  rw [cn_eq nx]
  exact ⟨a, fn, k⟩⟩
theorem prop_mk (nx : PySem.W.nsIn K mainGlobals (Str.ofString x) = some (some (.ref c))) (a : PySem.W.findIn K (.ref c) m = some (some (.ref p))) (g : PySem.W.specialIn K (.ref p) "__get__" = some (some (.builtin "property.__get__"))) (t : PySem.W.takesIn K (.ref p) = some true) (r : PySem.W.recIn K p "property" = some (.ref f :: rs)) : PropOf K (cn K x) m p f := by
  rw [cn_eq nx]
  exact ⟨a, g, t, rs, r⟩
theorem mk_mk (nx : PySem.W.nsIn K mainGlobals (Str.ofString x) = some (some (.ref c))) (mk : PySem.W.makesIn K c = true) (i : PySem.W.findIn K (.ref c) "__init__" = some (some (.ref f))) (fn : PySem.W.isFn K (.ref f) = true) (k : PySem.W.keepIn K (.ref c) = true) : Mk K (cn K x) f := by
  rw [cn_eq nx]
  exact ⟨mk, i, fn, k⟩
theorem g_mk (nx : PySem.W.nsIn K mainGlobals (Str.ofString x) = some (some (.ref c))) (m : mg (Str.ofString x) = some (.ref c)) : mg (Str.ofString x) = some (.ref (cn K x)) := by
  rw [cn_eq nx]
  exact m
end
end Dl

set_option Elab.async false
set_option maxRecDepth 100000
set_option maxHeartbeats 1000000
namespace Dl
open PySem PySem.Spec PyProof.Rows L2
/-! ### != of instances of a class that has only an own __eq__: object.__ne__ asks it -/
section
variable {prog : Program} {w : World} {A : Around} {E : Value → Shared → Prop} {s : Shared} {K : PySem.W.Frag} {x y C f L : Addr} {h₀ : Heap} {m : Str → Option Value} {ox : Obj} {od : Option Obj} {b : Value}
theorem ne_entry {Q : _root_.PySem.Fin → Shared → Prop} (hu : A.units < cLine) (X : K.In s.heap) (I : PySem.W.InstAt s.heap x ox C od) (hs : PySem.W.findIn K (.ref C) "__eq__" = some (some (.ref f))) (hf : PySem.W.isFn K (.ref f) = true)
    (h : wpAny (model prog w) A (call (.ref f) [.ref x, .ref y]) (fun v s' => ∃ b, v = .bool b ∧ Q (.done (.ret (.bool (!b)))) s') E s) :
    wpAny (model prog w) A (Builtin.«object.__ne__» ⟨[.ref x, .ref y], []⟩) Q E s := by
  unfold Builtin.«object.__ne__»
  repeat (first
    | with_reducible refine wpAny_cRoomFor hu ?_
    | (refine wpAny_bind (m := callSpecialIfBound? (.ref x) (Str.ofString "__eq__") [.ref y])
        (PySem.W.ifBound_K X I hs hf (wpAny_mono h (fun r s' hr => by
          obtain ⟨b, rfl, hq⟩ := hr
          repeat (first | exact hq | exact wpAny_pure hq | exact wpAny_truthy_bool hq | (refine wpAny_bind (m := truthy (.bool _)) (wpAny_truthy_bool ?_)) | wp_step)) fun _ _ e => e)))
    | wp_step)
theorem ne_ifBound {M : Model} {args : List Value} {Q : Option Value → Shared → Prop} (X : K.In s.heap) (I : PySem.W.InstAt s.heap x ox C od) (hs : PySem.W.findIn K (.ref C) "__ne__" = some (some (.builtin "object.__ne__")))
    (h : wpAny M A (call (.builtin "object.__ne__") (.ref x :: args)) (fun v => Q (some v)) E s) : wpAny M A (callSpecialIfBound? (.ref x) "__ne__" args) Q E s := by
  simp only [callSpecialIfBound?, bindSpecialIfBound?]
  refine wpAny_holding (wpAny_bind (wpAny_bind (wpAny_bind (I.type.here ((PySem.W.looks_findIn X hs).here ?_)))))
  refine wpAny_bind (wpAny_askSetting (wpAny_ite ?_))
  have fin : wpAny M A (call (.builtin "object.__ne__") ([.ref x] ++ args) >>= fun v => pure (some v)) Q E s := wpAny_bind (wpAny_mono h (fun v s' h' => wpAny_pure h') fun _ _ h' => h')
  split
  · exact wpAny_bind (wpAny_of_eq (F.cmp_object.ne.bind _) (wpAny_pure (by exact fin)))
  · exact wpAny_tryCatch (wpAny_bind (wpAny_of_eq (F.cmp_object.ne.bind _) (wpAny_pure (by exact fin))))
theorem cmp_ne {Q : Value → Shared → Prop} (hu : A.units < cLine) (hu1 : A.in1.units < cLine) (Fx : PyProof.Rows.Fr h₀ L s.heap m) (X₀ : K.In h₀) (I : PySem.W.InstAt s.heap x ox C od) {oy : Obj} {od' : Option Obj} (J : PySem.W.InstAt s.heap y oy C od')
    (hm : PySem.W.mroIn K C (.type "object") = some true) (hn : PySem.W.findIn K (.ref C) "__ne__" = some (some (.builtin "object.__ne__"))) (hs : PySem.W.findIn K (.ref C) "__eq__" = some (some (.ref f))) (hf : PySem.W.isFn K (.ref f) = true)
    (h : wpAny (model prog w) A.in1 (call (.ref f) [.ref x, .ref y]) (fun v s' => ∃ b, v = .bool b ∧ Q (.bool (!b)) s') E s) : wpAny (model prog w) A (richCompare .NotEq (.ref x) (.ref y)) Q E s := by
  have X := X₀.keeps Fx.keep
  have one : wpAny (model prog w) A (tryCompare (.ref x) "__ne__" (.ref y)) (fun r s' => ∃ v, r = some v ∧ Q v s') E s := by
    unfold tryCompare
    refine wpAny_bind (ne_ifBound X I hn (wpAny_call (codeAny_call_builtin F.cmp_object.ne.plain F.cmpEntry_ne
      (PySem.W.check_slot F.cmpKind_ne F.cmpSplit_ne (I.type.andThen (PySem.W.looks_mroIn X hm)) (F.cmpArgs_ne _ _) (ne_entry hu1 X I hs hf (wpAny_mono h (fun v s' hv => ?_) fun _ _ e => e))))))
    obtain ⟨b, rfl, hq⟩ := hv
    exact ⟨b, rfl, wpAny_pure ⟨_, rfl, hq⟩⟩
  unfold richCompare
  simp only [oneThing_ref]
  refine wpAny_holding (wpAny_bind (wpAny_cRoomFor hu ?_))
  rw [cmpInfo_NotEq]
  dsimp only
  refine wpAny_bind (I.type.here (wpAny_bind (J.type.here ?_)))
  rw [show (Value.ref C != Value.ref C) = false from by simp]
  simp only [Bool.false_eq_true, if_false]
  refine wpAny_bind (wpAny_pure ?_)
  simp only [Bool.false_eq_true, if_false]
  refine wpAny_bind (wpAny_mono one (fun r s' z => ?_) fun _ _ e => e)
  obtain ⟨v, rfl, hq⟩ := z
  exact wpAny_pure hq
end
structure NeOk (K : PySem.W.Frag) (cl : String) : Prop where
  n : PySem.W.findIn K (.ref (cn K cl)) "__ne__" = some (some (.builtin "object.__ne__"))
  m : PySem.W.mroIn K (cn K cl) (.type "object") = some true
theorem ne_mk {K : PySem.W.Frag} {x : String} {c : Addr} (nx : PySem.W.nsIn K mainGlobals (Str.ofString x) = some (some (.ref c))) (n : PySem.W.findIn K (.ref c) "__ne__" = some (some (.builtin "object.__ne__"))) (m : PySem.W.mroIn K c (.type "object") = some true) : NeOk K x := by
  refine ⟨?_, ?_⟩ <;> rw [cn_eq nx] <;> assumption
def oNeO (cl : String) (sp : DSp) : R2L := fun x y M K => match insOf M x, insOf M y with
  | some (C, _), some (C', _) => C = cl ∧ C' = cl ∧ callU (reach M 64 [x, y] []) sp exF [] [x, y] M fun l Mu => ∃ b, l = .im (.bl b) ∧ K (.im (.bl (!b))) Mu
  | _, _ => False
section
variable {C : Fc} {X : Cx} {k : Nat} {g : Addr} {fd : FuncData} {ps : List Str} {sp : DSp} {cl : String}
theorem neOL (hK : C.K = X.K) (n : NeOk X.K cl) (c : MetOk X.K cl "__eq__" g) (F : Gn C.T X.prog X.w X.K X.mg X.base k g fd ps sp) (hb : Binds X.K fd ps []) (hr : Room (k + 1) X.A) (hg : X.A.guards = some []) : OpL C (rRawC X .NotEq) (oNeO cl sp) := fun {As G H Γ M σ x y lx ly K Q} S rx ry t q => by
  intro pins σ' s u v I r1 r2
  unfold oNeO at t
  split at t
  · rename_i e1 e2
    obtain ⟨rfl, rfl, ok, hls, hsp⟩ := t
    obtain ⟨a, dx, fvs, rfl, h1, _, _⟩ := insOf_ok S rx e1
    obtain ⟨b, dy, gvs, rfl, h2, _, _⟩ := insOf_ok S ry e2
    obtain rfl : u = Value.ref a := r1
    obtain rfl : v = Value.ref b := r2
    rw [hK] at h1 h2
    obtain ⟨_, O1, _, _, _, _⟩ := ins_get I.hok h1
    obtain ⟨_, O2, _, _, _, _⟩ := ins_get I.hok h2
    obtain ⟨od, J, _⟩ := O1.look
    obtain ⟨od', J', _⟩ := O2.look
    obtain ⟨m, hF⟩ := I.fr
    have S' : Sat C As G H [] M [] := ⟨S.le, S.stp, S.own, S.fr, S.inj, S.al, S.asS, S.there, fun i l e => by simp at e, rfl, S.bg, S.ba, S.tb⟩
    show wpAny _ _ (richCompare .NotEq _ _) _ _ _
    refine cmp_ne hr.units0 (Room.in1 hr).units0 hF I.ok.mod.kin J J' n.m n.n (show PySem.W.findIn X.K _ "__eq__" = _ from c.m.at_) c.m.fn ?_
    refine wpAny_call (codeAny_mono (gn_core (ex := exF) (Γ := []) (σ := []) (Q := fun v H' => ∃ b, v = V.bl b ∧ Q (V.bl (!b)) H') F (Room.in1 hr) hg I.env0.in1 I.kIn hb hK (us := [.ref a, .ref b]) (vs := [.ref a, .ref b]) (.cons rfl (.cons rfl .nil)) S' (.cons rx (.cons ry .nil)) ok hls hsp (fun l Mu v As' G' H' g rv k => by
      obtain ⟨b, e3, k2⟩ := k
      have rv' := rv
      rw [e3] at rv'
      exact ⟨b, bl_of rv', q (.im (.bl (!b))) _ (V.bl (!b)) As' G' H' ⟨⟨g.sat.le, g.sat.stp, g.sat.own, g.sat.fr, g.sat.inj, g.sat.al, g.sat.asS, g.sat.there, fun i l e => by
        obtain ⟨w, q1, q2⟩ := S.slot i l e
        exact ⟨w, q1, q2.mono g.g g.p⟩, S.len, g.sat.bg, g.sat.ba, g.sat.tb⟩, g.g, g.p⟩ (Rp.bl _) k2⟩) fun x Mu k => k) fun r s' hq => ?_)
    cases r with
    | error er =>
      obtain ⟨_, _, _, _, _, _, _, _, _, _, _, _, _, _, _, _, _, _, _, z⟩ := hq
      exact z.elim
    | ok fl =>
      cases fl with
      | ret u =>
        obtain ⟨v, H', I3, rv, b, rfl, q3⟩ := I.after hq
        exact ⟨b, rv, _, H', I3, (show RelV (V.bl (!b)) _ from rfl), q3⟩
      | next => exact False.elim hq
      | brk => exact False.elim hq
      | cont => exact False.elim hq
  · exact t.elim
end
/-- the truth of what a call of __eq__ gave -/
def kNe (K : Lo → Led → Prop) : Lo → Led → Prop := fun l Mu => ∃ b, l = .im (.bl b) ∧ K (.im (.bl (!b))) Mu
theorem oNeO_e (cl : String) (sp : DSp) : ∀ x y M K, oNeO cl sp x y M K = (match insOf M x, insOf M y with
  | some (C, _), some (C', _) => C = cl ∧ C' = cl ∧ callU (reach M 64 [x, y] []) sp exF [] [x, y] M (kNe K)
  | _, _ => False) := fun _ _ _ _ => rfl
theorem kNe_e {K : Lo → Led → Prop} {b : Bool} {Mu : Led} : kNe K (.im (.bl b)) Mu = K (.im (.bl (!b))) Mu := propext ⟨fun ⟨_, h, k⟩ => by
  cases h
  exact k, fun k => ⟨b, rfl, k⟩⟩
end Dl

set_option Elab.async false
set_option maxRecDepth 100000
set_option maxHeartbeats 1000000
namespace Dl
open PySem PySem.Spec PyProof.Rows L2
/-! ### a dict of one's own, locked while a statement walks it -/
def keyD : Key → D
  | .inl i => .int i
  | .inr x => .str x
theorem keyD_rp {K : PySem.W.Frag} {G : Hp} : ∀ k : Key, Rp K G (kV k) (keyD k)
  | .inl i => .int i
  | .inr x => .str x
def itemsD (ks : List (Key × D)) : List D := ks.map fun p => .tup [keyD p.1, p.2]
/-- what is walked while something holds of the ledger -/
def ItDP (C : Fc) (As1 : List Addr) (G1 : Hp) (J : It) (ds : List D) (P : Led → Prop) : Prop := ∀ (i : Nat) (As : List Addr) (G H : Hp) (Γ : Gam) (M : Led) (σ : L2.St), Sat C As G H Γ M σ → Same G1 G → P M →
  (∀ d, ds[i]? = some d → J.go i H ∧ ∀ x H', J.yld i H x H' → ∃ G', Gr C As G As G' H' Γ M σ ∧ Rp C.K G' x d) ∧ (ds.length ≤ i → J.stop i H)
abbrev RIP := Gam → Led → (List D → (Led → Prop) → Led → Prop) → Prop
def UIP (C : Fc) (t : RIP) : TI := fun σ H R => ∃ (As : List Addr) (G : Hp) (Γ : Gam) (M : Led) (K : List D → (Led → Prop) → Led → Prop), Sat C As G H Γ M σ ∧ t Γ M K ∧
  ∀ (ds : List D) (P : Led → Prop) (M' : Led) (As' : List Addr) (G' H' : Hp) (J : It), Gr C As G As' G' H' Γ M' σ → ItDP C As' G' J ds P → (∀ M, P M → ∀ m, P (M ++ [m])) → K ds P M' → R J H'
def QIP (C : Fc) (X : Cx) (tg iter : Expr) (t : RIP) : Prop := PI X tg iter (UIP C t)
def LkP (k : Nat) (od : Obj) (kvs : List (Key × V)) (ks : List (Key × D)) : Led → Prop := fun M => M[k]? = some (.dl od kvs ks)
/-- e.items(), e.values(), e.keys() of a locked dict; b: how many owned objects there were when it was locked -/
def rItmL (b : Nat) (te : RE) : RIP := fun Γ M K => te Γ M fun l M1 => match l with
  | .ow k => match M1[k]? with
    | some (.dl od kvs ks) => k < b ∧ K (itemsD ks) (LkP k od kvs ks) M1
    | _ => False
  | _ => False
def rValL (b : Nat) (te : RE) : RIP := fun Γ M K => te Γ M fun l M1 => match l with
  | .ow k => match M1[k]? with
    | some (.dl od kvs ks) => k < b ∧ K (ks.map (·.2)) (LkP k od kvs ks) M1
    | _ => False
  | _ => False
section
variable {C : Fc} {X : Cx} {tg e : Expr} {te : RE} {apos cpos : Pos}
theorem dl_at {As : List Addr} {G H : Hp} {Γ : Gam} {M : Led} {σ : L2.St} {k : Nat} {a : Addr} {od : Obj} {kvs : List (Key × V)} {ks : List (Key × D)} (S : Sat C As G H Γ M σ) (hb : k < C.Ab.length) (ha : C.Ab[k]? = some a) (e : M[k]? = some (.dl od kvs ks)) :
    As[k]? = some a ∧ G a = none ∧ H a = some (.frz od (.dK kvs)) ∧ kvs.map (·.1) = ks.map (·.1) ∧ RpL C.K G (kvs.map (·.2)) (ks.map (·.2)) := by
  have h1 := pre_get S.ba ha
  obtain ⟨g0, o, h0, h2, h3, h4⟩ := S.own k a _ h1 e (by intro z; cases z)
  subst h2
  exact ⟨h1, g0, h0, h3, h4⟩
theorem fst_get {α β : Type} {kvs : List (Key × α)} {ks : List (Key × β)} (h : kvs.map (·.1) = ks.map (·.1)) {i : Nat} {k : Key} {d : β} (e : ks[i]? = some (k, d)) : ∃ v, kvs[i]? = some (k, v) := by
  have h2 : (kvs.map (·.1))[i]? = some k := by rw [h, List.getElem?_map, e]; rfl
  rw [List.getElem?_map] at h2
  obtain ⟨⟨k', v⟩, h3, h4⟩ := Option.map_eq_some_iff.mp h2
  cases h4
  exact ⟨v, h3⟩
theorem items_it {As1 : List Addr} {G1 : Hp} {k : Nat} {a : Addr} {od : Obj} {kvs : List (Key × V)} {ks : List (Key × D)} (hb : k < C.Ab.length) (ha : C.Ab[k]? = some a) : ItDP C As1 G1 (Iti a od kvs) (itemsD ks) (LkP k od kvs ks) := fun i As2 G2 H2 Γ2 M2 σ2 S2 sg p => by
  obtain ⟨h1, g0, h0, hk, hr⟩ := dl_at S2 hb ha p
  have hl : kvs.length = ks.length := by simpa using congrArg List.length hk
  refine ⟨fun d hd => ?_, fun hi => ⟨h0, by rw [itemsD, List.length_map] at hi; omega⟩⟩
  rw [itemsD, List.getElem?_map] at hd
  obtain ⟨⟨ky, dv⟩, e1, rfl⟩ := Option.map_eq_some_iff.mp hd
  have hi := (List.getElem?_eq_some_iff.mp e1).1
  obtain ⟨v, e2⟩ := fst_get hk e1
  refine ⟨⟨h0, by omega⟩, fun x H' hy => ?_⟩
  obtain ⟨T, k', v', q1, rfl, q2, rfl⟩ := hy
  rw [e2] at q1
  cases q1
  obtain ⟨v2, q3, q4⟩ := hr.get (i := i) (d := dv) (by rw [List.getElem?_map, e1]; rfl)
  rw [List.getElem?_map, e2] at q3
  cases q3
  exact ⟨_, Gr.frz S2 q2, rp_new_t S2 q2 (.cons (keyD_rp _) (.one q4))⟩
theorem values_it {As1 : List Addr} {G1 : Hp} {k : Nat} {a : Addr} {od : Obj} {kvs : List (Key × V)} {ks : List (Key × D)} (hb : k < C.Ab.length) (ha : C.Ab[k]? = some a) : ItDP C As1 G1 (Itd a od kvs) (ks.map (·.2)) (LkP k od kvs ks) := fun i As2 G2 H2 Γ2 M2 σ2 S2 sg p => by
  obtain ⟨h1, g0, h0, hk, hr⟩ := dl_at S2 hb ha p
  have hl : kvs.length = ks.length := by simpa using congrArg List.length hk
  refine ⟨fun d hd => ?_, fun hi => ⟨h0, by rw [List.length_map] at hi; omega⟩⟩
  have hi := (List.getElem?_eq_some_iff.mp hd).1
  rw [List.length_map] at hi
  refine ⟨⟨h0, by omega⟩, fun x H' hy => ?_⟩
  obtain ⟨rfl, k', q1⟩ := hy
  obtain ⟨v2, q3, q4⟩ := hr.get (i := i) hd
  rw [List.getElem?_map, q1] at q3
  cases q3
  exact ⟨G2, Gr.refl S2, q4⟩
theorem lk_app {k : Nat} {od : Obj} {kvs : List (Key × V)} {ks : List (Key × D)} (M : Led) (h : LkP k od kvs ks M) (m : MO) : LkP k od kvs ks (M ++ [m]) := by
  have h : M[k]? = some _ := h
  show (M ++ [m])[k]? = _
  rw [List.getElem?_append_left (List.getElem?_eq_some_iff.mp h).1]
  exact h
theorem ab_get {k : Nat} (hb : k < C.Ab.length) : ∃ a, C.Ab[k]? = some a := ⟨_, List.getElem?_eq_getElem hb⟩
theorem q_itmL {elts : List Expr} {kk : Nat} {tpos : Pos} (he : QE C X e te) (hbase : attributeBase e "items" X.env (eval e X.env) = eval e X.env := by rfl) (hline : (apos.endLine == cpos.line) = true := by rfl) :
    QIP C X (.Tuple elts kk tpos) (.Call (.Attribute e "items" apos) [] [] cpos) (rItmL C.Ab.length te) := PI.imp (pi_items he hbase hline) fun σ H R ⟨As, G, Γ, M, K, S, t, q⟩ =>
  ⟨As, G, Γ, M, _, S, t, fun l M1 v As1 G1 H1 g1 rv t1 => by
    cases l with
    | ow k =>
      dsimp only at t1
      split at t1
      · rename_i od kvs ks e
        obtain ⟨hb, t2⟩ := t1
        obtain ⟨a, ha⟩ := ab_get hb
        obtain ⟨h1, g0, h0, hk, hr⟩ := dl_at g1.sat hb ha e
        obtain ⟨a', q1, rfl⟩ := rv
        rw [h1] at q1
        cases q1
        exact ⟨_, _, _, rfl, h0, q _ _ _ _ _ _ _ g1 (items_it hb ha) lk_app t2⟩
      · exact t1.elim
    | _ => exact t1.elim⟩
theorem q_valL (he : QE C X e te) (hbase : attributeBase e "values" X.env (eval e X.env) = eval e X.env := by rfl) (hline : (apos.endLine == cpos.line) = true := by rfl) :
    QIP C X tg (.Call (.Attribute e "values" apos) [] [] cpos) (rValL C.Ab.length te) := PI.imp (pi_values he hbase hline) fun σ H R ⟨As, G, Γ, M, K, S, t, q⟩ =>
  ⟨As, G, Γ, M, _, S, t, fun l M1 v As1 G1 H1 g1 rv t1 => by
    cases l with
    | ow k =>
      dsimp only at t1
      split at t1
      · rename_i od kvs ks e
        obtain ⟨hb, t2⟩ := t1
        obtain ⟨a, ha⟩ := ab_get hb
        obtain ⟨h1, g0, h0, hk, hr⟩ := dl_at g1.sat hb ha e
        obtain ⟨a', q1, rfl⟩ := rv
        rw [h1] at q1
        cases q1
        exact ⟨_, _, _, rfl, h0, q _ _ _ _ _ _ _ g1 (values_it hb ha) lk_app t2⟩
      · exact t1.elim
    | _ => exact t1.elim⟩
/-! ### the loop over it -/
def rForL (ti : RIP) (g : RG) (tb : RS) : RS := fun N Γ M => ti Γ M fun ds P M1 => ∃ Iv : Nat → Gam → Led → Prop, Iv 0 Γ M1 ∧
  (∀ i d Γ' M', ds[i]? = some d → Iv i Γ' M' → P M' ∧ g (.im d) Γ' M' fun Γ2 M2 => tb ⟨Iv (i + 1), N.rt, N.nx, Iv (i + 1)⟩ Γ2 M2) ∧ ∀ Γ' M', Iv ds.length Γ' M' → P M' ∧ N.nx Γ' M'
theorem q_forL {iter : Expr} {pos : Pos} {is : List Nat} {body : List Stmt} {ti : RIP} {g : RG} {tb : RS} (hp : PassesOwn (model X.prog X.w) X.A X.env X.xe) (hc : X.calm = true) (hi : QIP C X tg iter ti) (hg : QG C X tg is g) (hb : QSs C X body tb)
    (hs : ∀ x, foldedSetIterable iter X.env x = pure x := by intro _; rfl) : QS C X (.For tg iter body [] pos) (rForL ti g tb) :=
  PS.imp (ps_for hp hc hi hg hb hs) fun D σ H ⟨As, G, Γ, M, N, S, t, f⟩ => ⟨As, G, Γ, M, _, S, t, fun ds P M1 As1 G1 H1 J g1 hJ _ ⟨Iv, i0, step, done⟩ => by
    refine ⟨fun i m σ' H' => m = ds.length - i ∧ i ≤ ds.length ∧ ∃ As' G' Γ' M', Gw C G1 As' G' H' Γ' M' σ' ∧ Iv i Γ' M', ⟨_, rfl, Nat.zero_le _, As1, G1, Γ, M1, (Gr.refl g1.sat).w, i0⟩, ?_⟩
    rintro i m σ2 H2 ⟨rfl, hi, As2, G2, Γ2, M2, g2, i2⟩
    by_cases hlt : i < ds.length
    · obtain ⟨p2, st2⟩ := step i ds[i] Γ2 M2 (by simp [hlt]) i2
      obtain ⟨hgo, hst⟩ := hJ i As2 G2 H2 Γ2 M2 σ2 g2.sat g2.g p2
      refine .inr ⟨(hgo ds[i] (by simp [hlt])).1, fun σ' H' => ∃ As' G' Γ' M', Gw C G1 As' G' H' Γ' M' σ' ∧ Iv (i + 1) Γ' M', fun σ' H' ⟨As', G', Γ', M', g', i'⟩ => ⟨ds.length - (i + 1), by omega, rfl, hlt, As', G', Γ', M', g', i'⟩, fun x H3 y => ?_⟩
      obtain ⟨G3, g3, r3⟩ := (hgo ds[i] (by simp [hlt])).2 x H3 y
      refine ⟨As2, G3, Γ2, M2, .im ds[i], _, g3.sat, r3, st2, fun Γ4 M4 σ4 As4 G4 H4 g4 _ _ k4 => ?_⟩
      have g14 := g2.trans (g3.w.trans g4.w)
      refine ⟨As4, G4, Γ4, M4, _, g4.sat, k4, fun Γ' M' σ' As' G' H' g' k' => ⟨As', G', Γ', M', g14.trans g', k'⟩, fun l v Γ' M' σ' As' G' H' g' rv k' => f.rt _ _ _ _ _ _ _ _ (g1.w.trans (g14.trans g')) rv k',
        fun Γ' M' σ' As' G' H' g' k' => f.nx _ _ _ _ _ _ (g1.w.trans (g14.trans g')) k', fun Γ' M' σ' As' G' H' g' k' => ⟨As', G', Γ', M', g14.trans g', k'⟩⟩
    · have e : i = ds.length := by omega
      subst e
      obtain ⟨p2, n2⟩ := done Γ2 M2 i2
      obtain ⟨hgo, hst⟩ := hJ ds.length As2 G2 H2 Γ2 M2 σ2 g2.sat g2.g p2
      exact .inl ⟨hst (Nat.le_refl _), f.nx _ _ _ _ _ _ (g1.w.trans g2) n2⟩⟩
/-! ### the comprehension over it -/
def rLcL (out : Hand) (ti : RIP) (g : RG) (tt : RT) (te : RE) (vs : List Nat) : RE := fun Γ M K => ti Γ M fun ds P M1 => P M1 ∧ closed M1.length M1 ∧ LcR ds (fun d acc R R2 => g (.im d) (wipeG Γ vs) (M1 ++ [.li acc]) fun Γ2 M2 => tt Γ2 M2 fun b M3 =>
  IfP b (te Γ2 M3 fun l M4 => M4 = M1 ++ [.li acc] ∧ ImR l R) (M3 = M1 ++ [.li acc] ∧ R2)) fun acc => out acc M1 K
theorem up_lcL {out : List D → Led → (Lo → Led → Prop) → Prop} (hout : OutOk out) {is vs : List Nat} {ti : RIP} {g : RG} {tt : RT} {te : RE} (his : ∀ j ∈ is, j ∈ vs) :
    ∀ σ H Q, UE C (rLcL out ti g tt te vs) σ H Q → tLc (UIP C ti) (UG C is g) (UT C tt) (UE C te) vs σ H Q :=
  fun σ H Q ⟨As, G, Γ, M, K, S, t, q⟩ => ⟨As, G, Γ, M, _, S, t, fun ds P M1 As1 G1 H1 J g1 hJ hP ⟨hp0, hc0, hsz, rs, hl, hb, hk⟩ Dd hD => by
    have hn : As1.length = M1.length := g1.sat.al
    refine ⟨fun i m Hc => m = ds.length - i ∧ i ≤ ds.length ∧ ∃ G', Gr C As1 G1 (As1 ++ [Dd]) G' Hc Γ (M1 ++ [.li ((rs.take i).filterMap id)]) σ,
      ⟨_, rfl, Nat.zero_le _, G1, Gr.alloc (m := .li []) g1.sat hD ⟨[], rfl, .nil⟩⟩, ?_⟩
    rintro i m Hc ⟨rfl, hi, G2, g2⟩
    by_cases hlt : i < ds.length
    · have hr : rs[i]? = some rs[i] := List.getElem?_eq_getElem (by omega)
      have la : ((rs.take i).filterMap id).length ≤ i := Nat.le_trans (List.length_filterMap_le _ _) (by rw [List.length_take]; omega)
      have nx : ∀ x, rs[i] = some x → (rs.take i).filterMap id ++ [x] = (rs.take (i + 1)).filterMap id := fun x e => by
        rw [List.take_add_one, hr, List.filterMap_append, e]
        rfl
      have nn : rs[i] = none → (rs.take i).filterMap id = (rs.take (i + 1)).filterMap id := fun e => by
        rw [List.take_add_one, hr, List.filterMap_append, e]
        exact (List.append_nil _).symm
      generalize ha : (rs.take i).filterMap id = acc at la nx nn g2
      obtain ⟨hgo, hst⟩ := hJ i _ G2 Hc Γ _ σ g2.sat g2.g (hP _ hp0 _)
      refine .inr ⟨(hgo ds[i] (by simp [hlt])).1, fun H' => ∃ G', Gr C As1 G1 (As1 ++ [Dd]) G' H' Γ (M1 ++ [.li ((rs.take (i + 1)).filterMap id)]) σ, fun H' ⟨G', h3⟩ => ⟨ds.length - (i + 1), by omega, rfl, hlt, G', h3⟩, fun x H3 y => ?_⟩
      obtain ⟨G3, g3, r3⟩ := (hgo ds[i] (by simp [hlt])).2 x H3 y
      have st := hb i ds[i] _ (by simp [hlt]) hr acc (fun x => rs[i] = some x) (rs[i] = none) (by cases rs[i] <;> rfl)
      refine ⟨_, G3, wipeG Γ _, _, .im ds[i], _, g3.sat.wipe _, r3, st, fun Γ4 M4 σ4 As4 G4 H4 g4 k4 l4 t4 => ⟨?_, As4, G4, Γ4, M4, _, g4.sat, t4, fun b M5 As5 G5 H5 g5 t5 => ?_⟩⟩
      · rw [← wipe_wipe (σ := σ)]
        exact wipe_eq l4 fun j hj => k4 j fun z => hj (his j z)
      · have fin : ∀ {As6 : List Addr} {G6 H6 : Hp} {Γ6 : Gam} {σ6 : L2.St}, Gr C (As1 ++ [Dd]) G3 As6 G6 H6 Γ6 (M1 ++ [.li acc]) σ6 → As6 = As1 ++ [Dd] := fun {As6 G6 H6 Γ6 σ6} g6 => by
          have ll := g6.sat.al
          obtain ⟨tl, htl⟩ := g6.p
          have l3 : As6.length = M1.length + 1 + tl.length := by
            rw [← htl, List.length_append, List.length_append, List.length_singleton, hn]
          rw [List.length_append, List.length_singleton] at ll
          have tl0 : tl = [] := List.length_eq_zero_iff.mp (by omega)
          subst tl0
          rw [List.append_nil] at htl
          exact htl.symm
        cases b with
        | false =>
          obtain ⟨e6, iv'⟩ := t5.2 rfl
          subst e6
          have g35 := g4.trans g5
          have eA := fin g35
          subst eA
          show ∃ G', _
          rw [← nn iv']
          exact ⟨G5, Gr.back g1.sat (g2.trans (g3.trans g35))⟩
        | true =>
          show UE C te σ4 H5 _
          refine ⟨As5, G5, Γ4, M5, _, g5.sat, t5.1 rfl, fun l M6 v As6 G6 H6 g6 rv k => ?_⟩
          obtain ⟨e6, k⟩ := k
          subst e6
          cases l with
          | ow _ => exact k.elim
          | tp _ => exact k.elim
          | im x' =>
            have iv' : rs[i] = some x' := k
            have g36 := g4.trans (g5.trans g6)
            have eA := fin g36
            subst eA
            have hA : (As1 ++ [Dd])[M1.length]? = some Dd := by rw [← hn]; simp
            have eM : (M1 ++ [MO.li acc])[M1.length]? = some (.li acc) := by simp
            obtain ⟨g0, o, h0, xs, rfl, rx⟩ := g36.sat.own _ _ _ hA eM (by intro z; cases z)
            refine ⟨xs, h0, by rw [rx.length]; omega, G6, ?_⟩
            have W := g36.sat.write (o := .lst (xs ++ [v])) (m' := .li (acc ++ [x'])) hA eM (by intro z; cases z) ⟨_, rfl, rx.app (.one rv)⟩
            rw [nx x' iv', List.set_append_right _ _ (Nat.le_refl _), Nat.sub_self] at W
            exact Gr.back g1.sat (g2.trans (g3.trans ⟨W, g36.g, g36.p⟩))
    · have e : i = ds.length := by omega
      subst e
      obtain ⟨hgo, hst⟩ := hJ _ _ G2 Hc Γ _ σ g2.sat g2.g (hP _ hp0 _)
      rw [List.take_of_length_le (by omega)] at g2
      exact .inl ⟨hst (Nat.le_refl _), hout g1.sat g2 rfl hc0 hk fun l M2 v As2 G2 H2 g' rv k => q l M2 v As2 G2 H2 (g1.trans g') rv k⟩⟩
theorem q_lcL {out : List D → Led → (Lo → Led → Prop) → Prop} (hout : OutOk out) {elt iter : Expr} {pos : Pos} {ifs : List Expr} {scope : Scope} {own : List (Str × Nat)} {is : List Nat} {ti : RIP} {g : RG} {tt : RT} {te : RE} (hc : X.calm = true) (hN : X.N.Nodup) (ok : BlkOk X.N X.env.scope scope own) (his : ∀ j ∈ is, j ∈ own.map (·.2)) (hi : QIP C X tg iter ti)
    (hg : ∀ (s : Shared) (H : Hp) (Cc : Addr) (cl : List (Str × Addr)) (fp : List Addr), QG C (X.blk s H scope (compEnvC scope cl Cc X.env) fp) tg is g) (ht : ∀ (s : Shared) (H : Hp) (Cc : Addr) (cl : List (Str × Addr)) (fp : List Addr), PTs (X.blk s H scope (compEnvC scope cl Cc X.env) fp) ifs (UT C tt))
    (he : ∀ (s : Shared) (H : Hp) (Cc : Addr) (cl : List (Str × Addr)) (fp : List Addr), QE C (X.blk s H scope (compEnvC scope cl Cc X.env) fp) elt te) (hs : ∀ x, foldedSetIterable iter X.env x = pure x := by intro _; rfl) :
    QE C X (.ListComp elt [⟨tg, iter, ifs, 0⟩] scope pos) (rLcL out ti g tt te (own.map (·.2))) := PE.imp (pe_lc hc hN hi ok hg ht he hs) (up_lcL hout his)
/-! ### the lock -/
/-- where the dict stands: in a slot; in a field of what stands in a slot -/
def pSl (i : Nat) (Γ : Gam) (_ : Led) : Option Nat := match Γ[i]? with
  | some (some (.ow k)) => some k
  | _ => none
def pFl (i : Nat) (f : Str) (Γ : Gam) (M : Led) : Option Nat := match Γ[i]? with
  | some (some (.ow j)) => match M[j]? with
    | some (.ob _ fs) => match fs.lookup f with
      | some (.ow k) => some k
      | _ => none
    | _ => none
  | _ => none
def ndL (k : Nat) (od : Obj) (kvs : List (Key × V)) (ks : List (Key × D)) (N : Nd) : Nd :=
  ⟨fun Γ' M' => M'[k]? = some (.dl od kvs ks) ∧ N.nx Γ' (M'.set k (.dc ks)), fun l M' => M'[k]? = some (.dl od kvs ks) ∧ N.rt l (M'.set k (.dc ks)), fun Γ' M' => M'[k]? = some (.dl od kvs ks) ∧ N.bk Γ' (M'.set k (.dc ks)), fun Γ' M' => M'[k]? = some (.dl od kvs ks) ∧ N.ct Γ' (M'.set k (.dc ks))⟩
def rLock (pth : Gam → Led → Option Nat) (t : Nat → RS) : RS := fun N Γ M => match pth Γ M with
  | some k => match M[k]? with
    | some (.dc ks) => ∀ od kvs, t M.length (ndL k od kvs ks N) Γ (M.set k (.dl od kvs ks))
    | _ => False
  | none => False
theorem q_lock {st : Stmt} {pth : Gam → Led → Option Nat} {t : Nat → RS} (h : ∀ (Ab : List Addr) (Gb : Hp), QS { C with Ab := Ab, Gb := Gb } X st (t Ab.length)) : QS C X st (rLock pth t) := by
  refine PS.imp (ps_lock (t := fun D σ H => ∃ Ab Gb, US { C with Ab := Ab, Gb := Gb } (t Ab.length) D σ H) ⟨fun pins s σ H D I ⟨Ab, Gb, us⟩ => (h Ab Gb).run pins s σ H D I us⟩) fun D σ H ⟨As, G, Γ, M, N, S, t0, f⟩ => ?_
  unfold rLock at t0
  split at t0
  · rename_i k ek
    split at t0
    · rename_i ks e
      have hk := (List.getElem?_eq_some_iff.mp e).1
      have ha : As[k]? = some (As[k]'(by rw [S.al]; exact hk)) := List.getElem?_eq_getElem _
      obtain ⟨g0, o, h0, kvs, rfl, h1, h2⟩ := S.own k _ _ ha e (by intro z; cases z)
      generalize (As[k]'(by rw [S.al]; exact hk)) = a at ha g0 h0
      refine ⟨a, .dK kvs, h0, trivial, fun od => ⟨As, G, As, G, Γ, _, ndL k od kvs ks N, Fc_in (S.write (m' := .dl od kvs ks) ha e (by intro z; cases z) ⟨rfl, h1, h2⟩), ?_, ?_⟩⟩
      · have t1 := t0 od kvs
        rw [← S.al] at t1
        exact t1
      · have back : ∀ {As' : List Addr} {G' H' : Hp} {Γ' : Gam} {M' : Led} {σ' : L2.St}, Sat { C with Ab := As, Gb := G } As' G' H' Γ' M' σ' → M'[k]? = some (.dl od kvs ks) → H' a = some (.frz od (.dK kvs)) ∧ Sat C As' G' (upd H' a (.dK kvs)) Γ' (M'.set k (.dc ks)) σ' := fun {As' G' H' Γ' M' σ'} S' e' => by
          obtain ⟨q1, q2, q3, q4, q5⟩ := dl_at S' (show k < As.length by rw [S.al]; exact hk) ha e'
          exact ⟨q3, Fc_try S.ba S.bg (S'.write (m' := .dc ks) q1 e' (by intro z; cases z) ⟨kvs, rfl, q4, q5⟩)⟩
        refine ⟨fun Γ' M' σ' As' G' H' g k' => ?_, fun l v Γ' M' σ' As' G' H' g rv k' => ?_, fun Γ' M' σ' As' G' H' g k' => ?_, fun Γ' M' σ' As' G' H' g k' => ?_⟩
        · obtain ⟨b1, b2⟩ := back g.sat k'.1
          exact ⟨b1, f.nx _ _ _ _ _ _ ⟨b2, g.g⟩ k'.2⟩
        · obtain ⟨b1, b2⟩ := back g.sat k'.1
          exact ⟨b1, f.rt _ _ _ _ _ _ _ _ ⟨b2, g.g⟩ rv k'.2⟩
        · obtain ⟨b1, b2⟩ := back g.sat k'.1
          exact ⟨b1, f.bk _ _ _ _ _ _ ⟨b2, g.g⟩ k'.2⟩
        · obtain ⟨b1, b2⟩ := back g.sat k'.1
          exact ⟨b1, f.ct _ _ _ _ _ _ ⟨b2, g.g⟩ k'.2⟩
    · exact t0.elim
  · exact t0.elim
end
end Dl

set_option Elab.async false
set_option maxRecDepth 100000
set_option maxHeartbeats 1000000
namespace Dl
open PySem PySem.Spec PyProof.Rows L2
/-! ### dicts: list(d.items()), d[k], k in d, d[k] = v -/
theorem Sat.allocMany {C : Fc} {As : List Addr} {G H H' : Hp} {Γ : Gam} {M : Led} {σ : L2.St} (S : Sat C As G H Γ M σ) (F : List Addr) (hk : Same H H') (hn : ∀ b ∈ F, H b = none) :
    Sat C As (fun b => if b ∈ F then H' b else G b) H' Γ M σ ∧ Same G (fun b => if b ∈ F then H' b else G b) := by
  have nF : ∀ {b : Addr} {u : HO}, H b = some u → b ∉ F := fun {b u} e z => by
    rw [hn b z] at e
    cases e
  have gG : ∀ {b : Addr}, b ∉ F → (if b ∈ F then H' b else G b) = G b := fun {b} z => if_neg z
  have sg : Same G (fun b => if b ∈ F then H' b else G b) := fun b u e => by
    exact (gG (nF (S.le b u e))).trans e
  refine ⟨⟨fun b u e => ?_, ⟨S.stp.g.trans sg, fun b u h1 hT h2 h3 => ?_, fun b u h1 => ?_⟩, fun k b m' e1 e2 e3 => ?_, S.fr, S.inj, S.al, S.asS, fun b hb => ?_, fun i l e => ?_, S.len, S.bg.trans sg, S.ba, fun P q e => by
    obtain ⟨z, t⟩ := S.tb P q e
    obtain ⟨_, ps, h1, _⟩ := id t
    exact ⟨z, t.keep sg ((gG (nF h1)).trans t.1) ((hk P _ h1).trans h1.symm)⟩⟩, sg⟩
  · by_cases hb : b ∈ F
    · have e : (if b ∈ F then H' b else G b) = some u := e
      rwa [if_pos hb] at e
    · rw [gG hb] at e
      exact hk b u (S.le b u e)
  · obtain ⟨q1, q2⟩ := S.stp.k b u h1 hT h2 h3
    exact ⟨hk b u q1, by rw [gG (nF q1)]; exact q2⟩
  · obtain ⟨o', q⟩ := S.stp.d b u h1
    exact ⟨o', hk b o' q⟩
  · obtain ⟨q1, u, q2, q3⟩ := S.own k b m' e1 e2 e3
    exact ⟨by rw [gG (nF q2)]; exact q1, u, hk b u q2, q3.mono sg (List.prefix_refl _)⟩
  · obtain ⟨u, q⟩ := S.there b hb
    exact ⟨u, hk b u q⟩
  · obtain ⟨v, q1, q2⟩ := S.slot i l e
    exact ⟨v, q1, q2.mono sg (List.prefix_refl _)⟩
/-- what stands in a dict of data -/
def dctOf (M : Led) : Lo → Option (List (Key × D))
  | .ow k => match M[k]? with
    | some (.dc ks) => some ks
    | _ => none
  | .im (.dct ks) => some ks
  | _ => none
def valD (ks : List (Key × D)) (k : Key) : Option D := (ks.find? fun p => decide (p.1 = k)).map (·.2)
def putD (ks : List (Key × D)) (k : Key) (d : D) : List (Key × D) := if (ks.any fun p => decide (p.1 = k)) = true then ks.map (fun p => if p.1 = k then (p.1, d) else p) else ks ++ [(k, d)]
def keyOf : Lo → Option Key
  | .im (.int i) => some (.inl i)
  | .im (.str x) => some (.inr x)
  | _ => none
section
variable {C : Fc} {X : Cx} {e o i value : Expr} {te td ti tv : RE} {p pos pos' apos cpos : Pos}
theorem dct_at {As : List Addr} {G H : Hp} {Γ : Gam} {M : Led} {σ : L2.St} {l : Lo} {v : V} {ks : List (Key × D)} (S : Sat C As G H Γ M σ) (r : LRp C.K As G v l) (h : dctOf M l = some ks) :
    ∃ a kvs, v = .ref a ∧ H a = some (.dK kvs) ∧ kvs.map (·.1) = ks.map (·.1) ∧ RpL C.K G (kvs.map (·.2)) (ks.map (·.2)) := by
  cases l with
  | ow k =>
    simp only [dctOf] at h
    split at h
    · rename_i ks' e
      cases h
      obtain ⟨a, q1, rfl⟩ := r
      obtain ⟨g0, o, h0, kvs, rfl, h1, h2⟩ := S.own k a _ q1 e (by intro z; cases z)
      exact ⟨a, kvs, rfl, h0, h1, h2⟩
    · cases h
  | im d =>
    cases d with
    | dct ks' =>
      cases h
      cases r with
      | dct hg h1 h2 => exact ⟨_, _, rfl, S.le _ _ hg, h1, h2⟩
    | _ => cases h
  | tp _ => cases h
theorem key_at {K : PySem.W.Frag} {As : List Addr} {G : Hp} {l : Lo} {v : V} {k : Key} (r : LRp K As G v l) (h : keyOf l = some k) : v = kV k := by
  cases l with
  | im d =>
    cases d with
    | int i => cases h; exact int_of r
    | str x => cases h; cases r; rfl
    | _ => cases h
  | _ => cases h
theorem val_rp {K : PySem.W.Frag} {G : Hp} {k : Key} : ∀ {kvs : List (Key × V)} {ks : List (Key × D)}, kvs.map (·.1) = ks.map (·.1) → RpL K G (kvs.map (·.2)) (ks.map (·.2)) → match valV kvs k, valD ks k with
    | some v, some d => Rp K G v d
    | none, none => True
    | _, _ => False
  | [], [], _, _ => trivial
  | [], _ :: _, h, _ => by cases h
  | _ :: _, [], h, _ => by cases h
  | (k1, v1) :: kvs, (k2, d2) :: ks, h, r => by
    obtain ⟨e, h2⟩ := List.cons.inj h
    have e : k1 = k2 := e
    subst e
    cases r with
    | cons r1 r2 =>
      have ih := val_rp (k := k) h2 r2
      by_cases hk : k1 = k
      · simp only [valV, valD, List.find?_cons, hk, decide_true, Option.map_some]
        exact r1
      · simp only [valV, valD, List.find?_cons, hk, decide_false]
        exact ih
theorem any_fst {α β : Type} {k : Key} : ∀ {kvs : List (Key × α)} {ks : List (Key × β)}, kvs.map (·.1) = ks.map (·.1) → (kvs.any fun p => decide (p.1 = k)) = (ks.any fun p => decide (p.1 = k))
  | [], [], _ => rfl
  | [], _ :: _, h => by cases h
  | _ :: _, [], h => by cases h
  | (k1, v1) :: kvs, (k2, d2) :: ks, h => by
    obtain ⟨e, h2⟩ := List.cons.inj h
    have e : k1 = k2 := e
    subst e
    simp only [List.any_cons, any_fst h2]
theorem put_map {K : PySem.W.Frag} {G : Hp} {k : Key} {v : V} {d : D} (q : Rp K G v d) : ∀ {kvs : List (Key × V)} {ks : List (Key × D)}, kvs.map (·.1) = ks.map (·.1) → RpL K G (kvs.map (·.2)) (ks.map (·.2)) →
    RpL K G ((kvs.map fun kv => if kv.1 = k then (kv.1, v) else kv).map (·.2)) ((ks.map fun p => if p.1 = k then (p.1, d) else p).map (·.2))
  | [], [], _, _ => .nil
  | [], _ :: _, h, _ => by cases h
  | _ :: _, [], h, _ => by cases h
  | (k1, v1) :: kvs, (k2, d2) :: ks, h, r => by
    obtain ⟨e, h2⟩ := List.cons.inj h
    have e : k1 = k2 := e
    subst e
    cases r with
    | cons r1 r2 =>
      refine .cons ?_ (put_map q h2 r2)
      by_cases hk : k1 = k
      · simp only [hk, if_true]
        exact q
      · simp only [hk, if_false]
        exact r1
theorem fst_put {α : Type} {k : Key} {v : α} (kvs : List (Key × α)) : (kvs.map fun kv => if kv.1 = k then (kv.1, v) else kv).map (·.1) = kvs.map (·.1) := by
  rw [List.map_map]
  refine List.map_congr_left fun p _ => ?_
  show (if p.1 = k then (p.1, v) else p).1 = p.1
  split <;> rfl
theorem put_rp {K : PySem.W.Frag} {G : Hp} {k : Key} {v : V} {d : D} {kvs : List (Key × V)} {ks : List (Key × D)} (q : Rp K G v d) (h : kvs.map (·.1) = ks.map (·.1)) (r : RpL K G (kvs.map (·.2)) (ks.map (·.2))) :
    (putK kvs k v).map (·.1) = (putD ks k d).map (·.1) ∧ RpL K G ((putK kvs k v).map (·.2)) ((putD ks k d).map (·.2)) := by
  unfold putK putD
  rw [any_fst h]
  split
  · exact ⟨by rw [fst_put, fst_put, h], put_map q h r⟩
  · rw [List.map_append, List.map_append, List.map_append, List.map_append, h]
    exact ⟨rfl, r.app (.one q)⟩
/-- d[k] -/
def rDGet (td ti : RE) : RE := fun Γ M K => td Γ M fun l M1 => ti Γ M1 fun y M2 => match dctOf M2 l, keyOf y with
  | some ks, some k => @ExI D (valD ks k) ⟨fun d => K (.im d) M2⟩
  | _, _ => False
theorem q_dget (hu : X.A.units + 1 < cLine) (ho : QE C X o td) (hi : QE C X i ti) (hs : NoSl i := by exact fun _ _ => rfl) : QE C X (.Subscript o i pos) (rDGet td ti) := PE.imp (pe_dget hu ho hi hs) fun σ H Q ⟨As, G, Γ, M, K, S, t, q⟩ =>
  ⟨As, G, Γ, M, _, S, t, fun l M1 v As1 G1 H1 g1 rv t1 => ⟨As1, G1, Γ, M1, _, g1.sat, t1, fun y M2 u As2 G2 H2 g2 ru t2 => by
    split at t2
    · rename_i ks k e1 e2
      obtain ⟨a, kvs, rfl, h0, h1, h2⟩ := dct_at g2.sat (rv.mono g2.g g2.p) e1
      obtain rfl := key_at ru e2
      obtain ⟨d, e3, t3⟩ := t2
      have w := val_rp (k := k) h1 h2
      rw [e3] at w
      cases e4 : valV kvs k with
      | none => rw [e4] at w; exact w.elim
      | some v' =>
        rw [e4] at w
        exact ⟨a, v', rfl, .inl ⟨kvs, k, .inl h0, rfl, e4.symm⟩, q _ _ _ _ _ _ (g1.trans g2) (show LRp _ _ _ _ (.im d) from w) t3⟩
    · exact t2.elim⟩⟩
/-- k in d -/
def rDIn (neg : Bool) (ti td : RE) : RE := fun Γ M K => ti Γ M fun y M1 => td Γ M1 fun l M2 => match dctOf M2 l, keyOf y with
  | some ks, some k => K (.im (.bl (xor neg (valD ks k).isSome))) M2
  | _, _ => False
theorem q_din (hu : X.A.units + 1 < cLine) (hi : QE C X i ti) (ho : QE C X o td) : PC X .In i o (UE C (rDIn false ti td)) := ⟨fun pins s σ H Q I ⟨As, G, Γ, M, K, S, t, q⟩ => (pc_din hu hi ho).run pins s σ H Q I
  ⟨As, G, Γ, M, _, S, t, fun y M1 u As1 G1 H1 g1 ru t1 => ⟨As1, G1, Γ, M1, _, g1.sat, t1, fun l M2 v As2 G2 H2 g2 rv t2 => by
    split at t2
    · rename_i ks k e1 e2
      obtain ⟨a, kvs, rfl, h0, h1, h2⟩ := dct_at g2.sat rv e1
      obtain rfl := key_at (ru.mono g2.g g2.p) e2
      have w := val_rp (k := k) h1 h2
      have e3 : (valV kvs k).isSome = (valD ks k).isSome := by
        cases e4 : valV kvs k <;> cases e5 : valD ks k <;> rw [e4, e5] at w <;> first | rfl | exact w.elim
      refine ⟨a, _, rfl, .inl ⟨kvs, k, .inl h0, rfl, rfl⟩, q _ _ _ _ _ _ (g1.trans g2) (show LRp _ _ _ _ (.im (.bl _)) from ?_) t2⟩
      rw [e3, Bool.false_xor]
      exact Rp.bl _
    · exact t2.elim⟩⟩⟩
theorem q_dnotin (hu : X.A.units + 1 < cLine) (hi : QE C X i ti) (ho : QE C X o td) : PC X .NotIn i o (UE C (rDIn true ti td)) := ⟨fun pins s σ H Q I ⟨As, G, Γ, M, K, S, t, q⟩ => (pc_dnotin hu hi ho).run pins s σ H Q I
  ⟨As, G, Γ, M, _, S, t, fun y M1 u As1 G1 H1 g1 ru t1 => ⟨As1, G1, Γ, M1, _, g1.sat, t1, fun l M2 v As2 G2 H2 g2 rv t2 => by
    split at t2
    · rename_i ks k e1 e2
      obtain ⟨a, kvs, rfl, h0, h1, h2⟩ := dct_at g2.sat rv e1
      obtain rfl := key_at (ru.mono g2.g g2.p) e2
      have w := val_rp (k := k) h1 h2
      have e3 : (valV kvs k).isSome = (valD ks k).isSome := by
        cases e4 : valV kvs k <;> cases e5 : valD ks k <;> rw [e4, e5] at w <;> first | rfl | exact w.elim
      refine ⟨a, _, rfl, .inl ⟨kvs, k, .inl h0, rfl, rfl⟩, q _ _ _ _ _ _ (g1.trans g2) (show LRp _ _ _ _ (.im (.bl _)) from ?_) t2⟩
      rw [e3, Bool.true_xor]
      exact Rp.bl _
    · exact t2.elim⟩⟩⟩
/-- d[k] = v -/
def rDPut (tv td ti : RE) : RS := fun N Γ M => tv Γ M fun x M1 => td Γ M1 fun l M2 => ti Γ M2 fun y M3 => match x, l, keyOf y with
  | .im d, .ow k, some ky => match M3[k]? with
    | some (.dc ks) => ks.length < sizeLine ∧ N.nx Γ (M3.set k (.dc (putD ks ky d)))
    | _ => False
  | _, _, _ => False
theorem q_dput (hu : X.A.units + 1 < cLine) (hv : QE C X value tv) (ho : QE C X o td) (hi : QE C X i ti) (hs : swapsWith value (some (.Subscript o i pos')) pos.line X.env = pure false := by rfl) : QS C X (.Assign [.Subscript o i pos'] value pos) (rDPut tv td ti) :=
  PS.imp (ps_dput hu ho hi hv hs) fun D σ H ⟨As, G, Γ, M, N, S, t, f⟩ =>
  ⟨As, G, Γ, M, _, S, t, fun x M1 w As1 G1 H1 g1 rw t1 => ⟨As1, G1, Γ, M1, _, g1.sat, t1, fun l M2 v As2 G2 H2 g2 rv t2 => ⟨As2, G2, Γ, M2, _, g2.sat, t2, fun y M3 u As3 G3 H3 g3 ru t3 => by
    split at t3
    · rename_i d k ky e2
      split at t3
      · rename_i ks e
        obtain ⟨a, q1, rfl⟩ := rv.mono g3.g g3.p
        obtain ⟨g0, o, h0, kvs, rfl, h1, h2⟩ := g3.sat.own k a _ q1 e (by intro z; cases z)
        obtain rfl := key_at ru e2
        have rw' := (rw.mono g2.g g2.p).mono g3.g g3.p
        have hl : kvs.length = ks.length := by simpa using congrArg List.length h1
        obtain ⟨w1, w2⟩ := put_rp (k := ky) (show Rp C.K G3 w d from rw') h1 h2
        refine ⟨a, _, rfl, .inl ⟨kvs, ky, h0, rfl, by rw [hl]; exact t3.1, rfl⟩, ?_⟩
        exact f.nx _ _ _ _ _ _ (g1.w.trans (g2.w.trans (g3.w.trans ⟨g3.sat.write (m' := .dc (putD ks ky d)) q1 e (by intro z; cases z) ⟨_, rfl, w1, w2⟩, Same.refl _⟩))) t3.2
      · exact t3.elim
    · exact t3.elim⟩⟩⟩
/-- list(d.items()), frozen -/
def rItms (te : RE) : RE := fun Γ M K => te Γ M fun l M1 => match dctOf M1 l with
  | some ks => K (.im (.lst (itemsD ks))) M1
  | none => False
theorem pairs_rp {K : PySem.W.Frag} {G H' : Hp} {ts : List Addr} (hG : ∀ t ∈ ts, G t = H' t) : ∀ {us : List Addr} {kvs : List (Key × V)} {ks : List (Key × D)}, (∀ t ∈ us, t ∈ ts) → Paired (fun (t : Addr) (q : Key × V) => H' t = some (.tup [kV q.1, q.2])) us kvs → kvs.map (·.1) = ks.map (·.1) → RpL K G (kvs.map (·.2)) (ks.map (·.2)) → RpL K G (us.map V.ref) (itemsD ks)
  | _, _, [], _, .nil, _, _ => .nil
  | _, _, _ :: _, _, .nil, h, _ => by cases h
  | _, _, [], _, .cons _ _, h, _ => by cases h
  | t :: us, (k1, v1) :: kvs, (k2, d2) :: ks, hs, .cons p ps, h, r => by
    obtain ⟨e, h2⟩ := List.cons.inj h
    have e : k1 = k2 := e
    subst e
    cases r with
    | cons r1 r2 =>
      refine .cons (Rp.tup ((hG t (hs t List.mem_cons_self)).trans p) (.cons (keyD_rp _) (.one r1))) (pairs_rp hG (fun t ht => hs t (List.mem_cons_of_mem _ ht)) ps h2 r2)
theorem q_itms (hc : X.calm = true) (hm : X.mg "list" = none) (he : QE C X e te) (hg : Gl X "list" := by rfl) (hv : bootBuiltins "list" = some (.type "list") := by rfl) (hbase : attributeBase e "items" X.env (eval e X.env) = eval e X.env := by rfl) (hline : (apos.endLine == cpos.line) = true := by rfl)
    (hs : starEach [.Call (.Attribute e "items" apos) [] [] cpos] X.env = (false, eval (.Call (.Attribute e "items" apos) [] [] cpos) X.env) :: starEach [] X.env := by rfl) :
    QE C X (.Call (.Name "list" p) [.Call (.Attribute e "items" apos) [] [] cpos] [] pos) (rItms te) := PE.imp (LiI.pe_listItems hc he hg hm hv hbase hline hs) fun σ H Q ⟨As, G, Γ, M, K, S, t, q⟩ =>
  ⟨As, G, Γ, M, _, S, t, fun l M1 v As1 G1 H1 g1 rv t1 => by
    split at t1
    · rename_i ks e1
      obtain ⟨a, kvs, rfl, h0, h1, h2⟩ := dct_at g1.sat rv e1
      refine ⟨a, kvs, rfl, h0, fun H' p ts hk np nt hp hl hpr => ?_⟩
      obtain ⟨S2, sg⟩ := g1.sat.allocMany (p :: ts) hk (fun b hb => by
        rcases List.mem_cons.mp hb with rfl | hb
        · exact np
        · exact nt b hb)
      refine q (.im (.lst (itemsD ks))) M1 _ As1 _ H' ⟨S2, g1.g.trans sg, g1.p⟩ (Rp.lst (xs := ts.map V.ref) ?_ ?_) t1
      · show (if p ∈ p :: ts then H' p else G1 p) = _
        rw [if_pos List.mem_cons_self]
        exact hl
      · exact pairs_rp (ts := ts) (fun t ht => if_pos (List.mem_cons_of_mem _ ht)) (fun t ht => ht) hpr h1 (h2.mono sg)
    · exact t1.elim⟩
end
end Dl

set_option Elab.async false
set_option maxRecDepth 100000
set_option maxHeartbeats 1000000
namespace Dl
open PySem L2
/-! ### the readings' equations for dicts and classes -/
theorem room_u {k : Nat} {A : Around} (r : Room (k + 1) A) : A.units + 1 < cLine := by have := r.un; omega
section
variable {C : Fc} {X : Cx} {i o : Expr} {ti td : RE} {pos : Pos}
theorem q_dinV (hu : X.A.units + 1 < cLine) (hi : QE C X i ti) (ho : QE C X o td) (hm : behindInMarks .In o = false := by rfl) : QE C X (.Compare i [.In] [o] pos) (rDIn false ti td) := pe_cmp (q_din hu hi ho) hm
theorem q_tdin (hu : X.A.units + 1 < cLine) (hi : QE C X i ti) (ho : QE C X o td) (hm : behindInMarks .In o = false := by rfl) : QT C X (.Compare i [.In] [o] pos) (rB (rDIn false ti td)) := PT.imp (pt_cmp (q_din hu hi ho) hm) (up_b fun _ _ _ q => q)
theorem q_tdnotin (hu : X.A.units + 1 < cLine) (hi : QE C X i ti) (ho : QE C X o td) (hm : behindInMarks .NotIn o = false := by rfl) : QT C X (.Compare i [.NotIn] [o] pos) (rB (rDIn true ti td)) := PT.imp (pt_cmp (q_dnotin hu hi ho) hm) (up_b fun _ _ _ q => q)
theorem q_dnotinV (hu : X.A.units + 1 < cLine) (hi : QE C X i ti) (ho : QE C X o td) (hm : behindInMarks .NotIn o = false := by rfl) : QE C X (.Compare i [.NotIn] [o] pos) (rDIn true ti td) := pe_cmp (q_dnotin hu hi ho) hm
end
/-- a loop over a locked dict, its ways on hidden -/
def FrL (ds : List D) (P : Led → Prop) (Γ : Gam) (M : Led) [w : KW (RG × RS × Nd)] : Prop := ∃ Iv : Nat → Gam → Led → Prop, Iv 0 Γ M ∧
  (∀ i d Γ' M', ds[i]? = some d → Iv i Γ' M' → P M' ∧ w.K.1 (.im d) Γ' M' fun Γ2 M2 => w.K.2.1 ⟨Iv (i + 1), w.K.2.2.rt, w.K.2.2.nx, Iv (i + 1)⟩ Γ2 M2) ∧ ∀ Γ' M', Iv ds.length Γ' M' → P M' ∧ w.K.2.2.nx Γ' M'
theorem rForL_e (ti : RIP) (g : RG) (tb : RS) : ∀ N Γ M, rForL ti g tb N Γ M = (ti Γ M fun ds P M1 => @FrL ds P Γ M1 ⟨(g, tb, N)⟩) := fun _ _ _ => rfl
theorem rLcL_e (out : Hand) (ti : RIP) (g : RG) (tt : RT) (te : RE) (vs : List Nat) : ∀ Γ M K, rLcL out ti g tt te vs Γ M K = ti Γ M fun ds P M1 => P M1 ∧ closed M1.length M1 ∧ @LcQ D ds (fun d acc R R2 => g (.im d) (wipeG Γ vs) (M1 ++ [.li acc]) fun Γ2 M2 => tt Γ2 M2 fun b M3 =>
  IfE b (te Γ2 M3 fun l M4 => M4 = M1 ++ [.li acc] ∧ ImR l R) (M3 = M1 ++ [.li acc] ∧ R2)) ⟨fun acc => out acc M1 K⟩ := fun _ _ _ => rfl
theorem rItmL_e (b : Nat) (te : RE) : ∀ Γ M K, rItmL b te Γ M K = (te Γ M fun l M1 => match l with
  | .ow k => match M1[k]? with
    | some (.dl od kvs ks) => k < b ∧ K (itemsD ks) (LkP k od kvs ks) M1
    | _ => False
  | _ => False) := fun _ _ _ => rfl
theorem rValL_e (b : Nat) (te : RE) : ∀ Γ M K, rValL b te Γ M K = (te Γ M fun l M1 => match l with
  | .ow k => match M1[k]? with
    | some (.dl od kvs ks) => k < b ∧ K (ks.map (·.2)) (LkP k od kvs ks) M1
    | _ => False
  | _ => False) := fun _ _ _ => rfl
theorem lkP_e {k : Nat} {od : Obj} {kvs : List (Key × V)} {ks : List (Key × D)} {M : Led} : LkP k od kvs ks M = (M[k]? = some (.dl od kvs ks)) := rfl
theorem rLock_e (pth : Gam → Led → Option Nat) (t : Nat → RS) : ∀ N Γ M, rLock pth t N Γ M = (match pth Γ M with
  | some k => match M[k]? with
    | some (.dc ks) => ∀ od kvs, t M.length (ndL k od kvs ks N) Γ (M.set k (.dl od kvs ks))
    | _ => False
  | none => False) := fun _ _ _ => rfl
theorem ndL_nx {k : Nat} {od : Obj} {kvs : List (Key × V)} {ks : List (Key × D)} {N : Nd} {Γ : Gam} {M : Led} : (ndL k od kvs ks N).nx Γ M = (M[k]? = some (.dl od kvs ks) ∧ N.nx Γ (M.set k (.dc ks))) := rfl
theorem ndL_rt {k : Nat} {od : Obj} {kvs : List (Key × V)} {ks : List (Key × D)} {N : Nd} {l : Lo} {M : Led} : (ndL k od kvs ks N).rt l M = (M[k]? = some (.dl od kvs ks) ∧ N.rt l (M.set k (.dc ks))) := rfl
theorem ndL_bk {k : Nat} {od : Obj} {kvs : List (Key × V)} {ks : List (Key × D)} {N : Nd} {Γ : Gam} {M : Led} : (ndL k od kvs ks N).bk Γ M = (M[k]? = some (.dl od kvs ks) ∧ N.bk Γ (M.set k (.dc ks))) := rfl
theorem ndL_ct {k : Nat} {od : Obj} {kvs : List (Key × V)} {ks : List (Key × D)} {N : Nd} {Γ : Gam} {M : Led} : (ndL k od kvs ks N).ct Γ M = (M[k]? = some (.dl od kvs ks) ∧ N.ct Γ (M.set k (.dc ks))) := rfl
theorem rDGet_e (td ti : RE) : ∀ Γ M K, rDGet td ti Γ M K = (td Γ M fun l M1 => ti Γ M1 fun y M2 => match dctOf M2 l, keyOf y with
  | some ks, some k => @ExI D (valD ks k) ⟨fun d => K (.im d) M2⟩
  | _, _ => False) := fun _ _ _ => rfl
theorem rDIn_e (neg : Bool) (ti td : RE) : ∀ Γ M K, rDIn neg ti td Γ M K = (ti Γ M fun y M1 => td Γ M1 fun l M2 => match dctOf M2 l, keyOf y with
  | some ks, some k => K (.im (.bl (xor neg (valD ks k).isSome))) M2
  | _, _ => False) := fun _ _ _ => rfl
theorem rDPut_e (tv td ti : RE) : ∀ N Γ M, rDPut tv td ti N Γ M = (tv Γ M fun x M1 => td Γ M1 fun l M2 => ti Γ M2 fun y M3 => match x, l, keyOf y with
  | .im d, .ow k, some ky => match M3[k]? with
    | some (.dc ks) => ks.length < sizeLine ∧ N.nx Γ (M3.set k (.dc (putD ks ky d)))
    | _ => False
  | _, _, _ => False) := fun _ _ _ => rfl
theorem rItms_e (te : RE) : ∀ Γ M K, rItms te Γ M K = (te Γ M fun l M1 => match dctOf M1 l with
  | some ks => K (.im (.lst (itemsD ks))) M1
  | none => False) := fun _ _ _ => rfl
theorem dct_o {M : Led} {k : Nat} : dctOf M (.ow k) = (match M[k]? with
    | some (.dc ks) => some ks
    | _ => none) := rfl
theorem dct_i {M : Led} {ks : List (Key × D)} : dctOf M (.im (.dct ks)) = some ks := rfl
theorem key_i {i : Int} : keyOf (.im (.int i)) = some (.inl i) := rfl
theorem key_s {x : Str} : keyOf (.im (.str x)) = some (.inr x) := rfl
theorem pSl_e {i : Nat} {Γ : Gam} {M : Led} : pSl i Γ M = (match Γ[i]? with
  | some (some (.ow k)) => some k
  | _ => none) := rfl
theorem pFl_e {i : Nat} {f : Str} {Γ : Gam} {M : Led} : pFl i f Γ M = (match Γ[i]? with
  | some (some (.ow j)) => match M[j]? with
    | some (.ob _ fs) => match fs.lookup f with
      | some (.ow k) => some k
      | _ => none
    | _ => none
  | _ => none) := rfl
theorem lcq_itm {ks : List (Key × D)} (body : D → List D → (D → Prop) → Prop → Prop) (k : List D → Prop) : @LcQ D (itemsD ks) body ⟨k⟩ = @LcQ (Key × D) ks (fun p => body (.tup [keyD p.1, p.2])) ⟨k⟩ := lcq_map (fun p : Key × D => D.tup [keyD p.1, p.2]) ks body k
/-! ### list(range(a, b)), tuple(range(n)), tuple(range(a, b)) -/
theorem rgV_rp2 {K : PySem.W.Frag} {G : Hp} (a b : Int) : RpL K G (rgV a b) (rangeD a (b - a).toNat) := by
  unfold rgV rangeD
  generalize (b - a).toNat = m
  have go : ∀ l : List Nat, RpL K G (l.map fun i : Nat => V.int (a + (i : Nat))) (l.map fun i : Nat => D.int (a + (i : Nat))) := fun l => by
    induction l with
    | nil => exact .nil
    | cons h r ih => exact .cons (.int _) ih
  exact go _
def rgLim (a b : Int) : Prop := -16777216 ≤ a ∧ a ≤ 16777216 ∧ -16777216 ≤ b ∧ b ≤ 16777216 ∧ b - a ≤ 16777216
theorem rgLim.ok {a b : Int} (h : rgLim a b) : RgOk a b := by
  obtain ⟨h1, h2, h3, h4, h5⟩ := h
  exact ⟨by omega, by omega, by omega, by omega, by omega⟩
def rLstRg2 (out : Hand) (ta tb : RE) : RE := fun Γ M K => ta Γ M fun x M1 => tb Γ M1 fun y M2 => match x, y with
  | .im (.int i), .im (.int j) => rgLim i j ∧ out (rangeD i (j - i).toNat) M2 K
  | _, _ => False
def rTupRg (ta : RE) : RE := fun Γ M K => ta Γ M fun x M1 => match x with
  | .im (.int n) => rgLim 0 n ∧ K (.im (.tup (rangeD 0 n.toNat))) M1
  | _ => False
def rTupRg2 (ta tb : RE) : RE := fun Γ M K => ta Γ M fun x M1 => tb Γ M1 fun y M2 => match x, y with
  | .im (.int i), .im (.int j) => rgLim i j ∧ K (.im (.tup (rangeD i (j - i).toNat))) M2
  | _, _ => False
section
variable {C : Fc} {X : Cx} {p pos p2 pos2 : Pos} {a b : Expr} {ta tb : RE}
theorem q_listRg2 {out : Hand} (hout : OutN out) (hc : X.calm = true) (hm : X.mg "list" = none) (hmr : X.mg "range" = none) (ha : QE C X a ta) (hb : QE C X b tb) (hg : Gl X "list" := by rfl) (hgr : Gl X "range" := by rfl)
    (n1 : starEach [a, b] X.env = (false, eval a X.env) :: starEach [b] X.env := by rfl) (n3 : starEach [b] X.env = (false, eval b X.env) :: starEach [] X.env := by rfl) (hp : (backTo pos (starEach [b] X.env)).any (·.1) = false := by rfl)
    (n2 : starEach [.Call (.Name "range" p) [a, b] [] pos] X.env = (false, eval (.Call (.Name "range" p) [a, b] [] pos) X.env) :: starEach [] X.env := by rfl) :
    QE C X (.Call (.Name "list" p2) [.Call (.Name "range" p) [a, b] [] pos] [] pos2) (rLstRg2 out ta tb) :=
  PE.imp (pe_listRg hc hg hm (prg_2 hgr hmr ha hb n1 n3 hp) n2) fun σ H Q ⟨As, G, Γ, M, K, S, t, q⟩ => ⟨As, G, Γ, M, _, S, t, fun l M1 v As1 G1 H1 g1 rv t1 => ⟨As1, G1, Γ, M1, _, g1.sat, t1, fun y M2 u As2 G2 H2 g2 ru t2 => by
    split at t2
    · rename_i i j
      exact ⟨i, j, int_of rv, int_of ru, t2.1.ok, fun q0 hq => hout g2.sat hq (rgV_rp2 i j) t2.2 fun l2 M3 v2 As3 G3 H3 g3 r3 k3 => q l2 M3 v2 As3 G3 H3 (g1.trans (g2.trans g3)) r3 k3⟩
    · exact t2.elim⟩⟩
theorem q_tupRg (hc : X.calm = true) (hm : X.mg "tuple" = none) (hmr : X.mg "range" = none) (ha : QE C X a ta) (hg : Gl X "tuple" := by rfl) (hgr : Gl X "range" := by rfl)
    (n1 : starEach [a] X.env = (false, eval a X.env) :: starEach [] X.env := by rfl) (n2 : starEach [.Call (.Name "range" p) [a] [] pos] X.env = (false, eval (.Call (.Name "range" p) [a] [] pos) X.env) :: starEach [] X.env := by rfl) :
    QE C X (.Call (.Name "tuple" p2) [.Call (.Name "range" p) [a] [] pos] [] pos2) (rTupRg ta) :=
  PE.imp (pe_tupRg hc hg hm (prg_1 hgr hmr ha n1) n2) fun σ H Q ⟨As, G, Γ, M, K, S, t, q⟩ => ⟨As, G, Γ, M, _, S, t, fun l M1 v As1 G1 H1 g1 rv t1 => by
    split at t1
    · rename_i n
      exact ⟨n, int_of rv, t1.1.ok, fun q0 hq => q (.im (.tup _)) _ _ _ _ _ (g1.trans (Gr.frz g1.sat hq)) (rp_new_t g1.sat hq (rgV_rp n)) t1.2⟩
    · exact t1.elim⟩
theorem q_tupRg2 (hc : X.calm = true) (hm : X.mg "tuple" = none) (hmr : X.mg "range" = none) (ha : QE C X a ta) (hb : QE C X b tb) (hg : Gl X "tuple" := by rfl) (hgr : Gl X "range" := by rfl)
    (n1 : starEach [a, b] X.env = (false, eval a X.env) :: starEach [b] X.env := by rfl) (n3 : starEach [b] X.env = (false, eval b X.env) :: starEach [] X.env := by rfl) (hp : (backTo pos (starEach [b] X.env)).any (·.1) = false := by rfl)
    (n2 : starEach [.Call (.Name "range" p) [a, b] [] pos] X.env = (false, eval (.Call (.Name "range" p) [a, b] [] pos) X.env) :: starEach [] X.env := by rfl) :
    QE C X (.Call (.Name "tuple" p2) [.Call (.Name "range" p) [a, b] [] pos] [] pos2) (rTupRg2 ta tb) :=
  PE.imp (pe_tupRg hc hg hm (prg_2 hgr hmr ha hb n1 n3 hp) n2) fun σ H Q ⟨As, G, Γ, M, K, S, t, q⟩ => ⟨As, G, Γ, M, _, S, t, fun l M1 v As1 G1 H1 g1 rv t1 => ⟨As1, G1, Γ, M1, _, g1.sat, t1, fun y M2 u As2 G2 H2 g2 ru t2 => by
    split at t2
    · rename_i i j
      exact ⟨i, j, int_of rv, int_of ru, t2.1.ok, fun q0 hq => q (.im (.tup _)) _ _ _ _ _ (g1.trans (g2.trans (Gr.frz g2.sat hq))) (rp_new_t g2.sat hq (rgV_rp2 i j)) t2.2⟩
    · exact t2.elim⟩⟩
end
theorem rLstRg2_e (out : Hand) (ta tb : RE) : ∀ Γ M K, rLstRg2 out ta tb Γ M K = (ta Γ M fun x M1 => tb Γ M1 fun y M2 => match x, y with
  | .im (.int i), .im (.int j) => rgLim i j ∧ out (rangeD i (j - i).toNat) M2 K
  | _, _ => False) := fun _ _ _ => rfl
theorem rTupRg_e (ta : RE) : ∀ Γ M K, rTupRg ta Γ M K = (ta Γ M fun x M1 => match x with
  | .im (.int n) => rgLim 0 n ∧ K (.im (.tup (rangeD 0 n.toNat))) M1
  | _ => False) := fun _ _ _ => rfl
theorem rTupRg2_e (ta tb : RE) : ∀ Γ M K, rTupRg2 ta tb Γ M K = (ta Γ M fun x M1 => tb Γ M1 fun y M2 => match x, y with
  | .im (.int i), .im (.int j) => rgLim i j ∧ K (.im (.tup (rangeD i (j - i).toNat))) M2
  | _, _ => False) := fun _ _ _ => rfl
theorem rgLim_y {a b : Int} (h : rgLim a b) : rgLim a b = True := eq_true h
/-! ### isinstance of own classes -/
section
variable {K : PySem.W.Frag} {mg : Str → Option Value} {m n x : String} {c cm : Addr} {r : Bool}
theorem ins_mk (C : Cls K (cn K x)) (nx : PySem.W.nsIn K mainGlobals (Str.ofString x) = some (some (.ref c))) (ha : PySem.W.findIn K (.ref c) "__class__" = some (some (.builtin "object.__class__"))) (hn : PySem.W.specialIn K (.builtin "object.__class__") "__get__" = some (some (.builtin "getset_descriptor.__get__")))
    (ht : PySem.W.takesIn K (.builtin "object.__class__") = some true) (hm : PySem.W.mroIn K c (.type "object") = some true) : InsC K (cn K x) := by
  refine ⟨C, ?_, hn, ht, ?_⟩ <;> rw [cn_eq nx] <;> assumption
theorem tb_oo (nm : PySem.W.nsIn K mainGlobals (Str.ofString m) = some (some (.ref cm))) (nn : PySem.W.nsIn K mainGlobals (Str.ofString n) = some (some (.ref c))) (I : InsC K (cn K m)) (hd : PySem.W.hasDictIn K c = true) (t : PySem.W.typeIn K (.ref c) = some (.type "type")) (s0 : PySem.W.subIn K (.ref cm) (.ref cm) = some true) (s : PySem.W.subIn K (.ref cm) (.ref c) = some r) :
    PySem.W.kitOne K (Tn.val K (.o m)) (Tn.val K (.o n)) = some r ∧ MOk K (.o m) := by
  have e := cn_eq nm
  have e2 := cn_eq nn
  subst e e2
  exact ⟨kit_own (cls_some hd) t s0 s, I⟩
theorem tb_bo (nn : PySem.W.nsIn K mainGlobals (Str.ofString n) = some (some (.ref c))) (hd : PySem.W.hasDictIn K c = true) (t : PySem.W.typeIn K (.ref c) = some (.type "type")) (s : PySem.W.subIn K (.type m) (.ref c) = some r) :
    PySem.W.kitOne K (Tn.val K (.b m)) (Tn.val K (.o n)) = some r ∧ MOk K (.b m) := by
  have e2 := cn_eq nn
  subst e2
  exact ⟨kit_bo (cls_some hd) t s, trivial⟩
theorem tb_ob (nm : PySem.W.nsIn K mainGlobals (Str.ofString m) = some (some (.ref cm))) (I : InsC K (cn K m)) (hT : PySem.W.kitMeta n = true) (s : PySem.W.subIn K (.ref cm) (.type n) = some r) :
    PySem.W.kitOne K (Tn.val K (.o m)) (Tn.val K (.b n)) = some r ∧ MOk K (.o m) := by
  have e := cn_eq nm
  subst e
  exact ⟨kit_ob hT s, I⟩
end
end Dl

set_option Elab.async false
set_option maxRecDepth 100000
set_option maxHeartbeats 1000000
namespace Dl
open PySem L2
/-! ### tuples of ints, lists of them -/
abbrev dT (g : List Int) : D := .tup (g.map D.int)
theorem ti_f (ns : List Int) : D.flatL (ns.map D.int) = true ∧ PyData.canLayAll0 (D.pdL (ns.map D.int)) = true ∧ PyData.depthAll (D.pdL (ns.map D.int)) = 0 := by
  induction ns with
  | nil => exact ⟨rfl, rfl, rfl⟩
  | cons n r ih =>
    obtain ⟨a, b, c⟩ := ih
    refine ⟨a, b, ?_⟩
    show max 0 (PyData.depthAll (D.pdL (r.map D.int))) = 0
    rw [c]
    rfl
theorem okd_tup (ns : List Int) : okd (.tup (ns.map D.int)) = true := by
  obtain ⟨a, b, c⟩ := ti_f ns
  have e1 : (D.tup (ns.map D.int)).flat = true := a
  have e2 : (D.tup (ns.map D.int)).pd.canLay0 = true := b
  have e3 : (D.tup (ns.map D.int)).pd.depth = 0 + 1 := congrArg (· + 1) c
  unfold okd SeqAt.shaped
  rw [e1, e2, e3]
  rfl
theorem tt_f (gs : List (List Int)) : D.flatL (gs.map dT) = true ∧ PyData.canLayAll0 (D.pdL (gs.map dT)) = true ∧ PyData.depthAll (D.pdL (gs.map dT)) ≤ 1 := by
  induction gs with
  | nil => exact ⟨rfl, rfl, by decide⟩
  | cons g r ih =>
    obtain ⟨a, b, c⟩ := ih
    obtain ⟨a1, b1, c1⟩ := ti_f g
    refine ⟨?_, ?_, ?_⟩
    · show (D.flatL (g.map D.int) && D.flatL (r.map dT)) = true
      rw [a1, a]
      rfl
    · show (PyData.canLayAll0 (D.pdL (g.map D.int)) && PyData.canLayAll0 (D.pdL (r.map dT))) = true
      rw [b1, b]
      rfl
    · show max (PyData.depthAll (D.pdL (g.map D.int)) + 1) (PyData.depthAll (D.pdL (r.map dT))) ≤ 1
      rw [c1]
      omega
theorem okd_tt (gs : List (List Int)) : okd (.lst (gs.map dT)) = true := by
  obtain ⟨a, b, c⟩ := tt_f gs
  have e1 : (D.lst (gs.map dT)).flat = true := a
  have e2 : (D.lst (gs.map dT)).pd.canLay0 = true := b
  have e3 : (D.lst (gs.map dT)).pd.depth ≤ 2 := Nat.succ_le_succ c
  unfold okd SeqAt.shaped
  rw [e1, e2]
  simp only [Bool.true_and, decide_eq_true_eq]
  omega
theorem okd_tup0 : okd (.tup []) = true := okd_tup []
theorem eqv_tup (ns ms : List Int) : PyData.eqv (D.tup (ns.map D.int)).pd (D.tup (ms.map D.int)).pd = decide (ns = ms) := by
  show PyData.eqvAll (D.pdL (ns.map D.int)) (D.pdL (ms.map D.int)) = _
  rw [pdL_ints, pdL_ints]
  exact evInts ns ms
theorem eqv_tup0 (ns : List Int) : PyData.eqv (D.tup (ns.map D.int)).pd (D.tup []).pd = decide (ns = []) := eqv_tup ns []
theorem eqv_tup1 (ns : List Int) : PyData.eqv (D.tup []).pd (D.tup (ns.map D.int)).pd = decide ([] = ns) := eqv_tup [] ns
theorem eqvA_tt : ∀ gs hs : List (List Int), PyData.eqvAll (D.pdL (gs.map dT)) (D.pdL (hs.map dT)) = decide (gs = hs)
  | [], [] => rfl
  | [], _ :: _ => rfl
  | _ :: _, [] => rfl
  | g :: gs, h :: hs => by
    show (PyData.eqv (dT g).pd (dT h).pd && PyData.eqvAll (D.pdL (gs.map dT)) (D.pdL (hs.map dT))) = _
    rw [eqv_tup, eqvA_tt gs hs]
    by_cases e : g = h <;> by_cases e2 : gs = hs <;> simp [e, e2]
theorem eqv_tt (gs hs : List (List Int)) : PyData.eqv (D.lst (gs.map dT)).pd (D.lst (hs.map dT)).pd = decide (gs = hs) := eqvA_tt gs hs
theorem eqv_tt0 (gs : List (List Int)) : PyData.eqv (D.lst (gs.map dT)).pd (D.lst []).pd = decide (gs = []) := eqvA_tt gs []
theorem eqv_tt1 (gs : List (List Int)) : PyData.eqv (D.lst []).pd (D.lst (gs.map dT)).pd = decide ([] = gs) := eqvA_tt [] gs
end Dl

set_option Elab.async false
set_option maxRecDepth 100000
set_option maxHeartbeats 1000000
namespace Dl
open PySem PySem.Spec PyProof.Rows L2
/-! ### a loop over a list of one's own, which the body leaves alone -/
def LiP (k : Nat) (ds : List D) : Led → Prop := fun M => M[k]? = some (.li ds)
def YesP : Led → Prop := fun _ => True
def rIOwn (b : Nat) (te : RE) : RIP := fun Γ M K => te Γ M fun l M1 => match l with
  | .ow k => match M1[k]? with
    | some (.li ds) => k < b ∧ K ds (LiP k ds) M1
    | _ => False
  | .im (.lst ds) => K ds YesP M1
  | _ => False
theorem rIOwn_e (b : Nat) (te : RE) : ∀ Γ M K, rIOwn b te Γ M K = (te Γ M fun l M1 => match l with
  | .ow k => match M1[k]? with
    | some (.li ds) => k < b ∧ K ds (LiP k ds) M1
    | _ => False
  | .im (.lst ds) => K ds YesP M1
  | _ => False) := fun _ _ _ => rfl
theorem liP_e {k : Nat} {ds : List D} {M : Led} : LiP k ds M = (M[k]? = some (.li ds)) := rfl
theorem yesP_e {M : Led} : YesP M = True := rfl
section
variable {C : Fc} {X : Cx} {tg e : Expr} {te : RE}
theorem q_iown (hK : C.K = X.K) (he : QE C X e te) : QIP C X tg e (rIOwn C.Ab.length te) := PI.imp (pi_list he) fun σ H R ⟨As, G, Γ, M, K, S, t, q⟩ => ⟨As, G, Γ, M, _, S, t, fun l M1 v As1 G1 H1 g1 rv t1 => by
  split at t1
  · rename_i k
    split at t1
    · rename_i ds e
      obtain ⟨hb, t2⟩ := t1
      obtain ⟨a, ha⟩ := ab_get hb
      have h1 := pre_get g1.sat.ba ha
      obtain ⟨a', q1, rfl⟩ := rv
      rw [h1] at q1
      cases q1
      obtain ⟨_, o, h0, xs, rfl, rx⟩ := g1.sat.own k a _ h1 e (by intro z; cases z)
      refine ⟨a, rfl, ⟨_, SqL.of h0⟩, q ds (LiP k ds) M1 As1 G1 H1 _ g1 (fun i As2 G2 H2 Γ2 M2 σ2 S2 sg p => ?_) (fun M p m => ?_) t2⟩
      · have p : M2[k]? = some (.li ds) := p
        obtain ⟨_, o2, h2, ys, rfl, ry⟩ := S2.own k a _ (pre_get S2.ba ha) p (by intro z; cases z)
        refine ⟨fun d hd => ?_, fun hi => ⟨_, SqL.of h2, by rw [ry.length]; exact hi⟩⟩
        obtain ⟨w, hw, rw'⟩ := ry.get hd
        refine ⟨⟨_, w, SqL.of h2, hw⟩, fun y H' hy => ?_⟩
        obtain ⟨rfl, hy⟩ := hy
        have := hy _ (SqL.of h2)
        rw [hw] at this
        cases this
        exact ⟨G2, Gr.refl S2, rw'⟩
      · have p : M[k]? = some _ := p
        show (M ++ [m])[k]? = _
        rw [List.getElem?_append_left (List.getElem?_eq_some_iff.mp p).1]
        exact p
    · exact t1.elim
  · rename_i ds
    cases rv with
    | lst h r =>
      refine ⟨_, rfl, ⟨_, SqL.of (g1.sat.le _ _ h)⟩, q ds YesP M1 As1 G1 H1 _ g1 (fun i As2 G2 H2 Γ2 M2 σ2 S2 sg _ => ⟨fun d hd => ?_, fun hi => ?_⟩) (fun _ _ _ => trivial) t1⟩
      · have h2 := S2.le _ _ (sg _ _ h)
        obtain ⟨w, hw, rw'⟩ := (r.mono sg).get hd
        refine ⟨⟨_, w, SqL.of h2, hw⟩, fun y H' hy => ?_⟩
        obtain ⟨rfl, hy⟩ := hy
        have := hy _ (SqL.of h2)
        rw [hw] at this
        cases this
        exact ⟨G2, Gr.refl S2, rw'⟩
      · exact ⟨_, SqL.of (S2.le _ _ (sg _ _ h)), by rw [r.length]; exact hi⟩
  · exact t1.elim⟩
/-- from here on no object of before goes -/
def rBase (t : Nat → RS) : RS := fun N Γ M => t M.length N Γ M
theorem q_base {st : Stmt} {t : Nat → RS} (h : ∀ (Ab : List Addr) (Gb : Hp), QS { C with Ab := Ab, Gb := Gb } X st (t Ab.length)) : QS C X st (rBase t) := ⟨fun pins s σ H D I ⟨As, G, Γ, M, N, S, t0, f⟩ =>
  (h As G).run pins s σ H D I ⟨As, G, Γ, M, N, Fc_in S, by
    have t1 : t M.length N Γ M := t0
    rw [← S.al] at t1
    exact t1, Fin_try S.ba S.bg f⟩⟩
theorem rBase_e (t : Nat → RS) : ∀ N Γ M, rBase t N Γ M = t M.length N Γ M := fun _ _ _ => rfl
end
end Dl

set_option Elab.async false
set_option maxRecDepth 100000
set_option maxHeartbeats 1000000
namespace Dl
open PySem PySem.Spec PyProof.Rows L2
/-! ### a loop over a tuple of anything, one's own objects too, unrolled -/
def ItL (C : Fc) (G1 : Hp) (J : It) (ls : List Lo) : Prop := ∀ (i : Nat) (As : List Addr) (G H : Hp) (Γ : Gam) (M : Led) (σ : L2.St), Sat C As G H Γ M σ → Same G1 G →
  (∀ l, ls[i]? = some l → J.go i H ∧ ∀ x H', J.yld i H x H' → ∃ G', Gr C As G As G' H' Γ M σ ∧ LRp C.K As G' x l) ∧ (ls.length ≤ i → J.stop i H)
abbrev RIT := Gam → Led → (List Lo → Led → Prop) → Prop
def UIT (C : Fc) (t : RIT) : TI := fun σ H R => ∃ (As : List Addr) (G : Hp) (Γ : Gam) (M : Led) (K : List Lo → Led → Prop), Sat C As G H Γ M σ ∧ t Γ M K ∧
  ∀ (ls : List Lo) (M' : Led) (As' : List Addr) (G' H' : Hp) (J : It), Gr C As G As' G' H' Γ M' σ → ItL C G' J ls → K ls M' → R J H'
def QIT (C : Fc) (X : Cx) (tg iter : Expr) (t : RIT) : Prop := PI X tg iter (UIT C t)
def rITupT (b : Nat) (te : RE) : RIT := fun Γ M K => te Γ M fun l M1 => match l with
  | .tp ls => refLs (· < b) ls ∧ K ls M1
  | .im (.tup ds) => K (ds.map Lo.im) M1
  | _ => False
theorem LRpL.cut {K : PySem.W.Frag} {Ab As : List Addr} {G : Hp} (p : Ab <+: As) {xs : List V} {ls : List Lo} (r : LRpS K As G xs ls) (h : refLs (· < Ab.length) ls) : LRpS K Ab G xs ls := by
  have q := LRpS.ren (Au := Ab) (f := fun k => k) (P := (· < Ab.length)) (fun k a hk e => by
    obtain ⟨t, rfl⟩ := p
    rwa [List.getElem?_append_left hk] at e) r h
  rwa [renLs_id] at q
section
variable {C : Fc} {X : Cx} {tg e : Expr} {te : RE} {pos : Pos}
theorem q_itupT (hK : C.K = X.K) (he : QE C X e te) : QIT C X tg e (rITupT C.Ab.length te) := PI.imp (pi_tup he) fun σ H R ⟨As, G, Γ, M, K, S, t, q⟩ => ⟨As, G, Γ, M, _, S, t, fun l M1 v As1 G1 H1 g1 rv t1 => by
  have go : ∀ (a : Addr) (xs : List V) (ls : List Lo), G1 a = some (.tup xs) → LRpS C.K C.Ab G1 xs ls → ItL C G1 (Itt X.K a) ls := fun a xs ls h r i As2 G2 H2 Γ2 M2 σ2 S2 sg => by
    have h2 := S2.le _ _ (sg _ _ h)
    have r2 := (LRpS.mono' sg S2.ba r).l
    refine ⟨fun l hl => ?_, fun hi => ⟨_, SqT.of h2, by rw [r2.length]; exact hi⟩⟩
    obtain ⟨w, hw, rw'⟩ := r2.get hl
    refine ⟨⟨_, w, SqT.of h2, hw⟩, fun y H' hy => ?_⟩
    obtain ⟨rfl, hy⟩ := hy
    have := hy _ (SqT.of h2)
    rw [hw] at this
    cases this
    exact ⟨G2, Gr.refl S2, rw'⟩
  split at t1
  · rename_i ls
    obtain ⟨hb, t2⟩ := t1
    obtain ⟨a, xs, rfl, h, r⟩ := rv
    exact ⟨a, rfl, ⟨_, SqT.of (g1.sat.le _ _ h)⟩, q ls M1 As1 G1 H1 _ g1 (go a xs ls h (LRpL.cut g1.sat.ba r hb)) t2⟩
  · rename_i ds
    cases rv with
    | tup h r =>
      refine ⟨_, rfl, ⟨_, SqT.of (g1.sat.le _ _ h)⟩, q _ M1 As1 G1 H1 _ g1 (go _ _ _ h ?_) t1⟩
      exact LRpL.s (LRpL.of_data r)
  · exact t1.elim⟩
def unr (g : RG) (tb : RS) (N : Nd) : List Lo → Gam → Led → Prop
  | [], Γ, M => N.nx Γ M
  | l :: r, Γ, M => g l Γ M fun Γ2 M2 => tb ⟨unr g tb N r, N.rt, N.nx, unr g tb N r⟩ Γ2 M2
def rForT (ti : RIT) (g : RG) (tb : RS) : RS := fun N Γ M => ti Γ M fun ls M1 => unr g tb N ls Γ M1
theorem q_forT {iter : Expr} {is : List Nat} {body : List Stmt} {ti : RIT} {g : RG} {tb : RS} (hp : PassesOwn (model X.prog X.w) X.A X.env X.xe) (hc : X.calm = true) (hi : QIT C X tg iter ti) (hg : QG C X tg is g) (hb : QSs C X body tb)
    (hs : ∀ x, foldedSetIterable iter X.env x = pure x := by intro _; rfl) : QS C X (.For tg iter body [] pos) (rForT ti g tb) :=
  PS.imp (ps_for hp hc hi hg hb hs) fun D σ H ⟨As, G, Γ, M, N, S, t, f⟩ => ⟨As, G, Γ, M, _, S, t, fun ls M1 As1 G1 H1 J g1 hJ t1 => by
    refine ⟨fun i m σ' H' => m = ls.length - i ∧ i ≤ ls.length ∧ ∃ As' G' Γ' M', Gw C G1 As' G' H' Γ' M' σ' ∧ unr g tb N (ls.drop i) Γ' M', ⟨_, rfl, Nat.zero_le _, As1, G1, Γ, M1, (Gr.refl g1.sat).w, t1⟩, ?_⟩
    rintro i m σ2 H2 ⟨rfl, hi, As2, G2, Γ2, M2, g2, i2⟩
    obtain ⟨hgo, hst⟩ := hJ i As2 G2 H2 Γ2 M2 σ2 g2.sat g2.g
    by_cases hlt : i < ls.length
    · rw [List.drop_eq_getElem_cons hlt] at i2
      refine .inr ⟨(hgo ls[i] (by simp [hlt])).1, fun σ' H' => ∃ As' G' Γ' M', Gw C G1 As' G' H' Γ' M' σ' ∧ unr g tb N (ls.drop (i + 1)) Γ' M', fun σ' H' ⟨As', G', Γ', M', g', i'⟩ => ⟨ls.length - (i + 1), by omega, rfl, hlt, As', G', Γ', M', g', i'⟩, fun x H3 y => ?_⟩
      obtain ⟨G3, g3, r3⟩ := (hgo ls[i] (by simp [hlt])).2 x H3 y
      refine ⟨As2, G3, Γ2, M2, ls[i], _, g3.sat, r3, i2, fun Γ4 M4 σ4 As4 G4 H4 g4 _ _ k4 => ?_⟩
      have g14 := g2.trans (g3.w.trans g4.w)
      refine ⟨As4, G4, Γ4, M4, _, g4.sat, k4, fun Γ' M' σ' As' G' H' g' k' => ⟨As', G', Γ', M', g14.trans g', k'⟩, fun l v Γ' M' σ' As' G' H' g' rv k' => f.rt _ _ _ _ _ _ _ _ (g1.w.trans (g14.trans g')) rv k',
        fun Γ' M' σ' As' G' H' g' k' => f.nx _ _ _ _ _ _ (g1.w.trans (g14.trans g')) k', fun Γ' M' σ' As' G' H' g' k' => ⟨As', G', Γ', M', g14.trans g', k'⟩⟩
    · have e : i = ls.length := by omega
      subst e
      rw [List.drop_length] at i2
      exact .inl ⟨hst (Nat.le_refl _), f.nx _ _ _ _ _ _ (g1.w.trans g2) i2⟩⟩
end
def FrT (ls : List Lo) (Γ : Gam) (M : Led) [w : KW (RG × RS × Nd)] : Prop := unr w.K.1 w.K.2.1 w.K.2.2 ls Γ M
theorem rITupT_e (b : Nat) (te : RE) : ∀ Γ M K, rITupT b te Γ M K = (te Γ M fun l M1 => match l with
  | .tp ls => refLs (· < b) ls ∧ K ls M1
  | .im (.tup ds) => K (ds.map Lo.im) M1
  | _ => False) := fun _ _ _ => rfl
theorem rForT_e (ti : RIT) (g : RG) (tb : RS) : ∀ N Γ M, rForT ti g tb N Γ M = (ti Γ M fun ls M1 => @FrT ls Γ M1 ⟨(g, tb, N)⟩) := fun _ _ _ => rfl
theorem frT_0 {g : RG} {tb : RS} {N : Nd} {Γ : Gam} {M : Led} : @FrT [] Γ M ⟨(g, tb, N)⟩ = N.nx Γ M := rfl
theorem frT_c {g : RG} {tb : RS} {N : Nd} {Γ : Gam} {M : Led} {l : Lo} {r : List Lo} : @FrT (l :: r) Γ M ⟨(g, tb, N)⟩ = (g l Γ M fun Γ2 M2 => tb ⟨fun Γ3 M3 => @FrT r Γ3 M3 ⟨(g, tb, N)⟩, N.rt, N.nx, fun Γ3 M3 => @FrT r Γ3 M3 ⟨(g, tb, N)⟩⟩ Γ2 M2) := rfl
/-- {i: j} -/
theorem q_dict11 {C : Fc} {X : Cx} {i j : Int} {a b p1 p2 pos} : QE C X (.Dict [some (.Constant (.int i) a p1)] [.Constant (.int j) b p2] pos) (rCon (.dct [(.inl i, .int j)])) :=
  PE.imp (pe_disp (pps_cons pe_int pe_int pps_nil) rfl rfl (by intro z; cases z) (Nat.succ_le_succ (Nat.zero_le _))) fun σ H Q ⟨As, G, Γ, M, K, S, t, q⟩ => fun p hp => ⟨upd_same, [(.inl i, .int j)], rfl, Nat.succ_le_succ (Nat.zero_le _), by
    rw [L2.upd_upd]
    exact q (.im (.dct [(.inl i, .int j)])) M _ As _ _ (Gr.frz S hp) (Rp.dct upd_same rfl (.cons (.int j) .nil)) t⟩
end Dl

set_option Elab.async false
set_option maxRecDepth 100000
set_option maxHeartbeats 1000000
namespace Dl
open PySem PySem.Spec PyProof.Rows L2
/-! ### comprehensions and loops over anything, of anything, unrolled -/
def ItLP (C : Fc) (G1 : Hp) (J : It) (ls : List Lo) (P : Led → Prop) : Prop := ∀ (i : Nat) (As : List Addr) (G H : Hp) (Γ : Gam) (M : Led) (σ : L2.St), Sat C As G H Γ M σ → Same G1 G → P M →
  (∀ l, ls[i]? = some l → J.go i H ∧ ∀ x H', J.yld i H x H' → ∃ G', Gr C As G As G' H' Γ M σ ∧ LRp C.K As G' x l) ∧ (ls.length ≤ i → J.stop i H)
abbrev RIU := Gam → Led → (List Lo → (Led → Prop) → Led → Prop) → Prop
def UIU (C : Fc) (t : RIU) : TI := fun σ H R => ∃ (As : List Addr) (G : Hp) (Γ : Gam) (M : Led) (K : List Lo → (Led → Prop) → Led → Prop), Sat C As G H Γ M σ ∧ t Γ M K ∧
  ∀ (ls : List Lo) (P : Led → Prop) (M' : Led) (As' : List Addr) (G' H' : Hp) (J : It), Gr C As G As' G' H' Γ M' σ → ItLP C G' J ls P → K ls P M' → R J H'
def QIU (C : Fc) (X : Cx) (tg iter : Expr) (t : RIU) : Prop := PI X tg iter (UIU C t)
def rIOf (ti : RI) : RIU := fun Γ M K => ti Γ M fun ds M1 => K (ds.map Lo.im) YesP M1
def LsP (k : Nat) (ls : List Lo) : Led → Prop := fun M => M[k]? = some (.ls ls)
def rIOwnU (b : Nat) (te : RE) : RIU := fun Γ M K => te Γ M fun l M1 => match l with
  | .ow k => match M1[k]? with
    | some (.ls ls) => k < b ∧ K ls (LsP k ls) M1
    | some (.li ds) => k < b ∧ K (ds.map Lo.im) (LiP k ds) M1
    | _ => False
  | .im (.lst ds) => K (ds.map Lo.im) YesP M1
  | _ => False
theorem rIOf_e (ti : RI) : ∀ Γ M K, rIOf ti Γ M K = (ti Γ M fun ds M1 => K (ds.map Lo.im) YesP M1) := fun _ _ _ => rfl
theorem rIOwnU_e (b : Nat) (te : RE) : ∀ Γ M K, rIOwnU b te Γ M K = (te Γ M fun l M1 => match l with
  | .ow k => match M1[k]? with
    | some (.ls ls) => k < b ∧ K ls (LsP k ls) M1
    | some (.li ds) => k < b ∧ K (ds.map Lo.im) (LiP k ds) M1
    | _ => False
  | .im (.lst ds) => K (ds.map Lo.im) YesP M1
  | _ => False) := fun _ _ _ => rfl
theorem lsP_e {k : Nat} {ls : List Lo} {M : Led} : LsP k ls M = (M[k]? = some (.ls ls)) := rfl
section
variable {C : Fc} {X : Cx} {tg e iter : Expr} {te : RE} {ti : RI}
theorem q_iof (h : QI C X tg iter ti) : QIU C X tg iter (rIOf ti) := PI.imp h fun σ H R ⟨As, G, Γ, M, K, S, t, q⟩ => ⟨As, G, Γ, M, _, S, t, fun ds M1 As1 G1 H1 J g1 hJ k => by
  refine q _ _ M1 As1 G1 H1 J g1 (fun i As2 G2 H2 Γ2 M2 σ2 S2 sg _ => ?_) k
  obtain ⟨h1, h2⟩ := hJ i As2 G2 H2 Γ2 M2 σ2 S2 sg
  refine ⟨fun l hl => ?_, fun hi => h2 (by rw [List.length_map] at hi; exact hi)⟩
  rw [List.getElem?_map] at hl
  obtain ⟨d, hd, rfl⟩ := Option.map_eq_some_iff.mp hl
  exact h1 d hd⟩
theorem q_iownU (hK : C.K = X.K) (he : QE C X e te) : QIU C X tg e (rIOwnU C.Ab.length te) := PI.imp (pi_list he) fun σ H R ⟨As, G, Γ, M, K, S, t, q⟩ => ⟨As, G, Γ, M, _, S, t, fun l M1 v As1 G1 H1 g1 rv t1 => by
  split at t1
  · rename_i k
    split at t1
    · rename_i ls e
      obtain ⟨hb, t2⟩ := t1
      obtain ⟨a, ha⟩ := ab_get hb
      have h1 := pre_get g1.sat.ba ha
      obtain ⟨a', q1, rfl⟩ := rv
      rw [h1] at q1
      cases q1
      obtain ⟨_, o, h0, xs, rfl, rx⟩ := g1.sat.own k a _ h1 e (by intro z; cases z)
      refine ⟨a, rfl, ⟨_, SqL.of h0⟩, q ls (LsP k ls) M1 As1 G1 H1 _ g1 (fun i As2 G2 H2 Γ2 M2 σ2 S2 sg p => ?_) t2⟩
      have p : M2[k]? = some (.ls ls) := p
      obtain ⟨_, o2, h2, ys, rfl, ry⟩ := S2.own k a _ (pre_get S2.ba ha) p (by intro z; cases z)
      refine ⟨fun d hd => ?_, fun hi => ⟨_, SqL.of h2, by rw [ry.length]; exact hi⟩⟩
      obtain ⟨w, hw, rw'⟩ := ry.get hd
      refine ⟨⟨_, w, SqL.of h2, hw⟩, fun y H' hy => ?_⟩
      obtain ⟨rfl, hy⟩ := hy
      have := hy _ (SqL.of h2)
      rw [hw] at this
      cases this
      exact ⟨G2, Gr.refl S2, rw'⟩
    · rename_i ds e
      obtain ⟨hb, t2⟩ := t1
      obtain ⟨a, ha⟩ := ab_get hb
      have h1 := pre_get g1.sat.ba ha
      obtain ⟨a', q1, rfl⟩ := rv
      rw [h1] at q1
      cases q1
      obtain ⟨_, o, h0, xs, rfl, rx⟩ := g1.sat.own k a _ h1 e (by intro z; cases z)
      refine ⟨a, rfl, ⟨_, SqL.of h0⟩, q _ (LiP k ds) M1 As1 G1 H1 _ g1 (fun i As2 G2 H2 Γ2 M2 σ2 S2 sg p => ?_) t2⟩
      have p : M2[k]? = some (.li ds) := p
      obtain ⟨_, o2, h2, ys, rfl, ry⟩ := S2.own k a _ (pre_get S2.ba ha) p (by intro z; cases z)
      refine ⟨fun l hl => ?_, fun hi => ⟨_, SqL.of h2, by rw [ry.length]; rw [List.length_map] at hi; exact hi⟩⟩
      rw [List.getElem?_map] at hl
      obtain ⟨d, hd, rfl⟩ := Option.map_eq_some_iff.mp hl
      obtain ⟨w, hw, rw'⟩ := ry.get hd
      refine ⟨⟨_, w, SqL.of h2, hw⟩, fun y H' hy => ?_⟩
      obtain ⟨rfl, hy⟩ := hy
      have := hy _ (SqL.of h2)
      rw [hw] at this
      cases this
      exact ⟨G2, Gr.refl S2, rw'⟩
    · exact t1.elim
  · rename_i ds
    cases rv with
    | lst h r =>
      refine ⟨_, rfl, ⟨_, SqL.of (g1.sat.le _ _ h)⟩, q _ YesP M1 As1 G1 H1 _ g1 (fun i As2 G2 H2 Γ2 M2 σ2 S2 sg _ => ⟨fun l hl => ?_, fun hi => ?_⟩) t1⟩
      · rw [List.getElem?_map] at hl
        obtain ⟨d, hd, rfl⟩ := Option.map_eq_some_iff.mp hl
        have h2 := S2.le _ _ (sg _ _ h)
        obtain ⟨w, hw, rw'⟩ := (r.mono sg).get hd
        refine ⟨⟨_, w, SqL.of h2, hw⟩, fun y H' hy => ?_⟩
        obtain ⟨rfl, hy⟩ := hy
        have := hy _ (SqL.of h2)
        rw [hw] at this
        cases this
        exact ⟨G2, Gr.refl S2, rw'⟩
      · exact ⟨_, SqL.of (S2.le _ _ (sg _ _ h)), by rw [r.length]; rw [List.length_map] at hi; exact hi⟩
  · exact t1.elim⟩
end
/-! #### the comprehension; what it makes is one's own -/
structure LcuC where
  Γ : Gam
  k : Nat
  g : RG
  tt : RT
  te : RE
  vs : List Nat
  P : Led → Prop
  K : Led → Prop
def lcU (c : LcuC) : List Lo → List Lo → Led → Prop
  | [], _, M => c.P M ∧ c.K M
  | l :: r, acc, M => c.P M ∧ c.g l (wipeG c.Γ c.vs) M fun Γ2 M2 => c.tt Γ2 M2 fun b M3 =>
    IfP b (c.te Γ2 M3 fun x M4 => M4[c.k]? = some (.ls acc) ∧ acc.length < sizeLine ∧ lcU c r (acc ++ [x]) (M4.set c.k (.ls (acc ++ [x])))) (lcU c r acc M3)
def rLcU (ti : RIU) (g : RG) (tt : RT) (te : RE) (vs : List Nat) : RE := fun Γ M K => ti Γ M fun ls P M1 => lcU ⟨Γ, M1.length, g, tt, te, vs, P, fun M2 => K (.ow M1.length) M2⟩ ls [] (M1 ++ [.ls []])
section
variable {C : Fc} {X : Cx}
theorem up_lcU {is vs : List Nat} {ti : RIU} {g : RG} {tt : RT} {te : RE} (his : ∀ j ∈ is, j ∈ vs) :
    ∀ σ H Q, UE C (rLcU ti g tt te vs) σ H Q → tLc (UIU C ti) (UG C is g) (UT C tt) (UE C te) vs σ H Q :=
  fun σ H Q ⟨As, G, Γ, M, K, S, t, q⟩ => ⟨As, G, Γ, M, _, S, t, fun ls P M1 As1 G1 H1 J g1 hJ t1 Dd hD => by
    have hn : As1.length = M1.length := g1.sat.al
    refine ⟨fun i m Hc => m = ls.length - i ∧ i ≤ ls.length ∧ ∃ As' G' acc M', As'[M1.length]? = some Dd ∧ Gr C As1 G1 As' G' Hc Γ M' σ ∧ lcU ⟨Γ, M1.length, g, tt, te, vs, P, fun M2 => K (.ow M1.length) M2⟩ (ls.drop i) acc M',
      ⟨_, rfl, Nat.zero_le _, As1 ++ [Dd], G1, [], M1 ++ [MO.ls []], by rw [← hn]; simp, (Gr.alloc (m := .ls []) g1.sat hD ⟨[], rfl, .nil⟩ : Gr C As1 G1 (As1 ++ [Dd]) G1 (upd H1 Dd (.lst [])) Γ (M1 ++ [.ls []]) σ), t1⟩, ?_⟩
    rintro i m Hc ⟨rfl, hi, As2, G2, acc, M2, hd2, g2, t2⟩
    by_cases hlt : i < ls.length
    · rw [List.drop_eq_getElem_cons hlt] at t2
      obtain ⟨p2, t2⟩ := t2
      obtain ⟨hgo, hst⟩ := hJ i _ G2 Hc Γ _ σ g2.sat g2.g p2
      refine .inr ⟨(hgo ls[i] (by simp [hlt])).1, fun H' => ∃ As' G' acc' M', As'[M1.length]? = some Dd ∧ Gr C As1 G1 As' G' H' Γ M' σ ∧ lcU ⟨Γ, M1.length, g, tt, te, vs, P, fun M2 => K (.ow M1.length) M2⟩ (ls.drop (i + 1)) acc' M', fun H' ⟨As', G', acc', M', h1, h2, h3⟩ => ⟨ls.length - (i + 1), by omega, rfl, hlt, As', G', acc', M', h1, h2, h3⟩, fun x H3 y => ?_⟩
      obtain ⟨G3, g3, r3⟩ := (hgo ls[i] (by simp [hlt])).2 x H3 y
      refine ⟨_, G3, wipeG Γ _, _, ls[i], _, g3.sat.wipe _, r3, t2, fun Γ4 M4 σ4 As4 G4 H4 g4 k4 l4 t4 => ⟨?_, As4, G4, Γ4, M4, _, g4.sat, t4, fun b M5 As5 G5 H5 g5 t5 => ?_⟩⟩
      · rw [← wipe_wipe (σ := σ)]
        exact wipe_eq l4 fun j hj => k4 j fun z => hj (his j z)
      · cases b with
        | false =>
          show ∃ As' G' acc' M', _
          exact ⟨As5, G5, acc, M5, pre_get (g4.p.trans g5.p) hd2, Gr.back g1.sat (g2.trans (g3.trans (g4.trans g5))), t5.2 rfl⟩
        | true =>
          show UE C te σ4 H5 _
          refine ⟨As5, G5, Γ4, M5, _, g5.sat, t5.1 rfl, fun l M6 v As6 G6 H6 g6 rv k => ?_⟩
          obtain ⟨eM, hz, t6⟩ := k
          have g36 := g4.trans (g5.trans g6)
          have hA := pre_get g36.p hd2
          obtain ⟨g0, o, h0, xs, rfl, rx⟩ := g36.sat.own _ _ _ hA eM (by intro z; cases z)
          refine ⟨xs, h0, by rw [rx.length]; exact hz, As6, G6, acc ++ [l], _, hA, ?_, t6⟩
          have W := g36.sat.write (o := .lst (xs ++ [v])) (m' := .ls (acc ++ [l])) hA eM (by intro z; cases z) ⟨_, rfl, rx.app (.cons rv .nil)⟩
          exact Gr.back g1.sat (g2.trans (g3.trans ⟨W, g36.g, g36.p⟩))
    · have e : i = ls.length := by omega
      subst e
      rw [List.drop_length] at t2
      obtain ⟨p2, t2⟩ := t2
      obtain ⟨hgo, hst⟩ := hJ _ _ G2 Hc Γ _ σ g2.sat g2.g p2
      exact .inl ⟨hst (Nat.le_refl _), q (.ow M1.length) M2 _ As2 G2 Hc (g1.trans g2) ⟨Dd, hd2, rfl⟩ t2⟩⟩
theorem q_lcU {elt iter tg : Expr} {pos : Pos} {ifs : List Expr} {scope : Scope} {own : List (Str × Nat)} {is : List Nat} {ti : RIU} {g : RG} {tt : RT} {te : RE} (hc : X.calm = true) (hN : X.N.Nodup) (ok : BlkOk X.N X.env.scope scope own) (his : ∀ j ∈ is, j ∈ own.map (·.2)) (hi : QIU C X tg iter ti)
    (hg : ∀ (s : Shared) (H : Hp) (Cc : Addr) (cl : List (Str × Addr)) (fp : List Addr), QG C (X.blk s H scope (compEnvC scope cl Cc X.env) fp) tg is g) (ht : ∀ (s : Shared) (H : Hp) (Cc : Addr) (cl : List (Str × Addr)) (fp : List Addr), PTs (X.blk s H scope (compEnvC scope cl Cc X.env) fp) ifs (UT C tt))
    (he : ∀ (s : Shared) (H : Hp) (Cc : Addr) (cl : List (Str × Addr)) (fp : List Addr), QE C (X.blk s H scope (compEnvC scope cl Cc X.env) fp) elt te) (hs : ∀ x, foldedSetIterable iter X.env x = pure x := by intro _; rfl) :
    QE C X (.ListComp elt [⟨tg, iter, ifs, 0⟩] scope pos) (rLcU ti g tt te (own.map (·.2))) :=
  PE.imp (pe_lc hc hN hi ok hg ht he hs) (up_lcU his)
theorem q_setLcU (i : Nat) {y : Str} {py spos : Pos} {elt iter tg : Expr} {pos : Pos} {ifs : List Expr} {scope : Scope} {own : List (Str × Nat)} {is : List Nat} {ti : RIU} {g : RG} {tt : RT} {te : RE} (hc : X.calm = true) (hN : X.N.Nodup)
    (hsw : swapsWith (.ListComp elt [⟨tg, iter, ifs, 0⟩] scope pos) (some (.Name y py)) spos.line X.env = pure true) (ok : BlkOk X.N X.env.scope scope own) (his : ∀ j ∈ is, j ∈ own.map (·.2)) (hi : QIU C X tg iter ti)
    (hg : ∀ (s : Shared) (H : Hp) (Cc : Addr) (cl : List (Str × Addr)) (fp : List Addr), QG C (X.blk s H scope (compEnvC scope cl Cc X.env) fp) tg is g) (ht : ∀ (s : Shared) (H : Hp) (Cc : Addr) (cl : List (Str × Addr)) (fp : List Addr), PTs (X.blk s H scope (compEnvC scope cl Cc X.env) fp) ifs (UT C tt))
    (he : ∀ (s : Shared) (H : Hp) (Cc : Addr) (cl : List (Str × Addr)) (fp : List Addr), QE C (X.blk s H scope (compEnvC scope cl Cc X.env) fp) elt te) (hy : X.N[i]? = some y := by rfl) (hyl : X.env.scope.names.lookup y = some .local := by rfl) (hs : ∀ x, foldedSetIterable iter X.env x = pure x := by intro _; rfl) :
    QS C X (.Assign [.Name y py] (.ListComp elt [⟨tg, iter, ifs, 0⟩] scope pos) spos) (rAsg (rLcU ti g tt te (own.map (·.2))) (rName i)) :=
  PS.imp (ps_setLc hc hN hy hyl hsw hi ok hg ht he hs) fun D σ H ⟨As, G, Γ, M, N, S, t, f⟩ =>
    up_lcU his σ H _ ⟨As, G, Γ, M, _, S, t, fun l M' v As' G' H' g1 rv k => f.nx _ _ _ _ _ _ (g1.w.trans ⟨g1.sat.set rv, Same.refl _⟩) k⟩
end
def LcU (ls acc : List Lo) (M : Led) [w : KW LcuC] : Prop := lcU w.K ls acc M
theorem rLcU_e (ti : RIU) (g : RG) (tt : RT) (te : RE) (vs : List Nat) : ∀ Γ M K, rLcU ti g tt te vs Γ M K = (ti Γ M fun ls P M1 => @LcU ls [] (M1 ++ [.ls []]) ⟨⟨Γ, M1.length, g, tt, te, vs, P, fun M2 => K (.ow M1.length) M2⟩⟩) := fun _ _ _ => rfl
theorem lcU_0 {Γ : Gam} {k : Nat} {g : RG} {tt : RT} {te : RE} {vs : List Nat} {P K : Led → Prop} {acc : List Lo} {M : Led} : @LcU [] acc M ⟨⟨Γ, k, g, tt, te, vs, P, K⟩⟩ = (P M ∧ K M) := rfl
theorem lcU_c {Γ : Gam} {k : Nat} {g : RG} {tt : RT} {te : RE} {vs : List Nat} {P K : Led → Prop} {acc : List Lo} {M : Led} {l : Lo} {r : List Lo} : @LcU (l :: r) acc M ⟨⟨Γ, k, g, tt, te, vs, P, K⟩⟩ = (P M ∧ g l (wipeG Γ vs) M fun Γ2 M2 => tt Γ2 M2 fun b M3 =>
    IfP b (te Γ2 M3 fun x M4 => M4[k]? = some (.ls acc) ∧ acc.length < sizeLine ∧ @LcU r (acc ++ [x]) (M4.set k (.ls (acc ++ [x]))) ⟨⟨Γ, k, g, tt, te, vs, P, K⟩⟩) (@LcU r acc M3 ⟨⟨Γ, k, g, tt, te, vs, P, K⟩⟩)) := rfl
/-! #### the loop -/
def unrU (g : RG) (tb : RS) (N : Nd) (P : Led → Prop) : List Lo → Gam → Led → Prop
  | [], Γ, M => P M ∧ N.nx Γ M
  | l :: r, Γ, M => P M ∧ g l Γ M fun Γ2 M2 => tb ⟨unrU g tb N P r, N.rt, N.nx, unrU g tb N P r⟩ Γ2 M2
def rForU (ti : RIU) (g : RG) (tb : RS) : RS := fun N Γ M => ti Γ M fun ls P M1 => unrU g tb N P ls Γ M1
theorem q_forU {C : Fc} {X : Cx} {tg : Expr} {pos : Pos} {iter : Expr} {is : List Nat} {body : List Stmt} {ti : RIU} {g : RG} {tb : RS} (hp : PassesOwn (model X.prog X.w) X.A X.env X.xe) (hc : X.calm = true) (hi : QIU C X tg iter ti) (hg : QG C X tg is g) (hb : QSs C X body tb)
    (hs : ∀ x, foldedSetIterable iter X.env x = pure x := by intro _; rfl) : QS C X (.For tg iter body [] pos) (rForU ti g tb) :=
  PS.imp (ps_for hp hc hi hg hb hs) fun D σ H ⟨As, G, Γ, M, N, S, t, f⟩ => ⟨As, G, Γ, M, _, S, t, fun ls P M1 As1 G1 H1 J g1 hJ t1 => by
    refine ⟨fun i m σ' H' => m = ls.length - i ∧ i ≤ ls.length ∧ ∃ As' G' Γ' M', Gw C G1 As' G' H' Γ' M' σ' ∧ unrU g tb N P (ls.drop i) Γ' M', ⟨_, rfl, Nat.zero_le _, As1, G1, Γ, M1, (Gr.refl g1.sat).w, t1⟩, ?_⟩
    rintro i m σ2 H2 ⟨rfl, hi, As2, G2, Γ2, M2, g2, i2⟩
    by_cases hlt : i < ls.length
    · rw [List.drop_eq_getElem_cons hlt] at i2
      obtain ⟨p2, i2⟩ := i2
      obtain ⟨hgo, hst⟩ := hJ i As2 G2 H2 Γ2 M2 σ2 g2.sat g2.g p2
      refine .inr ⟨(hgo ls[i] (by simp [hlt])).1, fun σ' H' => ∃ As' G' Γ' M', Gw C G1 As' G' H' Γ' M' σ' ∧ unrU g tb N P (ls.drop (i + 1)) Γ' M', fun σ' H' ⟨As', G', Γ', M', g', i'⟩ => ⟨ls.length - (i + 1), by omega, rfl, hlt, As', G', Γ', M', g', i'⟩, fun x H3 y => ?_⟩
      obtain ⟨G3, g3, r3⟩ := (hgo ls[i] (by simp [hlt])).2 x H3 y
      refine ⟨As2, G3, Γ2, M2, ls[i], _, g3.sat, r3, i2, fun Γ4 M4 σ4 As4 G4 H4 g4 _ _ k4 => ?_⟩
      have g14 := g2.trans (g3.w.trans g4.w)
      refine ⟨As4, G4, Γ4, M4, _, g4.sat, k4, fun Γ' M' σ' As' G' H' g' k' => ⟨As', G', Γ', M', g14.trans g', k'⟩, fun l v Γ' M' σ' As' G' H' g' rv k' => f.rt _ _ _ _ _ _ _ _ (g1.w.trans (g14.trans g')) rv k',
        fun Γ' M' σ' As' G' H' g' k' => f.nx _ _ _ _ _ _ (g1.w.trans (g14.trans g')) k', fun Γ' M' σ' As' G' H' g' k' => ⟨As', G', Γ', M', g14.trans g', k'⟩⟩
    · have e : i = ls.length := by omega
      subst e
      rw [List.drop_length] at i2
      obtain ⟨p2, i2⟩ := i2
      obtain ⟨hgo, hst⟩ := hJ _ As2 G2 H2 Γ2 M2 σ2 g2.sat g2.g p2
      exact .inl ⟨hst (Nat.le_refl _), f.nx _ _ _ _ _ _ (g1.w.trans g2) i2⟩⟩
def FrU (ls : List Lo) (Γ : Gam) (M : Led) [w : KW (RG × RS × Nd × (Led → Prop))] : Prop := unrU w.K.1 w.K.2.1 w.K.2.2.1 w.K.2.2.2 ls Γ M
theorem rForU_e (ti : RIU) (g : RG) (tb : RS) : ∀ N Γ M, rForU ti g tb N Γ M = (ti Γ M fun ls P M1 => @FrU ls Γ M1 ⟨(g, tb, N, P)⟩) := fun _ _ _ => rfl
theorem frU_0 {g : RG} {tb : RS} {N : Nd} {P : Led → Prop} {Γ : Gam} {M : Led} : @FrU [] Γ M ⟨(g, tb, N, P)⟩ = (P M ∧ N.nx Γ M) := rfl
theorem frU_c {g : RG} {tb : RS} {N : Nd} {P : Led → Prop} {Γ : Gam} {M : Led} {l : Lo} {r : List Lo} : @FrU (l :: r) Γ M ⟨(g, tb, N, P)⟩ = (P M ∧ g l Γ M fun Γ2 M2 => tb ⟨fun Γ3 M3 => @FrU r Γ3 M3 ⟨(g, tb, N, P)⟩, N.rt, N.nx, fun Γ3 M3 => @FrU r Γ3 M3 ⟨(g, tb, N, P)⟩⟩ Γ2 M2) := rfl
end Dl

set_option Elab.async false
set_option maxRecDepth 100000
set_option maxHeartbeats 1000000
namespace Dl
open PySem PySem.Spec PyProof.Rows L2
/-! ### list.reverse, list.clear -/
section
variable {C : Fc}
def oReverse : RmL := fun l ls M K => match l with
  | .ow k => match M[k]? with
    | some (.li ds) => ls = [] ∧ K (.im .non) (M.set k (.li ds.reverse))
    | some (.ls xs) => ls = [] ∧ K (.im .non) (M.set k (.ls xs.reverse))
    | _ => False
  | _ => False
def oClear : RmL := fun l ls M K => match l with
  | .ow k => match M[k]? with
    | some (.li _) => ls = [] ∧ K (.im .non) (M.set k (.li []))
    | some (.ls _) => ls = [] ∧ K (.im .non) (M.set k (.ls []))
    | _ => False
  | _ => False
theorem LRpL.rev {K : PySem.W.Frag} {As : List Addr} {G : Hp} : ∀ {vs : List V} {ds : List Lo}, LRpL K As G vs ds → LRpL K As G vs.reverse ds.reverse
  | _, _, .nil => .nil
  | _, _, .cons h r => by
    rw [List.reverse_cons, List.reverse_cons]
    exact r.rev.app (.cons h .nil)
theorem LRpL.zero {K : PySem.W.Frag} {As : List Addr} {G : Hp} {vs : List V} (r : LRpL K As G vs []) : vs = [] := by cases r; rfl
theorem reverseL : MeL C "list" rReverse oReverse := fun {As G H Γ M σ x xs l ls K Q} S r rl t q => by
  unfold oReverse at t
  split at t
  · obtain ⟨a, ha, rfl⟩ := r
    split at t
    · rename_i ds e
      obtain ⟨rfl, t⟩ := t
      obtain ⟨_, o, h0, ys, rfl, rx⟩ := S.own _ _ _ ha e (by intro z; cases z)
      exact ⟨a, ys, rfl, rl.zero, h0, q (.im .non) _ _ As G _ ⟨S.write (m' := .li _) ha e (by intro z; cases z) ⟨_, rfl, rx.rev⟩, Same.refl _, List.prefix_refl _⟩ Rp.non t⟩
    · rename_i ds e
      obtain ⟨rfl, t⟩ := t
      obtain ⟨_, o, h0, ys, rfl, rx⟩ := S.own _ _ _ ha e (by intro z; cases z)
      exact ⟨a, ys, rfl, rl.zero, h0, q (.im .non) _ _ As G _ ⟨S.write (m' := .ls _) ha e (by intro z; cases z) ⟨_, rfl, rx.rev⟩, Same.refl _, List.prefix_refl _⟩ Rp.non t⟩
    · exact t.elim
  · exact t.elim
theorem clearL : MeL C "list" rClear oClear := fun {As G H Γ M σ x xs l ls K Q} S r rl t q => by
  unfold oClear at t
  split at t
  · obtain ⟨a, ha, rfl⟩ := r
    split at t
    · rename_i ds e
      obtain ⟨rfl, t⟩ := t
      obtain ⟨_, o, h0, ys, rfl, rx⟩ := S.own _ _ _ ha e (by intro z; cases z)
      exact ⟨a, ys, rfl, rl.zero, h0, q (.im .non) _ _ As G _ ⟨S.write (m' := .li _) ha e (by intro z; cases z) ⟨_, rfl, .nil⟩, Same.refl _, List.prefix_refl _⟩ Rp.non t⟩
    · rename_i ds e
      obtain ⟨rfl, t⟩ := t
      obtain ⟨_, o, h0, ys, rfl, rx⟩ := S.own _ _ _ ha e (by intro z; cases z)
      exact ⟨a, ys, rfl, rl.zero, h0, q (.im .non) _ _ As G _ ⟨S.write (m' := .ls _) ha e (by intro z; cases z) ⟨_, rfl, .nil⟩, Same.refl _, List.prefix_refl _⟩ Rp.non t⟩
    · exact t.elim
  · exact t.elim
theorem rMe0_e' (T : String) (ρ : RmL) (to : RE) : ∀ Γ M K, rMe0 T ρ to Γ M K = (to Γ M fun l M1 => isTy T M1 l = true ∧ ρ l [] M1 K) := fun _ _ _ => rfl
theorem oReverse_e : ∀ l ls M K, oReverse l ls M K = (match l with
  | .ow k => match M[k]? with
    | some (.li ds) => ls = [] ∧ K (.im .non) (M.set k (.li ds.reverse))
    | some (.ls xs) => ls = [] ∧ K (.im .non) (M.set k (.ls xs.reverse))
    | _ => False
  | _ => False) := fun _ _ _ _ => rfl
theorem oClear_e : ∀ l ls M K, oClear l ls M K = (match l with
  | .ow k => match M[k]? with
    | some (.li _) => ls = [] ∧ K (.im .non) (M.set k (.li []))
    | some (.ls _) => ls = [] ∧ K (.im .non) (M.set k (.ls []))
    | _ => False
  | _ => False) := fun _ _ _ _ => rfl
end
/-! ### dict(pairs) -/
def kyOf : D → Option Key
  | .int i => some (.inl i)
  | .str x => some (.inr x)
  | _ => none
def prKD : D → Option (Key × D)
  | .tup [k, v] => (kyOf k).map fun k => (k, v)
  | _ => none
def prsKD : List D → Option (List (Key × D))
  | [] => some []
  | d :: ds => match prKD d, prsKD ds with
    | some p, some ps => some (p :: ps)
    | _, _ => none
def mergeD (ks more : List (Key × D)) : List (Key × D) := more.foldl (fun acc kv => putD acc kv.1 kv.2) ks
def oDictP : RnL := fun ls M K => match ls with
  | [x] => match snap M x with
    | some (.lst ds) => match prsKD ds with
      | some kds => K (.im (.dct (mergeD [] kds))) M
      | none => False
    | _ => False
  | _ => False
theorem oDictP_e : ∀ ls M K, oDictP ls M K = (match ls with
  | [x] => match snap M x with
    | some (.lst ds) => match prsKD ds with
      | some kds => K (.im (.dct (mergeD [] kds))) M
      | none => False
    | _ => False
  | _ => False) := fun _ _ _ => rfl
theorem kyOf_ok {K : PySem.W.Frag} {G : Hp} {v : V} {d : D} {k : Key} (h : kyOf d = some k) (r : Rp K G v d) : v = kV k := by
  cases d <;> first | (cases h; done) | skip
  · cases h; cases r; rfl
  · cases h; cases r; rfl
theorem prKD_ok {K : PySem.W.Frag} {G : Hp} {x : V} {d : D} {kd : Key × D} (h : prKD d = some kd) (r : Rp K G x d) : ∃ p v, x = .ref p ∧ G p = some (.tup [kV kd.1, v]) ∧ Rp K G v kd.2 := by
  unfold prKD at h
  split at h
  · rename_i k v
    obtain ⟨k', hk, rfl⟩ := Option.map_eq_some_iff.mp h
    cases r with
    | tup h1 h2 =>
      cases h2 with
      | cons a b =>
        cases b with
        | cons c e =>
          cases e
          rw [kyOf_ok hk a] at h1
          exact ⟨_, _, rfl, h1, c⟩
  · cases h
theorem prs_ok {K : PySem.W.Frag} {G H : Hp} (sm : Same G H) : ∀ {xs : List V} {ds : List D} {kds : List (Key × D)}, prsKD ds = some kds → RpL K G xs ds →
    ∃ (ps : List Addr) (kvs : List (Key × V)), xs = ps.map V.ref ∧ kvs.map (·.1) = kds.map (·.1) ∧ RpL K G (kvs.map (·.2)) (kds.map (·.2)) ∧ PySem.Paired (fun p kv => SqT K H p [kV kv.1, kv.2]) ps kvs
  | _, [], kds, h, r => by
    cases h
    cases r
    exact ⟨[], [], rfl, rfl, .nil, .nil⟩
  | _, d :: ds, kds, h, r => by
    unfold prsKD at h
    split at h
    · rename_i p ps e1 e2
      cases h
      cases r with
      | cons a b =>
        obtain ⟨q, v, rfl, hq, rv⟩ := prKD_ok e1 a
        obtain ⟨qs, kvs, rfl, h1, h2, h3⟩ := prs_ok sm e2 b
        exact ⟨q :: qs, (p.1, v) :: kvs, rfl, by simp only [List.map_cons, h1], .cons rv h2, .cons (SqT.of (sm _ _ hq)) h3⟩
    · cases h
theorem merge_rp {K : PySem.W.Frag} {G : Hp} : ∀ {kvs2 : List (Key × V)} {kds2 : List (Key × D)} {kvs : List (Key × V)} {kds : List (Key × D)}, kvs2.map (·.1) = kds2.map (·.1) → RpL K G (kvs2.map (·.2)) (kds2.map (·.2)) → kvs.map (·.1) = kds.map (·.1) → RpL K G (kvs.map (·.2)) (kds.map (·.2)) →
    (mergeK kvs kvs2).map (·.1) = (mergeD kds kds2).map (·.1) ∧ RpL K G ((mergeK kvs kvs2).map (·.2)) ((mergeD kds kds2).map (·.2))
  | [], [], _, _, _, _, h, r => ⟨h, r⟩
  | (k, v) :: r2, (k', d) :: d2, kvs, kds, h2, q2, h, r => by
    simp only [List.map_cons, List.cons.injEq] at h2
    obtain ⟨rfl, h2⟩ := h2
    cases q2 with
    | cons a b =>
      obtain ⟨i1, i2⟩ := put_rp (k := k) a h r
      exact merge_rp (kvs := putK kvs k v) (kds := putD kds k d) h2 b i1 i2
  | [], _ :: _, _, _, h2, _, _, _ => by simp at h2
  | _ :: _, [], _, _, h2, _, _, _ => by simp at h2
theorem dictPL {C : Fc} : CaL C (fun xs H Q => ∃ (a : Addr) (ps : List Addr) (kvs : List (Key × V)), xs = [.ref a] ∧ SqL C.K H a (ps.map V.ref) ∧ PySem.Paired (fun p kv => SqT C.K H p [kV kv.1, kv.2]) ps kvs ∧
    ∀ p, H p = none → Q (.ref p) (upd H p (.dK (mergeK [] kvs)))) oDictP := fun {As G H Γ M σ xs ls K Q} S rl t q => by
  unfold oDictP at t
  split at t
  · obtain ⟨v, rfl, r⟩ := rl.one
    split at t
    · rename_i ds e
      obtain ⟨a, xs, rfl, h1, h2⟩ := S.snapL r e
      split at t
      · rename_i kds e2
        obtain ⟨ps, kvs, rfl, i1, i2, i3⟩ := prs_ok S.le e2 h2
        obtain ⟨j1, j2⟩ := merge_rp (kvs := []) (kds := []) i1 i2 rfl .nil
        exact ⟨a, ps, kvs, rfl, SqL.of h1, i3, fun l hl => q (.im (.dct _)) M _ As _ _ (Gr.frz S hl) (Rp.dct upd_same j1 (j2.mono (Same.new (S.gn hl)))) t⟩
      · exact t.elim
    · exact t.elim
  · exact t.elim
/-! ### tuple(range(a, b, c)) -/
def rg3N (i j k : Int) : Nat := if i < j then ((j - i - 1) / k + 1).toNat else 0
def rg3V (i k : Int) (n : Nat) : List V := (List.range n).map fun t : Nat => V.int (i + (t : Int) * k)
def rg3D (i k : Int) (n : Nat) : List D := (List.range n).map fun t : Nat => D.int (i + (t : Int) * k)
theorem rg3_rp {K : PySem.W.Frag} {G : Hp} (i k : Int) (n : Nat) : RpL K G (rg3V i k n) (rg3D i k n) := by
  unfold rg3V rg3D
  have go : ∀ l : List Nat, RpL K G (l.map fun t : Nat => V.int (i + (t : Int) * k)) (l.map fun t : Nat => D.int (i + (t : Int) * k)) := fun l => by
    induction l with
    | nil => exact .nil
    | cons h r ih => exact .cons (.int _) ih
  exact go _
def Rg3Ok (i j k : Int) : Prop := 0 ≤ i ∧ i ≤ 1000 ∧ 0 ≤ j ∧ j ≤ 1000 ∧ 0 < k ∧ k ≤ 1000
theorem rg3_size {i j k : Int} (h : Rg3Ok i j k) : Builtin.Range.rangeSize i j k = (rg3N i j k : Int) ∧ rg3N i j k ≤ 1001 := by
  obtain ⟨h1, h2, h3, h4, h5, h6⟩ := h
  unfold Builtin.Range.rangeSize rg3N
  rw [if_pos h5]
  by_cases e : i < j
  · rw [if_pos e, if_pos e]
    have q0 : 0 ≤ (j - i - 1) / k := Int.ediv_nonneg (by omega) (by omega)
    have q1 : (j - i - 1) / k ≤ j - i - 1 := Int.ediv_le_self _ (by omega)
    omega
  · rw [if_neg e, if_neg e]
    exact ⟨rfl, by decide⟩
theorem rg3_small {i j k : Int} (h : Rg3Ok i j k) : Builtin.Range.small i j k = true := by
  have hs := (rg3_size h).1
  obtain ⟨h1, h2, h3, h4, h5, h6⟩ := h
  have hn : rg3N i j k ≤ 1001 := (rg3_size ⟨h1, h2, h3, h4, h5, h6⟩).2
  unfold Builtin.Range.small
  rw [hs]
  have hm : (rg3N i j k : Int) * k ≤ 1001 * 1000 := by
    have a := Int.mul_le_mul_of_nonneg_right (show (rg3N i j k : Int) ≤ 1001 by omega) (show 0 ≤ k by omega)
    omega
  have hm0 : 0 ≤ (rg3N i j k : Int) * k := Int.mul_nonneg (by omega) (by omega)
  simp only [Builtin.Range.rangeFitsLong, Bool.and_eq_true, Bool.or_eq_true, decide_eq_true_eq, beq_iff_eq]
  rw [if_pos (show k > 0 from h5)]
  refine ⟨by omega, .inr ?_⟩
  rw [Bool.and_eq_true, decide_eq_true_eq, decide_eq_true_eq]
  omega
def rTupRg3 (t : RA) : RE := fun Γ M K => t Γ M fun ls M1 => match ls with
  | [.im (.int i), .im (.int j), .im (.int k)] => Rg3Ok i j k ∧ K (.im (.tup (rg3D i k (rg3N i j k)))) M1
  | _ => False
theorem rTupRg3_e (t : RA) : ∀ Γ M K, rTupRg3 t Γ M K = (t Γ M fun ls M1 => match ls with
  | [.im (.int i), .im (.int j), .im (.int k)] => Rg3Ok i j k ∧ K (.im (.tup (rg3D i k (rg3N i j k)))) M1
  | _ => False) := fun _ _ _ => rfl
theorem vals_rg3 {i k : Int} {n : Nat} {acc : Array Value} (h : ItemsOf (fun t v => ∃ u, v = .int (i + t * k) u) acc n) : Vals (rg3V i k n) acc.toList := by
  have e : acc.toList.length = n := by rw [Array.length_toList]; exact h.1
  unfold rg3V
  rw [← e]
  refine vals_of_get acc.toList _ fun j u hj => ?_
  obtain ⟨t, rfl⟩ := h.2 j u (by rw [← hj, Array.getElem?_toList])
  exact ⟨t, rfl⟩
section
variable {C : Fc} {X : Cx} {p pos p2 pos2 : Pos} {a b c : Expr} {t : RA}
theorem pe_tupRg3 {ta : TA} (hc : X.calm = true) (hm : X.mg "tuple" = none) (hmr : X.mg "range" = none) (ha : PA X [a, b, c] ta) (hg : Gl X "tuple" := by rfl) (hgr : Gl X "range" := by rfl)
    (hs : starEach [a, b, c] X.env = (false, eval a X.env) :: starEach [b, c] X.env := by rfl) (hpl : (backTo pos (starEach [b, c] X.env)).any (·.1) = false := by rfl)
    (n4 : starEach [.Call (.Name "range" p) [a, b, c] [] pos] X.env = (false, eval (.Call (.Name "range" p) [a, b, c] [] pos) X.env) :: starEach [] X.env := by rfl) :
    PE X (.Call (.Name "tuple" p2) [.Call (.Name "range" p) [a, b, c] [] pos] [] pos2) (fun σ H Q => ta σ H fun xs H3 => ∃ i j k, xs = [.int i, .int j, .int k] ∧ Rg3Ok i j k ∧ ∀ q, H3 q = none → Q (.ref q) (upd H3 q (.tup (rg3V i k (rg3N i j k))))) := by
  refine ⟨fun pins s σ H Q I h => ?_⟩
  refine Call_ (ld_blt I hg hm boot_tuple (PyProof.Rows.callWith_type1 (args_cons (thn (Q := fun u s' => ∃ i j k H1, Rg3Ok i j k ∧ (∃ r t1 t2 t3, u = .ref r ∧ IsRange s'.heap r i j k t1 t2 t3) ∧ Inv X pins σ H1 s' ∧ ∀ q, H1 q = none → Q (.ref q) (upd H1 q (.tup (rg3V i k (rg3N i j k))))) ?_ fun u s1 ⟨i, j, k, H1, ok, ⟨r, t1, t2, t3, eu, hr⟩, I1, q⟩ => args_nil ?_) n4) n4))
  · refine Call_ (ld_blt I hgr hmr boot_range (PyProof.Rows.callWith_type1 (thn (ha.run pos pins s σ H _ I h) fun us s1 ⟨vs, H1, I1, r1, q1⟩ => ?_) hs hpl))
    obtain ⟨i, j, k, e, ok, q⟩ := q1
    subst e
    cases r1 with
    | cons r rr =>
      cases rr with
      | cons r' rr =>
        cases rr with
        | cons r'' rr =>
          cases rr
          obtain ⟨t1, rfl⟩ := r
          obtain ⟨t2, rfl⟩ := r'
          obtain ⟨t3, rfl⟩ := r''
          obtain ⟨b1, b2, b3, b4, b5, b6⟩ := id ok
          refine PySem.call_range_3 (by omega) ⟨i, j, k, H1, ok, ⟨_, _, _, _, rfl, IsRange.new _ _ _ _ _ _ _⟩, I1.kept fun b u e => Heap.get?_push_of_some _ e, q⟩ (.inl (PyProof.noPylong_small (by omega)))
  · subst eu
    refine call_tuple_range (n := rg3N i j k) (I1.ok.hd hc) hr (rg3_small ok) (rg3_size ok).1 (Nat.le_trans (rg3_size ok).2 (by decide)) fun h' tk acc hk hi => ?_
    have I2 : Inv X pins σ H1 { s1 with heap := h', toks := tk } := I1.kept hk
    have hv := vals_rg3 hi
    refine ⟨.ref h'.objs.size, upd H1 h'.objs.size (.tup (rg3V i k (rg3N i j k))), I2.laid (t' := tk) (fun c o e => Heap.get?_push_of_some _ e) (Nat.le_refl _) (show ObjOk X.prog X.w _ _ _ (.tup (rg3V i k (rg3N i j k))) from ⟨?_, acc.toList, hv, ?_⟩), rfl, q _ (I2.hok.fresh (Nat.le_refl _))⟩
    · have := (rg3_size ok).2
      unfold rg3V
      rw [List.length_map, List.length_range, sizeLine_eq]
      omega
    · rw [Array.toArray_toList]
      exact IsTup.new _ _
theorem q_tupRg3 (hc : X.calm = true) (hm : X.mg "tuple" = none) (hmr : X.mg "range" = none) (ha : QA C X [a, b, c] t) (hg : Gl X "tuple" := by rfl) (hgr : Gl X "range" := by rfl)
    (hs : starEach [a, b, c] X.env = (false, eval a X.env) :: starEach [b, c] X.env := by rfl) (hpl : (backTo pos (starEach [b, c] X.env)).any (·.1) = false := by rfl)
    (n4 : starEach [.Call (.Name "range" p) [a, b, c] [] pos] X.env = (false, eval (.Call (.Name "range" p) [a, b, c] [] pos) X.env) :: starEach [] X.env := by rfl) :
    QE C X (.Call (.Name "tuple" p2) [.Call (.Name "range" p) [a, b, c] [] pos] [] pos2) (rTupRg3 t) :=
  PE.imp (pe_tupRg3 hc hm hmr ha hg hgr hs hpl n4) fun σ H Q ⟨As, G, Γ, M, K, S, t, q⟩ => ⟨As, G, Γ, M, _, S, t, fun ls M1 vs As1 G1 H1 g1 rl t1 => by
    split at t1
    · rename_i i j k
      obtain ⟨v1, v2, v3, rfl, r1, r2, r3⟩ := rl.three
      exact ⟨i, j, k, by rw [int_of r1, int_of r2, int_of r3], t1.1, fun q0 hq => q (.im (.tup _)) _ _ _ _ _ (g1.trans (Gr.frz g1.sat hq)) (rp_new_t g1.sat hq (rg3_rp i k _)) t1.2⟩
    · exact t1.elim⟩
end
end Dl

set_option Elab.async false
set_option maxRecDepth 100000
set_option maxHeartbeats 1000000
namespace Dl
open PySem PySem.Spec PyProof.Rows L2
/-! ### calls by keywords alone -/
def Kw0 (K : PySem.W.Frag) (fd : FuncData) (ps ks : List Str) (is : List Nat) : Prop := ∀ (s : Shared) (ws : List Value), K.In s.heap → ws.length = ks.length → BindsTo s fd ⟨[], ks.zip ws⟩ (ps.zip (is.map fun i => ws.getD i .none))
theorem kw0_of {K : PySem.W.Frag} {x qual : Str} {st : Stmt} {f : Addr} {fd : FuncData} {ps ks : List Str} {is : List Nat} (F : Fun K x qual st f fd)
    (h : ∀ (kV doc pm : Value) (an : Option Addr) (cdv ct : Value) (ws : List Value), ws.length = ks.length → bindArgs (PySem.W.fnOf x qual (defArgs st) (defBody st) (defScope st) .none kV doc pm an cdv ct) ⟨[], ks.zip ws⟩ = pure (ps.zip (is.map fun i => ws.getD i .none))) : Kw0 K fd ps ks is := fun s ws _ hl => by
  obtain ⟨oc, od, kV, doc, pm, an, cdv, ct, osl, rfl, lk, hcd⟩ := F.ex
  exact .of_eq (h kV doc pm an cdv ct ws hl)
def QK (C : Fc) (X : Cx) (kws : List Keyword) (t : RA) : Prop := PK X kws (UA C t)
theorem PK.imp {X : Cx} {kws : List Keyword} {t u : TA} (h : PK X kws t) (i : ∀ σ H Q, u σ H Q → t σ H Q) : PK X kws u := ⟨fun pos pins s σ H Q I q => h.run pos pins s σ H Q I (i σ H Q q)⟩
section
variable {C : Fc} {X : Cx} {k : Nat} {f : Addr} {fd : FuncData} {ps ks : List Str} {sp : DSp} {is : List Nat} {ex : EX} {e : Expr} {kws : List Keyword} {te : RE} {t tr : RA} {nm : Option Str} {kpos p pos : Pos} {x : Str}
theorem q_knil : QK C X [] rNil := PK.imp pk_nil fun σ H Q ⟨As, G, Γ, M, K, S, t, q⟩ => q [] M [] As G H (Gr.refl S) .nil t
theorem q_kcons (ha : QE C X e te) (hr : QK C X kws tr) : QK C X (⟨nm, e, kpos⟩ :: kws) (rCons te tr) :=
  PK.imp (pk_cons ha hr) fun σ H Q ⟨As, G, Γ, M, K, S, t, q⟩ =>
    ⟨As, G, Γ, M, _, S, t, fun lx M1 x As1 G1 H1 g1 rx t1 => ⟨As1, G1, Γ, M1, _, g1.sat, t1, fun ly M2 y As2 G2 H2 g2 ry t2 => q _ M2 _ As2 G2 H2 (g1.trans g2) (.cons (rx.mono g2.g g2.p) ry) t2⟩⟩
theorem vals_get {vs : List V} {us : List Value} (r : Vals vs us) (i : Nat) : RelV (vs.getD i .non) (us.getD i .none) := by
  induction r generalizing i with
  | nil => exact rfl
  | cons h _ ih =>
    cases i with
    | zero => exact h
    | succ i => simpa using ih i
theorem vals_pick {vs : List V} {us : List Value} (r : Vals vs us) : ∀ is : List Nat, Vals (is.map fun i => vs.getD i .non) (is.map fun i => us.getD i .none)
  | [] => .nil
  | i :: is => .cons (vals_get r i) (vals_pick r is)
theorem lrp_get {K : PySem.W.Frag} {As : List Addr} {G : Hp} {vs : List V} {ls : List Lo} (r : LRpL K As G vs ls) (i : Nat) : LRp K As G (vs.getD i .non) (ls.getD i (.im .non)) := by
  induction r generalizing i with
  | nil => exact Rp.non
  | cons h _ ih =>
    cases i with
    | zero => exact h
    | succ i => simpa using ih i
theorem lrp_pick {K : PySem.W.Frag} {As : List Addr} {G : Hp} {vs : List V} {ls : List Lo} (r : LRpL K As G vs ls) : ∀ is : List Nat, LRpL K As G (is.map fun i => vs.getD i .non) (is.map fun i => ls.getD i (.im .non))
  | [] => .nil
  | i :: is => .cons (lrp_get r i) (lrp_pick r is)
def rCallUK (sp : DSp) (ex : EX) (n : Nat) (is : List Nat) (t : RA) : RE := fun Γ M K => t Γ M fun ls M1 => ls.length = n ∧ callU (reach M1 64 (is.map fun i => ls.getD i (.im .non)) []) sp ex Γ (is.map fun i => ls.getD i (.im .non)) M1 K
theorem run_gnA {pins : List (Addr × Obj)} {σ : L2.St} {H : Hp} {s : Shared} {args : Args} {us : List Value} {vs : List V} {As : List Addr} {G : Hp} {Γ : Gam} {M : Led} {ls : List Lo} {js : List Nat} {Kd : Lo → Led → Prop} {Ed : Exn → Led → Prop} {Q : VK} (F : Gn C.T X.prog X.w X.K X.mg X.base k f fd ps sp) (hr : Room k X.A) (hg : X.A.guards = some [])
    (b : BindsTo s fd args (ps.zip us)) (hK : C.K = X.K) (tk : Takes X (UW C ex)) (I : Inv X pins σ H s) (r : Vals vs us) (S : Sat C As G H Γ M σ) (rl : LRpL C.K As G vs ls) (ok : PickOk js M) (hls : refLs (· ∈ js) ls)
    (h : sp (ls.map (renL (loc js))) (pick js M) Kd Ed) (hQ : ∀ (l : Lo) (Mu : Led) (v : V) (As' : List Addr) (G' H' : Hp), Gr C As G As' G' H' Γ (put js Mu M) σ → LRp C.K As' G' v (renL (ren js M.length) l) → Kd l Mu → Q v H')
    (hE : ∀ x Mu, Ed x Mu → ex x Γ (put js Mu M)) : wpAny (model X.prog X.w) X.A (call (.ref f) args.pos args.kw) (EP X pins σ Q) X.xe s := by
  obtain ⟨Z0, bk⟩ := lend S ok
  rw [hK] at Z0 rl
  refine wpAny_call (codeAny_mono (F.run X.A X.stack s H args us vs Q (fun cls d H' => UW C ex cls d σ H') _ G _ _ Kd Ed hr hg I.env0 b r Z0 (rl.mem_ren hls bk) h (fun l Mu v Au' G' H' Z rv k => ?_) fun x Mu cls d Au' G' H' Z rx k => ?_) fun res s' hq => ?_)
  · rw [← hK] at Z rv
    obtain ⟨As', g, hv⟩ := lent_back S ok Z
    exact hQ l Mu v As' G' H' g (hv v l rv) k
  · rw [← hK] at Z rx
    obtain ⟨As', g, _⟩ := lent_back S ok Z
    exact ⟨As', G', Γ, _, x, g.sat, rx, hE x Mu k⟩
  · cases res with
    | error e => exact passAt tk σ pins H s e s' I hq
    | ok fl =>
      cases fl with
      | ret u => exact I.after hq
      | next => exact False.elim hq
      | brk => exact False.elim hq
      | cont => exact False.elim hq
theorem q_UK (hm : X.mg x = some (.ref f)) (hk : PySem.W.keepIn X.K (.ref f) = true) (F : Gn C.T X.prog X.w X.K X.mg X.base k f fd ps sp) (hb : Kw0 X.K fd ps ks is) (hr : Room k X.A) (hg : X.A.guards = some []) (hK : C.K = X.K) (tk : Takes X (UW C ex)) (ha : QK C X kws t)
    (hgl : Gl X x := by rfl) (hdb : (x == ("__debug__" : Str)) = false := by decide) (hall : (backToKw pos (keywordEach kws X.env)).all (·.1.isSome) = true := by rfl) (hks : (backToKw pos (keywordEach kws X.env)).filterMap (·.1) = ks := by rfl)
    (hpl : ((backTo pos (starEach [] X.env)).any (·.1) || (backToKw pos (keywordEach kws X.env)).any (·.1.isNone)) = false := by rfl) : QE C X (.Call (.Name x p) [] kws pos) (rCallUK sp ex ks.length is t) := ⟨fun pins s σ H Q I ⟨As, G, Γ, M, K, S, h, q⟩ => by
  refine wpAny_Call_Name_kw (ld_glob I hgl hm ?_ hdb)
  refine PySem.W.callWith_KW0 (h₀ := X.base) I.ok.mod.kin hk hall ?_ hpl
  refine thn (ha.run pos pins s σ H (fun vs H1 => ∃ (As1 : List Addr) (G1 : Hp) (M1 : Led) (ls : List Lo), Gr C As G As1 G1 H1 Γ M1 σ ∧ LRpL C.K As1 G1 vs ls ∧ _) I ⟨As, G, Γ, M, _, S, h, fun ls M1 vs As1 G1 H1 g1 rl k1 => ⟨As1, G1, M1, ls, g1, rl, k1⟩⟩) fun ws s2 ⟨zs, H2, I2, rz, As1, G1, M1, ls, g1, rl, hlen, ok, hls, h2⟩ => ⟨I2.kIn, ?_⟩
  rw [hks]
  have b := hb s2 ws I2.kIn (by rw [← rz.length, rl.length]; exact hlen)
  exact run_gnA (args := ⟨[], ks.zip ws⟩) F hr hg b hK tk I2 (vals_pick rz is) g1.sat (lrp_pick rl is) ok hls h2 (fun l Mu v As' G' H' g rv k => q _ _ v As' G' H' (g1.trans g) rv k) fun x Mu k => k⟩
end
theorem rCallUK_e (sp : DSp) (ex : EX) (n : Nat) (is : List Nat) (t : RA) : ∀ Γ M K, rCallUK sp ex n is t Γ M K = (t Γ M fun ls M1 => ls.length = n ∧ callU (reach M1 64 (is.map fun i => ls.getD i (.im .non)) []) sp ex Γ (is.map fun i => ls.getD i (.im .non)) M1 K) := fun _ _ _ => rfl
end Dl

set_option Elab.async false
set_option maxRecDepth 100000
set_option maxHeartbeats 400000
namespace Dl
open PySem L2

local macro_rules | `(tactic| walk_at "s") => `(tactic| first | (simp only [kw_K]; (try simp (disch := first | assumption | omega) only [ci_isint, ↓rLcU_e, lcU_0, lcU_c, ↓rIOwnU_e, ↓rIOf_e, lsP_e, ↓rFld_e, ↓rSetF_e, ↓rSelf_e, ↓rCallU_e, ↓rMake_e, ↓rProp_e, ↓oEqO_e, ↓oNeO_e, kNe_e, ↓rTru_e, ↓rBits_e, ↓rDictO_e, ↓rLenSet_e, ↓rSrtSet_e, callU_e, kU_e, kUX_e, insOf, reach, kids, PickOk, pick, put, putI, loc, ren, refMs, refM, List.idxOf_cons, List.getD_cons_zero, List.getD_cons_succ, List.getD_nil, List.drop_succ_cons, List.drop_zero, List.drop_nil, List.lookup_cons, List.lookup_nil, str_beq, str_eq, putL, List.nodup_cons, List.nodup_nil, List.mem_cons, List.not_mem_nil, List.forall_mem_cons, List.forall_mem_nil, or_false, false_or, or_true, true_or, Nat.reduceBEq, beq_self_eq_true, String.reduceEq, String.reduceNe, ↓rForL_e, ↓rLcL_e, ↓rItmL_e, ↓rValL_e, lkP_e, ↓rLock_e, ndL_nx, ndL_rt, ndL_bk, ndL_ct, ↓rDGet_e, ↓rDIn_e, ↓rDPut_e, ↓rItms_e, dct_o, dct_i, key_i, key_s, pSl_e, pFl_e, ↓lcq_itm, ↓rLstRg2_e, ↓rTupRg_e, ↓rTupRg2_e, okd_tup, okd_tt, okd_tup0, eqv_tup, eqv_tup0, eqv_tup1, eqv_tt, eqv_tt0, eqv_tt1, forall_eq_or_imp, forall_eq, ↓rIOwn_e, liP_e, yesP_e, ↓rBase_e, ↓rForT_e, ↓rITupT_e, frT_0, frT_c, Bool.false_xor, Bool.true_xor, Bool.xor_false, Bool.xor_true, ↓oReverse_e, ↓oClear_e, ↓oDictP_e, ↓rTupRg3_e, kyOf, prKD, prsKD, ↓rCallUK_e, renLs, ↓rPar3_e, ↓rCutB_e, lowG, refL, refLs, lk_l, lk_r, Nat.sub_self, Nat.add_sub_cancel_left, Nat.add_sub_cancel, eqv_im, eqv_mi, okd_im, eqv_mm, List.map_id_fun', id_eq, closed_app, closed_fl, okr_a, okd_a, okrr_a, rep_i, List.length_replicate, Int.reduceToNat, exI_l0, exI_l1, exI_l2, exI_l3, exI_l4, exI_l5, exI_l6, exI_l7, exI_e1, exI_e2, exI_e3, exI_e4, exI_e5, ↓rWkF_e, frzG_0, frzG_s, datM, cut_m, okd_ints, okd_nil, eqv_ints, eqv_ints0, eqv_ints1, eqv_nil, srtI_i, srtI_p, srtI_0, ↓lcq_i1, ↓lcq_i2, ↓lcq_i3, ↓lcq_i4, all_tt, any_ff, Int.toNat_natCast, List.length_append, Option.isSome_some, Option.isSome_none, ↓rLcG_e, ↓lcq_enum, ↓lcq_rng0, ↓lcq_rng, ↓lcq_zip, ↓lcq_map, lcq_map, lcq_flt, lcq_all, lcq_fltc, lcq_allc, imR_e, ife_t, ife_f, andE_j, orE_j, andT_j, orT_j, ifV_j, andE_t, andE_f, orE_t, orE_f, andT_t, andT_f, orT_t, orT_f, ifV_t, ifV_f, blsI_m, intsI_m, intsI_i, blsI_0, intsI_0, blsI_1, blsI_2, blsI_3, blsI_4, szd_lt, szd_le, dr_le, dr_lt, dr_leN, dr_ltN, mulc_l, mulc_r, ifc_y, ifc_no, exI_int, zipIdx_m, zip_m, dec_and, dec_or, dec_not, List.length_map, List.length_range, List.length_zipIdx, List.length_zip, and_self, closed, Bool.and_true, Bool.true_and, Bool.and_false, Bool.false_and, Bool.or_true, Bool.true_or, Bool.or_false, Bool.false_or, cond_true, cond_false, Bool.not_not, Int.zero_add, List.all_cons, List.all_nil, List.any_cons, List.any_nil, allIm_ims, List.append_nil, seqOf, ↓rCall1_e, k1_e, k1X_e, ow1, lo0, tyT, excOf, Option.getD_none, Option.getD_some, isI_a, isI_b, isI_c, isI_d, isI_e, isI_f, isI_g, isI_h, isI_i, List.take_succ_cons, List.take_zero, ↓reduceIte, Nat.reduceEqDiff, frG, frL, frLs, frM, ↓oReprR_e, ↓oCount_e, ↓oIndexD_e, D.flt, datM, List.getElem?_concat_length, set_concat, Nat.add_zero, ↓ifp_i, ifb_t, ifb_f, ifb_d, ifb_n, ifc_t, ifc_f, ifc_n, exI_s, kw_K, kD_im, kD_ow, kD_im2, kD_tp, kDX_e, kP_e, kF_e, renL, renM, flatM, Int.reduceLT, Int.reduceLE, Int.reduceAdd, Int.reduceSub, Int.reduceMul, Int.reduceNeg, Int.reduceEq, Int.reduceNe, ↓rFz_e, ↓rTry_e, ↓rTryF_e, ↓rFor_e, ↓rLcB_e, outF_e, outO_e, ↓rVar_e, ↓rCon_e, ↓qOp_e, ↓qUn_e, ↓qCa_e, ↓rNil_e, ↓rCons_e, ↓rTup_e, ↓rLst_e, ↓rLstO_e, ↓rLstM_e, ↓rB_e, ↓rAndT_j, ↓rOrT_j, ↓rNotT_e, ↓rAndV_j, ↓rOrV_j, ↓rNotV_e, ↓rIfE_j, ↓rChain_j, ↓rNext_e, ↓rSeq_e, ↓rBreak_e, ↓rCont_e, ↓rDrop_e, ↓rRet_e, ↓rRetN_e, ↓rIf_e, ↓rNever_e, ↓rName_e, ↓rGNil_e, ↓rGCons_e, ↓rGTup_e, ↓rGLst_e, ↓rGSub_e, ↓rAsg_e, ↓rPar_e, ↓rAug_e, ↓rYes_e, ↓oEqG_e, ↓oI_e, ↓oI0_e, ↓oNeg_e, ↓oAdd_e, ↓oMul_e, ↓oIsN_e, ↓oIn_e, ↓oInS_e, ↓oIx_e, ↓rONone_e, ↓rOSome_e, ↓rSl_e, ↓rCall0_e, ↓oLen_e, ↓oInt_e, ↓oMin_e, ↓oMax_e, ↓oSum_e, ↓oBls_e, ↓oList_e, ↓oTuple_e, ↓oSorted_i, ↓oAbs_e, ↓oStr_e, ↓oIsi_e, ↓oRepr_e, ↓rIList_e, ↓rITup_e, ↓rIRan1_e, ↓rIRan2_e, ↓rIEnum_e, ↓rIZip_e, ↓rMe_e, ↓rMe0_e, ↓oAppend_e, ↓oExtend_e, ↓oPopAt_e, ↓rLstRg_e, ↓rStar_e, ↓rIDown_e, ↓rRev_e, ↓oIndex_e, ↓rRaise_e, ↓rCallD_e, ↓rCallP_e, ↓rIs_e, ↓rXf_e, ↓rRaiseI_e, ↓rRaiseN_e, ↓rIZipS_e, all_map, any_map, List.getElem?_cons_zero, List.getElem?_cons_succ, List.getElem?_nil, List.set_cons_zero, List.set_cons_succ, List.length_cons, List.length_nil, allIm, id_eq, Bool.not_true, Bool.not_false, Option.map_some, Option.map_none, isi_int_int, kb_int_int, isi_int_bool, kb_int_bool, isi_int_list, kb_int_list, isi_int_tuple, kb_int_tuple, isi_int_str, kb_int_str, isi_int_dict, kb_int_dict, isi_bool_int, kb_bool_int, isi_bool_bool, kb_bool_bool, isi_bool_list, kb_bool_list, isi_bool_tuple, kb_bool_tuple, isi_bool_str, kb_bool_str, isi_bool_dict, kb_bool_dict, isi_list_int, kb_list_int, isi_list_bool, kb_list_bool, isi_list_list, kb_list_list, isi_list_tuple, kb_list_tuple, isi_list_str, kb_list_str, isi_list_dict, kb_list_dict, isi_tuple_int, kb_tuple_int, isi_tuple_bool, kb_tuple_bool, isi_tuple_list, kb_tuple_list, isi_tuple_tuple, kb_tuple_tuple, isi_tuple_str, kb_tuple_str, isi_tuple_dict, kb_tuple_dict, isi_str_int, kb_str_int, isi_str_bool, kb_str_bool, isi_str_list, kb_str_list, isi_str_tuple, kb_str_tuple, isi_str_str, kb_str_str, isi_str_dict, kb_str_dict, isi_dict_int, kb_dict_int, isi_dict_bool, kb_dict_bool, isi_dict_list, kb_dict_list, isi_dict_tuple, kb_dict_tuple, isi_dict_str, kb_dict_str, isi_dict_dict, kb_dict_dict, isi_NoneType_int, kb_NoneType_int, isi_NoneType_bool, kb_NoneType_bool, isi_NoneType_list, kb_NoneType_list, isi_NoneType_tuple, kb_NoneType_tuple, isi_NoneType_str, kb_NoneType_str, isi_NoneType_dict, kb_NoneType_dict, sl_0, st_0, sl_1, st_1, sl_2, st_2, sl_3, st_3, sl_4, st_4, sl_5, st_5, sl_6, st_6, sl_7, st_7, sl_8, st_8, sl_9, st_9, sl_10, st_10, sl_11, st_11, sl_12, st_12, sl_13, st_13, sl_14, st_14, sl_15, st_15, sl_16, st_16, isTy_l, decide_true, decide_false, ↓oIsB_e, ↓rCallF_e, unows, unow, wipeG, gam0_e, List.map_cons, List.map_nil, repl_s, List.replicate_zero, List.cons_append, List.nil_append, tyL, D.tyn, Option.some.injEq, exists_eq_left, exists_eq_left', exists_eq_right, true_and, and_true, not_true_eq_false, not_false_eq_true, reduceCtorEq, Nat.reduceAdd, Nat.reduceSub, Nat.reduceLT, false_implies, true_implies, implies_true, forall_const, eq_self_iff_true, snap, lenOf, eqk, Bool.not_eq_true, decide_eq_true_eq, decide_eq_false_iff_not, Decidable.not_not, rangeD_len])) | simp (disch := first | assumption | omega) only [ci_isint, ↓rLcU_e, lcU_0, lcU_c, ↓rIOwnU_e, ↓rIOf_e, lsP_e, ↓rFld_e, ↓rSetF_e, ↓rSelf_e, ↓rCallU_e, ↓rMake_e, ↓rProp_e, ↓oEqO_e, ↓oNeO_e, kNe_e, ↓rTru_e, ↓rBits_e, ↓rDictO_e, ↓rLenSet_e, ↓rSrtSet_e, callU_e, kU_e, kUX_e, insOf, reach, kids, PickOk, pick, put, putI, loc, ren, refMs, refM, List.idxOf_cons, List.getD_cons_zero, List.getD_cons_succ, List.getD_nil, List.drop_succ_cons, List.drop_zero, List.drop_nil, List.lookup_cons, List.lookup_nil, str_beq, str_eq, putL, List.nodup_cons, List.nodup_nil, List.mem_cons, List.not_mem_nil, List.forall_mem_cons, List.forall_mem_nil, or_false, false_or, or_true, true_or, Nat.reduceBEq, beq_self_eq_true, String.reduceEq, String.reduceNe, ↓rForL_e, ↓rLcL_e, ↓rItmL_e, ↓rValL_e, lkP_e, ↓rLock_e, ndL_nx, ndL_rt, ndL_bk, ndL_ct, ↓rDGet_e, ↓rDIn_e, ↓rDPut_e, ↓rItms_e, dct_o, dct_i, key_i, key_s, pSl_e, pFl_e, ↓lcq_itm, ↓rLstRg2_e, ↓rTupRg_e, ↓rTupRg2_e, okd_tup, okd_tt, okd_tup0, eqv_tup, eqv_tup0, eqv_tup1, eqv_tt, eqv_tt0, eqv_tt1, forall_eq_or_imp, forall_eq, ↓rIOwn_e, liP_e, yesP_e, ↓rBase_e, ↓rForT_e, ↓rITupT_e, frT_0, frT_c, Bool.false_xor, Bool.true_xor, Bool.xor_false, Bool.xor_true, ↓oReverse_e, ↓oClear_e, ↓oDictP_e, ↓rTupRg3_e, kyOf, prKD, prsKD, ↓rCallUK_e, renLs, ↓rPar3_e, ↓rCutB_e, lowG, refL, refLs, lk_l, lk_r, Nat.sub_self, Nat.add_sub_cancel_left, Nat.add_sub_cancel, eqv_im, eqv_mi, okd_im, eqv_mm, List.map_id_fun', id_eq, closed_app, closed_fl, okr_a, okd_a, okrr_a, rep_i, List.length_replicate, Int.reduceToNat, exI_l0, exI_l1, exI_l2, exI_l3, exI_l4, exI_l5, exI_l6, exI_l7, exI_e1, exI_e2, exI_e3, exI_e4, exI_e5, ↓rWkF_e, frzG_0, frzG_s, datM, cut_m, okd_ints, okd_nil, eqv_ints, eqv_ints0, eqv_ints1, eqv_nil, srtI_i, srtI_p, srtI_0, ↓lcq_i1, ↓lcq_i2, ↓lcq_i3, ↓lcq_i4, all_tt, any_ff, Int.toNat_natCast, List.length_append, Option.isSome_some, Option.isSome_none, ↓rLcG_e, ↓lcq_enum, ↓lcq_rng0, ↓lcq_rng, ↓lcq_zip, ↓lcq_map, lcq_map, lcq_flt, lcq_all, lcq_fltc, lcq_allc, imR_e, ife_t, ife_f, andE_j, orE_j, andT_j, orT_j, ifV_j, andE_t, andE_f, orE_t, orE_f, andT_t, andT_f, orT_t, orT_f, ifV_t, ifV_f, blsI_m, intsI_m, intsI_i, blsI_0, intsI_0, blsI_1, blsI_2, blsI_3, blsI_4, szd_lt, szd_le, dr_le, dr_lt, dr_leN, dr_ltN, mulc_l, mulc_r, ifc_y, ifc_no, exI_int, zipIdx_m, zip_m, dec_and, dec_or, dec_not, List.length_map, List.length_range, List.length_zipIdx, List.length_zip, and_self, closed, Bool.and_true, Bool.true_and, Bool.and_false, Bool.false_and, Bool.or_true, Bool.true_or, Bool.or_false, Bool.false_or, cond_true, cond_false, Bool.not_not, Int.zero_add, List.all_cons, List.all_nil, List.any_cons, List.any_nil, allIm_ims, List.append_nil, seqOf, ↓rCall1_e, k1_e, k1X_e, ow1, lo0, tyT, excOf, Option.getD_none, Option.getD_some, isI_a, isI_b, isI_c, isI_d, isI_e, isI_f, isI_g, isI_h, isI_i, List.take_succ_cons, List.take_zero, ↓reduceIte, Nat.reduceEqDiff, frG, frL, frLs, frM, ↓oReprR_e, ↓oCount_e, ↓oIndexD_e, D.flt, datM, List.getElem?_concat_length, set_concat, Nat.add_zero, ↓ifp_i, ifb_t, ifb_f, ifb_d, ifb_n, ifc_t, ifc_f, ifc_n, exI_s, kw_K, kD_im, kD_ow, kD_im2, kD_tp, kDX_e, kP_e, kF_e, renL, renM, flatM, Int.reduceLT, Int.reduceLE, Int.reduceAdd, Int.reduceSub, Int.reduceMul, Int.reduceNeg, Int.reduceEq, Int.reduceNe, ↓rFz_e, ↓rTry_e, ↓rTryF_e, ↓rFor_e, ↓rLcB_e, outF_e, outO_e, ↓rVar_e, ↓rCon_e, ↓qOp_e, ↓qUn_e, ↓qCa_e, ↓rNil_e, ↓rCons_e, ↓rTup_e, ↓rLst_e, ↓rLstO_e, ↓rLstM_e, ↓rB_e, ↓rAndT_j, ↓rOrT_j, ↓rNotT_e, ↓rAndV_j, ↓rOrV_j, ↓rNotV_e, ↓rIfE_j, ↓rChain_j, ↓rNext_e, ↓rSeq_e, ↓rBreak_e, ↓rCont_e, ↓rDrop_e, ↓rRet_e, ↓rRetN_e, ↓rIf_e, ↓rNever_e, ↓rName_e, ↓rGNil_e, ↓rGCons_e, ↓rGTup_e, ↓rGLst_e, ↓rGSub_e, ↓rAsg_e, ↓rPar_e, ↓rAug_e, ↓rYes_e, ↓oEqG_e, ↓oI_e, ↓oI0_e, ↓oNeg_e, ↓oAdd_e, ↓oMul_e, ↓oIsN_e, ↓oIn_e, ↓oInS_e, ↓oIx_e, ↓rONone_e, ↓rOSome_e, ↓rSl_e, ↓rCall0_e, ↓oLen_e, ↓oInt_e, ↓oMin_e, ↓oMax_e, ↓oSum_e, ↓oBls_e, ↓oList_e, ↓oTuple_e, ↓oSorted_i, ↓oAbs_e, ↓oStr_e, ↓oIsi_e, ↓oRepr_e, ↓rIList_e, ↓rITup_e, ↓rIRan1_e, ↓rIRan2_e, ↓rIEnum_e, ↓rIZip_e, ↓rMe_e, ↓rMe0_e, ↓oAppend_e, ↓oExtend_e, ↓oPopAt_e, ↓rLstRg_e, ↓rStar_e, ↓rIDown_e, ↓rRev_e, ↓oIndex_e, ↓rRaise_e, ↓rCallD_e, ↓rCallP_e, ↓rIs_e, ↓rXf_e, ↓rRaiseI_e, ↓rRaiseN_e, ↓rIZipS_e, all_map, any_map, List.getElem?_cons_zero, List.getElem?_cons_succ, List.getElem?_nil, List.set_cons_zero, List.set_cons_succ, List.length_cons, List.length_nil, allIm, id_eq, Bool.not_true, Bool.not_false, Option.map_some, Option.map_none, isi_int_int, kb_int_int, isi_int_bool, kb_int_bool, isi_int_list, kb_int_list, isi_int_tuple, kb_int_tuple, isi_int_str, kb_int_str, isi_int_dict, kb_int_dict, isi_bool_int, kb_bool_int, isi_bool_bool, kb_bool_bool, isi_bool_list, kb_bool_list, isi_bool_tuple, kb_bool_tuple, isi_bool_str, kb_bool_str, isi_bool_dict, kb_bool_dict, isi_list_int, kb_list_int, isi_list_bool, kb_list_bool, isi_list_list, kb_list_list, isi_list_tuple, kb_list_tuple, isi_list_str, kb_list_str, isi_list_dict, kb_list_dict, isi_tuple_int, kb_tuple_int, isi_tuple_bool, kb_tuple_bool, isi_tuple_list, kb_tuple_list, isi_tuple_tuple, kb_tuple_tuple, isi_tuple_str, kb_tuple_str, isi_tuple_dict, kb_tuple_dict, isi_str_int, kb_str_int, isi_str_bool, kb_str_bool, isi_str_list, kb_str_list, isi_str_tuple, kb_str_tuple, isi_str_str, kb_str_str, isi_str_dict, kb_str_dict, isi_dict_int, kb_dict_int, isi_dict_bool, kb_dict_bool, isi_dict_list, kb_dict_list, isi_dict_tuple, kb_dict_tuple, isi_dict_str, kb_dict_str, isi_dict_dict, kb_dict_dict, isi_NoneType_int, kb_NoneType_int, isi_NoneType_bool, kb_NoneType_bool, isi_NoneType_list, kb_NoneType_list, isi_NoneType_tuple, kb_NoneType_tuple, isi_NoneType_str, kb_NoneType_str, isi_NoneType_dict, kb_NoneType_dict, sl_0, st_0, sl_1, st_1, sl_2, st_2, sl_3, st_3, sl_4, st_4, sl_5, st_5, sl_6, st_6, sl_7, st_7, sl_8, st_8, sl_9, st_9, sl_10, st_10, sl_11, st_11, sl_12, st_12, sl_13, st_13, sl_14, st_14, sl_15, st_15, sl_16, st_16, isTy_l, decide_true, decide_false, ↓oIsB_e, ↓rCallF_e, unows, unow, wipeG, gam0_e, List.map_cons, List.map_nil, repl_s, List.replicate_zero, List.cons_append, List.nil_append, tyL, D.tyn, Option.some.injEq, exists_eq_left, exists_eq_left', exists_eq_right, true_and, and_true, not_true_eq_false, not_false_eq_true, reduceCtorEq, Nat.reduceAdd, Nat.reduceSub, Nat.reduceLT, false_implies, true_implies, implies_true, forall_const, eq_self_iff_true, snap, lenOf, eqk, Bool.not_eq_true, decide_eq_true_eq, decide_eq_false_iff_not, Decidable.not_not, rangeD_len])

local macro_rules | `(tactic| walk_at "u") => `(tactic| (simp only [Option.isSome_some, Option.isSome_none, jn_e, jt_e]; walk_at "s"))
local macro_rules | `(tactic| walk_at "menu") => `(tactic| (simp only [List.forall_mem_cons, List.forall_mem_nil, List.not_mem_nil, false_implies, implies_true, D.int.injEq, exists_eq_left', and_true]; omega))
local macro_rules | `(tactic| walk_at "len") => `(tactic| (simp only [List.length_cons, List.length_nil, List.length_map, List.length_append]; omega))
local macro_rules | `(tactic| walk_at "d") => `(tactic| (refine draw_ok (by assumption) (by omega) (by omega) (by omega) ?_; intro _ _ _ _ _ _; walk_at "s"))
/-! ### moduli, remainders -/
def nr (m g r : Int) : Int := g - m / 2 + (r - (g - m / 2)) % m
theorem nr_le {m g r : Int} (hm : 4 ≤ m) : g - m ≤ nr m g r ∧ nr m g r ≤ g + m := by
  unfold nr
  have h1 := Int.emod_nonneg (r - (g - m / 2)) (show m ≠ 0 by omega)
  have h2 := Int.emod_lt_of_pos (r - (g - m / 2)) (show 0 < m by omega)
  generalize (r - (g - m / 2)) % m = x at h1 h2 ⊢
  omega
def sp_check_modulus : DSp := fun ls M Kd _ => ∃ m : Int, ls = [.im (.int m)] ∧ M = [] ∧ 4 ≤ m ∧ m ≤ 65536 ∧ Kd (.im .non) []
def sp_check_remainder : DSp := fun ls M Kd _ => ∃ m r : Int, ls = [.im (.int m), .im (.int r)] ∧ M = [] ∧ 0 ≤ r ∧ r < m ∧ Kd (.im .non) []
def sp_nearest : DSp := fun ls M Kd _ => ∃ m g r : Int, ls = [.im (.int m), .im (.int g), .im (.int r)] ∧ M = [] ∧ 4 ≤ m ∧ Kd (.im (.int (nr m g r))) []
def sp_l_found : DSp := sp_nearest
theorem len_check_modulus : ∀ ls M Kd Ed, sp_check_modulus ls M Kd Ed → ls.length = 1 := fun ls M Kd Ed ⟨_, e, _⟩ => by rw [e]; rfl
theorem len_check_remainder : ∀ ls M Kd Ed, sp_check_remainder ls M Kd Ed → ls.length = 2 := fun ls M Kd Ed ⟨_, _, e, _⟩ => by rw [e]; rfl
theorem len_nearest : ∀ ls M Kd Ed, sp_nearest ls M Kd Ed → ls.length = 3 := fun ls M Kd Ed ⟨_, _, _, e, _⟩ => by rw [e]; rfl
theorem len_l_found : ∀ ls M Kd Ed, sp_l_found ls M Kd Ed → ls.length = 3 := len_nearest
def n_check_modulus : List Str := ["modulus"]
def rd_check_modulus (ex : EX) : RS := (rIf (rOrT (rNotT (rB (rCallD sp_is_integer ex (rCons (rVar 0) rNil)))) (rNotT (rB (rChain oLe oLe (rCon (.int 4)) (rVar 0) (rCon (.int 65536)))))) rNever rNext)
def n_check_remainder : List Str := ["modulus", "remainder"]
def rd_check_remainder (ex : EX) : RS := (rIf (rOrT (rNotT (rB (rCallD sp_is_integer ex (rCons (rVar 1) rNil)))) (rNotT (rB (rChain oLe oLt (rCon (.int 0)) (rVar 1) (rVar 0))))) rNever rNext)
def n_nearest : List Str := ["modulus", "greatest", "remainder", "begin"]
def rd_nearest (ex : EX) : RS := (rSeq (rAsg (qOp oSub (rVar 1) (qOp oDiv (rVar 0) (rCon (.int 2)))) (rName 3))
  (rRet (qOp (oAdd outF) (rVar 3) (qOp oMod (qOp oSub (rVar 2) (rVar 3)) (rVar 0)))))
def n_l_found : List Str := ["_law_modulus", "_law_top", "_law_rest", "_law_begin"]
def rd_l_found (ex : EX) : RS := (rSeq (rAsg (qOp oSub (rVar 1) (qOp oDiv (rVar 0) (rCon (.int 2)))) (rName 3))
  (rRet (qOp (oAdd outF) (rVar 3) (qOp oMod (qCa oInt (rCons (qOp oSub (rVar 2) (rVar 3)) rNil)) (rVar 0)))))
theorem m_check_modulus : MtX sp_check_modulus rd_check_modulus n_check_modulus := fun {ls M Kd Ed} h => by
  obtain ⟨m, rfl, rfl, h1, h2, k⟩ := h
  unfold rd_check_modulus n_check_modulus
  walk_at "s"
  exact back0 k
theorem m_check_remainder : MtX sp_check_remainder rd_check_remainder n_check_remainder := fun {ls M Kd Ed} h => by
  obtain ⟨m, r, rfl, rfl, h1, h2, k⟩ := h
  unfold rd_check_remainder n_check_remainder
  walk_at "s"
  exact back0 k
theorem m_nearest : MtX sp_nearest rd_nearest n_nearest := fun {ls M Kd Ed} h => by
  obtain ⟨m, g, r, rfl, rfl, hm, k⟩ := h
  unfold rd_nearest n_nearest
  walk_at "s"
  exact back0 k
theorem m_l_found : MtX sp_l_found rd_l_found n_l_found := fun {ls M Kd Ed} h => by
  obtain ⟨m, g, r, rfl, rfl, hm, k⟩ := h
  unfold rd_l_found n_l_found
  walk_at "s"
  exact back0 k
/-! ### unwrappers -/
abbrev unw (m t : Int) : MO := .ob "Unwrapper" [("modulus", .im (.int m)), ("top", .im (.int t))]
def sp_Unwrapper_init : DSp := fun ls M Kd _ => ∃ m : Int, ls = [.ow 0, .im (.int m)] ∧ M = [.ob "Unwrapper" []] ∧ 4 ≤ m ∧ m ≤ 65536 ∧ Kd (.im .non) [unw m (-1)]
theorem len_Unwrapper_init : ∀ ls M Kd Ed, sp_Unwrapper_init ls M Kd Ed → ls.length = 2 := fun ls M Kd Ed ⟨_, e, _⟩ => by rw [e]; rfl
def sp_Unwrapper_greatest : DSp := fun ls M Kd _ => ∃ m t : Int, ls = [.ow 0] ∧ M = [unw m t] ∧ Kd (.im (.int t)) [unw m t]
theorem len_Unwrapper_greatest : ∀ ls M Kd Ed, sp_Unwrapper_greatest ls M Kd Ed → ls.length = 1 := fun ls M Kd Ed ⟨_, _, e, _⟩ => by rw [e]; rfl
def sp_Unwrapper_follow : DSp := fun ls M Kd _ => ∃ m t r : Int, ls = [.ow 0, .im (.int r)] ∧ M = [unw m t] ∧ 4 ≤ m ∧ 0 ≤ r ∧ r < m ∧ Kd (.im (.int (nr m t r))) [unw m (max t (nr m t r))]
theorem len_Unwrapper_follow : ∀ ls M Kd Ed, sp_Unwrapper_follow ls M Kd Ed → ls.length = 2 := fun ls M Kd Ed ⟨_, _, _, e, _⟩ => by rw [e]; rfl
def sp_Unwrapper_copy : DSp := fun ls M Kd _ => ∃ m t : Int, ls = [.ow 0] ∧ M = [unw m t] ∧ 4 ≤ m ∧ m ≤ 65536 ∧ Kd (.ow 1) [unw m t, unw m t]
theorem len_Unwrapper_copy : ∀ ls M Kd Ed, sp_Unwrapper_copy ls M Kd Ed → ls.length = 1 := fun ls M Kd Ed ⟨_, _, e, _⟩ => by rw [e]; rfl
theorem back1u {Kd : Lo → Led → Prop} {d : D} {m t : Int} (h : Kd (.im d) [unw m t]) : Back 1 Kd (.im d) [unw m t] := ⟨[0], rfl, ⟨by simp, fun k hk => by rw [List.mem_singleton.mp hk]; exact Nat.zero_lt_one, ⟨⟨trivial, trivial, trivial⟩, trivial⟩⟩, trivial, h⟩
def n_Unwrapper_init : List Str := ["self", "modulus"]
def rd_Unwrapper_init (ex : EX) : RS := (rSeq (rDrop (rCallD sp_check_modulus ex (rCons (rVar 1) rNil)))
  (rSeq (rSetF ["Unwrapper"] "modulus" (rVar 0) (rVar 1))
  (rSetF ["Unwrapper"] "top" (rVar 0) (qUn oNeg (rCon (.int 1))))))
def n_Unwrapper_greatest : List Str := ["self"]
def rd_Unwrapper_greatest (ex : EX) : RS := (rRet (rFld ["Unwrapper"] "top" (rVar 0)))
def n_Unwrapper_follow : List Str := ["self", "shown", "number"]
def rd_Unwrapper_follow (ex : EX) : RS := (rSeq (rDrop (rCallD sp_check_remainder ex (rCons (rFld ["Unwrapper"] "modulus" (rVar 0)) (rCons (rVar 1) rNil))))
  (rSeq (rAsg (rCallD sp_nearest ex (rCons (rFld ["Unwrapper"] "modulus" (rVar 0)) (rCons (rFld ["Unwrapper"] "top" (rVar 0)) (rCons (rVar 1) rNil)))) (rName 2))
  (rSeq (rSetF ["Unwrapper"] "top" (rVar 0) (qCa oMax (rCons (rFld ["Unwrapper"] "top" (rVar 0)) (rCons (rVar 2) rNil))))
  (rRet (rVar 2)))))
def n_Unwrapper_copy : List Str := ["self", "found"]
def rd_Unwrapper_copy (ex : EX) : RS := (rSeq (rAsg (rMake "Unwrapper" sp_Unwrapper_init ex (rCons (rFld ["Unwrapper"] "modulus" (rVar 0)) rNil)) (rName 1))
  (rSeq (rSetF ["Unwrapper"] "top" (rVar 1) (rFld ["Unwrapper"] "top" (rVar 0)))
  (rRet (rVar 1))))
theorem m_Unwrapper_init : MtX sp_Unwrapper_init rd_Unwrapper_init n_Unwrapper_init := fun {ls M Kd Ed} h => by
  obtain ⟨m, rfl, rfl, h1, h2, k⟩ := h
  unfold rd_Unwrapper_init n_Unwrapper_init
  walk_at "s"
  refine ⟨m, rfl, rfl, h1, h2, ?_⟩
  walk_at "s"
  exact back1u k
theorem m_Unwrapper_greatest : MtX sp_Unwrapper_greatest rd_Unwrapper_greatest n_Unwrapper_greatest := fun {ls M Kd Ed} h => by
  obtain ⟨m, t, rfl, rfl, k⟩ := h
  unfold rd_Unwrapper_greatest n_Unwrapper_greatest
  walk_at "s"
  exact back1u k
theorem m_Unwrapper_follow : MtX sp_Unwrapper_follow rd_Unwrapper_follow n_Unwrapper_follow := fun {ls M Kd Ed} h => by
  obtain ⟨m, t, r, rfl, rfl, hm, r0, r1, k⟩ := h
  unfold rd_Unwrapper_follow n_Unwrapper_follow
  walk_at "s"
  refine ⟨m, r, rfl, rfl, r0, r1, ?_⟩
  walk_at "s"
  refine ⟨m, t, r, rfl, rfl, hm, ?_⟩
  walk_at "s"
  exact back1u k
theorem m_Unwrapper_copy : MtX sp_Unwrapper_copy rd_Unwrapper_copy n_Unwrapper_copy := fun {ls M Kd Ed} h => by
  obtain ⟨m, t, rfl, rfl, h1, h2, k⟩ := h
  unfold rd_Unwrapper_copy n_Unwrapper_copy
  walk_at "s"
  refine ⟨m, rfl, rfl, h1, h2, ?_⟩
  walk_at "s"
  refine ⟨[0, 1], rfl, ?_, ?_, ?_⟩ <;> walk_at "s"
  exact k
abbrev stt (o : Nat) (t m : Int) : MO := .ls [.ow o, .im (.int t), .im (.int m)]
def sp_l_follows : DSp := fun ls M Kd _ => ∃ (B : Int) (ns : List Int) (i c m t : Int), ls = [.ow 0, .ow 1] ∧ M = [pn ns i c, stt 2 t m, unw m t] ∧ PenC B i c ∧ B < 1000000 ∧ 4 ≤ m ∧ m ≤ 65536 ∧ -1 ≤ t ∧ t < 1000000000 ∧
  ∀ i' c' t' : Int, PenC (B + 10) i' c' → t ≤ t' → t' ≤ t + 65536 → Kd (.im (.bl true)) [pn ns i' c', stt 2 t' m, unw m t']
theorem len_l_follows : ∀ ls M Kd Ed, sp_l_follows ls M Kd Ed → ls.length = 2 := fun ls M Kd Ed ⟨_, _, _, _, _, _, e, _⟩ => by rw [e]; rfl
def n_l_follows : List Str := ["_law_pen_here", "_law_state", "_law_modulus", "_law_near", "_law_far", "_law_rest", "_law_due"]
def rd_l_follows (ex : EX) : RS := (rSeq (rPar 2 3 (rCons (qOp oIx (rVar 1) (rCon (.int 2))) (rCons (qOp oSub (qOp (oAdd outF) (qOp oIx (rVar 1) (rCon (.int 1))) (rCallP sp_l_draw (rCons (rVar 0) (rCons (rCon (.int 5)) rNil)))) (rCon (.int 2))) rNil)))
  (rSeq (rAsg (rLst (rCons (qOp (oAdd outF) (rVar 3) (qOp oDiv (rVar 2) (rCon (.int 2)))) (rCons (qOp oSub (qOp (oAdd outF) (rVar 3) (qOp oDiv (rVar 2) (rCon (.int 2)))) (rCon (.int 1))) (rCons (qOp oSub (rVar 3) (qOp oDiv (rVar 2) (rCon (.int 3)))) (rCons (rCallP sp_l_draw (rCons (rVar 0) (rCons (rVar 2) rNil))) (rCons (rVar 3) (rCons (rVar 3) rNil))))))) (rName 4))
  (rSeq (rAsg (qOp oMod (qCa oInt (rCons (qOp oIx (rVar 4) (rCallP sp_l_draw (rCons (rVar 0) (rCons (rCon (.int 6)) rNil)))) rNil)) (rVar 2)) (rName 5))
  (rSeq (rAsg (rCallD sp_l_found ex (rCons (rVar 2) (rCons (qOp oIx (rVar 1) (rCon (.int 1))) (rCons (rVar 5) rNil)))) (rName 6))
  (rSeq (rAsg (qCa oMax (rCons (qOp oIx (rVar 1) (rCon (.int 1))) (rCons (rVar 6) rNil))) (rGSub (rVar 1) (rCon (.int 1))))
  (rRet (qOp oEq (qCa oReprR (rCons (rCallU sp_Unwrapper_follow ex (rSelf "Unwrapper" "follow" (qOp oIx (rVar 1) (rCon (.int 0))) (rCons (rVar 5) rNil))) rNil)) (qCa oReprR (rCons (rVar 6) rNil)))))))))
theorem m_l_follows : MtX sp_l_follows rd_l_follows n_l_follows := fun {ls M Kd Ed} h => by
  obtain ⟨B, ns, i, c, m, t, rfl, rfl, hp, hB, m0, m1, t0, t1, k⟩ := h
  unfold rd_l_follows n_l_follows
  walk_at "s"
  walk_at "d"
  rename_i i1 c1 r1 hp1 h10 h11
  walk_at "d"
  rename_i i2 c2 r2 hp2 h20 h21
  walk_at "d"
  rename_i i3 c3 r3 hp3 h30 h31
  obtain ⟨x, hx, ex⟩ := ixI [t + r1 - 2 + m / 2, t + r1 - 2 + m / 2 - 1, t + r1 - 2 - m / 3, r2, t + r1 - 2, t + r1 - 2] h30 h31
  refine exI_of ex ?_
  clear ex hx
  have x0 := Int.emod_nonneg x (show m ≠ 0 by omega)
  have x1 := Int.emod_lt_of_pos x (show 0 < m by omega)
  walk_at "s"
  generalize x % m = y at x0 x1 ⊢
  refine ⟨m, t, y, rfl, rfl, m0, ?_⟩
  obtain ⟨z0, z1⟩ := nr_le (g := t) (r := y) m0
  walk_at "s"
  refine exI_of (d := 1) rfl ?_
  walk_at "s"
  refine ⟨m, t, y, rfl, rfl, m0, x0, x1, ?_⟩
  walk_at "s"
  have ok := (fr_int (i := nr m t y) (by omega)).ok
  refine ⟨ok, ok, ⟨[0, 1, 2], rfl, ?_, ?_, ?_⟩⟩ <;> walk_at "s"
  exact k i3 c3 _ (hp3.up (by omega)) (by omega) (by omega)
--CUT
def MdOk (m : Int) : Prop := 4 ≤ m ∧ m ≤ 65536
def TpOk (u : Nat) (t : Int) : Prop := -1 ≤ t ∧ t ≤ 65536 * (u : Int)
theorem TpOk.up {u : Nat} {t t' : Int} (h : TpOk u t) (h1 : t ≤ t') (h2 : t' ≤ t + 65536) : TpOk (u + 1) t' := by
  obtain ⟨a, b⟩ := h
  exact ⟨by omega, by omega⟩
theorem TpOk.s {u : Nat} {t : Int} (h : TpOk u t) : TpOk (u + 1) t := by
  obtain ⟨a, b⟩ := h
  exact ⟨by omega, by omega⟩
abbrev Ld2 (ns : List Int) (i c t0 m0 t1 m1 : Int) : Led := [pn ns i c, .ls [.ow 3, .ow 5], unw m0 t0, stt 2 t0 m0, unw m1 t1, stt 4 t1 m1]
abbrev Ld3 (ns : List Int) (i c t0 m0 t1 m1 t2 m2 : Int) : Led := [pn ns i c, .ls [.ow 3, .ow 5, .ow 7], unw m0 t0, stt 2 t0 m0, unw m1 t1, stt 4 t1 m1, unw m2 t2, stt 6 t2 m2]
abbrev Ld4 (ns : List Int) (i c t0 m0 t1 m1 t2 m2 t3 m3 : Int) : Led := [pn ns i c, .ls [.ow 3, .ow 5, .ow 7, .ow 9], unw m0 t0, stt 2 t0 m0, unw m1 t1, stt 4 t1 m1, unw m2 t2, stt 6 t2 m2, unw m3 t3, stt 8 t3 m3]
def n_law : List Str := ["_law_script", "_law_pen_here", "_law_turn", "_law_moduli", "_law_k", "_law_states", "_law_one", "_law_again", "_law_state"]
def rd_law_n3 (ex : EX) : RS := (rBase (fun b => (rIf (rB (qOp oNe (rFz (rLcU (rIOwnU b (rVar 5)) (rName 6) rYes (rProp "Unwrapper" sp_Unwrapper_greatest (qOp oIx (rVar 6) (rCon (.int 0)))) [6])) (rFz (rLcU (rIOwnU b (rVar 5)) (rName 6) rYes (qOp oIx (rVar 6) (rCon (.int 1))) [6])))) (rRet (rCon (.bl false))) rNext)))
def rd_law_n2 (ex : EX) : RS := (rSeq (rIf (rB (qOp (oIn false) (rVar 7) (rTup (rCons (rCon (.int 7)) (rCons (rCon (.int 19)) rNil))))) (rDrop (rMe "list" oAppend (rVar 5) (rCons (rLstM (rCons (rCallU sp_Unwrapper_copy ex (rSelf "Unwrapper" "copy" (qOp oIx (rVar 8) (rCon (.int 0))) rNil)) (rCons (qOp oIx (rVar 8) (rCon (.int 1))) (rCons (qOp oIx (rVar 8) (rCon (.int 2))) rNil)))) rNil))) rNext)
  (rd_law_n3 ex))
def rd_law_n1 (ex : EX) : RS := (rSeq (rIf (rNotT (rB (rCallU sp_l_follows ex (rCons (rVar 1) (rCons (rVar 8) rNil))))) (rRet (rCon (.bl false))) rNext)
  (rd_law_n2 ex))
def rd_law (ex : EX) : RS := (rSeq (rAsg (rCallD sp_l_pen ex (rCons (rVar 0) rNil)) (rName 1))
  (rSeq (rFor (rIRan1 (rCons (rCon (.int 8)) rNil)) (rName 2) (rCutB 1 [2, 3, 4, 5, 6, 7, 8] (rSeq (rAsg (rLcB outF (rIRan1 (rCons (rCon (.int 2)) rNil)) (rName 4) rYes (qOp oIx (rLst (rCons (rCon (.int 4)) (rCons (rCon (.int 5)) (rCons (rCon (.int 8)) (rCons (rCon (.int 16)) (rCons (rCon (.int 255)) (rCons (rCon (.int 65536)) (rCons (qOp (oAdd outF) (rCon (.int 4)) (rCallP sp_l_draw (rCons (rVar 1) (rCons (rCon (.int 99)) rNil)))) rNil)))))))) (rCallP sp_l_draw (rCons (rVar 1) (rCons (rCon (.int 7)) rNil)))) [4]) (rName 3))
  (rSeq (rAsg (rLcU (rIOf (rIList (rVar 3))) (rName 6) rYes (rLstM (rCons (rMake "Unwrapper" sp_Unwrapper_init exF (rCons (rVar 6) rNil)) (rCons (qUn oNeg (rCon (.int 1))) (rCons (rVar 6) rNil)))) [6]) (rName 5))
  (rSeq (rBase (fun b => (rIf (rB (qOp oNe (rFz (rLcU (rIOwnU b (rVar 5)) (rName 6) rYes (rProp "Unwrapper" sp_Unwrapper_greatest (qOp oIx (rVar 6) (rCon (.int 0)))) [6])) (rLst (rCons (qUn oNeg (rCon (.int 1))) (rCons (qUn oNeg (rCon (.int 1))) rNil))))) (rRet (rCon (.bl false))) rNext)))
  (rFor (rIRan1 (rCons (rCon (.int 40)) rNil)) (rName 7) (rSeq (rAsg (qOp oIx (rVar 5) (rCallP sp_l_draw (rCons (rVar 1) (rCons (qCa oLen (rCons (rVar 5) rNil)) rNil)))) (rName 8))
  (rd_law_n1 ex))))))))
  (rRet (qOp oEq (rCallU sp_Unwrapper_follow ex (rSelf "Unwrapper" "follow" (rMake "Unwrapper" sp_Unwrapper_init ex (rCons (rCon (.int 4)) rNil)) (rCons (rCon (.int 3)) rNil))) (qUn oNeg (rCon (.int 1)))))))
theorem chk2 {ex : EX} {N : Nd} {ns : List Int} {i c t0 m0 t1 m1 : Int} {s0 s2 s3 s4 s6 s7 s8 : Option Lo} (q : ∀ s6, N.nx [s0, some (.ow 0), s2, s3, s4, some (.ow 1), s6, s7, s8] (Ld2 ns i c t0 m0 t1 m1)) :
    rd_law_n3 ex N [s0, some (.ow 0), s2, s3, s4, some (.ow 1), s6, s7, s8] (Ld2 ns i c t0 m0 t1 m1) := by
  unfold rd_law_n3
  walk_at "s"
  refine ⟨m0, t0, rfl, rfl, ?_⟩
  walk_at "s"
  refine ⟨m1, t1, rfl, rfl, ?_⟩
  walk_at "s"
  refine exI_of (d := .lst [.int t0, .int t1]) rfl ?_
  walk_at "s"
  refine exI_of (d := .lst [.int t0, .int t1]) rfl ?_
  walk_at "s"
  refine ⟨okd_ints [t0, t1], okd_ints [t0, t1], ?_⟩
  rw [show (D.lst [D.int t0, D.int t1]).pd.eqv (D.lst [D.int t0, D.int t1]).pd = true from PySem.SeqAt.eqv_refl _ rfl]
  walk_at "s"
  exact q _
theorem chk3 {ex : EX} {N : Nd} {ns : List Int} {i c t0 m0 t1 m1 t2 m2 : Int} {s0 s2 s3 s4 s6 s7 s8 : Option Lo} (q : ∀ s6, N.nx [s0, some (.ow 0), s2, s3, s4, some (.ow 1), s6, s7, s8] (Ld3 ns i c t0 m0 t1 m1 t2 m2)) :
    rd_law_n3 ex N [s0, some (.ow 0), s2, s3, s4, some (.ow 1), s6, s7, s8] (Ld3 ns i c t0 m0 t1 m1 t2 m2) := by
  unfold rd_law_n3
  walk_at "s"
  refine ⟨m0, t0, rfl, rfl, ?_⟩
  walk_at "s"
  refine ⟨m1, t1, rfl, rfl, ?_⟩
  walk_at "s"
  refine ⟨m2, t2, rfl, rfl, ?_⟩
  walk_at "s"
  refine exI_of (d := .lst [.int t0, .int t1, .int t2]) rfl ?_
  walk_at "s"
  refine exI_of (d := .lst [.int t0, .int t1, .int t2]) rfl ?_
  walk_at "s"
  refine ⟨okd_ints [t0, t1, t2], okd_ints [t0, t1, t2], ?_⟩
  rw [show (D.lst [D.int t0, D.int t1, D.int t2]).pd.eqv (D.lst [D.int t0, D.int t1, D.int t2]).pd = true from PySem.SeqAt.eqv_refl _ rfl]
  walk_at "s"
  exact q _
theorem chk4 {ex : EX} {N : Nd} {ns : List Int} {i c t0 m0 t1 m1 t2 m2 t3 m3 : Int} {s0 s2 s3 s4 s6 s7 s8 : Option Lo} (q : ∀ s6, N.nx [s0, some (.ow 0), s2, s3, s4, some (.ow 1), s6, s7, s8] (Ld4 ns i c t0 m0 t1 m1 t2 m2 t3 m3)) :
    rd_law_n3 ex N [s0, some (.ow 0), s2, s3, s4, some (.ow 1), s6, s7, s8] (Ld4 ns i c t0 m0 t1 m1 t2 m2 t3 m3) := by
  unfold rd_law_n3
  walk_at "s"
  refine ⟨m0, t0, rfl, rfl, ?_⟩
  walk_at "s"
  refine ⟨m1, t1, rfl, rfl, ?_⟩
  walk_at "s"
  refine ⟨m2, t2, rfl, rfl, ?_⟩
  walk_at "s"
  refine ⟨m3, t3, rfl, rfl, ?_⟩
  walk_at "s"
  refine exI_of (d := .lst [.int t0, .int t1, .int t2, .int t3]) rfl ?_
  walk_at "s"
  refine exI_of (d := .lst [.int t0, .int t1, .int t2, .int t3]) rfl ?_
  walk_at "s"
  refine ⟨okd_ints [t0, t1, t2, t3], okd_ints [t0, t1, t2, t3], ?_⟩
  rw [show (D.lst [D.int t0, D.int t1, D.int t2, D.int t3]).pd.eqv (D.lst [D.int t0, D.int t1, D.int t2, D.int t3]).pd = true from PySem.SeqAt.eqv_refl _ rfl]
  walk_at "s"
  exact q _
theorem inD_ints {x : Int} {g : List Int} : inD (.int x) (g.map D.int) = true ↔ x ∈ g := by
  unfold inD inV
  rw [List.map_map, List.any_map, List.any_eq_true]
  constructor
  · rintro ⟨y, hy, e⟩
    have e : (y == x) = true := e
    rwa [← eq_of_beq e]
  · intro h
    exact ⟨x, h, (by simp : (x == x) = true)⟩
theorem in79 (u : Nat) : inD (D.int (u : Nat)) [D.int 7, D.int 19] = decide (u = 7 ∨ u = 19) := by
  have h := inD_ints (x := (u : Int)) (g := [7, 19])
  rw [Bool.eq_iff_iff, decide_eq_true_eq]
  refine (show inD (D.int (u : Nat)) [D.int 7, D.int 19] = true ↔ (u : Int) ∈ [(7 : Int), 19] from h).trans ?_
  simp only [List.mem_cons, List.not_mem_nil, or_false]
  omega
def Sti (ns : List Int) (B : Int) (u : Nat) (M : Led) : Prop :=
  (u ≤ 7 ∧ ∃ i c t0 m0 t1 m1, M = Ld2 ns i c t0 m0 t1 m1 ∧ PenC (B + 20 * u) i c ∧ MdOk m0 ∧ MdOk m1 ∧ TpOk u t0 ∧ TpOk u t1) ∨
  (8 ≤ u ∧ u ≤ 19 ∧ ∃ i c t0 m0 t1 m1 t2 m2, M = Ld3 ns i c t0 m0 t1 m1 t2 m2 ∧ PenC (B + 20 * u) i c ∧ MdOk m0 ∧ MdOk m1 ∧ MdOk m2 ∧ TpOk u t0 ∧ TpOk u t1 ∧ TpOk u t2) ∨
  (20 ≤ u ∧ ∃ i c t0 m0 t1 m1 t2 m2 t3 m3, M = Ld4 ns i c t0 m0 t1 m1 t2 m2 t3 m3 ∧ PenC (B + 20 * u) i c ∧ MdOk m0 ∧ MdOk m1 ∧ MdOk m2 ∧ MdOk m3 ∧ TpOk u t0 ∧ TpOk u t1 ∧ TpOk u t2 ∧ TpOk u t3)
def sp_law : DSp := fun ls M Kd _ => ∃ ns : List Int, ls = [.im (.scr ns)] ∧ M = [] ∧ ∀ M', Kd (.im (.bl true)) M'
theorem sp_law_in : ∀ (ns : List Int) (Kd : Lo → Led → Prop) (Ed : Exn → Led → Prop), ns.length ≤ 63 → (∀ M, Kd (.im (.bl true)) M) → sp_law [.im (.scr ns)] [] Kd Ed := fun ns Kd Ed _ h => ⟨ns, rfl, rfl, h⟩
theorem len_law : ∀ ls M Kd Ed, sp_law ls M Kd Ed → ls.length = 1 := fun ls M Kd Ed ⟨_, e, _⟩ => by rw [e]; rfl
theorem ml_law {ls : List Lo} {M : Led} {Kd : Lo → Led → Prop} {Ed : Exn → Led → Prop} (h : sp_law ls M Kd Ed) : M.length ≤ 0 := by
  obtain ⟨_, _, e, _⟩ := h
  rw [e]
  exact Nat.le_refl _
theorem m_law : MtX sp_law rd_law n_law := fun {ls M Kd Ed} h => by
  obtain ⟨ns, rfl, rfl, k⟩ := h
  unfold rd_law n_law
  walk_at "s"
  refine ⟨ns, rfl, rfl, fun ns' hns => ?_⟩
  walk_at "s"
  refine ⟨fun t Γ' M' => t ≤ 8 → ∃ i1 c1, Γ' = [_, _, none, none, none, none, none, none, none] ∧ M' = [pn ns' i1 c1] ∧ PenC (1000 * t) i1 c1, fun _ => ⟨_, _, rfl, rfl, by decide, by decide, by decide⟩, ?_, ?_⟩
  · intro t d Γ' M' hd hI
    obtain ⟨ht, rfl⟩ := rangeD_get.mp hd
    have ht : t < 8 := ht
    obtain ⟨i1, c1, rfl, rfl, hp⟩ := hI (by omega)
    clear hI hd
    walk_at "s"
    refine lc_pen (rest := []) (fun _ x => ∃ m : Int, x = .int m ∧ MdOk m) 2 hp (by decide) (by rw [rangeD_len]; omega) (fun _ _ => trivial) (fun j d acc i3 c3 R hd hp3 q => ?_) fun acc i3 c3 hp3 ha hl => ?_
    · obtain ⟨hj, rfl⟩ := rangeD_get.mp hd
      clear hd
      walk_at "s"
      walk_at "d"
      rename_i i4 c4 r4 hp4 h40 h41
      walk_at "d"
      rename_i i5 c5 r5 hp5 h50 h51
      obtain ⟨m, hm, em⟩ := ixI [4, 5, 8, 16, 255, 65536, 4 + r4] h50 h51
      have hm2 : MdOk m := by
        have : m = 4 ∨ m = 5 ∨ m = 8 ∨ m = 16 ∨ m = 255 ∨ m = 65536 ∨ m = 4 + r4 := by simpa using hm
        unfold MdOk
        omega
      refine exI_of em ?_
      exact q _ _ _ ⟨m, rfl, hm2⟩ (hp5.up (by omega))
    · rw [rangeD_len] at hp3 hl
      obtain ⟨m0, m1, rfl, ho0, ho1⟩ : ∃ m0 m1 : Int, acc = [.int m0, .int m1] ∧ MdOk m0 ∧ MdOk m1 := by
        match acc, hl, ha with
        | [a, b], _, ha =>
          obtain ⟨_, _, m0, rfl, h0⟩ := ha 0 a rfl
          obtain ⟨_, _, m1, rfl, h1⟩ := ha 1 b rfl
          exact ⟨m0, m1, rfl, h0, h1⟩
      clear ha hl
      walk_at "s"
      refine ⟨m0, rfl, rfl, ho0.1, ho0.2, ?_⟩
      walk_at "s"
      refine ⟨m1, rfl, rfl, ho1.1, ho1.2, ?_⟩
      walk_at "s"
      refine ⟨m0, -1, rfl, rfl, ?_⟩
      walk_at "s"
      refine ⟨m1, -1, rfl, rfl, ?_⟩
      walk_at "s"
      refine exI_of (d := .lst [.int (-1), .int (-1)]) rfl ?_
      walk_at "s"
      refine ⟨okd_ints [-1, -1], okd_ints [-1, -1], ?_⟩
      rw [show (D.lst [D.int (-1), D.int (-1)]).pd.eqv (D.lst [D.int (-1), D.int (-1)]).pd = true by decide +kernel]
      walk_at "s"
      refine ⟨fun u Γ' M' => u ≤ 40 → (∃ s6 s7 s8, Γ' = [_, _, _, _, _, _, s6, s7, s8]) ∧ Sti ns' (1000 * t + 4) u M', fun _ => ⟨⟨_, _, _, rfl⟩, .inl ⟨by decide, i3, c3, _, _, _, _, rfl, hp3.up (by omega), ho0, ho1, ⟨by decide, by decide⟩, ⟨by decide, by decide⟩⟩⟩, ?_, ?_⟩
      · intro u d Γ' M' hd hI
        obtain ⟨hu, rfl⟩ := rangeD_get.mp hd
        have hu : u < 40 := hu
        obtain ⟨⟨s6, s7, s8, rfl⟩, hs⟩ := hI (by omega)
        clear hI hd
        rcases hs with ⟨hu7, i4, c4, t0, n0, t1, n1, rfl, hp4, k0, k1, j0, j1⟩ | ⟨hu8, hu9, i4, c4, t0, n0, t1, n1, t2, n2, rfl, hp4, k0, k1, k2, j0, j1, j2⟩ | ⟨hu8, i4, c4, t0, n0, t1, n1, t2, n2, t3, n3, rfl, hp4, k0, k1, k2, k3, j0, j1, j2, j3⟩
        · walk_at "s"
          walk_at "d"
          rename_i i5 c5 r5 hp5 h50 h51
          have h5 : r5 = 0 ∨ r5 = 1 := by omega
          rcases h5 with rfl | rfl
          · refine exI_of (d := .ow 3) rfl ?_
            walk_at "s"
            unfold rd_law_n1
            walk_at "s"
            refine ⟨_, ns', i5, c5, n0, t0, rfl, rfl, hp5, by omega, k0.1, k0.2, j0.1, by have := j0.2; omega, fun i6 c6 w hp6 w1 w2 => ?_⟩
            walk_at "s"
            unfold rd_law_n2
            walk_at "s"
            have jw := j0.up w1 w2
            rw [in79]
            refine ifb (fun h7 => ?_) fun h7 => ?_
            · have h7 := of_decide_eq_true h7
              walk_at "s"
              refine ⟨n0, w, rfl, rfl, k0.1, k0.2, ?_⟩
              walk_at "s"
              refine chk3 (N := _) fun s6 => ?_
              exact fun _ => ⟨⟨_, _, _, rfl⟩, .inr (.inl ⟨by omega, by omega, i6, c6, _, _, _, _, _, _, rfl, hp6.up (by omega), k0, k1, k0, jw, j1.s, jw⟩)⟩
            · have h7 := of_decide_eq_false h7
              walk_at "s"
              refine chk2 (N := _) fun s6 => ?_
              exact fun _ => ⟨⟨_, _, _, rfl⟩, .inl ⟨by omega, i6, c6, _, _, _, _, rfl, hp6.up (by omega), k0, k1, jw, j1.s⟩⟩
          · refine exI_of (d := .ow 5) rfl ?_
            walk_at "s"
            unfold rd_law_n1
            walk_at "s"
            refine ⟨_, ns', i5, c5, n1, t1, rfl, rfl, hp5, by omega, k1.1, k1.2, j1.1, by have := j1.2; omega, fun i6 c6 w hp6 w1 w2 => ?_⟩
            walk_at "s"
            unfold rd_law_n2
            walk_at "s"
            have jw := j1.up w1 w2
            rw [in79]
            refine ifb (fun h7 => ?_) fun h7 => ?_
            · have h7 := of_decide_eq_true h7
              walk_at "s"
              refine ⟨n1, w, rfl, rfl, k1.1, k1.2, ?_⟩
              walk_at "s"
              refine chk3 (N := _) fun s6 => ?_
              exact fun _ => ⟨⟨_, _, _, rfl⟩, .inr (.inl ⟨by omega, by omega, i6, c6, _, _, _, _, _, _, rfl, hp6.up (by omega), k0, k1, k1, j0.s, jw, jw⟩)⟩
            · have h7 := of_decide_eq_false h7
              walk_at "s"
              refine chk2 (N := _) fun s6 => ?_
              exact fun _ => ⟨⟨_, _, _, rfl⟩, .inl ⟨by omega, i6, c6, _, _, _, _, rfl, hp6.up (by omega), k0, k1, j0.s, jw⟩⟩
        · walk_at "s"
          walk_at "d"
          rename_i i5 c5 r5 hp5 h50 h51
          have h5 : r5 = 0 ∨ r5 = 1 ∨ r5 = 2 := by omega
          rcases h5 with rfl | rfl | rfl
          · refine exI_of (d := .ow 3) rfl ?_
            walk_at "s"
            unfold rd_law_n1
            walk_at "s"
            refine ⟨_, ns', i5, c5, n0, t0, rfl, rfl, hp5, by omega, k0.1, k0.2, j0.1, by have := j0.2; omega, fun i6 c6 w hp6 w1 w2 => ?_⟩
            walk_at "s"
            unfold rd_law_n2
            walk_at "s"
            have jw := j0.up w1 w2
            rw [in79]
            refine ifb (fun h7 => ?_) fun h7 => ?_
            · have h7 := of_decide_eq_true h7
              walk_at "s"
              refine ⟨n0, w, rfl, rfl, k0.1, k0.2, ?_⟩
              walk_at "s"
              refine chk4 (N := _) fun s6 => ?_
              exact fun _ => ⟨⟨_, _, _, rfl⟩, .inr (.inr ⟨by omega, i6, c6, _, _, _, _, _, _, _, _, rfl, hp6.up (by omega), k0, k1, k2, k0, jw, j1.s, j2.s, jw⟩)⟩
            · have h7 := of_decide_eq_false h7
              walk_at "s"
              refine chk3 (N := _) fun s6 => ?_
              exact fun _ => ⟨⟨_, _, _, rfl⟩, .inr (.inl ⟨by omega, by omega, i6, c6, _, _, _, _, _, _, rfl, hp6.up (by omega), k0, k1, k2, jw, j1.s, j2.s⟩)⟩
          · refine exI_of (d := .ow 5) rfl ?_
            walk_at "s"
            unfold rd_law_n1
            walk_at "s"
            refine ⟨_, ns', i5, c5, n1, t1, rfl, rfl, hp5, by omega, k1.1, k1.2, j1.1, by have := j1.2; omega, fun i6 c6 w hp6 w1 w2 => ?_⟩
            walk_at "s"
            unfold rd_law_n2
            walk_at "s"
            have jw := j1.up w1 w2
            rw [in79]
            refine ifb (fun h7 => ?_) fun h7 => ?_
            · have h7 := of_decide_eq_true h7
              walk_at "s"
              refine ⟨n1, w, rfl, rfl, k1.1, k1.2, ?_⟩
              walk_at "s"
              refine chk4 (N := _) fun s6 => ?_
              exact fun _ => ⟨⟨_, _, _, rfl⟩, .inr (.inr ⟨by omega, i6, c6, _, _, _, _, _, _, _, _, rfl, hp6.up (by omega), k0, k1, k2, k1, j0.s, jw, j2.s, jw⟩)⟩
            · have h7 := of_decide_eq_false h7
              walk_at "s"
              refine chk3 (N := _) fun s6 => ?_
              exact fun _ => ⟨⟨_, _, _, rfl⟩, .inr (.inl ⟨by omega, by omega, i6, c6, _, _, _, _, _, _, rfl, hp6.up (by omega), k0, k1, k2, j0.s, jw, j2.s⟩)⟩
          · refine exI_of (d := .ow 7) rfl ?_
            walk_at "s"
            unfold rd_law_n1
            walk_at "s"
            refine ⟨_, ns', i5, c5, n2, t2, rfl, rfl, hp5, by omega, k2.1, k2.2, j2.1, by have := j2.2; omega, fun i6 c6 w hp6 w1 w2 => ?_⟩
            walk_at "s"
            unfold rd_law_n2
            walk_at "s"
            have jw := j2.up w1 w2
            rw [in79]
            refine ifb (fun h7 => ?_) fun h7 => ?_
            · have h7 := of_decide_eq_true h7
              walk_at "s"
              refine ⟨n2, w, rfl, rfl, k2.1, k2.2, ?_⟩
              walk_at "s"
              refine chk4 (N := _) fun s6 => ?_
              exact fun _ => ⟨⟨_, _, _, rfl⟩, .inr (.inr ⟨by omega, i6, c6, _, _, _, _, _, _, _, _, rfl, hp6.up (by omega), k0, k1, k2, k2, j0.s, j1.s, jw, jw⟩)⟩
            · have h7 := of_decide_eq_false h7
              walk_at "s"
              refine chk3 (N := _) fun s6 => ?_
              exact fun _ => ⟨⟨_, _, _, rfl⟩, .inr (.inl ⟨by omega, by omega, i6, c6, _, _, _, _, _, _, rfl, hp6.up (by omega), k0, k1, k2, j0.s, j1.s, jw⟩)⟩
        · walk_at "s"
          walk_at "d"
          rename_i i5 c5 r5 hp5 h50 h51
          have h5 : r5 = 0 ∨ r5 = 1 ∨ r5 = 2 ∨ r5 = 3 := by omega
          rcases h5 with rfl | rfl | rfl | rfl
          · refine exI_of (d := .ow 3) rfl ?_
            walk_at "s"
            unfold rd_law_n1
            walk_at "s"
            refine ⟨_, ns', i5, c5, n0, t0, rfl, rfl, hp5, by omega, k0.1, k0.2, j0.1, by have := j0.2; omega, fun i6 c6 w hp6 w1 w2 => ?_⟩
            walk_at "s"
            unfold rd_law_n2
            walk_at "s"
            have jw := j0.up w1 w2
            rw [in79, show decide (u = 7 ∨ u = 19) = false from decide_eq_false (by omega)]
            walk_at "s"
            refine chk4 (N := _) fun s6 => ?_
            exact fun _ => ⟨⟨_, _, _, rfl⟩, .inr (.inr ⟨by omega, i6, c6, _, _, _, _, _, _, _, _, rfl, hp6.up (by omega), k0, k1, k2, k3, jw, j1.s, j2.s, j3.s⟩)⟩
          · refine exI_of (d := .ow 5) rfl ?_
            walk_at "s"
            unfold rd_law_n1
            walk_at "s"
            refine ⟨_, ns', i5, c5, n1, t1, rfl, rfl, hp5, by omega, k1.1, k1.2, j1.1, by have := j1.2; omega, fun i6 c6 w hp6 w1 w2 => ?_⟩
            walk_at "s"
            unfold rd_law_n2
            walk_at "s"
            have jw := j1.up w1 w2
            rw [in79, show decide (u = 7 ∨ u = 19) = false from decide_eq_false (by omega)]
            walk_at "s"
            refine chk4 (N := _) fun s6 => ?_
            exact fun _ => ⟨⟨_, _, _, rfl⟩, .inr (.inr ⟨by omega, i6, c6, _, _, _, _, _, _, _, _, rfl, hp6.up (by omega), k0, k1, k2, k3, j0.s, jw, j2.s, j3.s⟩)⟩
          · refine exI_of (d := .ow 7) rfl ?_
            walk_at "s"
            unfold rd_law_n1
            walk_at "s"
            refine ⟨_, ns', i5, c5, n2, t2, rfl, rfl, hp5, by omega, k2.1, k2.2, j2.1, by have := j2.2; omega, fun i6 c6 w hp6 w1 w2 => ?_⟩
            walk_at "s"
            unfold rd_law_n2
            walk_at "s"
            have jw := j2.up w1 w2
            rw [in79, show decide (u = 7 ∨ u = 19) = false from decide_eq_false (by omega)]
            walk_at "s"
            refine chk4 (N := _) fun s6 => ?_
            exact fun _ => ⟨⟨_, _, _, rfl⟩, .inr (.inr ⟨by omega, i6, c6, _, _, _, _, _, _, _, _, rfl, hp6.up (by omega), k0, k1, k2, k3, j0.s, j1.s, jw, j3.s⟩)⟩
          · refine exI_of (d := .ow 9) rfl ?_
            walk_at "s"
            unfold rd_law_n1
            walk_at "s"
            refine ⟨_, ns', i5, c5, n3, t3, rfl, rfl, hp5, by omega, k3.1, k3.2, j3.1, by have := j3.2; omega, fun i6 c6 w hp6 w1 w2 => ?_⟩
            walk_at "s"
            unfold rd_law_n2
            walk_at "s"
            have jw := j3.up w1 w2
            rw [in79, show decide (u = 7 ∨ u = 19) = false from decide_eq_false (by omega)]
            walk_at "s"
            refine chk4 (N := _) fun s6 => ?_
            exact fun _ => ⟨⟨_, _, _, rfl⟩, .inr (.inr ⟨by omega, i6, c6, _, _, _, _, _, _, _, _, rfl, hp6.up (by omega), k0, k1, k2, k3, j0.s, j1.s, j2.s, jw⟩)⟩
      · intro Γ' M' hI
        obtain ⟨⟨s6, s7, s8, rfl⟩, hs⟩ := hI (by decide)
        rcases hs with ⟨hu7, _⟩ | ⟨hu8, hu9, _⟩ | ⟨hu8, i4, c4, t0, n0, t1, n1, t2, n2, t3, n3, rfl, hp4, k0, k1, k2, k3, j0, j1, j2, j3⟩
        · exact absurd hu7 (by decide)
        · exact absurd hu9 (by decide)
        · walk_at "s"
          exact fun _ => ⟨_, _, rfl, hp4.up (by rw [rangeD_len]; omega)⟩
  · intro Γ' M' hI
    obtain ⟨i1, c1, rfl, rfl, hp⟩ := hI (by decide)
    clear hI
    walk_at "s"
    refine ⟨4, rfl, rfl, by decide, by decide, ?_⟩
    walk_at "s"
    refine ⟨4, -1, 3, rfl, rfl, by decide, by decide, by decide, ?_⟩
    walk_at "s"
    rw [show decide (nr 4 (-1) 3 = -1) = true by decide]
    exact back0 (k _)

end Dl

set_option Elab.async false
set_option maxRecDepth 100000
set_option maxHeartbeats 4000000
namespace Dl
open PySem PyProof.Rows L2
def top (i : Nat) : Stmt := PySem.Challenge.pw_evenplay_k36_unwrappers.main.body.getD i (.Pass ⟨0, 0, 0, 0⟩)
abbrev S_is_integer : Stmt := top 5
theorem sc_is_integer : FnScope n_is_integer ["thing"] (defScope S_is_integer) := ⟨rfl, rfl, rfl, by decide +kernel, rfl, by decide +kernel, by decide +kernel⟩
abbrev S_check_modulus : Stmt := top 9
theorem sc_check_modulus : FnScope n_check_modulus ["modulus"] (defScope S_check_modulus) := ⟨rfl, rfl, rfl, by decide +kernel, rfl, by decide +kernel, by decide +kernel⟩
abbrev S_Unwrapper_init : Stmt := inClass (top 12) 0
theorem sc_Unwrapper_init : FnScope n_Unwrapper_init ["self", "modulus"] (defScope S_Unwrapper_init) := ⟨rfl, rfl, rfl, by decide +kernel, rfl, by decide +kernel, by decide +kernel⟩
abbrev S_Unwrapper_greatest : Stmt := inClass (top 12) 1
theorem sc_Unwrapper_greatest : FnScope n_Unwrapper_greatest ["self"] (defScope S_Unwrapper_greatest) := ⟨rfl, rfl, rfl, by decide +kernel, rfl, by decide +kernel, by decide +kernel⟩
abbrev S_check_remainder : Stmt := top 10
theorem sc_check_remainder : FnScope n_check_remainder ["modulus", "remainder"] (defScope S_check_remainder) := ⟨rfl, rfl, rfl, by decide +kernel, rfl, by decide +kernel, by decide +kernel⟩
abbrev S_nearest : Stmt := top 11
theorem sc_nearest : FnScope n_nearest ["modulus", "greatest", "remainder"] (defScope S_nearest) := ⟨rfl, rfl, rfl, by decide +kernel, rfl, by decide +kernel, by decide +kernel⟩
abbrev S_Unwrapper_follow : Stmt := inClass (top 12) 2
theorem sc_Unwrapper_follow : FnScope n_Unwrapper_follow ["self", "shown"] (defScope S_Unwrapper_follow) := ⟨rfl, rfl, rfl, by decide +kernel, rfl, by decide +kernel, by decide +kernel⟩
abbrev S_Unwrapper_copy : Stmt := inClass (top 12) 3
theorem sc_Unwrapper_copy : FnScope n_Unwrapper_copy ["self"] (defScope S_Unwrapper_copy) := ⟨rfl, rfl, rfl, by decide +kernel, rfl, by decide +kernel, by decide +kernel⟩
abbrev S_l_pen : Stmt := top 14
theorem sc_l_pen : FnScope n_l_pen ["_law_script"] (defScope S_l_pen) := ⟨rfl, rfl, rfl, by decide +kernel, rfl, by decide +kernel, by decide +kernel⟩
abbrev S_l_next : Stmt := top 15
theorem sc_l_next : FnScope n_l_next ["_law_pen_here"] (defScope S_l_next) := ⟨rfl, rfl, rfl, by decide +kernel, rfl, by decide +kernel, by decide +kernel⟩
abbrev S_l_draw : Stmt := top 16
theorem sc_l_draw : FnScope n_l_draw ["_law_pen_here", "_law_under"] (defScope S_l_draw) := ⟨rfl, rfl, rfl, by decide +kernel, rfl, by decide +kernel, by decide +kernel⟩
abbrev S_l_found : Stmt := top 18
theorem sc_l_found : FnScope n_l_found ["_law_modulus", "_law_top", "_law_rest"] (defScope S_l_found) := ⟨rfl, rfl, rfl, by decide +kernel, rfl, by decide +kernel, by decide +kernel⟩
abbrev S_l_follows : Stmt := top 19
theorem sc_l_follows : FnScope n_l_follows ["_law_pen_here", "_law_state"] (defScope S_l_follows) := ⟨rfl, rfl, rfl, by decide +kernel, rfl, by decide +kernel, by decide +kernel⟩
abbrev S_law : Stmt := top 20
theorem sc_law : FnScope n_law ["_law_script"] (defScope S_law) := ⟨rfl, rfl, rfl, by decide +kernel, rfl, by decide +kernel, by decide +kernel⟩
structure Txt (K : PySem.W.Frag) (mg : Str → Option Value) where
  z_bool : mg "bool" = none
  z_int : mg "int" = none
  z_isinstance : mg "isinstance" = none
  z_len : mg "len" = none
  z_list : mg "list" = none
  z_max : mg "max" = none
  z_range : mg "range" = none
  z_repr : mg "repr" = none
  t_MAX_MODULUS : Tok
  c_MAX_MODULUS : mg "MAX_MODULUS" = some (.int 65536 t_MAX_MODULUS)
  t_MIN_MODULUS : Tok
  c_MIN_MODULUS : mg "MIN_MODULUS" = some (.int 4 t_MIN_MODULUS)
  fo_Unwrapper_modulus : FldOk K "Unwrapper" "modulus"
  fo_Unwrapper_top : FldOk K "Unwrapper" "top"
section
variable {T : Tbs} {P : Program} {w : World} {K : PySem.W.Frag} {mg : Str → Option Value} {base : Heap}
theorem ok_is_integer (Tx : Txt K mg) (D_is_integer : Df K mg "is_integer" "is_integer" S_is_integer ["thing"])  : Gn T P w K mg base 1 D_is_integer.f D_is_integer.fd ["thing"] sp_is_integer := by
  refine gn_of D_is_integer.F sc_is_integer len_is_integer ?_
  intro Ss G0 H0 Ab Gb X ls M Kd Ed cdv A outer s H E hX hcdv hr hg tk hp hbl hsp
  subst hX
  have gg : QSs ⟨K, Ss, G0, H0, Ab, Gb, T⟩ (cxOf (L2.CX P w) P w K mg base n_is_integer "is_integer" (defScope S_is_integer) D_is_integer.f cdv A outer s H E) (defBody S_is_integer) (rd_is_integer (fun x _ M' => BackX M.length Ed x M')) := (q_sone (q_ret (q_and (q_isi "int" rfl Tx.z_isinstance Tx.z_int (by decide +kernel) (q_var 0)) (q_one (q_notV (q_isi "bool" rfl Tx.z_isinstance Tx.z_bool (by decide +kernel) (q_var 0)))))))
  exact ⟨rd_is_integer (fun x _ M' => BackX M.length Ed x M'), gg, m_is_integer hsp⟩
theorem ok_check_modulus (Tx : Txt K mg) (D_check_modulus : Df K mg "check_modulus" "check_modulus" S_check_modulus ["modulus"]) (D_is_integer : Df K mg "is_integer" "is_integer" S_is_integer ["thing"]) (F_is_integer : Gn T P w K mg base 1 D_is_integer.f D_is_integer.fd ["thing"] sp_is_integer) : Gn T P w K mg base 2 D_check_modulus.f D_check_modulus.fd ["modulus"] sp_check_modulus := by
  refine gn_of D_check_modulus.F sc_check_modulus len_check_modulus ?_
  intro Ss G0 H0 Ab Gb X ls M Kd Ed cdv A outer s H E hX hcdv hr hg tk hp hbl hsp
  subst hX
  have gg : QSs ⟨K, Ss, G0, H0, Ab, Gb, T⟩ (cxOf (L2.CX P w) P w K mg base n_check_modulus "check_modulus" (defScope S_check_modulus) D_check_modulus.f cdv A outer s H E) (defBody S_check_modulus) (rd_check_modulus (fun x _ M' => BackX M.length Ed x M')) := (q_sone (q_if (q_wt (q_wor (q_not (q_tv (q_callD F_is_integer D_is_integer.m D_is_integer.b D_is_integer.F.kp (hr.mono (by decide)) hg rfl tk (q_cons (q_var 0) q_nil)))) (q_wor1 (q_not (q_tchain leL op_le leL op_le (q_gint Tx.c_MIN_MODULUS) (q_var 0) (q_gint Tx.c_MAX_MODULUS)))))) (q_sone q_never) q_snil))
  exact ⟨rd_check_modulus (fun x _ M' => BackX M.length Ed x M'), gg, m_check_modulus hsp⟩
theorem ok_Unwrapper_init (Tx : Txt K mg) (D_Unwrapper_init : Dn K mg "Unwrapper" "Unwrapper.__init__" S_Unwrapper_init ["self", "modulus"]) (D_check_modulus : Df K mg "check_modulus" "check_modulus" S_check_modulus ["modulus"]) (F_check_modulus : Gn T P w K mg base 2 D_check_modulus.f D_check_modulus.fd ["modulus"] sp_check_modulus) : Gn T P w K mg base 3 D_Unwrapper_init.f D_Unwrapper_init.fd ["self", "modulus"] sp_Unwrapper_init := by
  refine gn_of D_Unwrapper_init.F sc_Unwrapper_init len_Unwrapper_init ?_
  intro Ss G0 H0 Ab Gb X ls M Kd Ed cdv A outer s H E hX hcdv hr hg tk hp hbl hsp
  subst hX
  have gg : QSs ⟨K, Ss, G0, H0, Ab, Gb, T⟩ (cxOf (L2.CX P w) P w K mg base n_Unwrapper_init "Unwrapper.__init__" (defScope S_Unwrapper_init) D_Unwrapper_init.f cdv A outer s H E) (defBody S_Unwrapper_init) (rd_Unwrapper_init (fun x _ M' => BackX M.length Ed x M')) := (q_scons (q_expr (q_callD F_check_modulus D_check_modulus.m D_check_modulus.b D_check_modulus.F.kp (hr.mono (by decide)) hg rfl tk (q_cons (q_var 1) q_nil)))
  (q_scons (q_setF (cs := ["Unwrapper"]) rfl (fun c hc => by rw [List.mem_singleton.mp hc]; exact Tx.fo_Unwrapper_modulus) (q_var 0) (q_var 1))
  (q_sone (q_setF (cs := ["Unwrapper"]) rfl (fun c hc => by rw [List.mem_singleton.mp hc]; exact Tx.fo_Unwrapper_top) (q_var 0) (q_un negL un_neg q_int)))))
  exact ⟨rd_Unwrapper_init (fun x _ M' => BackX M.length Ed x M'), gg, m_Unwrapper_init hsp⟩
theorem ok_Unwrapper_greatest (Tx : Txt K mg) (D_Unwrapper_greatest : Dp K "Unwrapper" "greatest" "Unwrapper.greatest" S_Unwrapper_greatest ["self"])  : Gn T P w K mg base 1 D_Unwrapper_greatest.f D_Unwrapper_greatest.fd ["self"] sp_Unwrapper_greatest := by
  refine gn_of D_Unwrapper_greatest.F sc_Unwrapper_greatest len_Unwrapper_greatest ?_
  intro Ss G0 H0 Ab Gb X ls M Kd Ed cdv A outer s H E hX hcdv hr hg tk hp hbl hsp
  subst hX
  have gg : QSs ⟨K, Ss, G0, H0, Ab, Gb, T⟩ (cxOf (L2.CX P w) P w K mg base n_Unwrapper_greatest "Unwrapper.greatest" (defScope S_Unwrapper_greatest) D_Unwrapper_greatest.f cdv A outer s H E) (defBody S_Unwrapper_greatest) (rd_Unwrapper_greatest (fun x _ M' => BackX M.length Ed x M')) := (q_sone (q_ret (q_fld (cs := ["Unwrapper"]) rfl (fun c hc => by rw [List.mem_singleton.mp hc]; exact Tx.fo_Unwrapper_top) (q_var 0))))
  exact ⟨rd_Unwrapper_greatest (fun x _ M' => BackX M.length Ed x M'), gg, m_Unwrapper_greatest hsp⟩
theorem ok_check_remainder (Tx : Txt K mg) (D_check_remainder : Df K mg "check_remainder" "check_remainder" S_check_remainder ["modulus", "remainder"]) (D_is_integer : Df K mg "is_integer" "is_integer" S_is_integer ["thing"]) (F_is_integer : Gn T P w K mg base 1 D_is_integer.f D_is_integer.fd ["thing"] sp_is_integer) : Gn T P w K mg base 2 D_check_remainder.f D_check_remainder.fd ["modulus", "remainder"] sp_check_remainder := by
  refine gn_of D_check_remainder.F sc_check_remainder len_check_remainder ?_
  intro Ss G0 H0 Ab Gb X ls M Kd Ed cdv A outer s H E hX hcdv hr hg tk hp hbl hsp
  subst hX
  have gg : QSs ⟨K, Ss, G0, H0, Ab, Gb, T⟩ (cxOf (L2.CX P w) P w K mg base n_check_remainder "check_remainder" (defScope S_check_remainder) D_check_remainder.f cdv A outer s H E) (defBody S_check_remainder) (rd_check_remainder (fun x _ M' => BackX M.length Ed x M')) := (q_sone (q_if (q_wt (q_wor (q_not (q_tv (q_callD F_is_integer D_is_integer.m D_is_integer.b D_is_integer.F.kp (hr.mono (by decide)) hg rfl tk (q_cons (q_var 1) q_nil)))) (q_wor1 (q_not (q_tchain leL op_le ltL op_lt q_int (q_var 1) (q_var 0)))))) (q_sone q_never) q_snil))
  exact ⟨rd_check_remainder (fun x _ M' => BackX M.length Ed x M'), gg, m_check_remainder hsp⟩
theorem ok_nearest (Tx : Txt K mg) (D_nearest : Df K mg "nearest" "nearest" S_nearest ["modulus", "greatest", "remainder"])  : Gn T P w K mg base 1 D_nearest.f D_nearest.fd ["modulus", "greatest", "remainder"] sp_nearest := by
  refine gn_of D_nearest.F sc_nearest len_nearest ?_
  intro Ss G0 H0 Ab Gb X ls M Kd Ed cdv A outer s H E hX hcdv hr hg tk hp hbl hsp
  subst hX
  have gg : QSs ⟨K, Ss, G0, H0, Ab, Gb, T⟩ (cxOf (L2.CX P w) P w K mg base n_nearest "nearest" (defScope S_nearest) D_nearest.f cdv A outer s H E) (defBody S_nearest) (rd_nearest (fun x _ M' => BackX M.length Ed x M')) := (q_scons (q_set 3 sc_nearest.nd (q_op subL op_sub (q_var 1) (q_op divL op_fdivW (q_var 0) q_int)))
  (q_sone (q_ret (q_op (addL outF_new) op_addU (q_var 3) (q_op modL op_mod (q_op subL op_sub (q_var 2) (q_var 3)) (q_var 0))))))
  exact ⟨rd_nearest (fun x _ M' => BackX M.length Ed x M'), gg, m_nearest hsp⟩
theorem ok_Unwrapper_follow (Tx : Txt K mg) (D_Unwrapper_follow : Dm K "Unwrapper" "follow" "Unwrapper.follow" S_Unwrapper_follow ["self", "shown"]) (D_check_remainder : Df K mg "check_remainder" "check_remainder" S_check_remainder ["modulus", "remainder"]) (F_check_remainder : Gn T P w K mg base 2 D_check_remainder.f D_check_remainder.fd ["modulus", "remainder"] sp_check_remainder) (D_nearest : Df K mg "nearest" "nearest" S_nearest ["modulus", "greatest", "remainder"]) (F_nearest : Gn T P w K mg base 1 D_nearest.f D_nearest.fd ["modulus", "greatest", "remainder"] sp_nearest) : Gn T P w K mg base 3 D_Unwrapper_follow.f D_Unwrapper_follow.fd ["self", "shown"] sp_Unwrapper_follow := by
  refine gn_of D_Unwrapper_follow.F sc_Unwrapper_follow len_Unwrapper_follow ?_
  intro Ss G0 H0 Ab Gb X ls M Kd Ed cdv A outer s H E hX hcdv hr hg tk hp hbl hsp
  subst hX
  have gg : QSs ⟨K, Ss, G0, H0, Ab, Gb, T⟩ (cxOf (L2.CX P w) P w K mg base n_Unwrapper_follow "Unwrapper.follow" (defScope S_Unwrapper_follow) D_Unwrapper_follow.f cdv A outer s H E) (defBody S_Unwrapper_follow) (rd_Unwrapper_follow (fun x _ M' => BackX M.length Ed x M')) := (q_scons (q_expr (q_callD F_check_remainder D_check_remainder.m D_check_remainder.b D_check_remainder.F.kp (hr.mono (by decide)) hg rfl tk (q_cons (q_fld (cs := ["Unwrapper"]) rfl (fun c hc => by rw [List.mem_singleton.mp hc]; exact Tx.fo_Unwrapper_modulus) (q_var 0)) (q_cons (q_var 1) q_nil))))
  (q_scons (q_set 2 sc_Unwrapper_follow.nd (q_callD F_nearest D_nearest.m D_nearest.b D_nearest.F.kp (hr.mono (by decide)) hg rfl tk (q_cons (q_fld (cs := ["Unwrapper"]) rfl (fun c hc => by rw [List.mem_singleton.mp hc]; exact Tx.fo_Unwrapper_modulus) (q_var 0)) (q_cons (q_fld (cs := ["Unwrapper"]) rfl (fun c hc => by rw [List.mem_singleton.mp hc]; exact Tx.fo_Unwrapper_top) (q_var 0)) (q_cons (q_var 1) q_nil)))))
  (q_scons (q_setF (cs := ["Unwrapper"]) rfl (fun c hc => by rw [List.mem_singleton.mp hc]; exact Tx.fo_Unwrapper_top) (q_var 0) (q_bi (id := "max") maxL (cr_maxU rfl) (by decide +kernel) Tx.z_max (q_cons (q_fld (cs := ["Unwrapper"]) rfl (fun c hc => by rw [List.mem_singleton.mp hc]; exact Tx.fo_Unwrapper_top) (q_var 0)) (q_cons (q_var 2) q_nil))))
  (q_sone (q_ret (q_var 2))))))
  exact ⟨rd_Unwrapper_follow (fun x _ M' => BackX M.length Ed x M'), gg, m_Unwrapper_follow hsp⟩
theorem ok_Unwrapper_copy (Tx : Txt K mg) (D_Unwrapper_copy : Dm K "Unwrapper" "copy" "Unwrapper.copy" S_Unwrapper_copy ["self"]) (D_Unwrapper_init : Dn K mg "Unwrapper" "Unwrapper.__init__" S_Unwrapper_init ["self", "modulus"]) (F_Unwrapper_init : Gn T P w K mg base 3 D_Unwrapper_init.f D_Unwrapper_init.fd ["self", "modulus"] sp_Unwrapper_init) : Gn T P w K mg base 5 D_Unwrapper_copy.f D_Unwrapper_copy.fd ["self"] sp_Unwrapper_copy := by
  refine gn_of D_Unwrapper_copy.F sc_Unwrapper_copy len_Unwrapper_copy ?_
  intro Ss G0 H0 Ab Gb X ls M Kd Ed cdv A outer s H E hX hcdv hr hg tk hp hbl hsp
  subst hX
  have gg : QSs ⟨K, Ss, G0, H0, Ab, Gb, T⟩ (cxOf (L2.CX P w) P w K mg base n_Unwrapper_copy "Unwrapper.copy" (defScope S_Unwrapper_copy) D_Unwrapper_copy.f cdv A outer s H E) (defBody S_Unwrapper_copy) (rd_Unwrapper_copy (fun x _ M' => BackX M.length Ed x M')) := (q_scons (q_set 1 sc_Unwrapper_copy.nd (q_make D_Unwrapper_init.g D_Unwrapper_init.m F_Unwrapper_init D_Unwrapper_init.b (hr.mono (by decide)) hg rfl tk (q_cons (q_fld (cs := ["Unwrapper"]) rfl (fun c hc => by rw [List.mem_singleton.mp hc]; exact Tx.fo_Unwrapper_modulus) (q_var 0)) q_nil)))
  (q_scons (q_setF (cs := ["Unwrapper"]) rfl (fun c hc => by rw [List.mem_singleton.mp hc]; exact Tx.fo_Unwrapper_top) (q_var 1) (q_fld (cs := ["Unwrapper"]) rfl (fun c hc => by rw [List.mem_singleton.mp hc]; exact Tx.fo_Unwrapper_top) (q_var 0)))
  (q_sone (q_ret (q_var 1)))))
  exact ⟨rd_Unwrapper_copy (fun x _ M' => BackX M.length Ed x M'), gg, m_Unwrapper_copy hsp⟩
theorem ok_l_pen (Tx : Txt K mg) (D_l_pen : Df K mg "_law_pen" "_law_pen" S_l_pen ["_law_script"])  : Gn T P w K mg base 1 D_l_pen.f D_l_pen.fd ["_law_script"] sp_l_pen := by
  refine gn_of D_l_pen.F sc_l_pen len_l_pen ?_
  intro Ss G0 H0 Ab Gb X ls M Kd Ed cdv A outer s H E hX hcdv hr hg tk hp hbl hsp
  subst hX
  have gg : QSs ⟨K, Ss, G0, H0, Ab, Gb, T⟩ (cxOf (L2.CX P w) P w K mg base n_l_pen "_law_pen" (defScope S_l_pen) D_l_pen.f cdv A outer s H E) (defBody S_l_pen) (rd_l_pen (fun x _ M' => BackX M.length Ed x M')) := (q_sone (q_ret (q_lstO (q_cons (q_bt (T := "list") (listL outF_new) call_list_of (by decide +kernel) Tx.z_list (q_cons (q_slice outF_new rfl (q_var 0) q_onone (q_osome q_int)) q_nil)) (q_cons q_int (q_cons q_int q_nil))))))
  exact ⟨rd_l_pen (fun x _ M' => BackX M.length Ed x M'), gg, m_l_pen hsp⟩
theorem ok_l_next (Tx : Txt K mg) (D_l_next : Df K mg "_law_next" "_law_next" S_l_next ["_law_pen_here"])  : Gn T P w K mg base 1 D_l_next.f D_l_next.fd ["_law_pen_here"] sp_l_next := by
  refine gn_of D_l_next.F sc_l_next len_l_next ?_
  intro Ss G0 H0 Ab Gb X ls M Kd Ed cdv A outer s H E hX hcdv hr hg tk hp hbl hsp
  subst hX
  have gg : QSs ⟨K, Ss, G0, H0, Ab, Gb, T⟩ (cxOf (L2.CX P w) P w K mg base n_l_next "_law_next" (defScope S_l_next) D_l_next.f cdv A outer s H E) (defBody S_l_next) (rd_l_next (fun x _ M' => BackX M.length Ed x M')) := (q_scons (q_set 1 sc_l_next.nd (q_ix rfl (q_var 0) q_int))
  (q_scons (q_asg (q_op (addL outF_new) op_addU (q_var 1) q_int) (q_gsub (q_var 0) q_int))
  (q_scons (q_set 2 sc_l_next.nd (q_op (addL outF_new) op_addU (q_op (mulL outF_new) op_mulU (q_var 1) q_int) q_int))
  (q_scons (q_if (q_tcmp neL (op_neU hr) (q_ix rfl (q_var 0) q_int) (q_lst q_nil) rfl) (q_sone (q_set 2 sc_l_next.nd (q_ix rfl (q_ix rfl (q_var 0) q_int) (q_op modL op_mod (q_bt (T := "int") intL call_int1 (by decide +kernel) Tx.z_int (q_cons (q_var 1) q_nil)) (q_bi (id := "len") lenL call_len (by decide +kernel) Tx.z_len (q_cons (q_ix rfl (q_var 0) q_int) q_nil)))))) q_snil)
  (q_scons (q_if (q_wt (q_wand (q_tcmp ltL op_lt (q_var 1) (q_bi (id := "len") lenL call_len (by decide +kernel) Tx.z_len (q_cons (q_ix rfl (q_var 0) q_int) q_nil)) rfl) (q_wand1 (q_tcmp geL op_ge (q_var 2) (cpowL (c := 1000000000000000000)) rfl)))) (q_sone (q_ret (q_var 2))) q_snil)
  (q_scons (q_set 3 sc_l_next.nd (q_op modL op_mod (q_bt (T := "int") intL call_int1 (by decide +kernel) Tx.z_int (q_cons (q_op (addL outF_new) op_addU (q_op (addL outF_new) op_addU (q_op modL op_mod (q_bt (T := "int") intL call_int1 (by decide +kernel) Tx.z_int (q_cons (q_var 2) q_nil)) q_int) (q_op (mulL outF_new) op_mulU (q_var 1) q_int)) q_int) q_nil)) q_int))
  (q_scons (q_set 4 sc_l_next.nd (q_op modL op_mod (q_bt (T := "int") intL call_int1 (by decide +kernel) Tx.z_int (q_cons (q_op (addL outF_new) op_addU (q_op (addL outF_new) op_addU (q_op (mulL outF_new) op_mulU (q_var 3) (q_var 3)) (q_op (mulL outF_new) op_mulU (q_var 1) q_int)) q_int) q_nil)) q_int))
  (q_scons (q_set 5 sc_l_next.nd (q_op modL op_mod (q_bt (T := "int") intL call_int1 (by decide +kernel) Tx.z_int (q_cons (q_op (addL outF_new) op_addU (q_op (addL outF_new) op_addU (q_op (mulL outF_new) op_mulU (q_var 4) (q_var 4)) (q_var 3)) (q_op (mulL outF_new) op_mulU (q_op (mulL outF_new) op_mulU (q_var 1) (q_var 1)) q_int)) q_nil)) q_int))
  (q_sone (q_ret (q_op (addL outF_new) op_addU (q_op (mulL outF_new) op_mulU (q_op (addL outF_new) op_addU (q_op (mulL outF_new) op_mulU (q_var 5) q_int) (q_var 4)) q_int) (q_var 3))))))))))))
  exact ⟨rd_l_next (fun x _ M' => BackX M.length Ed x M'), gg, m_l_next hsp⟩
theorem ok_l_draw (Tx : Txt K mg) (D_l_draw : Df K mg "_law_draw" "_law_draw" S_l_draw ["_law_pen_here", "_law_under"]) (D_l_next : Df K mg "_law_next" "_law_next" S_l_next ["_law_pen_here"]) (F_l_next : Gn T P w K mg base 1 D_l_next.f D_l_next.fd ["_law_pen_here"] sp_l_next) : Gn T P w K mg base 2 D_l_draw.f D_l_draw.fd ["_law_pen_here", "_law_under"] sp_l_draw := by
  refine gn_of D_l_draw.F sc_l_draw len_l_draw ?_
  intro Ss G0 H0 Ab Gb X ls M Kd Ed cdv A outer s H E hX hcdv hr hg tk hp hbl hsp
  subst hX
  have gg : QSs ⟨K, Ss, G0, H0, Ab, Gb, T⟩ (cxOf (L2.CX P w) P w K mg base n_l_draw "_law_draw" (defScope S_l_draw) D_l_draw.f cdv A outer s H E) (defBody S_l_draw) (rd_l_draw (fun x _ M' => BackX M.length Ed x M')) := (q_scons (q_if (q_tcmp ltL op_lt (q_ix rfl (q_var 0) q_int) (q_var 1) rfl) (q_sone (q_asg (q_callP F_l_next D_l_next.m D_l_next.b D_l_next.F.kp (hr.mono (by decide)) hg rfl (q_cons (q_var 0) q_nil)) (q_gsub (q_var 0) q_int))) q_snil)
  (q_scons (q_set 2 sc_l_draw.nd (q_op modL op_mod (q_bt (T := "int") intL call_int1 (by decide +kernel) Tx.z_int (q_cons (q_ix rfl (q_var 0) q_int) q_nil)) (q_var 1)))
  (q_scons (q_asg (q_op divL op_fdivW (q_ix rfl (q_var 0) q_int) (q_var 1)) (q_gsub (q_var 0) q_int))
  (q_sone (q_ret (q_var 2))))))
  exact ⟨rd_l_draw (fun x _ M' => BackX M.length Ed x M'), gg, m_l_draw hsp⟩
theorem ok_l_found (Tx : Txt K mg) (D_l_found : Df K mg "_law_found" "_law_found" S_l_found ["_law_modulus", "_law_top", "_law_rest"])  : Gn T P w K mg base 1 D_l_found.f D_l_found.fd ["_law_modulus", "_law_top", "_law_rest"] sp_l_found := by
  refine gn_of D_l_found.F sc_l_found len_l_found ?_
  intro Ss G0 H0 Ab Gb X ls M Kd Ed cdv A outer s H E hX hcdv hr hg tk hp hbl hsp
  subst hX
  have gg : QSs ⟨K, Ss, G0, H0, Ab, Gb, T⟩ (cxOf (L2.CX P w) P w K mg base n_l_found "_law_found" (defScope S_l_found) D_l_found.f cdv A outer s H E) (defBody S_l_found) (rd_l_found (fun x _ M' => BackX M.length Ed x M')) := (q_scons (q_set 3 sc_l_found.nd (q_op subL op_sub (q_var 1) (q_op divL op_fdivW (q_var 0) q_int)))
  (q_sone (q_ret (q_op (addL outF_new) op_addU (q_var 3) (q_op modL op_mod (q_bt (T := "int") intL call_int1 (by decide +kernel) Tx.z_int (q_cons (q_op subL op_sub (q_var 2) (q_var 3)) q_nil)) (q_var 0))))))
  exact ⟨rd_l_found (fun x _ M' => BackX M.length Ed x M'), gg, m_l_found hsp⟩
theorem ok_l_follows (Tx : Txt K mg) (D_l_follows : Df K mg "_law_follows" "_law_follows" S_l_follows ["_law_pen_here", "_law_state"]) (D_l_draw : Df K mg "_law_draw" "_law_draw" S_l_draw ["_law_pen_here", "_law_under"]) (F_l_draw : Gn T P w K mg base 2 D_l_draw.f D_l_draw.fd ["_law_pen_here", "_law_under"] sp_l_draw) (D_l_found : Df K mg "_law_found" "_law_found" S_l_found ["_law_modulus", "_law_top", "_law_rest"]) (F_l_found : Gn T P w K mg base 1 D_l_found.f D_l_found.fd ["_law_modulus", "_law_top", "_law_rest"] sp_l_found) (D_Unwrapper_follow : Dm K "Unwrapper" "follow" "Unwrapper.follow" S_Unwrapper_follow ["self", "shown"]) (F_Unwrapper_follow : Gn T P w K mg base 3 D_Unwrapper_follow.f D_Unwrapper_follow.fd ["self", "shown"] sp_Unwrapper_follow) : Gn T P w K mg base 4 D_l_follows.f D_l_follows.fd ["_law_pen_here", "_law_state"] sp_l_follows := by
  refine gn_of D_l_follows.F sc_l_follows len_l_follows ?_
  intro Ss G0 H0 Ab Gb X ls M Kd Ed cdv A outer s H E hX hcdv hr hg tk hp hbl hsp
  subst hX
  have gg : QSs ⟨K, Ss, G0, H0, Ab, Gb, T⟩ (cxOf (L2.CX P w) P w K mg base n_l_follows "_law_follows" (defScope S_l_follows) D_l_follows.f cdv A outer s H E) (defBody S_l_follows) (rd_l_follows (fun x _ M' => BackX M.length Ed x M')) := (q_scons (q_par 2 3 rfl sc_l_follows.nd (q_cons (q_ix rfl (q_var 1) q_int) (q_cons (q_op subL op_sub (q_op (addL outF_new) op_addU (q_ix rfl (q_var 1) q_int) (q_callP F_l_draw D_l_draw.m D_l_draw.b D_l_draw.F.kp (hr.mono (by decide)) hg rfl (q_cons (q_var 0) (q_cons q_int q_nil)))) q_int) q_nil)))
  (q_scons (q_set 4 sc_l_follows.nd (q_lst (q_cons (q_op (addL outF_new) op_addU (q_var 3) (q_op divL op_fdivW (q_var 2) q_int)) (q_cons (q_op subL op_sub (q_op (addL outF_new) op_addU (q_var 3) (q_op divL op_fdivW (q_var 2) q_int)) q_int) (q_cons (q_op subL op_sub (q_var 3) (q_op divL op_fdivW (q_var 2) q_int)) (q_cons (q_callP F_l_draw D_l_draw.m D_l_draw.b D_l_draw.F.kp (hr.mono (by decide)) hg rfl (q_cons (q_var 0) (q_cons (q_var 2) q_nil))) (q_cons (q_var 3) (q_cons (q_var 3) q_nil))))))))
  (q_scons (q_set 5 sc_l_follows.nd (q_op modL op_mod (q_bt (T := "int") intL call_int1 (by decide +kernel) Tx.z_int (q_cons (q_ix rfl (q_var 4) (q_callP F_l_draw D_l_draw.m D_l_draw.b D_l_draw.F.kp (hr.mono (by decide)) hg rfl (q_cons (q_var 0) (q_cons q_int q_nil)))) q_nil)) (q_var 2)))
  (q_scons (q_set 6 sc_l_follows.nd (q_callD F_l_found D_l_found.m D_l_found.b D_l_found.F.kp (hr.mono (by decide)) hg rfl tk (q_cons (q_var 2) (q_cons (q_ix rfl (q_var 1) q_int) (q_cons (q_var 5) q_nil)))))
  (q_scons (q_asg (q_bi (id := "max") maxL (cr_maxU rfl) (by decide +kernel) Tx.z_max (q_cons (q_ix rfl (q_var 1) q_int) (q_cons (q_var 6) q_nil))) (q_gsub (q_var 1) q_int))
  (q_sone (q_ret (q_cmp eqL (op_eqU hr) (q_bi (id := "repr") reprRL (call_reprR hg (room70 hr)) (by decide +kernel) Tx.z_repr (q_cons (q_U (ca_meth rfl D_Unwrapper_follow.m (q_ix rfl (q_var 1) q_int) (q_cons (q_var 5) q_nil)) F_Unwrapper_follow D_Unwrapper_follow.b (hr.mono (by decide)) hg rfl tk) q_nil)) (q_bi (id := "repr") reprRL (call_reprR hg (room70 hr)) (by decide +kernel) Tx.z_repr (q_cons (q_var 6) q_nil)) rfl))))))))
  exact ⟨rd_l_follows (fun x _ M' => BackX M.length Ed x M'), gg, m_l_follows hsp⟩
theorem ok_law (Tx : Txt K mg) (D_law : Df K mg "law" "law" S_law ["_law_script"]) (D_l_pen : Df K mg "_law_pen" "_law_pen" S_l_pen ["_law_script"]) (F_l_pen : Gn T P w K mg base 1 D_l_pen.f D_l_pen.fd ["_law_script"] sp_l_pen) (D_l_draw : Df K mg "_law_draw" "_law_draw" S_l_draw ["_law_pen_here", "_law_under"]) (F_l_draw : Gn T P w K mg base 2 D_l_draw.f D_l_draw.fd ["_law_pen_here", "_law_under"] sp_l_draw) (D_Unwrapper_init : Dn K mg "Unwrapper" "Unwrapper.__init__" S_Unwrapper_init ["self", "modulus"]) (F_Unwrapper_init : Gn T P w K mg base 3 D_Unwrapper_init.f D_Unwrapper_init.fd ["self", "modulus"] sp_Unwrapper_init) (D_Unwrapper_greatest : Dp K "Unwrapper" "greatest" "Unwrapper.greatest" S_Unwrapper_greatest ["self"]) (F_Unwrapper_greatest : Gn T P w K mg base 1 D_Unwrapper_greatest.f D_Unwrapper_greatest.fd ["self"] sp_Unwrapper_greatest) (D_l_follows : Df K mg "_law_follows" "_law_follows" S_l_follows ["_law_pen_here", "_law_state"]) (F_l_follows : Gn T P w K mg base 4 D_l_follows.f D_l_follows.fd ["_law_pen_here", "_law_state"] sp_l_follows) (D_Unwrapper_copy : Dm K "Unwrapper" "copy" "Unwrapper.copy" S_Unwrapper_copy ["self"]) (F_Unwrapper_copy : Gn T P w K mg base 5 D_Unwrapper_copy.f D_Unwrapper_copy.fd ["self"] sp_Unwrapper_copy) (D_Unwrapper_follow : Dm K "Unwrapper" "follow" "Unwrapper.follow" S_Unwrapper_follow ["self", "shown"]) (F_Unwrapper_follow : Gn T P w K mg base 3 D_Unwrapper_follow.f D_Unwrapper_follow.fd ["self", "shown"] sp_Unwrapper_follow) : Gn T P w K mg base 6 D_law.f D_law.fd ["_law_script"] sp_law := by
  refine gn_of D_law.F sc_law len_law ?_
  intro Ss G0 H0 Ab Gb X ls M Kd Ed cdv A outer s H E hX hcdv hr hg tk hp hbl hsp
  subst hX
  have hb0 := ml_law hsp
  have hb1 : (Fc.mk K Ss G0 H0 Ab Gb T).S.length ≤ _ := Nat.le_trans hbl.1 hb0
  have hb2 : (Fc.mk K Ss G0 H0 Ab Gb T).Ab.length ≤ _ := Nat.le_trans hbl.2 hb0
  have gg : QSs ⟨K, Ss, G0, H0, Ab, Gb, T⟩ (cxOf (L2.CX P w) P w K mg base n_law "law" (defScope S_law) D_law.f cdv A outer s H E) (defBody S_law) (rd_law (fun x _ M' => BackX M.length Ed x M')) := (q_scons (q_set 1 sc_law.nd (q_callD F_l_pen D_l_pen.m D_l_pen.b D_l_pen.F.kp (hr.mono (by decide)) hg rfl tk (q_cons (q_var 0) q_nil)))
  (q_scons (q_for hp rfl (q_iran1 Tx.z_range (q_cons q_int q_nil)) (q_name 2 sc_law.nd) (q_cutB (n := 1) (vs := [2, 3, 4, 5, 6, 7, 8]) (Nat.le_trans hb1 (by decide)) (Nat.le_trans hb2 (by decide)) (q_scons (q_setLcB (own := [("_law_k", 4)]) outF_ok 3 rfl sc_law.nd (sw_true rfl rfl rfl (by decide +kernel)) (blkOk_by (N := n_law) (sc := (defScope S_law)) (own := [("_law_k", 4)]) (by decide +kernel)) (by decide) (q_iran1 Tx.z_range (q_cons q_int q_nil)) (fun _ _ _ _ _ => (q_name 4 sc_law.nd)) (fun _ _ _ _ _ => q_tnil) (fun _ _ _ _ _ => (q_ix rfl (q_lst (q_cons q_int (q_cons q_int (q_cons q_int (q_cons q_int (q_cons q_int (q_cons q_int (q_cons (q_op (addL outF_new) op_addU q_int (q_callP F_l_draw D_l_draw.m D_l_draw.b D_l_draw.F.kp (hr.mono (by decide)) hg rfl (q_cons (q_var 1) (q_cons q_int q_nil)))) q_nil)))))))) (q_callP F_l_draw D_l_draw.m D_l_draw.b D_l_draw.F.kp (hr.mono (by decide)) hg rfl (q_cons (q_var 1) (q_cons q_int q_nil))))))
  (q_scons (q_setLcU (own := [("_law_one", 6)]) 5 rfl sc_law.nd (sw_true rfl rfl rfl (by decide +kernel)) (blkOk_by (N := n_law) (sc := (defScope S_law)) (own := [("_law_one", 6)]) (by decide +kernel)) (by decide) (q_iof (q_ilist rfl (q_var 3))) (fun _ _ _ _ _ => (q_name 6 sc_law.nd)) (fun _ _ _ _ _ => q_tnil) (fun _ _ _ _ _ => (q_lstM (q_cons (q_make D_Unwrapper_init.g D_Unwrapper_init.m F_Unwrapper_init D_Unwrapper_init.b (hr.mono (by decide)) hg rfl tkF (q_cons (q_var 6) q_nil)) (q_cons (q_un negL un_neg q_int) (q_cons (q_var 6) q_nil))))))
  (q_scons (q_base (fun Ab Gb => (q_if (q_tcmp neL (op_neU hr) (q_fz (q_lcU (own := [("_law_one", 6)]) rfl sc_law.nd (blkOk_by (N := n_law) (sc := (defScope S_law)) (own := [("_law_one", 6)]) (by decide +kernel)) (by decide) (q_iownU rfl (q_var 5)) (fun _ _ _ _ _ => (q_name 6 sc_law.nd)) (fun _ _ _ _ _ => q_tnil) (fun _ _ _ _ _ => (q_prop rfl D_Unwrapper_greatest.c D_Unwrapper_greatest.m F_Unwrapper_greatest D_Unwrapper_greatest.b (hr.mono (by decide)) hg (q_ix rfl (q_var 6) q_int))))) (q_lst (q_cons (q_un negL un_neg q_int) (q_cons (q_un negL un_neg q_int) q_nil))) rfl) (q_sone (q_ret q_bl)) q_snil)))
  (q_sone (q_for hp rfl (q_iran1 Tx.z_range (q_cons q_int q_nil)) (q_name 7 sc_law.nd) (q_scons (q_set 8 sc_law.nd (q_ix rfl (q_var 5) (q_callP F_l_draw D_l_draw.m D_l_draw.b D_l_draw.F.kp (hr.mono (by decide)) hg rfl (q_cons (q_var 1) (q_cons (q_bi (id := "len") lenL call_len (by decide +kernel) Tx.z_len (q_cons (q_var 5) q_nil)) q_nil)))))
  (q_scons (q_if (q_not (q_tv (q_U (ca_name D_l_follows.m D_l_follows.F.kp (q_cons (q_var 1) (q_cons (q_var 8) q_nil))) F_l_follows D_l_follows.b (hr.mono (by decide)) hg rfl tk))) (q_sone (q_ret q_bl)) q_snil)
  (q_scons (q_if (q_tcmp (inL (neg := false)) op_in_seq (q_var 7) (q_tup (q_cons q_int (q_cons q_int q_nil))) rfl) (q_sone (q_expr (q_me (T := "list") appendL rfl PySem.F.plainAttrs_list PySem.F.slot_list_append PySem.F.type_list_append mt_append (q_var 5) (q_cons (q_lstM (q_cons (q_U (ca_meth0 rfl D_Unwrapper_copy.m (q_ix rfl (q_var 8) q_int)) F_Unwrapper_copy D_Unwrapper_copy.b (hr.mono (by decide)) hg rfl tk) (q_cons (q_ix rfl (q_var 8) q_int) (q_cons (q_ix rfl (q_var 8) q_int) q_nil)))) q_nil)))) q_snil)
  (q_sone (q_base (fun Ab Gb => (q_if (q_tcmp neL (op_neU hr) (q_fz (q_lcU (own := [("_law_one", 6)]) rfl sc_law.nd (blkOk_by (N := n_law) (sc := (defScope S_law)) (own := [("_law_one", 6)]) (by decide +kernel)) (by decide) (q_iownU rfl (q_var 5)) (fun _ _ _ _ _ => (q_name 6 sc_law.nd)) (fun _ _ _ _ _ => q_tnil) (fun _ _ _ _ _ => (q_prop rfl D_Unwrapper_greatest.c D_Unwrapper_greatest.m F_Unwrapper_greatest D_Unwrapper_greatest.b (hr.mono (by decide)) hg (q_ix rfl (q_var 6) q_int))))) (q_fz (q_lcU (own := [("_law_one", 6)]) rfl sc_law.nd (blkOk_by (N := n_law) (sc := (defScope S_law)) (own := [("_law_one", 6)]) (by decide +kernel)) (by decide) (q_iownU rfl (q_var 5)) (fun _ _ _ _ _ => (q_name 6 sc_law.nd)) (fun _ _ _ _ _ => q_tnil) (fun _ _ _ _ _ => (q_ix rfl (q_var 6) q_int)))) rfl) (q_sone (q_ret q_bl)) q_snil))))))))))))))
  (q_sone (q_ret (q_cmp eqL (op_eqU hr) (q_U (ca_meth rfl D_Unwrapper_follow.m (q_make D_Unwrapper_init.g D_Unwrapper_init.m F_Unwrapper_init D_Unwrapper_init.b (hr.mono (by decide)) hg rfl tk (q_cons q_int q_nil)) (q_cons q_int q_nil)) F_Unwrapper_follow D_Unwrapper_follow.b (hr.mono (by decide)) hg rfl tk) (q_un negL un_neg q_int) rfl)))))
  exact ⟨rd_law (fun x _ M' => BackX M.length Ed x M'), gg, m_law hsp⟩
end
theorem all_mk {l : PySem.W.OpenLaw} {w : World} {K : PySem.W.Frag} {h : Heap} {mg : Str → Option Value} {fa : Addr} {f_is_integer f_check_modulus f_Unwrapper_init f_Unwrapper_greatest f_check_remainder f_nearest f_Unwrapper_follow f_Unwrapper_copy f_l_pen f_l_next f_l_draw f_l_found f_l_follows f_law : Addr} (X : K.In h) (G : h.Ns mainGlobals mg) (hfa : mg "law" = some (.ref fa))
    {oc_is_integer : Value} {od_is_integer an_is_integer : Option Addr} {sl_is_integer : Array (Option Value)} {kV_is_integer dc_is_integer pm_is_integer cd_is_integer ct_is_integer : Value}
    {oc_check_modulus : Value} {od_check_modulus an_check_modulus : Option Addr} {sl_check_modulus : Array (Option Value)} {kV_check_modulus dc_check_modulus pm_check_modulus cd_check_modulus ct_check_modulus : Value}
    {oc_Unwrapper_init : Value} {od_Unwrapper_init an_Unwrapper_init : Option Addr} {sl_Unwrapper_init : Array (Option Value)} {kV_Unwrapper_init dc_Unwrapper_init pm_Unwrapper_init cd_Unwrapper_init ct_Unwrapper_init : Value}
    {C_Unwrapper : Addr}
    {oc_Unwrapper_greatest : Value} {od_Unwrapper_greatest an_Unwrapper_greatest : Option Addr} {sl_Unwrapper_greatest : Array (Option Value)} {kV_Unwrapper_greatest dc_Unwrapper_greatest pm_Unwrapper_greatest cd_Unwrapper_greatest ct_Unwrapper_greatest : Value}
    {p_Unwrapper_greatest : Addr} {rs_Unwrapper_greatest : List Value}
    {oc_check_remainder : Value} {od_check_remainder an_check_remainder : Option Addr} {sl_check_remainder : Array (Option Value)} {kV_check_remainder dc_check_remainder pm_check_remainder cd_check_remainder ct_check_remainder : Value}
    {oc_nearest : Value} {od_nearest an_nearest : Option Addr} {sl_nearest : Array (Option Value)} {kV_nearest dc_nearest pm_nearest cd_nearest ct_nearest : Value}
    {oc_Unwrapper_follow : Value} {od_Unwrapper_follow an_Unwrapper_follow : Option Addr} {sl_Unwrapper_follow : Array (Option Value)} {kV_Unwrapper_follow dc_Unwrapper_follow pm_Unwrapper_follow cd_Unwrapper_follow ct_Unwrapper_follow : Value}
    {oc_Unwrapper_copy : Value} {od_Unwrapper_copy an_Unwrapper_copy : Option Addr} {sl_Unwrapper_copy : Array (Option Value)} {kV_Unwrapper_copy dc_Unwrapper_copy pm_Unwrapper_copy cd_Unwrapper_copy ct_Unwrapper_copy : Value}
    {oc_l_pen : Value} {od_l_pen an_l_pen : Option Addr} {sl_l_pen : Array (Option Value)} {kV_l_pen dc_l_pen pm_l_pen cd_l_pen ct_l_pen : Value}
    {oc_l_next : Value} {od_l_next an_l_next : Option Addr} {sl_l_next : Array (Option Value)} {kV_l_next dc_l_next pm_l_next cd_l_next ct_l_next : Value}
    {oc_l_draw : Value} {od_l_draw an_l_draw : Option Addr} {sl_l_draw : Array (Option Value)} {kV_l_draw dc_l_draw pm_l_draw cd_l_draw ct_l_draw : Value}
    {oc_l_found : Value} {od_l_found an_l_found : Option Addr} {sl_l_found : Array (Option Value)} {kV_l_found dc_l_found pm_l_found cd_l_found ct_l_found : Value}
    {oc_l_follows : Value} {od_l_follows an_l_follows : Option Addr} {sl_l_follows : Array (Option Value)} {kV_l_follows dc_l_follows pm_l_follows cd_l_follows ct_l_follows : Value}
    {oc_law : Value} {od_law an_law : Option Addr} {sl_law : Array (Option Value)} {kV_law dc_law pm_law cd_law ct_law : Value} {t_MAX_MODULUS t_MIN_MODULUS : Tok}
    (a_is_integer : PySem.W.nsIn K mainGlobals "is_integer" = some (some (.ref f_is_integer)))
    (l_is_integer : K.lookup f_is_integer = some ⟨oc_is_integer, od_is_integer, .func (PySem.W.fnOf "is_integer" "is_integer" (defArgs S_is_integer) (defBody S_is_integer) (defScope S_is_integer) .none kV_is_integer dc_is_integer pm_is_integer an_is_integer cd_is_integer ct_is_integer), sl_is_integer⟩)
    (c_is_integer : PySem.W.codeIn K cd_is_integer "is_integer" = true)
    (k_is_integer : PySem.W.keepIn K (.ref f_is_integer) = true)
    (a_check_modulus : PySem.W.nsIn K mainGlobals "check_modulus" = some (some (.ref f_check_modulus)))
    (l_check_modulus : K.lookup f_check_modulus = some ⟨oc_check_modulus, od_check_modulus, .func (PySem.W.fnOf "check_modulus" "check_modulus" (defArgs S_check_modulus) (defBody S_check_modulus) (defScope S_check_modulus) .none kV_check_modulus dc_check_modulus pm_check_modulus an_check_modulus cd_check_modulus ct_check_modulus), sl_check_modulus⟩)
    (c_check_modulus : PySem.W.codeIn K cd_check_modulus "check_modulus" = true)
    (k_check_modulus : PySem.W.keepIn K (.ref f_check_modulus) = true)
    (nx_Unwrapper : PySem.W.nsIn K mainGlobals "Unwrapper" = some (some (.ref C_Unwrapper)))
    (cpg_Unwrapper : PySem.W.plainGet K C_Unwrapper Str.empty = true)
    (chd_Unwrapper : PySem.W.hasDictIn K C_Unwrapper = true)
    (cpo_Unwrapper : PySem.W.plainOver K C_Unwrapper = true)
    (csa_Unwrapper : PySem.W.findIn K (.ref C_Unwrapper) "__setattr__" = some (some (.builtin "object.__setattr__")))
    (cf_Unwrapper_modulus : PySem.W.findIn K (.ref C_Unwrapper) "modulus" = some none)
    (cf_Unwrapper_top : PySem.W.findIn K (.ref C_Unwrapper) "top" = some none)
    (a_Unwrapper_init : PySem.W.findIn K (.ref C_Unwrapper) "__init__" = some (some (.ref f_Unwrapper_init)))
    (i_Unwrapper_init : PySem.W.isFn K (.ref f_Unwrapper_init) = true)
    (mk_Unwrapper : PySem.W.makesIn K C_Unwrapper = true)
    (kc_Unwrapper : PySem.W.keepIn K (.ref C_Unwrapper) = true)
    (l_Unwrapper_init : K.lookup f_Unwrapper_init = some ⟨oc_Unwrapper_init, od_Unwrapper_init, .func (PySem.W.fnOf "__init__" "Unwrapper.__init__" (defArgs S_Unwrapper_init) (defBody S_Unwrapper_init) (defScope S_Unwrapper_init) .none kV_Unwrapper_init dc_Unwrapper_init pm_Unwrapper_init an_Unwrapper_init cd_Unwrapper_init ct_Unwrapper_init), sl_Unwrapper_init⟩)
    (c_Unwrapper_init : PySem.W.codeIn K cd_Unwrapper_init "Unwrapper.__init__" = true)
    (k_Unwrapper_init : PySem.W.keepIn K (.ref f_Unwrapper_init) = true)
    (a_Unwrapper_greatest : PySem.W.findIn K (.ref C_Unwrapper) "greatest" = some (some (.ref p_Unwrapper_greatest)))
    (pr_Unwrapper_greatest : PySem.W.recIn K p_Unwrapper_greatest "property" = some (.ref f_Unwrapper_greatest :: rs_Unwrapper_greatest))
    (pg_Unwrapper_greatest : PySem.W.specialIn K (.ref p_Unwrapper_greatest) "__get__" = some (some (.builtin "property.__get__")))
    (pt_Unwrapper_greatest : PySem.W.takesIn K (.ref p_Unwrapper_greatest) = some true)
    (l_Unwrapper_greatest : K.lookup f_Unwrapper_greatest = some ⟨oc_Unwrapper_greatest, od_Unwrapper_greatest, .func (PySem.W.fnOf "greatest" "Unwrapper.greatest" (defArgs S_Unwrapper_greatest) (defBody S_Unwrapper_greatest) (defScope S_Unwrapper_greatest) .none kV_Unwrapper_greatest dc_Unwrapper_greatest pm_Unwrapper_greatest an_Unwrapper_greatest cd_Unwrapper_greatest ct_Unwrapper_greatest), sl_Unwrapper_greatest⟩)
    (c_Unwrapper_greatest : PySem.W.codeIn K cd_Unwrapper_greatest "Unwrapper.greatest" = true)
    (k_Unwrapper_greatest : PySem.W.keepIn K (.ref f_Unwrapper_greatest) = true)
    (a_check_remainder : PySem.W.nsIn K mainGlobals "check_remainder" = some (some (.ref f_check_remainder)))
    (l_check_remainder : K.lookup f_check_remainder = some ⟨oc_check_remainder, od_check_remainder, .func (PySem.W.fnOf "check_remainder" "check_remainder" (defArgs S_check_remainder) (defBody S_check_remainder) (defScope S_check_remainder) .none kV_check_remainder dc_check_remainder pm_check_remainder an_check_remainder cd_check_remainder ct_check_remainder), sl_check_remainder⟩)
    (c_check_remainder : PySem.W.codeIn K cd_check_remainder "check_remainder" = true)
    (k_check_remainder : PySem.W.keepIn K (.ref f_check_remainder) = true)
    (a_nearest : PySem.W.nsIn K mainGlobals "nearest" = some (some (.ref f_nearest)))
    (l_nearest : K.lookup f_nearest = some ⟨oc_nearest, od_nearest, .func (PySem.W.fnOf "nearest" "nearest" (defArgs S_nearest) (defBody S_nearest) (defScope S_nearest) .none kV_nearest dc_nearest pm_nearest an_nearest cd_nearest ct_nearest), sl_nearest⟩)
    (c_nearest : PySem.W.codeIn K cd_nearest "nearest" = true)
    (k_nearest : PySem.W.keepIn K (.ref f_nearest) = true)
    (a_Unwrapper_follow : PySem.W.findIn K (.ref C_Unwrapper) "follow" = some (some (.ref f_Unwrapper_follow)))
    (i_Unwrapper_follow : PySem.W.isFn K (.ref f_Unwrapper_follow) = true)
    (l_Unwrapper_follow : K.lookup f_Unwrapper_follow = some ⟨oc_Unwrapper_follow, od_Unwrapper_follow, .func (PySem.W.fnOf "follow" "Unwrapper.follow" (defArgs S_Unwrapper_follow) (defBody S_Unwrapper_follow) (defScope S_Unwrapper_follow) .none kV_Unwrapper_follow dc_Unwrapper_follow pm_Unwrapper_follow an_Unwrapper_follow cd_Unwrapper_follow ct_Unwrapper_follow), sl_Unwrapper_follow⟩)
    (c_Unwrapper_follow : PySem.W.codeIn K cd_Unwrapper_follow "Unwrapper.follow" = true)
    (k_Unwrapper_follow : PySem.W.keepIn K (.ref f_Unwrapper_follow) = true)
    (a_Unwrapper_copy : PySem.W.findIn K (.ref C_Unwrapper) "copy" = some (some (.ref f_Unwrapper_copy)))
    (i_Unwrapper_copy : PySem.W.isFn K (.ref f_Unwrapper_copy) = true)
    (l_Unwrapper_copy : K.lookup f_Unwrapper_copy = some ⟨oc_Unwrapper_copy, od_Unwrapper_copy, .func (PySem.W.fnOf "copy" "Unwrapper.copy" (defArgs S_Unwrapper_copy) (defBody S_Unwrapper_copy) (defScope S_Unwrapper_copy) .none kV_Unwrapper_copy dc_Unwrapper_copy pm_Unwrapper_copy an_Unwrapper_copy cd_Unwrapper_copy ct_Unwrapper_copy), sl_Unwrapper_copy⟩)
    (c_Unwrapper_copy : PySem.W.codeIn K cd_Unwrapper_copy "Unwrapper.copy" = true)
    (k_Unwrapper_copy : PySem.W.keepIn K (.ref f_Unwrapper_copy) = true)
    (a_l_pen : PySem.W.nsIn K mainGlobals "_law_pen" = some (some (.ref f_l_pen)))
    (l_l_pen : K.lookup f_l_pen = some ⟨oc_l_pen, od_l_pen, .func (PySem.W.fnOf "_law_pen" "_law_pen" (defArgs S_l_pen) (defBody S_l_pen) (defScope S_l_pen) .none kV_l_pen dc_l_pen pm_l_pen an_l_pen cd_l_pen ct_l_pen), sl_l_pen⟩)
    (c_l_pen : PySem.W.codeIn K cd_l_pen "_law_pen" = true)
    (k_l_pen : PySem.W.keepIn K (.ref f_l_pen) = true)
    (a_l_next : PySem.W.nsIn K mainGlobals "_law_next" = some (some (.ref f_l_next)))
    (l_l_next : K.lookup f_l_next = some ⟨oc_l_next, od_l_next, .func (PySem.W.fnOf "_law_next" "_law_next" (defArgs S_l_next) (defBody S_l_next) (defScope S_l_next) .none kV_l_next dc_l_next pm_l_next an_l_next cd_l_next ct_l_next), sl_l_next⟩)
    (c_l_next : PySem.W.codeIn K cd_l_next "_law_next" = true)
    (k_l_next : PySem.W.keepIn K (.ref f_l_next) = true)
    (a_l_draw : PySem.W.nsIn K mainGlobals "_law_draw" = some (some (.ref f_l_draw)))
    (l_l_draw : K.lookup f_l_draw = some ⟨oc_l_draw, od_l_draw, .func (PySem.W.fnOf "_law_draw" "_law_draw" (defArgs S_l_draw) (defBody S_l_draw) (defScope S_l_draw) .none kV_l_draw dc_l_draw pm_l_draw an_l_draw cd_l_draw ct_l_draw), sl_l_draw⟩)
    (c_l_draw : PySem.W.codeIn K cd_l_draw "_law_draw" = true)
    (k_l_draw : PySem.W.keepIn K (.ref f_l_draw) = true)
    (a_l_found : PySem.W.nsIn K mainGlobals "_law_found" = some (some (.ref f_l_found)))
    (l_l_found : K.lookup f_l_found = some ⟨oc_l_found, od_l_found, .func (PySem.W.fnOf "_law_found" "_law_found" (defArgs S_l_found) (defBody S_l_found) (defScope S_l_found) .none kV_l_found dc_l_found pm_l_found an_l_found cd_l_found ct_l_found), sl_l_found⟩)
    (c_l_found : PySem.W.codeIn K cd_l_found "_law_found" = true)
    (k_l_found : PySem.W.keepIn K (.ref f_l_found) = true)
    (a_l_follows : PySem.W.nsIn K mainGlobals "_law_follows" = some (some (.ref f_l_follows)))
    (l_l_follows : K.lookup f_l_follows = some ⟨oc_l_follows, od_l_follows, .func (PySem.W.fnOf "_law_follows" "_law_follows" (defArgs S_l_follows) (defBody S_l_follows) (defScope S_l_follows) .none kV_l_follows dc_l_follows pm_l_follows an_l_follows cd_l_follows ct_l_follows), sl_l_follows⟩)
    (c_l_follows : PySem.W.codeIn K cd_l_follows "_law_follows" = true)
    (k_l_follows : PySem.W.keepIn K (.ref f_l_follows) = true)
    (a_law : PySem.W.nsIn K mainGlobals "law" = some (some (.ref f_law)))
    (l_law : K.lookup f_law = some ⟨oc_law, od_law, .func (PySem.W.fnOf "law" "law" (defArgs S_law) (defBody S_law) (defScope S_law) .none kV_law dc_law pm_law an_law cd_law ct_law), sl_law⟩)
    (c_law : PySem.W.codeIn K cd_law "law" = true)
    (k_law : PySem.W.keepIn K (.ref f_law) = true)
    (z_bool : PySem.W.nsIn K mainGlobals "bool" = some none)
    (z_int : PySem.W.nsIn K mainGlobals "int" = some none)
    (z_isinstance : PySem.W.nsIn K mainGlobals "isinstance" = some none)
    (z_len : PySem.W.nsIn K mainGlobals "len" = some none)
    (z_list : PySem.W.nsIn K mainGlobals "list" = some none)
    (z_max : PySem.W.nsIn K mainGlobals "max" = some none)
    (z_range : PySem.W.nsIn K mainGlobals "range" = some none)
    (z_repr : PySem.W.nsIn K mainGlobals "repr" = some none)
    (g_MAX_MODULUS : PySem.W.nsIn K mainGlobals "MAX_MODULUS" = some (some (.int 65536 t_MAX_MODULUS)))
    (g_MIN_MODULUS : PySem.W.nsIn K mainGlobals "MIN_MODULUS" = some (some (.int 4 t_MIN_MODULUS)))
    : ∃ fd : FuncData, (∀ (s : Shared) (u : Value), BindsTo s fd ⟨[u], []⟩ [("_law_script", u)]) ∧ ∀ base : Heap, K.In base → base.Ns mainGlobals mg → Gn (fun _ => none) l.prog w K mg base 6 fa fd ["_law_script"] sp_law := by
  have e := hfa.symm.trans (PySem.W.mg_of X G a_law)
  cases e
  have Cls_Unwrapper := cls_mk nx_Unwrapper cpg_Unwrapper chd_Unwrapper cpo_Unwrapper csa_Unwrapper
  have Tx : Txt K mg := ⟨PySem.W.mg_none_of X G z_bool, PySem.W.mg_none_of X G z_int, PySem.W.mg_none_of X G z_isinstance, PySem.W.mg_none_of X G z_len, PySem.W.mg_none_of X G z_list, PySem.W.mg_none_of X G z_max, PySem.W.mg_none_of X G z_range, PySem.W.mg_none_of X G z_repr, _, PySem.W.mg_of X G g_MAX_MODULUS, _, PySem.W.mg_of X G g_MIN_MODULUS, fld_mk Cls_Unwrapper nx_Unwrapper cf_Unwrapper_modulus, fld_mk Cls_Unwrapper nx_Unwrapper cf_Unwrapper_top⟩
  let D_is_integer : Df K mg "is_integer" "is_integer" S_is_integer ["thing"] := ⟨f_is_integer, PySem.W.fnOf "is_integer" "is_integer" (defArgs S_is_integer) (defBody S_is_integer) (defScope S_is_integer) .none kV_is_integer dc_is_integer pm_is_integer an_is_integer cd_is_integer ct_is_integer, fun_mk (st := S_is_integer) l_is_integer c_is_integer k_is_integer, PySem.W.mg_of X G a_is_integer, (fun_mk (st := S_is_integer) l_is_integer c_is_integer k_is_integer).binds (ps := ["thing"]) fun _ _ _ _ _ _ us hl => match us, hl with | [_], _ => rfl⟩
  let D_check_modulus : Df K mg "check_modulus" "check_modulus" S_check_modulus ["modulus"] := ⟨f_check_modulus, PySem.W.fnOf "check_modulus" "check_modulus" (defArgs S_check_modulus) (defBody S_check_modulus) (defScope S_check_modulus) .none kV_check_modulus dc_check_modulus pm_check_modulus an_check_modulus cd_check_modulus ct_check_modulus, fun_mk (st := S_check_modulus) l_check_modulus c_check_modulus k_check_modulus, PySem.W.mg_of X G a_check_modulus, (fun_mk (st := S_check_modulus) l_check_modulus c_check_modulus k_check_modulus).binds (ps := ["modulus"]) fun _ _ _ _ _ _ us hl => match us, hl with | [_], _ => rfl⟩
  let D_Unwrapper_init : Dn K mg "Unwrapper" "Unwrapper.__init__" S_Unwrapper_init ["self", "modulus"] := ⟨f_Unwrapper_init, PySem.W.fnOf "__init__" "Unwrapper.__init__" (defArgs S_Unwrapper_init) (defBody S_Unwrapper_init) (defScope S_Unwrapper_init) .none kV_Unwrapper_init dc_Unwrapper_init pm_Unwrapper_init an_Unwrapper_init cd_Unwrapper_init ct_Unwrapper_init, fun_mk (st := S_Unwrapper_init) l_Unwrapper_init c_Unwrapper_init k_Unwrapper_init, mk_mk nx_Unwrapper mk_Unwrapper a_Unwrapper_init i_Unwrapper_init kc_Unwrapper, g_mk nx_Unwrapper (PySem.W.mg_of X G nx_Unwrapper), (fun_mk (st := S_Unwrapper_init) l_Unwrapper_init c_Unwrapper_init k_Unwrapper_init).binds (ps := ["self", "modulus"]) fun _ _ _ _ _ _ us hl => match us, hl with | [_, _], _ => rfl⟩
  let D_Unwrapper_greatest : Dp K "Unwrapper" "greatest" "Unwrapper.greatest" S_Unwrapper_greatest ["self"] := ⟨f_Unwrapper_greatest, p_Unwrapper_greatest, PySem.W.fnOf "greatest" "Unwrapper.greatest" (defArgs S_Unwrapper_greatest) (defBody S_Unwrapper_greatest) (defScope S_Unwrapper_greatest) .none kV_Unwrapper_greatest dc_Unwrapper_greatest pm_Unwrapper_greatest an_Unwrapper_greatest cd_Unwrapper_greatest ct_Unwrapper_greatest, fun_mk (st := S_Unwrapper_greatest) l_Unwrapper_greatest c_Unwrapper_greatest k_Unwrapper_greatest, Cls_Unwrapper, prop_mk nx_Unwrapper a_Unwrapper_greatest pg_Unwrapper_greatest pt_Unwrapper_greatest pr_Unwrapper_greatest, (fun_mk (st := S_Unwrapper_greatest) l_Unwrapper_greatest c_Unwrapper_greatest k_Unwrapper_greatest).binds (ps := ["self"]) fun _ _ _ _ _ _ us hl => match us, hl with | [_], _ => rfl⟩
  let D_check_remainder : Df K mg "check_remainder" "check_remainder" S_check_remainder ["modulus", "remainder"] := ⟨f_check_remainder, PySem.W.fnOf "check_remainder" "check_remainder" (defArgs S_check_remainder) (defBody S_check_remainder) (defScope S_check_remainder) .none kV_check_remainder dc_check_remainder pm_check_remainder an_check_remainder cd_check_remainder ct_check_remainder, fun_mk (st := S_check_remainder) l_check_remainder c_check_remainder k_check_remainder, PySem.W.mg_of X G a_check_remainder, (fun_mk (st := S_check_remainder) l_check_remainder c_check_remainder k_check_remainder).binds (ps := ["modulus", "remainder"]) fun _ _ _ _ _ _ us hl => match us, hl with | [_, _], _ => rfl⟩
  let D_nearest : Df K mg "nearest" "nearest" S_nearest ["modulus", "greatest", "remainder"] := ⟨f_nearest, PySem.W.fnOf "nearest" "nearest" (defArgs S_nearest) (defBody S_nearest) (defScope S_nearest) .none kV_nearest dc_nearest pm_nearest an_nearest cd_nearest ct_nearest, fun_mk (st := S_nearest) l_nearest c_nearest k_nearest, PySem.W.mg_of X G a_nearest, (fun_mk (st := S_nearest) l_nearest c_nearest k_nearest).binds (ps := ["modulus", "greatest", "remainder"]) fun _ _ _ _ _ _ us hl => match us, hl with | [_, _, _], _ => rfl⟩
  let D_Unwrapper_follow : Dm K "Unwrapper" "follow" "Unwrapper.follow" S_Unwrapper_follow ["self", "shown"] := ⟨f_Unwrapper_follow, PySem.W.fnOf "follow" "Unwrapper.follow" (defArgs S_Unwrapper_follow) (defBody S_Unwrapper_follow) (defScope S_Unwrapper_follow) .none kV_Unwrapper_follow dc_Unwrapper_follow pm_Unwrapper_follow an_Unwrapper_follow cd_Unwrapper_follow ct_Unwrapper_follow, fun_mk (st := S_Unwrapper_follow) l_Unwrapper_follow c_Unwrapper_follow k_Unwrapper_follow, met_mk Cls_Unwrapper nx_Unwrapper a_Unwrapper_follow i_Unwrapper_follow k_Unwrapper_follow, (fun_mk (st := S_Unwrapper_follow) l_Unwrapper_follow c_Unwrapper_follow k_Unwrapper_follow).binds (ps := ["self", "shown"]) fun _ _ _ _ _ _ us hl => match us, hl with | [_, _], _ => rfl⟩
  let D_Unwrapper_copy : Dm K "Unwrapper" "copy" "Unwrapper.copy" S_Unwrapper_copy ["self"] := ⟨f_Unwrapper_copy, PySem.W.fnOf "copy" "Unwrapper.copy" (defArgs S_Unwrapper_copy) (defBody S_Unwrapper_copy) (defScope S_Unwrapper_copy) .none kV_Unwrapper_copy dc_Unwrapper_copy pm_Unwrapper_copy an_Unwrapper_copy cd_Unwrapper_copy ct_Unwrapper_copy, fun_mk (st := S_Unwrapper_copy) l_Unwrapper_copy c_Unwrapper_copy k_Unwrapper_copy, met_mk Cls_Unwrapper nx_Unwrapper a_Unwrapper_copy i_Unwrapper_copy k_Unwrapper_copy, (fun_mk (st := S_Unwrapper_copy) l_Unwrapper_copy c_Unwrapper_copy k_Unwrapper_copy).binds (ps := ["self"]) fun _ _ _ _ _ _ us hl => match us, hl with | [_], _ => rfl⟩
  let D_l_pen : Df K mg "_law_pen" "_law_pen" S_l_pen ["_law_script"] := ⟨f_l_pen, PySem.W.fnOf "_law_pen" "_law_pen" (defArgs S_l_pen) (defBody S_l_pen) (defScope S_l_pen) .none kV_l_pen dc_l_pen pm_l_pen an_l_pen cd_l_pen ct_l_pen, fun_mk (st := S_l_pen) l_l_pen c_l_pen k_l_pen, PySem.W.mg_of X G a_l_pen, (fun_mk (st := S_l_pen) l_l_pen c_l_pen k_l_pen).binds (ps := ["_law_script"]) fun _ _ _ _ _ _ us hl => match us, hl with | [_], _ => rfl⟩
  let D_l_next : Df K mg "_law_next" "_law_next" S_l_next ["_law_pen_here"] := ⟨f_l_next, PySem.W.fnOf "_law_next" "_law_next" (defArgs S_l_next) (defBody S_l_next) (defScope S_l_next) .none kV_l_next dc_l_next pm_l_next an_l_next cd_l_next ct_l_next, fun_mk (st := S_l_next) l_l_next c_l_next k_l_next, PySem.W.mg_of X G a_l_next, (fun_mk (st := S_l_next) l_l_next c_l_next k_l_next).binds (ps := ["_law_pen_here"]) fun _ _ _ _ _ _ us hl => match us, hl with | [_], _ => rfl⟩
  let D_l_draw : Df K mg "_law_draw" "_law_draw" S_l_draw ["_law_pen_here", "_law_under"] := ⟨f_l_draw, PySem.W.fnOf "_law_draw" "_law_draw" (defArgs S_l_draw) (defBody S_l_draw) (defScope S_l_draw) .none kV_l_draw dc_l_draw pm_l_draw an_l_draw cd_l_draw ct_l_draw, fun_mk (st := S_l_draw) l_l_draw c_l_draw k_l_draw, PySem.W.mg_of X G a_l_draw, (fun_mk (st := S_l_draw) l_l_draw c_l_draw k_l_draw).binds (ps := ["_law_pen_here", "_law_under"]) fun _ _ _ _ _ _ us hl => match us, hl with | [_, _], _ => rfl⟩
  let D_l_found : Df K mg "_law_found" "_law_found" S_l_found ["_law_modulus", "_law_top", "_law_rest"] := ⟨f_l_found, PySem.W.fnOf "_law_found" "_law_found" (defArgs S_l_found) (defBody S_l_found) (defScope S_l_found) .none kV_l_found dc_l_found pm_l_found an_l_found cd_l_found ct_l_found, fun_mk (st := S_l_found) l_l_found c_l_found k_l_found, PySem.W.mg_of X G a_l_found, (fun_mk (st := S_l_found) l_l_found c_l_found k_l_found).binds (ps := ["_law_modulus", "_law_top", "_law_rest"]) fun _ _ _ _ _ _ us hl => match us, hl with | [_, _, _], _ => rfl⟩
  let D_l_follows : Df K mg "_law_follows" "_law_follows" S_l_follows ["_law_pen_here", "_law_state"] := ⟨f_l_follows, PySem.W.fnOf "_law_follows" "_law_follows" (defArgs S_l_follows) (defBody S_l_follows) (defScope S_l_follows) .none kV_l_follows dc_l_follows pm_l_follows an_l_follows cd_l_follows ct_l_follows, fun_mk (st := S_l_follows) l_l_follows c_l_follows k_l_follows, PySem.W.mg_of X G a_l_follows, (fun_mk (st := S_l_follows) l_l_follows c_l_follows k_l_follows).binds (ps := ["_law_pen_here", "_law_state"]) fun _ _ _ _ _ _ us hl => match us, hl with | [_, _], _ => rfl⟩
  let D_law : Df K mg "law" "law" S_law ["_law_script"] := ⟨fa, PySem.W.fnOf "law" "law" (defArgs S_law) (defBody S_law) (defScope S_law) .none kV_law dc_law pm_law an_law cd_law ct_law, fun_mk (st := S_law) l_law c_law k_law, PySem.W.mg_of X G a_law, (fun_mk (st := S_law) l_law c_law k_law).binds (ps := ["_law_script"]) fun _ _ _ _ _ _ us hl => match us, hl with | [_], _ => rfl⟩
  refine ⟨D_law.fd, fun s u => .of_eq rfl, fun base _ _ => ?_⟩
  have F_is_integer := ok_is_integer (T := (fun _ => none)) (P := l.prog) (w := w) (base := base) Tx D_is_integer 
  have F_check_modulus := ok_check_modulus (T := (fun _ => none)) (P := l.prog) (w := w) (base := base) Tx D_check_modulus D_is_integer F_is_integer
  have F_Unwrapper_init := ok_Unwrapper_init (T := (fun _ => none)) (P := l.prog) (w := w) (base := base) Tx D_Unwrapper_init D_check_modulus F_check_modulus
  have F_Unwrapper_greatest := ok_Unwrapper_greatest (T := (fun _ => none)) (P := l.prog) (w := w) (base := base) Tx D_Unwrapper_greatest 
  have F_check_remainder := ok_check_remainder (T := (fun _ => none)) (P := l.prog) (w := w) (base := base) Tx D_check_remainder D_is_integer F_is_integer
  have F_nearest := ok_nearest (T := (fun _ => none)) (P := l.prog) (w := w) (base := base) Tx D_nearest 
  have F_Unwrapper_follow := ok_Unwrapper_follow (T := (fun _ => none)) (P := l.prog) (w := w) (base := base) Tx D_Unwrapper_follow D_check_remainder F_check_remainder D_nearest F_nearest
  have F_Unwrapper_copy := ok_Unwrapper_copy (T := (fun _ => none)) (P := l.prog) (w := w) (base := base) Tx D_Unwrapper_copy D_Unwrapper_init F_Unwrapper_init
  have F_l_pen := ok_l_pen (T := (fun _ => none)) (P := l.prog) (w := w) (base := base) Tx D_l_pen 
  have F_l_next := ok_l_next (T := (fun _ => none)) (P := l.prog) (w := w) (base := base) Tx D_l_next 
  have F_l_draw := ok_l_draw (T := (fun _ => none)) (P := l.prog) (w := w) (base := base) Tx D_l_draw D_l_next F_l_next
  have F_l_found := ok_l_found (T := (fun _ => none)) (P := l.prog) (w := w) (base := base) Tx D_l_found 
  have F_l_follows := ok_l_follows (T := (fun _ => none)) (P := l.prog) (w := w) (base := base) Tx D_l_follows D_l_draw F_l_draw D_l_found F_l_found D_Unwrapper_follow F_Unwrapper_follow
  have F_law := ok_law (T := (fun _ => none)) (P := l.prog) (w := w) (base := base) Tx D_law D_l_pen F_l_pen D_l_draw F_l_draw D_Unwrapper_init F_Unwrapper_init D_Unwrapper_greatest F_Unwrapper_greatest D_l_follows F_l_follows D_Unwrapper_copy F_Unwrapper_copy D_Unwrapper_follow F_Unwrapper_follow
  exact F_law
end Dl

open PySem PySem.W PyProof.Rows in
set_option maxRecDepth 100000 in
set_option maxHeartbeats 0 in
theorem PySem.Challenge.cw_evenplay_k36_unwrappers_holds : PySem.Challenge.rw_evenplay_k36_unwrappers.Holds := by
  w_on; o_law; k_head; (case hw => w_witness2)
  k_fill
  refine Dl.end_of (l := PySem.Challenge.rw_evenplay_k36_unwrappers) (n := 63) (k := 6) (x := "_law_script") (sp := Dl.sp_law) rfl (by decide) rfl ⟨rfl, by decide, by decide⟩ (fun w h Y => PySem.W.kIn_of Y) ?F Dl.sp_law_in
  case F =>
    intro w mg fa h KX G hmg
    refine' Dl.all_mk KX G hmg ?a_is_integer ?l_is_integer ?c_is_integer ?k_is_integer ?a_check_modulus ?l_check_modulus ?c_check_modulus ?k_check_modulus ?nx_Unwrapper ?cpg_Unwrapper ?chd_Unwrapper ?cpo_Unwrapper ?csa_Unwrapper ?cf_Unwrapper_modulus ?cf_Unwrapper_top ?a_Unwrapper_init ?i_Unwrapper_init ?mk_Unwrapper ?kc_Unwrapper ?l_Unwrapper_init ?c_Unwrapper_init ?k_Unwrapper_init ?a_Unwrapper_greatest ?pr_Unwrapper_greatest ?pg_Unwrapper_greatest ?pt_Unwrapper_greatest ?l_Unwrapper_greatest ?c_Unwrapper_greatest ?k_Unwrapper_greatest ?a_check_remainder ?l_check_remainder ?c_check_remainder ?k_check_remainder ?a_nearest ?l_nearest ?c_nearest ?k_nearest ?a_Unwrapper_follow ?i_Unwrapper_follow ?l_Unwrapper_follow ?c_Unwrapper_follow ?k_Unwrapper_follow ?a_Unwrapper_copy ?i_Unwrapper_copy ?l_Unwrapper_copy ?c_Unwrapper_copy ?k_Unwrapper_copy ?a_l_pen ?l_l_pen ?c_l_pen ?k_l_pen ?a_l_next ?l_l_next ?c_l_next ?k_l_next ?a_l_draw ?l_l_draw ?c_l_draw ?k_l_draw ?a_l_found ?l_l_found ?c_l_found ?k_l_found ?a_l_follows ?l_l_follows ?c_l_follows ?k_l_follows ?a_law ?l_law ?c_law ?k_law ?z_bool ?z_int ?z_isinstance ?z_len ?z_list ?z_max ?z_range ?z_repr ?g_MAX_MODULUS ?g_MIN_MODULUS
    (case a_is_integer => k_is)
    (case l_is_integer => k_is)
    (case c_is_integer => k_is)
    (case k_is_integer => k_is)
    (case a_check_modulus => k_is)
    (case l_check_modulus => k_is)
    (case c_check_modulus => k_is)
    (case k_check_modulus => k_is)
    (case nx_Unwrapper => k_is)
    (case cpg_Unwrapper => k_is)
    (case chd_Unwrapper => k_is)
    (case cpo_Unwrapper => k_is)
    (case csa_Unwrapper => k_is)
    (case cf_Unwrapper_modulus => k_is)
    (case cf_Unwrapper_top => k_is)
    (case a_Unwrapper_init => k_is)
    (case i_Unwrapper_init => k_is)
    (case mk_Unwrapper => k_is)
    (case kc_Unwrapper => k_is)
    (case l_Unwrapper_init => k_is)
    (case c_Unwrapper_init => k_is)
    (case k_Unwrapper_init => k_is)
    (case a_Unwrapper_greatest => k_is)
    (case pr_Unwrapper_greatest => k_is)
    (case pg_Unwrapper_greatest => k_is)
    (case pt_Unwrapper_greatest => k_is)
    (case l_Unwrapper_greatest => k_is)
    (case c_Unwrapper_greatest => k_is)
    (case k_Unwrapper_greatest => k_is)
    (case a_check_remainder => k_is)
    (case l_check_remainder => k_is)
    (case c_check_remainder => k_is)
    (case k_check_remainder => k_is)
    (case a_nearest => k_is)
    (case l_nearest => k_is)
    (case c_nearest => k_is)
    (case k_nearest => k_is)
    (case a_Unwrapper_follow => k_is)
    (case i_Unwrapper_follow => k_is)
    (case l_Unwrapper_follow => k_is)
    (case c_Unwrapper_follow => k_is)
    (case k_Unwrapper_follow => k_is)
    (case a_Unwrapper_copy => k_is)
    (case i_Unwrapper_copy => k_is)
    (case l_Unwrapper_copy => k_is)
    (case c_Unwrapper_copy => k_is)
    (case k_Unwrapper_copy => k_is)
    (case a_l_pen => k_is)
    (case l_l_pen => k_is)
    (case c_l_pen => k_is)
    (case k_l_pen => k_is)
    (case a_l_next => k_is)
    (case l_l_next => k_is)
    (case c_l_next => k_is)
    (case k_l_next => k_is)
    (case a_l_draw => k_is)
    (case l_l_draw => k_is)
    (case c_l_draw => k_is)
    (case k_l_draw => k_is)
    (case a_l_found => k_is)
    (case l_l_found => k_is)
    (case c_l_found => k_is)
    (case k_l_found => k_is)
    (case a_l_follows => k_is)
    (case l_l_follows => k_is)
    (case c_l_follows => k_is)
    (case k_l_follows => k_is)
    (case a_law => k_is)
    (case l_law => k_is)
    (case c_law => k_is)
    (case k_law => k_is)
    (case z_bool => k_is)
    (case z_int => k_is)
    (case z_isinstance => k_is)
    (case z_len => k_is)
    (case z_list => k_is)
    (case z_max => k_is)
    (case z_range => k_is)
    (case z_repr => k_is)
    (case g_MAX_MODULUS => k_is)
    (case g_MIN_MODULUS => k_is)
