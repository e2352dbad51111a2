import PyProof.Rows.All
import Wide.All
import OpenK.AllK
import Wide.FinOn
import HandS.ForMost
import HandS.Lambda
import HandS.Deep
import HandS.TupAny
import HandS.Wide
import HandS.Style
import HandS.IsInst
import HandS.Conv
import HandS.TupLen
import KE.SortData
import HandS.Small
import HandS.ExcValueFrom
import HandS.Strs
import HandS.SetKeys
import PyProof.DictMoreH
import HandS.Walk
import HandS.DictComp
import HandS.WordsExc
import HandS.ExcCtx
import HandS.Dict
import HandS.Zip
import KE.GoesEnum
import HandS.Iter
import HandS.More
import KE.KExcSuper
import HandS.ExcInit
import HandS.DictTup
import PyProof.ReprRoads
import HandS.ExcIs
import HandS.EndOwn
import PySem.Challenge.RW_tablegroups_k77_whole_what_leads_togethe
set_option Elab.async false
set_option linter.all false
set_option maxRecDepth 100000
set_option maxHeartbeats 0
-- E1
/-! E1: pure values, own mutable objects, what a reading does. -/
namespace EV
open PySem PySem.Spec L2

inductive PV where
  | non | bl (b : Bool) | int (i : Int) | str (s : Str) | tup (xs : List PV) | ktp (xs : List PV) | ftp (xs : List PV) | fl (xs : List PV) | fz (xs : List PV) | fd (ks : List Key) (vs : List PV) | ft (ks : List (List Key)) (vs : List PV)
  | ob (C : Addr) (ns : List Str) (vs : List PV) | adr (a : Addr) | ty (n : String)

/-- a value: pure, or an own mutable object -/
inductive SV where
  | p (x : PV) | ref (n : Nat)

inductive EO where
  | lst (xs : List SV)
  | dic (kvs : List (Key × SV))
  | dit (kvs : List (List Key × SV))
  | ins (C : Addr) (fs : List (Str × SV))
  | tab (P : Addr) (q : Str)

def KTup (K : PySem.W.Frag) (a : Addr) (xs : List V) : Prop :=
  ∃ (o : Obj) (its : Array Value) (n : Nat), K.lookup a = some o ∧ o.cls = .type "tuple" ∧ o.data = .seq its n ∧ its.size ≤ sizeLine ∧ Vals xs its.toList

/-- the script: tracked and not ours, or in the written part -/
def SqLm (K : PySem.W.Frag) (m : List Addr) (H : Hp) (a : Addr) (xs : List V) : Prop :=
  (Rd H a (.lst xs) ∧ a ∉ m) ∨
    ∃ (o : Obj) (its : Array Value) (n : Nat), K.lookup a = some o ∧ o.cls = .type "list" ∧ o.dict = none ∧ o.data = .seq its n ∧ its.size ≤ sizeLine ∧ Vals xs its.toList
theorem SqLm.sq {K : PySem.W.Frag} {m : List Addr} {H : Hp} {a : Addr} {xs : List V} : SqLm K m H a xs → SqL K H a xs
  | .inl h => .inl h.1
  | .inr h => .inr h
mutual
inductive RP (K : PySem.W.Frag) (m : List Addr) (H : Hp) : PV → V → Prop
  | non : RP K m H .non .non
  | bl (b : Bool) : RP K m H (.bl b) (.bl b)
  | int (i : Int) : RP K m H (.int i) (.int i)
  | str (s : Str) : RP K m H (.str s) (.str s)
  | adr (a : Addr) : RP K m H (.adr a) (.ref a)
  | ty (n : String) : RP K m H (.ty n) (.ty n)
  | tup {xs : List PV} {a : Addr} {vs : List V} (h : H a = some (.tup vs)) (n : a ∉ m) (r : RPs K m H xs vs) : RP K m H (.tup xs) (.ref a)
  | ktp {xs : List PV} {a : Addr} {vs : List V} (h : KTup K a vs) (r : RPs K m H xs vs) : RP K m H (.ktp xs) (.ref a)
  | ftp {xs : List PV} {a : Addr} {vs : List V} {o : Obj} (h : H a = some (.frz o (.tup vs))) (z : o.dict = none) (n : a ∉ m) (r : RPs K m H xs vs) : RP K m H (.ftp xs) (.ref a)
  | fl {xs : List PV} {a : Addr} {vs : List V} (h : H a = some (.lst vs)) (n : a ∉ m) (r : RPs K m H xs vs) : RP K m H (.fl xs) (.ref a)
  | fz {xs : List PV} {a : Addr} {vs : List V} (h : SqLm K m H a vs) (r : RPs K m H xs vs) : RP K m H (.fz xs) (.ref a)
  | fd {ks : List Key} {xs : List PV} {a : Addr} {kvs : List (Key × V)} (h : H a = some (.dK kvs)) (n : a ∉ m) (e : kvs.map (·.1) = ks) (r : RPs K m H xs (kvs.map (·.2))) : RP K m H (.fd ks xs) (.ref a)
  | ft {ks : List (List Key)} {xs : List PV} {a : Addr} {kvs : List (List Key × V)} (h : H a = some (.dT kvs)) (n : a ∉ m) (e : kvs.map (·.1) = ks) (r : RPs K m H xs (kvs.map (·.2))) : RP K m H (.ft ks xs) (.ref a)
  | ob {C : Addr} {ns : List Str} {xs : List PV} {a dx : Addr} {fs : List (Str × V)} (h : H a = some (.ins C dx fs)) (n : a ∉ m) (e : fs.map (·.1) = ns) (r : RPs K m H xs (fs.map (·.2))) : RP K m H (.ob C ns xs) (.ref a)
inductive RPs (K : PySem.W.Frag) (m : List Addr) (H : Hp) : List PV → List V → Prop
  | nil : RPs K m H [] []
  | cons {x : PV} {v : V} {xs : List PV} {vs : List V} (h : RP K m H x v) (t : RPs K m H xs vs) : RPs K m H (x :: xs) (v :: vs)
end

def RS (K : PySem.W.Frag) (m : List Addr) (H : Hp) : SV → V → Prop
  | .p x, v => RP K m H x v
  | .ref n, v => ∃ a, m[n]? = some a ∧ v = .ref a

abbrev RSs (K : PySem.W.Frag) (m : List Addr) (H : Hp) : List SV → List V → Prop := Paired (RS K m H)

def RO (K : PySem.W.Frag) (m : List Addr) (H : Hp) (a : Addr) : EO → Prop
  | .lst xs => ∃ vs, H a = some (.lst vs) ∧ RSs K m H xs vs
  | .dic kvs => ∃ ws : List (Key × V), H a = some (.dK ws) ∧ ws.map (·.1) = kvs.map (·.1) ∧ RSs K m H (kvs.map (·.2)) (ws.map (·.2))
  | .dit kvs => ∃ ws : List (List Key × V), H a = some (.dT ws) ∧ ws.map (·.1) = kvs.map (·.1) ∧ RSs K m H (kvs.map (·.2)) (ws.map (·.2))
  | .ins C fs => ∃ (dx : Addr) (ws : List (Str × V)), H a = some (.ins C dx ws) ∧ ws.map (·.1) = fs.map (·.1) ∧ RSs K m H (fs.map (·.2)) (ws.map (·.2))
  | .tab P q => ∃ ps : Array Value, H a = some (.tbl ps) ∧ a = P ∧ TriplesOk ps.toList ∧ ∀ (pos : Pos) (cv : Value), codeAmong pos ps.toList = some cv → ∃ c, cv = .ref c ∧ c ∉ m ∧ H c = some (LamX.CodeO c q)

structure Wd (K : PySem.W.Frag) (m : List Addr) (h : List EO) (H : Hp) : Prop where
  nd : m.Nodup
  len : m.length = h.length
  at_ : ∀ (n : Nat) (o : EO) (a : Addr), h[n]? = some o → m[n]? = some a → RO K m H a o

/-- all but the addresses at m stays -/
def Fr (m : List Addr) (H H' : Hp) : Prop := ∀ b o, b ∉ m → H b = some o → H' b = some o
structure Stp (m : List Addr) (H : Hp) (m' : List Addr) (H' : Hp) : Prop where
  more : ∃ ms, m' = m ++ ms ∧ ∀ a ∈ ms, a ∉ m ∧ H a = none
  fr : Fr m H H'
theorem Stp.refl (m : List Addr) (H : Hp) : Stp m H m H := ⟨⟨[], by simp, by simp⟩, fun _ _ _ e => e⟩

section
variable {K : PySem.W.Frag} {m m' m'' : List Addr} {H H' H'' : Hp} {h h' : List EO}
theorem Wd.some_at (w : Wd K m h H) {a : Addr} (ha : a ∈ m) : ∃ o, H a = some o := by
  obtain ⟨n, hn, e⟩ := List.mem_iff_getElem.mp ha
  have h1 : n < h.length := by rw [← w.len]; exact hn
  have := w.at_ n h[n] a (List.getElem?_eq_getElem h1) (by rw [List.getElem?_eq_getElem hn, e])
  revert this
  cases h[n] <;> (simp only [RO]; rintro ⟨_, q⟩)
  · exact ⟨_, q.1⟩
  · exact ⟨_, q.1⟩
  · exact ⟨_, q.1⟩
  · obtain ⟨_, q, _⟩ := q; exact ⟨_, q⟩
  · exact ⟨_, q.1⟩
theorem Wd.new (w : Wd K m h H) {a : Addr} (ha : H a = none) : a ∉ m := fun q => by
  obtain ⟨o, e⟩ := w.some_at q
  rw [ha] at e; cases e
theorem Stp.out (s : Stp m H m' H') {b : Addr} {o : HO} (n : b ∉ m) (e : H b = some o) : b ∉ m' := by
  obtain ⟨ms, rfl, hm⟩ := s.more
  intro q
  rcases List.mem_append.mp q with q | q
  · exact n q
  · rw [(hm b q).2] at e; cases e
theorem Stp.rd (s : Stp m H m' H') {a : Addr} {u : HO} (n : a ∉ m) (r : Rd H a u) : Rd H' a u ∧ a ∉ m' := by
  rcases r with e | ⟨o, e⟩
  · exact ⟨.inl (s.fr _ _ n e), s.out n e⟩
  · exact ⟨.inr ⟨o, s.fr _ _ n e⟩, s.out n e⟩
theorem SqLm.stp (s : Stp m H m' H') {a : Addr} {xs : List V} (q : SqLm K m H a xs) : SqLm K m' H' a xs := q.elim (fun q => .inl (s.rd q.2 q.1)) .inr
theorem Stp.trans (a : Stp m H m' H') (b : Stp m' H' m'' H'') : Stp m H m'' H'' := by
  obtain ⟨ms, rfl, hm⟩ := a.more
  obtain ⟨ns, rfl, hn⟩ := b.more
  refine ⟨⟨ms ++ ns, by simp, fun x hx => ?_⟩, fun c o n e => b.fr _ _ (a.out n e) (a.fr _ _ n e)⟩
  rcases List.mem_append.mp hx with q | q
  · exact hm x q
  · obtain ⟨h1, h2⟩ := hn x q
    have h3 : x ∉ m := fun z => h1 (List.mem_append_left _ z)
    refine ⟨h3, ?_⟩
    cases e : H x with
    | none => rfl
    | some o =>
      have := a.fr _ _ h3 e
      rw [h2] at this; cases this

mutual
theorem RP.stp (s : Stp m H m' H') : ∀ {x : PV} {v : V}, RP K m H x v → RP K m' H' x v
  | _, _, .non => .non
  | _, _, .bl b => .bl b
  | _, _, .int i => .int i
  | _, _, .str i => .str i
  | _, _, .adr i => .adr i
  | _, _, .ty i => .ty i
  | _, _, .tup h n r => .tup (s.fr _ _ n h) (s.out n h) (r.stp s)
  | _, _, .ktp h r => .ktp h (r.stp s)
  | _, _, .ftp h z n r => .ftp (s.fr _ _ n h) z (s.out n h) (r.stp s)
  | _, _, .fl h n r => .fl (s.fr _ _ n h) (s.out n h) (r.stp s)
  | _, _, .fz h r => .fz (h.stp s) (r.stp s)
  | _, _, .fd h n e r => .fd (s.fr _ _ n h) (s.out n h) e (r.stp s)
  | _, _, .ft h n e r => .ft (s.fr _ _ n h) (s.out n h) e (r.stp s)
  | _, _, .ob h n e r => .ob (s.fr _ _ n h) (s.out n h) e (r.stp s)
theorem RPs.stp (s : Stp m H m' H') : ∀ {xs : List PV} {vs : List V}, RPs K m H xs vs → RPs K m' H' xs vs
  | _, _, .nil => .nil
  | _, _, .cons h t => .cons (h.stp s) (t.stp s)
end
theorem RS.stp (s : Stp m H m' H') {x : SV} {v : V} (r : RS K m H x v) : RS K m' H' x v := by
  cases x with
  | p x => exact RP.stp s r
  | ref n =>
    obtain ⟨a, e, rfl⟩ := r
    obtain ⟨ms, rfl, _⟩ := s.more
    have hn := (List.getElem?_eq_some_iff.mp e).1
    exact ⟨a, by rw [List.getElem?_append_left hn]; exact e, rfl⟩
theorem RSs.stp (s : Stp m H m' H') {xs : List SV} {vs : List V} (r : RSs K m H xs vs) : RSs K m' H' xs vs := Paired.mapP r fun _ _ q => q.stp s
theorem RO.stp (s : Stp m H m' H') {a : Addr} {o : EO} (e : H' a = H a) (r : RO K m H a o) : RO K m' H' a o := by
  cases o with
  | lst xs => obtain ⟨vs, q, r⟩ := r; exact ⟨vs, by rw [e]; exact q, r.stp s⟩
  | dic kvs => obtain ⟨vs, q, z, r⟩ := r; exact ⟨vs, by rw [e]; exact q, z, r.stp s⟩
  | dit kvs => obtain ⟨vs, q, z, r⟩ := r; exact ⟨vs, by rw [e]; exact q, z, r.stp s⟩
  | ins C fs => obtain ⟨dx, vs, q, z, r⟩ := r; exact ⟨dx, vs, by rw [e]; exact q, z, r.stp s⟩
  | tab P q => obtain ⟨ps, q, y, z, r⟩ := r; exact ⟨ps, by rw [e]; exact q, y, z, fun pos cv hc => let ⟨c, e1, n, e2⟩ := r pos cv hc; ⟨c, e1, s.out n e2, s.fr _ _ n e2⟩⟩

/-- a new object that is ours and may change -/
theorem Wd.push (w : Wd K m h H) {a : Addr} {u : HO} {o : EO} (ha : H a = none) (r : RO K (m ++ [a]) (upd H a u) a o) : Wd K (m ++ [a]) (h ++ [o]) (upd H a u) ∧ Stp m H (m ++ [a]) (upd H a u) := by
  have nm := w.new ha
  have st : Stp m H (m ++ [a]) (upd H a u) := ⟨⟨[a], rfl, fun x hx => by rw [List.mem_singleton.mp hx]; exact ⟨nm, ha⟩⟩, fun b o n e => by rw [upd_ne (ne_of_none e ha)]; exact e⟩
  refine ⟨⟨?_, by simp [w.len], fun n o' b e1 e2 => ?_⟩, st⟩
  · rw [List.nodup_append]
    exact ⟨w.nd, by simp, fun x hx y hy z => nm (by rw [List.mem_singleton.mp hy] at z; rw [← z]; exact hx)⟩
  · by_cases hn : n < h.length
    · rw [List.getElem?_append_left hn] at e1
      rw [List.getElem?_append_left (by rw [w.len]; exact hn)] at e2
      refine (w.at_ n o' b e1 e2).stp st ?_
      refine upd_ne fun z => nm ?_
      rw [← z]
      exact List.mem_of_getElem? e2
    · rw [List.getElem?_append_right (by omega)] at e1
      rw [List.getElem?_append_right (by rw [w.len]; omega)] at e2
      have : n - h.length = 0 := by
        cases q : n - h.length with
        | zero => rfl
        | succ k => rw [q] at e1; simp at e1
      rw [this] at e1
      rw [w.len, this] at e2
      simp at e1 e2
      subst e1; subst e2
      exact r
/-- a new object that never changes -/
theorem Stp.new (w : Wd K m h H) {a : Addr} {u : HO} (ha : H a = none) : Stp m H m (upd H a u) := ⟨⟨[], by simp, by simp⟩, fun b o n e => by rw [upd_ne (ne_of_none e ha)]; exact e⟩
/-- the world behind a step that touches none of ours -/
theorem Wd.keep (w : Wd K m h H) (s : Stp m H m H') (k : ∀ a ∈ m, H' a = H a) : Wd K m h H' :=
  ⟨w.nd, w.len, fun n o a e1 e2 => (w.at_ n o a e1 e2).stp s (k a (List.mem_of_getElem? e2))⟩
theorem Wd.fresh (w : Wd K m h H) {a : Addr} {u : HO} (ha : H a = none) : Wd K m h (upd H a u) :=
  w.keep (Stp.new w ha) fun b hb => upd_ne fun z => w.new ha (by rw [← z]; exact hb)
/-- one of ours is written -/
theorem Stp.write {n : Nat} {a : Addr} {u : HO} (ea : m[n]? = some a) : Stp m H m (upd H a u) :=
  ⟨⟨[], by simp, by simp⟩, fun b o nb e => by rw [upd_ne fun z => nb (by rw [z]; exact List.mem_of_getElem? ea)]; exact e⟩
theorem Wd.write (w : Wd K m h H) {n : Nat} {a : Addr} {u : HO} {o : EO} (ea : m[n]? = some a) (r : RO K m (upd H a u) a o) : Wd K m (h.set n o) (upd H a u) := by
  refine ⟨w.nd, by simp [w.len], fun k o' b e1 e2 => ?_⟩
  by_cases hk : n = k
  · subst hk
    have hl : n < h.length := by rw [← w.len]; exact (List.getElem?_eq_some_iff.mp ea).1
    rw [List.getElem?_set_self hl] at e1
    rw [ea] at e2
    cases e1; cases e2
    exact r
  · rw [List.getElem?_set_ne hk] at e1
    refine (w.at_ k o' b e1 e2).stp (.write ea) (upd_ne fun z => hk ?_)
    have h1 := (List.getElem?_eq_some_iff.mp ea).1
    have h2 := (List.getElem?_eq_some_iff.mp e2).1
    have e3 := (List.getElem?_eq_some_iff.mp ea).2
    have e4 := (List.getElem?_eq_some_iff.mp e2).2
    exact (List.getElem_inj (h₀ := h1) (h₁ := h2) w.nd).mp (by rw [e3, e4, z])

theorem RPs.len {xs : List PV} {vs : List V} : RPs K m H xs vs → xs.length = vs.length
  | .nil => rfl
  | .cons _ t => by simp [RPs.len t]
theorem RPs.paired : ∀ {xs : List PV} {vs : List V}, RPs K m H xs vs → Paired (RP K m H) xs vs
  | _, _, .nil => .nil
  | _, _, .cons h t => .cons h t.paired
theorem RPs.of : ∀ {xs : List PV} {vs : List V}, Paired (RP K m H) xs vs → RPs K m H xs vs
  | _, _, .nil => .nil
  | _, _, .cons h t => .cons h (RPs.of t)
theorem RPs.get : ∀ {xs : List PV} {vs : List V} {i : Nat} {x : PV}, RPs K m H xs vs → xs[i]? = some x → ∃ v, vs[i]? = some v ∧ RP K m H x v
  | _, _, _, _, .nil, e => by simp at e
  | _, _, 0, _, .cons h _, e => by simp at e; subst e; exact ⟨_, rfl, h⟩
  | _, _, i + 1, _, .cons _ t, e => by
    obtain ⟨u, h1, h2⟩ := RPs.get (i := i) t (by simpa using e)
    exact ⟨u, by simpa using h1, h2⟩
theorem RPs.app : ∀ {xs ys : List PV} {vs ws : List V}, RPs K m H xs vs → RPs K m H ys ws → RPs K m H (xs ++ ys) (vs ++ ws)
  | _, _, _, _, .nil, s => s
  | _, _, _, _, .cons h t, s => .cons h (t.app s)
theorem RSs.ofP : ∀ {xs : List PV} {vs : List V}, RPs K m H xs vs → RSs K m H (xs.map .p) vs
  | _, _, .nil => .nil
  | _, _, .cons h t => .cons h (RSs.ofP t)
theorem RSs.get : ∀ {xs : List SV} {vs : List V} {i : Nat} {x : SV}, RSs K m H xs vs → xs[i]? = some x → ∃ v, vs[i]? = some v ∧ RS K m H x v
  | _, _, _, _, .nil, e => by simp at e
  | _, _, 0, _, .cons h _, e => by simp at e; subst e; exact ⟨_, rfl, h⟩
  | _, _, i + 1, _, .cons _ t, e => by
    obtain ⟨u, h1, h2⟩ := RSs.get (i := i) t (by simpa using e)
    exact ⟨u, by simpa using h1, h2⟩
theorem RSs.app : ∀ {xs ys : List SV} {vs ws : List V}, RSs K m H xs vs → RSs K m H ys ws → RSs K m H (xs ++ ys) (vs ++ ws)
  | _, _, _, _, .nil, s => s
  | _, _, _, _, .cons h t, s => .cons h (RSs.app t s)
theorem RSs.len {xs : List SV} {vs : List V} (r : RSs K m H xs vs) : xs.length = vs.length := Paired.length r
theorem RSs.set : ∀ {xs : List SV} {vs : List V} {x : SV} {v : V} (i : Nat), RSs K m H xs vs → RS K m H x v → RSs K m H (xs.set i x) (vs.set i v)
  | _, _, _, _, _, .nil, _ => .nil
  | _, _, _, _, 0, .cons _ t, r => .cons r t
  | _, _, _, _, i + 1, .cons q t, r => .cons q (RSs.set i t r)
theorem RSs.eraseIdx : ∀ {xs : List SV} {vs : List V} (i : Nat), RSs K m H xs vs → RSs K m H (xs.eraseIdx i) (vs.eraseIdx i)
  | _, _, _, .nil => .nil
  | _, _, 0, .cons _ t => t
  | _, _, i + 1, .cons q t => .cons q (RSs.eraseIdx i t)
theorem RSs.dropLast : ∀ {xs : List SV} {vs : List V}, RSs K m H xs vs → RSs K m H xs.dropLast vs.dropLast
  | _, _, .nil => .nil
  | _, _, .cons _ .nil => .nil
  | _, _, .cons q (.cons r t) => .cons q (RSs.dropLast (.cons r t))

/-! ### what comes of a piece -/
inductive Res (α : Type) where
  | ok (a : α) (h : List EO)
  | exc (C : Addr) (fs : List (Str × PV)) (h : List EO)
  | bad
def Res.bind {α β : Type} (r : Res α) (k : α → List EO → Res β) : Res β := match r with
  | .ok a h => k a h
  | .exc C fs h => .exc C fs h
  | .bad => .bad
/-- the exception's own dict -/
def RX (K : PySem.W.Frag) (m : List Addr) (H : Hp) (d : Option Addr) (fs : List (Str × PV)) : Prop :=
  (d = none ∧ fs = []) ∨ fs ≠ [] ∧ ∃ (dx : Addr) (ws : List (Str × V)), d = some dx ∧ H dx = some (.xd ws) ∧ dx ∉ m ∧ ws.map (·.1) = fs.map (·.1) ∧ RPs K m H (fs.map (·.2)) (ws.map (·.2))
/-- what a reading is to show, for an end Q of values that R relates -/
def Post {α β : Type} (K : PySem.W.Frag) (E : XK) (R : List Addr → Hp → α → β → Prop) (m : List Addr) (H : Hp) (r : Res α) (Q : β → Hp → Prop) : Prop := match r with
  | .ok x h' => ∀ v H' m', Stp m H m' H' → Wd K m' h' H' → R m' H' x v → Q v H'
  | .exc C fs h' => ∀ d H' m', Stp m H m' H' → Wd K m' h' H' → RX K m' H' d fs → E (.ref C) d H'
  | .bad => False
theorem Post.step {α β : Type} {E : XK} {R : List Addr → Hp → α → β → Prop} {r : Res α} {Q : β → Hp → Prop} (s : Stp m H m' H') (p : Post K E R m H r Q) : Post K E R m' H' r Q := by
  cases r with
  | ok x h' => exact fun v H2 m2 s2 => p v H2 m2 (s.trans s2)
  | exc C fs h' => exact fun d H2 m2 s2 => p d H2 m2 (s.trans s2)
  | bad => exact p
theorem Post.bind {α β γ δ : Type} {E : XK} {R : List Addr → Hp → α → β → Prop} {S : List Addr → Hp → γ → δ → Prop} {r : Res α} {k : α → List EO → Res γ} {Q : δ → Hp → Prop} {Q' : β → Hp → Prop}
    (p : Post K E S m H (r.bind k) Q) (f : ∀ x h1 v H1 m1, Stp m H m1 H1 → Wd K m1 h1 H1 → R m1 H1 x v → Post K E S m1 H1 (k x h1) Q → Q' v H1) : Post K E R m H r Q' := by
  cases r with
  | ok x h' => exact fun v H2 m2 s2 w2 r2 => f x h' v H2 m2 s2 w2 r2 (p.step s2)
  | exc C fs h' => exact p
  | bad => exact p
end

abbrev Es := List (Option SV)
/-- the slots -/
def REn (K : PySem.W.Frag) (m : List Addr) (H : Hp) (es : Es) (σ : St) : Prop := es.length = σ.length ∧ ∀ (i : Nat) (x : SV), es[i]? = some (some x) → ∃ v, σ[i]? = some (some v) ∧ RS K m H x v
theorem REn.stp {K : PySem.W.Frag} {m m' : List Addr} {H H' : Hp} {es : Es} {σ : St} (s : Stp m H m' H') (r : REn K m H es σ) : REn K m' H' es σ :=
  ⟨r.1, fun i x e => let ⟨v, e1, q⟩ := r.2 i x e; ⟨v, e1, q.stp s⟩⟩
theorem REn.set {K : PySem.W.Frag} {m : List Addr} {H : Hp} {es : Es} {σ : St} {x : SV} {v : V} (r : REn K m H es σ) (i : Nat) (q : RS K m H x v) : REn K m H (es.set i (some x)) (σ.set i (some v)) := by
  refine ⟨by simp [r.1], fun j y e => ?_⟩
  by_cases hj : i = j
  · subst hj
    have hl : i < es.length := by
      have := (List.getElem?_eq_some_iff.mp e).1
      simpa using this
    rw [List.getElem?_set_self hl] at e
    rw [List.getElem?_set_self (by rw [← r.1]; exact hl)]
    cases e
    exact ⟨v, rfl, q⟩
  · rw [List.getElem?_set_ne hj] at e
    rw [List.getElem?_set_ne hj]
    exact r.2 j y e

abbrev ME := Es → List EO → Res SV
abbrev MT := Es → List EO → Res Bool
abbrev MA := Es → List EO → Res (List SV)

end EV

-- E2
/-! E2: what expressions do, by values. -/
namespace EV
open PySem PySem.Spec L2

/-- the reading of a piece that does f -/
def tS {α β : Type} (K : PySem.W.Frag) (E : XK) (R : List Addr → Hp → α → β → Prop) (f : Es → List EO → Res α) : L2.St → Hp → (β → Hp → Prop) → Prop :=
  fun σ H Q => ∃ m h es, Wd K m h H ∧ REn K m H es σ ∧ Post K E R m H (f es h) Q
abbrev RB (_ : List Addr) (_ : Hp) (x v : Bool) : Prop := x = v
abbrev tSE (K : PySem.W.Frag) (E : XK) (f : ME) : TE := tS K E (RS K) f
abbrev tST (K : PySem.W.Frag) (E : XK) (f : MT) : TT := tS K E RB f
abbrev tSA (K : PySem.W.Frag) (E : XK) (f : MA) : TA := tS K E (RSs K) f
def DE (X : Cx) (E : XK) (e : Expr) (f : ME) : Prop := PE X e (tSE X.K E f)
def DT (X : Cx) (E : XK) (e : Expr) (f : MT) : Prop := PT X e (tST X.K E f)
def DW (X : Cx) (E : XK) (e : Expr) (f : MT) : Prop := PW X e (tST X.K E f)
def DA (X : Cx) (E : XK) (es : List Expr) (f : MA) : Prop := PA X es (tSA X.K E f)

section
variable {X : Cx} {E : XK} {e : Expr} {K : PySem.W.Frag} {m m' : List Addr} {H H' : Hp} {h h' : List EO}
theorem PE.of {t t' : TE} (p : PE X e t) (w : ∀ σ H Q, t' σ H Q → t σ H Q) : PE X e t' := ⟨fun pins s σ H Q I q => p.run pins s σ H Q I (w _ _ _ q)⟩
theorem PT.of {t t' : TT} (p : PT X e t) (w : ∀ σ H Q, t' σ H Q → t σ H Q) : PT X e t' := ⟨fun pins s σ H Q I q => p.run pins s σ H Q I (w _ _ _ q)⟩
theorem PW.of {t t' : TT} (p : PW X e t) (w : ∀ σ H Q, t' σ H Q → t σ H Q) : PW X e t' := ⟨fun wh pins s σ H Q I q => p.run wh pins s σ H Q I (w _ _ _ q)⟩
theorem PA.of {es : List Expr} {t t' : TA} (p : PA X es t) (w : ∀ σ H Q, t' σ H Q → t σ H Q) : PA X es t' := ⟨fun pos pins s σ H Q I q => p.run pos pins s σ H Q I (w _ _ _ q)⟩

/-- a value handed on, the world as it is -/
theorem Post.ok_ {α β : Type} {R : List Addr → Hp → α → β → Prop} {x : α} {v : β} {Q : β → Hp → Prop} (p : Post K E R m H (.ok x h) Q) (w : Wd K m h H) (r : R m H x v) : Q v H := p v H m (.refl m H) w r

/-! ### names, constants -/
def eVar (i : Nat) : ME := fun es h => match es[i]? with
  | some (some x) => .ok x h
  | _ => .bad
def eC (x : PV) : ME := fun _ h => .ok (.p x) h
theorem d_var (i : Nat) {x : Str} {pos : Pos} (hN : X.N[i]? = some x := by rfl) (hv : Vis X.env.scope x := by first | exact Or.inl rfl | exact Or.inr (Or.inl rfl) | exact Or.inr (Or.inr rfl)) (hd : (x == ("__debug__" : Str)) = false := by decide)
    (hcd : (x == ("__classdict__" : Str)) = false := by decide) : DE X E (.Name x pos) (eVar i) := by
  refine PE.of (pe_var hN hv hd hcd) fun σ H Q ⟨m, h, es, w, r, p⟩ => ?_
  unfold eVar at p
  split at p
  · rename_i y e
    obtain ⟨v, e1, q⟩ := r.2 i y e
    exact ⟨v, e1, p.ok_ w q⟩
  · exact p.elim
theorem d_con {x : PV} {v : V} (p : PE X e (tC v)) (r : ∀ m H, RP X.K m H x v) : DE X E e (eC x) :=
  PE.of p fun σ H Q ⟨m, h, es, w, _, p⟩ => Post.ok_ (R := RS X.K) p w (show RP _ _ _ _ _ from r m H)
theorem d_int {i j pos} : DE X E (.Constant (.int i) j pos) (eC (.int i)) := d_con pe_int fun _ _ => .int i
theorem d_bl {b j pos} : DE X E (.Constant (.bool b) j pos) (eC (.bl b)) := d_con pe_bl fun _ _ => .bl b
theorem d_non {j pos} : DE X E (.Constant .none j pos) (eC .non) := d_con pe_non fun _ _ => .non
theorem d_str {x j pos} : DE X E (.Constant (.str x) j pos) (eC (.str x)) := d_con pe_str fun _ _ => .str x
/-- a def or class of the text, as a value -/
theorem d_adr {x : Str} {a : Addr} {pos : Pos} (hg : Gl X x) (hm : X.mg x = some (.ref a)) (hd : (x == ("__debug__" : Str)) = false := by decide) : DE X E (.Name x pos) (eC (.adr a)) :=
  d_con (pe_glob (v := .ref a) hg hm rfl hd) fun _ _ => .adr a
/-- a module's constant -/
theorem d_gint {x : Str} {i : Int} {pos : Pos} (hg : Gl X x) (hm : ∃ t, X.mg x = some (.int i t)) (hd : (x == ("__debug__" : Str)) = false := by decide) : DE X E (.Name x pos) (eC (.int i)) :=
  let ⟨_, hm⟩ := hm; d_con (pe_glob (v := .int i) hg hm ⟨_, rfl⟩ hd) fun _ _ => .int i
theorem d_gstr {x s : Str} {pos : Pos} (hg : Gl X x) (hm : ∃ t, X.mg x = some (.str s t)) (hd : (x == ("__debug__" : Str)) = false := by decide) : DE X E (.Name x pos) (eC (.str s)) :=
  let ⟨_, hm⟩ := hm; d_con (pe_glob (v := .str s) hg hm ⟨_, rfl⟩ hd) fun _ _ => .str s

/-! ### two-place operations -/
abbrev F2 := SV → SV → List EO → Res SV
def DoR2 (K : PySem.W.Frag) (E : XK) (r : R2) (f : F2) : Prop := ∀ x y h vx vy m H Q, Wd K m h H → RS K m H x vx → RS K m H y vy → Post K E (RS K) m H (f x y h) Q → r vx vy H Q
def eBin (f : F2) (fa fb : ME) : ME := fun es h => (fa es h).bind fun x h1 => (fb es h1).bind fun y h2 => f x y h2
theorem tS_op {r : R2} {f : F2} {fa fb : ME} (hr : DoR2 K E r f) (σ : L2.St) (H : Hp) (Q : VK) (q : tSE K E (eBin f fa fb) σ H Q) : tOp r (tSE K E fa) (tSE K E fb) σ H Q := by
  obtain ⟨m, h, es, w, r, p⟩ := q
  refine ⟨m, h, es, w, r, p.bind fun x h1 v H1 m1 s1 w1 r1 p1 => ?_⟩
  refine ⟨m1, h1, es, w1, r.stp s1, p1.bind fun y h2 u H2 m2 s2 w2 r2 p2 => ?_⟩
  exact hr x y h2 v u m2 H2 Q w2 (r1.stp s2) r2 p2
variable {a b : Expr} {fa fb fc : ME} {pos : Pos} {f g : F2} {r r' : R2}
theorem d_op {op : Operator} (ho : OpR X (binaryOp op) r) (hr : DoR2 X.K E r f) (ha : DE X E a fa) (hb : DE X E b fb) : DE X E (.BinOp a op b pos) (eBin f fa fb) := PE.of (pe_op ho ha hb) (tS_op hr)
theorem d_cmp {op : CmpOp} (ho : OpR X (compareOp op) r) (hr : DoR2 X.K E r f) (ha : DE X E a fa) (hb : DE X E b fb) (hm : behindInMarks op b = false := by first | exact nobehind _ (by decide) (by decide) | rfl) : DE X E (.Compare a [op] [b] pos) (eBin f fa fb) := PE.of (pe_cmpR ho ha hb hm) (tS_op hr)

/-- a truth that a piece hands on -/
def asB (x : SV) (h : List EO) : Res Bool := match x with
  | .p (.bl b) => .ok b h
  | _ => .bad
def tB_ (f : ME) : MT := fun es h => (f es h).bind asB
theorem asB_ok {x : SV} {v : V} {Q : Bool → Hp → Prop} (w : Wd K m h H) (r : RS K m H x v) (p : Post K E RB m H (asB x h) Q) : ∃ k, v = .bl k ∧ Q k H := by
  unfold asB at p
  split at p
  · rename_i b
    cases (show RP _ _ _ _ _ from r)
    exact ⟨b, rfl, p.ok_ (R := RB) w rfl⟩
  · exact p.elim
theorem tS_B {f : ME} (σ : L2.St) (H : Hp) (Q : Bool → Hp → Prop) (q : tST K E (tB_ f) σ H Q) : tB (tSE K E f) σ H Q := by
  obtain ⟨m, h, es, w, r, p⟩ := q
  exact ⟨m, h, es, w, r, p.bind fun x h1 v H1 m1 s1 w1 r1 p1 => asB_ok w1 r1 p1⟩
theorem d_tcmp {op : CmpOp} (ho : OpR X (compareOp op) r) (hr : DoR2 X.K E r f) (ha : DE X E a fa) (hb : DE X E b fb) (hm : behindInMarks op b = false := by first | exact nobehind _ (by decide) (by decide) | rfl) : DT X E (.Compare a [op] [b] pos) (tB_ (eBin f fa fb)) := by
  refine PT.of (pt_cmpR ho ha hb hm) fun σ H Q q => ?_
  exact (show tTest (tOp r _ _) σ H Q from tS_op hr σ H _ (by
    obtain ⟨m, h, es, w, r, p⟩ := q
    exact ⟨m, h, es, w, r, p.bind fun x h1 v H1 m1 s1 w1 r1 p1 => asB_ok w1 r1 p1⟩))
theorem d_tval {e : Expr} {f : ME} (d : DE X E e f) (he : ∀ whole, isTrue e X.env whole = (do let v ← whole; standAt e.pos; holding [v] (truthy v)) := by intro _; rfl) : DT X E e (tB_ f) := PT.of (pt_val d he) tS_B

/-- a chain of two -/
def eChain (f g : F2) (fa fb fc : ME) : ME := fun es h => (fa es h).bind fun x h1 => (fb es h1).bind fun y h2 => (f x y h2).bind fun z h3 => match z with
  | .p (.bl true) => (fc es h3).bind fun u h4 => g y u h4
  | .p (.bl false) => .ok (.p (.bl false)) h3
  | _ => .bad
theorem tS_chain (hr : DoR2 K E r f) (hr' : DoR2 K E r' g) (σ : L2.St) (H : Hp) (Q : VK) (q : tSE K E (eChain f g fa fb fc) σ H Q) : tChain r r' (tSE K E fa) (tSE K E fb) (tSE K E fc) σ H Q := by
  obtain ⟨m, h, es, w, r, p⟩ := q
  refine ⟨m, h, es, w, r, p.bind fun x h1 v H1 m1 s1 w1 r1 p1 => ?_⟩
  refine ⟨m1, h1, es, w1, r.stp s1, p1.bind fun y h2 u H2 m2 s2 w2 r2 p2 => ?_⟩
  refine hr x y h2 v u m2 H2 _ w2 (r1.stp s2) r2 (p2.bind fun z h3 vz H3 m3 s3 w3 r3 p3 => ?_)
  split at p3
  · cases (show RP _ _ _ _ _ from r3)
    refine ⟨true, rfl, ?_⟩
    rw [if_pos rfl]
    refine ⟨m3, h3, es, w3, (r.stp s1).stp (s2.trans s3), p3.bind fun t h4 vt H4 m4 s4 w4 r4 p4 => ?_⟩
    exact hr' y t h4 u vt m4 H4 Q w4 (r2.stp (s3.trans s4)) r4 p4
  · cases (show RP _ _ _ _ _ from r3)
    refine ⟨false, rfl, ?_⟩
    rw [if_neg Bool.false_ne_true]
    exact p3.ok_ (R := RS K) w3 (show RP _ _ _ _ _ from .bl false)
  · exact p3.elim
theorem d_chain {c : Expr} {op op' : CmpOp} (ho : OpR X (compareOp op) r) (ho' : OpR X (compareOp op') r') (hr : DoR2 X.K E r f) (hr' : DoR2 X.K E r' g) (ha : DE X E a fa) (hb : DE X E b fb) (hc : DE X E c fc)
    (hm : lastMarks [op, op'] [b, c] = false := by with_unfolding_all rfl) : DE X E (.Compare a [op, op'] [b, c] pos) (eChain f g fa fb fc) := PE.of (pe_chain ho ho' ha hb hc hm) (tS_chain hr hr')
theorem d_tchain {c : Expr} {op op' : CmpOp} (ho : OpR X (compareOp op) r) (ho' : OpR X (compareOp op') r') (hr : DoR2 X.K E r f) (hr' : DoR2 X.K E r' g) (ha : DE X E a fa) (hb : DE X E b fb) (hc : DE X E c fc)
    (hm : lastMarks [op, op'] [b, c] = false := by with_unfolding_all rfl) : DT X E (.Compare a [op, op'] [b, c] pos) (tB_ (eChain f g fa fb fc)) := by
  refine PT.of (pt_chain ho ho' ha hb hc hm) fun σ H Q q => ?_
  exact (show tTest (tChain r r' _ _ _) σ H Q from tS_chain hr hr' σ H _ (by
    obtain ⟨m, h, es, w, r, p⟩ := q
    exact ⟨m, h, es, w, r, p.bind fun x h1 v H1 m1 s1 w1 r1 p1 => asB_ok w1 r1 p1⟩))

/-! ### tests -/
variable {ta tb : MT} {rest : List Expr}
def tAnd_ (f g : MT) : MT := fun es h => (f es h).bind fun b h1 => if b = true then g es h1 else .ok false h1
def tOr_ (f g : MT) : MT := fun es h => (f es h).bind fun b h1 => if b = true then .ok true h1 else g es h1
def tNot_ (f : MT) : MT := fun es h => (f es h).bind fun b h1 => .ok (!b) h1
theorem d_and1 (ha : DT X E a ta) : DW X E (.BoolOp .And [a] pos) ta := pw_and1 ha
theorem d_or1 (ha : DT X E a ta) : DW X E (.BoolOp .Or [a] pos) ta := pw_or1 ha
theorem d_and (ha : DT X E a ta) (hb : DW X E (.BoolOp .And (b :: rest) pos) tb) : DW X E (.BoolOp .And (a :: b :: rest) pos) (tAnd_ ta tb) := by
  refine PW.of (pw_and ha hb) fun σ H Q ⟨m, h, es, w, r, p⟩ => ⟨m, h, es, w, r, p.bind fun x h1 v H1 m1 s1 w1 r1 p1 => ?_⟩
  cases (show x = v from r1)
  split at p1
  · rename_i e
    rw [if_pos e]
    exact ⟨m1, h1, es, w1, r.stp s1, p1⟩
  · rename_i e
    rw [if_neg e]
    exact p1.ok_ (R := RB) w1 rfl
theorem d_or (ha : DT X E a ta) (hb : DW X E (.BoolOp .Or (b :: rest) pos) tb) : DW X E (.BoolOp .Or (a :: b :: rest) pos) (tOr_ ta tb) := by
  refine PW.of (pw_or ha hb) fun σ H Q ⟨m, h, es, w, r, p⟩ => ⟨m, h, es, w, r, p.bind fun x h1 v H1 m1 s1 w1 r1 p1 => ?_⟩
  cases (show x = v from r1)
  split at p1
  · rename_i e
    rw [if_pos e]
    exact p1.ok_ (R := RB) w1 rfl
  · rename_i e
    rw [if_neg e]
    exact ⟨m1, h1, es, w1, r.stp s1, p1⟩
theorem d_w (d : DW X E e ta) : DT X E e ta := PW.pt d
theorem d_tnot (ha : DT X E a ta) : DT X E (.UnaryOp .Not a pos) (tNot_ ta) := by
  refine PT.of (pt_not ha) fun σ H Q ⟨m, h, es, w, r, p⟩ => ⟨m, h, es, w, r, p.bind fun x h1 v H1 m1 s1 w1 r1 p1 => ?_⟩
  cases (show x = v from r1)
  exact p1.ok_ (R := RB) w1 rfl
/-! the same as values, of bools -/
def eAnd (f g : ME) : ME := fun es h => (f es h).bind fun x h1 => (asB x h1).bind fun b h2 => if b = true then g es h2 else .ok (.p (.bl false)) h2
def eOr (f g : ME) : ME := fun es h => (f es h).bind fun x h1 => (asB x h1).bind fun b h2 => if b = true then .ok (.p (.bl true)) h2 else g es h2
def eNot (f : ME) : ME := fun es h => (f es h).bind fun x h1 => (asB x h1).bind fun b h2 => .ok (.p (.bl (!b))) h2
theorem d_one {op} (h : DE X E a fa) : DE X E (.BoolOp op [a] pos) fa := pe_one h
theorem asB_bind {α β : Type} {R : List Addr → Hp → α → β → Prop} {x : SV} {v : V} {k : Bool → List EO → Res α} {Q : β → Hp → Prop} (r : RS K m H x v) (p : Post K E R m H ((asB x h).bind k) Q) : ∃ c, v = .bl c ∧ Post K E R m H (k c h) Q := by
  unfold asB at p
  split at p
  · cases (show RP _ _ _ _ _ from r)
    exact ⟨_, rfl, p⟩
  · exact p.elim
theorem d_eand (ha : DE X E a fa) (hb : DE X E (.BoolOp .And (b :: rest) pos) fb) : DE X E (.BoolOp .And (a :: b :: rest) pos) (eAnd fa fb) := by
  refine PE.of (pe_and ha hb) fun σ H Q ⟨m, h, es, w, r, p⟩ => ⟨m, h, es, w, r, p.bind fun x h1 v H1 m1 s1 w1 r1 p1 => ?_⟩
  obtain ⟨c, e, p2⟩ := asB_bind r1 p1
  refine ⟨c, e, ?_⟩
  split at p2
  · rename_i e
    rw [if_pos e]
    exact ⟨m1, h1, es, w1, r.stp s1, p2⟩
  · rename_i e
    rw [if_neg e]
    exact p2.ok_ (R := RS X.K) w1 (show RP _ _ _ _ _ from .bl false)
theorem d_eor (ha : DE X E a fa) (hb : DE X E (.BoolOp .Or (b :: rest) pos) fb) : DE X E (.BoolOp .Or (a :: b :: rest) pos) (eOr fa fb) := by
  refine PE.of (pe_or ha hb) fun σ H Q ⟨m, h, es, w, r, p⟩ => ⟨m, h, es, w, r, p.bind fun x h1 v H1 m1 s1 w1 r1 p1 => ?_⟩
  obtain ⟨c, e, p2⟩ := asB_bind r1 p1
  refine ⟨c, e, ?_⟩
  split at p2
  · rename_i e
    rw [if_pos e]
    exact p2.ok_ (R := RS X.K) w1 (show RP _ _ _ _ _ from .bl true)
  · rename_i e
    rw [if_neg e]
    exact ⟨m1, h1, es, w1, r.stp s1, p2⟩
theorem d_enot (ha : DE X E a fa) : DE X E (.UnaryOp .Not a pos) (eNot fa) := by
  refine PE.of (pe_not ha) fun σ H Q ⟨m, h, es, w, r, p⟩ => ⟨m, h, es, w, r, p.bind fun x h1 v H1 m1 s1 w1 r1 p1 => ?_⟩
  obtain ⟨c, e, p2⟩ := asB_bind r1 p1
  exact ⟨c, e, p2.ok_ (R := RS X.K) w1 (show RP _ _ _ _ _ from .bl (!c))⟩
def eIf (t : MT) (f g : ME) : ME := fun es h => (t es h).bind fun b h1 => if b = true then f es h1 else g es h1
theorem d_if {c : Expr} {tc : MT} (hc : DT X E c tc) (ha : DE X E a fa) (hb : DE X E b fb) : DE X E (.IfExp c a b pos) (eIf tc fa fb) := by
  refine PE.of (pe_ifExp hc ha hb) fun σ H Q ⟨m, h, es, w, r, p⟩ => ⟨m, h, es, w, r, p.bind fun x h1 v H1 m1 s1 w1 r1 p1 => ?_⟩
  cases (show x = v from r1)
  split at p1
  · rename_i e
    rw [if_pos e]
    exact ⟨m1, h1, es, w1, r.stp s1, p1⟩
  · rename_i e
    rw [if_neg e]
    exact ⟨m1, h1, es, w1, r.stp s1, p1⟩

/-! ### argument lists, displays -/
def aNil : MA := fun _ h => .ok [] h
def aCons (f : ME) (g : MA) : MA := fun es h => (f es h).bind fun x h1 => (g es h1).bind fun xs h2 => .ok (x :: xs) h2
theorem d_anil : DA X E [] aNil := PA.of pa_nil fun σ H Q ⟨m, h, es, w, r, p⟩ => p.ok_ (R := RSs X.K) w .nil
theorem d_acons {es : List Expr} {ga : MA} (ha : DE X E e fa) (hr : DA X E es ga) (hs : starEach (e :: es) X.env = (false, eval e X.env) :: starEach es X.env := by rfl) : DA X E (e :: es) (aCons fa ga) := by
  refine PA.of (pa_cons ha hr hs) fun σ H Q ⟨m, h, en, w, r, p⟩ => ⟨m, h, en, w, r, p.bind fun x h1 v H1 m1 s1 w1 r1 p1 => ?_⟩
  refine ⟨m1, h1, en, w1, r.stp s1, p1.bind fun xs h2 vs H2 m2 s2 w2 r2 p2 => ?_⟩
  exact p2.ok_ (R := RSs X.K) w2 (.cons (r1.stp s2) r2)

/-- all pure -/
def allP : List SV → Option (List PV)
  | [] => some []
  | .p x :: r => (allP r).map (x :: ·)
  | .ref _ :: _ => none
theorem allP_rel : ∀ {xs : List SV} {ys : List PV} {vs : List V}, allP xs = some ys → RSs K m H xs vs → RPs K m H ys vs
  | [], _, _, e, .nil => by cases e; exact .nil
  | .p x :: r, ys, _, e, .cons q t => by
    unfold allP at e
    cases z : allP r with
    | none => rw [z] at e; cases e
    | some l =>
      rw [z] at e
      cases e
      exact .cons q (allP_rel z t)
  | .ref _ :: _, _, _, e, _ => by cases e
/-- a new list: one that may change, or one that never does -/
def mkL (mu : Bool) (xs : List SV) (h : List EO) : Res SV := if xs.length ≤ sizeLine then (if mu = true then .ok (.ref h.length) (h ++ [.lst xs]) else match allP xs with
  | some ys => .ok (.p (.fl ys)) h
  | none => .bad) else .bad
theorem mkL_ok {mu : Bool} {xs : List SV} {vs : List V} {Q : VK} (w : Wd K m h H) (r : RSs K m H xs vs) (p : Post K E (RS K) m H (mkL mu xs h) Q) : vs.length ≤ sizeLine ∧ ∀ a, H a = none → Q (.ref a) (upd H a (.lst vs)) := by
  unfold mkL at p
  split at p
  · rename_i hl
    refine ⟨by rw [← r.len]; exact hl, fun a ha => ?_⟩
    split at p
    · have st : Stp m H (m ++ [a]) (upd H a (.lst vs)) := ⟨⟨[a], rfl, fun x hx => by rw [List.mem_singleton.mp hx]; exact ⟨w.new ha, ha⟩⟩, fun b o n e => by rw [upd_ne (ne_of_none e ha)]; exact e⟩
      obtain ⟨w2, s2⟩ := w.push (o := .lst xs) ha ⟨vs, upd_same, r.stp st⟩
      exact p _ _ _ s2 w2 ⟨a, by rw [List.getElem?_append_right (by rw [w.len]; exact Nat.le_refl _), w.len]; simp, rfl⟩
    · split at p
      · rename_i ys e
        exact p _ _ _ (Stp.new w ha) (w.fresh ha) (show RP _ _ _ _ _ from .fl upd_same (w.new ha) ((allP_rel e r).stp (Stp.new w ha)))
      · exact p.elim
  · exact p.elim
def mkT (xs : List SV) (h : List EO) : Res SV := if xs.length ≤ sizeLine then (match allP xs with
  | some ys => .ok (.p (.tup ys)) h
  | none => .bad) else .bad
theorem mkT_ok {xs : List SV} {vs : List V} {Q : VK} (w : Wd K m h H) (r : RSs K m H xs vs) (p : Post K E (RS K) m H (mkT xs h) Q) : vs.length ≤ sizeLine ∧ ∀ a, H a = none → Q (.ref a) (upd H a (.tup vs)) := by
  unfold mkT at p
  split at p
  · rename_i hl
    refine ⟨by rw [← r.len]; exact hl, fun a ha => ?_⟩
    split at p
    · rename_i ys e
      exact p _ _ _ (Stp.new w ha) (w.fresh ha) (show RP _ _ _ _ _ from .tup upd_same (w.new ha) ((allP_rel e r).stp (Stp.new w ha)))
    · exact p.elim
  · exact p.elim
def eTup (g : MA) : ME := fun es h => (g es h).bind fun xs h1 => mkT xs h1
def eLst (mu : Bool) (g : MA) : ME := fun es h => (g es h).bind fun xs h1 => mkL mu xs h1
theorem d_tup {es : List Expr} {ga : MA} {x1} (h : DA X E es ga) : DE X E (.Tuple es x1 pos) (eTup ga) :=
  PE.of (pe_tup h) fun σ H Q ⟨m, h, en, w, r, p⟩ => ⟨m, h, en, w, r, p.bind fun x h1 v H1 m1 s1 w1 r1 p1 => mkT_ok w1 r1 p1⟩
theorem d_lst (mu : Bool) {es : List Expr} {ga : MA} (h : DA X E es ga) : DE X E (.List es pos) (eLst mu ga) :=
  PE.of (pe_lst h) fun σ H Q ⟨m, h, en, w, r, p⟩ => ⟨m, h, en, w, r, p.bind fun x h1 v H1 m1 s1 w1 r1 p1 => mkL_ok w1 r1 p1⟩
end
end EV

-- E3
/-! E3: operators, built-ins, methods, subscripts, fields: by values. -/
namespace EV
open PySem PySem.Spec L2

section
variable {X : Cx} {E : XK} {e : Expr} {K : PySem.W.Frag} {m m' : List Addr} {H H' : Hp} {h h' : List EO}

/-! ### what stands behind a value -/
/-- a list's items -/
def lstOf (h : List EO) (x : SV) : Option (List SV) := match x with
  | .p (.fl xs) => some (xs.map .p)
  | .ref n => match h[n]? with
    | some (.lst xs) => some xs
    | _ => none
  | _ => none
theorem lst_is {x : SV} {v : V} {xs : List SV} (w : Wd K m h H) (r : RS K m H x v) (e : lstOf h x = some xs) : ∃ a vs, v = .ref a ∧ H a = some (.lst vs) ∧ RSs K m H xs vs := by
  unfold lstOf at e
  split at e
  · cases e
    cases (show RP _ _ _ _ _ from r) with
    | fl h1 h2 h3 => exact ⟨_, _, rfl, h1, .ofP h3⟩
  · rename_i n
    obtain ⟨a, ea, rfl⟩ := r
    split at e
    · rename_i ys eh
      cases e
      obtain ⟨vs, q, r⟩ := w.at_ n _ a eh ea
      exact ⟨a, vs, rfl, q, r⟩
    · cases e
  · cases e
/-- a tuple's items -/
def tupOf (x : SV) : Option (List PV) := match x with
  | .p (.tup xs) => some xs
  | .p (.ktp xs) => some xs
  | .p (.ftp xs) => some xs
  | _ => none
theorem tup_is {x : SV} {v : V} {xs : List PV} (r : RS K m H x v) (e : tupOf x = some xs) : ∃ a vs, v = .ref a ∧ SqT K H a vs ∧ RPs K m H xs vs := by
  unfold tupOf at e
  split at e
  · cases e
    cases (show RP _ _ _ _ _ from r) with
    | tup h1 h2 h3 => exact ⟨_, _, rfl, SqT.of h1, h3⟩
  · cases e
    cases (show RP _ _ _ _ _ from r) with
    | ktp h1 h3 => exact ⟨_, _, rfl, .inr h1, h3⟩
  · cases e
    cases (show RP _ _ _ _ _ from r) with
    | ftp h1 hz h2 h3 => exact ⟨_, _, rfl, .inl (.inr ⟨_, h1⟩), h3⟩
  · cases e
/-- the items of a list (also the script's) or a tuple -/
def seqOf (h : List EO) (x : SV) : Option (List SV) := match x with
  | .p (.tup xs) => some (xs.map .p)
  | .p (.ktp xs) => some (xs.map .p)
  | .p (.ftp xs) => some (xs.map .p)
  | .p (.fz xs) => some (xs.map .p)
  | x => lstOf h x
theorem seq_is {x : SV} {v : V} {xs : List SV} (w : Wd K m h H) (r : RS K m H x v) (e : seqOf h x = some xs) : ∃ a vs, v = .ref a ∧ (SqL K H a vs ∨ SqT K H a vs) ∧ RSs K m H xs vs := by
  unfold seqOf at e
  split at e
  · rename_i ys
    cases e
    obtain ⟨a, vs, e1, e2, e3⟩ := tup_is (xs := ys) r rfl
    exact ⟨a, vs, e1, .inr e2, .ofP e3⟩
  · rename_i ys
    cases e
    obtain ⟨a, vs, e1, e2, e3⟩ := tup_is (xs := ys) r rfl
    exact ⟨a, vs, e1, .inr e2, .ofP e3⟩
  · rename_i ys
    cases e
    obtain ⟨a, vs, e1, e2, e3⟩ := tup_is (xs := ys) r rfl
    exact ⟨a, vs, e1, .inr e2, .ofP e3⟩
  · cases e
    cases (show RP _ _ _ _ _ from r) with
    | fz h1 h3 => exact ⟨_, _, rfl, .inl h1.sq, .ofP h3⟩
  · obtain ⟨a, vs, e1, e2, e3⟩ := lst_is w r e
    exact ⟨a, vs, e1, .inl (SqL.of e2), e3⟩
theorem RP.int_inv {x : PV} {i : Int} : RP K m H x (.int i) → x = .int i
  | .int _ => rfl
theorem allP_map : ∀ xs : List PV, allP (xs.map .p) = some xs
  | [] => rfl
  | x :: r => by simp [allP, allP_map r]

/-! ### + -/
def opAdd (mu : Bool) : F2 := fun x y h => match x, y with
  | .p (.int i), .p (.int j) => .ok (.p (.int (i + j))) h
  | .p (.str a), .p (.str b) => if a.length + b.length ≤ sizeLine then .ok (.p (.str (a ++ b))) h else .bad
  | x, y => match tupOf x, tupOf y with
    | some xs, some ys => if xs.length + ys.length ≤ sizeLine then .ok (if xs.isEmpty = true then y else if ys.isEmpty = true then x else .p (.tup (xs ++ ys))) h else .bad
    | _, _ => match lstOf h x, lstOf h y with
      | some xs, some ys => if xs.length + ys.length ≤ sizeLine then mkL mu (xs ++ ys) h else .bad
      | _, _ => .bad
abbrev rAddAll (K : PySem.W.Frag) : R2 := fun x y H Q => (rI0 (fun i j => V.int (i + j)) x y H Q) ∨ ((∃ i j, x = .str i ∧ y = .str j ∧ i.length + j.length ≤ sizeLine ∧ Q (.str (i ++ j)) H) ∨ (rCatA K x y H Q ∨ rCat x y H Q))
theorem o_add : OpR X (binaryOp .Add) (rAddAll X.K) := op_add.or (op_add_str.or (op_catA.or op_cat))
theorem r_add (mu : Bool) : DoR2 K E (rAddAll K) (opAdd mu) := by
  intro x y h vx vy m H Q w rx ry p
  unfold opAdd at p
  split at p
  · cases (show RP _ _ _ _ _ from rx)
    cases (show RP _ _ _ _ _ from ry)
    exact .inl ⟨_, _, rfl, rfl, p.ok_ (R := RS K) w (show RP _ _ _ _ _ from .int _)⟩
  · cases (show RP _ _ _ _ _ from rx)
    cases (show RP _ _ _ _ _ from ry)
    split at p
    · rename_i hl
      exact .inr (.inl ⟨_, _, rfl, rfl, hl, p.ok_ (R := RS K) w (show RP _ _ _ _ _ from .str _)⟩)
    · exact p.elim
  · split at p
    · rename_i xs ys e1 e2
      split at p
      · rename_i hl
        obtain ⟨a, vs, rfl, ha, ra⟩ := tup_is rx e1
        obtain ⟨b, us, rfl, hb, rb⟩ := tup_is ry e2
        refine .inr (.inr (.inl ⟨a, b, vs, us, rfl, rfl, ha, hb, by rw [← ra.len, ← rb.len]; exact hl, fun e => ?_, fun e1 e2 => ?_, fun e1 e2 c hc => ?_⟩))
        · subst e
          cases ra
          exact p.ok_ (R := RS K) w ry
        · subst e2
          cases rb
          cases ra with
          | nil => exact (e1 rfl).elim
          | cons _ _ => exact p.ok_ (R := RS K) w rx
        · cases ra with
          | nil => exact (e1 rfl).elim
          | cons q1 q2 =>
            cases rb with
            | nil => exact (e2 rfl).elim
            | cons q3 q4 => exact p _ _ _ (Stp.new w hc) (w.fresh hc) (show RP _ _ _ _ _ from .tup upd_same (w.new hc) (((RPs.cons q1 q2).app (.cons q3 q4)).stp (Stp.new w hc)))
      · exact p.elim
    · split at p
      · rename_i xs ys e1 e2
        split at p
        · rename_i hl
          obtain ⟨a, vs, rfl, ha, ra⟩ := lst_is w rx e1
          obtain ⟨b, us, rfl, hb, rb⟩ := lst_is w ry e2
          exact .inr (.inr (.inr ⟨a, b, vs, us, rfl, rfl, ha, hb, by rw [← ra.len, ← rb.len]; exact hl, (mkL_ok w (ra.app rb) p).2⟩))
        · exact p.elim
      · exact p.elim
/-! ### - * // % ** -/
def opInt (C : Int → Int → Bool) (g : Int → Int → Int) : F2 := fun x y h => match x, y with
  | .p (.int i), .p (.int j) => if C i j = true then .ok (.p (.int (g i j))) h else .bad
  | _, _ => .bad
theorem r_int {C : Int → Int → Prop} {c : Int → Int → Bool} {g : Int → Int → Int} (hc : ∀ i j, c i j = true → C i j) : DoR2 K E (rI C fun i j => .int (g i j)) (opInt c g) := by
  intro x y h vx vy m H Q w rx ry p
  unfold opInt at p
  split at p
  · cases (show RP _ _ _ _ _ from rx)
    cases (show RP _ _ _ _ _ from ry)
    split at p
    · rename_i e
      exact ⟨_, _, rfl, rfl, hc _ _ e, p.ok_ (R := RS K) w (show RP _ _ _ _ _ from .int _)⟩
    · exact p.elim
  · exact p.elim
abbrev opSub : F2 := opInt (fun _ _ => true) fun i j => i - j
theorem r_sub : DoR2 K E (rI0 fun i j => .int (i - j)) opSub := fun x y h vx vy m H Q w rx ry p => by
  obtain ⟨i, j, e1, e2, _, q⟩ := r_int (C := fun _ _ => True) (fun _ _ _ => trivial) x y h vx vy m H Q w rx ry p
  exact ⟨i, j, e1, e2, q⟩
def mulC (i j : Int) : Bool := decide (i.natAbs < 2 ^ 63 ∨ j.natAbs < 2 ^ 63)
def CMulS (i j : Int) : Prop := i.natAbs < 2 ^ 63 ∨ j.natAbs < 2 ^ 63
theorem CMulS.ok {i j : Int} (h : CMulS i j) : PySem.IntMulOk i j := by
  rcases h with h | h
  · exact .of_left (PySem.intBits_le_64 (by omega) (by omega))
  · exact .of_right (PySem.intBits_le_64 (by omega) (by omega))
theorem op_mulS : OpR X (binaryOp .Mult) (rI CMulS fun i j => .int (i * j)) := opI fun _ _ _ _ _ _ _ hc q => PyProof.Rows.mul_int q hc.ok
/-- ints; a list so often -/
def opMul (mu : Bool) : F2 := fun x y h => match x, y with
  | .p (.int i), .p (.int j) => if mulC i j = true then .ok (.p (.int (i * j))) h else .bad
  | x, .p (.int k) => match lstOf h x with
    | some xs => if -(2 ^ 63) ≤ k ∧ k < 2 ^ 63 ∧ xs.length * k.toNat ≤ sizeLine then mkL mu (List.replicate k.toNat xs).flatten h else .bad
    | none => .bad
  | _, _ => .bad
abbrev rMulAll : R2 := fun x y H Q => rI CMulS (fun i j => V.int (i * j)) x y H Q ∨ rRep x y H Q
theorem o_mul : OpR X (binaryOp .Mult) rMulAll := op_mulS.or op_rep
theorem RSs.rep {xs : List SV} {vs : List V} (r : RSs K m H xs vs) : ∀ k : Nat, RSs K m H (List.replicate k xs).flatten (List.replicate k vs).flatten
  | 0 => .nil
  | k + 1 => by
    rw [List.replicate_succ, List.replicate_succ, List.flatten_cons, List.flatten_cons]
    exact RSs.app r (RSs.rep r k)
theorem r_mul (mu : Bool) : DoR2 K E rMulAll (opMul mu) := by
  intro x y h vx vy m H Q w rx ry p
  unfold opMul at p
  split at p
  · cases (show RP _ _ _ _ _ from rx)
    cases (show RP _ _ _ _ _ from ry)
    split at p
    · rename_i e
      exact .inl ⟨_, _, rfl, rfl, show _ ∨ _ from of_decide_eq_true e, p.ok_ (R := RS K) w (show RP _ _ _ _ _ from .int _)⟩
    · exact p.elim
  · cases (show RP _ _ _ _ _ from ry)
    split at p
    · rename_i xs e1
      split at p
      · rename_i hl
        obtain ⟨a, vs, rfl, ha, ra⟩ := lst_is w rx e1
        exact .inr ⟨a, _, vs, rfl, rfl, ha, hl.1, hl.2.1, by rw [← ra.len]; exact hl.2.2, (mkL_ok w (ra.rep _) p).2⟩
      · exact p.elim
    · exact p.elim
  · exact p.elim
abbrev opMod : F2 := opInt (fun _ j => decide (j ≠ 0)) fun i j => i.fmod j
theorem r_mod : DoR2 K E (rI (fun _ j => j ≠ 0) fun i j => .int (i.fmod j)) opMod := r_int fun _ _ e => of_decide_eq_true e
abbrev opFdiv : F2 := opInt (fun _ j => decide (j ≠ 0 ∧ j.natAbs < 1073741824)) fun i j => i.fdiv j
theorem r_fdiv : DoR2 K E (rI CDivN fun i j => .int (i.fdiv j)) opFdiv := r_int fun _ _ e => show _ ∧ _ from of_decide_eq_true e
abbrev opPow : F2 := opInt (fun i j => decide (0 ≤ j ∧ j ≤ 1000000 ∧ i.natAbs < 2 ^ 64)) fun i j => i ^ j.toNat
theorem r_pow : DoR2 K E (rI CPow fun i j => .int (i ^ j.toNat)) opPow := r_int fun _ _ e => show _ ∧ _ ∧ _ from of_decide_eq_true e
/-! ### comparisons of ints -/
def opCmp (g : Int → Int → Bool) : F2 := fun x y h => match x, y with
  | .p (.int i), .p (.int j) => .ok (.p (.bl (g i j))) h
  | _, _ => .bad
theorem r_cmp {g : Int → Int → Bool} : DoR2 K E (rI0 fun i j => .bl (g i j)) (opCmp g) := by
  intro x y h vx vy m H Q w rx ry p
  unfold opCmp at p
  split at p
  · cases (show RP _ _ _ _ _ from rx)
    cases (show RP _ _ _ _ _ from ry)
    exact ⟨_, _, rfl, rfl, p.ok_ (R := RS K) w (show RP _ _ _ _ _ from .bl _)⟩
  · exact p.elim
abbrev opLt : F2 := opCmp fun i j => decide (i < j)
abbrev opLe : F2 := opCmp fun i j => decide (i ≤ j)
abbrev opGt : F2 := opCmp fun i j => decide (j < i)
abbrev opGe : F2 := opCmp fun i j => decide (j ≤ i)
/-! ### data -/
mutual
/-- a pure value as data: none, bools, ints, texts, lists, tuples -/
def toD : PV → Option PyData
  | .non => some .none
  | .bl b => some (.bool b)
  | .int i => some (.int i)
  | .str s => some (.str s)
  | .tup xs => (toDs xs).map .tuple
  | .ktp xs => (toDs xs).map .tuple
  | .ftp xs => (toDs xs).map .tuple
  | .fl xs => (toDs xs).map .list
  | _ => none
def toDs : List PV → Option (List PyData)
  | [] => some []
  | x :: r => match toD x, toDs r with
    | some d, some ds => some (d :: ds)
    | _, _ => none
end
mutual
theorem toD_is : ∀ {x : PV} {v : V} {d : PyData}, toD x = some d → RP K m H x v → Dp K H v d
  | .non, _, _, e, .non => by simp only [toD] at e; cases e; exact .non
  | .bl b, _, _, e, .bl _ => by simp only [toD] at e; cases e; exact .bl b
  | .int b, _, _, e, .int _ => by simp only [toD] at e; cases e; exact .int b
  | .str b, _, _, e, .str _ => by simp only [toD] at e; cases e; exact .str b
  | .tup xs, _, _, e, .tup h n r => by
    simp only [toD] at e
    cases z : toDs xs with
    | none => rw [z] at e; cases e
    | some ds => rw [z] at e; cases e; exact .tup (SqT.of h) (toDs_is z r)
  | .ktp xs, _, _, e, .ktp h r => by
    simp only [toD] at e
    cases z : toDs xs with
    | none => rw [z] at e; cases e
    | some ds => rw [z] at e; cases e; exact .tup (.inr h) (toDs_is z r)
  | .ftp xs, _, _, e, .ftp h hz n r => by
    simp only [toD] at e
    cases z : toDs xs with
    | none => rw [z] at e; cases e
    | some ds => rw [z] at e; cases e; exact .tup (.inl (.inr ⟨_, h⟩)) (toDs_is z r)
  | .fl xs, _, _, e, .fl h n r => by
    simp only [toD] at e
    cases z : toDs xs with
    | none => rw [z] at e; cases e
    | some ds => rw [z] at e; cases e; exact .lst (SqL.of h) (toDs_is z r)
theorem toDs_is : ∀ {xs : List PV} {vs : List V} {ds : List PyData}, toDs xs = some ds → RPs K m H xs vs → DpAll K H vs ds
  | [], _, _, e, .nil => by simp only [toDs] at e; cases e; exact .nil
  | x :: r, _, _, e, .cons q t => by
    simp only [toDs] at e
    cases z : toD x with
    | none => rw [z] at e; cases e
    | some d =>
      cases z2 : toDs r with
      | none => rw [z, z2] at e; cases e
      | some ds => rw [z, z2] at e; cases e; exact .cons (toD_is z q) (toDs_is z2 t)
end
def svD (h : List EO) (x : SV) : Option PyData := match x with
  | .p x => toD x
  | x => match lstOf h x with
    | some xs => match allP xs with
      | some ys => (toDs ys).map .list
      | none => none
    | none => none
theorem svD_is {x : SV} {v : V} {d : PyData} (w : Wd K m h H) (r : RS K m H x v) (e : svD h x = some d) : Dp K H v d := by
  unfold svD at e
  split at e
  · exact toD_is e r
  · split at e
    · rename_i xs e1
      split at e
      · rename_i ys e2
        obtain ⟨a, vs, rfl, ha, ra⟩ := lst_is w r e1
        cases z : toDs ys with
        | none => rw [z] at e; cases e
        | some ds => rw [z] at e; cases e; exact .lst (SqL.of ha) (toDs_is z (allP_rel e2 ra))
      · cases e
    · cases e
def opData (g : PyData → PyData → Bool) : F2 := fun x y h => match svD h x, svD h y with
  | some d, some e => if SeqAt.shaped d = true ∧ SeqAt.shaped e = true then .ok (.p (.bl (g d e))) h else .bad
  | _, _ => .bad
theorem r_eq : DoR2 K E (rEqD K) (opData PyData.eqv) := by
  intro x y h vx vy m H Q w rx ry p
  unfold opData at p
  split at p
  · rename_i d e e1 e2
    split at p
    · rename_i hs
      exact ⟨d, e, svD_is w rx e1, svD_is w ry e2, hs.1, hs.2, p.ok_ (R := RS K) w (show RP _ _ _ _ _ from .bl _)⟩
    · exact p.elim
  · exact p.elim
theorem r_ne : DoR2 K E (rNeD K) (opData fun d e => !PyData.eqv d e) := by
  intro x y h vx vy m H Q w rx ry p
  unfold opData at p
  split at p
  · rename_i d e e1 e2
    split at p
    · rename_i hs
      exact ⟨d, e, svD_is w rx e1, svD_is w ry e2, hs.1, hs.2, p.ok_ (R := RS K) w (show RP _ _ _ _ _ from .bl _)⟩
    · exact p.elim
  · exact p.elim
/-- is None, is not None -/
def isNonP : SV → Bool
  | .p .non => true
  | _ => false
def opIsN (neg : Bool) : F2 := fun x y h => match y with
  | .p .non => .ok (.p (.bl (if neg = true then !isNonP x else isNonP x))) h
  | _ => .bad
theorem isNon_rel {x : SV} {v : V} (r : RS K m H x v) : decide (v = .non) = isNonP x := by
  cases x with
  | ref n => obtain ⟨a, _, rfl⟩ := r; rfl
  | p x => cases (show RP _ _ _ _ _ from r) <;> rfl
theorem r_isN : DoR2 K E (fun x y H Q => y = V.non ∧ Q (.bl (decide (x = .non))) H) (opIsN false) := by
  intro x y h vx vy m H Q w rx ry p
  unfold opIsN at p
  split at p
  · cases (show RP _ _ _ _ _ from ry)
    refine ⟨rfl, ?_⟩
    rw [isNon_rel rx]
    exact p.ok_ (R := RS K) w (show RP _ _ _ _ _ from .bl _)
  · exact p.elim
theorem r_notN : DoR2 K E (fun x y H Q => y = V.non ∧ Q (.bl (!decide (x = .non))) H) (opIsN true) := by
  intro x y h vx vy m H Q w rx ry p
  unfold opIsN at p
  split at p
  · cases (show RP _ _ _ _ _ from ry)
    refine ⟨rfl, ?_⟩
    rw [isNon_rel rx]
    exact p.ok_ (R := RS K) w (show RP _ _ _ _ _ from .bl _)
  · exact p.elim
/-- x in a list or tuple, by data -/
def memD (h : List EO) (x y : SV) : Option Bool := match svD h x, svD h y with
  | some d, some (.list ds) => if SeqAt.shaped d = true ∧ SeqAt.shaped (.list ds) = true then some (ds.any fun z => PyData.eqv z d) else none
  | _, _ => none
end
end EV

-- E4
/-! E4: calls of built-ins, by values. -/
namespace L2
open PySem PySem.Spec PyProof.Rows
/-! ### rules by values that the modules lack -/
section
variable {X : Cx}
def rInDT (K : PySem.W.Frag) : R2 := fun x y H Q => ∃ d ds, Dp K H x d ∧ Dp K H y (.tuple ds) ∧ SeqAt.shaped d = true ∧ SeqAt.shaped (.tuple ds) = true ∧ Q (.bl (ds.any fun z => PyData.eqv z d)) H
def rNotInDT (K : PySem.W.Frag) : R2 := fun x y H Q => ∃ d ds, Dp K H x d ∧ Dp K H y (.tuple ds) ∧ SeqAt.shaped d = true ∧ SeqAt.shaped (.tuple ds) = true ∧ Q (.bl (!ds.any fun z => PyData.eqv z d)) H
theorem op_inDT (hu : X.A.units + 65 < cLine) : OpR X (compareOp .In) (rInDT X.K) := by
  intro pins s σ H x y v u Q I rx ry h
  obtain ⟨d, ds, hd, he, sd, se, q⟩ := h
  obtain ⟨as, r1⟩ := Dp.reads I d x v hd rx
  obtain ⟨bs, r2⟩ := Dp.reads I (.tuple ds) y u he ry
  exact SeqAt.in_tuple_reads r2 r1 (SeqAt.canLay_of_shaped se) (SeqAt.canLay_of_shaped sd) (room_in_shaped sd hu) ⟨.bl _, H, I, rfl, q⟩
theorem op_notInDT (hu : X.A.units + 65 < cLine) : OpR X (compareOp .NotIn) (rNotInDT X.K) := by
  intro pins s σ H x y v u Q I rx ry h
  obtain ⟨d, ds, hd, he, sd, se, q⟩ := h
  obtain ⟨as, r1⟩ := Dp.reads I d x v hd rx
  obtain ⟨bs, r2⟩ := Dp.reads I (.tuple ds) y u he ry
  exact SeqAt.notIn_tuple_reads r2 r1 (SeqAt.canLay_of_shaped se) (SeqAt.canLay_of_shaped sd) (room_in_shaped sd hu) ⟨.bl _, H, I, rfl, q⟩
/-- a comparison's rule by values, as one of the two places -/
theorem pc_opR {op : CmpOp} {a b : Expr} {ta tb : TE} {r : R2} (ho : OpR X (compareOp op) r) (ha : PE X a ta) (hb : PE X b tb) : PC X op a b (tOp r ta tb) := by
  refine ⟨fun pins s σ H Q I h => ?_⟩
  refine thn (ha.run pins s σ H _ I h) fun v s1 ⟨x, H1, I1, r1, q1⟩ => thn (hb.run pins s1 σ H1 _ I1 q1) fun u s2 ⟨y, H2, I2, r2, q2⟩ => ?_
  exact ho pins s2 σ H2 x y v u _ I2 r1 r2 q2
theorem PC.or {op : CmpOp} {a b : Expr} {t t' : TE} (h : PC X op a b t) (h' : PC X op a b t') : PC X op a b (fun σ H Q => t σ H Q ∨ t' σ H Q) :=
  ⟨fun pins s σ H Q I q => q.elim (h.run pins s σ H Q I) (h'.run pins s σ H Q I)⟩
theorem PC.of {op : CmpOp} {a b : Expr} {t t' : TE} (h : PC X op a b t) (w : ∀ σ H Q, t' σ H Q → t σ H Q) : PC X op a b t' := ⟨fun pins s σ H Q I q => h.run pins s σ H Q I (w _ _ _ q)⟩

/-- sorted of a list of data that are alike -/
def rSortD (K : PySem.W.Frag) : List V → Hp → VK → Prop := fun vs H Q => ∃ (a : Addr) (bs : List (V × PyData)), vs = [V.ref a] ∧ SqL K H a (bs.map (·.1)) ∧ (∀ b ∈ bs, Dp K H b.1 b.2) ∧
  PySem.W.AllAlike (bs.map (·.2)) ∧ PySem.W.Sortable (bs.map (·.2)) ∧ bs.length ≤ sizeLine ∧ (∀ b ∈ bs, b.2.depth ≤ 64) ∧
  ∀ p, H p = none → Q (.ref p) (upd H p (.lst ((bs.mergeSort (PySem.W.dataLe false (·.2))).map (·.1))))
theorem eachIs_vals : ∀ {bs : List (V × PyData)} {us : List Value}, Vals (bs.map (·.1)) us → PySem.W.EachIs (fun (u : Value) (b : V × PyData) => RelV b.1 u) us bs
  | [], _, r => by cases r; exact .nil
  | b :: bs, _, r => by
    cases r with
    | cons h t => exact .cons h (eachIs_vals t)
theorem vals_eachIs : ∀ {us : List Value} {bs : List (V × PyData)}, PySem.W.EachIs (fun (u : Value) (b : V × PyData) => RelV b.1 u) us bs → Vals (bs.map (·.1)) us
  | _, _, .nil => .nil
  | _, _, .cons h t => .cons h (vals_eachIs t)
theorem cr_sortD (hu : X.A.units + 67 < cLine) : CallR X (.builtin "sorted") (rSortD X.K) := by
  intro pins s σ H vs us Q I r h
  obtain ⟨a, bs, rfl, hs, hd, hal, hk, hL, hdp, q⟩ := h
  obtain ⟨its, rv, hl, _⟩ := I.list hs
  rw [Vals.ref1 r]
  have e := eachIs_vals rv
  have er : PySem.W.EachIs (fun v (b : V × PyData) => ∃ as, Reads s.heap v b.2 as) its bs := by
    have all : ∀ {us : List Value} {cs : List (V × PyData)}, (∀ b ∈ cs, Dp X.K H b.1 b.2) → PySem.W.EachIs (fun (u : Value) (b : V × PyData) => RelV b.1 u) us cs → PySem.W.EachIs (fun v (b : V × PyData) => ∃ as, Reads s.heap v b.2 as) us cs := by
      intro us cs hc hh
      induction hh with
      | nil => exact .nil
      | cons h1 _ ih => exact .cons (Dp.reads I _ _ _ (hc _ List.mem_cons_self) h1) (ih fun b hb => hc b (List.mem_cons_of_mem _ hb))
    exact all hd e
  refine PySem.W.sorted_data hl.isList e er hal hk hL (fun b hb => ?_) fun out hlen ho => ?_
  · have := hdp b hb
    show X.A.units + 2 + b.2.depth < cLine
    omega
  · obtain ⟨ep, he'⟩ := PyProof.Rows.sortedAll_at s.heap its (List.toArray out)
    have hv : Vals ((bs.mergeSort (PySem.W.dataLe false (·.2))).map (·.1)) out := vals_eachIs ho
    have hlen2 : ((bs.mergeSort (PySem.W.dataLe false (·.2))).map (·.1)).length ≤ sizeLine := by rw [List.length_map, List.length_mergeSort]; exact hL
    exact ⟨.ref _, upd H (s.heap.objs.size + 1) (.lst ((bs.mergeSort (PySem.W.dataLe false (·.2))).map (·.1))), I.laid (t' := s.toks) (fun _ _ => PyProof.Rows.sortedAll_old) (Nat.le_succ _) ⟨hlen2, out, ep, hv, he'⟩, rfl, q _ (I.hok.fresh (Nat.le_succ _))⟩
end
end L2

namespace EV
open PySem PySem.Spec L2
section
variable {X : Cx} {E : XK} {e : Expr} {K : PySem.W.Frag} {m m' : List Addr} {H H' : Hp} {h h' : List EO} {pos : Pos}
abbrev FC := List SV → List EO → Res SV
def DoC (K : PySem.W.Frag) (E : XK) (r : List V → Hp → VK → Prop) (f : FC) : Prop := ∀ xs h vs m H Q, Wd K m h H → RSs K m H xs vs → Post K E (RS K) m H (f xs h) Q → r vs H Q
def eCall (f : FC) (g : MA) : ME := fun es h => (g es h).bind fun xs h1 => f xs h1
theorem tS_call {r : List V → Hp → VK → Prop} {f : FC} {g : MA} (hr : DoC K E r f) (σ : L2.St) (H : Hp) (Q : VK) (q : tSE K E (eCall f g) σ H Q) : tCB r (tSA K E g) σ H Q := by
  obtain ⟨m, h, es, w, r, p⟩ := q
  exact ⟨m, h, es, w, r, p.bind fun x h1 v H1 m1 s1 w1 r1 p1 => hr x h1 v m1 H1 Q w1 r1 p1⟩
variable {x : Str} {p : Pos} {es : List Expr} {g : MA} {f : FC} {r : List V → Hp → VK → Prop} {id T : String}
theorem d_callB (hc : CallR X (.builtin id) r) (hr : DoC X.K E r f) (hg : Gl X x) (hm : X.mg x = none) (hv : bootBuiltins x = some (.builtin id)) (ha : DA X E (e :: es) g) (hn : x ≠ "__name__" := by decide) (hdb : (x == ("__debug__" : Str)) = false := by decide)
    (he : starEach (e :: es) X.env = (false, eval e X.env) :: starEach es X.env := by rfl) (hpl : (backTo pos (starEach es X.env)).any (·.1) = false := by rfl) : DE X E (.Call (.Name x p) (e :: es) [] pos) (eCall f g) :=
  PE.of (pe_callB hc hg hm hv ha hn hdb he hpl) (tS_call hr)
theorem d_callTy (hc : CallR X (.type T) r) (hr : DoC X.K E r f) (hg : Gl X x) (hm : X.mg x = none) (hv : bootBuiltins x = some (.type T)) (ha : DA X E (e :: es) g) (hn : x ≠ "__name__" := by decide) (hdb : (x == ("__debug__" : Str)) = false := by decide)
    (he : starEach (e :: es) X.env = (false, eval e X.env) :: starEach es X.env := by rfl) (hpl : (backTo pos (starEach es X.env)).any (·.1) = false := by rfl) : DE X E (.Call (.Name x p) (e :: es) [] pos) (eCall f g) :=
  PE.of (pe_callTy hc hg hm hv ha hn hdb he hpl) (tS_call hr)
theorem RSs.one {x : SV} {vs : List V} : RSs K m H [x] vs → ∃ v, vs = [v] ∧ RS K m H x v
  | .cons r .nil => ⟨_, rfl, r⟩
theorem RSs.two {x y : SV} {vs : List V} : RSs K m H [x, y] vs → ∃ v u, vs = [v, u] ∧ RS K m H x v ∧ RS K m H y u
  | .cons r (.cons q .nil) => ⟨_, _, rfl, r, q⟩
/-- a built-in of one argument -/
def f1 (k : SV → List EO → Res SV) : FC := fun xs h => match xs with
  | [x] => k x h
  | _ => .bad
theorem do1 {k : SV → List EO → Res SV} {r : List V → Hp → VK → Prop} (hk : ∀ x h v m H Q, Wd K m h H → RS K m H x v → Post K E (RS K) m H (k x h) Q → r [v] H Q) : DoC K E r (f1 k) := by
  intro xs h vs m H Q w rs p
  unfold f1 at p
  split at p
  · obtain ⟨v, rfl, q⟩ := rs.one
    exact hk _ _ _ _ _ _ w q p
  · exact p.elim
def ok1 (x : PV) (h : List EO) : Res SV := .ok (.p x) h
theorem Post.okP {x : PV} {v : V} {Q : VK} (p : Post K E (RS K) m H (.ok (.p x) h) Q) (w : Wd K m h H) (r : RP K m H x v) : Q v H := p.ok_ (R := RS K) w r

/-! ### len -/
inductive DK where
  | k (kvs : List (Key × SV))
  | t (kvs : List (List Key × SV))
def dctOf (h : List EO) (x : SV) : Option DK := match x with
  | .p (.fd ks vs) => some (.k (ks.zip (vs.map .p)))
  | .p (.ft ks vs) => some (.t (ks.zip (vs.map .p)))
  | .ref n => match h[n]? with
    | some (.dic kvs) => some (.k kvs)
    | some (.dit kvs) => some (.t kvs)
    | _ => none
  | _ => none
def dctR (K : PySem.W.Frag) (m : List Addr) (H : Hp) (a : Addr) : DK → Prop
  | .k kvs => ∃ ws : List (Key × V), H a = some (.dK ws) ∧ ws.map (·.1) = kvs.map (·.1) ∧ RSs K m H (kvs.map (·.2)) (ws.map (·.2))
  | .t kvs => ∃ ws : List (List Key × V), H a = some (.dT ws) ∧ ws.map (·.1) = kvs.map (·.1) ∧ RSs K m H (kvs.map (·.2)) (ws.map (·.2))
theorem dct_is {x : SV} {v : V} {d : DK} (w : Wd K m h H) (r : RS K m H x v) (e : dctOf h x = some d) : ∃ a, v = .ref a ∧ dctR K m H a d := by
  unfold dctOf at e
  split at e
  · cases e
    cases (show RP _ _ _ _ _ from r) with
    | fd h1 h2 h3 h4 =>
      rename_i ks vs a kvs
      have hl : ks.length = (vs.map SV.p).length := by rw [← h3, List.length_map, List.length_map, h4.len, List.length_map]
      refine ⟨a, rfl, kvs, h1, ?_, ?_⟩
      · rw [List.map_fst_zip (by omega), h3]
      · rw [List.map_snd_zip (by omega)]; exact .ofP h4
  · cases e
    cases (show RP _ _ _ _ _ from r) with
    | ft h1 h2 h3 h4 =>
      rename_i ks vs a kvs
      have hl : ks.length = (vs.map SV.p).length := by rw [← h3, List.length_map, List.length_map, h4.len, List.length_map]
      refine ⟨a, rfl, kvs, h1, ?_, ?_⟩
      · rw [List.map_fst_zip (by omega), h3]
      · rw [List.map_snd_zip (by omega)]; exact .ofP h4
  · rename_i n
    obtain ⟨a, ea, rfl⟩ := r
    split at e
    · rename_i kvs eh
      cases e
      exact ⟨a, rfl, w.at_ n _ a eh ea⟩
    · rename_i kvs eh
      cases e
      exact ⟨a, rfl, w.at_ n _ a eh ea⟩
    · cases e
  · cases e
def lenK (x : SV) (h : List EO) : Res SV := match x with
  | .p (.str s) => if s.length ≤ sizeLine then .ok (.p (.int s.length)) h else .bad
  | x => match seqOf h x with
    | some xs => .ok (.p (.int xs.length)) h
    | none => match dctOf h x with
      | some (.k kvs) => .ok (.p (.int kvs.length)) h
      | some (.t kvs) => .ok (.p (.int kvs.length)) h
      | none => .bad
abbrev rLenAll (K : PySem.W.Frag) : List V → Hp → VK → Prop := fun xs H Q => (∃ x n, xs = [x] ∧ LenV K x H n ∧ Q (.int n) H) ∨ ((∃ a kvs, xs = [V.ref a] ∧ H a = some (.dK kvs) ∧ Q (.int kvs.length) H) ∨ rLenT xs H Q)
theorem c_len : CallR X (.builtin "len") (rLenAll X.K) := call_len.or (call_lenD.or call_len_dT)
theorem r_len : DoC K E (rLenAll K) (f1 lenK) := do1 fun x h v m H Q w r p => by
  unfold lenK at p
  split at p
  · cases (show RP _ _ _ _ _ from r)
    split at p
    · rename_i hl
      exact .inl ⟨_, _, rfl, ⟨hl, rfl⟩, p.okP w (.int _)⟩
    · exact p.elim
  · split at p
    · rename_i xs e
      obtain ⟨a, vs, rfl, q, ra⟩ := seq_is w r e
      refine .inl ⟨_, xs.length, rfl, ?_, p.okP w (.int _)⟩
      rcases q with q | q
      · exact .inl ⟨vs, q, ra.len⟩
      · exact .inr ⟨vs, q, ra.len⟩
    · split at p
      · rename_i kvs e
        obtain ⟨a, rfl, ws, q, e1, _⟩ := dct_is w r e
        have hl : ws.length = kvs.length := by simpa using congrArg List.length e1
        exact .inr (.inl ⟨a, ws, rfl, q, by rw [hl]; exact p.okP w (.int _)⟩)
      · rename_i kvs e
        obtain ⟨a, rfl, ws, q, e1, _⟩ := dct_is w r e
        have hl : ws.length = kvs.length := by simpa using congrArg List.length e1
        exact .inr (.inr ⟨a, ws, rfl, q, by rw [hl]; exact p.okP w (.int _)⟩)
      · exact p.elim

/-! ### abs, int -/
def absK (x : SV) (h : List EO) : Res SV := match x with
  | .p (.int i) => .ok (.p (.int (if i < 0 then -i else i))) h
  | _ => .bad
theorem r_abs : DoC K E (fun xs H Q => ∃ i, xs = [V.int i] ∧ Q (.int (if i < 0 then -i else i)) H) (f1 absK) := do1 fun x h v m H Q w r p => by
  unfold absK at p
  split at p
  · cases (show RP _ _ _ _ _ from r)
    exact ⟨_, rfl, p.okP w (.int _)⟩
  · exact p.elim
def intK (x : SV) (h : List EO) : Res SV := match x with
  | .p (.int i) => .ok (.p (.int i)) h
  | .p (.bl b) => .ok (.p (.int (if b then 1 else 0))) h
  | _ => .bad
theorem r_int1 : DoC K E (fun xs H Q => (∃ i, xs = [V.int i] ∧ Q (.int i) H) ∨ ∃ k, xs = [V.bl k] ∧ Q (.int (if k then 1 else 0)) H) (f1 intK) := do1 fun x h v m H Q w r p => by
  unfold intK at p
  split at p
  · cases (show RP _ _ _ _ _ from r)
    exact .inl ⟨_, rfl, p.okP w (.int _)⟩
  · cases (show RP _ _ _ _ _ from r)
    exact .inr ⟨_, rfl, p.okP w (.int _)⟩
  · exact p.elim

/-! ### list, tuple of a list or tuple -/
def listK (mu : Bool) (x : SV) (h : List EO) : Res SV := match seqOf h x with
  | some xs => mkL mu xs h
  | none => .bad
theorem r_list (mu : Bool) : DoC K E (fun xs H Q => ∃ p ys, xs = [V.ref p] ∧ (SqL K H p ys ∨ SqT K H p ys) ∧ ∀ l, H l = none → Q (.ref l) (upd H l (.lst ys))) (f1 (listK mu)) := do1 fun x h v m H Q w r p => by
  unfold listK at p
  split at p
  · rename_i xs e
    obtain ⟨a, vs, rfl, q, ra⟩ := seq_is w r e
    exact ⟨a, vs, rfl, q, (mkL_ok w ra p).2⟩
  · exact p.elim
def tupK (x : SV) (h : List EO) : Res SV := match tupOf x with
  | some _ => .ok x h
  | none => match lstOf h x with
    | some xs => mkT xs h
    | none => .bad
theorem r_tuple : DoC K E (fun xs H Q => ∃ p ys, xs = [V.ref p] ∧ ((SqL K H p ys ∧ ∀ l, H l = none → Q (.ref l) (upd H l (.tup ys))) ∨ (SqT K H p ys ∧ Q (.ref p) H))) (f1 tupK) := do1 fun x h v m H Q w r p => by
  unfold tupK at p
  split at p
  · rename_i xs e
    obtain ⟨a, vs, rfl, q, ra⟩ := tup_is r e
    exact ⟨a, vs, rfl, .inr ⟨q, p.ok_ (R := RS K) w r⟩⟩
  · split at p
    · rename_i xs e
      obtain ⟨a, vs, rfl, q, ra⟩ := lst_is w r e
      exact ⟨a, vs, rfl, .inl ⟨SqL.of q, (mkT_ok w ra p).2⟩⟩
    · exact p.elim

/-! ### lists of ints, of bools -/
def allInt : List SV → Option (List Int)
  | [] => some []
  | .p (.int i) :: r => (allInt r).map (i :: ·)
  | _ :: _ => none
theorem allInt_rel : ∀ {xs : List SV} {ns : List Int} {vs : List V}, allInt xs = some ns → RSs K m H xs vs → vs = ns.map V.int
  | [], _, _, e, .nil => by cases e; rfl
  | .p (.int i) :: r, ns, _, e, .cons q t => by
    simp only [allInt] at e
    cases z : allInt r with
    | none => rw [z] at e; cases e
    | some l =>
      rw [z] at e
      cases e
      cases (show RP _ _ _ _ _ from q)
      rw [List.map_cons, allInt_rel z t]
def allBl : List SV → Option (List Bool)
  | [] => some []
  | .p (.bl i) :: r => (allBl r).map (i :: ·)
  | _ :: _ => none
theorem allBl_rel : ∀ {xs : List SV} {ns : List Bool} {vs : List V}, allBl xs = some ns → RSs K m H xs vs → vs = ns.map V.bl
  | [], _, _, e, .nil => by cases e; rfl
  | .p (.bl i) :: r, ns, _, e, .cons q t => by
    simp only [allBl] at e
    cases z : allBl r with
    | none => rw [z] at e; cases e
    | some l =>
      rw [z] at e
      cases e
      cases (show RP _ _ _ _ _ from q)
      rw [List.map_cons, allBl_rel z t]
def blsK (g : List Bool → Bool) (x : SV) (h : List EO) : Res SV := match lstOf h x with
  | some xs => match allBl xs with
    | some bs => .ok (.p (.bl (g bs))) h
    | none => .bad
  | none => .bad
theorem r_bls {g : List Bool → Bool} : DoC K E (fun vs H Q => ∃ (a : Addr) (bs : List Bool), vs = [V.ref a] ∧ SqL K H a (bs.map V.bl) ∧ Q (.bl (g bs)) H) (f1 (blsK g)) := do1 fun x h v m H Q w r p => by
  unfold blsK at p
  split at p
  · rename_i xs e
    split at p
    · rename_i bs e2
      obtain ⟨a, vs, rfl, q, ra⟩ := lst_is w r e
      exact ⟨a, bs, rfl, by rw [← allBl_rel e2 ra]; exact SqL.of q, p.okP w (.bl _)⟩
    · exact p.elim
  · exact p.elim
abbrev allK := blsK (fun bs => bs.all fun b => b)
abbrev anyK := blsK (fun bs => bs.any fun b => b)
theorem r_all : DoC K E (rAll K) (f1 allK) := r_bls
theorem r_any : DoC K E (rAny K) (f1 anyK) := r_bls
def sumK (x : SV) (h : List EO) : Res SV := match lstOf h x with
  | some xs => match allInt xs with
    | some ns => .ok (.p (.int ns.sum)) h
    | none => .bad
  | none => .bad
theorem r_sum : DoC K E (rSum K) (f1 sumK) := do1 fun x h v m H Q w r p => by
  unfold sumK at p
  split at p
  · rename_i xs e
    split at p
    · rename_i bs e2
      obtain ⟨a, vs, rfl, q, ra⟩ := lst_is w r e
      exact ⟨a, bs, rfl, by rw [← allInt_rel e2 ra]; exact SqL.of q, p.okP w (.int _)⟩
    · exact p.elim
  · exact p.elim
end
end EV

-- E5
/-! E5: subscripts, slices, in, methods, fields, sorted, isinstance. -/
namespace L2
open PySem PySem.Spec PyProof.Rows
section
variable {X : Cx}
def rIxDc : R2 := fun x y H Q => ∃ a v, x = .ref a ∧ DGet H a y (some v) ∧ Q v H
theorem ix_dct (hu : X.A.units + 1 < cLine) : IxR X rIxDc := by
  intro value slice pins s σ H x y v u Q I rx ry h hs
  obtain ⟨a, z, rfl, g, q⟩ := h
  obtain rfl : v = Value.ref a := rx
  exact tail_any (dict_typeIs I g) PySem.F.slot_dict_getitem.lookup (d_getItem hu I g ry fun w' s' I' rw' => ⟨z, H, I', rw', q⟩) hs
def rInDc (neg : Bool) : R2 := fun x y H Q => ∃ a o, y = .ref a ∧ DGet H a x o ∧ Q (.bl (if neg = true then !o.isSome else o.isSome)) H
theorem op_inDc (hu : X.A.units + 1 < cLine) : OpR X (compareOp .In) (rInDc false) := by
  intro pins s σ H x y v u Q I rx ry h
  obtain ⟨a, o, rfl, g, q⟩ := h
  obtain rfl : u = Value.ref a := ry
  exact d_in hu I g rx fun s' I' => ⟨.bl o.isSome, H, I', rfl, q⟩
theorem op_notInDc (hu : X.A.units + 1 < cLine) : OpR X (compareOp .NotIn) (rInDc true) := by
  intro pins s σ H x y v u Q I rx ry h
  obtain ⟨a, o, rfl, g, q⟩ := h
  obtain rfl : u = Value.ref a := ry
  exact d_notIn hu I g rx fun s' I' => ⟨.bl (!o.isSome), H, I', rfl, q⟩
theorem PSet.or {t t' : TSet} (h : PSet X t) (h' : PSet X t') : PSet X (fun o i v H Q => t o i v H Q ∨ t' o i v H Q) :=
  fun pins s σ H o i v ov iv u Q I r1 r2 r3 q => q.elim (h pins s σ H o i v ov iv u Q I r1 r2 r3) (h' pins s σ H o i v ov iv u Q I r1 r2 r3)
end
end L2

namespace EV
open PySem PySem.Spec L2
section
variable {X : Cx} {E : XK} {e : Expr} {K : PySem.W.Frag} {m m' : List Addr} {H H' : Hp} {h h' : List EO} {pos : Pos} {a b : Expr} {fa fb : ME}

/-! ### keys -/
def keyOf : SV → Option Key
  | .p (.int i) => some (.inl i)
  | .p (.str s) => some (.inr s)
  | _ => none
theorem key_is {x : SV} {v : V} {k : Key} (r : RS K m H x v) (e : keyOf x = some k) : v = kV k := by
  unfold keyOf at e
  split at e
  · cases e; cases (show RP _ _ _ _ _ from r); rfl
  · cases e; cases (show RP _ _ _ _ _ from r); rfl
  · cases e
def keysOf : List PV → Option (List Key)
  | [] => some []
  | x :: r => match keyOf (.p x), keysOf r with
    | some k, some ks => some (k :: ks)
    | _, _ => none
theorem keys_is : ∀ {xs : List PV} {vs : List V} {ks : List Key}, RPs K m H xs vs → keysOf xs = some ks → vs = ks.map kV
  | [], _, _, .nil, e => by cases e; rfl
  | x :: r, _, _, .cons q t, e => by
    unfold keysOf at e
    split at e
    · rename_i k ks e1 e2
      cases e
      rw [List.map_cons, key_is (show RS K m H (.p x) _ from q) e1, keys_is t e2]
    · cases e
def tkeyOf : SV → Option (List Key)
  | .p (.tup xs) => keysOf xs
  | _ => none
theorem tkey_is {x : SV} {v : V} {k : List Key} (r : RS K m H x v) (e : tkeyOf x = some k) : ∃ b, v = .ref b ∧ H b = some (.tup (k.map kV)) := by
  unfold tkeyOf at e
  split at e
  · cases (show RP _ _ _ _ _ from r) with
    | tup h1 h2 h3 => exact ⟨_, rfl, by rw [h1, keys_is h3 e]⟩
  · cases e
/-! ### dicts looked up -/
def dkLook {κ : Type} [DecidableEq κ] (kvs : List (κ × SV)) (k : κ) : Option SV := (kvs.find? fun kv => decide (kv.1 = k)).map (·.2)
theorem look_is {κ : Type} [DecidableEq κ] {k : κ} : ∀ {kvs : List (κ × SV)} {ws : List (κ × V)}, ws.map (·.1) = kvs.map (·.1) → RSs K m H (kvs.map (·.2)) (ws.map (·.2)) → match dkLook kvs k with
    | some x => ∃ v, valV ws k = some v ∧ RS K m H x v
    | none => valV ws k = none
  | [], [], _, _ => rfl
  | (a, x) :: kvs, (b, v) :: ws, e, .cons q t => by
    have e1 : b = a := by simpa using congrArg (·.head?) e
    subst e1
    have e2 : ws.map (·.1) = kvs.map (·.1) := by simpa using e
    by_cases hb : b = k
    · have h1 : dkLook ((b, x) :: kvs) k = some x := by simp [dkLook, List.find?_cons, hb]
      rw [h1]
      exact ⟨v, valV_pos hb, q⟩
    · have h1 : dkLook ((b, x) :: kvs) k = dkLook kvs k := by simp [dkLook, List.find?_cons, hb]
      have h2 : valV ((b, v) :: ws) k = valV ws k := valV_neg hb
      rw [h1, h2]
      exact look_is e2 t
def dctLook (d : DK) (x : SV) : Option (Option SV) := match d with
  | .k kvs => (keyOf x).map (dkLook kvs)
  | .t kvs => (tkeyOf x).map (dkLook kvs)
theorem dct_look {d : DK} {a : Addr} {x : SV} {v : V} {o : Option SV} (hd : dctR K m H a d) (r : RS K m H x v) (e : dctLook d x = some o) : ∃ ov, DGet H a v ov ∧ ov.isSome = o.isSome ∧ ∀ y, o = some y → ∃ u, ov = some u ∧ RS K m H y u := by
  cases d with
  | k kvs =>
    obtain ⟨ws, h1, h2, h3⟩ := hd
    unfold dctLook at e
    cases hk : keyOf x with
    | none => rw [hk] at e; cases e
    | some k =>
      rw [hk] at e
      cases e
      have q := look_is (k := k) h2 h3
      refine ⟨valV ws k, .inl ⟨ws, k, .inl h1, key_is r hk, rfl⟩, ?_, fun y hy => ?_⟩
      · revert q
        cases dkLook kvs k with
        | none => intro q; rw [q]; rfl
        | some y => rintro ⟨v, q, _⟩; rw [q]; rfl
      · rw [hy] at q
        exact q
  | t kvs =>
    obtain ⟨ws, h1, h2, h3⟩ := hd
    unfold dctLook at e
    cases hk : tkeyOf x with
    | none => rw [hk] at e; cases e
    | some k =>
      rw [hk] at e
      cases e
      have q := look_is (k := k) h2 h3
      obtain ⟨b, rfl, hb⟩ := tkey_is r hk
      refine ⟨valV ws k, .inr ⟨ws, k, b, .inl h1, rfl, hb, rfl⟩, ?_, fun y hy => ?_⟩
      · revert q
        cases dkLook kvs k with
        | none => intro q; rw [q]; rfl
        | some y => rintro ⟨v, q, _⟩; rw [q]; rfl
      · rw [hy] at q
        exact q

/-! ### in, not in -/
def isInK (x y : SV) (h : List EO) : Option Bool := match x, y with
  | .p (.str a), .p (.str b) => some (!(Builtin.Str.occurrences b a 0 b.length 1).isEmpty)
  | x, y => match dctOf h y with
    | some d => (dctLook d x).map (·.isSome)
    | none => match svD h x, svD h y with
      | some d, some (.list ds) => if SeqAt.shaped d = true ∧ SeqAt.shaped (.list ds) = true then some (ds.any fun z => PyData.eqv z d) else none
      | some d, some (.tuple ds) => if SeqAt.shaped d = true ∧ SeqAt.shaped (.tuple ds) = true then some (ds.any fun z => PyData.eqv z d) else none
      | _, _ => none
def opIn (neg : Bool) : F2 := fun x y h => match isInK x y h with
  | some b => .ok (.p (.bl (if neg = true then !b else b))) h
  | none => .bad
abbrev rInAll (K : PySem.W.Frag) : R2 := fun x y H Q => (∃ i j, x = V.str i ∧ y = V.str j ∧ Q (.bl (!(Builtin.Str.occurrences j i 0 j.length 1).isEmpty)) H) ∨ (rInDc false x y H Q ∨ (rInD K x y H Q ∨ rInDT K x y H Q))
abbrev rNotInAll (K : PySem.W.Frag) : R2 := fun x y H Q => (∃ i j, x = V.str i ∧ y = V.str j ∧ Q (.bl (!(!(Builtin.Str.occurrences j i 0 j.length 1).isEmpty))) H) ∨ (rInDc true x y H Q ∨ (rNotInD K x y H Q ∨ rNotInDT K x y H Q))
theorem o_in (hu : X.A.units + 65 < cLine) : OpR X (compareOp .In) (rInAll X.K) := op_in_str.or ((op_inDc (by omega)).or ((op_inD hu).or (op_inDT hu)))
theorem o_notIn (hu : X.A.units + 65 < cLine) : OpR X (compareOp .NotIn) (rNotInAll X.K) := op_notin_str.or ((op_notInDc (by omega)).or ((op_notInD hu).or (op_notInDT hu)))
theorem r_in : DoR2 K E (rInAll K) (opIn false) := by
  intro x y h vx vy m H Q w rx ry p
  unfold opIn isInK at p
  split at p
  · rename_i b e
    have fin := p.okP w (.bl _)
    rw [if_neg Bool.false_ne_true] at fin
    split at e
    · cases e
      cases (show RP _ _ _ _ _ from rx)
      cases (show RP _ _ _ _ _ from ry)
      exact .inl ⟨_, _, rfl, rfl, fin⟩
    · split at e
      · rename_i d ed
        obtain ⟨a, rfl, hd⟩ := dct_is w ry ed
        cases hl : dctLook d x with
        | none => rw [hl] at e; cases e
        | some o =>
          rw [hl] at e
          cases e
          obtain ⟨ov, g, e1, _⟩ := dct_look hd rx hl
          exact .inr (.inl ⟨a, ov, rfl, g, by rw [if_neg Bool.false_ne_true, e1]; exact fin⟩)
      · split at e
        · rename_i d ds e1 e2
          split at e
          · rename_i hs
            cases e
            exact .inr (.inr (.inl ⟨d, ds, svD_is w rx e1, svD_is w ry e2, hs.1, hs.2, fin⟩))
          · cases e
        · rename_i d ds e1 e2
          split at e
          · rename_i hs
            cases e
            exact .inr (.inr (.inr ⟨d, ds, svD_is w rx e1, svD_is w ry e2, hs.1, hs.2, fin⟩))
          · cases e
        · cases e
  · exact p.elim
theorem r_notIn : DoR2 K E (rNotInAll K) (opIn true) := by
  intro x y h vx vy m H Q w rx ry p
  unfold opIn isInK at p
  split at p
  · rename_i b e
    have fin := p.okP w (.bl _)
    rw [if_pos rfl] at fin
    split at e
    · cases e
      cases (show RP _ _ _ _ _ from rx)
      cases (show RP _ _ _ _ _ from ry)
      exact .inl ⟨_, _, rfl, rfl, fin⟩
    · split at e
      · rename_i d ed
        obtain ⟨a, rfl, hd⟩ := dct_is w ry ed
        cases hl : dctLook d x with
        | none => rw [hl] at e; cases e
        | some o =>
          rw [hl] at e
          cases e
          obtain ⟨ov, g, e1, _⟩ := dct_look hd rx hl
          exact .inr (.inl ⟨a, ov, rfl, g, by rw [if_pos rfl, e1]; exact fin⟩)
      · split at e
        · rename_i d ds e1 e2
          split at e
          · rename_i hs
            cases e
            exact .inr (.inr (.inl ⟨d, ds, svD_is w rx e1, svD_is w ry e2, hs.1, hs.2, fin⟩))
          · cases e
        · rename_i d ds e1 e2
          split at e
          · rename_i hs
            cases e
            exact .inr (.inr (.inr ⟨d, ds, svD_is w rx e1, svD_is w ry e2, hs.1, hs.2, fin⟩))
          · cases e
        · cases e
  · exact p.elim

/-! ### x[i] -/
def ixF : F2 := fun x y h => match seqOf h x with
  | some xs => match y with
    | .p (.int i) => match atI xs i with
      | some z => .ok z h
      | none => .bad
    | _ => .bad
  | none => match dctOf h x with
    | some d => match dctLook d y with
      | some (some z) => .ok z h
      | _ => .bad
    | none => match x, y with
      | .p (.str s), .p (.int i) => if s.length ≤ sizeLine then (match atI s.cps.toList i with
        | some c => .ok (.p (.str ⟨#[c]⟩)) h
        | none => .bad) else .bad
      | _, _ => .bad
theorem atI_rel {xs : List SV} {vs : List V} {i : Int} {z : SV} (r : RSs K m H xs vs) (e : atI xs i = some z) : ∃ v, atI vs i = some v ∧ RS K m H z v := by
  unfold atI at e ⊢
  rw [← r.len]
  cases hx : ixN xs.length i with
  | none => rw [hx] at e; cases e
  | some j => rw [hx] at e; exact r.get e
abbrev rIxAll (K : PySem.W.Frag) : R2 := fun x y H Q => rIx K x y H Q ∨ rIxDc x y H Q
theorem o_ix (hu : X.A.units + 1 < cLine) : IxR X (rIxAll X.K) := ix_seq.or (ix_dct hu)
theorem r_ix : DoR2 K E (rIxAll K) ixF := by
  intro x y h vx vy m H Q w rx ry p
  unfold ixF at p
  split at p
  · rename_i xs e
    obtain ⟨a, vs, rfl, q, ra⟩ := seq_is w rx e
    split at p
    · cases (show RP _ _ _ _ _ from ry)
      split at p
      · rename_i z ez
        obtain ⟨v, ev, rz⟩ := atI_rel ra ez
        rcases q with q | q
        · exact .inl (.inl ⟨a, vs, _, v, rfl, rfl, q, ev, p.ok_ (R := RS K) w rz⟩)
        · exact .inl (.inr (.inl ⟨a, vs, _, v, rfl, rfl, q, ev, p.ok_ (R := RS K) w rz⟩))
      · exact p.elim
    · exact p.elim
  · split at p
    · rename_i d e
      obtain ⟨a, rfl, hd⟩ := dct_is w rx e
      split at p
      · rename_i z ez
        obtain ⟨ov, g, _, e2⟩ := dct_look hd ry ez
        obtain ⟨u, rfl, ru⟩ := e2 z rfl
        exact .inr ⟨a, u, rfl, g, p.ok_ (R := RS K) w ru⟩
      · exact p.elim
    · split at p
      · cases (show RP _ _ _ _ _ from rx)
        cases (show RP _ _ _ _ _ from ry)
        split at p
        · rename_i hl
          split at p
          · rename_i c ec
            exact .inl (.inr (.inr ⟨_, _, c, rfl, rfl, hl, ec, p.okP w (.str _)⟩))
          · exact p.elim
        · exact p.elim
      · exact p.elim
theorem d_ix (hu : X.A.units + 1 < cLine) (ha : DE X E a fa) (hb : DE X E b fb) (hs : PlainIx b) : DE X E (.Subscript a b pos) (eBin ixF fa fb) := PE.of (pe_ix (o_ix hu) ha hb hs) (tS_op r_ix)

/-! ### slices -/
abbrev MO := Es → List EO → Res (Option Int)
abbrev tSO (K : PySem.W.Frag) (E : XK) (f : MO) : TO := tS K E (fun _ _ x v => x = v) f
def DO_ (X : Cx) (E : XK) (e : Option Expr) (f : MO) : Prop := PO X e (tSO X.K E f)
theorem PO.of {e : Option Expr} {t t' : TO} (p : PO X e t) (w : ∀ σ H Q, t' σ H Q → t σ H Q) : PO X e t' := ⟨fun pins s σ H Q I q => p.run pins s σ H Q I (w _ _ _ q)⟩
def oNone : MO := fun _ h => .ok none h
def oSome (f : ME) : MO := fun es h => (f es h).bind fun x h1 => match x with
  | .p (.int i) => .ok (some i) h1
  | _ => .bad
theorem d_onone : DO_ X E none oNone := PO.of po_none fun σ H Q ⟨m, h, es, w, r, p⟩ => Post.ok_ (R := fun _ _ x v => x = v) p w rfl
theorem d_osome (he : DE X E e fa) : DO_ X E (some e) (oSome fa) := PO.of (po_some he) fun σ H Q ⟨m, h, es, w, r, p⟩ => ⟨m, h, es, w, r, p.bind fun x h1 v H1 m1 s1 w1 r1 p1 => by
  split at p1
  · cases (show RP _ _ _ _ _ from r1)
    exact ⟨_, rfl, Post.ok_ (R := fun _ _ x v => x = v) p1 w1 rfl⟩
  · exact p1.elim⟩
def cutS_ {α : Type} (xs : List α) (lo hi : Option Int) : List α := (xs.drop (HT.sIx xs.length 0 lo)).take (HT.sIx xs.length xs.length hi - HT.sIx xs.length 0 lo)
theorem RSs.drop : ∀ {xs : List SV} {vs : List V} (n : Nat), RSs K m H xs vs → RSs K m H (xs.drop n) (vs.drop n)
  | _, _, 0, r => r
  | _, _, _ + 1, .nil => .nil
  | _, _, n + 1, .cons _ t => RSs.drop n t
theorem RSs.take : ∀ {xs : List SV} {vs : List V} (n : Nat), RSs K m H xs vs → RSs K m H (xs.take n) (vs.take n)
  | _, _, 0, _ => .nil
  | _, _, _ + 1, .nil => .nil
  | _, _, n + 1, .cons q t => .cons q (RSs.take n t)
theorem cut_rel {xs : List SV} {vs : List V} (r : RSs K m H xs vs) (lo hi : Option Int) : RSs K m H (cutS_ xs lo hi) (cutV vs lo hi) := by
  unfold cutS_ cutV
  rw [r.len]
  exact (r.drop _).take _
def slF (mu : Bool) (x : SV) (lo hi : Option Int) (h : List EO) : Res SV := match tupOf x with
  | some xs => if HT.sIx xs.length 0 lo = 0 ∧ HT.sIx xs.length xs.length hi = xs.length then .ok x h else .ok (.p (.tup (cutS_ xs lo hi))) h
  | none => match seqOf h x with
    | some xs => if xs.length ≤ sizeLine then mkL mu (cutS_ xs lo hi) h else .bad
    | none => match x with
      | .p (.str s) => .bad
      | _ => .bad
abbrev rSlAll (K : PySem.W.Frag) : V → Option Int → Option Int → Hp → VK → Prop := fun x lo hi H Q => rSlA K x lo hi H Q ∨ rSlL K x lo hi H Q
theorem o_sl : SlR X (rSlAll X.K) := sl_tupA.or sl_list
def eSl (mu : Bool) (fa : ME) (fl fh : MO) : ME := fun es h => (fa es h).bind fun x h1 => (fl es h1).bind fun lo h2 => (fh es h2).bind fun hi h3 => slF mu x lo hi h3
theorem RPs.cut : ∀ {xs : List PV} {vs : List V}, RPs K m H xs vs → ∀ n k : Nat, RPs K m H ((xs.drop n).take k) ((vs.drop n).take k)
  | _, _, .nil, n, k => by simp; exact .nil
  | _, _, .cons q t, n + 1, k => t.cut n k
  | _, _, .cons q t, 0, 0 => .nil
  | _, _, .cons q t, 0, k + 1 => .cons q (t.cut 0 k)
theorem lst_of_seq {x : SV} {xs : List SV} (e : seqOf h x = some xs) (ht : tupOf x = none) (w : Wd K m h H) {v : V} (r : RS K m H x v) : ∃ a vs, v = .ref a ∧ SqL K H a vs ∧ RSs K m H xs vs := by
  unfold seqOf at e
  split at e
  · cases ht
  · cases ht
  · cases ht
  · cases e
    cases (show RP _ _ _ _ _ from r) with
    | fz h1 h3 => exact ⟨_, _, rfl, h1.sq, .ofP h3⟩
  · obtain ⟨a, vs, e1, e2, e3⟩ := lst_is w r e
    exact ⟨a, vs, e1, SqL.of e2, e3⟩
theorem d_sl (mu : Bool) {lo hi : Option Expr} {fl fh : MO} {p2 : Pos} (ha : DE X E a fa) (hl : DO_ X E lo fl) (hh : DO_ X E hi fh) : DE X E (.Subscript a (.Slice lo hi none p2) pos) (eSl mu fa fl fh) := by
  refine PE.of (pe_slice o_sl ha hl hh) fun σ H Q ⟨m, h, es, w, r, p⟩ => ⟨m, h, es, w, r, p.bind fun x h1 v H1 m1 s1 w1 r1 p1 => ?_⟩
  refine ⟨m1, h1, es, w1, r.stp s1, p1.bind fun lo' h2 lo'' H2 m2 s2 w2 r2 p2 => ?_⟩
  cases (show lo' = lo'' from r2)
  refine ⟨m2, h2, es, w2, (r.stp s1).stp s2, p2.bind fun hi' h3 hi'' H3 m3 s3 w3 r3 p3 => ?_⟩
  cases (show hi' = hi'' from r3)
  have rx : RS X.K m3 H3 x v := (r1.stp s2).stp s3
  unfold slF at p3
  split at p3
  · rename_i xs e
    obtain ⟨a, vs, rfl, q, ra⟩ := tup_is rx e
    refine .inl ⟨a, vs, rfl, q, fun hw => ?_, fun hw c hc => ?_⟩
    · rw [if_pos (by rw [ra.len]; exact hw)] at p3
      exact p3.ok_ (R := RS X.K) w3 rx
    · rw [if_neg (by rw [ra.len]; exact hw)] at p3
      refine p3 _ _ _ (Stp.new w3 hc) (w3.fresh hc) (show RP _ _ _ _ _ from .tup upd_same (w3.new hc) ?_)
      unfold cutS_ cutV
      rw [ra.len]
      exact (ra.cut _ _).stp (Stp.new w3 hc)
  · rename_i e0
    split at p3
    · rename_i xs e
      split at p3
      · obtain ⟨a, vs, rfl, q, ra⟩ := lst_of_seq e e0 w3 rx
        exact .inr ⟨a, vs, rfl, q, (mkL_ok w3 (cut_rel ra _ _) p3).2⟩
      · exact p3.elim
    · split at p3
      · exact p3.elim
      · exact p3.elim
end
end EV

-- E6
/-! E6: methods of built-in types, tuples told whole, sorted, isinstance, fields. -/
namespace L2
open PySem PySem.Spec PyProof.Rows
section
variable {X : Cx}
/-- the value is of that built-in type, in every state of ours -/
def TyGood (X : Cx) (T : String) (x : V) (H : Hp) : Prop := ∀ (pins : List (Addr × Obj)) (s : Shared) (σ : L2.St) (v : Value), Inv X pins σ H s → RelV x v → s.TypeIs v T ∧ ∀ a, v = .ref a → ∃ ob, s.heap.get? a = some ob ∧ ob.dict = none
theorem TyGood.of {T : String} {x : V} {H : Hp} (h : tyV X.K T x H) : TyGood X T x H := fun _ _ _ _ I r => tyV_is I r h
theorem TyGood.ftp {a : Addr} {o : Obj} {vs : List V} {H : Hp} (h : H a = some (.frz o (.tup vs))) (z : o.dict = none) : TyGood X "tuple" (.ref a) H := fun _ _ _ v I r => by
  obtain rfl : v = Value.ref a := r
  obtain ⟨e, _, its, _, o', e', c, _⟩ := I.hok a _ h
  rw [e] at e'
  cases e'
  exact ⟨⟨o, e, c⟩, fun b q => by cases q; exact ⟨o, e, z⟩⟩
def tBG0 (X : Cx) (T : String) (r : V → List V → Hp → VK → Prop) (to : TE) : TE := fun σ H Q => to σ H fun x H1 => TyGood X T x H1 ∧ r x [] H1 Q
def tBG (X : Cx) (T : String) (r : V → List V → Hp → VK → Prop) (to : TE) (t : TA) : TE := fun σ H Q => to σ H fun x H1 => TyGood X T x H1 ∧ t σ H1 fun xs H2 => r x xs H2 Q
variable {o e : Expr} {es : List Expr} {to : TE} {t : TA} {name : Str} {apos cpos : Pos} {T id : String} {r : V → List V → Hp → VK → Prop}
theorem pe_bg0 (pa : PlainAttrs T) (slot : Slot T name id) (hty : typeOf (.builtin id) = pure (.type "method_descriptor")) (hm : MtR X id r) (ho : PE X o to)
    (hbase : attributeBase o name X.env (eval o X.env) = eval o X.env := by rfl) (hline : (apos.endLine == cpos.line) = true := by rfl) : PE X (.Call (.Attribute o name apos) [] [] cpos) (tBG0 X T r to) := by
  refine ⟨fun pins s σ H Q I h => ?_⟩
  refine wpAny_Call_method0_late hbase hline (thn (ho.run pins s σ H _ I h) fun v s1 ⟨x, H1, I1, r1, ty, q1⟩ => ?_)
  obtain ⟨h1, h2⟩ := ty _ _ _ _ I1 r1
  exact ⟨T, id, pa, slot, hty, h1, h2, Calls.callWith_builtin rfl (PySem.evalArgs_none (hm pins s1 σ H1 x [] v [] Q I1 r1 .nil q1))⟩
theorem pe_bg (pa : PlainAttrs T) (slot : Slot T name id) (hty : typeOf (.builtin id) = pure (.type "method_descriptor")) (hm : MtR X id r) (ho : PE X o to) (ha : PA X (e :: es) t)
    (hbase : attributeBase o name X.env (eval o X.env) = eval o X.env := by rfl)
    (hfew : ((backTo cpos (starEach (e :: es) X.env)).all (fun x => !x.1) && (backToKw cpos (keywordEach [] X.env)).all (fun x => x.1.isSome)
      && decide ((e :: es).length + ([] : List Keyword).length + (if ([] : List Keyword).isEmpty then 0 else 1) < 30)) = true := by rfl)
    (hline : (apos.endLine == cpos.line) = true := by rfl) (hs : starEach (e :: es) X.env = (false, eval e X.env) :: starEach es X.env := by rfl) (hplain : (backTo cpos (starEach es X.env)).any (·.1) = false := by rfl) :
    PE X (.Call (.Attribute o name apos) (e :: es) [] cpos) (tBG X T r to t) := by
  refine ⟨fun pins s σ H Q I h => ?_⟩
  refine wpAny_Call_method_late hbase hfew hline rfl (thn (ho.run pins s σ H _ I h) fun v s1 ⟨x, H1, I1, r1, ty, q1⟩ => ?_)
  obtain ⟨h1, h2⟩ := ty _ _ _ _ I1 r1
  refine ⟨T, id, pa, slot, hty, h1, h2, ?_⟩
  have hA := ha.run cpos pins s1 σ H1 _ I1 q1
  rw [hs] at hA ⊢
  refine Calls.callWith_builtin (by show (false || (backTo cpos (starEach es X.env)).any (·.1)) = false; rw [hplain] <;> rfl) (Calls.evalArgs_plain ?_)
  exact thn hA fun us s2 ⟨vs, H2, I2, r2, q2⟩ => hm pins s2 σ H2 x vs v us Q I2 r1 r2 q2

/-! ### dict.get, dict.setdefault, dict.update -/
def rGet1 : V → List V → Hp → VK → Prop := fun x xs H Q => ∃ a y o, x = .ref a ∧ xs = [y] ∧ DGet H a y o ∧ Q (o.getD .non) H
theorem mt_dget1 (hu : X.A.units + 1 < cLine) : MtR X "dict.get" rGet1 := by
  intro pins s σ H x xs v us Q I rx rs h
  obtain ⟨a, y, o, rfl, rfl, g, q⟩ := h
  obtain rfl : v = Value.ref a := rx
  obtain ⟨u, rfl, ru⟩ := rs.one
  exact d_get1 hu I g ru fun w' s' I' rw' => ⟨_, H, I', rw', q⟩
def rGet2 : V → List V → Hp → VK → Prop := fun x xs H Q => ∃ a y z o, x = .ref a ∧ xs = [y, z] ∧ DGet H a y o ∧ Q (o.getD z) H
theorem mt_dget2 (hu : X.A.units + 1 < cLine) : MtR X "dict.get" rGet2 := by
  intro pins s σ H x xs v us Q I rx rs h
  obtain ⟨a, y, z, o, rfl, rfl, g, q⟩ := h
  obtain rfl : v = Value.ref a := rx
  obtain ⟨u, t, rfl, ru, rt⟩ := rs.two
  exact d_get2 hu I g ru rt fun w' s' I' rw' => ⟨_, H, I', rw', q⟩
def rSetd : V → List V → Hp → VK → Prop := fun x xs H Q => ∃ a y z, x = .ref a ∧ xs = [y, z] ∧
  ((∃ (kvs : List (Key × V)) (k : Key), H a = some (.dK kvs) ∧ y = kV k ∧ kvs.length < sizeLine ∧ (∀ v, valV kvs k = some v → Q v H) ∧ (valV kvs k = none → Q z (upd H a (.dK (putK kvs k z))))) ∨
   (∃ (kvs : List (List Key × V)) (k : List Key) (b : Addr), H a = some (.dT kvs) ∧ y = .ref b ∧ H b = some (.tup (k.map kV)) ∧ kvs.length < sizeLine ∧ (∀ v, valV kvs k = some v → Q v H) ∧ (valV kvs k = none → Q z (upd H a (.dT (putK kvs k z))))))
theorem mt_dsetd (hu : X.A.units + 1 < cLine) : MtR X "dict.setdefault" rSetd := by
  intro pins s σ H x xs v us Q I rx rs h
  obtain ⟨a, y, z, rfl, rfl, h⟩ := h
  obtain rfl : v = Value.ref a := rx
  obtain ⟨u, t, rfl, ru, rt⟩ := rs.two
  rcases h with ⟨kvs, k, e, rfl, hl, h1, h2⟩ | ⟨kvs, k, b, e, rfl, eb, hl, h1, h2⟩
  · exact d_setd I e ru rt hl (fun v hv w' s' I' rw' => ⟨v, H, I', rw', h1 v hv⟩) fun hn w' s' I' rw' => ⟨z, _, I', rw', h2 hn⟩
  · obtain rfl : u = Value.ref b := ru
    obtain ⟨zz, hd, xs, rel, dd⟩ := dt_of I.hok e
    have hz : xs.length ≤ sizeLine := by rw [← Paired.length rel]; exact zz
    refine call_setdefault_heap (hsz := hz) (tupleKind_room_in1 hu) (key_of I.hok eb) hd dd (fun p hp => ?_) fun hn h' dd' hs => ?_
    · have q := rel.val k
      rw [show (atKey xs k).map (·.2) = some p.2 by rw [hp]; rfl] at q
      cases q0 : valV kvs k with
      | none => rw [q0] at q; exact (show False from q).elim
      | some v0 => rw [q0] at q; exact ⟨v0, H, I.tok _, q, h1 v0 q0⟩
    · have q := rel.val k
      rw [show (atKey xs k).map (·.2) = none by rw [hn]; rfl] at q
      cases q0 : valV kvs k with
      | some v0 => rw [q0] at q; exact (show False from q).elim
      | none =>
        have hl2 : (putK kvs k z).length ≤ sizeLine := by have := length_putK kvs k z; omega
        obtain ⟨q, es, ep, hq, g2, g3, g4, _, g5⟩ := dd'
        refine ⟨z, upd H a (.dT (putK kvs k z)), d_write I (by rw [e]; exact True.intro) hs ⟨q, hq⟩ ⟨hl2, hd, _, (rel.put k eb rt).keeps fun c ys ec => ?_, q, es, ep, hq, g2, g3, g4, g5⟩, rt, h2 q0⟩
        rw [upd_ne (ne_of ec e (fun z => nomatch z))]
        exact ec
/-- d.update(e): both of int and text keys -/
def mergeKK (kvs more : List (Key × V)) : List (Key × V) := more.foldl (fun acc kv => putK acc kv.1 kv.2) kvs
theorem storedAll_rel : ∀ {more : List (Key × V)} {vs : List (Key × Value)} {kvs : List (Key × V)} {us : List (Key × Value)}, KV kvs us → KV more vs → KV (mergeKK kvs more) (merged us vs)
  | [], _, _, _, r, .nil => r
  | (k, x) :: more, (k', u) :: vs, kvs, us, r, .cons q t => by
    obtain ⟨e, q⟩ := q
    cases (show k = k' from e)
    show KV (mergeKK (putK kvs k x) more) (merged (stored us k u) vs)
    exact storedAll_rel (r.put k q) t
theorem len_mergeKK : ∀ (more kvs : List (Key × V)), (mergeKK kvs more).length ≤ kvs.length + more.length
  | [], kvs => Nat.le_refl _
  | (k, x) :: more, kvs => by
    have h1 := len_mergeKK more (putK kvs k x)
    have h2 := length_putK kvs k x
    show (mergeKK (putK kvs k x) more).length ≤ _
    simp only [List.length_cons]
    omega
def rUpdD : V → List V → Hp → VK → Prop := fun x xs H Q => ∃ a b kvs more, x = .ref a ∧ xs = [.ref b] ∧ H a = some (.dK kvs) ∧ H b = some (.dK more) ∧ a ≠ b ∧ kvs.length + more.length ≤ sizeLine ∧ Q .non (upd H a (.dK (mergeKK kvs more)))
theorem mt_dupd : MtR X "dict.update" rUpdD := by
  intro pins s σ H x xs v us Q I rx rs h
  obtain ⟨a, b, kvs, more, rfl, rfl, ea, eb, hab, hl, q⟩ := h
  obtain rfl : v = Value.ref a := rx
  obtain ⟨u, rfl, ru⟩ := rs.one
  obtain rfl : u = Value.ref b := ru
  obtain ⟨z, hd, vs, rel, dd⟩ := dk_of I.hok ea
  obtain ⟨z2, hd2, ws, rel2, dd2⟩ := dk_of I.hok eb
  refine call_meetsIn PySem.F.slot_dict_update dd.typeIs PySem.F.entry_dict_update (PySem.F.args_dict_update_2 _ _) (meets_dict_update (mixKind X.prog X.w) a b hab hd2)
    ⟨vs, ws, dd, dd2, (by rw [← rel.length, ← rel2.length]; exact hl), fun h' dd' _ hs => ?_⟩
  have he : ∃ q, h'.get? a = some q := let ⟨q, _, _, hq, _⟩ := dd'; ⟨q, hq⟩
  exact ⟨.non, _, d_write I (by rw [ea]; exact True.intro) hs he (dk_new (Nat.le_trans (len_mergeKK _ _) hl) hd (storedAll_rel rel rel2) dd'), rfl, q⟩
end
end L2

namespace EV
open PySem PySem.Spec L2
section
variable {X : Cx} {E : XK} {e : Expr} {K : PySem.W.Frag} {m m' : List Addr} {H H' : Hp} {h h' : List EO} {pos apos cpos : Pos} {a b o : Expr} {fa fb fo : ME} {es : List Expr} {g : MA}
/-! ### methods -/
abbrev FM := SV → List SV → List EO → Res SV
def DoM (K : PySem.W.Frag) (E : XK) (r : V → List V → Hp → VK → Prop) (f : FM) : Prop := ∀ x xs h v vs m H Q, Wd K m h H → RS K m H x v → RSs K m H xs vs → Post K E (RS K) m H (f x xs h) Q → r v vs H Q
def tyS (T : String) (x : SV) (h : List EO) : Bool := match x with
  | .p (.str _) => T == "str"
  | .p (.ftp _) => T == "tuple"
  | x => (T == "list" && (lstOf h x).isSome) || (T == "dict" && (dctOf h x).isSome)
theorem ty_is {T : String} {x : SV} {v : V} (w : Wd X.K m h H) (r : RS X.K m H x v) (e : tyS T x h = true) : TyGood X T v H := by
  unfold tyS at e
  split at e
  · cases (show RP _ _ _ _ _ from r)
    exact .of (show T = "str" from eq_of_beq e)
  · cases (show RP _ _ _ _ _ from r) with
    | ftp h1 h2 h3 h4 =>
      have eT : T = "tuple" := eq_of_beq e
      subst eT
      exact .ftp h1 h2
  · rw [Bool.or_eq_true, Bool.and_eq_true, Bool.and_eq_true] at e
    rcases e with ⟨e1, e2⟩ | ⟨e1, e2⟩
    · obtain ⟨xs, e2⟩ := Option.isSome_iff_exists.mp e2
      obtain ⟨a, vs, rfl, q, _⟩ := lst_is w r e2
      exact .of (.inl ⟨eq_of_beq e1, vs, SqL.of q⟩)
    · obtain ⟨d, e2⟩ := Option.isSome_iff_exists.mp e2
      obtain ⟨a, rfl, hd⟩ := dct_is w r e2
      refine .of (.inr (.inr (.inl ⟨eq_of_beq e1, ?_⟩)))
      cases d with
      | k kvs => obtain ⟨ws, q, _⟩ := hd; exact .inl ⟨ws, q⟩
      | t kvs => obtain ⟨ws, q, _⟩ := hd; exact .inr ⟨ws, q⟩
def eM (T : String) (f : FM) (fo : ME) (g : MA) : ME := fun es h => (fo es h).bind fun x h1 => if tyS T x h1 = true then (g es h1).bind fun xs h2 => f x xs h2 else .bad
variable {T id : String} {name : Str} {r : V → List V → Hp → VK → Prop} {f : FM}
theorem d_m0 (pa : PlainAttrs T) (slot : Slot T name id) (hty : typeOf (.builtin id) = pure (.type "method_descriptor")) (hm : MtR X id r) (hr : DoM X.K E r f) (ho : DE X E o fo)
    (hbase : attributeBase o name X.env (eval o X.env) = eval o X.env := by rfl) (hline : (apos.endLine == cpos.line) = true := by rfl) : DE X E (.Call (.Attribute o name apos) [] [] cpos) (eM T f fo aNil) := by
  refine PE.of (pe_bg0 pa slot hty hm ho hbase hline) fun σ H Q ⟨m, h, es, w, r, p⟩ => ⟨m, h, es, w, r, p.bind fun x h1 v H1 m1 s1 w1 r1 p1 => ?_⟩
  split at p1
  · rename_i e
    exact ⟨ty_is w1 r1 e, hr x [] h1 v [] m1 H1 Q w1 r1 .nil p1⟩
  · exact p1.elim
theorem d_m (pa : PlainAttrs T) (slot : Slot T name id) (hty : typeOf (.builtin id) = pure (.type "method_descriptor")) (hm : MtR X id r) (hr : DoM X.K E r f) (ho : DE X E o fo) (ha : DA X E (e :: es) g)
    (hbase : attributeBase o name X.env (eval o X.env) = eval o X.env := by rfl)
    (hfew : ((backTo cpos (starEach (e :: es) X.env)).all (fun x => !x.1) && (backToKw cpos (keywordEach [] X.env)).all (fun x => x.1.isSome)
      && decide ((e :: es).length + ([] : List Keyword).length + (if ([] : List Keyword).isEmpty then 0 else 1) < 30)) = true := by rfl)
    (hline : (apos.endLine == cpos.line) = true := by rfl) (hs : starEach (e :: es) X.env = (false, eval e X.env) :: starEach es X.env := by rfl) (hplain : (backTo cpos (starEach es X.env)).any (·.1) = false := by rfl) :
    DE X E (.Call (.Attribute o name apos) (e :: es) [] cpos) (eM T f fo g) := by
  refine PE.of (pe_bg pa slot hty hm ho ha hbase hfew hline hs hplain) fun σ H Q ⟨m, h, es, w, r, p⟩ => ⟨m, h, es, w, r, p.bind fun x h1 v H1 m1 s1 w1 r1 p1 => ?_⟩
  split at p1
  · rename_i e
    exact ⟨ty_is w1 r1 e, ⟨m1, h1, es, w1, r.stp s1, p1.bind fun xs h2 vs H2 m2 s2 w2 r2 p2 => hr x xs h2 v vs m2 H2 Q w2 (r1.stp s2) r2 p2⟩⟩
  · exact p1.elim
/-- one of ours is written, None is handed on -/
theorem Post.wr {n : Nat} {a : Addr} {o : EO} {u : HO} {Q : VK} (p : Post K E (RS K) m H (.ok (.p .non) (h.set n o)) Q) (w : Wd K m h H) (ea : m[n]? = some a) (r : RO K m (upd H a u) a o) : Q .non (upd H a u) :=
  p _ _ _ (.write ea) (w.write ea r) (show RP _ _ _ _ _ from .non)
def onLst (x : SV) (h : List EO) (k : Nat → List SV → Res SV) : Res SV := match x with
  | .ref n => match h[n]? with
    | some (.lst xs) => k n xs
    | _ => .bad
  | _ => .bad
theorem onLst_is {x : SV} {v : V} {k : Nat → List SV → Res SV} {Q : VK} (w : Wd K m h H) (r : RS K m H x v) (p : Post K E (RS K) m H (onLst x h k) Q) :
    ∃ n a xs vs, v = .ref a ∧ m[n]? = some a ∧ h[n]? = some (.lst xs) ∧ H a = some (.lst vs) ∧ RSs K m H xs vs ∧ Post K E (RS K) m H (k n xs) Q := by
  unfold onLst at p
  split at p
  · rename_i n
    obtain ⟨a, ea, rfl⟩ := r
    split at p
    · rename_i xs eh
      obtain ⟨vs, q, r⟩ := w.at_ n _ a eh ea
      exact ⟨n, a, xs, vs, rfl, ea, eh, q, r, p⟩
    · exact p.elim
  · exact p.elim
def mAppend : FM := fun x xs h => match xs with
  | [y] => onLst x h fun n ys => if ys.length < sizeLine then .ok (.p .non) (h.set n (.lst (ys ++ [y]))) else .bad
  | _ => .bad
theorem r_append : DoM K E rAppend mAppend := by
  intro x xs h v vs m H Q w rx rs p
  unfold mAppend at p
  split at p
  · obtain ⟨u, rfl, ru⟩ := rs.one
    obtain ⟨n, a, ys, us, rfl, ea, eh, q, r, p⟩ := onLst_is w rx p
    split at p
    · rename_i hl
      exact ⟨a, us, u, rfl, rfl, q, by rw [← r.len]; exact hl, p.wr w ea ⟨us ++ [u], upd_same, (r.app (.cons ru .nil)).stp (.write ea)⟩⟩
    · exact p.elim
  · exact p.elim
def mPop : FM := fun x xs h => match xs with
  | [] => onLst x h fun n ys => match ys[ys.length - 1]? with
    | some y => .ok y (h.set n (.lst ys.dropLast))
    | none => .bad
  | [.p (.int i)] => onLst x h fun n ys => if -(2 ^ 63) ≤ i ∧ i < 2 ^ 63 then (match seqIndex? i ys.length with
    | some k => match ys[k]? with
      | some y => .ok y (h.set n (.lst (ys.eraseIdx k)))
      | none => .bad
    | none => .bad) else .bad
  | _ => .bad
theorem r_pop : DoM K E (fun x xs H Q => rPop x xs H Q ∨ rPopAt x xs H Q) mPop := by
  intro x xs h v vs m H Q w rx rs p
  unfold mPop at p
  split at p
  · cases rs
    obtain ⟨n, a, ys, us, rfl, ea, eh, q, r, p⟩ := onLst_is w rx p
    split at p
    · rename_i y ey
      rw [r.len] at ey
      obtain ⟨u, eu, ru⟩ := r.get ey
      exact .inl ⟨a, us, u, rfl, rfl, q, eu, p _ _ _ (.write ea) (w.write ea ⟨us.dropLast, upd_same, r.dropLast.stp (.write ea)⟩) (ru.stp (.write ea))⟩
    · exact p.elim
  · obtain ⟨u, rfl, ru⟩ := rs.one
    cases (show RP _ _ _ _ _ from ru)
    obtain ⟨n, a, ys, us, rfl, ea, eh, q, r, p⟩ := onLst_is w rx p
    split at p
    · rename_i hl
      split at p
      · rename_i k ek
        split at p
        · rename_i y ey
          obtain ⟨u, eu, ru⟩ := r.get ey
          exact .inr ⟨a, us, _, k, u, rfl, rfl, q, hl.1, hl.2, by rw [← r.len]; exact ek, eu, p _ _ _ (.write ea) (w.write ea ⟨us.eraseIdx k, upd_same, (r.eraseIdx k).stp (.write ea)⟩) (ru.stp (.write ea))⟩
        · exact p.elim
      · exact p.elim
    · exact p.elim
  · exact p.elim
theorem m_pop : MtR X "list.pop" (fun x xs H Q => rPop x xs H Q ∨ rPopAt x xs H Q) := MtR.or mt_pop mt_popAt
def mExtend : FM := fun x xs h => match xs with
  | [y] => onLst x h fun n ys => match lstOf h y with
    | some zs => if ys.length + zs.length ≤ sizeLine then .ok (.p .non) (h.set n (.lst (ys ++ zs))) else .bad
    | none => .bad
  | _ => .bad
theorem r_extend : DoM K E rExtend mExtend := by
  intro x xs h v vs m H Q w rx rs p
  unfold mExtend at p
  split at p
  · obtain ⟨u, rfl, ru⟩ := rs.one
    obtain ⟨n, a, ys, us, rfl, ea, eh, q, r, p⟩ := onLst_is w rx p
    split at p
    · rename_i zs ez
      obtain ⟨b, ws, rfl, q2, r2⟩ := lst_is w ru ez
      split at p
      · rename_i hl
        exact ⟨a, b, us, ws, rfl, rfl, q, q2, by rw [← r.len, ← r2.len]; exact hl, p.wr w ea ⟨us ++ ws, upd_same, (r.app r2).stp (.write ea)⟩⟩
      · exact p.elim
    · exact p.elim
  · exact p.elim

/-! ### dicts put -/
def dkPut {κ : Type} [DecidableEq κ] (kvs : List (κ × SV)) (k : κ) (x : SV) : List (κ × SV) :=
  if (kvs.any fun kv => decide (kv.1 = k)) = true then kvs.map (fun kv => if kv.1 = k then (kv.1, x) else kv) else kvs ++ [(k, x)]
theorem put_is {κ : Type} [DecidableEq κ] {k : κ} {x : SV} {v : V} (q : RS K m H x v) {kvs : List (κ × SV)} {ws : List (κ × V)} (e : ws.map (·.1) = kvs.map (·.1)) (r : RSs K m H (kvs.map (·.2)) (ws.map (·.2))) :
    (putK ws k v).map (·.1) = (dkPut kvs k x).map (·.1) ∧ RSs K m H ((dkPut kvs k x).map (·.2)) ((putK ws k v).map (·.2)) := by
  have ha : (ws.any fun kv => decide (kv.1 = k)) = kvs.any fun kv => decide (kv.1 = k) := by
    have h1 : (ws.any fun kv => decide (kv.1 = k)) = (ws.map (·.1)).any fun y => decide (y = k) := by rw [List.any_map]; rfl
    have h2 : (kvs.any fun kv => decide (kv.1 = k)) = (kvs.map (·.1)).any fun y => decide (y = k) := by rw [List.any_map]; rfl
    rw [h1, h2, e]
  unfold putK dkPut
  rw [ha]
  split
  · have all : ∀ {kvs : List (κ × SV)} {ws : List (κ × V)}, ws.map (·.1) = kvs.map (·.1) → RSs K m H (kvs.map (·.2)) (ws.map (·.2)) →
        (ws.map (fun kv => if kv.1 = k then (kv.1, v) else kv)).map (·.1) = (kvs.map (fun kv => if kv.1 = k then (kv.1, x) else kv)).map (·.1) ∧
        RSs K m H ((kvs.map (fun kv => if kv.1 = k then (kv.1, x) else kv)).map (·.2)) ((ws.map (fun kv => if kv.1 = k then (kv.1, v) else kv)).map (·.2)) := by
      intro kvs
      induction kvs with
      | nil =>
        intro ws e _
        cases ws with
        | nil => exact ⟨rfl, .nil⟩
        | cons _ _ => cases e
      | cons p kvs ih =>
        intro ws e r
        cases ws with
        | nil => cases e
        | cons z ws =>
          have e1 : z.1 = p.1 := by simpa using congrArg (·.head?) e
          have e2 : ws.map (·.1) = kvs.map (·.1) := by simpa using congrArg List.tail e
          cases r with
          | cons r1 r2 =>
            obtain ⟨i1, i2⟩ := ih e2 r2
            simp only [List.map_cons]
            by_cases hp : p.1 = k
            · rw [if_pos hp, if_pos (e1.trans hp)]
              exact ⟨by rw [i1]; simp [e1], .cons q i2⟩
            · rw [if_neg hp, if_neg (fun z => hp (e1.symm.trans z))]
              exact ⟨by rw [i1]; simp [e1], .cons r1 i2⟩
    exact all e r
  · rw [List.map_append, List.map_append, List.map_append, List.map_append, e]
    exact ⟨rfl, r.app (.cons q .nil)⟩
end
end EV

-- E7
/-! E7: targets, statements, while. -/
namespace EV
open PySem PySem.Spec L2
inductive SRes where
  | nx (es : Es) (h : List EO)
  | rt (x : SV) (h : List EO)
  | bk (es : Es) (h : List EO)
  | ct (es : Es) (h : List EO)
  | exc (C : Addr) (fs : List (Str × PV)) (h : List EO)
  | bad
abbrev MS := Es → List EO → SRes
def Res.sbind {α : Type} (r : Res α) (k : α → List EO → SRes) : SRes := match r with
  | .ok a h => k a h
  | .exc C fs h => .exc C fs h
  | .bad => .bad
def SRes.nbind (r : SRes) (k : Es → List EO → SRes) : SRes := match r with
  | .nx es h => k es h
  | r => r
def PostS (K : PySem.W.Frag) (E : XK) (m : List Addr) (H : Hp) (r : SRes) (D : Ends) : Prop := match r with
  | .nx es h' => ∀ σ H' m', Stp m H m' H' → Wd K m' h' H' → REn K m' H' es σ → D.nx σ H'
  | .bk es h' => ∀ σ H' m', Stp m H m' H' → Wd K m' h' H' → REn K m' H' es σ → D.bk σ H'
  | .ct es h' => ∀ σ H' m', Stp m H m' H' → Wd K m' h' H' → REn K m' H' es σ → D.ct σ H'
  | .rt x h' => ∀ v H' m', Stp m H m' H' → Wd K m' h' H' → RS K m' H' x v → D.rt v H'
  | .exc C fs h' => ∀ d H' m', Stp m H m' H' → Wd K m' h' H' → RX K m' H' d fs → E (.ref C) d H'
  | .bad => False
section
variable {K : PySem.W.Frag} {E : XK} {m m' : List Addr} {H H' : Hp} {h h' : List EO} {D D' : Ends}
theorem PostS.step {r : SRes} (s : Stp m H m' H') (p : PostS K E m H r D) : PostS K E m' H' r D := by
  cases r with
  | nx es h' => exact fun σ H2 m2 s2 => p σ H2 m2 (s.trans s2)
  | bk es h' => exact fun σ H2 m2 s2 => p σ H2 m2 (s.trans s2)
  | ct es h' => exact fun σ H2 m2 s2 => p σ H2 m2 (s.trans s2)
  | rt x h' => exact fun σ H2 m2 s2 => p σ H2 m2 (s.trans s2)
  | exc C fs h' => exact fun σ H2 m2 s2 => p σ H2 m2 (s.trans s2)
  | bad => exact p
theorem PostS.sbind {α β : Type} {R : List Addr → Hp → α → β → Prop} {r : Res α} {k : α → List EO → SRes} {Q' : β → Hp → Prop}
    (p : PostS K E m H (r.sbind k) D) (f : ∀ x h1 v H1 m1, Stp m H m1 H1 → Wd K m1 h1 H1 → R m1 H1 x v → PostS K E m1 H1 (k x h1) D → Q' v H1) : Post K E R m H r Q' := by
  cases r with
  | ok x h' => exact fun v H2 m2 s2 w2 r2 => f x h' v H2 m2 s2 w2 r2 (p.step s2)
  | exc C fs h' => exact p
  | bad => exact p
theorem PostS.nx_ {es : Es} {σ : L2.St} (p : PostS K E m H (.nx es h) D) (w : Wd K m h H) (r : REn K m H es σ) : D.nx σ H := p σ H m (.refl m H) w r
theorem PostS.rt_ {x : SV} {v : V} (p : PostS K E m H (.rt x h) D) (w : Wd K m h H) (r : RS K m H x v) : D.rt v H := p v H m (.refl m H) w r
end
def tSS (K : PySem.W.Frag) (E : XK) (f : MS) : TS := fun D σ H => ∃ m h es, Wd K m h H ∧ REn K m H es σ ∧ PostS K E m H (f es h) D
def DS (X : Cx) (E : XK) (st : Stmt) (f : MS) : Prop := PS X st (tSS X.K E f)
def DSs (X : Cx) (E : XK) (st : List Stmt) (f : MS) : Prop := PSs X st (tSS X.K E f)
abbrev MG := SV → Es → List EO → Res Es
def tSG (K : PySem.W.Frag) (E : XK) (g : MG) : TG := fun v σ H Q => ∃ m h es x, Wd K m h H ∧ REn K m H es σ ∧ RS K m H x v ∧ Post K E (REn K) m H (g x es h) Q
def DG (X : Cx) (E : XK) (e : Expr) (g : MG) : Prop := PG X e (tSG X.K E g)
abbrev MGs := List SV → Es → List EO → Res Es
def tSGs (K : PySem.W.Frag) (E : XK) (g : MGs) : TGs := fun vs σ H Q => ∃ m h es xs, Wd K m h H ∧ REn K m H es σ ∧ RSs K m H xs vs ∧ Post K E (REn K) m H (g xs es h) Q
def DGs (X : Cx) (E : XK) (es : List Expr) (g : MGs) : Prop := PGs X es (tSGs X.K E g)

section
variable {X : Cx} {E : XK} {e : Expr} {K : PySem.W.Frag} {m m' : List Addr} {H H' : Hp} {h h' : List EO} {pos pos' apos : Pos} {a b o i : Expr} {fa fb fo fi fe : ME} {es : List Expr} {g : MG} {gs : MGs} {st : Stmt} {sts : List Stmt} {f f' : MS}
theorem PS.of {t t' : TS} (p : PS X st t) (w : ∀ D σ H, t' D σ H → t D σ H) : PS X st t' := ⟨fun pins s σ H D I q => p.run pins s σ H D I (w _ _ _ q)⟩
theorem PSs.of {t t' : TS} (p : PSs X sts t) (w : ∀ D σ H, t' D σ H → t D σ H) : PSs X sts t' := ⟨fun pins s σ H D I q => p.run pins s σ H D I (w _ _ _ q)⟩
theorem PG.of {t t' : TG} (p : PG X e t) (w : ∀ v σ H Q, t' v σ H Q → t v σ H Q) : PG X e t' := ⟨fun pins s σ H v u Q I r q => p.run pins s σ H v u Q I r (w _ _ _ _ q)⟩
theorem PGs.of {t t' : TGs} (p : PGs X es t) (w : ∀ v σ H Q, t' v σ H Q → t v σ H Q) : PGs X es t' := ⟨fun pins s σ H v u Q I r q => p.run pins s σ H v u Q I r (w _ _ _ _ q)⟩

/-! ### targets -/
def gNm (i : Nat) : MG := fun x es h => .ok (es.set i (some x)) h
theorem d_gname (i : Nat) {x : Str} (hN : X.N.Nodup) (hi : X.N[i]? = some x := by rfl) (hx : Loc X.env.scope x := by first | exact Or.inl rfl | exact Or.inr rfl)
    (hf : X.fn x = true ∨ X.env.scope.names.lookup x = some .local := by first | exact .inl rfl | exact .inr rfl) : DG X E (.Name x pos) (gNm i) :=
  PG.of (pg_name hN hi hx hf) fun v σ H Q ⟨m, h, es, x, w, r, rx, p⟩ => p.ok_ (R := REn X.K) w (r.set i rx)
def gsNil : MGs := fun xs es h => match xs with
  | [] => .ok es h
  | _ => .bad
def gsCons (g : MG) (gs : MGs) : MGs := fun xs es h => match xs with
  | x :: r => (g x es h).bind fun es1 h1 => gs r es1 h1
  | [] => .bad
theorem d_gsnil : DGs X E [] gsNil := PGs.of pgs_nil fun v σ H Q ⟨m, h, es, xs, w, r, rx, p⟩ => by
  unfold gsNil at p
  split at p
  · cases rx
    exact ⟨rfl, p.ok_ (R := REn X.K) w r⟩
  · exact p.elim
theorem d_gscons (h1 : DG X E e g) (h2 : DGs X E es gs) (hs : (assignEach (e :: es) X.env).map (·.2) = assign e X.env :: (assignEach es X.env).map (·.2) := by rfl) : DGs X E (e :: es) (gsCons g gs) := PGs.of (pgs_cons h1 h2 hs) fun v σ H Q ⟨m, h, en, xs, w, r, rx, p⟩ => by
  unfold gsCons at p
  split at p
  · cases rx with
    | cons q t =>
      refine ⟨_, _, rfl, m, h, en, _, w, r, q, p.bind fun en1 h1 σ1 H1 m1 s1 w1 r1 p1 => ?_⟩
      exact ⟨m1, h1, en1, _, w1, r1, RSs.stp s1 t, p1⟩
  · exact p.elim
def gTp (n : Nat) (gs : MGs) : MG := fun x es h => match tupOf x with
  | some xs => if xs.length = n then gs (xs.map .p) es h else .bad
  | none => .bad
theorem d_gtup {k : Nat} {n : Nat} (hc : X.calm = true) (hs : DGs X E es gs) (hn : (assignEach es X.env).length = n := by rfl) (hst : (assignEach es X.env).findIdx? (·.1) = none := by rfl) : DG X E (.Tuple es k pos) (gTp n gs) := PG.of (pg_tup (n := n) hc hs hn hst) fun v σ H Q ⟨m, h, en, x, w, r, rx, p⟩ => by
  unfold gTp at p
  split at p
  · rename_i xs e
    obtain ⟨a, vs, rfl, q, ra⟩ := tup_is rx e
    split at p
    · rename_i hl
      exact ⟨a, vs, rfl, q, by rw [← ra.len]; exact hl, m, h, en, _, w, r, .ofP ra, p⟩
    · exact p.elim
  · exact p.elim
/-! o[i] = v -/
def setF (o i x : SV) (h : List EO) : Res Unit := match o with
  | .ref n => match h[n]? with
    | some (.lst xs) => match i with
      | .p (.int k) => match ixN xs.length k with
        | some j => .ok () (h.set n (.lst (xs.set j x)))
        | none => .bad
      | _ => .bad
    | some (.dic kvs) => match keyOf i with
      | some k => if kvs.length < sizeLine then .ok () (h.set n (.dic (dkPut kvs k x))) else .bad
      | none => .bad
    | some (.dit kvs) => match tkeyOf i with
      | some k => if kvs.length < sizeLine then .ok () (h.set n (.dit (dkPut kvs k x))) else .bad
      | none => .bad
    | _ => .bad
  | _ => .bad
abbrev rSetAll : TSet := fun o i v H Q => rSetL o i v H Q ∨ rSetD o i v H Q
theorem o_set (hu : X.A.units + 1 < cLine) : PSet X rSetAll := set_list.or (set_dict hu)
theorem r_set {o i x : SV} {vo vi vx : V} {Q : Unit → Hp → Prop} (w : Wd K m h H) (ro : RS K m H o vo) (ri : RS K m H i vi) (rx : RS K m H x vx) (p : Post K E (fun _ _ _ _ => True) m H (setF o i x h) Q) : rSetAll vo vi vx H (Q ()) := by
  unfold setF at p
  split at p
  · rename_i n
    obtain ⟨a, ea, rfl⟩ := ro
    split at p
    · rename_i xs eh
      obtain ⟨vs, q, r⟩ := w.at_ n _ a eh ea
      split at p
      · cases (show RP _ _ _ _ _ from ri)
        split at p
        · rename_i j ej
          exact .inl ⟨a, vs, _, j, rfl, rfl, q, by rw [← r.len]; exact ej, p () _ _ (.write ea) (w.write ea ⟨vs.set j vx, upd_same, (r.set j rx).stp (.write ea)⟩) trivial⟩
        · exact p.elim
      · exact p.elim
    · rename_i kvs eh
      obtain ⟨ws, q, e1, r⟩ := w.at_ n _ a eh ea
      split at p
      · rename_i k ek
        split at p
        · rename_i hl
          have hwl : ws.length < sizeLine := by
            have := congrArg List.length e1
            simp at this
            omega
          obtain ⟨p1, p2⟩ := put_is rx (k := k) e1 r
          refine .inr ⟨a, _, rfl, .inl ⟨ws, k, q, key_is ri ek, hwl, rfl⟩, p () _ _ (.write ea) (w.write ea ⟨putK ws k vx, upd_same, p1, p2.stp (.write ea)⟩) trivial⟩
        · exact p.elim
      · exact p.elim
    · rename_i kvs eh
      obtain ⟨ws, q, e1, r⟩ := w.at_ n _ a eh ea
      split at p
      · rename_i k ek
        split at p
        · rename_i hl
          have hwl : ws.length < sizeLine := by
            have := congrArg List.length e1
            simp at this
            omega
          obtain ⟨p1, p2⟩ := put_is rx (k := k) e1 r
          obtain ⟨b, rfl, hb⟩ := tkey_is ri ek
          refine .inr ⟨a, _, rfl, .inr ⟨ws, k, b, q, rfl, hb, hwl, rfl⟩, p () _ _ (.write ea) (w.write ea ⟨putK ws k vx, upd_same, p1, p2.stp (.write ea)⟩) trivial⟩
        · exact p.elim
      · exact p.elim
    · exact p.elim
  · exact p.elim
def gSb (fo fi : ME) : MG := fun x es h => (fo es h).bind fun o h1 => (fi es h1).bind fun i h2 => (setF o i x h2).bind fun _ h3 => .ok es h3
theorem d_gsub (hu : X.A.units + 1 < cLine) (ho : DE X E o fo) (hi : DE X E i fi)
    (ha : ∀ v, assign (.Subscript o i pos) X.env v = (do
      let ov ← holding [v] (eval o X.env)
      let iv ← holding [v, ov] (eval i X.env)
      standAt pos
      holding [v, ov, iv] (setItem ov iv v)
      release [v, ov, iv] []) := by intro _; rfl) : DG X E (.Subscript o i pos) (gSb fo fi) := by
  refine PG.of (pg_sub ho hi (o_set hu) ha) fun v σ H Q ⟨m, h, es, x, w, r, rx, p⟩ => ⟨m, h, es, w, r, p.bind fun ov h1 vo H1 m1 s1 w1 r1 p1 => ?_⟩
  refine ⟨m1, h1, es, w1, r.stp s1, p1.bind fun iv h2 vi H2 m2 s2 w2 r2 p2 => ?_⟩
  refine r_set (Q := fun _ H3 => Q σ H3) w2 (r1.stp s2) r2 ((rx.stp s1).stp s2) (p2.bind fun _ h3 _ H3 m3 s3 w3 _ p3 => ?_)
  exact p3.ok_ (R := REn X.K) w3 ((r.stp s1).stp (s2.trans s3))

/-! ### blocks, small statements -/
def sNil : MS := fun es h => .nx es h
def sSeq (f g : MS) : MS := fun es h => (f es h).nbind g
theorem d_snil : DSs X E [] sNil := PSs.of pss_nil fun D σ H ⟨m, h, es, w, r, p⟩ => p.nx_ w r
theorem d_scons (h1 : DS X E st f) (h2 : DSs X E sts f') : DSs X E (st :: sts) (sSeq f f') := PSs.of (pss_cons h1 h2) fun D σ H ⟨m, h, es, w, r, p⟩ => by
  refine ⟨m, h, es, w, r, ?_⟩
  unfold sSeq at p
  cases z : f es h with
  | nx en h1 =>
    rw [z] at p
    exact fun σ1 H1 m1 s1 w1 r1 => ⟨m1, h1, en, w1, r1, p.step s1⟩
  | rt x h1 => rw [z] at p; exact p
  | bk x h1 => rw [z] at p; exact p
  | ct x h1 => rw [z] at p; exact p
  | exc C fs h1 => rw [z] at p; exact p
  | bad => rw [z] at p; exact p
theorem d_sone (h1 : DS X E st f) : DSs X E [st] f := pss_one h1
def sPass : MS := fun es h => .nx es h
def sBreak : MS := fun es h => .bk es h
def sCont : MS := fun es h => .ct es h
theorem d_pass : DS X E (.Pass pos) sPass := PS.of ps_pass fun D σ H ⟨m, h, es, w, r, p⟩ => p.nx_ w r
theorem d_break : DS X E (.Break pos) sBreak := PS.of ps_break fun D σ H ⟨m, h, es, w, r, p⟩ => p σ H m (.refl m H) w r
theorem d_cont : DS X E (.Continue pos) sCont := PS.of ps_continue fun D σ H ⟨m, h, es, w, r, p⟩ => p σ H m (.refl m H) w r
def sExpr (f : ME) : MS := fun es h => (f es h).sbind fun _ h1 => .nx es h1
theorem d_expr (he : DE X E e fe) (hs : swapsWith e none pos.line X.env = pure false := by rfl) : DS X E (.Expr e pos) (sExpr fe) := PS.of (ps_expr he hs) fun D σ H ⟨m, h, es, w, r, p⟩ =>
  ⟨m, h, es, w, r, p.sbind fun x h1 v H1 m1 s1 w1 r1 p1 => p1.nx_ w1 (r.stp s1)⟩
def sRet (f : ME) : MS := fun es h => (f es h).sbind fun x h1 => .rt x h1
theorem d_ret (he : DE X E e fe) : DS X E (.Return (some e) pos) (sRet fe) := PS.of (ps_ret he) fun D σ H ⟨m, h, es, w, r, p⟩ =>
  ⟨m, h, es, w, r, p.sbind fun x h1 v H1 m1 s1 w1 r1 p1 => p1.rt_ w1 r1⟩
def sRetN : MS := fun es h => .rt (.p .non) h
theorem d_retN : DS X E (.Return none pos) sRetN := PS.of ps_retN fun D σ H ⟨m, h, es, w, r, p⟩ => p.rt_ w (show RP _ _ _ _ _ from .non)
def sIf (t : MT) (f g : MS) : MS := fun es h => (t es h).sbind fun b h1 => if b = true then f es h1 else g es h1
theorem d_sif {c : Expr} {as bs : List Stmt} {tc : MT} (hc : DT X E c tc) (ha : DSs X E as f) (hb : DSs X E bs f') : DS X E (.If c as bs pos) (sIf tc f f') := PS.of (ps_if hc ha hb) fun D σ H ⟨m, h, es, w, r, p⟩ =>
  ⟨m, h, es, w, r, p.sbind fun x h1 v H1 m1 s1 w1 r1 p1 => by
    cases (show x = v from r1)
    split at p1
    · rename_i e
      rw [if_pos e]
      exact ⟨m1, h1, es, w1, r.stp s1, p1⟩
    · rename_i e
      rw [if_neg e]
      exact ⟨m1, h1, es, w1, r.stp s1, p1⟩⟩
/-- a statement that is never reached -/
def sBad : MS := fun _ _ => .bad
theorem d_never : DS X E st sBad := PS.of ps_never fun D σ H ⟨m, h, es, w, r, p⟩ => p
theorem d_nevers : DSs X E sts sBad := PSs.of pss_never fun D σ H ⟨m, h, es, w, r, p⟩ => p
/-! ### stores -/
def sSet (i : Nat) (f : ME) : MS := fun es h => (f es h).sbind fun x h1 => .nx (es.set i (some x)) h1
theorem d_set (i : Nat) {x : Str} (hN : X.N.Nodup) (he : DE X E e fe) (hi : X.N[i]? = some x := by rfl) (hx : Loc X.env.scope x := by first | exact Or.inl rfl | exact Or.inr rfl) (hs : swapsWith e (some (.Name x pos')) pos.line X.env = pure false := by rfl)
    (hf : X.fn x = true ∨ X.env.scope.names.lookup x = some .local := by first | exact .inl rfl | exact .inr rfl) : DS X E (.Assign [.Name x pos'] e pos) (sSet i fe) :=
  PS.of (ps_set (i := i) hN hi hx he hs hf) fun D σ H ⟨m, h, es, w, r, p⟩ => ⟨m, h, es, w, r, p.sbind fun y h1 v H1 m1 s1 w1 r1 p1 => p1.nx_ w1 ((r.stp s1).set i r1)⟩
def sAsg (g : MG) (f : ME) : MS := fun es h => (f es h).sbind fun x h1 => (g x es h1).sbind fun es2 h2 => .nx es2 h2
theorem d_asg {tg : Expr} (he : DE X E e fe) (hg : DG X E tg g) (hs : swapsWithSole [tg] e pos.line X.env = pure false := by rfl) (hw : swappedStores [tg] e X.env = pure none := by rfl) (h1 : (assignEach [tg] X.env).map (·.2) = [assign tg X.env] := by rfl) : DS X E (.Assign [tg] e pos) (sAsg g fe) :=
  PS.of (ps_asg he hg hs hw h1) fun D σ H ⟨m, h, es, w, r, p⟩ => ⟨m, h, es, w, r, p.sbind fun y h1 v H1 m1 s1 w1 r1 p1 =>
    ⟨m1, h1, es, y, w1, r.stp s1, r1, p1.sbind fun es2 h2 σ2 H2 m2 s2 w2 r2 p2 => p2.nx_ w2 r2⟩⟩
def sPar (i j : Nat) (ga : MA) : MS := fun es h => (ga es h).sbind fun xs h1 => match xs with
  | [x, y] => .nx ((es.set i (some x)).set j (some y)) h1
  | _ => .bad
theorem d_par {i j : Nat} {x y : Str} {px py pt : Pos} {kt k2 pt2} {ga : MA} (hc : X.calm = true) (hN : X.N.Nodup) (ha : DA X E [a, b] ga) (hi : X.N[i]? = some x := by rfl) (hj : X.N[j]? = some y := by rfl) (hij : i ≠ j := by decide)
    (hx : X.env.scope.names.lookup x = some .local := by rfl) (hy : X.env.scope.names.lookup y = some .local := by rfl)
    (hw : swappedStores [.Tuple [.Name x px, .Name y py] kt pt] (.Tuple [a, b] k2 pt2) X.env = pure (some [x, y]) := by rfl)
    (hs : swapsWithSole [.Tuple [.Name x px, .Name y py] kt pt] (.Tuple [a, b] k2 pt2) pos.line X.env = pure false := by rfl) :
    DS X E (.Assign [.Tuple [.Name x px, .Name y py] kt pt] (.Tuple [a, b] k2 pt2) pos) (sPar i j ga) :=
  PS.of (ps_par hc hN hi hj hij hx hy ha hw hs) fun D σ H ⟨m, h, es, w, r, p⟩ => ⟨m, h, es, w, r, p.sbind fun xs h1 vs H1 m1 s1 w1 r1 p1 => by
    split at p1
    · obtain ⟨v, u, rfl, rv, ru⟩ := RSs.two r1
      exact ⟨v, u, rfl, p1.nx_ w1 (((r.stp s1).set i rv).set j ru)⟩
    · exact p1.elim⟩
def sPar3 (i j l : Nat) (ga : MA) : MS := fun es h => (ga es h).sbind fun xs h1 => match xs with
  | [x, y, z] => .nx (((es.set i (some x)).set j (some y)).set l (some z)) h1
  | _ => .bad
theorem RSs.three {x y z : SV} {vs : List V} : RSs K m H [x, y, z] vs → ∃ v u t, vs = [v, u, t] ∧ RS K m H x v ∧ RS K m H y u ∧ RS K m H z t
  | .cons r (.cons q (.cons s .nil)) => ⟨_, _, _, rfl, r, q, s⟩
theorem d_par3 {i j l : Nat} {x y z : Str} {c : Expr} {px py pz pt : Pos} {kt k2 pt2} {ga : MA} (hc : X.calm = true) (hN : X.N.Nodup) (ha : DA X E [a, b, c] ga) (hi : X.N[i]? = some x := by rfl) (hj : X.N[j]? = some y := by rfl) (hl : X.N[l]? = some z := by rfl)
    (hij : i ≠ j := by decide) (hil : i ≠ l := by decide) (hjl : j ≠ l := by decide)
    (hx : X.env.scope.names.lookup x = some .local := by rfl) (hy : X.env.scope.names.lookup y = some .local := by rfl) (hz : X.env.scope.names.lookup z = some .local := by rfl)
    (hw : swappedStores [.Tuple [.Name x px, .Name y py, .Name z pz] kt pt] (.Tuple [a, b, c] k2 pt2) X.env = pure (some [x, y, z]) := by rfl)
    (hs : swapsWithSole [.Tuple [.Name x px, .Name y py, .Name z pz] kt pt] (.Tuple [a, b, c] k2 pt2) pos.line X.env = pure false := by rfl) :
    DS X E (.Assign [.Tuple [.Name x px, .Name y py, .Name z pz] kt pt] (.Tuple [a, b, c] k2 pt2) pos) (sPar3 i j l ga) :=
  PS.of (ps_par3 hc hN hi hj hl hij hil hjl hx hy hz ha hw hs) fun D σ H ⟨m, h, es, w, r, p⟩ => ⟨m, h, es, w, r, p.sbind fun xs h1 vs H1 m1 s1 w1 r1 p1 => by
    split at p1
    · obtain ⟨v, u, t, rfl, rv, ru, rt⟩ := RSs.three r1
      exact ⟨v, u, t, rfl, p1.nx_ w1 ((((r.stp s1).set i rv).set j ru).set l rt)⟩
    · exact p1.elim⟩
/-! name op= e -/
def DoIp (K : PySem.W.Frag) (E : XK) (r : TIp) (f : F2) : Prop := DoR2 K E r f
def sAug (i : Nat) (f : F2) (fe : ME) : MS := fun es h => match es[i]? with
  | some (some x) => (fe es h).sbind fun y h1 => (f x y h1).sbind fun z h2 => .nx (es.set i (some z)) h2
  | _ => .bad
theorem d_aug {op : Operator} {t : TIp} {fo : F2} (i : Nat) {x : Str} (hN : X.N.Nodup) (ho : PIp X op t) (hr : DoIp X.K E t fo) (he : DE X E e fe) (hi : X.N[i]? = some x := by rfl) (hx : Loc X.env.scope x := by first | exact Or.inl rfl | exact Or.inr rfl)
    (hf : X.fn x = true ∨ X.env.scope.names.lookup x = some .local := by first | exact .inl rfl | exact .inr rfl) : DS X E (.AugAssign (.Name x pos') op e pos) (sAug i fo fe) :=
  PS.of (ps_aug (i := i) hN hi hx he ho hf) fun D σ H ⟨m, h, es, w, r, p⟩ => by
    unfold sAug at p
    split at p
    · rename_i x' ex
      obtain ⟨v, ev, rv⟩ := r.2 _ _ ex
      refine ⟨v, ev, m, h, es, w, r, p.sbind fun y h1 u H1 m1 s1 w1 r1 p1 => ?_⟩
      exact hr x' y h1 v u m1 H1 _ w1 (rv.stp s1) r1 (p1.sbind fun z h2 vz H2 m2 s2 w2 r2 p2 => p2.nx_ w2 (((r.stp s1).stp s2).set i r2))
    · exact p.elim
theorem r_ipadd : DoIp K E (ipI fun i j => i + j) (opInt (fun _ _ => true) fun i j => i + j) := fun x y h vx vy m H Q w rx ry p => by
  obtain ⟨i, j, e1, e2, _, q⟩ := r_int (C := fun _ _ => True) (fun _ _ _ => trivial) x y h vx vy m H Q w rx ry p
  exact ⟨i, j, e1, e2, q⟩
theorem r_ipsub : DoIp K E (ipI fun i j => i - j) (opInt (fun _ _ => true) fun i j => i - j) := fun x y h vx vy m H Q w rx ry p => by
  obtain ⟨i, j, e1, e2, _, q⟩ := r_int (C := fun _ _ => True) (fun _ _ _ => trivial) x y h vx vy m H Q w rx ry p
  exact ⟨i, j, e1, e2, q⟩

/-! ### while -/
def sWhile (t : MT) (f : MS) : Nat → MS
  | 0 => fun _ _ => .bad
  | n + 1 => fun es h => (t es h).sbind fun b h1 => if b = true then (match f es h1 with
    | .nx es2 h2 => sWhile t f n es2 h2
    | .ct es2 h2 => sWhile t f n es2 h2
    | .bk es2 h2 => .nx es2 h2
    | r => r) else .nx es h1
theorem d_while {c : Expr} {body : List Stmt} {tc : MT} (n : Nat) (hp : PassesOwn (model X.prog X.w) X.A X.env X.xe) (hc : DT X E c tc) (hb : DSs X E body f) : DS X E (.While c body [] pos) (sWhile tc f n) :=
  PS.of (ps_while hp hc hb) fun D σ H q => by
    obtain ⟨m, h, es, w, r, p⟩ := q
    refine ⟨fun k σ H => tSS X.K E (sWhile tc f k) D σ H, ⟨n, m, h, es, w, r, p⟩, fun k σ H q => ?_⟩
    obtain ⟨m, h, es, w, r, p⟩ := q
    cases k with
    | zero => exact p.elim
    | succ k =>
      refine ⟨m, h, es, w, r, p.sbind fun x h1 v H1 m1 s1 w1 r1 p1 => ?_⟩
      cases (show x = v from r1)
      split at p1
      · rename_i e
        rw [if_pos e]
        refine ⟨fun σ H => tSS X.K E (sWhile tc f k) D σ H, fun σ' H' q => ⟨k, Nat.lt_succ_self k, q⟩, m1, h1, es, w1, r.stp s1, ?_⟩
        cases z : f es h1 with
        | nx en h2 => rw [z] at p1; exact fun σ2 H2 m2 s2 w2 r2 => ⟨m2, h2, en, w2, r2, p1.step s2⟩
        | ct en h2 => rw [z] at p1; exact fun σ2 H2 m2 s2 w2 r2 => ⟨m2, h2, en, w2, r2, p1.step s2⟩
        | bk en h2 => rw [z] at p1; exact fun σ2 H2 m2 s2 w2 r2 => p1 σ2 H2 m2 s2 w2 r2
        | rt x h2 => rw [z] at p1; exact fun σ2 H2 m2 s2 w2 r2 => p1 σ2 H2 m2 s2 w2 r2
        | exc C fs h2 => rw [z] at p1; exact fun σ2 H2 m2 s2 w2 r2 => p1 σ2 H2 m2 s2 w2 r2
        | bad => rw [z] at p1; exact p1
      · rename_i e
        rw [if_neg e]
        exact p1.nx_ w1 (r.stp s1)
end
end EV

-- E8
/-! E8: what is walked; for; comprehensions. -/
namespace EV
open PySem PySem.Spec L2
/-- the next item at turn i: none: nothing is told; some none: the end -/
abbrev Nxt := Nat → List EO → Option (Option SV)
abbrev MI := Es → List EO → Res (Nxt × Nat)
def IterOk (K : PySem.W.Frag) (m : List Addr) (H : Hp) (x : Nxt × Nat) (J : It) : Prop := ∀ m' H' h', Stp m H m' H' → Wd K m' h' H' → ∀ i, match x.1 i h' with
  | none => True
  | some none => J.stop i H'
  | some (some y) => J.go i H' ∧ ∀ v H'', J.yld i H' v H'' → Stp m' H' m' H'' ∧ Wd K m' h' H'' ∧ RS K m' H'' y v
def tSI (K : PySem.W.Frag) (E : XK) (f : MI) : TI := tS K E (IterOk K) f
def DI (X : Cx) (E : XK) (tg iter : Expr) (f : MI) : Prop := PI X tg iter (tSI X.K E f)
section
variable {X : Cx} {E : XK} {e : Expr} {K : PySem.W.Frag} {m m' : List Addr} {H H' : Hp} {h h' : List EO} {pos pos' apos : Pos} {tg iter : Expr} {fa fb fe : ME} {g : MG} {f f' : MS} {fI : MI}
theorem PI.of {t t' : TI} (p : PI X tg iter t) (w : ∀ σ H R, t' σ H R → t σ H R) : PI X tg iter t' := ⟨fun pins s σ H R I q => p.run pins s σ H R I (w _ _ _ q)⟩

/-! ### lists, tuples -/
def nxtL (xs : List SV) : Nxt := fun i _ => some xs[i]?
def nxtR (n : Nat) : Nxt := fun i h => match h[n]? with
  | some (.lst xs) => some xs[i]?
  | _ => none
/-- how many turns a walk over a list that may grow is let go on -/
def fuelL : Nat := 100000
def seqP : PV → Option (List PV)
  | .tup xs => some xs
  | .ktp xs => some xs
  | .ftp xs => some xs
  | .fl xs => some xs
  | .fz xs => some xs
  | _ => none
def iSeq (fa : ME) : MI := fun es h => (fa es h).bind fun x h1 => match x with
  | .ref n => match h1[n]? with
    | some (.lst _) => .ok (nxtR n, fuelL) h1
    | _ => .bad
  | .p x => match seqP x with
    | some xs => .ok (nxtL (xs.map .p), xs.length + 1) h1
    | none => .bad
theorem iter_tup {a : Addr} {xs : List PV} {vs : List V} (q : SqT K H a vs) (n : ∀ u, Rd H a u → a ∉ m) (r : RPs K m H xs vs) (k : Nat) : IterOk K m H (nxtL (xs.map .p), k) (Itt K a) := by
  intro m' H' h' st w i
  have q' : SqT K H' a vs := by
    rcases q with q | q
    · exact .inl (st.rd (n _ q) q).1
    · exact .inr q
  have r' : RSs K m' H' (xs.map .p) vs := .ofP (r.stp st)
  show match nxtL (xs.map .p) i h' with | none => True | some none => _ | some (some y) => _
  unfold nxtL
  cases e : (xs.map SV.p)[i]? with
  | none =>
    refine ⟨vs, q', ?_⟩
    have := List.getElem?_eq_none_iff.mp e
    rw [← r'.len]; exact this
  | some y =>
    obtain ⟨v, ev, rv⟩ := r'.get e
    refine ⟨⟨vs, v, q', ev⟩, fun u H'' hy => ?_⟩
    obtain ⟨rfl, hy⟩ := hy
    have eu := hy vs q'
    rw [ev] at eu
    cases eu
    exact ⟨.refl _ _, w, rv⟩
theorem iter_ktp {a : Addr} {xs : List PV} {vs : List V} (q : KTup K a vs) (r : RPs K m H xs vs) (k : Nat) : IterOk K m H (nxtL (xs.map .p), k) (Itt K a) := by
  intro m' H' h' st w i
  have q' : SqT K H' a vs := .inr q
  have r' : RSs K m' H' (xs.map .p) vs := .ofP (r.stp st)
  show match nxtL (xs.map .p) i h' with | none => True | some none => _ | some (some y) => _
  unfold nxtL
  cases e : (xs.map SV.p)[i]? with
  | none =>
    refine ⟨vs, q', ?_⟩
    have := List.getElem?_eq_none_iff.mp e
    rw [← r'.len]; exact this
  | some y =>
    obtain ⟨v, ev, rv⟩ := r'.get e
    refine ⟨⟨vs, v, q', ev⟩, fun u H'' hy => ?_⟩
    obtain ⟨rfl, hy⟩ := hy
    have eu := hy vs q'
    rw [ev] at eu
    cases eu
    exact ⟨.refl _ _, w, rv⟩
theorem iter_lst {a : Addr} {xs : List PV} {vs : List V} (q : SqLm K m H a vs) (r : RPs K m H xs vs) (k : Nat) : IterOk K m H (nxtL (xs.map .p), k) (Itl K a) := by
  intro m' H' h' st w i
  have q' : SqL K H' a vs := (q.stp st).sq
  have r' : RSs K m' H' (xs.map .p) vs := .ofP (r.stp st)
  show match nxtL (xs.map .p) i h' with | none => True | some none => _ | some (some y) => _
  unfold nxtL
  cases e : (xs.map SV.p)[i]? with
  | none =>
    refine ⟨vs, q', ?_⟩
    have := List.getElem?_eq_none_iff.mp e
    rw [← r'.len]; exact this
  | some y =>
    obtain ⟨v, ev, rv⟩ := r'.get e
    refine ⟨⟨vs, v, q', ev⟩, fun u H'' hy => ?_⟩
    obtain ⟨rfl, hy⟩ := hy
    have eu := hy vs q'
    rw [ev] at eu
    cases eu
    exact ⟨.refl _ _, w, rv⟩
theorem iter_ref {a : Addr} {n : Nat} (ea : m[n]? = some a) (k : Nat) : IterOk K m H (nxtR n, k) (Itl K a) := by
  intro m' H' h' st w i
  show match nxtR n i h' with | none => True | some none => _ | some (some y) => _
  unfold nxtR
  split
  · trivial
  · rename_i e
    split at e
    · rename_i xs eh
      have ea' : m'[n]? = some a := by
        obtain ⟨ms, rfl, _⟩ := st.more
        rw [List.getElem?_append_left (List.getElem?_eq_some_iff.mp ea).1]; exact ea
      obtain ⟨vs, q, r⟩ := w.at_ n _ a eh ea'
      refine ⟨vs, SqL.of q, ?_⟩
      have := List.getElem?_eq_none_iff.mp (Option.some.inj e)
      rw [← r.len]; exact this
    · cases e
  · rename_i y e
    split at e
    · rename_i xs eh
      have ea' : m'[n]? = some a := by
        obtain ⟨ms, rfl, _⟩ := st.more
        rw [List.getElem?_append_left (List.getElem?_eq_some_iff.mp ea).1]; exact ea
      obtain ⟨vs, q, r⟩ := w.at_ n _ a eh ea'
      obtain ⟨v, ev, rv⟩ := r.get (Option.some.inj e)
      refine ⟨⟨vs, v, SqL.of q, ev⟩, fun u H'' hy => ?_⟩
      obtain ⟨rfl, hy⟩ := hy
      have eu := hy vs (SqL.of q)
      rw [ev] at eu
      cases eu
      exact ⟨.refl _ _, w, rv⟩
    · cases e

theorem PI.or {t t' : TI} (p : PI X tg iter t) (q : PI X tg iter t') : PI X tg iter fun σ H R => t σ H R ∨ t' σ H R :=
  ⟨fun pins s σ H R I z => z.elim (p.run pins s σ H R I) (q.run pins s σ H R I)⟩
/-- pi_list and pi_tup in one -/
def iSq (K : PySem.W.Frag) (tl : TE) : TI := fun σ H R => tl σ H fun x H1 => ∃ a, x = .ref a ∧ (((∃ xs, SqL K H1 a xs) ∧ R (Itl K a) H1) ∨ ((∃ xs, SqT K H1 a xs) ∧ R (Itt K a) H1))
theorem pi_sq {l : Expr} {tl : TE} (hl : PE X l tl) : PI X tg l (iSq X.K tl) := by
  refine ⟨fun pins s σ H R I h => ?_⟩
  refine thn (hl.run pins s σ H _ I h) fun v s1 ⟨x, H1, I1, r1, q1⟩ => ?_
  obtain ⟨a, e, ⟨⟨xs, hq⟩, q⟩ | ⟨⟨xs, hq⟩, q⟩⟩ := q1
  · subst e
    cases r1
    obtain ⟨its, rv, p, hz⟩ := I1.list hq
    refine wpAny_pyIter_list p.isList ?_
    refine ⟨s1.heap.objs.size, [s1.heap.objs.size], _, _, H1, rfl, I1.kept (t' := s1.toks) fun b o e => Heap.get?_push_of_some _ e, turn_list a _, ⟨_, Heap.get?_push_size _ rfl, rfl, rfl⟩, fun b hb => ?_, q⟩
    have e : b = s1.heap.objs.size := by simpa using hb
    subst e
    exact I1.fpOk (Nat.le_refl _) (I1.hok.fresh (Nat.le_refl _))
  · subst e
    cases r1
    obtain ⟨its, rv, p, hz⟩ := I1.tuple hq
    refine wpAny_pyIter_tuple (show s1.heap.IsTuple a its.toArray from p) ?_
    refine ⟨s1.heap.objs.size, [s1.heap.objs.size], _, _, H1, rfl, I1.kept (t' := s1.toks) fun b o e => Heap.get?_push_of_some _ e, turn_tuple a _, ⟨_, Heap.get?_push_size _ rfl, rfl, rfl⟩, fun b hb => ?_, q⟩
    have e : b = s1.heap.objs.size := by simpa using hb
    subst e
    exact I1.fpOk (Nat.le_refl _) (I1.hok.fresh (Nat.le_refl _))
theorem seqP_is {x : PV} {v : V} {xs : List PV} (r : RP K m H x v) (e : seqP x = some xs) (k : Nat) : ∃ a, v = .ref a ∧ (((∃ vs, SqL K H a vs) ∧ IterOk K m H (nxtL (xs.map .p), k) (Itl K a)) ∨ ((∃ vs, SqT K H a vs) ∧ IterOk K m H (nxtL (xs.map .p), k) (Itt K a))) := by
  unfold seqP at e
  split at e
  · cases e
    cases r with
    | tup h1 h2 h3 => exact ⟨_, rfl, .inr ⟨⟨_, SqT.of h1⟩, iter_tup (SqT.of h1) (fun _ _ => h2) h3 k⟩⟩
  · cases e
    cases r with
    | ktp h1 h3 => exact ⟨_, rfl, .inr ⟨⟨_, .inr h1⟩, iter_ktp h1 h3 k⟩⟩
  · cases e
    cases r with
    | ftp h1 hz h2 h3 => exact ⟨_, rfl, .inr ⟨⟨_, .inl (.inr ⟨_, h1⟩)⟩, iter_tup (.inl (.inr ⟨_, h1⟩)) (fun _ _ => h2) h3 k⟩⟩
  · cases e
    cases r with
    | fl h1 h2 h3 => exact ⟨_, rfl, .inl ⟨⟨_, SqL.of h1⟩, iter_lst (.inl ⟨.inl h1, h2⟩) h3 k⟩⟩
  · cases e
    cases r with
    | fz h1 h3 => exact ⟨_, rfl, .inl ⟨⟨_, h1.sq⟩, iter_lst h1 h3 k⟩⟩
  · cases e
theorem Post.okI {β : Type} {R : List Addr → Hp → (Nxt × Nat) → β → Prop} {x : Nxt × Nat} {v : β} {Q : β → Hp → Prop} (p : Post K E R m H (.ok x h) Q) (w : Wd K m h H) (r : R m H x v) : Q v H := p v H m (.refl m H) w r
theorem d_isq (ha : DE X E iter fa) : DI X E tg iter (iSeq fa) := by
  refine PI.of (pi_sq ha) fun σ H R q => ?_
  obtain ⟨m, h, es, w, r, p⟩ := q
  refine ⟨m, h, es, w, r, p.bind fun x h1 v H1 m1 s1 w1 r1 p1 => ?_⟩
  split at p1
  · rename_i n
    split at p1
    · rename_i xs eh
      obtain ⟨a, ea, rfl⟩ := r1
      obtain ⟨vs, q, _⟩ := w1.at_ n _ a eh ea
      exact ⟨a, rfl, .inl ⟨⟨vs, SqL.of q⟩, p1.okI w1 (iter_ref ea _)⟩⟩
    · exact p1.elim
  · split at p1
    · rename_i xs e
      obtain ⟨a, rfl, q⟩ := seqP_is r1 e (xs.length + 1)
      rcases q with ⟨q, i⟩ | ⟨q, i⟩
      · exact ⟨a, rfl, .inl ⟨q, p1.okI w1 i⟩⟩
      · exact ⟨a, rfl, .inr ⟨q, p1.okI w1 i⟩⟩
    · exact p1.elim
/-! ### range -/
def nxtN (lo : Int) (n : Nat) : Nxt := fun i _ => some (if i < n then some (.p (.int (lo + i))) else none)
theorem iter_rng (lo : Int) (n k : Nat) : IterOk K m H (nxtN lo n, k) (Itr lo n) := by
  intro m' H' h' st w i
  show match nxtN lo n i h' with | none => True | some none => _ | some (some y) => _
  unfold nxtN
  by_cases hi : i < n
  · rw [if_pos hi]
    exact ⟨hi, fun v H'' ⟨e, ev⟩ => by subst e; subst ev; exact ⟨.refl _ _, w, .int _⟩⟩
  · rw [if_neg hi]
    exact Nat.le_of_not_lt hi
def inB (i : Int) : Prop := -(2 ^ 62) ≤ i ∧ i < 2 ^ 62
instance (i : Int) : Decidable (inB i) := by unfold inB; infer_instance
def eRng1 (ga : MA) : MI := fun es h => (ga es h).bind fun xs h1 => match xs with
  | [.p (.int j)] => if inB j then .ok (nxtN 0 j.toNat, j.toNat + 1) h1 else .bad
  | _ => .bad
def eRng2 (ga : MA) : MI := fun es h => (ga es h).bind fun xs h1 => match xs with
  | [.p (.int i), .p (.int j)] => if inB i ∧ inB j then .ok (nxtN i (j - i).toNat, (j - i).toNat + 1) h1 else .bad
  | _ => .bad
theorem d_irng1 {a : Expr} {ga : MA} {p pos : Pos} (hg : Gl X "range") (hm : X.mg "range" = none) (ha : DA X E [a] ga) (hs : starEach [a] X.env = [(false, eval a X.env)] := by rfl) : DI X E tg (.Call (.Name "range" p) [a] [] pos) (eRng1 ga) := by
  refine PI.of (pi_range1 hg hm ha hs) fun σ H R ⟨m, h, es, w, r, p⟩ => ⟨m, h, es, w, r, p.bind fun xs h1 vs H1 m1 s1 w1 r1 p1 => ?_⟩
  split at p1
  · rename_i j
    cases r1 with
    | cons q t =>
      cases t
      cases (show RP _ _ _ _ _ from q)
      split at p1
      · rename_i hb
        exact ⟨j, rfl, hb.1, hb.2, p1.okI w1 (iter_rng 0 _ _)⟩
      · exact p1.elim
  · exact p1.elim
theorem d_irng2 {a b : Expr} {ga : MA} {p pos : Pos} (hg : Gl X "range") (hm : X.mg "range" = none) (ha : DA X E [a, b] ga) (hs : starEach [a, b] X.env = [(false, eval a X.env), (false, eval b X.env)] := by rfl) (hs2 : starEach [b] X.env = [(false, eval b X.env)] := by rfl) : DI X E tg (.Call (.Name "range" p) [a, b] [] pos) (eRng2 ga) := by
  refine PI.of (pi_range2 hg hm ha hs hs2) fun σ H R ⟨m, h, es, w, r, p⟩ => ⟨m, h, es, w, r, p.bind fun xs h1 vs H1 m1 s1 w1 r1 p1 => ?_⟩
  split at p1
  · rename_i i j
    cases r1 with
    | cons q t =>
      cases t with
      | cons q2 t =>
        cases t
        cases (show RP _ _ _ _ _ from q)
        cases (show RP _ _ _ _ _ from q2)
        split at p1
        · rename_i hb
          exact ⟨i, j, rfl, ⟨hb.1.1, hb.1.2, hb.2.1, hb.2.2⟩, p1.okI w1 (iter_rng i _ _)⟩
        · exact p1.elim
  · exact p1.elim

/-! ### for -/
def sLoop (nxt : Nxt) (g : MG) (f : MS) : Nat → Nat → MS
  | 0, _ => fun _ _ => .bad
  | k + 1, i => fun es h => match nxt i h with
    | none => .bad
    | some none => .nx es h
    | some (some y) => (g y es h).sbind fun es1 h1 => match f es1 h1 with
      | .nx es2 h2 => sLoop nxt g f k (i + 1) es2 h2
      | .ct es2 h2 => sLoop nxt g f k (i + 1) es2 h2
      | .bk es2 h2 => .nx es2 h2
      | r => r
def sFor (fI : MI) (g : MG) (f : MS) : MS := fun es h => (fI es h).sbind fun x h1 => sLoop x.1 g f x.2 0 es h1
theorem d_for {body : List Stmt} (hp : PassesOwn (model X.prog X.w) X.A X.env X.xe) (hc : X.calm = true) (hi : DI X E tg iter fI) (hg : DG X E tg g) (hb : DSs X E body f)
    (hs : ∀ x, foldedSetIterable iter X.env x = pure x := by intro _; rfl) : DS X E (.For tg iter body [] pos) (sFor fI g f) :=
  PS.of (ps_for hp hc hi hg hb hs) fun D σ H ⟨m, h, es, w, r, p⟩ => ⟨m, h, es, w, r, p.sbind fun x h1 J H1 m1 s1 w1 it p1 => by
    refine ⟨fun i k σ H => ∃ m h es, Stp m1 H1 m H ∧ Wd X.K m h H ∧ REn X.K m H es σ ∧ PostS X.K E m H (sLoop x.1 g f k i es h) D, ⟨x.2, m1, h1, es, .refl _ _, w1, r.stp s1, p1⟩, ?_⟩
    rintro i k σ H ⟨m, h, es, s, w, r, p⟩
    cases k with
    | zero => exact p.elim
    | succ k =>
      have io := it m H h s w i
      unfold sLoop at p
      split at p
      · exact p.elim
      · rename_i e
        rw [e] at io
        exact .inl ⟨io, p.nx_ w r⟩
      · rename_i y e
        rw [e] at io
        refine .inr ⟨io.1, fun σ' H' => ∃ m h es, Stp m1 H1 m H' ∧ Wd X.K m h H' ∧ REn X.K m H' es σ' ∧ PostS X.K E m H' (sLoop x.1 g f k (i + 1) es h) D, fun σ' H' q => ⟨k, Nat.lt_succ_self k, q⟩, fun v H2 yl => ?_⟩
        obtain ⟨s2, w2, ry⟩ := io.2 v H2 yl
        refine ⟨m, h, es, y, w2, r.stp s2, ry, (p.step s2).sbind fun es1 h3 σ3 H3 m3 s3 w3 r3 p3 => ?_⟩
        refine ⟨m3, h3, es1, w3, r3, ?_⟩
        cases z : f es1 h3 with
        | nx en h4 => rw [z] at p3; exact fun σ4 H4 m4 s4 w4 r4 => ⟨m4, h4, en, s.trans (s2.trans (s3.trans s4)), w4, r4, p3.step s4⟩
        | ct en h4 => rw [z] at p3; exact fun σ4 H4 m4 s4 w4 r4 => ⟨m4, h4, en, s.trans (s2.trans (s3.trans s4)), w4, r4, p3.step s4⟩
        | bk en h4 => rw [z] at p3; exact fun σ4 H4 m4 s4 w4 r4 => p3 σ4 H4 m4 s4 w4 r4
        | rt en h4 => rw [z] at p3; exact fun σ4 H4 m4 s4 w4 r4 => p3 σ4 H4 m4 s4 w4 r4
        | exc C fs h4 => rw [z] at p3; exact fun σ4 H4 m4 s4 w4 r4 => p3 σ4 H4 m4 s4 w4 r4
        | bad => rw [z] at p3; exact p3⟩
end
end EV

-- E9
/-! E9: worlds made smaller; comprehensions. -/
namespace EV
open PySem PySem.Spec L2
open Classical in
def SV.below (n : Nat) : SV → Bool
  | .p _ => true
  | .ref k => decide (k < n)
def EO.vals : EO → List SV
  | .lst xs => xs
  | .dic kvs => kvs.map (·.2)
  | .dit kvs => kvs.map (·.2)
  | .ins _ fs => fs.map (·.2)
  | .tab _ _ => []
def EO.below (n : Nat) (o : EO) : Bool := o.vals.all (SV.below n)
/-- the heap may be cut back to n objects -/
def Cut (h0 h1 : List EO) : Prop := h0.length ≤ h1.length ∧ (h1.take h0.length = h0 ∨ (h1.take h0.length).all (EO.below h0.length) = true)
section
variable {K : PySem.W.Frag} {m m' m'' : List Addr} {H H' H'' : Hp} {h h' : List EO}
mutual
theorem RP.anti (s : ∀ a ∈ m', a ∈ m) : ∀ {x : PV} {v : V}, RP K m H x v → RP K m' H x v
  | _, _, .non => .non
  | _, _, .bl b => .bl b
  | _, _, .int i => .int i
  | _, _, .str i => .str i
  | _, _, .adr i => .adr i
  | _, _, .ty i => .ty i
  | _, _, .tup h n r => .tup h (fun z => n (s _ z)) (r.anti s)
  | _, _, .ktp h r => .ktp h (r.anti s)
  | _, _, .ftp h z n r => .ftp h z (fun z => n (s _ z)) (r.anti s)
  | _, _, .fl h n r => .fl h (fun z => n (s _ z)) (r.anti s)
  | _, _, .fz h r => .fz (h.elim (fun q => .inl ⟨q.1, fun z => q.2 (s _ z)⟩) .inr) (r.anti s)
  | _, _, .fd h n e r => .fd h (fun z => n (s _ z)) e (r.anti s)
  | _, _, .ft h n e r => .ft h (fun z => n (s _ z)) e (r.anti s)
  | _, _, .ob h n e r => .ob h (fun z => n (s _ z)) e (r.anti s)
theorem RPs.anti (s : ∀ a ∈ m', a ∈ m) : ∀ {xs : List PV} {vs : List V}, RPs K m H xs vs → RPs K m' H xs vs
  | _, _, .nil => .nil
  | _, _, .cons h t => .cons (h.anti s) (t.anti s)
end
theorem RS.anti {ms : List Addr} {x : SV} {v : V} (b : x.below m.length = true) (r : RS K (m ++ ms) H x v) : RS K m H x v := by
  cases x with
  | p x => exact RP.anti (fun a z => List.mem_append_left _ z) r
  | ref k =>
    obtain ⟨a, e, rfl⟩ := r
    have hk : k < m.length := by simpa [SV.below] using b
    exact ⟨a, by rw [List.getElem?_append_left hk] at e; exact e, rfl⟩
theorem RSs.anti {ms : List Addr} : ∀ {xs : List SV} {vs : List V}, xs.all (SV.below m.length) = true → RSs K (m ++ ms) H xs vs → RSs K m H xs vs
  | _, _, _, .nil => .nil
  | _, _, b, .cons q t => by
    simp only [List.all_cons, Bool.and_eq_true] at b
    exact .cons (RS.anti b.1 q) (RSs.anti b.2 t)
theorem RO.anti {ms : List Addr} {a : Addr} {o : EO} (b : o.below m.length = true) (r : RO K (m ++ ms) H a o) : RO K m H a o := by
  cases o with
  | lst xs => obtain ⟨vs, q, r⟩ := r; exact ⟨vs, q, RSs.anti b r⟩
  | dic kvs => obtain ⟨vs, q, z, r⟩ := r; exact ⟨vs, q, z, RSs.anti b r⟩
  | dit kvs => obtain ⟨vs, q, z, r⟩ := r; exact ⟨vs, q, z, RSs.anti b r⟩
  | ins C fs => obtain ⟨dx, vs, q, z, r⟩ := r; exact ⟨dx, vs, q, z, RSs.anti b r⟩
  | tab P q => obtain ⟨ps, q, x, z, r⟩ := r; exact ⟨ps, q, x, z, fun pos cv hc => let ⟨c, e1, n, e2⟩ := r pos cv hc; ⟨c, e1, fun y => n (List.mem_append_left _ y), e2⟩⟩
theorem RSs.below : ∀ {xs : List SV} {vs : List V}, RSs K m H xs vs → xs.all (SV.below m.length) = true
  | _, _, .nil => rfl
  | _, _, .cons q t => by
    rw [List.all_cons, RSs.below t, Bool.and_true]
    rename_i x v xs vs
    cases x with
    | p x => rfl
    | ref k =>
      obtain ⟨a, e, rfl⟩ := q
      simpa [SV.below] using (List.getElem?_eq_some_iff.mp e).1
theorem RO.below {a : Addr} {o : EO} (r : RO K m H a o) : o.below m.length = true := by
  cases o with
  | lst xs => obtain ⟨vs, q, r⟩ := r; exact r.below
  | dic kvs => obtain ⟨vs, q, z, r⟩ := r; exact r.below
  | dit kvs => obtain ⟨vs, q, z, r⟩ := r; exact r.below
  | ins C fs => obtain ⟨dx, vs, q, z, r⟩ := r; exact r.below
  | tab P q => rfl
/-- the caller's part of the world -/
theorem Wd.cut (w : Wd K m h H) (s : Stp m H m' H') (w' : Wd K m' h' H') (c : Cut h h') : Wd K m (h'.take h.length) H' ∧ Stp m H m H' := by
  obtain ⟨ms, rfl, hm⟩ := s.more
  refine ⟨⟨w.nd, by rw [List.length_take, w.len]; exact (Nat.min_eq_left c.1).symm, fun k o a e1 e2 => ?_⟩, ⟨⟨[], by simp, by simp⟩, s.fr⟩⟩
  have hk := (List.getElem?_eq_some_iff.mp e2).1
  have e3 : h'[k]? = some o := by
    rw [List.getElem?_take_of_lt (by rw [← w.len]; exact hk)] at e1; exact e1
  have r := w'.at_ k o a e3 (by rw [List.getElem?_append_left hk]; exact e2)
  refine RO.anti ?_ r
  rcases c.2 with z | z
  · rw [z] at e1
    exact (w.at_ k o a e1 e2).below
  · rw [w.len]
    exact List.all_eq_true.mp z o (List.mem_of_getElem? e1)
end

def E0 : XK := fun _ _ _ => False
def Res.nb {α β : Type} (r : Res α) (k : α → List EO → Res β) : Res β := match r with
  | .ok a h => k a h
  | _ => .bad
section
variable {K : PySem.W.Frag} {E : XK} {m m' : List Addr} {H H' : Hp} {h h' : List EO}
theorem Post.nb {E' : XK} {α β γ δ : Type} {R : List Addr → Hp → α → β → Prop} {S : List Addr → Hp → γ → δ → Prop} {r : Res α} {k : α → List EO → Res γ} {Q : δ → Hp → Prop} {Q' : β → Hp → Prop}
    (p : Post K E S m H (r.nb k) Q) (f : ∀ x h1 v H1 m1, Stp m H m1 H1 → Wd K m1 h1 H1 → R m1 H1 x v → Post K E S m1 H1 (k x h1) Q → Q' v H1) : Post K E' R m H r Q' := by
  cases r with
  | ok x h' => exact fun v H2 m2 s2 w2 r2 => f x h' v H2 m2 s2 w2 r2 (p.step s2)
  | exc C fs h' => exact p.elim
  | bad => exact p
end
def ewipe (es : Es) : List Nat → Es
  | [] => es
  | v :: vs => (ewipe es vs).set v none
theorem REn.forget {K : PySem.W.Frag} {m : List Addr} {H : Hp} {es : Es} {σ : L2.St} (r : REn K m H es σ) (i : Nat) : REn K m H (es.set i none) (σ.set i none) := by
  refine ⟨by simp [r.1], fun j y e => ?_⟩
  by_cases hj : i = j
  · subst hj
    have hl : i < es.length := by
      have := (List.getElem?_eq_some_iff.mp e).1
      simpa using this
    rw [List.getElem?_set_self hl] at e
    cases e
  · rw [List.getElem?_set_ne hj] at e
    rw [List.getElem?_set_ne hj]
    exact r.2 j y e
theorem REn.wipe {K : PySem.W.Frag} {m : List Addr} {H : Hp} {es : Es} {σ : L2.St} (r : REn K m H es σ) : ∀ vs : List Nat, REn K m H (ewipe es vs) (L2.wipe σ vs)
  | [] => r
  | v :: vs => (REn.wipe r vs).forget v
theorem wipe_set {σ : L2.St} {i : Nat} {x : Option V} : ∀ {vs : List Nat}, i ∈ vs → L2.wipe (σ.set i x) vs = L2.wipe σ vs
  | [], h => by cases h
  | v :: vs, h => by
    unfold L2.wipe
    by_cases hv : v = i
    · subst hv
      have : ∀ us : List Nat, (L2.wipe (σ.set v x) us).set v none = (L2.wipe σ us).set v none := by
        intro us
        induction us with
        | nil => show (σ.set v x).set v none = σ.set v none; rw [List.set_set]
        | cons u us ih =>
          show ((L2.wipe (σ.set v x) us).set u none).set v none = ((L2.wipe σ us).set u none).set v none
          by_cases hu : u = v
          · subst hu; rw [List.set_set, List.set_set]; exact ih
          · rw [List.set_comm _ _ hu, ih, List.set_comm _ _ (Ne.symm hu)]
      exact this vs
    · rw [wipe_set (by
        rcases List.mem_cons.mp h with z | z
        · exact absurd z.symm hv
        · exact z)]

/-! ### targets of a clause: their names are in vs -/
def RW_ (K : PySem.W.Frag) (vs : List Nat) (σ : L2.St) : List Addr → Hp → Es → L2.St → Prop := fun m H es σ2 => REn K m H es σ2 ∧ L2.wipe σ2 vs = L2.wipe σ vs
def tSW (K : PySem.W.Frag) (vs : List Nat) (g : MG) : TG := fun v σ H Q => ∃ m h es x, Wd K m h H ∧ REn K m H es σ ∧ RS K m H x v ∧ Post K E0 (RW_ K vs σ) m H (g x es h) Q
def DGw (X : Cx) (vs : List Nat) (e : Expr) (g : MG) : Prop := PG X e (tSW X.K vs g)
def tSWs (K : PySem.W.Frag) (vs : List Nat) (g : MGs) : TGs := fun us σ H Q => ∃ m h es xs, Wd K m h H ∧ REn K m H es σ ∧ RSs K m H xs us ∧ Post K E0 (RW_ K vs σ) m H (g xs es h) Q
def DGsw (X : Cx) (vs : List Nat) (es : List Expr) (g : MGs) : Prop := PGs X es (tSWs X.K vs g)
def PTsS (X : Cx) (ifs : List Expr) (t : MT) : Prop := PTs X ifs (tST X.K E0 t)
section
variable {X : Cx} {e : Expr} {K : PySem.W.Frag} {m m' : List Addr} {H H' : Hp} {h h' : List EO} {pos pos' apos : Pos} {es : List Expr} {g : MG} {gs : MGs} {vs : List Nat}
theorem d_wname (i : Nat) {x : Str} (hv : i ∈ vs) (hN : X.N.Nodup) (hi : X.N[i]? = some x := by rfl) (hx : Loc X.env.scope x := by first | exact Or.inl rfl | exact Or.inr rfl)
    (hf : X.fn x = true ∨ X.env.scope.names.lookup x = some .local := by first | exact .inl rfl | exact .inr rfl) : DGw X vs (.Name x pos) (gNm i) :=
  PG.of (pg_name hN hi hx hf) fun v σ H Q ⟨m, h, es, x, w, r, rx, p⟩ => p _ H m (.refl m H) w ⟨r.set i rx, wipe_set hv⟩
theorem d_wsnil : DGsw X vs [] gsNil := PGs.of pgs_nil fun v σ H Q ⟨m, h, es, xs, w, r, rx, p⟩ => by
  unfold gsNil at p
  split at p
  · cases rx
    exact ⟨rfl, p _ H m (.refl m H) w ⟨r, rfl⟩⟩
  · exact p.elim
theorem d_wscons (h1 : DGw X vs e g) (h2 : DGsw X vs es gs) (hs : (assignEach (e :: es) X.env).map (·.2) = assign e X.env :: (assignEach es X.env).map (·.2) := by rfl) : DGsw X vs (e :: es) (gsCons g gs) := PGs.of (pgs_cons h1 h2 hs) fun v σ H Q ⟨m, h, en, xs, w, r, rx, p⟩ => by
  unfold gsCons at p
  split at p
  · cases rx with
    | cons q t =>
      refine ⟨_, _, rfl, m, h, en, _, w, r, q, p.bind fun en1 h1 σ1 H1 m1 s1 w1 r1 p1 => ?_⟩
      refine ⟨m1, h1, en1, _, w1, r1.1, RSs.stp s1 t, ?_⟩
      have : RW_ X.K vs σ1 = RW_ X.K vs σ := by unfold RW_; rw [r1.2]
      rw [this]
      exact p1
  · exact p.elim
theorem d_wtup {k : Nat} {n : Nat} (hc : X.calm = true) (hs : DGsw X vs es gs) (hn : (assignEach es X.env).length = n := by rfl) (hst : (assignEach es X.env).findIdx? (·.1) = none := by rfl) : DGw X vs (.Tuple es k pos) (gTp n gs) := PG.of (pg_tup (n := n) hc hs hn hst) fun v σ H Q ⟨m, h, en, x, w, r, rx, p⟩ => by
  unfold gTp at p
  split at p
  · rename_i xs e
    obtain ⟨a, vs, rfl, q, ra⟩ := tup_is rx e
    split at p
    · rename_i hl
      exact ⟨a, vs, rfl, q, by rw [← ra.len]; exact hl, m, h, en, _, w, r, .ofP ra, p⟩
    · exact p.elim
  · exact p.elim
def tTrue : MT := fun _ h => .ok true h
theorem d_ifs0 : PTsS X [] tTrue := ⟨fun pins s σ H Q I ⟨m, h, es, w, r, p⟩ => pts_nil.run pins s σ H Q I (p true H m (.refl m H) w rfl)⟩
theorem d_ifs1 {c : Expr} {t : MT} (d : DT X E0 c t) : PTsS X [c] t := pts_one d

/-! ### [elt for target in iter if ..] -/
def lcLoop (n : Nat) (nxt : Nxt) (g : MG) (t : MT) (f : ME) (vs : List Nat) : Nat → Nat → Es → List EO → Res Unit
  | 0, _ => fun _ _ => .bad
  | k + 1, i => fun es h => match nxt i h with
    | none => .bad
    | some none => .ok () h
    | some (some y) => (g y (ewipe es vs) h).nb fun es1 h1 => (t es1 h1).nb fun b h2 => if b = true then (f es1 h2).nb fun z h3 => match h3[n]? with
        | some (.lst acc) => if acc.length < sizeLine then lcLoop n nxt g t f vs k (i + 1) es (h3.set n (.lst (acc ++ [z]))) else .bad
        | _ => .bad
      else lcLoop n nxt g t f vs k (i + 1) es h2
open Classical in
/-- the new list handed on: one that may change, or one that never does -/
noncomputable def finL (mu : Bool) (h1 h2 : List EO) : Res SV := if mu = true then .ok (.ref h1.length) h2 else match h2[h1.length]? with
  | some (.lst xs) => match allP xs with
    | some ps => if h2.length = h1.length + 1 ∧ Cut h1 h2 then .ok (.p (.fl ps)) (h2.take h1.length) else .bad
    | none => .bad
  | _ => .bad
noncomputable def eLc (mu : Bool) (fI : MI) (g : MG) (t : MT) (f : ME) (vs : List Nat) : ME := fun es h => (fI es h).bind fun x h1 => (lcLoop h1.length x.1 g t f vs x.2 0 es (h1 ++ [.lst []])).nb fun _ h2 => finL mu h1 h2
theorem finL_ok {E : XK} {mu : Bool} {Q : VK} {D : Addr} {m1 m2 : List Addr} {h1 h2 : List EO} {H1 H2 : Hp} {u : HO} (w1 : Wd K m1 h1 H1) (hD : H1 D = none) (s : Stp (m1 ++ [D]) (upd H1 D u) m2 H2) (w2 : Wd K m2 h2 H2) (p : Post K E (RS K) m1 H1 (finL mu h1 h2) Q) : Q (.ref D) H2 := by
  have sD : Stp m1 H1 (m1 ++ [D]) (upd H1 D u) := ⟨⟨[D], rfl, fun x hx => by rw [List.mem_singleton.mp hx]; exact ⟨w1.new hD, hD⟩⟩, fun b o n e => by rw [upd_ne (ne_of_none e hD)]; exact e⟩
  have st := sD.trans s
  have eD : m2[h1.length]? = some D := by
    obtain ⟨ms, rfl, _⟩ := s.more
    rw [List.getElem?_append_left (by simp [w1.len]), List.getElem?_append_right (by rw [w1.len]; exact Nat.le_refl _), w1.len]
    simp
  have q0 : ∀ x h', finL mu h1 h2 = .ok x h' → ∀ m', Stp m1 H1 m' H2 → Wd K m' h' H2 → RS K m' H2 x (.ref D) → Q (.ref D) H2 := fun x h' e m' s' w' r' => by
    rw [e] at p
    exact p _ _ _ s' w' r'
  cases hr : finL mu h1 h2 with
  | bad => rw [hr] at p; exact p.elim
  | exc C fs h' =>
    exfalso
    unfold finL at hr
    split at hr
    · cases hr
    · split at hr
      · split at hr
        · split at hr <;> cases hr
        · cases hr
      · cases hr
  | ok x h' =>
    have hr' := hr
    unfold finL at hr
    split at hr
    · cases hr
      exact q0 _ _ hr' m2 st w2 ⟨D, eD, rfl⟩
    · split at hr
      · rename_i xs e
        split at hr
        · rename_i ps ep
          split at hr
          · rename_i hc
            cases hr
            obtain ⟨wc, sc⟩ := w1.cut st w2 hc.2
            obtain ⟨vs, q, r⟩ := w2.at_ _ _ _ e eD
            have hm : ∀ a ∈ m1, a ∈ m2 := fun a ha => by
              obtain ⟨ms, rfl, _⟩ := st.more
              exact List.mem_append_left _ ha
            exact q0 _ _ hr' m1 sc wc (show RP _ _ _ _ _ from .fl q (w1.new hD) (RPs.anti hm (allP_rel ep r)))
          · cases hr
        · cases hr
      · cases hr
def GoodR {α : Type} (r : Res α) (F : List EO → Prop) : Prop := match r with
  | .ok _ h => F h
  | _ => False
theorem GoodR.nb {α β γ : Type} {E' : XK} {R : List Addr → Hp → α → β → Prop} {r : Res α} {k : α → List EO → Res γ} {F : List EO → Prop} {Q' : β → Hp → Prop}
    (p : GoodR (r.nb k) F) (f : ∀ x h1 v H1 m1, Stp m H m1 H1 → Wd K m1 h1 H1 → R m1 H1 x v → GoodR (k x h1) F → Q' v H1) : Post K E' R m H r Q' := by
  cases r with
  | ok x h' => exact fun v H2 m2 s2 w2 r2 => f x h' v H2 m2 s2 w2 r2 p
  | exc C fs h' => exact p.elim
  | bad => exact p.elim
theorem lc_imp {E : XK} {f : ME} {t : MT} {fI : MI} {vs : List Nat} (mu : Bool) (σ : L2.St) (H : Hp) (Q : VK) : tSE K E (eLc mu fI g t f vs) σ H Q → tLc (tSI K E fI) (tSW K vs g) (tST K E0 t) (tSE K E0 f) vs σ H Q := fun ⟨m, h, es, w, r, p⟩ => ⟨m, h, es, w, r, p.bind fun x h1 J H1 m1 s1 w1 it p1 D hD => by
    have p2 : GoodR (lcLoop h1.length x.1 g t f vs x.2 0 es (h1 ++ [.lst []])) fun h2 => Post K E (RS K) m1 H1 (finL mu h1 h2) Q := by
      cases z : lcLoop h1.length x.1 g t f vs x.2 0 es (h1 ++ [.lst []]) with
      | ok _ h2 => rw [z] at p1; exact p1
      | exc C fs h2 => rw [z] at p1; exact p1.elim
      | bad => rw [z] at p1; exact p1.elim
    obtain ⟨wD, sD⟩ := w1.push (u := .lst []) (o := .lst []) hD ⟨[], upd_same, .nil⟩
    have it' := fun m' H' h' (s : Stp (m1 ++ [D]) (upd H1 D (.lst [])) m' H') => it m' H' h' (sD.trans s)
    refine ⟨fun i k H => ∃ m h, Stp (m1 ++ [D]) (upd H1 D (.lst [])) m H ∧ Wd K m h H ∧ GoodR (lcLoop h1.length x.1 g t f vs k i es h) fun h2 => Post K E (RS K) m1 H1 (finL mu h1 h2) Q, ⟨x.2, _, _, .refl _ _, wD, p2⟩, ?_⟩
    rintro i k H ⟨m, h, s, w, p⟩
    cases k with
    | zero => exact p.elim
    | succ k =>
      have io := it' m H h s w i
      unfold lcLoop at p
      split at p
      · exact p.elim
      · rename_i e
        rw [e] at io
        exact .inl ⟨io, finL_ok w1 hD s w p⟩
      · rename_i y e
        rw [e] at io
        refine .inr ⟨io.1, fun H' => ∃ m h, Stp (m1 ++ [D]) (upd H1 D (.lst [])) m H' ∧ Wd K m h H' ∧ GoodR (lcLoop h1.length x.1 g t f vs k (i + 1) es h) fun h2 => Post K E (RS K) m1 H1 (finL mu h1 h2) Q, fun H' q => ⟨k, Nat.lt_succ_self k, q⟩, fun v H2 yl => ?_⟩
        obtain ⟨s2, w2, ry⟩ := io.2 v H2 yl
        have rσ := ((r.stp s1).stp sD).stp (s.trans s2)
        refine ⟨m, h, ewipe es vs, y, w2, rσ.wipe vs, ry, p.nb fun es1 h3 σ3 H3 m3 s3 w3 r3 p3 => ?_⟩
        refine ⟨by
          have := r3.2
          rw [this]
          generalize σ = τ
          have : ∀ us : List Nat, (∀ u ∈ us, u ∈ vs) → L2.wipe (L2.wipe τ vs) us = L2.wipe τ vs := by
            intro us
            induction us with
            | nil => intro _; rfl
            | cons u us ih =>
              intro hu
              show (L2.wipe (L2.wipe τ vs) us).set u none = _
              rw [ih fun u h => hu u (List.mem_cons_of_mem _ h)]
              have hm := hu u (List.mem_cons_self ..)
              clear hu ih
              revert hm
              generalize vs = ws
              induction ws with
              | nil => intro hm; cases hm
              | cons a ws ih =>
                intro hm
                show ((L2.wipe τ ws).set a none).set u none = (L2.wipe τ ws).set a none
                by_cases ha : a = u
                · subst ha; rw [List.set_set]
                · rw [List.set_comm _ _ ha, ih (by
                    rcases List.mem_cons.mp hm with z | z
                    · exact absurd z.symm ha
                    · exact z)]
          exact this vs fun _ h => h, m3, h3, es1, w3, r3.1, p3.nb fun b h4 vb H4 m4 s4 w4 r4 p4 => ?_⟩
        cases (show b = vb from r4)
        split at p4
        · rename_i eb
          rw [if_pos eb]
          refine ⟨m4, h4, es1, w4, r3.1.stp s4, p4.nb fun z h5 vz H5 m5 s5 w5 r5 p5 => ?_⟩
          have st5 := s.trans (s2.trans (s3.trans (s4.trans s5)))
          have eD : m5[h1.length]? = some D := by
            obtain ⟨ms, rfl, _⟩ := st5.more
            rw [List.getElem?_append_left (by simp [w1.len]), List.getElem?_append_right (by rw [w1.len]; exact Nat.le_refl _), w1.len]
            simp
          split at p5
          · rename_i acc ea
            obtain ⟨vacc, qa, ra⟩ := w5.at_ _ _ _ ea eD
            split at p5
            · rename_i hl
              refine ⟨vacc, qa, by rw [← ra.len]; exact hl, m5, _, st5.trans (.write eD), w5.write (o := .lst (acc ++ [z])) eD ⟨vacc ++ [vz], upd_same, RSs.stp (.write eD) (RSs.app ra (.cons r5 .nil))⟩, p5⟩
            · exact p5.elim
          · exact p5.elim
        · rename_i eb
          rw [if_neg eb]
          exact ⟨m4, h4, s.trans (s2.trans (s3.trans s4)), w4, p4⟩⟩
theorem d_lc {E : XK} {f : ME} {t : MT} {fI : MI} {tg iter elt : Expr} {ifs : List Expr} {scope : Scope} {own : List (Str × Nat)} (mu : Bool) (hc : X.calm = true) (hN : X.N.Nodup) (hi : DI X E tg iter fI) (ok : BlkOk X.N X.env.scope scope own)
    (hg : ∀ (s : Shared) (H : Hp) (C : Addr) (cl : List (Str × Addr)) (fp : List Addr), DGw (X.blk s H scope (compEnvC scope cl C X.env) fp) (own.map (·.2)) tg g)
    (ht : ∀ (s : Shared) (H : Hp) (C : Addr) (cl : List (Str × Addr)) (fp : List Addr), PTsS (X.blk s H scope (compEnvC scope cl C X.env) fp) ifs t)
    (he : ∀ (s : Shared) (H : Hp) (C : Addr) (cl : List (Str × Addr)) (fp : List Addr), DE (X.blk s H scope (compEnvC scope cl C X.env) fp) E0 elt f) (hs : ∀ x, foldedSetIterable iter X.env x = pure x := by intro _; rfl) :
    DE X E (.ListComp elt [⟨tg, iter, ifs, 0⟩] scope pos) (eLc mu fI g t f (own.map (·.2))) :=
  PE.of (pe_lc (g := tSW X.K (own.map fun q : Str × Nat => q.2) g) (tt := tST X.K E0 t) (te := tSE X.K E0 f) hc hN hi ok hg ht he hs) fun σ H Q q => lc_imp mu σ H Q q
/-- name = [..] on one line -/
theorem d_setLc {E : XK} {f : ME} {t : MT} {fI : MI} {tg iter elt : Expr} {ifs : List Expr} {scope : Scope} {own : List (Str × Nat)} {i : Nat} {y : Str} {py spos : Pos} (mu : Bool) (hc : X.calm = true) (hN : X.N.Nodup) (hi : DI X E tg iter fI) (ok : BlkOk X.N X.env.scope scope own)
    (hg : ∀ (s : Shared) (H : Hp) (C : Addr) (cl : List (Str × Addr)) (fp : List Addr), DGw (X.blk s H scope (compEnvC scope cl C X.env) fp) (own.map (·.2)) tg g)
    (ht : ∀ (s : Shared) (H : Hp) (C : Addr) (cl : List (Str × Addr)) (fp : List Addr), PTsS (X.blk s H scope (compEnvC scope cl C X.env) fp) ifs t)
    (he : ∀ (s : Shared) (H : Hp) (C : Addr) (cl : List (Str × Addr)) (fp : List Addr), DE (X.blk s H scope (compEnvC scope cl C X.env) fp) E0 elt f)
    (hy : X.N[i]? = some y := by rfl) (hyl : X.env.scope.names.lookup y = some .local := by rfl) (hsw : swapsWith (.ListComp elt [⟨tg, iter, ifs, 0⟩] scope pos) (some (.Name y py)) spos.line X.env = pure true := by rfl) (hs : ∀ x, foldedSetIterable iter X.env x = pure x := by intro _; rfl) :
    DS X E (.Assign [.Name y py] (.ListComp elt [⟨tg, iter, ifs, 0⟩] scope pos) spos) (sSet i (eLc mu fI g t f (own.map (·.2)))) :=
  PS.of (ps_setLc (g := tSW X.K (own.map fun q : Str × Nat => q.2) g) (tt := tST X.K E0 t) (te := tSE X.K E0 f) hc hN hy hyl hsw hi ok hg ht he hs) fun D σ H ⟨m, h, es, w, r, p⟩ => lc_imp mu σ H _ ⟨m, h, es, w, r, p.sbind fun y h1 v H1 m1 s1 w1 r1 p1 => p1.nx_ w1 ((r.stp s1).set i r1)⟩

/-! ### dict comprehensions -/
def dcLoop (n : Nat) (nxt : Nxt) (g : MG) (t : MT) (fk fv : ME) (vs : List Nat) : Nat → Nat → Es → List EO → Res Unit
  | 0, _ => fun _ _ => .bad
  | k + 1, i => fun es h => match nxt i h with
    | none => .bad
    | some none => .ok () h
    | some (some y) => (g y (ewipe es vs) h).nb fun es1 h1 => (t es1 h1).nb fun b h2 => if b = true then (fk es1 h2).nb fun z h3 => (fv es1 h3).nb fun u h4 => match keyOf z with
        | some ky => match h4[n]? with
          | some (.dic kvs) => if kvs.length < sizeLine then dcLoop n nxt g t fk fv vs k (i + 1) es (h4.set n (.dic (dkPut kvs ky u))) else .bad
          | _ => .bad
        | none => .bad
      else dcLoop n nxt g t fk fv vs k (i + 1) es h2
open Classical in
noncomputable def finD (mu : Bool) (h1 h2 : List EO) : Res SV := if mu = true then .ok (.ref h1.length) h2 else match h2[h1.length]? with
  | some (.dic kvs) => match allP (kvs.map (·.2)) with
    | some ps => if h2.length = h1.length + 1 ∧ Cut h1 h2 then .ok (.p (.fd (kvs.map (·.1)) ps)) (h2.take h1.length) else .bad
    | none => .bad
  | _ => .bad
noncomputable def eDc (mu : Bool) (fI : MI) (g : MG) (t : MT) (fk fv : ME) (vs : List Nat) : ME := fun es h => (fI es h).bind fun x h1 => (dcLoop h1.length x.1 g t fk fv vs x.2 0 es (h1 ++ [.dic []])).nb fun _ h2 => finD mu h1 h2
theorem finD_ok {E : XK} {mu : Bool} {Q : VK} {D : Addr} {m1 m2 : List Addr} {h1 h2 : List EO} {H1 H2 : Hp} {u : HO} (w1 : Wd K m1 h1 H1) (hD : H1 D = none) (s : Stp (m1 ++ [D]) (upd H1 D u) m2 H2) (w2 : Wd K m2 h2 H2) (p : Post K E (RS K) m1 H1 (finD mu h1 h2) Q) : Q (.ref D) H2 := by
  have sD : Stp m1 H1 (m1 ++ [D]) (upd H1 D u) := ⟨⟨[D], rfl, fun x hx => by rw [List.mem_singleton.mp hx]; exact ⟨w1.new hD, hD⟩⟩, fun b o n e => by rw [upd_ne (ne_of_none e hD)]; exact e⟩
  have st := sD.trans s
  have eD : m2[h1.length]? = some D := by
    obtain ⟨ms, rfl, _⟩ := s.more
    rw [List.getElem?_append_left (by simp [w1.len]), List.getElem?_append_right (by rw [w1.len]; exact Nat.le_refl _), w1.len]
    simp
  have q0 : ∀ x h', finD mu h1 h2 = .ok x h' → ∀ m', Stp m1 H1 m' H2 → Wd K m' h' H2 → RS K m' H2 x (.ref D) → Q (.ref D) H2 := fun x h' e m' s' w' r' => by
    rw [e] at p
    exact p _ _ _ s' w' r'
  cases hr : finD mu h1 h2 with
  | bad => rw [hr] at p; exact p.elim
  | exc C fs h' =>
    exfalso
    unfold finD at hr
    split at hr
    · cases hr
    · split at hr
      · split at hr
        · split at hr <;> cases hr
        · cases hr
      · cases hr
  | ok x h' =>
    have hr' := hr
    unfold finD at hr
    split at hr
    · cases hr
      exact q0 _ _ hr' m2 st w2 ⟨D, eD, rfl⟩
    · split at hr
      · rename_i kvs e
        split at hr
        · rename_i ps ep
          split at hr
          · rename_i hc
            cases hr
            obtain ⟨wc, sc⟩ := w1.cut st w2 hc.2
            obtain ⟨vs, q, ek, r⟩ := w2.at_ _ _ _ e eD
            have hm : ∀ a ∈ m1, a ∈ m2 := fun a ha => by
              obtain ⟨ms, rfl, _⟩ := st.more
              exact List.mem_append_left _ ha
            exact q0 _ _ hr' m1 sc wc (show RP _ _ _ _ _ from .fd q (w1.new hD) ek (RPs.anti hm (allP_rel ep r)))
          · cases hr
        · cases hr
      · cases hr
theorem dc_imp {E : XK} {f fv : ME} {t : MT} {fI : MI} {vs : List Nat} (mu : Bool) (σ : L2.St) (H : Hp) (Q : VK) : tSE K E (eDc mu fI g t f fv vs) σ H Q → tDc (tSI K E fI) (tSW K vs g) (tST K E0 t) (tSE K E0 f) (tSE K E0 fv) vs σ H Q := fun ⟨m, h, es, w, r, p⟩ => ⟨m, h, es, w, r, p.bind fun x h1 J H1 m1 s1 w1 it p1 D hD => by
    have p2 : GoodR (dcLoop h1.length x.1 g t f fv vs x.2 0 es (h1 ++ [.dic []])) fun h2 => Post K E (RS K) m1 H1 (finD mu h1 h2) Q := by
      cases z : dcLoop h1.length x.1 g t f fv vs x.2 0 es (h1 ++ [.dic []]) with
      | ok _ h2 => rw [z] at p1; exact p1
      | exc C fs h2 => rw [z] at p1; exact p1.elim
      | bad => rw [z] at p1; exact p1.elim
    obtain ⟨wD, sD⟩ := w1.push (u := .dK []) (o := .dic []) hD ⟨[], upd_same, rfl, .nil⟩
    have it' := fun m' H' h' (s : Stp (m1 ++ [D]) (upd H1 D (.dK [])) m' H') => it m' H' h' (sD.trans s)
    refine ⟨fun i k H => ∃ m h, Stp (m1 ++ [D]) (upd H1 D (.dK [])) m H ∧ Wd K m h H ∧ GoodR (dcLoop h1.length x.1 g t f fv vs k i es h) fun h2 => Post K E (RS K) m1 H1 (finD mu h1 h2) Q, ⟨x.2, _, _, .refl _ _, wD, p2⟩, ?_⟩
    rintro i k H ⟨m, h, s, w, p⟩
    cases k with
    | zero => exact p.elim
    | succ k =>
      have io := it' m H h s w i
      unfold dcLoop at p
      split at p
      · exact p.elim
      · rename_i e
        rw [e] at io
        exact .inl ⟨io, finD_ok w1 hD s w p⟩
      · rename_i y e
        rw [e] at io
        refine .inr ⟨io.1, fun H' => ∃ m h, Stp (m1 ++ [D]) (upd H1 D (.dK [])) m H' ∧ Wd K m h H' ∧ GoodR (dcLoop h1.length x.1 g t f fv vs k (i + 1) es h) fun h2 => Post K E (RS K) m1 H1 (finD mu h1 h2) Q, fun H' q => ⟨k, Nat.lt_succ_self k, q⟩, fun v H2 yl => ?_⟩
        obtain ⟨s2, w2, ry⟩ := io.2 v H2 yl
        have rσ := ((r.stp s1).stp sD).stp (s.trans s2)
        refine ⟨m, h, ewipe es vs, y, w2, rσ.wipe vs, ry, p.nb fun es1 h3 σ3 H3 m3 s3 w3 r3 p3 => ?_⟩
        refine ⟨by
          have := r3.2
          rw [this]
          generalize σ = τ
          have : ∀ us : List Nat, (∀ u ∈ us, u ∈ vs) → L2.wipe (L2.wipe τ vs) us = L2.wipe τ vs := by
            intro us
            induction us with
            | nil => intro _; rfl
            | cons u us ih =>
              intro hu
              show (L2.wipe (L2.wipe τ vs) us).set u none = _
              rw [ih fun u h => hu u (List.mem_cons_of_mem _ h)]
              have hm := hu u (List.mem_cons_self ..)
              clear hu ih
              revert hm
              generalize vs = ws
              induction ws with
              | nil => intro hm; cases hm
              | cons a ws ih =>
                intro hm
                show ((L2.wipe τ ws).set a none).set u none = (L2.wipe τ ws).set a none
                by_cases ha : a = u
                · subst ha; rw [List.set_set]
                · rw [List.set_comm _ _ ha, ih (by
                    rcases List.mem_cons.mp hm with z | z
                    · exact absurd z.symm ha
                    · exact z)]
          exact this vs fun _ h => h, m3, h3, es1, w3, r3.1, p3.nb fun b h4 vb H4 m4 s4 w4 r4 p4 => ?_⟩
        cases (show b = vb from r4)
        split at p4
        · rename_i eb
          rw [if_pos eb]
          refine ⟨m4, h4, es1, w4, r3.1.stp s4, p4.nb fun z h5 vz H5 m5 s5 w5 r5 p5 => ?_⟩
          refine ⟨m5, h5, es1, w5, (r3.1.stp s4).stp s5, p5.nb fun u h6 vu H6 m6 s6 w6 r6 p6 => ?_⟩
          have st6 := s.trans (s2.trans (s3.trans (s4.trans (s5.trans s6))))
          have eD : m6[h1.length]? = some D := by
            obtain ⟨ms, rfl, _⟩ := st6.more
            rw [List.getElem?_append_left (by simp [w1.len]), List.getElem?_append_right (by rw [w1.len]; exact Nat.le_refl _), w1.len]
            simp
          split at p6
          · rename_i ky eky
            split at p6
            · rename_i kvs ea
              obtain ⟨ws, qa, ek, ra⟩ := w6.at_ _ _ _ ea eD
              split at p6
              · rename_i hl
                have hwl : ws.length < sizeLine := by
                  have := congrArg List.length ek
                  simp at this
                  omega
                obtain ⟨q1, q2⟩ := put_is r6 (k := ky) ek ra
                refine ⟨ws, ky, key_is r5 eky, qa, hwl, m6, _, st6.trans (.write eD), w6.write (o := .dic (dkPut kvs ky u)) eD ⟨putK ws ky vu, upd_same, q1, q2.stp (.write eD)⟩, p6⟩
              · exact p6.elim
            · exact p6.elim
          · exact p6.elim
        · rename_i eb
          rw [if_neg eb]
          exact ⟨m4, h4, s.trans (s2.trans (s3.trans s4)), w4, p4⟩⟩
theorem d_dc {E : XK} {fk fv : ME} {t : MT} {fI : MI} {tg iter kx vx : Expr} {ifs : List Expr} {scope : Scope} {own : List (Str × Nat)} (mu : Bool) (hc : X.calm = true) (hN : X.N.Nodup) (hi : DI X E tg iter fI) (ok : BlkOk X.N X.env.scope scope own)
    (hg : ∀ (s : Shared) (H : Hp) (C : Addr) (cl : List (Str × Addr)) (fp : List Addr), DGw (X.blk s H scope (compEnvC scope cl C X.env) fp) (own.map (·.2)) tg g)
    (ht : ∀ (s : Shared) (H : Hp) (C : Addr) (cl : List (Str × Addr)) (fp : List Addr), PTsS (X.blk s H scope (compEnvC scope cl C X.env) fp) ifs t)
    (hk : ∀ (s : Shared) (H : Hp) (C : Addr) (cl : List (Str × Addr)) (fp : List Addr), DE (X.blk s H scope (compEnvC scope cl C X.env) fp) E0 kx fk)
    (he : ∀ (s : Shared) (H : Hp) (C : Addr) (cl : List (Str × Addr)) (fp : List Addr), DE (X.blk s H scope (compEnvC scope cl C X.env) fp) E0 vx fv) (hs : ∀ x, foldedSetIterable iter X.env x = pure x := by intro _; rfl) :
    DE X E (.DictComp kx vx [⟨tg, iter, ifs, 0⟩] scope pos) (eDc mu fI g t fk fv (own.map (·.2))) :=
  PE.of (pe_dc (g := tSW X.K (own.map fun q : Str × Nat => q.2) g) (tt := tST X.K E0 t) (tk := tSE X.K E0 fk) (tv := tSE X.K E0 fv) hc hN hi ok hg ht hk he hs) fun σ H Q q => dc_imp mu σ H Q q
end
end EV

-- E10
/-! E10: name = {k: v for ..} on one line. -/
namespace L2
open PySem PySem.Spec
section
variable {X : Cx}
theorem ps_setDc {i : Nat} {y : Str} {py : Pos} {kx vx tg iter : Expr} {ifs : List Expr} {scope : Scope} {own : List (Str × Nat)} {pos spos : Pos} {wi : TI} {g : TG} {tt : TT} {tk tv : TE} (hc : X.calm = true) (hN : X.N.Nodup) (hy : X.N[i]? = some y) (hyl : X.env.scope.names.lookup y = some .local)
    (hsw : swapsWith (.DictComp kx vx [⟨tg, iter, ifs, 0⟩] scope pos) (some (.Name y py)) spos.line X.env = pure true) (hi : PI X tg iter wi) (ok : BlkOk X.N X.env.scope scope own)
    (hg : ∀ (s : Shared) (H : Hp) (C : Addr) (cl : List (Str × Addr)) (fp : List Addr), PG (X.blk s H scope (compEnvC scope cl C X.env) fp) tg g) (ht : ∀ (s : Shared) (H : Hp) (C : Addr) (cl : List (Str × Addr)) (fp : List Addr), PTs (X.blk s H scope (compEnvC scope cl C X.env) fp) ifs tt)
    (hk : ∀ (s : Shared) (H : Hp) (C : Addr) (cl : List (Str × Addr)) (fp : List Addr), PE (X.blk s H scope (compEnvC scope cl C X.env) fp) kx tk)
    (he : ∀ (s : Shared) (H : Hp) (C : Addr) (cl : List (Str × Addr)) (fp : List Addr), PE (X.blk s H scope (compEnvC scope cl C X.env) fp) vx tv) (hs : ∀ x, foldedSetIterable iter X.env x = pure x := by intro _; rfl) :
    PS X (.Assign [.Name y py] (.DictComp kx vx [⟨tg, iter, ifs, 0⟩] scope pos) spos) (tAsg (tDc wi g tt tk tv (own.map (·.2))) (gName i)) := by
  refine ⟨fun pins s σ H D I h => ?_⟩
  rw [exec_Assign_Name_used _ _ _ _ hsw]
  refine wpAny_bind (wpAny_standAt (wpAny_bind ?_))
  show wpAny _ X.A (do let _ ← comprehension (.DictComp kx vx [⟨tg, iter, ifs, 0⟩] scope pos) scope X.env (firstIterPos [⟨tg, iter, ifs, 0⟩] pos) (newDict) false (eval iter X.env) (some (assign (.Name y py) X.env))) _ _ s
  have h : tDc wi g tt tk tv (own.map (·.2)) σ H (fun x H1 => gName i x σ H1 D.nx) := h
  refine wpAny_bind (thn (dc_core (Qf := fun _ s' => SP X pins D .next s') hc hN I hi ok hg ht hk he hs h fun L C s' m H' I' q hn f => ?_) fun _ s' hq => wpAny_pure (wpAny_pure hq))
  show wpAny _ _ (assign (.Name y py) X.env (.ref L)) _ _ _
  refine wpAny_assign_Name (store_ok2 (v := V.ref L) I' hN hy (.inl hyl) rfl (fun s2 I2 ⟨a, sb, ha⟩ => ?_) (.inr hyl))
  obtain ⟨f0, f1, f2, f3, f4, f5⟩ := f
  have haC : C ≠ a := by
    rcases ha with z | z
    · rw [z]; exact f1
    · exact fun e => f4 y a z e.symm
  refine ⟨m, hn.sameBut sb haC, fun h3 sb3 => ?_⟩
  exact ⟨_, H', I2.turned (t' := s2.toks) (fun b o hb e => (sb3.2 b hb).trans e) f0 f1 f3 f4 f5, q⟩

end
end L2
namespace EV
open PySem PySem.Spec L2
section
variable {X : Cx} {g : MG} {pos : Pos}
theorem d_setDc {E : XK} {fk fv : ME} {t : MT} {fI : MI} {tg iter kx vx : Expr} {ifs : List Expr} {scope : Scope} {own : List (Str × Nat)} {i : Nat} {y : Str} {py spos : Pos} (mu : Bool) (hc : X.calm = true) (hN : X.N.Nodup) (hi : DI X E tg iter fI) (ok : BlkOk X.N X.env.scope scope own)
    (hg : ∀ (s : Shared) (H : Hp) (C : Addr) (cl : List (Str × Addr)) (fp : List Addr), DGw (X.blk s H scope (compEnvC scope cl C X.env) fp) (own.map (·.2)) tg g)
    (ht : ∀ (s : Shared) (H : Hp) (C : Addr) (cl : List (Str × Addr)) (fp : List Addr), PTsS (X.blk s H scope (compEnvC scope cl C X.env) fp) ifs t)
    (hk : ∀ (s : Shared) (H : Hp) (C : Addr) (cl : List (Str × Addr)) (fp : List Addr), DE (X.blk s H scope (compEnvC scope cl C X.env) fp) E0 kx fk)
    (he : ∀ (s : Shared) (H : Hp) (C : Addr) (cl : List (Str × Addr)) (fp : List Addr), DE (X.blk s H scope (compEnvC scope cl C X.env) fp) E0 vx fv)
    (hy : X.N[i]? = some y := by rfl) (hyl : X.env.scope.names.lookup y = some .local := by rfl) (hsw : swapsWith (.DictComp kx vx [⟨tg, iter, ifs, 0⟩] scope pos) (some (.Name y py)) spos.line X.env = pure true := by rfl) (hs : ∀ x, foldedSetIterable iter X.env x = pure x := by intro _; rfl) :
    DS X E (.Assign [.Name y py] (.DictComp kx vx [⟨tg, iter, ifs, 0⟩] scope pos) spos) (sSet i (eDc mu fI g t fk fv (own.map (·.2)))) :=
  PS.of (ps_setDc (g := tSW X.K (own.map fun q : Str × Nat => q.2) g) (tt := tST X.K E0 t) (tk := tSE X.K E0 fk) (tv := tSE X.K E0 fv) hc hN hy hyl hsw hi ok hg ht hk he hs) fun D σ H ⟨m, h, es, w, r, p⟩ => dc_imp mu σ H _ ⟨m, h, es, w, r, p.sbind fun y h1 v H1 m1 s1 w1 r1 p1 => p1.nx_ w1 ((r.stp s1).set i r1)⟩
end
end EV

-- E11
/-! E11: own defs, classes, fields. -/
namespace EV
open PySem PySem.Spec L2 PyProof.Rows
abbrev MF := List SV → List EO → Res SV
/-- a def's promise: it gives what the mirror gives -/
def spM (K : PySem.W.Frag) (np : Nat) (mir : MF) : Sp := fun vs H Q E => vs.length = np ∧ ∃ m h xs, Wd K m h H ∧ RSs K m H xs vs ∧ Post K E (RS K) m H (mir xs h) Q
/-- a body run -/
def runB (f : MS) (n : Nat) : MF := fun xs h => match f (xs.map some ++ List.replicate (n - xs.length) none) h with
  | .nx _ h1 => .ok (.p .non) h1
  | .rt x h1 => .ok x h1
  | .exc C fs h1 => .exc C fs h1
  | _ => .bad
section
variable {K : PySem.W.Frag} {E : XK} {m m' : List Addr} {H H' : Hp} {h h' : List EO}
theorem REn.start {N : List Str} {xs : List SV} {vs : List V} (r : RSs K m H xs vs) : REn K m H (xs.map some ++ List.replicate (N.length - xs.length) none) (start N vs) := by
  unfold L2.start
  refine ⟨by simp [r.len], fun i x e => ?_⟩
  by_cases hi : i < xs.length
  · rw [List.getElem?_append_left (by simpa using hi)] at e
    rw [List.getElem?_map] at e
    cases q : xs[i]? with
    | none => rw [q] at e; cases e
    | some y =>
      rw [q] at e
      cases e
      obtain ⟨v, ev, rv⟩ := r.get q
      exact ⟨v, by rw [List.getElem?_append_left (by simpa [← r.len] using hi), List.getElem?_map, ev]; rfl, rv⟩
  · rw [List.getElem?_append_right (by simpa using Nat.le_of_not_lt hi)] at e
    have := List.mem_of_getElem? e
    have := (List.mem_replicate.mp this).2
    cases this
theorem runB_ok {f : MS} {N : List Str} {xs : List SV} {Q : VK} (p : Post K E (RS K) m H (runB f N.length xs h) Q) : PostS K E m H (f (xs.map some ++ List.replicate (N.length - xs.length) none) h) { nx := fun _ H' => Q .non H', rt := Q } := by
  unfold runB at p
  split at p
  · rename_i e; rw [e]; exact fun σ H2 m2 s2 w2 r2 => p .non H2 m2 s2 w2 (show RP _ _ _ _ _ from .non)
  · rename_i e; rw [e]; exact p
  · rename_i e; rw [e]; exact p
  · exact p.elim
/-- THE RULE: a def keeps its promise -/
theorem fn_mir {P : Program} {w : World} {mg : Str → Option Value} {base : Heap} {x qual : Str} {st : Stmt} {f : Addr} {fd : FuncData} {N ps : List Str} {k : Nat} {fb : MS} (F : Fun K x qual st f fd) (S : FnScope N ps (defScope st)) {np : Nat} {nN : Nat} (enp : ps.length = np) (enN : N.length = nN)
    (hb : ∀ (cdv : Value) (A : Around) (outer : List Env) (s : Shared) (H : Hp) (E : XK), Room k (A.deeper (envOfC qual (defScope st) s.heap.objs.size f cdv)) →
      DSs (cxOf (L2.CX P w) P w K mg base N qual (defScope st) f cdv A outer s H E) E (defBody st) fb) : FnOk P w K mg base (L2.CX P w) (k + 1) f fd ps (spM K np (runB fb nN)) := by
  subst enp enN
  refine F.okX S (fun vs H Q E q => q.1) fun cdv A outer s H vs Q E hr hsp => ⟨_, hb cdv A outer s H E hr, ?_⟩
  obtain ⟨hl, m, h, xs, w, r, p⟩ := hsp
  exact ⟨m, h, _, w, REn.start r, runB_ok p⟩

/-! ### the caller's part of the heap -/
def frzO : EO → Option PV
  | .lst xs => (allP xs).map .fl
  | .dic kvs => (allP (kvs.map (·.2))).map (.fd (kvs.map (·.1)))
  | .dit kvs => (allP (kvs.map (·.2))).map (.ft (kvs.map (·.1)))
  | .ins C fs => (allP (fs.map (·.2))).map (.ob C (fs.map (·.1)))
  | .tab _ _ => none
open Classical in
noncomputable def cutR (mu : Bool) (h1 : List EO) (r : Res SV) : Res SV := match r with
  | .ok x h2 => if mu = true then .ok x h2 else if Cut h1 h2 then (match x with
    | .p x => .ok (.p x) (h2.take h1.length)
    | .ref n => if n < h1.length then .ok (.ref n) (h2.take h1.length) else match h2[n]? with
      | some o => match frzO o with
        | some y => .ok (.p y) (h2.take h1.length)
        | none => .bad
      | none => .bad) else .bad
  | .exc C fs h2 => if Cut h1 h2 then .exc C fs (h2.take h1.length) else .bad
  | .bad => .bad
theorem RX.anti {d : Option Addr} {fs : List (Str × PV)} (s : ∀ a ∈ m', a ∈ m) (r : RX K m H d fs) : RX K m' H d fs := by
  rcases r with r | ⟨hf, dx, ws, h1, h2, h3, h4, h5⟩
  · exact .inl r
  · exact .inr ⟨hf, dx, ws, h1, h2, fun z => h3 (s _ z), h4, h5.anti s⟩
theorem frzO_is {o : EO} {x : PV} {a : Addr} (e : frzO o = some x) (hm : ∀ b ∈ m', b ∈ m) (na : a ∉ m') (r : RO K m H a o) : RP K m' H x (.ref a) := by
  cases o with
  | lst xs =>
    obtain ⟨vs, q, r⟩ := r
    simp only [frzO, Option.map_eq_some_iff] at e
    obtain ⟨ys, e, rfl⟩ := e
    exact .fl q na (RPs.anti hm (allP_rel e r))
  | dic kvs =>
    obtain ⟨vs, q, ek, r⟩ := r
    simp only [frzO, Option.map_eq_some_iff] at e
    obtain ⟨ys, e, rfl⟩ := e
    exact .fd q na ek (RPs.anti hm (allP_rel e r))
  | dit kvs =>
    obtain ⟨vs, q, ek, r⟩ := r
    simp only [frzO, Option.map_eq_some_iff] at e
    obtain ⟨ys, e, rfl⟩ := e
    exact .ft q na ek (RPs.anti hm (allP_rel e r))
  | ins C fs =>
    obtain ⟨dx, vs, q, ek, r⟩ := r
    simp only [frzO, Option.map_eq_some_iff] at e
    obtain ⟨ys, e, rfl⟩ := e
    exact .ob q na ek (RPs.anti hm (allP_rel e r))
  | tab P q => simp [frzO] at e
theorem nd_out {ms : List Addr} {n : Nat} {a : Addr} (nd : (m ++ ms).Nodup) (e : (m ++ ms)[n]? = some a) (hn : m.length ≤ n) : a ∉ m := by
  intro z
  rw [List.getElem?_append_right hn] at e
  exact (List.nodup_append.mp nd).2.2 _ z _ (List.mem_of_getElem? e) rfl
theorem cutR_ok {mu : Bool} {r : Res SV} {Q : VK} (w : Wd K m h H) (p : Post K E (RS K) m H (cutR mu h r) Q) : Post K E (RS K) m H r Q := by
  cases r with
  | bad => exact p
  | exc C fs h2 =>
    unfold cutR at p
    simp only at p
    split at p
    · rename_i c
      intro d H2 m2 s2 w2 r2
      obtain ⟨w3, s3⟩ := w.cut s2 w2 c
      refine p d H2 m s3 w3 (r2.anti fun a ha => ?_)
      obtain ⟨ms, rfl, _⟩ := s2.more
      exact List.mem_append_left _ ha
    · exact p.elim
  | ok x h2 =>
    unfold cutR at p
    simp only at p
    split at p
    · exact p
    · split at p
      · rename_i c
        intro v H2 m2 s2 w2 r2
        obtain ⟨w3, s3⟩ := w.cut s2 w2 c
        have hm : ∀ a ∈ m, a ∈ m2 := fun a ha => by
          obtain ⟨ms, rfl, _⟩ := s2.more
          exact List.mem_append_left _ ha
        split at p
        · exact p v H2 m s3 w3 (show RP _ _ _ _ _ from RP.anti hm r2)
        · rename_i n
          split at p
          · rename_i hn
            refine p v H2 m s3 w3 ?_
            obtain ⟨ms, rfl, _⟩ := s2.more
            exact RS.anti (by simpa [SV.below, w.len] using hn) r2
          · rename_i hn
            split at p
            · rename_i o eo
              split at p
              · rename_i y ey
                obtain ⟨a, ea, rfl⟩ := r2
                refine p _ H2 m s3 w3 (show RP _ _ _ _ _ from frzO_is ey hm ?_ (w2.at_ _ _ _ eo ea))
                obtain ⟨ms, rfl, _⟩ := s2.more
                exact nd_out w2.nd ea (by rw [w.len]; omega)
              · exact p.elim
            · exact p.elim
      · exact p.elim
noncomputable def eCallM (mu : Bool) (mir : MF) (ga : MA) : ME := fun es h => (ga es h).bind fun xs h1 => cutR mu h1 (mir xs h1)
end
def ALen (ga : MA) (n : Nat) : Prop := ∀ en h xs h1, ga en h = .ok xs h1 → xs.length = n
theorem al_nil : ALen aNil 0 := fun en h xs h1 e => by cases e; rfl
theorem al_cons {f : ME} {ga : MA} {n : Nat} (a : ALen ga n) : ALen (aCons f ga) (n + 1) := fun en h xs h1 e => by
  unfold aCons at e
  cases z : f en h with
  | ok x h2 =>
    rw [z] at e
    simp only [Res.bind] at e
    cases y : ga en h2 with
    | ok ys h3 =>
      rw [y] at e
      cases e
      rw [List.length_cons, a _ _ _ _ y]
    | exc C fs h3 => rw [y] at e; cases e
    | bad => rw [y] at e; cases e
  | exc C fs h3 => rw [z] at e; cases e
  | bad => rw [z] at e; cases e
section
variable {X : Cx} {E : XK} {x : Str} {e : Expr} {es : List Expr} {ga : MA} {p pos : Pos} {k : Nat} {f C : Addr} {fd : FuncData} {ps : List Str} {np : Nat} {mir : MF}
theorem d_call (mu : Bool) (F : FnOk X.prog X.w X.K X.mg X.base (L2.CX X.prog X.w) k f fd ps (spM X.K np mir)) (hr : Room k X.A) (hg : Gl X x) (hm : X.mg x = some (.ref f)) (hk : PySem.W.keepIn X.K (.ref f) = true) (hb : Binds X.K fd ps []) (hx : Passes (L2.CX X.prog X.w) X E)
    (ha : DA X E (e :: es) ga) (hdb : (x == ("__debug__" : Str)) = false := by decide) (he : starEach (e :: es) X.env = (false, eval e X.env) :: starEach es X.env := by rfl) (hpl : (backTo pos (starEach es X.env)).any (·.1) = false := by rfl)
    (hl : ALen ga np) :
    DE X E (.Call (.Name x p) (e :: es) [] pos) (eCallM mu mir ga) :=
  PE.of (pe_call F hr hg hm hk hb .nil hx ha hdb he hpl) fun σ H Q ⟨m, h, en, w, r, p⟩ => ⟨m, h, en, w, r, by
    cases z : ga en h with
    | ok xs h1 =>
      have p : Post X.K E (RS X.K) m H (eCallM mu mir ga en h) Q := p
      unfold eCallM at p
      rw [z] at p
      intro vs H1 m1 s1 w1 r1
      have p1 : Post X.K E (RS X.K) m H (cutR mu h1 (mir xs h1)) Q := p
      refine ⟨by rw [List.append_nil, ← RSs.len r1]; exact hl _ _ _ _ z, m1, h1, xs, w1, by rw [List.append_nil]; exact r1, cutR_ok w1 (p1.step s1)⟩
    | exc C2 fs h1 =>
      have p : Post X.K E (RS X.K) m H (eCallM mu mir ga en h) Q := p
      unfold eCallM at p
      rw [z] at p
      exact p
    | bad =>
      have p : Post X.K E (RS X.K) m H (eCallM mu mir ga en h) Q := p
      unfold eCallM at p
      rw [z] at p
      exact p⟩
theorem d_call0 (mu : Bool) (F : FnOk X.prog X.w X.K X.mg X.base (L2.CX X.prog X.w) k f fd ps (spM X.K 0 mir)) (hr : Room k X.A) (hg : Gl X x) (hm : X.mg x = some (.ref f)) (hk : PySem.W.keepIn X.K (.ref f) = true) (hb : Binds X.K fd ps []) (hx : Passes (L2.CX X.prog X.w) X E) (hdb : (x == ("__debug__" : Str)) = false := by decide) :
    DE X E (.Call (.Name x p) [] [] pos) (eCallM mu mir aNil) :=
  PE.of (pe_call0 F hr hg hm hk hb .nil hx hdb) fun σ H Q ⟨m, h, en, w, r, p⟩ => ⟨rfl, m, h, [], w, .nil, cutR_ok w p⟩
/-! ### a new instance -/
/-- what __init__ has done to the new instance -/
def mkM (C : Addr) (mir : MF) : MF := fun xs h => match mir (.ref h.length :: xs) (h ++ [.ins C []]) with
  | .ok (.p .non) h2 => .ok (.ref h.length) h2
  | .exc C fs h2 => .exc C fs h2
  | _ => .bad
theorem made {K : PySem.W.Frag} {m : List Addr} {H : Hp} {h : List EO} {C : Addr} {xs : List SV} {vs : List V} {Q : VK} (w : Wd K m h H) (r : RSs K m H xs vs) (hn : xs.length + 1 = np) (p : Post K E (RS K) m H (mkM C mir xs h) Q) : ∀ x dx, H x = none → H dx = none → dx ≠ x →
    spM K np mir (.ref x :: vs) (upd (upd H dx (.own x)) x (.ins C dx [])) (fun v H2 => v = .non ∧ Q (.ref x) H2) E := fun x dx hx hdx ne => by
  have s1 : Stp m H m (upd H dx (.own x)) := Stp.new w hdx
  have w1 : Wd K m h (upd H dx (.own x)) := w.fresh hdx
  have hx1 : (upd H dx (.own x)) x = none := by rw [upd_ne (Ne.symm ne)]; exact hx
  obtain ⟨w2, s2⟩ := w1.push (u := .ins C dx []) (o := .ins C []) hx1 ⟨dx, [], upd_same, rfl, .nil⟩
  have st := s1.trans s2
  have ex : (m ++ [x])[h.length]? = some x := by rw [List.getElem?_append_right (by rw [w.len]; exact Nat.le_refl _), w.len]; simp
  refine ⟨by rw [List.length_cons, ← r.len]; exact hn, m ++ [x], h ++ [.ins C []], .ref h.length :: xs, w2, .cons ⟨x, ex, rfl⟩ (r.stp st), ?_⟩
  unfold mkM at p
  split at p
  · rename_i h2 e
    rw [e]
    intro v H2 m2 s3 w3 r3
    cases (show RP _ _ _ _ _ from r3)
    refine ⟨rfl, p (.ref x) H2 m2 (st.trans s3) w3 ⟨x, ?_, rfl⟩⟩
    obtain ⟨ms, rfl, _⟩ := s3.more
    rw [List.getElem?_append_left (by simp [w.len]), ex]
  · rename_i C' fs h2 e
    rw [e]
    exact fun d H2 m2 s3 w3 r3 => p d H2 m2 (st.trans s3) w3 r3
  · exact p.elim
theorem d_make (mu : Bool) (M : Mk X.K C f) (F : FnOk X.prog X.w X.K X.mg X.base (L2.CX X.prog X.w) k f fd ps (spM X.K np mir)) (hr : Room (k + 1) X.A) (hg : Gl X x) (hm : X.mg x = some (.ref C)) (hb : Binds X.K fd ps []) (hx : Passes (L2.CX X.prog X.w) X E)
    (ha : DA X E (e :: es) ga) (hdb : (x == ("__debug__" : Str)) = false := by decide) (he : starEach (e :: es) X.env = (false, eval e X.env) :: starEach es X.env := by rfl) (hpl : (backTo pos (starEach es X.env)).any (·.1) = false := by rfl)
    {n : Nat} (hl : ALen ga n) (hn : n + 1 = np := by rfl) :
    DE X E (.Call (.Name x p) (e :: es) [] pos) (eCallM mu (mkM C mir) ga) :=
  PE.of (pe_make M F hr hg hm hb .nil hx ha hdb he hpl) fun σ H Q ⟨m, h, en, w, r, p⟩ => ⟨m, h, en, w, r, by
    cases z : ga en h with
    | ok xs h1 =>
      have p : Post X.K E (RS X.K) m H (eCallM mu (mkM C mir) ga en h) Q := p
      unfold eCallM at p
      rw [z] at p
      intro vs H1 m1 s1 w1 r1
      have p1 : Post X.K E (RS X.K) m H (cutR mu h1 (mkM C mir xs h1)) Q := p
      intro y dy hy hdy ne
      rw [List.append_nil]
      exact made w1 r1 (by rw [hl _ _ _ _ z]; exact hn) (cutR_ok w1 (p1.step s1)) y dy hy hdy ne
    | exc C2 fs h1 =>
      have p : Post X.K E (RS X.K) m H (eCallM mu (mkM C mir) ga en h) Q := p
      unfold eCallM at p
      rw [z] at p
      exact p
    | bad =>
      have p : Post X.K E (RS X.K) m H (eCallM mu (mkM C mir) ga en h) Q := p
      unfold eCallM at p
      rw [z] at p
      exact p⟩
end
end EV

-- E12
/-! E12: fields, displays, list(range), isinstance, unary minus. -/
namespace EV
open PySem PySem.Spec L2 PyProof.Rows
section
variable {X : Cx} {E : XK} {e o : Expr} {K : PySem.W.Frag} {m m' : List Addr} {H H' : Hp} {h h' : List EO} {pos pos' p : Pos} {fa fb fe fo : ME} {f : Str} {C : Addr}
/-! ### fields -/
def zipF : List Str → List PV → List (Str × PV)
  | n :: ns, v :: vs => (n, v) :: zipF ns vs
  | _, _ => []
theorem zipF_look : ∀ {ns : List Str} {xs : List PV} {fs : List (Str × V)} {f : Str} {x : PV}, fs.map (·.1) = ns → RPs K m H xs (fs.map (·.2)) → (zipF ns xs).lookup f = some x → ∃ v, fs.lookup f = some v ∧ RP K m H x v
  | _, _, [], _, _, rfl, .nil, e => by simp [zipF] at e
  | _, _, (n, v) :: fs, f, x, rfl, .cons q t, e => by
    simp only [List.map_cons, zipF, List.lookup_cons] at e ⊢
    cases z : f == n with
    | true => rw [z] at e; simp only at e ⊢; cases e; exact ⟨v, rfl, q⟩
    | false => rw [z] at e; simp only at e ⊢; exact zipF_look rfl t e
theorem kvs_look : ∀ {kvs : List (Str × SV)} {fs : List (Str × V)} {f : Str} {x : SV}, fs.map (·.1) = kvs.map (·.1) → RSs K m H (kvs.map (·.2)) (fs.map (·.2)) → kvs.lookup f = some x → ∃ v, fs.lookup f = some v ∧ RS K m H x v
  | [], [], _, _, _, _, e => by simp at e
  | (n, y) :: kvs, (n', v) :: fs, f, x, en, .cons q t, e => by
    simp only [List.map_cons, List.cons.injEq] at en
    obtain ⟨rfl, en⟩ := en
    simp only [List.lookup_cons] at e ⊢
    cases z : f == n' with
    | true => rw [z] at e; simp only at e ⊢; cases e; exact ⟨v, rfl, q⟩
    | false => rw [z] at e; simp only at e ⊢; exact kvs_look en t e
def fldK (C : Addr) (f : Str) (x : SV) (h : List EO) : Res SV := match x with
  | .p (.ob C' ns vs) => if C' = C then (match (zipF ns vs).lookup f with
    | some y => .ok (.p y) h
    | none => .bad) else .bad
  | .ref n => match h[n]? with
    | some (.ins C' fs) => if C' = C then (match fs.lookup f with
      | some y => .ok y h
      | none => .bad) else .bad
    | _ => .bad
  | _ => .bad
def eFld (C : Addr) (f : Str) (fe : ME) : ME := fun es h => (fe es h).bind fun x h1 => fldK C f x h1
theorem d_fld (hc : Cls X.K C) (hn : NoAttr X.K C f) (he : DE X E e fe) (hb : attributeBase e f X.env (eval e X.env) = eval e X.env := by rfl) : DE X E (.Attribute e f pos) (eFld C f fe) :=
  PE.of (pe_fld he hb) fun σ H Q ⟨m, h, es, w, r, p⟩ => ⟨m, h, es, w, r, p.bind fun x h1 v H1 m1 s1 w1 r1 p1 => by
    unfold fldK at p1
    split at p1
    · split at p1
      · rename_i ec
        subst ec
        split at p1
        · rename_i y e
          cases (show RP _ _ _ _ _ from r1) with
          | ob h1 h2 h3 h4 =>
            obtain ⟨v, e1, q⟩ := zipF_look h3 h4 e
            exact ⟨_, _, _, _, v, rfl, h1, hc, hn, e1, p1.okP w1 q⟩
        · exact p1.elim
      · exact p1.elim
    · rename_i n
      split at p1
      · rename_i C' fs eh
        split at p1
        · rename_i ec
          subst ec
          split at p1
          · rename_i y e
            obtain ⟨a, ea, rfl⟩ := r1
            obtain ⟨dx, ws, q, ek, rr⟩ := w1.at_ n _ a eh ea
            obtain ⟨v, e1, q1⟩ := kvs_look ek rr e
            exact ⟨a, _, dx, ws, v, rfl, q, hc, hn, e1, p1.ok_ (R := RS X.K) w1 q1⟩
          · exact p1.elim
        · exact p1.elim
      · exact p1.elim
    · exact p1.elim⟩
def putS (f : Str) (v : SV) : List (Str × SV) → List (Str × SV)
  | [] => [(f, v)]
  | (g, x) :: r => if g = f then (g, v) :: r else (g, x) :: putS f v r
theorem putS_is {y : SV} {vy : V} : ∀ {kvs : List (Str × SV)} {fs : List (Str × V)} {f : Str}, RS K m H y vy → fs.map (·.1) = kvs.map (·.1) → RSs K m H (kvs.map (·.2)) (fs.map (·.2)) → (putF f vy fs).map (·.1) = (putS f y kvs).map (·.1) ∧ RSs K m H ((putS f y kvs).map (·.2)) ((putF f vy fs).map (·.2))
  | [], [], _, ry, _, _ => ⟨rfl, .cons ry .nil⟩
  | (n, x) :: kvs, (n', v) :: fs, f, ry, en, .cons q t => by
    simp only [List.map_cons, List.cons.injEq] at en
    obtain ⟨rfl, en⟩ := en
    unfold putF putS
    by_cases z : n' = f
    · rw [if_pos z, if_pos z]
      exact ⟨by simp [en], .cons ry t⟩
    · rw [if_neg z, if_neg z]
      obtain ⟨h1, h2⟩ := putS_is (f := f) ry en t
      exact ⟨by simp [h1], .cons q h2⟩
def sFldS (C : Addr) (f : Str) (fo fe : ME) : MS := fun es h => (fe es h).sbind fun y h1 => (fo es h1).sbind fun x h2 => match x with
  | .ref n => match h2[n]? with
    | some (.ins C' fs) => if C' = C ∧ fs.length < 1000 then .nx es (h2.set n (.ins C (putS f y fs))) else .bad
    | _ => .bad
  | _ => .bad
theorem d_sfld (hc : Cls X.K C) (hn : NoAttr X.K C f) (ho : DE X E o fo) (he : DE X E e fe) (hs : swapsWith e (some (.Attribute o f pos')) pos.line X.env = pure false := by rfl) : DS X E (.Assign [.Attribute o f pos'] e pos) (sFldS C f fo fe) :=
  PS.of (ps_fld ho he hs) fun D σ H ⟨m, h, es, w, r, p⟩ => ⟨m, h, es, w, r, p.sbind fun y h1 vy H1 m1 s1 w1 r1 p1 => ⟨m1, h1, es, w1, r.stp s1, p1.sbind fun x h2 vx H2 m2 s2 w2 r2 p2 => by
    split at p2
    · rename_i n
      split at p2
      · rename_i C' fs eh
        split at p2
        · rename_i hh
          obtain ⟨rfl, hl⟩ := hh
          obtain ⟨a, ea, rfl⟩ := r2
          obtain ⟨dx, ws, q, ek, rr⟩ := w2.at_ n _ a eh ea
          obtain ⟨q1, q2⟩ := putS_is (f := f) (r1.stp s2) ek rr
          have hwl : ws.length < 1000 := by
            have := congrArg List.length ek
            simp at this
            omega
          refine ⟨a, _, dx, ws, rfl, q, hc, hn, hwl, ?_⟩
          exact p2 σ _ m2 (.write ea) (w2.write (o := .ins C' (putS f y fs)) ea ⟨dx, putF f vy ws, upd_same, q1, RSs.stp (.write ea) q2⟩) (((r.stp s1).stp s2).stp (.write ea))
        · exact p2.elim
      · exact p2.elim
    · exact p2.elim⟩⟩
/-! ### {}, {k: v} -/
def eNewD (tk : Bool) (mu : Bool) : ME := fun _ h => if mu = true then .ok (.ref h.length) (h ++ [if tk = true then .dit [] else .dic []]) else .ok (.p (if tk = true then .ft [] [] else .fd [] [])) h
theorem d_newK (mu : Bool) : DE X E (.Dict [] [] pos) (eNewD false mu) := PE.of pe_dnewK fun σ H Q ⟨m, h, es, w, r, p⟩ a ha => by
  unfold eNewD at p
  cases mu with
  | true =>
    obtain ⟨w2, s2⟩ := w.push (u := .dK []) (o := .dic []) ha ⟨[], upd_same, rfl, .nil⟩
    exact p _ _ _ s2 w2 ⟨a, by rw [List.getElem?_append_right (by rw [w.len]; exact Nat.le_refl _), w.len]; simp, rfl⟩
  | false => exact p _ _ _ (Stp.new w ha) (w.fresh ha) (show RP _ _ _ _ _ from .fd (kvs := []) upd_same (w.new ha) rfl .nil)
theorem d_newT (mu : Bool) : DE X E (.Dict [] [] pos) (eNewD true mu) := PE.of pe_dnewT fun σ H Q ⟨m, h, es, w, r, p⟩ a ha => by
  unfold eNewD at p
  cases mu with
  | true =>
    obtain ⟨w2, s2⟩ := w.push (u := .dT []) (o := .dit []) ha ⟨[], upd_same, rfl, .nil⟩
    exact p _ _ _ s2 w2 ⟨a, by rw [List.getElem?_append_right (by rw [w.len]; exact Nat.le_refl _), w.len]; simp, rfl⟩
  | false => exact p _ _ _ (Stp.new w ha) (w.fresh ha) (show RP _ _ _ _ _ from .ft (kvs := []) upd_same (w.new ha) rfl .nil)
/-- {k: v}, one pair -/
def eDisp (fk fv : ME) : ME := fun es h => (fk es (h ++ [.dic []])).bind fun x h1 => (fv es h1).bind fun y h2 => match keyOf x, h2[h.length]? with
  | some k, some (.dic []) => .ok (.ref h.length) (h2.set h.length (.dic [(k, y)]))
  | _, _ => .bad
theorem d_disp {k v : Expr} {fk fv : ME} (hk : DE X E k fk) (hv : DE X E v fv) : DE X E (.Dict [some k] [v] pos) (eDisp fk fv) :=
  PE.of (pe_disp (pps_cons hk hv pps_nil) rfl rfl (by simp) (by simp)) fun σ H Q ⟨m, h, es, w, r, p⟩ a ha => by
    obtain ⟨w0, s0⟩ := w.push (u := .dK []) (o := .dic []) ha ⟨[], upd_same, rfl, .nil⟩
    have p := p.step s0
    refine ⟨m ++ [a], _, es, w0, r.stp s0, p.bind fun x h1 vx H1 m1 s1 w1 r1 p1 => ⟨m1, h1, es, w1, (r.stp s0).stp s1, p1.bind fun y h2 vy H2 m2 s2 w2 r2 p2 => ?_⟩⟩
    have ea : m2[h.length]? = some a := by
      obtain ⟨ms, rfl, _⟩ := (s1.trans s2).more
      rw [List.getElem?_append_left (by simp [w.len]), List.getElem?_append_right (by rw [w.len]; exact Nat.le_refl _), w.len]; simp
    split at p2
    · rename_i k ek eh
      obtain ⟨ws, q, e1, rr⟩ := w2.at_ _ _ _ eh ea
      have : ws = [] := by cases ws with
        | nil => rfl
        | cons _ _ => simp at e1
      subst this
      refine ⟨q, [(k, vy)], by rw [key_is (r1.stp s2) ek]; rfl, by simp, ?_⟩
      have rr2 : RSs X.K m2 H2 [y] [vy] := .cons r2 .nil
      exact p2 _ _ _ (.write ea) (w2.write (o := .dic [(k, y)]) ea ⟨[(k, vy)], upd_same, rfl, RSs.stp (.write ea) rr2⟩) ⟨a, ea, rfl⟩
    · exact p2.elim
/-! ### list(range(..)) -/
def rgS (a b : Int) : List PV := (List.range (b - a).toNat).map fun i => .int (a + (i : Nat))
instance (a b : Int) : Decidable (RgOk a b) := by unfold RgOk; infer_instance
def lrgK (mu : Bool) (a b : Int) (h : List EO) : Res SV := if RgOk a b then (if mu = true then .ok (.ref h.length) (h ++ [.lst ((rgS a b).map .p)]) else .ok (.p (.fl (rgS a b))) h) else .bad
theorem rgS_is (a b : Int) : RPs K m H (rgS a b) (rgV a b) := by
  unfold rgS rgV
  generalize (b - a).toNat = n
  generalize List.range n = l
  induction l with
  | nil => exact .nil
  | cons i l ih => exact .cons (.int _) ih
theorem lrg_ok {mu : Bool} {a b : Int} {Q : VK} (w : Wd K m h H) (p : Post K E (RS K) m H (lrgK mu a b h) Q) : RgOk a b ∧ ∀ q, H q = none → Q (.ref q) (upd H q (.lst (rgV a b))) := by
  unfold lrgK at p
  split at p
  · rename_i ok
    refine ⟨ok, fun q hq => ?_⟩
    split at p
    · obtain ⟨w2, s2⟩ := w.push (u := .lst (rgV a b)) (o := .lst ((rgS a b).map .p)) hq ⟨_, upd_same, .ofP (rgS_is a b)⟩
      exact p _ _ _ s2 w2 ⟨q, by rw [List.getElem?_append_right (by rw [w.len]; exact Nat.le_refl _), w.len]; simp, rfl⟩
    · exact p _ _ _ (Stp.new w hq) (w.fresh hq) (show RP _ _ _ _ _ from .fl upd_same (w.new hq) (rgS_is a b))
  · exact p.elim
def eLrg1 (mu : Bool) (fa : ME) : ME := fun es h => (fa es h).bind fun x h1 => match x with
  | .p (.int j) => lrgK mu 0 j h1
  | _ => .bad
theorem d_lrg1 {a : Expr} {p2 : Pos} (mu : Bool) (hc : X.calm = true) (hl : Gl X "list") (ml : X.mg "list" = none) (hg : Gl X "range") (hm : X.mg "range" = none) (ha : DE X E a fa) (na : starEach [a] X.env = (false, eval a X.env) :: starEach [] X.env := by rfl)
    (na2 : starEach [.Call (.Name "range" p) [a] [] pos'] X.env = (false, eval (.Call (.Name "range" p) [a] [] pos') X.env) :: starEach [] X.env := by rfl) :
    DE X E (.Call (.Name "list" p2) [.Call (.Name "range" p) [a] [] pos'] [] pos) (eLrg1 mu fa) :=
  PE.of (pe_listRg hc hl ml (prg_1 hg hm ha na) na2) fun σ H Q ⟨m, h, es, w, r, p⟩ => ⟨m, h, es, w, r, p.bind fun x h1 v H1 m1 s1 w1 r1 p1 => by
    split at p1
    · cases (show RP _ _ _ _ _ from r1)
      exact ⟨_, rfl, lrg_ok w1 p1⟩
    · exact p1.elim⟩
def eLrg2 (mu : Bool) (fa fb : ME) : ME := fun es h => (fa es h).bind fun x h1 => (fb es h1).bind fun y h2 => match x, y with
  | .p (.int i), .p (.int j) => lrgK mu i j h2
  | _, _ => .bad
theorem d_lrg2 {a b : Expr} {p2 : Pos} (mu : Bool) (hc : X.calm = true) (hl : Gl X "list") (ml : X.mg "list" = none) (hg : Gl X "range") (hm : X.mg "range" = none) (ha : DE X E a fa) (hb : DE X E b fb) (na : starEach [a, b] X.env = (false, eval a X.env) :: starEach [b] X.env := by rfl) (nb : starEach [b] X.env = (false, eval b X.env) :: starEach [] X.env := by rfl)
    (na2 : starEach [.Call (.Name "range" p) [a, b] [] pos'] X.env = (false, eval (.Call (.Name "range" p) [a, b] [] pos') X.env) :: starEach [] X.env := by rfl) (hp : (backTo pos' (starEach [b] X.env)).any (·.1) = false := by rfl) :
    DE X E (.Call (.Name "list" p2) [.Call (.Name "range" p) [a, b] [] pos'] [] pos) (eLrg2 mu fa fb) :=
  PE.of (pe_listRg hc hl ml (prg_2 hg hm ha hb na nb hp) na2) fun σ H Q ⟨m, h, es, w, r, p⟩ => ⟨m, h, es, w, r, p.bind fun x h1 v H1 m1 s1 w1 r1 p1 => ⟨m1, h1, es, w1, r.stp s1, p1.bind fun y h2 u H2 m2 s2 w2 r2 p2 => by
    split at p2
    · cases (show RP _ _ _ _ _ from r1)
      cases (show RP _ _ _ _ _ from r2)
      exact ⟨_, _, rfl, rfl, lrg_ok w2 p2⟩
    · exact p2.elim⟩⟩
/-! ### isinstance(x, T), T a built-in type -/
def tyN (h : List EO) : SV → Option String
  | .p .non => some "NoneType"
  | .p (.bl _) => some "bool"
  | .p (.int _) => some "int"
  | .p (.str _) => some "str"
  | .p (.tup _) => some "tuple"
  | .p (.ktp _) => some "tuple"
  | .p (.ftp _) => some "tuple"
  | .p (.fl _) => some "list"
  | .p (.fz _) => some "list"
  | .p (.fd _ _) => some "dict"
  | .p (.ft _ _) => some "dict"
  | .ref n => match h[n]? with
    | some (.lst _) => some "list"
    | some (.dic _) => some "dict"
    | some (.dit _) => some "dict"
    | _ => none
  | _ => none
theorem tyN_is {x : SV} {v : V} {t : String} (w : Wd K m h H) (r : RS K m H x v) (e : tyN h x = some t) : TyX K H v (.type t) := by
  unfold tyN at e
  split at e <;> first | (cases e; done) | skip
  all_goals first
    | (cases e; cases (show RP _ _ _ _ _ from r); first | exact .base .non | exact .base (.bl _) | exact .base (.int _) | exact .base (.str _))
    | (cases e; cases (show RP _ _ _ _ _ from r) with
        | tup h1 _ _ => exact .base (.tup h1))
    | (cases e; cases (show RP _ _ _ _ _ from r) with
        | ktp h1 _ => obtain ⟨o, _, _, h1, h2, _⟩ := h1; exact .kTuple h1 h2)
    | (cases e; cases (show RP _ _ _ _ _ from r) with
        | ftp h1 _ _ _ => exact .fTuple h1)
    | (cases e; cases (show RP _ _ _ _ _ from r) with
        | fl h1 _ _ => exact .base (.lst h1))
    | (cases e; cases (show RP _ _ _ _ _ from r) with
        | fz h1 _ =>
          rcases h1 with ⟨h1 | ⟨o, h1⟩, _⟩ | ⟨o, _, _, h1, h2, _⟩
          · exact .base (.lst h1)
          · exact .base (.frz h1)
          · exact .kList h1 h2)
    | (cases e; cases (show RP _ _ _ _ _ from r) with
        | fd h1 _ _ _ => exact .base (.dK h1))
    | (cases e; cases (show RP _ _ _ _ _ from r) with
        | ft h1 _ _ _ => exact .base (.dT h1))
    | skip
  rename_i n
  obtain ⟨a, ea, rfl⟩ := r
  split at e
  · rename_i xs eh; cases e; obtain ⟨vs, q, _⟩ := w.at_ n _ a eh ea; exact .base (.lst q)
  · rename_i xs eh; cases e; obtain ⟨vs, q, _⟩ := w.at_ n _ a eh ea; exact .base (.dK q)
  · rename_i xs eh; cases e; obtain ⟨vs, q, _⟩ := w.at_ n _ a eh ea; exact .base (.dT q)
  · cases e
def isiK (x y : SV) (h : List EO) : Res SV := match tyN h x, y with
  | some t, .p (.ty u) => match kitB t u with
    | some b => .ok (.p (.bl b)) h
    | none => .bad
  | _, _ => .bad
def f2 (k : SV → SV → List EO → Res SV) : List SV → List EO → Res SV := fun xs h => match xs with
  | [x, y] => k x y h
  | _ => .bad
theorem do2 {k : SV → SV → List EO → Res SV} {r : List V → Hp → VK → Prop} (hk : ∀ x y h v u m H Q, Wd K m h H → RS K m H x v → RS K m H y u → Post K E (RS K) m H (k x y h) Q → r [v, u] H Q) : DoC K E r (f2 k) := by
  intro xs h vs m H Q w rs p
  unfold f2 at p
  split at p
  · obtain ⟨v, u, rfl, q, s⟩ := rs.two
    exact hk _ _ _ _ _ _ _ _ w q s p
  · exact p.elim
theorem r_isi : DoC K E (rIsi K) (f2 isiK) := do2 fun x y h v u m H Q w rx ry p => by
  unfold isiK at p
  split at p
  · rename_i t n e
    split at p
    · rename_i b eb
      cases (show RP _ _ _ _ _ from ry)
      exact ⟨v, .ty n, .type t, .type n, b, rfl, .ty n, tyN_is w rx e, kit_ty eb, p.okP w (.bl b)⟩
    · exact p.elim
  · exact p.elim
/-- a type's name -/
def eTy (n : String) : ME := fun _ h => .ok (.p (.ty n)) h
/-! ### -x -/
def eNeg (fa : ME) : ME := fun es h => (fa es h).bind fun x h1 => match x with
  | .p (.int i) => .ok (.p (.int (-i))) h1
  | _ => .bad
theorem d_neg {a : Expr} (ha : DE X E a fa) : DE X E (.UnaryOp .USub a pos) (eNeg fa) :=
  PE.of (pe_un un_neg ha) fun σ H Q ⟨m, h, es, w, r, p⟩ => ⟨m, h, es, w, r, p.bind fun x h1 v H1 m1 s1 w1 r1 p1 => by
    split at p1
    · cases (show RP _ _ _ _ _ from r1)
      exact ⟨_, rfl, p1.okP w1 (.int _)⟩
    · exact p1.elim⟩
theorem d_ty (n : String) {x : Str} (hg : Gl X x) (hm : X.mg x = none) (hv : bootBuiltins x = some (.type n)) (hn : x ≠ "__name__" := by decide) (hdb : (x == ("__debug__" : Str)) = false := by decide) : DE X E (.Name x pos) (eTy n) :=
  PE.of (pe_bltn (v := .ty n) hg hm hv rfl hn hdb) fun σ H Q ⟨m, h, es, w, r, p⟩ => p.okP w (.ty n)
def eAdr (a : Addr) : ME := fun _ h => .ok (.p (.adr a)) h
theorem d_cls (a : Addr) {x : Str} (hg : Gl X x) (hm : X.mg x = some (.ref a)) (hdb : (x == ("__debug__" : Str)) = false := by decide) : DE X E (.Name x pos) (eAdr a) :=
  PE.of (pe_glob (v := .ref a) hg hm rfl hdb) fun σ H Q ⟨m, h, es, w, r, p⟩ => p.okP w (.adr a)
end
end EV

-- E13
/-! E13: enumerate of a tuple; enumerate, zip as what is walked. -/
namespace EV0
open PySem
open PySem.Sem (wp)
theorem meets_enum_newB {v : Value} {o : Obj} {H : Heap → Prop} (B : Begins v o H) :
    Meets (Builtin.«enumerate.__new__» ⟨[.type "enumerate", v], []⟩) (fun _ R s => H s.heap ∧
      R (.ok (.ret (.ref (s.heap.push o).objs.size))) { s with heap := (s.heap.push o).push { cls := .type "enumerate", data := .fields #[.none, .bool false, .ref s.heap.objs.size, rawInt 0, .none, .none] } }) :=
  .of_wp fun prog w A R s h => by
    obtain ⟨hp, g, d, tk, os⟩ := s; obtain ⟨h1, h⟩ := h
    have hsub := sub_enumerate
    have q1 : ∀ {A' : Around} {E : Value → Shared → Prop} {Q : Value → Shared → Prop}, Q (.ref hp.objs.size) ⟨hp.push o, g, d, tk, os⟩ → wpAny (model prog w) A' (pyIter v) Q E ⟨hp, g, d, tk, os⟩ :=
      fun q => B.iter prog w _ _ ⟨hp, g, d, tk, os⟩ _ h1 q
    wp_walk using q1
    refine wpAny_stack_any fun st => wpAny_pure ?_
    split
    · rename_i c _ _ _ _ _
      cases (c == Value.type "enumerate")
      · wp_walk using q1
        exact ⟨_, rfl, h⟩
      · wp_walk using q1
        exact ⟨_, rfl, h⟩
    · wp_walk using q1
      exact ⟨_, rfl, h⟩
section
variable {prog : Program} {w : World} {A : Around} {E : Value → Shared → Prop} {s : Shared}
theorem enum_begins1 {v : Value} {o : Obj} {H : Heap → Prop} {Q : Value → Shared → Prop} (B : Begins v o H) (h1 : H s.heap)
    (h : ∀ h', IsEnum h' (s.heap.objs.size + 1) s.heap.objs.size 0 .none → h'.get? s.heap.objs.size = some o → h'.objs.size = s.heap.objs.size + 2 →
      (∀ b o, s.heap.get? b = some o → h'.get? b = some o) → Q (.ref (s.heap.objs.size + 1)) { s with heap := h' }) :
    wpAny (model prog w) A (call (.type "enumerate") [v]) Q E s := by
  refine callType_new F.called_enumerate (by decide) (F.typeCall_enumerate_1 _) (F.newCall_enumerate_1 _) (fun obj => F.args_object_init_2 obj _) F.entry_enumerate_new
    (meets_enum_newB B) ⟨h1, ?_⟩
  have hz : (s.heap.push o).objs.size = s.heap.objs.size + 1 := Heap.size_push ..
  show _ ∧ _
  rw [hz]
  have he : IsEnum ((s.heap.push o).push { cls := .type "enumerate", data := .fields #[.none, .bool false, .ref s.heap.objs.size, rawInt 0, .none, .none] }) (s.heap.objs.size + 1) s.heap.objs.size 0 .none := by
    have := Heap.get?_push_size (s.heap.push o) (o := { cls := .type "enumerate", data := .fields #[.none, .bool false, .ref s.heap.objs.size, rawInt 0, .none, .none] }) rfl
    rw [hz] at this; exact this
  refine ⟨⟨_, he, rfl⟩, h _ he (Heap.get?_push_of_some _ (Heap.get?_push_size _ B.free)) (by rw [Heap.size_push, hz]) fun b o x => Heap.get?_push_of_some _ (Heap.get?_push_of_some _ x)⟩
end
end EV0
namespace L2
open PySem PySem.Spec PyProof.Rows
/-- the tuple at a, each item in a new pair -/
def IteT (K : PySem.W.Frag) (a : Addr) : It :=
  ⟨fun i H => ∃ (xs : List V) (x : V), SqT K H a xs ∧ xs[i]? = some x, fun i H v H' => ∃ T x, v = .ref T ∧ H T = none ∧ H' = upd H T (.tup [.int (i : Nat), x]) ∧ ∀ xs, SqT K H a xs → xs[i]? = some x, fun i H => ∃ xs : List V, SqT K H a xs ∧ xs.length = i⟩
theorem turn_enumT {P : Program} {w : World} {K : PySem.W.Frag} {elts : List Expr} {kk : Nat} {tpos : Pos} (a e it : Addr) :
    Turn P w K (.Tuple elts kk tpos) (IteT K a) [e, it] e (fun i h => (∃ old, IsEnum h e it ((i : Nat) : Int) old) ∧ h.IsTupleIter it a i ∧ e ≠ it) where
  mem := by simp
  obj := fun i h st b hb => by
    obtain ⟨⟨old, he⟩, ⟨o, ho, hc, hd⟩, _⟩ := st
    have e' : b = e ∨ b = it := by simpa using hb
    rcases e' with z | z
    · rw [z]; exact ⟨_, he, fun v q => nomatch q⟩
    · rw [z]; exact ⟨o, ho, fun v q => by rw [hd] at q; cases q⟩
  keep := fun i h h' st k => let ⟨⟨old, he⟩, hi, hne⟩ := st; ⟨⟨old, k e (by simp) _ he⟩, hi.at fun o q => k it (by simp) o q, hne⟩
  item := by
    intro X hP hw hK hc i pins s σ H E I hf st hg
    subst hP hw hK
    obtain ⟨⟨old, he⟩, hit, hne⟩ := st
    obtain ⟨xs, x, hq, hx⟩ := hg
    obtain ⟨its, rv, p, hz⟩ := I.tuple hq
    obtain ⟨u, hu, ru⟩ := rv.get hx
    have pT : s.heap.IsTuple a its.toArray := p
    have hea : e ≠ a := fun z => by
      obtain ⟨o, ho, hc', _⟩ := pT
      rw [← z] at ho
      have e1 := he.symm.trans ho
      cases e1
      exact absurd (show ("enumerate" : String) = "tuple" from by injection hc') (by decide)
    have hia : a ≠ it := fun z => by
      obtain ⟨o, ho, hc', _⟩ := pT
      obtain ⟨o2, ho2, hc2, _⟩ := hit
      rw [z, ho2] at ho
      cases ho
      rw [hc2] at hc'
      exact absurd (show ("tuple_iterator" : String) = "tuple" from by injection hc') (by decide)
    have hel : e < s.heap.objs.size := Heap.lt_size he
    have hil : it < s.heap.objs.size := by obtain ⟨_, q, _⟩ := hit; exact Heap.lt_size q
    have hlt : i < its.toArray.size := by
      have := (List.getElem?_eq_some_iff.mp hu).1
      simpa using this
    refine wpAny_pyNext_enum_itemC (Draws.tuple (A := X.A.in1) (I.ok.hd hc) it a hia its.toArray) he ⟨hit, pT⟩ hlt hne (by simp [hne, hea]) fun x' h' tk hx' ho hit' hT hsz hk => ?_
    have exu : x' = u := by
      have : its.toArray[i]? = some u := by simpa using hu
      rw [this] at hx'
      exact (Option.some.inj hx').symm
    subst exu
    refine ⟨_, rfl, wpAny_letOwnedTupleGo_enum (s := { s with heap := h', toks := tk + 1 }) ho fun h'' he' sb => ?_⟩
    have hT2 : h''.get? s.heap.objs.size = some { cls := .type "tuple", data := .seq #[.int i tk, x'] } := (sb.2 _ (Nat.ne_of_gt hel)).trans hT
    have new : ObjOk X.prog X.w (upd H s.heap.objs.size (.tup [.int (i : Nat), x])) h'' s.heap.objs.size (.tup [.int (i : Nat), x]) :=
      ⟨by show 2 ≤ sizeLine; decide, [.int i tk, x'], .cons ⟨_, rfl⟩ (.cons ru .nil), ⟨_, hT2, rfl, _, rfl⟩⟩
    have I1 : Inv X pins σ (upd H s.heap.objs.size (.tup [.int (i : Nat), x])) { s with heap := h'', toks := tk + 1 } :=
      I.turnedNew (ch := [e, it]) (fun b ob hb q => (sb.2 b (fun z => hb (by simp [z]))).trans (hk b ob (fun z => hb (by simp [z])) (fun z => hb (by simp [z])) q)) hf (Nat.le_refl _) new
    refine ⟨.ref s.heap.objs.size, _, I1, rfl, ⟨_, x, rfl, I.hok.fresh (Nat.le_refl _), rfl, fun ys hy => by rw [I.tuple_inj hy hq]; exact hx⟩, ⟨⟨x', ?_⟩, hit'.1.at fun o q => (sb.2 it (Ne.symm hne)).trans q, hne⟩, fun b hb => ?_⟩
    · have e1 : ((i + 1 : Nat) : Int) = (i : Int) + 1 := by omega
      rw [e1]; exact he'
    · have hb' : b < s.heap.objs.size := by
        have e' : b = e ∨ b = it := by simpa using hb
        rcases e' with z | z
        · rw [z]; exact hel
        · rw [z]; exact hil
      rw [upd_ne (Nat.ne_of_lt hb')]
      exact (hf b hb).1
  done := by
    intro X hP hw hK hc i pins s σ H E I hf st hg
    subst hP hw hK
    obtain ⟨⟨old, he⟩, hit, hne⟩ := st
    obtain ⟨xs, hq, hx⟩ := hg
    obtain ⟨its, rv, p, hz⟩ := I.tuple hq
    have pT : s.heap.IsTuple a its.toArray := p
    have hia : a ≠ it := fun z => by
      obtain ⟨o, ho, hc', _⟩ := pT
      obtain ⟨o2, ho2, hc2, _⟩ := hit
      rw [z, ho2] at ho
      cases ho
      rw [hc2] at hc'
      exact absurd (show ("tuple_iterator" : String) = "tuple" from by injection hc') (by decide)
    obtain ⟨f0, f1, f2, f3, f4, f5⟩ := hf it (by simp)
    have hl := rv.length
    have hn : its.toArray.size = i := by rw [List.size_toArray, ← hl, hx]
    exact wpAny_pyNext_enum_endD (Draws.tuple (A := X.A.in1) (I.ok.hd hc) it a hia its.toArray) he ⟨by rw [hn]; exact hit, pT⟩ fun h' eb => ⟨rfl, I.turned (t' := s.toks) (fun b o hb q => eb b o hb q) f0 f1 f3 f4 f5⟩
  self := fun A i s Q E st h => let ⟨⟨_, he⟩, _⟩ := st; wpAny_pyIter_enum he h
def iEnumT (K : PySem.W.Frag) (ta : TA) : TI := fun σ H R => ta σ H fun vs H1 => ∃ a, vs = [.ref a] ∧ (((∃ xs, SqL K H1 a xs) ∧ R (Ite K a) H1) ∨ ((∃ xs, SqT K H1 a xs) ∧ R (IteT K a) H1))
theorem pi_enumT {X : Cx} {e : Expr} {ta : TA} {p pos tpos : Pos} {elts : List Expr} {kk : Nat} (hg : Gl X "enumerate") (hm : X.mg "enumerate" = none) (ha : PA X [e] ta) (hs : starEach [e] X.env = [(false, eval e X.env)] := by rfl) :
    PI X (.Tuple elts kk tpos) (.Call (.Name "enumerate" p) [e] [] pos) (iEnumT X.K ta) := by
  refine ⟨fun pins s σ H R I h => ?_⟩
  refine Call_ (ld_blt I hg hm boot_enumerate (PyProof.Rows.callWith_type1 (thn (ha.run pos pins s σ H _ I h) fun us s1 ⟨vs, H1, I1, r1, q1⟩ => ?_) hs rfl))
  have fresh2 : ∀ b, b ∈ [s1.heap.objs.size + 1, s1.heap.objs.size] → FpOk X pins H1 b := fun b hb => by
    have e' : b = s1.heap.objs.size + 1 ∨ b = s1.heap.objs.size := by simpa using hb
    have hle : s1.heap.objs.size ≤ b := by
      rcases e' with z | z
      · rw [z]; exact Nat.le_add_right _ _
      · rw [z]; exact Nat.le_refl _
    exact I1.fpOk hle (I1.hok.fresh hle)
  obtain ⟨a, ex, q⟩ := q1
  subst ex
  cases r1 with
  | cons r rr =>
    cases rr
    cases r
    rcases q with ⟨⟨xs, hq⟩, q⟩ | ⟨⟨xs, hq⟩, q⟩
    · obtain ⟨its, rv, p', hz⟩ := I1.list hq
      refine call_enumerate_list p'.isList fun h' he hit hsz hk => wpAny_pyIter_enum he ?_
      have I2 : Inv X pins σ H1 { s1 with heap := h' } := I1.kept (t' := s1.toks) hk
      exact ⟨s1.heap.objs.size + 1, [s1.heap.objs.size + 1, s1.heap.objs.size], _, _, H1, rfl, I2, turn_enum a (s1.heap.objs.size + 1) s1.heap.objs.size, ⟨⟨.none, he⟩, hit, Nat.succ_ne_self _⟩, fresh2, q⟩
    · obtain ⟨its, rv, p', hz⟩ := I1.tuple hq
      refine EV0.enum_begins1 (begins_tuple a its.toArray) p' fun h' he hit hsz hk => wpAny_pyIter_enum he ?_
      have I2 : Inv X pins σ H1 { s1 with heap := h' } := I1.kept (t' := s1.toks) hk
      exact ⟨s1.heap.objs.size + 1, [s1.heap.objs.size + 1, s1.heap.objs.size], _, _, H1, rfl, I2, turn_enumT a (s1.heap.objs.size + 1) s1.heap.objs.size, ⟨⟨.none, he⟩, ⟨_, hit, rfl, rfl⟩, Nat.succ_ne_self _⟩, fresh2, q⟩
end L2
namespace EV
open PySem PySem.Spec L2
section
variable {X : Cx} {E : XK} {e e2 : Expr} {K : PySem.W.Frag} {m m' : List Addr} {H H' : Hp} {h h' : List EO} {p pos tpos : Pos} {elts : List Expr} {kk : Nat} {ga : MA}
/-- pure items of a list or a tuple -/
def nxtE (xs : List PV) : Nxt := fun i _ => if i < xs.length then some (xs[i]?.map fun x => .p (.tup [.int (i : Nat), x])) else if i = xs.length then some none else none
def nxtER (n : Nat) : Nxt := fun i h => match h[n]? with
  | some (.lst xs) => match xs[i]? with
    | none => some none
    | some (.p x) => some (some (.p (.tup [.int (i : Nat), x])))
    | some _ => none
  | _ => none
def iEn (ga : MA) : MI := fun es h => (ga es h).bind fun xs h1 => match xs with
  | [.ref n] => match h1[n]? with
    | some (.lst _) => .ok (nxtER n, fuelL) h1
    | _ => .bad
  | [.p x] => match seqP x with
    | some xs => .ok (nxtE xs, xs.length + 1) h1
    | none => .bad
  | _ => .bad
/-- a new pair -/
theorem pair_new {m' : List Addr} {H' : Hp} {h' : List EO} {x y : PV} {vx vy : V} {T : Addr} (w : Wd K m' h' H') (rx : RP K m' H' x vx) (ry : RP K m' H' y vy) (hT : H' T = none) :
    Stp m' H' m' (upd H' T (.tup [vx, vy])) ∧ Wd K m' h' (upd H' T (.tup [vx, vy])) ∧ RS K m' (upd H' T (.tup [vx, vy])) (.p (.tup [x, y])) (.ref T) := by
  have st : Stp m' H' m' (upd H' T (.tup [vx, vy])) := Stp.new w hT
  exact ⟨st, w.fresh hT, show RP _ _ _ _ _ from .tup upd_same (w.new hT) (.cons (rx.stp st) (.cons (ry.stp st) .nil))⟩
theorem iter_enL {a : Addr} {xs : List PV} {vs : List V} (q : SqLm K m H a vs) (r : RPs K m H xs vs) (k : Nat) : IterOk K m H (nxtE xs, k) (Ite K a) := by
  intro m' H' h' st w i
  have q' : SqL K H' a vs := (q.stp st).sq
  have r' := r.stp st
  show match nxtE xs i h' with | none => True | some none => _ | some (some y) => _
  unfold nxtE
  by_cases hi : i < xs.length
  · rw [if_pos hi, List.getElem?_eq_getElem hi]
    obtain ⟨v, ev, rv⟩ := r'.get (List.getElem?_eq_getElem hi)
    refine ⟨⟨vs, v, q', ev⟩, fun u H'' hy => ?_⟩
    obtain ⟨T, x, rfl, hT, rfl, hy⟩ := hy
    have eu := hy vs q'
    rw [ev] at eu
    cases eu
    exact pair_new w (.int _) rv hT
  · rw [if_neg hi]
    split
    · trivial
    · rename_i e
      exact ⟨vs, q', by rw [← r'.len]; omega⟩
    · rename_i e
      split at e <;> cases e
theorem iter_enT {a : Addr} {xs : List PV} {vs : List V} (q : ∀ H' m', Stp m H m' H' → SqT K H' a vs) (r : RPs K m H xs vs) (k : Nat) : IterOk K m H (nxtE xs, k) (IteT K a) := by
  intro m' H' h' st w i
  have q' := q _ _ st
  have r' := r.stp st
  show match nxtE xs i h' with | none => True | some none => _ | some (some y) => _
  unfold nxtE
  by_cases hi : i < xs.length
  · rw [if_pos hi, List.getElem?_eq_getElem hi]
    obtain ⟨v, ev, rv⟩ := r'.get (List.getElem?_eq_getElem hi)
    refine ⟨⟨vs, v, q', ev⟩, fun u H'' hy => ?_⟩
    obtain ⟨T, x, rfl, hT, rfl, hy⟩ := hy
    have eu := hy vs q'
    rw [ev] at eu
    cases eu
    exact pair_new w (.int _) rv hT
  · rw [if_neg hi]
    split
    · trivial
    · rename_i e
      split at e
      · rename_i e2; exact ⟨vs, q', by rw [← r'.len, e2]⟩
      · cases e
    · rename_i e
      split at e <;> cases e
theorem iter_enR {a : Addr} {n : Nat} (ea : m[n]? = some a) (k : Nat) : IterOk K m H (nxtER n, k) (Ite K a) := by
  intro m' H' h' st w i
  have ea' : m'[n]? = some a := by
    obtain ⟨ms, rfl, _⟩ := st.more
    rw [List.getElem?_append_left (List.getElem?_eq_some_iff.mp ea).1]; exact ea
  show match nxtER n i h' with | none => True | some none => _ | some (some y) => _
  unfold nxtER
  split
  · trivial
  · rename_i e
    split at e
    · rename_i xs eh
      obtain ⟨vs, q, r⟩ := w.at_ n _ a eh ea'
      split at e
      · rename_i e2
        exact ⟨vs, SqL.of q, by rw [← r.len]; exact List.getElem?_eq_none_iff.mp e2⟩
      · cases e
      · cases e
    · cases e
  · rename_i y e
    split at e
    · rename_i xs eh
      obtain ⟨vs, q, r⟩ := w.at_ n _ a eh ea'
      split at e
      · cases e
      · rename_i x e2
        cases e
        obtain ⟨v, ev, rv⟩ := r.get e2
        refine ⟨⟨vs, v, SqL.of q, ev⟩, fun u H'' hy => ?_⟩
        obtain ⟨T, x, rfl, hT, rfl, hy⟩ := hy
        have eu := hy vs (SqL.of q)
        rw [ev] at eu
        cases eu
        exact pair_new w (.int _) rv hT
      · cases e
    · cases e
theorem sqT_stp {x : PV} {v : V} {xs : List PV} (r : RP K m H x v) (e : tupOf (.p x) = some xs) : ∃ a vs, v = .ref a ∧ RPs K m H xs vs ∧ ∀ H' m', Stp m H m' H' → SqT K H' a vs := by
  unfold tupOf at e
  split at e
  · rename_i z; cases z; cases e
    cases r with
    | tup h1 h2 h3 => exact ⟨_, _, rfl, h3, fun H' m' st => SqT.of (st.fr _ _ h2 h1)⟩
  · rename_i z; cases z; cases e
    cases r with
    | ktp h1 h3 => exact ⟨_, _, rfl, h3, fun H' m' st => .inr h1⟩
  · rename_i z; cases z; cases e
    cases r with
    | ftp h1 hz h2 h3 => exact ⟨_, _, rfl, h3, fun H' m' st => .inl (.inr ⟨_, st.fr _ _ h2 h1⟩)⟩
  · cases e
theorem seqP_cases {x : PV} {xs : List PV} (e : seqP x = some xs) : tupOf (.p x) = some xs ∨ (x = .fl xs ∨ x = .fz xs) := by
  unfold seqP at e
  split at e <;> first | (cases e; exact .inl rfl) | (cases e; exact .inr (.inl rfl)) | (cases e; exact .inr (.inr rfl)) | cases e
theorem d_ien (hg : Gl X "enumerate") (hm : X.mg "enumerate" = none) (ha : DA X E [e] ga) (hs : starEach [e] X.env = [(false, eval e X.env)] := by rfl) : DI X E (.Tuple elts kk tpos) (.Call (.Name "enumerate" p) [e] [] pos) (iEn ga) := by
  refine PI.of (pi_enumT hg hm ha hs) fun σ H R ⟨m, h, es, w, r, p⟩ => ⟨m, h, es, w, r, p.bind fun xs h1 vs H1 m1 s1 w1 r1 p1 => ?_⟩
  split at p1
  · rename_i n
    split at p1
    · rename_i ys eh
      obtain ⟨v, rfl, a, ea, rfl⟩ := RSs.one r1
      obtain ⟨us, q, _⟩ := w1.at_ n _ a eh ea
      exact ⟨a, rfl, .inl ⟨⟨us, SqL.of q⟩, p1.okI w1 (iter_enR ea _)⟩⟩
    · exact p1.elim
  · rename_i x
    obtain ⟨v, rfl, rx⟩ := RSs.one r1
    split at p1
    · rename_i ys ey
      rcases seqP_cases ey with e | e | e
      · obtain ⟨a, us, rfl, ra, q⟩ := sqT_stp rx e
        exact ⟨a, rfl, .inr ⟨⟨us, q _ _ (.refl _ _)⟩, p1.okI w1 (iter_enT q ra _)⟩⟩
      · subst e
        cases (show RP _ _ _ _ _ from rx) with
        | fl h1 h2 h3 => exact ⟨_, rfl, .inl ⟨⟨_, SqL.of h1⟩, p1.okI w1 (iter_enL (.inl ⟨.inl h1, h2⟩) h3 _)⟩⟩
      · subst e
        cases (show RP _ _ _ _ _ from rx) with
        | fz h1 h3 => exact ⟨_, rfl, .inl ⟨⟨_, h1.sq⟩, p1.okI w1 (iter_enL h1 h3 _)⟩⟩
    · exact p1.elim
  · exact p1.elim
/-! ### zip of two tuples, of two lists -/
def nxtZ (xs ys : List PV) : Nxt := fun i _ => match xs[i]?, ys[i]? with
  | some x, some y => some (some (.p (.tup [x, y])))
  | _, _ => some none
def lstP : PV → Option (List PV)
  | .fl xs => some xs
  | .fz xs => some xs
  | _ => none
def iZp (ga : MA) : MI := fun es h => (ga es h).bind fun xs h1 => match xs with
  | [.p x, .p y] => match tupOf (.p x), tupOf (.p y) with
    | some xs, some ys => .ok (nxtZ xs ys, xs.length + 1) h1
    | _, _ => match lstP x, lstP y with
      | some xs, some ys => .ok (nxtZ xs ys, xs.length + 1) h1
      | _, _ => .bad
  | _ => .bad
theorem iter_zpT {a b : Addr} {xs ys : List PV} {vs us : List V} (q : ∀ H' m', Stp m H m' H' → SqT K H' a vs) (q2 : ∀ H' m', Stp m H m' H' → SqT K H' b us) (r : RPs K m H xs vs) (r2 : RPs K m H ys us) (k : Nat) : IterOk K m H (nxtZ xs ys, k) (RZ.ItzT K a b) := by
  intro m' H' h' st w i
  have q' := q _ _ st
  have q2' := q2 _ _ st
  have r' := r.stp st
  have r2' := r2.stp st
  show match nxtZ xs ys i h' with | none => True | some none => _ | some (some y) => _
  unfold nxtZ
  cases e1 : xs[i]? with
  | none => exact ⟨vs, us, q', q2', .inl (by rw [← r'.len]; exact List.getElem?_eq_none_iff.mp e1)⟩
  | some x =>
    cases e2 : ys[i]? with
    | none => exact ⟨vs, us, q', q2', .inr (by rw [← r2'.len]; exact List.getElem?_eq_none_iff.mp e2)⟩
    | some y =>
      obtain ⟨v, ev, rv⟩ := r'.get e1
      obtain ⟨u, eu, ru⟩ := r2'.get e2
      refine ⟨⟨vs, us, v, u, q', q2', ev, eu⟩, fun t H'' hy => ?_⟩
      obtain ⟨T, x, y, rfl, hT, rfl, h1, h2⟩ := hy
      have z1 := h1 vs q'
      have z2 := h2 us q2'
      rw [ev] at z1
      rw [eu] at z2
      cases z1
      cases z2
      exact pair_new w rv ru hT
theorem iter_zpL {a b : Addr} {xs ys : List PV} {vs us : List V} (q : ∀ H' m', Stp m H m' H' → SqL K H' a vs) (q2 : ∀ H' m', Stp m H m' H' → SqL K H' b us) (r : RPs K m H xs vs) (r2 : RPs K m H ys us) (k : Nat) : IterOk K m H (nxtZ xs ys, k) (Itz K a b) := by
  intro m' H' h' st w i
  have q' := q _ _ st
  have q2' := q2 _ _ st
  have r' := r.stp st
  have r2' := r2.stp st
  show match nxtZ xs ys i h' with | none => True | some none => _ | some (some y) => _
  unfold nxtZ
  cases e1 : xs[i]? with
  | none => exact ⟨vs, us, q', q2', .inl (by rw [← r'.len]; exact List.getElem?_eq_none_iff.mp e1)⟩
  | some x =>
    cases e2 : ys[i]? with
    | none => exact ⟨vs, us, q', q2', .inr (by rw [← r2'.len]; exact List.getElem?_eq_none_iff.mp e2)⟩
    | some y =>
      obtain ⟨v, ev, rv⟩ := r'.get e1
      obtain ⟨u, eu, ru⟩ := r2'.get e2
      refine ⟨⟨vs, us, v, u, q', q2', ev, eu⟩, fun t H'' hy => ?_⟩
      obtain ⟨T, x, y, rfl, hT, rfl, h1, h2⟩ := hy
      have z1 := h1 vs q'
      have z2 := h2 us q2'
      rw [ev] at z1
      rw [eu] at z2
      cases z1
      cases z2
      exact pair_new w rv ru hT
theorem sqL_stp {x : PV} {v : V} {xs : List PV} (r : RP K m H x v) (e : lstP x = some xs) : ∃ a vs, v = .ref a ∧ RPs K m H xs vs ∧ ∀ H' m', Stp m H m' H' → SqL K H' a vs := by
  unfold lstP at e
  split at e
  · cases e
    cases r with
    | fl h1 h2 h3 => exact ⟨_, _, rfl, h3, fun H' m' st => SqL.of (st.fr _ _ h2 h1)⟩
  · cases e
    cases r with
    | fz h1 h3 => exact ⟨_, _, rfl, h3, fun H' m' st => (h1.stp st).sq⟩
  · cases e
theorem d_izp (hg : Gl X "zip") (hm : X.mg "zip" = none) (ha : DA X E [e, e2] ga)
    (hs : starEach [e, e2] X.env = (false, eval e X.env) :: starEach [e2] X.env := by rfl) (hpl : (backTo pos (starEach [e2] X.env)).any (·.1) = false := by rfl) : DI X E (.Tuple elts kk tpos) (.Call (.Name "zip" p) [e, e2] [] pos) (iZp ga) := by
  refine PI.of (RZ.pi_zipA hg hm ha hs hpl) fun σ H R ⟨m, h, es, w, r, p⟩ => ⟨m, h, es, w, r, p.bind fun xs h1 vs H1 m1 s1 w1 r1 p1 => ?_⟩
  split at p1
  · rename_i x y
    obtain ⟨v, u, rfl, rx, ry⟩ := RSs.two r1
    split at p1
    · rename_i xs ys e1 e2
      obtain ⟨a, us, rfl, ra, q⟩ := sqT_stp rx e1
      obtain ⟨b, ws, rfl, rb, q2⟩ := sqT_stp ry e2
      exact ⟨a, b, us, ws, rfl, .inr ⟨q _ _ (.refl _ _), q2 _ _ (.refl _ _), p1.okI w1 (iter_zpT q q2 ra rb _)⟩⟩
    · split at p1
      · rename_i xs ys e1 e2
        obtain ⟨a, us, rfl, ra, q⟩ := sqL_stp rx e1
        obtain ⟨b, ws, rfl, rb, q2⟩ := sqL_stp ry e2
        exact ⟨a, b, us, ws, rfl, .inl ⟨q _ _ (.refl _ _), q2 _ _ (.refl _ _), p1.okI w1 (iter_zpL q q2 ra rb _)⟩⟩
      · exact p1.elim
  · exact p1.elim
end
end EV

-- E14
/-! E14: sorted, tuple(list) told whole, tuple.index, dict.setdefault, dict.update. -/
namespace L2
open PySem PySem.Spec PyProof.Rows
section
variable {X : Cx}
/-- tuple(list), the new tuple told with its object -/
theorem call_tupleF : CallR X (.type "tuple") (fun xs H Q => ∃ p ys, xs = [.ref p] ∧ SqL X.K H p ys ∧ ∀ l o, H l = none → o.dict = none → Q (.ref l) (upd H l (.frz o (.tup ys)))) := by
  intro pins s σ H xs us Q I r h
  obtain ⟨p, ys, rfl, hq, q⟩ := h
  obtain ⟨u, rfl, rx⟩ := vals1 r
  cases rx
  obtain ⟨its, r', pl, hz⟩ := I.list hq
  have hlen := r'.length
  refine call_tuple_list pl.isList (fun h' kp => ?_) (by simp only [List.size_toArray] <;> omega)
  have I1 : Inv X pins σ H { s with heap := h' } := I.kept (t' := s.toks) kp
  have I2 : Inv X pins σ (upd H h'.objs.size (.frz { cls := .type "tuple", data := .seq its.toArray } (.tup ys))) { s with heap := h'.push { cls := .type "tuple", data := .seq its.toArray } } :=
    I1.laid (t' := s.toks) (fun b o e => Heap.get?_push_of_some _ e) (Nat.le_refl _) (show ObjOk X.prog X.w _ _ _ (.frz _ (.tup ys)) from ⟨Heap.get?_push_size _ rfl, hz, its, r', IsTup.new _ _⟩)
  exact ⟨.ref h'.objs.size, _, I2, rfl, q _ _ (I1.hok.fresh (Nat.le_refl _)) rfl⟩
theorem flat_intsV (ys : List Int) : (ys.map V.int).all flatV = true := by
  rw [List.all_map]
  exact List.all_eq_true.mpr fun _ _ => rfl
/-- t.index(x) of ints, the first place -/
def rTupIx (K : PySem.W.Frag) : V → List V → Hp → VK → Prop := fun x xs H Q => ∃ p, ∃ ys : List Int, ∃ z j, x = .ref p ∧ xs = [.int z] ∧ SqT K H p (ys.map V.int) ∧ ys[j]? = some z ∧ (∀ m, m < j → ys[m]? ≠ some z) ∧ Q (.int (j : Nat)) H
theorem mt_tup_indexI : MtR X "tuple.index" (rTupIx X.K) := by
  intro pins s σ H x xs v us Q I rx rs h
  obtain ⟨p, ys, z, j, rfl, rfl, hq, hy, hno, q⟩ := h
  cases rx
  obtain ⟨u, rfl, t, rfl⟩ := vals1 rs
  obtain ⟨its, r, pl, hz⟩ := I.tuple hq
  obtain ⟨⟨cls, dd, dt, sl⟩, ho, hc, n, hd⟩ := pl
  simp only at hc hd
  subst hc
  subst hd
  have hl : its.toArray.size = ys.length := by rw [List.size_toArray, ← r.length, List.length_map]
  have hj : j < its.toArray.size := by rw [hl]; exact (List.getElem?_eq_some_iff.mp hy).1
  have at' : ∀ (m : Nat) (hm : m < its.toArray.size), ∃ y t', ys[m]? = some y ∧ its.toArray[m] = Value.int y t' := fun m hm => by
    have hm' : m < ys.length := by rw [← hl]; exact hm
    obtain ⟨w, hw, t', hw'⟩ := r.get (i := m) (x := .int ys[m]) (by simp [hm'])
    refine ⟨ys[m], t', List.getElem?_eq_getElem hm', ?_⟩
    have e := (List.getElem?_eq_some_iff.mp hw).2
    rw [← hw', ← e]
    simp
  refine call_meets PySem.F.slot_tuple_index ⟨_, ho, rfl⟩ PySem.F.entry_tuple_index (PySem.F.args_tuple_index_2 _ _) (TI.tuple_indexAt p its.toArray n dd sl (.int z t) (eqU (.int z)) j hj ?_ ?_)
    ⟨ho, fun w hw => mem_eqAt (x := .int z) ⟨t, rfl⟩ rfl r (flat_intsV ys) w (by simpa using hw), ⟨.int (j : Nat), H, I.tok _, ⟨_, rfl⟩, q⟩⟩
  · obtain ⟨y, t', h1, h2⟩ := at' j hj
    rw [hy] at h1
    cases h1
    rw [h2]
    show (z == z) = true
    exact beq_self_eq_true z
  · intro m hm hmj
    obtain ⟨y, t', h1, h2⟩ := at' m hm
    rw [h2]
    show (y == z) = false
    exact beq_eq_false_iff_ne.mpr fun e => hno m hmj (e ▸ h1)
end
end L2
namespace EV
open PySem PySem.Spec L2
section
variable {X : Cx} {E : XK} {e : Expr} {K : PySem.W.Frag} {m m' : List Addr} {H H' : Hp} {h h' : List EO} {pos : Pos}
/-! ### sorted -/
def intKs : List Key → Option (List Int)
  | [] => some []
  | .inl i :: r => (intKs r).map (i :: ·)
  | .inr _ :: _ => none
theorem intKs_is : ∀ {ks : List Key} {ns : List Int}, intKs ks = some ns → ks = ns.map Sum.inl
  | [], _, e => by cases e; rfl
  | .inl i :: r, ns, e => by
    simp only [intKs, Option.map_eq_some_iff] at e
    obtain ⟨l, e, rfl⟩ := e
    rw [List.map_cons, intKs_is e]
def sortI (ns : List Int) : List Int := ns.mergeSort fun a b => decide (a ≤ b)
theorem sortI_the {ns ys : List Int} (p : ys.Perm ns) (o : ys.Pairwise (· ≤ ·)) : ys = sortI ns := by
  refine List.Perm.eq_of_pairwise (le := fun a b => a ≤ b) (fun a b _ _ h1 h2 => Int.le_antisymm h1 h2) o ?_ (p.trans (List.mergeSort_perm ns _).symm)
  have := List.pairwise_mergeSort (le := fun a b : Int => decide (a ≤ b)) (fun a b c h1 h2 => by simp only [decide_eq_true_eq] at *; omega) (fun a b => by simp only [Bool.or_eq_true, decide_eq_true_eq]; omega) ns
  exact this.imp fun h => of_decide_eq_true h
def PsD : List PV → Option (List (PV × PyData))
  | [] => some []
  | x :: r => match toD x, PsD r with
    | some d, some ds => some ((x, d) :: ds)
    | _, _ => none
open Classical in
noncomputable def sortDs (xs : List PV) : Option (List PV) := match PsD xs with
  | some bs => if PySem.W.AllAlike (bs.map (·.2)) ∧ PySem.W.Sortable (bs.map (·.2)) ∧ bs.length ≤ sizeLine ∧ (∀ b ∈ bs, b.2.depth ≤ 64) then some ((bs.mergeSort (PySem.W.dataLe false (·.2))).map (·.1)) else none
  | none => none
noncomputable def sortK (mu : Bool) (x : SV) (h : List EO) : Res SV := match dctOf h x with
  | some (.k kvs) => match intKs (kvs.map (·.1)) with
    | some ns => if ns.length < 64 then mkL mu ((sortI ns).map fun i => .p (.int i)) h else .bad
    | none => .bad
  | some (.t _) => .bad
  | none => match lstOf h x with
    | some xs => match allP xs with
      | some ps => match sortDs ps with
        | some qs => mkL mu (qs.map .p) h
        | none => .bad
      | none => .bad
    | none => .bad
abbrev rSortAll (K : PySem.W.Frag) : List V → Hp → VK → Prop := fun xs H Q => (∃ (a : Addr) (kvs : List (Key × V)) (ks : List Int), xs = [.ref a] ∧ Rd H a (.dK kvs) ∧ kvs.map (·.1) = ks.map Sum.inl ∧ ks.length < 64 ∧
    ∀ (ys : List Int) (p : Addr), ys.Perm ks → ys.Pairwise (· ≤ ·) → H p = none → Q (.ref p) (upd H p (.lst (ys.map V.int)))) ∨ rSortD K xs H Q
theorem c_sort (hc : X.calm = true) (hu : X.A.units + 67 < cLine) : CallR X (.builtin "sorted") (rSortAll X.K) := (call_sortedDI hc).or (cr_sortD hu)
/-- the items with their data and their values -/
theorem PsD_tri : ∀ {xs : List PV} {vs : List V} {bs : List (PV × PyData)}, PsD xs = some bs → RPs K m H xs vs → ∃ L : List ((PV × V) × PyData), L.map (fun l => (l.1.1, l.2)) = bs ∧ L.map (fun l => l.1.1) = xs ∧ L.map (fun l => l.1.2) = vs ∧ ∀ l ∈ L, RP K m H l.1.1 l.1.2 ∧ Dp K H l.1.2 l.2
  | [], _, _, e, .nil => by cases e; exact ⟨[], rfl, rfl, rfl, by simp⟩
  | x :: r, _, _, e, .cons (v := v) q t => by
    unfold PsD at e
    split at e
    · rename_i d ds e1 e2
      cases e
      obtain ⟨L, h1, h2, h3, h4⟩ := PsD_tri e2 t
      refine ⟨((x, v), d) :: L, by simp [h1], by simp [h2], by simp [h3], fun l hl => ?_⟩
      rcases List.mem_cons.mp hl with rfl | hl
      · exact ⟨q, toD_is e1 q⟩
      · exact h4 l hl
    · cases e
theorem RPs.ofL : ∀ {L : List ((PV × V) × PyData)}, (∀ l ∈ L, RP K m H l.1.1 l.1.2) → RPs K m H (L.map fun l => l.1.1) (L.map fun l => l.1.2)
  | [], _ => .nil
  | l :: L, h => .cons (h l List.mem_cons_self) (RPs.ofL fun l hl => h l (List.mem_cons_of_mem _ hl))
theorem RSs.ints : ∀ {ns : List Int}, RSs K m H (ns.map fun i => SV.p (.int i)) (ns.map V.int)
  | [] => .nil
  | _ :: _ => .cons (show RP _ _ _ _ _ from .int _) RSs.ints
theorem r_sort (mu : Bool) : DoC K E (rSortAll K) (f1 (sortK mu)) := do1 fun x h v m H Q w r p => by
  unfold sortK at p
  split at p
  · rename_i kvs ed
    obtain ⟨a, rfl, ws, h1, h2, h3⟩ := dct_is w r ed
    split at p
    · rename_i ns en
      split at p
      · rename_i hl
        refine .inl ⟨a, ws, ns, rfl, .inl h1, by rw [h2, intKs_is en], hl, fun ys p0 hp ho hn => ?_⟩
        rw [sortI_the hp ho]
        exact (mkL_ok w RSs.ints p).2 p0 hn
      · exact p.elim
    · exact p.elim
  · exact p.elim
  · split at p
    · rename_i xs ex
      obtain ⟨a, vs, rfl, q, ra⟩ := lst_is w r ex
      split at p
      · rename_i ps ep
        split at p
        · rename_i qs eq
          unfold sortDs at eq
          split at eq
          · rename_i bs eb
            split at eq
            · rename_i hc
              cases eq
              obtain ⟨hal, hso, hlen, hdp⟩ := hc
              obtain ⟨L, l1, l2, l3, l4⟩ := PsD_tri eb (allP_rel ep ra)
              have eB : L.map (·.2) = bs.map (·.2) := by rw [← l1, List.map_map]; rfl
              have s1 : (bs.mergeSort (PySem.W.dataLe false (·.2))).map (·.1) = (L.mergeSort (PySem.W.dataLe false (·.2))).map (fun l => l.1.1) := by
                rw [← l1, ← List.map_mergeSort (r := PySem.W.dataLe false fun l : (PV × V) × PyData => l.2) (f := fun l : (PV × V) × PyData => (l.1.1, l.2)) (fun a _ b _ => rfl), List.map_map]; rfl
              have s2 : ((L.map fun l => (l.1.2, l.2)).mergeSort (PySem.W.dataLe false (·.2))).map (·.1) = (L.mergeSort (PySem.W.dataLe false (·.2))).map (fun l => l.1.2) := by
                rw [← List.map_mergeSort (r := PySem.W.dataLe false fun l : (PV × V) × PyData => l.2) (f := fun l : (PV × V) × PyData => (l.1.2, l.2)) (fun a _ b _ => rfl), List.map_map]; rfl
              have e2 : (L.map fun l => (l.1.2, l.2)).map (·.2) = bs.map (·.2) := by rw [← eB, List.map_map]; rfl
              refine .inr ⟨a, L.map fun l => (l.1.2, l.2), rfl, ?_, ?_, by rw [e2]; exact hal, by rw [e2]; exact hso, ?_, ?_, fun p0 hn => ?_⟩
              · rw [List.map_map]
                have : L.map ((fun b : V × PyData => b.1) ∘ fun l => (l.1.2, l.2)) = vs := by rw [← l3]; rfl
                rw [this]
                exact SqL.of q
              · intro b hb
                obtain ⟨l, hl, rfl⟩ := List.mem_map.mp hb
                exact (l4 l hl).2
              · rw [List.length_map]
                have := congrArg List.length l1
                rw [List.length_map] at this
                omega
              · intro b hb
                obtain ⟨l, hl, rfl⟩ := List.mem_map.mp hb
                have : (l.1.1, l.2) ∈ bs := by rw [← l1]; exact List.mem_map.mpr ⟨l, hl, rfl⟩
                exact hdp _ this
              · rw [s2]
                rw [s1] at p
                refine (mkL_ok w (RSs.ofP (RPs.ofL fun l hl => (l4 l ?_).1)) p).2 p0 hn
                exact (List.mergeSort_perm L _).mem_iff.mp hl
            · cases eq
          · cases eq
        · exact p.elim
      · exact p.elim
    · exact p.elim
/-! ### tuple(list), told whole -/
def tupFK (x : SV) (h : List EO) : Res SV := match lstOf h x with
  | some xs => match allP xs with
    | some ys => .ok (.p (.ftp ys)) h
    | none => .bad
  | none => .bad
theorem r_tupF : DoC K E (fun xs H Q => ∃ p ys, xs = [.ref p] ∧ SqL K H p ys ∧ ∀ l o, H l = none → o.dict = none → Q (.ref l) (upd H l (.frz o (.tup ys)))) (f1 tupFK) := do1 fun x h v m H Q w r p => by
  unfold tupFK at p
  split at p
  · rename_i xs e
    split at p
    · rename_i ys e2
      obtain ⟨a, vs, rfl, q, ra⟩ := lst_is w r e
      exact ⟨a, vs, rfl, SqL.of q, fun l o hl ho => p _ _ _ (Stp.new w hl) (w.fresh hl) (show RP _ _ _ _ _ from .ftp upd_same ho (w.new hl) ((allP_rel e2 ra).stp (Stp.new w hl)))⟩
    · exact p.elim
  · exact p.elim
/-! ### t.index(x) -/
def mTupIx : FM := fun x xs h => match tupOf x, xs with
  | some ys, [.p (.int z)] => match allInt (ys.map .p) with
    | some ns => if z ∈ ns then .ok (.p (.int (ns.idxOf z : Nat))) h else .bad
    | none => .bad
  | _, _ => .bad
theorem r_tupIx : DoM K E (rTupIx K) mTupIx := by
  intro x xs h v vs m H Q w rx rs p
  unfold mTupIx at p
  split at p
  · rename_i ys z e
    obtain ⟨a, us, rfl, q, ra⟩ := tup_is rx e
    obtain ⟨u, rfl, ru⟩ := rs.one
    cases (show RP _ _ _ _ _ from ru)
    split at p
    · rename_i ns en
      split at p
      · rename_i hz
        refine ⟨a, ns, z, ns.idxOf z, rfl, rfl, by rw [← allInt_rel en (.ofP ra)]; exact q, ?_, fun k hk e => ?_, p.okP w (.int _)⟩
        · rw [List.getElem?_eq_getElem (List.idxOf_lt_length_of_mem hz)]
          rw [List.getElem_idxOf]
        · obtain ⟨h1, h2⟩ := List.getElem?_eq_some_iff.mp e
          have := List.not_of_lt_findIdx (p := fun y => y == z) (xs := ns) (i := k) (by simpa [List.idxOf] using hk)
          simp [h2] at this
      · exact p.elim
    · exact p.elim
  · exact p.elim
/-! ### d.setdefault(k, v), d.update(e) -/
def mSetd : FM := fun x xs h => match x, xs with
  | .ref n, [y, z] => match h[n]? with
    | some (.dic kvs) => match keyOf y with
      | some k => if kvs.length < sizeLine then (match dkLook kvs k with
        | some u => .ok u h
        | none => .ok z (h.set n (.dic (dkPut kvs k z)))) else .bad
      | none => .bad
    | some (.dit kvs) => match tkeyOf y with
      | some k => if kvs.length < sizeLine then (match dkLook kvs k with
        | some u => .ok u h
        | none => .ok z (h.set n (.dit (dkPut kvs k z)))) else .bad
      | none => .bad
    | _ => .bad
  | _, _ => .bad
theorem r_setd : DoM K E rSetd mSetd := by
  intro x xs h v vs m H Q w rx rs p
  unfold mSetd at p
  split at p
  · rename_i n y z
    obtain ⟨vy, vz, rfl, ry, rz⟩ := rs.two
    obtain ⟨a, ea, rfl⟩ := rx
    split at p
    · rename_i kvs eh
      obtain ⟨ws, q, e1, rr⟩ := w.at_ n _ a eh ea
      split at p
      · rename_i k ek
        split at p
        · rename_i hl
          have hwl : ws.length < sizeLine := by
            have := congrArg List.length e1
            simp at this
            omega
          have lk := look_is (k := k) e1 rr
          refine ⟨a, _, _, rfl, rfl, .inl ⟨ws, k, q, key_is ry ek, hwl, fun u hu => ?_, fun hn => ?_⟩⟩
          · cases hd : dkLook kvs k with
            | none => rw [hd] at lk; rw [show valV ws k = none from lk] at hu; cases hu
            | some x =>
              rw [hd] at lk p
              obtain ⟨v, e2, r2⟩ := lk
              rw [e2] at hu
              cases hu
              exact p.ok_ (R := RS K) w r2
          · cases hd : dkLook kvs k with
            | some x => rw [hd] at lk; obtain ⟨v, e2, r2⟩ := lk; rw [e2] at hn; cases hn
            | none =>
              rw [hd] at p
              obtain ⟨p1, p2⟩ := put_is rz (k := k) e1 rr
              exact p _ _ _ (.write ea) (w.write (o := .dic (dkPut kvs k z)) ea ⟨putK ws k vz, upd_same, p1, p2.stp (.write ea)⟩) (rz.stp (.write ea))
        · exact p.elim
      · exact p.elim
    · rename_i kvs eh
      obtain ⟨ws, q, e1, rr⟩ := w.at_ n _ a eh ea
      split at p
      · rename_i k ek
        split at p
        · rename_i hl
          have hwl : ws.length < sizeLine := by
            have := congrArg List.length e1
            simp at this
            omega
          have lk := look_is (k := k) e1 rr
          obtain ⟨b, rfl, hb⟩ := tkey_is ry ek
          refine ⟨a, _, _, rfl, rfl, .inr ⟨ws, k, b, q, rfl, hb, hwl, fun u hu => ?_, fun hn => ?_⟩⟩
          · cases hd : dkLook kvs k with
            | none => rw [hd] at lk; rw [show valV ws k = none from lk] at hu; cases hu
            | some x =>
              rw [hd] at lk p
              obtain ⟨v, e2, r2⟩ := lk
              rw [e2] at hu
              cases hu
              exact p.ok_ (R := RS K) w r2
          · cases hd : dkLook kvs k with
            | some x => rw [hd] at lk; obtain ⟨v, e2, r2⟩ := lk; rw [e2] at hn; cases hn
            | none =>
              rw [hd] at p
              obtain ⟨p1, p2⟩ := put_is rz (k := k) e1 rr
              exact p _ _ _ (.write ea) (w.write (o := .dit (dkPut kvs k z)) ea ⟨putK ws k vz, upd_same, p1, p2.stp (.write ea)⟩) (rz.stp (.write ea))
        · exact p.elim
      · exact p.elim
    · exact p.elim
  · exact p.elim
def dkMerge (kvs more : List (Key × SV)) : List (Key × SV) := more.foldl (fun acc kv => dkPut acc kv.1 kv.2) kvs
theorem merge_is : ∀ {more : List (Key × SV)} {wm : List (Key × V)} {kvs : List (Key × SV)} {ws : List (Key × V)}, ws.map (·.1) = kvs.map (·.1) → RSs K m H (kvs.map (·.2)) (ws.map (·.2)) → wm.map (·.1) = more.map (·.1) → RSs K m H (more.map (·.2)) (wm.map (·.2)) →
    (mergeKK ws wm).map (·.1) = (dkMerge kvs more).map (·.1) ∧ RSs K m H ((dkMerge kvs more).map (·.2)) ((mergeKK ws wm).map (·.2))
  | [], [], _, _, e, r, _, _ => ⟨e, r⟩
  | (k, x) :: more, (k', v) :: wm, kvs, ws, e, r, e2, .cons q t => by
    simp only [List.map_cons, List.cons.injEq] at e2
    obtain ⟨rfl, e2⟩ := e2
    obtain ⟨p1, p2⟩ := put_is q (k := k') e r
    exact merge_is (more := more) (wm := wm) p1 p2 e2 t
def mUpd : FM := fun x xs h => match x, xs with
  | .ref n, [.p (.fd ks vs)] => match h[n]? with
    | some (.dic kvs) => if kvs.length + ks.length ≤ sizeLine then .ok (.p .non) (h.set n (.dic (dkMerge kvs (ks.zip (vs.map .p))))) else .bad
    | _ => .bad
  | _, _ => .bad
theorem r_upd : DoM K E rUpdD mUpd := by
  intro x xs h v vs m H Q w rx rs p
  unfold mUpd at p
  split at p
  · rename_i n ks xs
    obtain ⟨u, rfl, ru⟩ := rs.one
    obtain ⟨a, ea, rfl⟩ := rx
    split at p
    · rename_i kvs eh
      obtain ⟨ws, q, e1, rr⟩ := w.at_ n _ a eh ea
      split at p
      · rename_i hl
        cases (show RP _ _ _ _ _ from ru) with
        | fd h1 h2 h3 h4 =>
          rename_i b wm
          have hlk : ks.length = (xs.map SV.p).length := by rw [← h3, List.length_map, List.length_map, h4.len, List.length_map]
          have hab : a ≠ b := fun z => h2 (by rw [← z]; exact List.mem_of_getElem? ea)
          obtain ⟨p1, p2⟩ := merge_is (more := ks.zip (xs.map .p)) (wm := wm) e1 rr (by rw [List.map_fst_zip (by omega), h3]) (by rw [List.map_snd_zip (by omega)]; exact .ofP h4)
          have l1 : ws.length = kvs.length := by simpa using congrArg List.length e1
          have l2 : wm.length = ks.length := by simpa using congrArg List.length h3
          exact ⟨a, b, ws, wm, rfl, rfl, q, h1, hab, by omega, p.wr w ea ⟨mergeKK ws wm, upd_same, p1, p2.stp (.write ea)⟩⟩
      · exact p.elim
    · exact p.elim
  · exact p.elim
end
end EV

-- E15
/-! E15: a def, a class as they stand behind the top; short words for the printed derivations. -/
namespace EV
open PySem PySem.Spec L2 PyProof.Rows
/-- a def of the program that keeps its promise -/
def Fnc (P : Program) (w : World) (K : PySem.W.Frag) (mg : Str → Option Value) (base : Heap) (k : Nat) (x : Str) (np : Nat) (mir : MF) : Prop :=
  ∃ (f : Addr) (fd : FuncData) (ps : List Str), FnOk P w K mg base (L2.CX P w) k f fd ps (spM K np mir) ∧ mg x = some (.ref f) ∧ PySem.W.keepIn K (.ref f) = true ∧ Binds K fd ps []
/-- a class that is made by its __init__ -/
def Mkc (P : Program) (w : World) (K : PySem.W.Frag) (mg : Str → Option Value) (base : Heap) (k : Nat) (x : Str) (C : Addr) (np : Nat) (mir : MF) : Prop :=
  ∃ (f : Addr) (fd : FuncData) (ps : List Str), Mk K C f ∧ FnOk P w K mg base (L2.CX P w) k f fd ps (spM K np mir) ∧ mg x = some (.ref C) ∧ Binds K fd ps []
abbrev cEq : F2 := opData PyData.eqv
abbrev cNe : F2 := opData fun d e => !PyData.eqv d e
theorem u1 {a : Nat} (h : a + 67 < cLine) : a + 1 < cLine := by omega
theorem u64 {a : Nat} (h : a + 67 < cLine) : a + 64 < cLine := by omega
theorem u65 {a : Nat} (h : a + 67 < cLine) : a + 65 < cLine := by omega
theorem u_room {k : Nat} {A : Around} (r : Room k A) : A.units + 67 < cLine := by have := r.un; omega
section
variable {X : Cx} {E : XK} {x : Str} {e : Expr} {es : List Expr} {ga : MA} {p pos : Pos} {k j : Nat} {C : Addr} {np n : Nat} {mir : MF}
theorem d_callF (mu : Bool) (F : Fnc X.prog X.w X.K X.mg X.base j x np mir) (hr : Room k X.A) (hx : Passes (L2.CX X.prog X.w) X E) (hg : Gl X x) (ha : DA X E (e :: es) ga) (hl : ALen ga np) (hj : j ≤ k := by decide) (hdb : (x == ("__debug__" : Str)) = false := by decide)
    (he : starEach (e :: es) X.env = (false, eval e X.env) :: starEach es X.env := by rfl) (hpl : (backTo pos (starEach es X.env)).any (·.1) = false := by rfl) :
    DE X E (.Call (.Name x p) (e :: es) [] pos) (eCallM mu mir ga) := by
  obtain ⟨f, fd, ps, F, hm, hk, hb⟩ := F
  exact d_call mu F (hr.mono hj) hg hm hk hb hx ha hdb he hpl hl
theorem d_callF0 (mu : Bool) (F : Fnc X.prog X.w X.K X.mg X.base j x 0 mir) (hr : Room k X.A) (hx : Passes (L2.CX X.prog X.w) X E) (hg : Gl X x) (hj : j ≤ k := by decide) (hdb : (x == ("__debug__" : Str)) = false := by decide) :
    DE X E (.Call (.Name x p) [] [] pos) (eCallM mu mir aNil) := by
  obtain ⟨f, fd, ps, F, hm, hk, hb⟩ := F
  exact d_call0 mu F (hr.mono hj) hg hm hk hb hx hdb
theorem d_makeF (mu : Bool) (F : Mkc X.prog X.w X.K X.mg X.base j x C np mir) (hr : Room k X.A) (hx : Passes (L2.CX X.prog X.w) X E) (hg : Gl X x) (ha : DA X E (e :: es) ga) (hl : ALen ga n) (hn : n + 1 = np := by rfl) (hj : j + 1 ≤ k := by decide) (hdb : (x == ("__debug__" : Str)) = false := by decide)
    (he : starEach (e :: es) X.env = (false, eval e X.env) :: starEach es X.env := by rfl) (hpl : (backTo pos (starEach es X.env)).any (·.1) = false := by rfl) :
    DE X E (.Call (.Name x p) (e :: es) [] pos) (eCallM mu (mkM C mir) ga) := by
  obtain ⟨f, fd, ps, M, F, hm, hb⟩ := F
  exact d_make mu M F (hr.mono hj) hg hm hb hx ha hdb he hpl hl hn
/-- x in a body: what a callee may raise is taken -/
theorem pass_body {P : Program} {w : World} {K : PySem.W.Frag} {mg : Str → Option Value} {base : Heap} {N : List Str} {qual : Str} {scope : Scope} {f : Addr} {cd : Value} {A : Around} {outer : List Env} {s : Shared} {H : Hp} {E : XK} :
    Passes (L2.CX P w) (cxOf (L2.CX P w) P w K mg base N qual scope f cd A outer s H E) E := passes_call (takes_of rfl rfl rfl rfl) fun _ _ _ _ h => h
theorem own_body {P : Program} {w : World} {K : PySem.W.Frag} {mg : Str → Option Value} {base : Heap} {N : List Str} {qual : Str} {scope : Scope} {f : Addr} {cd : Value} {A : Around} {outer : List Env} {s : Shared} {H : Hp} {E : XK} :
    PassesOwn (model P w) (cxOf (L2.CX P w) P w K mg base N qual scope f cd A outer s H E).A (cxOf (L2.CX P w) P w K mg base N qual scope f cd A outer s H E).env (cxOf (L2.CX P w) P w K mg base N qual scope f cd A outer s H E).xe := passes_of (X := cxOf (L2.CX P w) P w K mg base N qual scope f cd A outer s H E) rfl
end
end EV

-- E16
/-! E16: an own exception whose __init__ says super().__init__('X'), made and raised. -/
namespace PySem
namespace SUPX
open PySem.W PySem.Calls PyProof.Rows PySem.HandSPX
/-- what stands of the class C, its __init__ at fI and the text of that -/
structure SupI (prog : Program) (K : Frag) (mg : Str → Option Value) (C fI : Addr) (sf : Str) (msg : Str) : Prop where
  iC : findIn K (.ref C) "__init__" = some (some (.ref fI))
  tI : typeIn K (.ref fI) = some (.type "function")
  fn : ∃ (oc : Value) (od : Option Addr) (osl : Array (Option Value)) (qual : Str) (params : Arguments) (body : List Stmt) (scope : Scope) (kV doc pm ct : Value) (an : Option Addr) (cda cc : Addr),
    K.lookup fI = some ⟨oc, od, .func (ksFn "__init__" qual params body scope .none kV doc pm an (.ref cda) ct cc), osl⟩ ∧ codeIn K (.ref cda) qual = true ∧
    (∃ ccl cdd vs ccs file tf, K.lookup cda = some ⟨ccl, cdd, .fields vs, ccs⟩ ∧ vs[2]? = some (.str file tf) ∧ ((prog.main.file : Str) == file) = true) ∧
    (∃ cl cld csl, K.lookup cc = some ⟨cl, cld, .cell (some (.ref C)), csl⟩) ∧
    (∃ p0 p1 p2 j p3 p4 p5, body = [.Expr (.Call (.Attribute (.Call (.Name "super" p0) [] [] p1) "__init__" p2) [.Constant (.str msg) j p3] [] p4) p5] ∧
      ∀ env, ∃ pl : Sem Bool, eval (.Call (.Attribute (.Call (.Name "super" p0) [] [] p1) "__init__" p2) [.Constant (.str msg) j p3] [] p4) env = (do
        let ov ← attributeBase (.Call (.Name "super" p0) [] [] p1) "__init__" env (eval (.Call (.Name "super" p0) [] [] p1) env)
        standAt p2.atName
        let (f, first) ← holding [ov] (getMethod ov "__init__" pl)
        callWith p4 f first (backTo p4 (starEach [.Constant (.str msg) j p3] env)) [])) ∧
    (∃ ar, (params.posonlyargs ++ params.args).head? = some ar ∧ ar.arg = sf) ∧
    scope.names.lookup ("super" : Str) = some .globalImplicit ∧ scope.names.lookup ("__class__" : Str) = some .free ∧ scope.names.lookup sf = some .local ∧ scope.kind = .function ∧
    (∀ x ∈ scope.names, x.2 ≠ .cell) ∧ scope.isCoroutine = false ∧ scope.isGenerator = false ∧
    (∀ v : Value, bindArgs (ksFn "__init__" qual params body scope .none kV doc pm an (.ref cda) ct cc) ⟨[v], []⟩ = pure [(sf, v)])
  sup : ks_superIn K C C "__init__" = some (some (.builtin "ValueError.__init__"))
  st : nsIn K cStatics "thirdparty.any" = some none
  sub : subIn K (.ref C) (.type "ValueError") = some true
  mro : mroIn K C (.ref C) = some true
  ms : mg "super" = none
  top : (prog.main.scope.names.lookup ("super" : Str)).isSome = false

section
variable {prog : Program} {w : World} {A : Around} {E : Value → Shared → Prop} {h : Heap} {g : Array GenState} {d : Drawn} {t : Nat} {os : OsState} {K : Frag} {mg : Str → Option Value} {C fI : Addr} {sf msg : Str}
theorem cls_ne {e : Addr} {t1 : Addr} {cd : ClassData} (X : K.In h) (he : h.get? e = some (excO C t1)) (hc : clsIn K C = some cd) : e ≠ C := by
  rintro rfl
  unfold clsIn at hc
  split at hc
  · rename_i c d cd' sl ho
    have q := X _ _ ho
    rw [he] at q
    cases q
  · cases hc
/-- __init__ run on the new exception -/
theorem init_run {e t1 : Addr} {R : Result → Shared → Prop} (S : SupI prog K mg C fI sf msg) (T : L2.OexC K C) (X : K.In h) (hg : h.Ns mainGlobals mg) (hb : ∃ mb, h.Ns builtinsNs mb ∧ ∀ x : Str, x ≠ "__name__" → mb x = bootBuiltins x)
    (hlim : h.NoLimit) (hroom : A.depth < recursionLimit) (he : h.get? e = some (excO C t1))
    (hq : ∀ h' tk t2, (∀ b o, b ≠ e → h.get? b = some o → h'.get? b = some o) → h'.get? e = some (excO C t2) → R (.ok (.ret .none)) ⟨h', g, d, tk, os⟩) :
    codeAny (model prog w) A (.call (.ref fI) ⟨[.ref e], []⟩) R ⟨h, g, d, t, os⟩ := by
  obtain ⟨oc, od, osl, qual, params, body, scope, kV, doc, pm, ct, an, cda, cc, lk, hcd, ⟨ccl, cdd, vs, ccs, file, tf, lc, hvs, hfile⟩, ⟨cl, cld, csl, lcell⟩, ⟨p0, p1, p2, j, p3, p4, p5, rfl, hmc⟩, ⟨ar, har, ear⟩, hks, hkc, hka, hk, hcell, hco, hgen, hbind⟩ := S.fn
  obtain ⟨nm, q, N, bs, bm, sn, sub, ab, col, dd, k0, k1, k2, k3, k5, hC, hbm⟩ := T.cls
  have hcl : clsIn K C = some { name := nm, bases := bs, mro := .ref C :: bm, ns := N, qualname := q, hasDict := true, slotNames := sn, subclasses := sub, abstract := ab, collection := col, hasDel := false } := by unfold clsIn; rw [hC] <;> rfl
  refine ks_codeAny_call_defAt (binds := [(sf, .ref e)]) hroom (X _ _ lk) rfl hlim (codeRec_of X hcd) rfl (.of_eq (hbind _)) hcell (fun y hy => ?_) (fun h₁ hns hk₁ => ?_) hco hgen hk
  · rw [List.mem_singleton.mp hy]; exact hka
  have X₁ : K.In h₁ := X.keeps hk₁
  have he₁ := hk₁ _ _ he
  obtain ⟨pl, hmc⟩ := hmc (callEnv (ksFn "__init__" qual params [.Expr (.Call (.Attribute (.Call (.Name "super" p0) [] [] p1) "__init__" p2) [.Constant (.str msg) j p3] [] p4) p5] scope .none kV doc pm an (.ref cda) ct cc) h.objs.size fI)
  refine ks_wpAt_execs_cons (ks_wpAt_Expr_any (ks_wpAt_MethodCall (pl := pl) ?_ hmc) (by first | rfl | (unfold interactive; simp [callEnv, newEnv, hk]) | (unfold interactive; rw [show (callEnv _ _ _).scope.kind = _ from hk]; rfl)))
  obtain ⟨mb, hb1, hb2⟩ := hb
  refine ks_wpAt_super_base hks hkc (by decide) rfl (X₁ _ _ lk) rfl har rfl (X₁ _ _ lc) rfl hvs hfile S.top ?_
  refine ks_loadName_global hk hks (loadGlobal_builtin (hg.keeps hk₁) S.ms (hb1.keeps hk₁) ((hb2 "super" (by decide)).trans (by first | rfl | kernel_rfl)) ⟨rfl, ?_⟩)
  refine wpAny_loadName_free hk hkc rfl ⟨_, X₁ _ _ lcell, rfl⟩ ?_
  rw [ear]
  refine wpAny_loadName_local hk hka hns (v := .ref e) (by simp) ?_
  refine ks_wpAny_isType_cls (X₁ _ _ hC) rfl ⟨rfl, ?_⟩
  refine ks_wpAny_call_super (X₁ _ _ hC) rfl he₁ rfl (fun c z => by cases z) (looks_mroIn X₁ S.mro) (fun h₂ hso k₂ => ?_)
  have X₂ : K.In h₂ := X₁.keeps k₂
  have he₂ := k₂ _ _ he₁
  have hsup : alongIn K "__init__" (((Value.ref C :: bm).dropWhile (· != .ref C)).drop 1) = some (some (.builtin "ValueError.__init__")) := by
    have := S.sup
    unfold ks_superIn at this
    rw [hcl] at this
    exact this
  have I₂ : InstAt h₂ e (excO C t1) C none := ⟨he₂, rfl, rfl, trivial⟩
  refine kxs_getMethod kxs_ValueError hso (looks_opaque X₂ S.st) (l₀ := .ref C :: bm) ?_ rfl X₂ hsup (I₂.type.andThen (looks_subIn X₂ S.sub)) (cls_ne X₂ he₂ hcl) (by decide) ?_
  · exact fun A Q E s k q => wpAny_bind ((looks_clsIn X₂ hcl) A _ E s k (wpAny_pure q))
  have hu : (h₂.push (kxs_mw "ValueError.__init__" e)).get? h₂.objs.size = some (kxs_mw "ValueError.__init__" e) := Heap.get?_push_at rfl rfl
  have he₃ : (h₂.push (kxs_mw "ValueError.__init__" e)).get? e = some (excO C t1) := Heap.get?_push_of_some _ he₂
  have X₃ : K.In (h₂.push (kxs_mw "ValueError.__init__" e)) := X₂.keeps fun b o q => Heap.get?_push_of_some _ q
  refine kxs_callWith (i := "ValueError.__init__") (x := e) rfl (evalArgs_plain (spliced_cons (Calls.Constant_str (k := j) (pos := p3) (spliced_nil ⟨hu, ?_⟩))))
  refine wpAny_call (codeAny_of_tree ?_)
  show wpAny _ _ (callAny (.ref h₂.objs.size) _) _ _ _
  simp only [callAny]
  refine wpAny_bind (wpAny_load hu ?_)
  simp only [kxs_mw, show (Value.type "method-wrapper" == Value.type "method" || Value.type "method-wrapper" == Value.type "builtin_function_or_method" || Value.type "method-wrapper" == Value.type "method-wrapper") = true by decide, if_true]
  refine KFB.if_so (by decide) ?_
  refine wpAny_bind (check_bound_init F.excBase_ValueError.toExcCallFacts (X₃ _ _ hC) he₃ rfl ?_)
  refine wpAny_bind (wpAny_pure (wpAny_pure ?_))
  refine ⟨plainId_quiet F.excBase_ValueError.init.plain _, codeAny_builtin F.excBase_ValueError.initEntry ?_⟩
  refine exc_init_tree (t0 := t1) (dv := none) (c2 := .none) (c3 := .none) (b4 := .bool false) he₃ (by simp [sizeLine_eq]) (fun h₄ k₄ e₄ _ => ?_)
  refine wpAt_of_wpAny (wpAny_execs_nil ?_)
  exact hq h₄ _ _ (fun b o nb q => k₄ b o nb (Heap.get?_push_of_some _ (k₂ _ _ (hk₁ _ _ q)))) e₄
end
end SUPX
end PySem
namespace L2
open PySem PySem.Spec PyProof.Rows
section
variable {X : Cx} {p pos : Pos}
/-- C(), its __init__ saying super().__init__('X') and no more -/
theorem pmk_sup0 {x : Str} {C fI : Addr} {sf msg : Str} (T : OexC X.K C) (S : PySem.SUPX.SupI X.prog X.K X.mg C fI sf msg) (hr : Room 1 X.A) (hg : Gl X x) (hm : X.mg x = some (.ref C)) (hdb : (x == ("__debug__" : Str)) = false := by decide) :
    PMk X (.Call (.Name x p) [] [] pos) (fun σ H Q => Q (.ref C) none H) := by
  intro pins s σ H Q I h
  obtain ⟨nm, q, N, bs, bm, sn, sub, ab, col, dd, k0, k1, k2, k3, k5, hC, hbm⟩ := T.cls
  refine wpAny_Call_Name_kw (ld_glob I hg hm ?_ hdb)
  refine PySem.W.callWith_K0 I.kIn T.kC ?_
  obtain ⟨hp, g, dr, tk, os⟩ := s
  have kk : ∀ b o, hp.get? b = some o → ((hp.push (PySem.W.kdv_tup [])).push (PySem.HandSPX.excO C hp.objs.size)).get? b = some o := fun b o e => Heap.get?_push_of_some _ (Heap.get?_push_of_some _ e)
  have hget : ((hp.push (PySem.W.kdv_tup [])).push (PySem.HandSPX.excO C hp.objs.size)).get? (hp.objs.size + 1) = some (PySem.HandSPX.excO C hp.objs.size) := by heap_get
  obtain ⟨mb, h1, h2⟩ := I.mod.blt
  refine wpAny_call (PySem.HandSPX.call_own F.excBase_ValueError (fun Y => PySem.HandSPX.refsVE_contains Y bm hbm) (I.kIn _ _ hC) (PySem.W.looks_findIn I.kIn S.iC) (fun self => PySem.W.bind_fn I.kIn self S.tI) (by simp)
    (PySem.SUPX.init_run (mg := X.mg) S T (I.kIn.keeps kk) ((I.mod.glob.keeps I.bk).keeps kk) ⟨mb, (h1.keeps I.bk).keeps kk, h2⟩ (I.nolimit.keeps kk) ?_ hget fun h' tk2 t2 k e => ?_))
  · have := hr.dp
    first | exact (hr.make C [] []).depth | (show X.A.depth < recursionLimit; omega)
  · refine ⟨rfl, ?_⟩
    have hk : ∀ b o, hp.get? b = some o → h'.get? b = some o := fun b o q => k b o (Nat.ne_of_lt (Nat.lt_of_lt_of_le (Heap.lt_size q) (Nat.le_succ _))) (kk b o q)
    have hnone : hp.get? (hp.objs.size + 1) = none := by
      cases z : hp.get? (hp.objs.size + 1) with
      | none => rfl
      | some o => exact absurd (Heap.lt_size z) (Nat.not_lt.mpr (Nat.le_succ _))
    refine ⟨hp.objs.size + 1, _, _, ⟨hp, g, dr, tk, os⟩, H, .ref C, none, rfl, I, hk, hnone, e, ⟨rfl, rfl⟩, rfl, rfl, I.hok.fresh (Nat.le_succ _), rfl, I.bare, raises_own T.exC T.tyC, h⟩
end
end L2

-- E17
/-! E17: sorted(d.items()) of tuple keys and ints, repr of data, tuple(range(n)). -/
namespace L2
open PySem PySem.Spec PyProof.Rows
def kdD : L2.Key → PyData
  | .inl i => .int i
  | .inr x => .str x
def itD (e : List L2.Key × Int) : PyData := .tuple [.tuple (e.1.map kdD), .int e.2]
abbrev itE (e : List L2.Key × Int) : List L2.Key × V := (e.1, V.int e.2)
/-- keys tuples, values ints: the pairs by their data -/
def rSortItI : List V → Hp → VK → Prop := fun vs H Q => ∃ (p a : Addr) (ks : List (List L2.Key × Int)), vs = [.ref p] ∧ H p = some (DX.itemsO p a) ∧ H a = some (.dT (ks.map itE)) ∧ ks.length ≤ 1000 ∧
  PySem.W.AllAlike (ks.map itD) ∧
  ∀ (H' : Hp) (l : Addr) (ps : List (Addr × List L2.Key × Int)), (∀ b o, H b = some o → H' b = some o) → ps.map (·.2) = ks.mergeSort (PySem.W.dataLe false itD) → H l = none → H' l = some (.lst (ps.map fun z => V.ref z.1)) →
    (∀ z ∈ ps, H z.1 = none ∧ ∃ q, H' z.1 = some (.tup [.ref q, .int z.2.2]) ∧ H q = some (.tup (z.2.1.map kV))) → Q (.ref l) H'
theorem reads_keys {h : Heap} : ∀ {ks : List L2.Key} {vs : List Value}, Vals (ks.map kV) vs → ReadsAll h vs (ks.map kdD) []
  | [], _, r => by cases r; exact .nil
  | k :: ks, _, r => by
    rw [List.map_cons] at r
    cases r with
    | cons q t =>
      refine .cons (as := []) (bs := []) ?_ (reads_keys t)
      cases k with
      | inl i => obtain ⟨t, rfl⟩ := (show ∃ t, _ = Value.int i t from q); exact .int i t
      | inr x => obtain ⟨t, rfl⟩ := (show ∃ t, _ = Value.str x t from q); exact .str x t
theorem zip_snd {α β : Type} : ∀ {as : List α} {bs : List β}, as.length = bs.length → (as.zip bs).map (·.2) = bs
  | [], [], _ => rfl
  | _ :: as, _ :: bs, h => by simp [zip_snd (show as.length = bs.length by simpa using h)]
  | [], _ :: _, h => by simp at h
  | _ :: _, [], h => by simp at h
theorem eachIs_zip {α : Type} : ∀ {as : List Addr} {bs : List α}, as.length = bs.length → PySem.W.EachIs (fun (u : Value) (z : Addr × α) => u = .ref z.1) (as.map Value.ref) (as.zip bs)
  | [], [], _ => .nil
  | _ :: as, _ :: bs, h => .cons rfl (eachIs_zip (show as.length = bs.length by simpa using h))
  | [], _ :: _, h => by simp at h
  | _ :: _, [], h => by simp at h
theorem eachIs_ref {α : Type} : ∀ {us : List Value} {zs : List (Addr × α)}, PySem.W.EachIs (fun (u : Value) (z : Addr × α) => u = .ref z.1) us zs → us = zs.map fun z => Value.ref z.1
  | _, _, .nil => rfl
  | _, _, .cons h t => by rw [List.map_cons, ← eachIs_ref t, h]
theorem cr_sortItI {X : Cx} (hc : X.calm = true) (hu : X.A.units + 67 < cLine) : CallR X (.builtin "sorted") rSortItI := by
  intro pins s σ H xs us Q I r h
  obtain ⟨p, a, ks, rfl, hp, ha, hlen, hal, q⟩ := h
  obtain rfl := Vals.ref1 r
  have view : s.heap.IsItemsView p a := (show ObjOk X.prog X.w H s.heap p (DX.itemsO p a) from I.hok p _ hp).1
  obtain ⟨z, hd, xs', rel, o, es, ep, ho, hx, hdat, hes, his, hn⟩ := dt_of I.hok ha
  have l1 : (ks.map itE).length = xs'.length := Paired.length rel
  rw [List.length_map] at l1
  have l2 : es.size = xs'.length := size_of_entries hes
  have hh : X.A.handled = none := I.ok.hd hc
  refine DT.sortedI (es := es) (ep := ep) hh view ⟨o, ho, hx, hdat⟩ (by rw [sizeLine_eq]; omega) fun h' tk as hk hlt hl hG => ?_
  have lak : as.length = ks.length := by omega
  have nd : as.Nodup := List.Pairwise.imp (fun h => Nat.ne_of_lt h) hG.rise
  have pr : ∀ (j : Nat) (b : Addr), as[j]? = some b → ∃ (e : List L2.Key × Int) (kq : Addr) (t : Tok), ks[j]? = some e ∧ H kq = some (.tup (e.1.map kV)) ∧ h'.get? b = some { cls := .type "tuple", data := .seq #[Value.ref kq, Value.int e.2 t] } := by
    intro j b hj
    obtain ⟨en, he, hg⟩ := hG.pairs j b hj
    rw [entry_at hes j] at he
    cases hxj : xs'[j]? with
    | none =>
      rw [hxj] at he
      exact nomatch (show (none : Option DictEntry) = some en from he)
    | some x =>
      rw [hxj] at he
      have een : entryOfKey (tupleKind (mixKind X.prog X.w)) x = en := Option.some.inj he
      obtain ⟨e0, he0, r1, r2, r3⟩ := DX.pget rel hxj
      rw [List.getElem?_map] at he0
      cases hkj : ks[j]? with
      | none =>
        rw [hkj] at he0
        exact nomatch (show (none : Option (List L2.Key × V)) = some e0 from he0)
      | some e =>
        rw [hkj] at he0
        have ee : itE e = e0 := Option.some.inj he0
        rw [← ee] at r2 r3
        obtain ⟨t, r3'⟩ := (show ∃ t, x.2.2 = Value.int e.2 t from r3)
        refine ⟨e, x.2.1, t, rfl, r2, ?_⟩
        rw [hg, ← een, ← r3']
        all_goals rfl
  have hob : (h'.push { cls := .type "list", data := .seq (as.map Value.ref).toArray }).get? h'.objs.size = some (seqObj "list" (as.map Value.ref).toArray 0) := Heap.get?_push_size _ rfl
  have kb : ∀ b o, s.heap.get? b = some o → (h'.push { cls := .type "list", data := .seq (as.map Value.ref).toArray }).get? b = some o := fun b o e => Heap.get?_push_of_some _ (hk b o e)
  have ne0 : ∀ b o, h'.get? b = some o → b ≠ h'.objs.size := fun b o e => Nat.ne_of_lt (Heap.lt_size e)
  generalize hh2 : h'.push { cls := .type "list", data := .seq (as.map Value.ref).toArray } = h2 at hob kb ⊢
  have ka : ∀ b o, h'.get? b = some o → h2.get? b = some o := fun b o e => by rw [← hh2]; exact Heap.get?_push_of_some _ e
  have idx : ∀ z ∈ as.zip ks, ∃ j : Nat, as[j]? = some z.1 ∧ ks[j]? = some z.2 := by
    intro z' hz'
    obtain ⟨j, hj⟩ := List.mem_iff_getElem?.mp hz'
    exact ⟨j, List.getElem?_zip_eq_some.mp hj⟩
  have er : PySem.W.EachIs (fun v (z : Addr × List L2.Key × Int) => ∃ bs, Reads h2 v (itD z.2) bs ∧ h'.objs.size ∉ bs) (as.map Value.ref) (as.zip ks) := by
    refine PySem.W.EachIs.of_zip (by rw [List.length_map, List.length_zip, lak]; exact (Nat.min_self _).symm) fun pz hpz => ?_
    obtain ⟨j, hj⟩ := List.mem_iff_getElem?.mp hpz
    obtain ⟨g1, g2⟩ := List.getElem?_zip_eq_some.mp hj
    obtain ⟨g3, g4⟩ := List.getElem?_zip_eq_some.mp g2
    rw [List.getElem?_map, g3] at g1
    have e1 : Value.ref pz.2.1 = pz.1 := Option.some.inj g1
    obtain ⟨e, kq, t, he, hkq, hg⟩ := pr j _ g3
    have ee : e = pz.2.2 := Option.some.inj (he.symm.trans g4)
    obtain ⟨_, its, rv, ot, hot, hct, nt, hdt⟩ := (show ObjOk X.prog X.w H s.heap kq (.tup (e.1.map kV)) from I.hok kq _ hkq)
    refine ⟨[], ?_, by simp⟩
    rw [← e1, ← ee]
    exact .tuple (ka _ _ hg) rfl rfl (.cons (as := []) (bs := []) (.tuple (kb _ _ hot) hct hdt (reads_keys (by simpa using rv))) (.cons (as := []) (bs := []) (.int _ _) .nil))
  have mz : (as.zip ks).map (fun z => itD z.2) = ks.map itD := by rw [← zip_snd lak, List.map_map, zip_snd lak]; rfl
  refine PySem.W.list_sort_data (enc := fun z : Addr × List L2.Key × Int => itD z.2) (R := fun u z => u = .ref z.1) (bs := as.zip ks) hob (eachIs_zip lak) er (by rw [mz]; exact hal) ?_ (by rw [List.length_zip, lak, sizeLine_eq]; omega) (fun b hb => ?_) fun out ho eo => ?_
  · left
    rw [mz]
    intro d hd
    obtain ⟨e, _, rfl⟩ := List.mem_map.mp hd
    exact ⟨_, _, rfl⟩
  · have dk : ∀ ls : List L2.Key, PyData.depthAll (ls.map kdD) ≤ 1 := by
      intro ls
      induction ls with
      | nil => simp [PyData.depthAll]
      | cons k ls ih =>
        cases k <;> (simp only [List.map_cons, kdD, PyData.depthAll, PyData.depth]; omega)
    have h1 := dk b.2.1
    show X.A.units + 1 + 1 + (itD b.2).depth < cLine
    simp only [itD, PyData.depth, PyData.depthAll]
    omega
  · show EP X pins σ Q (.ref h'.objs.size) { s with heap := sortedHeap h2 h'.objs.size (as.map Value.ref) (List.toArray out), toks := tk }
    generalize hzs : (as.zip ks).mergeSort (PySem.W.dataLe false fun z : Addr × List L2.Key × Int => itD z.2) = zs at eo
    have hperm : zs.Perm (as.zip ks) := by rw [← hzs]; exact List.mergeSort_perm _ _
    have hout := eachIs_ref eo
    have hms : zs.map (·.2) = ks.mergeSort (PySem.W.dataLe false itD) := by
      rw [← hzs]
      have := List.map_mergeSort (r := PySem.W.dataLe false fun z : Addr × List L2.Key × Int => itD z.2) (s := PySem.W.dataLe false itD) (f := fun z : Addr × List L2.Key × Int => z.2) (l := as.zip ks) (fun a _ b _ => rfl)
      rw [this, zip_snd lak]
    have kF : ∀ b o, b ≠ h'.objs.size → h2.get? b = some o → (sortedHeap h2 h'.objs.size (as.map Value.ref) (List.toArray out)).get? b = some o := fun b o hb e => (PyProof.Rows.sortedHeap_old hb (Heap.lt_size e)).trans e
    have kS : ∀ b o, s.heap.get? b = some o → (sortedHeap h2 h'.objs.size (as.map Value.ref) (List.toArray out)).get? b = some o := fun b o e => kF b o (ne0 _ _ (hk b o e)) (kb b o e)
    obtain ⟨eF, heF⟩ := PyProof.Rows.sortedHeap_at (vs := as.map Value.ref) (out := List.toArray out) hob
    have I1 : Inv X pins σ H { s with heap := sortedHeap h2 h'.objs.size (as.map Value.ref) (List.toArray out), toks := tk } := I.kept (t' := tk) kS
    have hn0 : H h'.objs.size = none := I.hok.fresh (Nat.le_of_lt hlt)
    have hlz : (zs.map fun z => V.ref z.1).length ≤ sizeLine := by
      have e := hperm.length_eq
      rw [List.length_zip] at e
      rw [List.length_map, sizeLine_eq]
      omega
    have rv : Vals (zs.map fun z => V.ref z.1) out := by
      rw [hout]
      exact vals_maps (fun z : Addr × List L2.Key × Int => V.ref z.1) (fun z => Value.ref z.1) zs fun _ _ => rfl
    have I2 : Inv X pins σ (upd H h'.objs.size (.lst (zs.map fun z => V.ref z.1))) { s with heap := sortedHeap h2 h'.objs.size (as.map Value.ref) (List.toArray out), toks := tk } :=
      I1.take (h' := sortedHeap h2 h'.objs.size (as.map Value.ref) (List.toArray out)) (t' := tk) (fun b ob _ e => e) (I.fpOk (Nat.le_of_lt hlt) hn0) ⟨hlz, out, eF, rv, heF⟩
    obtain ⟨H2, I3, g, qt⟩ := DX.takeT (P := fun b vs => ∃ (j : Nat) (e : List L2.Key × Int) (kq : Addr), as[j]? = some b ∧ ks[j]? = some e ∧ vs = [.ref kq, .int e.2] ∧ H kq = some (.tup (e.1.map kV))) I as _ I2 nd fun b hb => by
      obtain ⟨j, hj⟩ := List.mem_iff_getElem?.mp hb
      obtain ⟨e, kq, t, he, hkq, hg⟩ := pr j b hj
      have hbl : s.heap.objs.size ≤ b := Nat.le_of_lt (hG.above b hb)
      refine ⟨hbl, ?_, [.ref kq, .int e.2], ⟨j, e, kq, hj, he, rfl, hkq⟩, fun H3 => ⟨(by rw [sizeLine_eq]; show 2 ≤ 16777216; omega), [Value.ref kq, Value.int e.2 t], .cons rfl (.cons ⟨t, rfl⟩ .nil), ⟨_, kF _ _ (ne0 _ _ hg) (ka _ _ hg), rfl, 0, rfl⟩⟩⟩
      rw [upd_ne (ne0 _ _ hg)]
      exact I.hok.fresh hbl
    have gr : ∀ b o, H b = some o → H2 b = some o := fun b o e => g b o (by rw [upd_ne (ne_of_none e hn0)]; exact e)
    refine ⟨.ref h'.objs.size, H2, I3, rfl, q H2 h'.objs.size zs gr hms hn0 (g _ _ upd_same) fun z' hz' => ?_⟩
    obtain ⟨i, i1, i2⟩ := idx z' (hperm.mem_iff.mp hz')
    obtain ⟨vs, ⟨j, e, kq, j1, j2, ev, hkq⟩, hH⟩ := qt z'.1 (List.mem_of_getElem? i1)
    have eij : i = j := (List.getElem?_inj (List.getElem?_eq_some_iff.mp i1).1 nd).mp (i1.trans j1.symm)
    subst eij
    have ee : e = z'.2 := Option.some.inj (j2.symm.trans i2)
    rw [ev, ee] at hH
    rw [ee] at hkq
    exact ⟨I.hok.fresh (Nat.le_of_lt (hG.above _ (List.mem_of_getElem? i1))), kq, hH, hkq⟩
theorem vals1' {x : V} {us : List Value} (r : Vals [x] us) : ∃ u, us = [u] ∧ RelV x u := by
  cases r with
  | cons q t => cases t; exact ⟨_, rfl, q⟩
/-- repr of data -/
def rRepr (K : PySem.W.Frag) : List V → Hp → VK → Prop := fun xs H Q => ∃ (x : V) (d : PyData), xs = [x] ∧ Dp K H x d ∧ d.showable = true ∧ d.hasDict = false ∧ d.depth ≤ 64 ∧ d.shown.length ≤ sizeLine ∧ Q (.str d.shown) H
theorem c_repr {X : Cx} (hu : X.A.units + 67 < cLine) (hg : X.A.guards = some []) : CallR X (.builtin "repr") (rRepr X.K) := by
  intro pins s σ H xs us Q I r h
  obtain ⟨x, d, rfl, hd, hs, hnd, hdp, hsz, q⟩ := h
  obtain ⟨u, rfl, rx⟩ := vals1' r
  obtain ⟨as, rd⟩ := Dp.reads I d x u hd rx
  cases hd with
  | non => cases (show u = Value.none from rx); exact PySem.P.repr_of_none ⟨.str _, H, I.tok _, ⟨_, rfl⟩, by simpa [PyData.shown] using q⟩
  | bl b => cases (show u = Value.bool b from rx); exact PySem.P.repr_of_bool ⟨.str _, H, I.tok _, ⟨_, rfl⟩, by simpa [PyData.shown] using q⟩
  | int i => obtain ⟨t, e⟩ := (show ∃ t, u = Value.int i t from rx); cases e; exact PySem.P.repr_of_int (by simpa [PyData.showable] using hs) ⟨.str _, H, I.tok _, ⟨_, rfl⟩, by simpa [PyData.shown] using q⟩
  | str y => obtain ⟨t, e⟩ := (show ∃ t, u = Value.str y t from rx); cases e; exact PySem.P.repr_of_str ⟨.str _, H, I.tok _, ⟨_, rfl⟩, by simpa [PyData.shown] using q⟩ (by simpa [PyData.shown] using hsz)
  | lst a b =>
    cases (show u = Value.ref _ from rx)
    exact PySem.repr_of_reads' rd hs (fun z => by rw [hnd] at z; cases z) hg (by omega) (fun _ _ e => e) (fun h' u tk k => ⟨.str _, H, I.kept (t' := tk) k, ⟨_, rfl⟩, q⟩) hsz
  | tup a b =>
    cases (show u = Value.ref _ from rx)
    exact PySem.repr_of_reads' rd hs (fun z => by rw [hnd] at z; cases z) hg (by omega) (fun _ _ e => e) (fun h' u tk k => ⟨.str _, H, I.kept (t' := tk) k, ⟨_, rfl⟩, q⟩) hsz
end L2
namespace EV
open PySem PySem.Spec L2 PyProof.Rows
section
variable {X : Cx} {E : XK} {e o : Expr} {K : PySem.W.Frag} {m m' : List Addr} {H H' : Hp} {h h' : List EO} {pos pos' p p2 apos cpos : Pos} {fa fo : ME}
theorem Wd.notTup (w : Wd K m h H) {a : Addr} {vs : List V} (e : H a = some (.tup vs)) : a ∉ m := by
  intro q
  obtain ⟨n, hn, ea⟩ := List.mem_iff_getElem.mp q
  have h1 : n < h.length := by rw [← w.len]; exact hn
  have r := w.at_ n h[n] a (List.getElem?_eq_getElem h1) (by rw [List.getElem?_eq_getElem hn, ea])
  revert r
  cases h[n] with
  | lst xs => rintro ⟨_, q, _⟩; rw [e] at q; cases q
  | dic xs => rintro ⟨_, q, _⟩; rw [e] at q; cases q
  | dit xs => rintro ⟨_, q, _⟩; rw [e] at q; cases q
  | ins C xs => rintro ⟨_, _, q, _⟩; rw [e] at q; cases q
  | tab P z => rintro ⟨_, q, _⟩; rw [e] at q; cases q
/-! ### sorted(d.items()) -/
def kPV : Key → PV
  | .inl i => .int i
  | .inr x => .str x
def itP (e : List Key × Int) : PV := .tup [.tup (e.1.map kPV), .int e.2]
def itemsI : List (List Key × SV) → Option (List (List Key × Int))
  | [] => some []
  | (k, .p (.int i)) :: r => (itemsI r).map ((k, i) :: ·)
  | _ :: _ => none
theorem itemsI_is : ∀ {kvs : List (List Key × SV)} {ws : List (List Key × V)} {es : List (List Key × Int)}, itemsI kvs = some es → ws.map (·.1) = kvs.map (·.1) → RSs K m H (kvs.map (·.2)) (ws.map (·.2)) → ws = es.map itE
  | [], [], _, e, _, _ => by cases e; rfl
  | (k, .p (.int i)) :: r, (k', v) :: ws, es, e, en, .cons q t => by
    simp only [itemsI, Option.map_eq_some_iff] at e
    obtain ⟨l, e, rfl⟩ := e
    simp only [List.map_cons, List.cons.injEq] at en
    obtain ⟨rfl, en⟩ := en
    cases (show RP _ _ _ _ _ from q)
    rw [List.map_cons, itemsI_is e en t]
open Classical in
noncomputable def sortIt (x : SV) (h : List EO) : Res SV := match x with
  | .ref n => match h[n]? with
    | some (.dit kvs) => match itemsI kvs with
      | some es => if es.length ≤ 1000 ∧ PySem.W.AllAlike (es.map itD) then .ok (.p (.fl ((es.mergeSort (PySem.W.dataLe false itD)).map itP))) h else .bad
      | none => .bad
    | _ => .bad
  | _ => .bad
noncomputable def eSortIt (fo : ME) : ME := fun es h => (fo es h).bind fun x h1 => sortIt x h1
theorem keysP : ∀ (ks : List Key), RPs K m H (ks.map kPV) (ks.map kV)
  | [] => .nil
  | .inl i :: ks => .cons (.int i) (keysP ks)
  | .inr x :: ks => .cons (.str x) (keysP ks)
theorem pairsP {H1 : Hp} (hm : ∀ b o, H1 b = some o → H b = some o) (w : Wd K m h H1) (hn : ∀ z, H1 z = none → z ∉ m) : ∀ {ps : List (Addr × List Key × Int)}, (∀ z ∈ ps, H1 z.1 = none ∧ ∃ q, H z.1 = some (.tup [.ref q, .int z.2.2]) ∧ H1 q = some (.tup (z.2.1.map kV))) → RPs K m H ((ps.map (·.2)).map itP) (ps.map fun z => V.ref z.1)
  | [], _ => .nil
  | z :: ps, hz => by
    obtain ⟨h1, q, h2, h3⟩ := hz z List.mem_cons_self
    exact .cons (.tup h2 (hn _ h1) (.cons (.tup (hm _ _ h3) (w.notTup h3) (keysP z.2.1)) (.cons (.int _) .nil))) (pairsP hm w hn fun y hy => hz y (List.mem_cons_of_mem _ hy))
theorem d_sortIt (hc : X.calm = true) (hu : X.A.units + 67 < cLine) (hg : Gl X "sorted") (hm : X.mg "sorted" = none) (ho : DE X E o fo) (hbase : attributeBase o "items" X.env (eval o X.env) = eval o X.env := by rfl) (hline : (apos.endLine == cpos.line) = true := by rfl)
    (he : starEach [.Call (.Attribute o "items" apos) [] [] cpos] X.env = (false, eval (.Call (.Attribute o "items" apos) [] [] cpos) X.env) :: starEach [] X.env := by rfl) :
    DE X E (.Call (.Name "sorted" p) [.Call (.Attribute o "items" apos) [] [] cpos] [] pos) (eSortIt fo) :=
  PE.of (pe_callB (cr_sortItI hc hu) hg hm (by decide +kernel) (pa_cons (pe_bg0 PySem.F.plainAttrs_dict PySem.F.slot_dict_items PySem.F.type_dict_items DX.mt_itemsT ho hbase hline) pa_nil he) (by decide) (by decide) he rfl) fun σ H Q ⟨m, h, es, w, r, pp⟩ => by
    refine ⟨m, h, es, w, r, pp.bind fun x h1 v H1 m1 s1 w1 r1 p1 => ?_⟩
    unfold sortIt at p1
    split at p1
    · rename_i n
      split at p1
      · rename_i kvs eh
        obtain ⟨a, ea, rfl⟩ := r1
        obtain ⟨ws, q, en, rr⟩ := w1.at_ n _ a eh ea
        have tg : tyS "dict" (.ref n) h1 = true := by simp [tyS, lstOf, dctOf, eh]
        split at p1
        · rename_i ks ek
          have ews := itemsI_is ek en rr
          split at p1
          · rename_i hh
            obtain ⟨hl, hal⟩ := hh
            refine ⟨ty_is w1 (show RS X.K m1 H1 (.ref n) (.ref a) from ⟨a, ea, rfl⟩) tg, a, ws, rfl, rfl, q, fun pv hpv => ?_⟩
            have stv : Stp m1 H1 m1 (upd H1 pv (DX.itemsO pv a)) := Stp.new w1 hpv
            have wv : Wd X.K m1 h1 (upd H1 pv (DX.itemsO pv a)) := w1.fresh hpv
            refine ⟨pv, a, ks, rfl, upd_same, ?_, hl, hal, fun H' l ps k ems hl0 hl1 hz => ?_⟩
            · rw [upd_ne (ne_of_none q hpv), q, ews]
            · have nm : ∀ z, (upd H1 pv (DX.itemsO pv a)) z = none → z ∉ m1 := fun z e => wv.new e
              have st2 : Stp m1 (upd H1 pv (DX.itemsO pv a)) m1 H' := ⟨⟨[], by simp, by simp⟩, fun b o _ e => k b o e⟩
              have w2 : Wd X.K m1 h1 H' := wv.keep st2 fun b hb => by
                obtain ⟨o, e⟩ := wv.some_at hb
                rw [e, k _ _ e]
              have ip := pairsP k wv nm hz
              rw [ems] at ip
              exact p1 _ _ m1 (stv.trans st2) w2 (show RP _ _ _ _ _ from .fl hl1 (nm l hl0) ip)
          · exact p1.elim
        · exact p1.elim
      · exact p1.elim
    · exact p1.elim
/-! ### tuple(range(n)) -/
def eTrg1 (fa : ME) : ME := fun es h => (fa es h).bind fun x h1 => match x with
  | .p (.int j) => if RgOk 0 j then .ok (.p (.tup (rgS 0 j))) h1 else .bad
  | _ => .bad
theorem d_trg1 {a : Expr} (hc : X.calm = true) (hl : Gl X "tuple") (ml : X.mg "tuple" = none) (hg : Gl X "range") (hm : X.mg "range" = none) (ha : DE X E a fa) (na : starEach [a] X.env = (false, eval a X.env) :: starEach [] X.env := by rfl)
    (na2 : starEach [.Call (.Name "range" p) [a] [] pos'] X.env = (false, eval (.Call (.Name "range" p) [a] [] pos') X.env) :: starEach [] X.env := by rfl) :
    DE X E (.Call (.Name "tuple" p2) [.Call (.Name "range" p) [a] [] pos'] [] pos) (eTrg1 fa) :=
  PE.of (pe_tupRg hc hl ml (prg_1 hg hm ha na) na2) fun σ H Q ⟨m, h, es, w, r, pp⟩ => ⟨m, h, es, w, r, pp.bind fun x h1 v H1 m1 s1 w1 r1 p1 => by
    split at p1
    · cases (show RP _ _ _ _ _ from r1)
      split at p1
      · rename_i ok
        exact ⟨_, rfl, ok, fun q hq => p1 _ _ _ (Stp.new w1 hq) (w1.fresh hq) (show RP _ _ _ _ _ from .tup upd_same (w1.new hq) (rgS_is 0 _))⟩
      · exact p1.elim
    · exact p1.elim⟩
/-! ### repr of data -/
def reprK (x : SV) (h : List EO) : Res SV := match svD h x with
  | some d => if d.showable = true ∧ d.hasDict = false ∧ d.depth ≤ 64 ∧ d.shown.length ≤ sizeLine then .ok (.p (.str d.shown)) h else .bad
  | none => .bad
theorem r_repr : DoC K E (rRepr K) (f1 reprK) := do1 fun x h v m H Q w r p => by
  unfold reprK at p
  split at p
  · rename_i d e
    split at p
    · rename_i hh
      exact ⟨v, d, rfl, svD_is w r e, hh.1, hh.2.1, hh.2.2.1, hh.2.2.2, p.okP w (.str _)⟩
    · exact p.elim
  · exact p.elim
end
end EV

-- E18
/-! E18: raise, a lambda handed to a def that calls it under try. -/
namespace LamY
open PySem PySem.Spec PyProof.Rows L2 LamX
section
variable {X : Cx} {pins : List (Addr × Obj)} {σ : L2.St} {H : Hp} {s : Shared}
/-- what making a lambda does to what is tracked: nothing, or the table grows by a new code object -/
def Grew (H H1 : Hp) (P : Addr) (q : Str) : Prop := H1 = H ∨ ∃ (ps more : Array Value) (c' : Addr), H P = some (.tbl ps) ∧ H c' = none ∧ H1 = upd (upd H P (.tbl (ps ++ more))) c' (CodeO c' q)
theorem lam_make3 {c P : Addr} {params : Arguments} {body : Expr} {scope : Scope} {pos : Pos} {E : Value → Shared → Prop} {Q : Value → Shared → Prop} (I : Inv X pins σ H s) (TB : TabB X.base X.mg c P) (hcode : X.env.code = .ref c)
    (hT : TabS H P (X.env.qual ++ "<lambda>")) (hdef : defaultsOf params X.env = ([], [])) (hfree : ∀ y ∈ scope.names, y.2 = .free → ∃ c, X.env.cells.lookup y.1 = some c)
    (h : ∀ (f c' : Addr) (pm ctv : Value) (H1 : Hp) (s' : Shared), Inv X pins σ H1 s' → Grew H H1 P (X.env.qual ++ "<lambda>") → TabS H1 P (X.env.qual ++ "<lambda>") →
      s'.heap.get? f = some (PySem.W.kla_obj "<lambda>" (X.env.qual ++ "<lambda>") params body scope (cloFrom X.env.cells scope.names []) pm c' ctv) → H1 f = none → f ∉ frs X.stack → H1 c' = some (CodeO c' (X.env.qual ++ "<lambda>")) → Q (.ref f) s') :
    wpAny (model X.prog X.w) X.A (eval (.Lambda params body scope pos) X.env) Q E s := by
  obtain ⟨ps, hP, ht, ha⟩ := hT
  refine PySem.W.kla_eval hdef ?_
  have bP : s.heap.BuiltinsAt X.mg P := TB.bm.keeps I.bk
  have hP' : s.heap.get? P = some { cls := .none, data := .fields ps } := I.hok P _ hP
  have nofr : ∀ f, s.heap.objs.size ≤ f → f ∉ frs X.stack := fun f hf z => by
    rcases List.mem_cons.mp (I.stkSub _ z) with e | e
    · have h1 := I.lt
      rw [← e] at h1
      exact Nat.lt_irrefl _ (Nat.lt_of_lt_of_le h1 hf)
    · exact I.nofs hf e
  cases hc : codeAmong pos ps.toList with
  | none =>
    refine PySem.W.kla_makeFunction (mg := X.mg) (c := c) (P := P) (ps := ps) (closure_ok hfree) I.ok.glob (I.mod.glob.keeps I.bk) hcode (TB.code.keeps I.bk) hP' ht hc TB.gP bP fun c' ctv h' tk hx hge hlt hrec htb => ?_
    obtain ⟨c2, oc, vs, t, e2, hoc, hd, hv⟩ := hrec
    cases e2
    have hsz : s.heap.objs.size ≤ h'.objs.size := Nat.le_trans hge (Nat.le_of_lt hlt)
    have nC : H c' = none := I.hok.fresh hge
    have I1 := inv_table (t' := tk) (more := #[rawInt pos.line, rawInt pos.col, .ref c']) (h' := h'.push (PySem.W.kla_obj "<lambda>" (X.env.qual ++ "<lambda>") params body scope (cloFrom X.env.cells scope.names []) ((X.mg "__name__").getD .none) c' ctv)) I hP
      (fun b o hb e => Heap.get?_push_of_some _ (hx b o hb e)) (Heap.get?_push_of_some _ htb) hge ⟨oc, vs, t, Heap.get?_push_of_some _ hoc, hd, hv⟩
    have eL : (ps ++ #[rawInt pos.line, rawInt pos.col, .ref c']).toList = ps.toList ++ [rawInt pos.line, rawInt pos.col, .ref c'] := by simp
    have keepC : ∀ c0, H c0 = some (CodeO c0 (X.env.qual ++ "<lambda>")) → (upd (upd H P (.tbl (ps ++ #[rawInt pos.line, rawInt pos.col, .ref c']))) c' (CodeO c' (X.env.qual ++ "<lambda>"))) c0 = some (CodeO c0 (X.env.qual ++ "<lambda>")) := fun c0 e => by
      rw [upd_ne (ne_of_none e nC), upd_ne (fun z => codeO_ne ps (Option.some.inj (e.symm.trans (by rw [z]; exact hP))))]
      exact e
    refine h h'.objs.size c' ((X.mg "__name__").getD .none) ctv _ _ I1 (.inr ⟨ps, _, c', hP, nC, rfl⟩) ?_ (Heap.get?_push_size _ rfl) ?_ (nofr _ hsz) upd_same
    · refine ⟨_, by rw [upd_ne (ne_of_none hP nC), upd_same], by rw [eL]; exact PySem.TriplesOk_snoc _ _ _ _ ht, fun p' cv hcv => ?_⟩
      rw [eL] at hcv
      rcases among_app _ ht hcv with z | z
      · obtain ⟨c0, e1, e2⟩ := ha p' cv z
        exact ⟨c0, e1, keepC _ e2⟩
      · exact ⟨c', z, upd_same⟩
    · have n1 : h'.objs.size ≠ c' := Nat.ne_of_gt hlt
      have n2 : h'.objs.size ≠ P := Nat.ne_of_gt (Nat.lt_of_lt_of_le (Heap.lt_size hP') hsz)
      rw [upd_ne n1, upd_ne n2]
      exact I.hok.fresh hsz
  | some cv =>
    obtain ⟨c', e, hco⟩ := ha pos cv hc
    subst e
    refine PySem.W.kla_makeFunctionHit (mg := X.mg) (c := c) (P := P) (ps := ps) (closure_ok hfree) I.ok.glob (I.mod.glob.keeps I.bk) hcode (TB.code.keeps I.bk) hP' ht hc bP fun ctv h' tk hx hsz => ?_
    have I1 : Inv X pins σ H { s with heap := h'.push (PySem.W.kla_obj "<lambda>" (X.env.qual ++ "<lambda>") params body scope (cloFrom X.env.cells scope.names []) ((X.mg "__name__").getD .none) c' ctv), toks := tk } := I.kept fun b o e => Heap.get?_push_of_some _ (hx b o e)
    exact h h'.objs.size c' ((X.mg "__name__").getD .none) ctv H _ I1 (.inl rfl) ⟨ps, hP, ht, ha⟩ (Heap.get?_push_size _ rfl) (I.hok.fresh hsz) (nofr _ hsz) hco
end
def tLam3 (P : Addr) (q : Str) (TT : (XK → Hp → VK → Prop) → Hp → VK → Prop) (t : XK → TE) : TE := fun σ H Q => TabS H P q ∧ ∀ H1, Grew H H1 P q → TabS H1 P q → TT (fun E H' Q' => t E σ H' Q') H1 Q
section
variable {X : Cx}
/-- x(lambda: body) -/
theorem pe_lamcall3 {TT : (XK → Hp → VK → Prop) → Hp → VK → Prop} {x a : Str} {g c P : Addr} {k : Nat} {pg : Arguments} {bg : List Stmt} {sg : Scope} {dV kV doc pm cdv ct oc : Value} {an od : Option Addr} {osl : Array (Option Value)} {Ng : List Str}
    {params : Arguments} {body : Expr} {scope : Scope} {t : XK → TE} {p lpos pos : Pos} (hg : Gl X x) (hm : X.mg x = some (.ref g)) (hk : PySem.W.keepIn X.K (.ref g) = true)
    (lk : X.K.lookup g = some ⟨oc, od, .func (PySem.W.fnOf x x pg bg sg dV kV doc pm an cdv ct), osl⟩) (hcg : PySem.W.codeIn X.K cdv x = true) (hb : L2.Binds X.K (PySem.W.fnOf x x pg bg sg dV kV doc pm an cdv ct) [a] []) (Sg : FnScope Ng [a] sg) (hNg : Ng[0]? = some a) (hva : Vis sg a)
    (hG : GivesTo X Ng x sg g cdv bg a (X.env.qual ++ "<lambda>") TT)
    (TB : TabB X.base X.mg c P) (hcode : X.env.code = .ref c) (hr : Room (k + 2) X.A) (L : LamS X.env.scope scope) (hdef : defaultsOf params X.env = ([], []))
    (hbind : ∀ (q : Str) (cl : List (Str × Addr)) (pm cv ctv : Value), bindArgs (PySem.W.kla_fn "<lambda>" q params body scope cl pm cv ctv) ⟨[], []⟩ = pure [])
    (hbody : ∀ (A : Around) (outer : List Env) (s : Shared) (H : Hp) (E : XK) (f c' : Addr), Room k (A.deeper (lamEnv X scope s.heap.objs.size f c')) → PE (lamCx X A outer s H E scope f c') body (t E))
    (hdb : (x == ("__debug__" : Str)) = false := by decide) (hd : (a == ("__debug__" : Str)) = false := by decide) (hcd : (a == ("__classdict__" : Str)) = false := by decide) :
    PE X (.Call (.Name x p) [.Lambda params body scope lpos] [] pos) (tLam3 P (X.env.qual ++ "<lambda>") TT t) := by
  refine ⟨fun pins s σ H Q I h => ?_⟩
  obtain ⟨hT, h⟩ := h
  refine wpAny_Call_Name_kw (ld_glob I hg hm ?_ hdb)
  refine PySem.W.callWith_K (h₀ := X.base) I.ok.mod.kin hk ?_ (by rfl) (by rfl)
  show wpAny _ _ (spliced ((false, eval (.Lambda params body scope lpos) X.env) :: backTo pos (starEach [] X.env))) _ _ s
  refine Calls.spliced_cons (lam_make3 I TB hcode hT hdef (L.has I.ok) fun f c' pm' ctv H1 s' I1 eN T1 hf hfn hfr hco => ?_)
  refine Calls.spliced_nil ⟨I1.kIn, ?_⟩
  have rc : codeAny (model X.prog X.w) X.A (.call (.ref g) ⟨[.ref f], []⟩) (CR C8.CX0 X.stack X.prog X.w H1 s' Q C8.E0) s' := by
    refine run_ofS (N := Ng) (ps := [a]) (us := [.ref f]) (vs := [.ref f]) lk hcg Sg hr I1.env0 (hb s' [.ref f] I1.kIn rfl) (.cons rfl .nil) rfl fun hr' => ?_
    obtain ⟨t', ht', hq'⟩ := hG f c' s' H1 Q (fun E H' Q' => t E σ H' Q') (fun W pn xe E p1 p2 tk hW => pe_act (i := 0) I1 L hf hfn hfr (hbind _ _ _ _ _) tk hW hr' (fun A outer s H hr2 => hbody A outer s H E f c' hr2) hNg hva hd hcd) hco (h H1 eN T1)
    exact ⟨t', ht'.nox, hq'⟩
  refine wpAny_call (codeAny_mono rc fun r s2 hq => ?_)
  cases r with
  | error e => exact (show False from hq).elim
  | ok fl =>
    cases fl with
    | ret u => exact I1.after hq
    | next => exact False.elim hq
    | brk => exact False.elim hq
    | cont => exact False.elim hq
end
end LamY
namespace LamY
open PySem PySem.Spec PyProof.Rows L2 LamX
section
variable {X : Cx}
/-- try: a() / except CG as error: return isinstance(error, CN) and isinstance(error, ValueError) / return False -/
def TTref (CN : Addr) : (XK → Hp → VK → Prop) → Hp → VK → Prop := fun tl H Q => tl (fun cls d H' => cls = .ref CN ∧ d = none ∧ Q (.bl true) H') H fun _ H1 => Q (.bl false) H1
structure RefC (K : PySem.W.Frag) (CG CN : Addr) : Prop where
  ex : PySem.W.exmOne K (.ref CN) (.ref CG) = some true
  ec : ExcC K CN
  k1 : PySem.W.kitOne K (.ref CN) (.ref CN) = some true
  k2 : PySem.W.kitOne K (.ref CN) (.type "ValueError") = some true
theorem takes_len {W : WX} (tk : Takes X W) : Takes X fun cls d σ H => σ.length = X.N.length → W cls d σ H := fun u s' xx => by
  obtain ⟨a, B, sI, pins, σ, H, cls, d, e, I, nb, up, sky, na, os, ag, w⟩ := xx
  exact tk u s' ⟨a, B, sI, pins, σ, H, cls, d, e, I, nb, up, sky, na, os, ag, w I.len⟩
theorem ref_gives {Ng : List Str} {x a e xe xn q : Str} {sg : Scope} {g CG CN : Addr} {cdg : Value} {j : Nat} {p0 p1 p2 p3 p4 p5 p6 p7 p8 p9 p10 p11 p12 p13 p14 p15 p16 p17 : Pos} (R : RefC X.K CG CN)
    (nd : Ng.Nodup) (h1 : Ng[1]? = some e) (hle : sg.names.lookup e = some .local) (hgx : sg.names.lookup xe = some .globalImplicit) (hgn : sg.names.lookup xn = some .globalImplicit) (hgi : sg.names.lookup ("isinstance" : Str) = some .globalImplicit) (hgv : sg.names.lookup ("ValueError" : Str) = some .globalImplicit)
    (dx : (xe == ("__debug__" : Str)) = false) (dn : (xn == ("__debug__" : Str)) = false) (de : (e == ("__debug__" : Str)) = false) (dce : (e == ("__classdict__" : Str)) = false)
    (mx : X.mg xe = some (.ref CG)) (mn : X.mg xn = some (.ref CN)) (mi : X.mg "isinstance" = none) (mv : X.mg "ValueError" = none)
    (h0 : ∀ f : Addr, L2.start Ng [V.ref f] = [some (.ref f), none]) :
    GivesTo X Ng x sg g cdg [.Try [.Expr (.Call (.Name a p1) [] [] p2) p3] [.ExceptHandler (some (.Name xe p4)) (some e) [.Return (some (.BoolOp .And [.Call (.Name "isinstance" p5) [.Name e p6, .Name xn p7] [] p8, .Call (.Name "isinstance" p9) [.Name e p10, .Name "ValueError" p11] [] p12] p13)) p14] p15] [] [] p16, .Return (some (.Constant (.bool false) j p17)) p0] a q (TTref CN) := by
  intro f c' s H Q tl act hc h
  have hgl : Gl (cxOf C8.CX0 X.prog X.w X.K X.mg X.base Ng x sg g cdg X.A X.stack s H C8.E0).nox xe := hgx
  refine ⟨_, pss_cons (ps_try_as (X := (cxOf C8.CX0 X.prog X.w X.K X.mg X.base Ng x sg g cdg X.A X.stack s H C8.E0).nox) (i := 1) (n := e) (c := .ref CG)
      (tb := fun W D σ H => ∃ Ech : XK, (∀ cls d σ' H', Ech cls d H' → σ'.length = Ng.length → W cls d σ' H') ∧ σ[0]? = some (some (.ref f)) ∧ H c' = some (CodeO c' q) ∧ tl Ech H (fun _ H1 => D.nx σ H1))
      (ts := fun a cls d D σ H => cls = .ref CN ∧ d = none ∧ σ[1]? = some (some (.ref a)) ∧ D.rt (.bl true) H)
      rfl rfl nd h1 hle ⟨hgl, dx, .inl mx⟩ LamX.takes0 (fun W pn xe tk _ => ?_) (fun aE oe cls d pn hz hf => ?_)) (pss_one (ps_ret pe_bl)), ?_⟩
  · refine ⟨fun pins s' σ H' D I h' => ?_⟩
    obtain ⟨Ech, hW, e1, e2, e3⟩ := h'
    have hp := act _ pn xe Ech p1 p2 (takes_len tk) fun cls d σ' H' z hl => hW cls d σ' H' z hl
    have hq := pss_one (ps_expr (pos := p3) hp)
    exact hq.run pins s' σ H' D I ⟨e1, e2, e3⟩
  · refine ⟨fun pins s' σ H' D I h' => ?_⟩
    obtain ⟨rfl, rfl, e1, e2⟩ := h'
    have hY : ((cxOf C8.CX0 X.prog X.w X.K X.mg X.base Ng x sg g cdg X.A X.stack s H C8.E0).nox.suite aE ((aE, oe) :: pn)).env.scope = sg := rfl
    have hp := pss_one (ps_ret (pos := p14) (pe_and (pos := p13) (pe_callB (pos := p8) (p := p5) (call_isE (a := aE) (X := (cxOf C8.CX0 X.prog X.w X.K X.mg X.base Ng x sg g cdg X.A X.stack s H C8.E0).nox) (pn := pn) R.ec hz hf) (show _ from hgi) mi (by decide +kernel) (pa_cons (pe_var (pos := p6) h1 (.inl hle) de dce) (pa_cons (pe_glob (pos := p7) (v := .ref CN) (show _ from hgn) mn rfl dn) pa_nil)))
      (pe_one (pe_callB (pos := p12) (p := p9) (call_isE (a := aE) (X := (cxOf C8.CX0 X.prog X.w X.K X.mg X.base Ng x sg g cdg X.A X.stack s H C8.E0).nox) (pn := pn) R.ec hz hf) (show _ from hgi) mi (by decide +kernel) (pa_cons (pe_var (pos := p10) h1 (.inl hle) de dce) (pa_cons (pe_bltn (pos := p11) (v := .ty "ValueError") (show _ from hgv) mv (by decide +kernel) rfl) pa_nil))))))
    exact hp.run pins s' σ H' D I ⟨_, e1, .ref CN, .ref CN, true, rfl, fun u r => r, R.k1, true, rfl, ⟨_, e1, .ty "ValueError", .type "ValueError", true, rfl, fun u r => r, R.k2, e2⟩⟩
  · refine ⟨fun cls d H' => cls = .ref CN ∧ d = none ∧ Q (.bl true) H', fun cls d σ' H' ⟨z1, z2, z3⟩ hl => ⟨true, by rw [z1]; exact R.ex, fun _ a ha => ⟨z1, z2, ?_, z3⟩, fun z => by cases z⟩, ?_, hc, h⟩
    · have := (List.getElem?_eq_some_iff.mp h1).1
      rw [List.getElem?_set_self (by omega)]
    · rw [h0 f]; rfl
end
end LamY
namespace EV
open PySem PySem.Spec L2 PyProof.Rows
section
variable {K : PySem.W.Frag} {m m' : List Addr} {H H' H1 : Hp} {h h' : List EO}
theorem Wd.notCode (w : Wd K m h H) {a c : Addr} {q : Str} (e : H a = some (LamX.CodeO c q)) : a ∉ m := by
  intro z
  obtain ⟨n, hn, ea⟩ := List.mem_iff_getElem.mp z
  have h1 : n < h.length := by rw [← w.len]; exact hn
  have r := w.at_ n h[n] a (List.getElem?_eq_getElem h1) (by rw [List.getElem?_eq_getElem hn, ea])
  have no : ∀ u : HO, (∀ φ, u ≠ .ext φ) → H a ≠ some u := fun u hu y => hu _ (Option.some.inj (y.symm.trans e))
  revert r
  cases h[n] with
  | lst xs => rintro ⟨_, y, _⟩; exact no _ (fun φ z => by cases z) y
  | dic xs => rintro ⟨_, y, _⟩; exact no _ (fun φ z => by cases z) y
  | dit xs => rintro ⟨_, y, _⟩; exact no _ (fun φ z => by cases z) y
  | ins C xs => rintro ⟨_, _, y, _⟩; exact no _ (fun φ z => by cases z) y
  | tab P x => rintro ⟨_, y, _⟩; exact no _ (fun φ z => by cases z) y
theorem Wd.grew {P : Addr} {q : Str} {n : Nat} (w : Wd K m h H) (eh : h[n]? = some (.tab P q)) (g : LamY.Grew H H1 P q) (t : LamX.TabS H1 P q) : Wd K m h H1 ∧ Stp m H m H1 := by
  have hn : n < m.length := by rw [w.len]; exact (List.getElem?_eq_some_iff.mp eh).1
  obtain ⟨ps0, hp0, eP, _, _⟩ := w.at_ n _ _ eh (List.getElem?_eq_getElem hn)
  have emP : m[n]? = some P := by rw [List.getElem?_eq_getElem hn, eP]
  rcases g with rfl | ⟨ps, more, c', hP, hc', rfl⟩
  · exact ⟨w, .refl _ _⟩
  · have nc : c' ∉ m := w.new hc'
    have nPc : P ≠ c' := ne_of_none hP hc'
    have st : Stp m H m (upd (upd H P (.tbl (ps ++ more))) c' (LamX.CodeO c' q)) := ⟨⟨[], by simp, by simp⟩, fun b o nb e => by
      rw [upd_ne (ne_of_none e hc'), upd_ne fun z => nb (by rw [z]; exact List.mem_of_getElem? emP)]
      exact e⟩
    refine ⟨⟨w.nd, w.len, fun k o a e1 e2 => ?_⟩, st⟩
    by_cases ha : a = P
    · subst ha
      have hk : k = n := (List.getElem?_inj (List.getElem?_eq_some_iff.mp e2).1 w.nd).mp (e2.trans emP.symm)
      subst hk
      rw [eh] at e1
      cases e1
      obtain ⟨qs, h1, h2, h3⟩ := t
      refine ⟨qs, h1, rfl, h2, fun pos cv hcv => ?_⟩
      obtain ⟨c, e3, e4⟩ := h3 pos cv hcv
      refine ⟨c, e3, ?_, e4⟩
      by_cases hcc : c = c'
      · rw [hcc]; exact nc
      · rw [upd_ne hcc] at e4
        by_cases hcP : c = a
        · rw [hcP, upd_same] at e4
          exact absurd (Option.some.inj e4).symm (LamX.codeO_ne _)
        · rw [upd_ne hcP] at e4
          exact w.notCode e4
    · refine (w.at_ k o a e1 e2).stp st ?_
      rw [upd_ne (fun z => nc (by rw [← z]; exact List.mem_of_getElem? e2)), upd_ne ha]
end
open Classical in
noncomputable def refK (CN : Addr) (h : List EO) (r : Res SV) : Res SV := match r with
  | .exc C [] h2 => if C = CN ∧ Cut h h2 then .ok (.p (.bl true)) (h2.take h.length) else .bad
  | .ok _ h2 => if Cut h h2 then .ok (.p (.bl false)) (h2.take h.length) else .bad
  | _ => .bad
noncomputable def eRef (n : Nat) (P : Addr) (q : Str) (CN : Addr) (fb : ME) : ME := fun es h => match h[n]? with
  | some (.tab P' q') => if P' = P ∧ q' = q then refK CN h (fb es h) else .bad
  | _ => .bad
section
variable {X : Cx} {E : XK} {p lpos pos : Pos}
theorem d_ref {fb : ME} {n : Nat} {CG CN : Addr} {x a : Str} {g c P : Addr} {k : Nat} {pg : Arguments} {bg : List Stmt} {sg : Scope} {dV kV doc pm cdv ct oc : Value} {an od : Option Addr} {osl : Array (Option Value)} {Ng : List Str} {params : Arguments} {body : Expr} {scope : Scope}
    (hg : Gl X x) (hm : X.mg x = some (.ref g)) (hk : PySem.W.keepIn X.K (.ref g) = true)
    (lk : X.K.lookup g = some ⟨oc, od, .func (PySem.W.fnOf x x pg bg sg dV kV doc pm an cdv ct), osl⟩) (hcg : PySem.W.codeIn X.K cdv x = true) (hb : L2.Binds X.K (PySem.W.fnOf x x pg bg sg dV kV doc pm an cdv ct) [a] []) (Sg : FnScope Ng [a] sg) (hNg : Ng[0]? = some a) (hva : Vis sg a)
    (hG : LamX.GivesTo X Ng x sg g cdv bg a (X.env.qual ++ "<lambda>") (LamY.TTref CN))
    (TB : LamX.TabB X.base X.mg c P) (hcode : X.env.code = .ref c) (hr : Room (k + 2) X.A) (L : LamX.LamS X.env.scope scope) (hdef : defaultsOf params X.env = ([], []))
    (hbind : ∀ (q : Str) (cl : List (Str × Addr)) (pm cv ctv : Value), bindArgs (PySem.W.kla_fn "<lambda>" q params body scope cl pm cv ctv) ⟨[], []⟩ = pure [])
    (hbody : ∀ (A : Around) (outer : List Env) (s : Shared) (H : Hp) (E : XK) (f c' : Addr), Room k (A.deeper (LamX.lamEnv X scope s.heap.objs.size f c')) → DE (LamX.lamCx X A outer s H E scope f c') E body fb)
    (hdb : (x == ("__debug__" : Str)) = false := by decide) (hd : (a == ("__debug__" : Str)) = false := by decide) (hcd : (a == ("__classdict__" : Str)) = false := by decide) :
    DE X E (.Call (.Name x p) [.Lambda params body scope lpos] [] pos) (eRef n P (X.env.qual ++ "<lambda>") CN fb) :=
  PE.of (LamY.pe_lamcall3 (t := fun E' => tSE X.K E' fb) hg hm hk lk hcg hb Sg hNg hva hG TB hcode hr L hdef hbind hbody hdb hd hcd) fun σ H Q ⟨m, h, es, w, r, pp⟩ => by
    unfold eRef at pp
    split at pp
    · rename_i P' q' eh
      split at pp
      · rename_i hh
        obtain ⟨rfl, rfl⟩ := hh
        have hn : n < m.length := by rw [w.len]; exact (List.getElem?_eq_some_iff.mp eh).1
        obtain ⟨ps0, hp0, eP, t1, t2⟩ := w.at_ n _ _ eh (List.getElem?_eq_getElem hn)
        refine ⟨⟨ps0, by rw [← eP]; exact hp0, t1, fun pos cv hc => let ⟨c, e1, _, e2⟩ := t2 pos cv hc; ⟨c, e1, e2⟩⟩, fun H1 gr t => ?_⟩
        obtain ⟨w1, st⟩ := w.grew eh gr t
        refine ⟨m, h, es, w1, r.stp st, ?_⟩
        have pp := pp.step st
        cases z : fb es h with
        | ok x h2 =>
          rw [z] at pp
          unfold refK at pp
          simp only at pp
          split at pp
          · rename_i c
            intro v H2 m2 s2 w2 r2
            obtain ⟨w3, s3⟩ := w1.cut s2 w2 c
            exact pp _ _ _ s3 w3 (show RP _ _ _ _ _ from .bl false)
          · exact pp.elim
        | exc C fs h2 =>
          rw [z] at pp
          cases fs with
          | cons y ys => exact pp.elim
          | nil =>
            unfold refK at pp
            simp only at pp
            split at pp
            · rename_i c
              intro d H2 m2 s2 w2 r2
              obtain ⟨w3, s3⟩ := w1.cut s2 w2 c.2
              rcases r2 with ⟨rfl, _⟩ | ⟨hf, _⟩
              · exact ⟨by rw [c.1], rfl, pp _ _ _ s3 w3 (show RP _ _ _ _ _ from .bl true)⟩
              · exact absurd rfl hf
            · exact pp.elim
        | bad => rw [z] at pp; exact pp.elim
      · exact pp.elim
    · exact pp.elim
/-! ### raise C() -/
def ExcK (P : Program) (K : PySem.W.Frag) (mg : Str → Option Value) (x : Str) (C : Addr) : Prop := mg x = some (.ref C) ∧ OexC K C ∧ ∃ fI sf msg, PySem.SUPX.SupI P K mg C fI sf msg
def sRaise (C : Addr) : MS := fun _ h => .exc C [] h
theorem d_raise0 {x : Str} {C : Addr} {p1 p2 p3 : Pos} (T : ExcK X.prog X.K X.mg x C) (hr : Room 1 X.A) (hc : X.calm = true) (tk : Takes X fun cls d _ H => E cls d H) (hg : Gl X x) (hdb : (x == ("__debug__" : Str)) = false := by decide) :
    DS X E (.Raise (some (.Call (.Name x p1) [] [] p2)) none p3) (sRaise C) := by
  obtain ⟨hm, T, fI, sf, msg, S⟩ := T
  exact PS.of (ps_raise hc tk (pmk_sup0 T S hr hg hm hdb)) fun D σ H ⟨m, h, es, w, r, p⟩ => p none H m (.refl m H) w (.inl ⟨rfl, rfl⟩)
theorem take_body {P : Program} {w : World} {K : PySem.W.Frag} {mg : Str → Option Value} {base : Heap} {N : List Str} {qual : Str} {scope : Scope} {f : Addr} {cd : Value} {A : Around} {outer : List Env} {s : Shared} {H : Hp} {E : XK} :
    Takes (cxOf (L2.CX P w) P w K mg base N qual scope f cd A outer s H E) fun cls d _ H => E cls d H := takes_of rfl rfl rfl rfl
end
end EV

-- E19
/-! E19: the law's call at the caller's frame, with one table of code objects. -/
namespace EV
open PySem PySem.Spec L2 PyProof.Rows LamX
/-- what is tracked when the law is called: the table, and the script (unless it stands in the written part) -/
noncomputable def hp0 (K : PySem.W.Frag) (a P : Addr) (o : Obj) (ns : List Int) : Hp := fun b =>
  if b = P then some (.tbl #[]) else if b = a ∧ (K.lookup a).isNone = true then some (.frz o (.lst (ns.map V.int))) else none
theorem law_start {Pg : Program} {w : World} {K : PySem.W.Frag} {mg mb : Str → Option Value} {fa a c P : Addr} {s₁ : Shared} {vs : List Value} {ns : List Int}
    (KX : K.In s₁.heap) (hns : s₁.heap.Ns mainGlobals mg) (hb : s₁.heap.Ns builtinsNs mb) (hbb : ∀ x : Str, x ≠ "__name__" → mb x = bootBuiltins x) (hlim : s₁.heap.NoLimit) (hg : s₁.gens = #[])
    (hT : s₁.heap.get? P = some { cls := .none, data := .fields #[] }) (nT : K.lookup P = none) (C : PySem.W.CodeHd s₁.heap c P)
    (hbm : ∃ (bm : Addr) (ob : Obj), mg "__builtins__" = some (.ref bm) ∧ bm ≠ builtinsNs ∧ s₁.heap.get? bm = some ob ∧ ob.cls = .type "module" ∧ ob.dict = some builtinsNs ∧ ob.data = .plain)
    (ha : s₁.heap.get? a = some { cls := .type "list", data := .seq vs.toArray }) (hi : IntsAre vs ns) (hl : ns.length ≤ sizeLine)
    (run : ∀ (base : Heap) (H : Hp), K.In base → base.Ns mainGlobals mg → TabB base mg c P → Env0 Pg w K mg base callerA [] s₁ H → H P = some (.tbl #[]) → SqL K H a (ns.map V.int) → a ≠ P →
      codeAny (model Pg w) callerA (.call (.ref fa) ⟨[.ref a], []⟩) (CR (L2.CX Pg w) [] Pg w H s₁ (fun v _ => v = .bl true) fun _ _ _ => False) s₁) :
    codeAny (model Pg w) callerA (.call (.ref fa) ⟨[.ref a], []⟩) (fun r s' => r = .ok (.ret (.bool true)) ∧ OldK s₁.heap s'.heap ∧ s'.os = s₁.os ∧ AllBare s'.gens) s₁ := by
  have rv := vals_ints hi
  have aP : a ≠ P := fun z => by
    rw [z, hT] at ha
    have := congrArg Obj.data (Option.some.inj ha)
    cases this
  generalize hH : hp0 K a P { cls := .type "list", data := .seq vs.toArray } ns = H
  have at_P : H P = some (.tbl #[]) := by rw [← hH]; exact if_pos rfl
  have cases_ : ∀ b u, H b = some u → (b = P ∧ u = .tbl #[]) ∨ (b = a ∧ K.lookup a = none ∧ u = .frz { cls := .type "list", data := .seq vs.toArray } (.lst (ns.map V.int))) := fun b u e => by
    rw [← hH] at e
    unfold hp0 at e
    split at e
    · rename_i z; cases e; exact .inl ⟨z, rfl⟩
    · split at e
      · rename_i z; cases e; exact .inr ⟨z.1, by simpa using z.2, rfl⟩
      · cases e
  have hS : SqL K H a (ns.map V.int) := by
    cases hk : K.lookup a with
    | none =>
      refine .inl (.inr ⟨{ cls := .type "list", data := .seq vs.toArray }, ?_⟩)
      rw [← hH]
      exact (if_neg aP).trans (if_pos ⟨rfl, by rw [hk]; rfl⟩)
    | some o =>
      have e := KX a o hk
      rw [ha] at e
      cases e
      exact .inr ⟨_, vs.toArray, _, hk, rfl, rfl, rfl, by rw [List.size_toArray, hi.length]; exact hl, by simpa using rv⟩
  have hok : HOk Pg w H s₁.heap := fun b u e => by
    rcases cases_ b u e with ⟨rfl, rfl⟩ | ⟨rfl, _, rfl⟩
    · exact hT
    · exact ⟨ha, by rw [List.length_map]; exact hl, vs, _, rv, ha⟩
  have free : ∀ {b : Addr} {o : Obj}, s₁.heap.get? b = some o → (∀ vs n, o.data ≠ .seq vs n) → o.data ≠ .fields #[] → H b = none := fun {b o} e h1 h2 => by
    cases q : H b with
    | none => rfl
    | some u =>
      rcases cases_ b u q with ⟨rfl, _⟩ | ⟨rfl, _, _⟩
      · rw [hT] at e; cases e; exact absurd rfl h2
      · rw [ha] at e; cases e; exact absurd rfl (h1 _ _)
  have freeD : ∀ {b : Addr} {o : Obj} {es : Array DictEntry} {ep : Nat}, s₁.heap.get? b = some o → o.data = .dict es ep → H b = none := fun e d => free e (fun _ _ z => by rw [d] at z; cases z) fun z => by rw [d] at z; cases z
  have nsK : ∀ {b : Addr} {m : Str → Option Value}, s₁.heap.Ns b m → (hidT s₁.heap H).Ns b m := fun ⟨o, es, ep, e, d, r⟩ => ⟨o, es, ep, hidT_get e (freeD e d), d, r⟩
  have hKb : K.In (hidT s₁.heap H) := fun b o e => hidT_get (KX b o e) (by
    cases q : H b with
    | none => rfl
    | some u =>
      rcases cases_ b u q with ⟨rfl, _⟩ | ⟨rfl, hk, _⟩
      · rw [nT] at e; cases e
      · rw [hk] at e; cases e)
  have hM : L2.Mod K mg (hidT s₁.heap H) := ⟨hKb, nsK hns, ⟨mb, nsK hb, hbb⟩, let ⟨mc, h1, h2⟩ := hlim; ⟨mc, nsK h1, h2⟩⟩
  obtain ⟨oG, esG, epG, eG, dG, _⟩ := id hns
  have gP : mainGlobals ≠ P := fun z => by
    rw [z, hT] at eG
    cases eG
    cases dG
  have TB : TabB (hidT s₁.heap H) mg c P := by
    refine ⟨?_, ?_, gP⟩
    · obtain ⟨o, us, file, tf, flags, tg, inF, text, tt, e1, r1, r2, r3, r4, r5, r6, r7, r8, hne⟩ := C
      refine ⟨o, us, file, tf, flags, tg, inF, text, tt, hidT_get e1 (free e1 (fun _ _ z => ?_) fun z => ?_), r1, r2, r3, r4, r5, r6, r7, r8, hne⟩
      · rw [r2] at z; cases z
      · rw [r2] at z; cases z; simp at r3
    · obtain ⟨bm, ob, b1, b2, b3, b4, b5, b6⟩ := hbm
      refine ⟨bm, ob, b1, b2, fun z => ?_, fun z => ?_, hidT_get b3 (free b3 (fun _ _ z => ?_) fun z => ?_), b4, b5, b6⟩
      · rw [z, eG] at b3; cases b3; rw [dG] at b6; cases b6
      · rw [z, hT] at b3; cases b3; cases b6
      · rw [b6] at z; cases z
      · rw [b6] at z; cases z
  have e0 : Env0 Pg w K mg (hidT s₁.heap H) callerA [] s₁ H := ⟨rfl, hM, fun b o e => of_hidT e, Nat.le_of_eq (hidT_size _ _), trivial, fun b hb => absurd (show b ∈ ([] : List Addr) from hb) (by simp), hok, .of_eq hg⟩
  refine codeAny_mono (run _ H hKb (nsK hns) TB e0 at_P hS aP) fun r s' h => ?_
  cases r with
  | error e =>
    obtain ⟨_, _, _, _, _, _, _, _, _, _, _, _, z⟩ := h
    exact z.elim
  | ok fl =>
    cases fl with
    | next => exact False.elim h
    | brk => exact False.elim h
    | cont => exact False.elim h
    | ret u =>
      obtain ⟨v, H', os, bare, un, hok', r', q⟩ := h
      have q' : v = .bl true := q
      subst q'
      obtain rfl : u = Value.bool true := r'
      have grown : ∃ more : Array Value, s'.heap.get? P = some { cls := .none, data := .fields more } := by
        obtain ⟨more, z⟩ := un.tbls P #[] at_P
        exact ⟨_, hok' P _ z⟩
      have key : ∀ b o, b ≠ P → s₁.heap.get? b = some o → s'.heap.get? b = some o := fun b o nb e => by
        cases q : H b with
        | none => exact un.keep b o e q (by intro z; exact absurd (show b ∈ ([] : List Addr) from z) (by simp)) (by simp)
        | some u =>
          rcases cases_ b u q with ⟨z, _⟩ | ⟨rfl, _, rfl⟩
          · exact absurd z nb
          · obtain ⟨e2, _⟩ := hok' b _ (un.frzs b _ _ q)
            rw [ha] at e
            cases e
            exact e2
      obtain ⟨more, hm⟩ := grown
      refine ⟨rfl, ⟨fun b o e => ?_, fun b o e => ?_⟩, os, bare⟩
      · by_cases hbP : b = P
        · subst hbP
          rw [hT] at e
          cases e
          exact .inr (.inl ⟨(C.tab hT).isCodeTable, rfl, #[], more, rfl, by rw [Array.empty_append]; exact hm⟩)
        · exact .inl (key b o hbP e)
      · by_cases hbP : b = P
        · subst hbP; exact ⟨_, hm⟩
        · exact ⟨o, key b o hbP e⟩
/-- the law's own code object, its table, and how it runs -/
def LawG (Pg : Program) (w : World) (K : PySem.W.Frag) (n : Nat) (mg : Str → Option Value) (fa : Addr) (h : Heap) : Prop :=
  ∃ (c P : Addr), h.get? P = some { cls := .none, data := .fields #[] } ∧ K.lookup P = none ∧ PySem.W.CodeHd h c P ∧
    ∀ (base : Heap) (H : Hp) (s₁ : Shared) (a : Addr) (ns : List Int), K.In base → base.Ns mainGlobals mg → TabB base mg c P → Env0 Pg w K mg base callerA [] s₁ H → H P = some (.tbl #[]) → SqL K H a (ns.map V.int) → a ≠ P → ns.length ≤ n →
      codeAny (model Pg w) callerA (.call (.ref fa) ⟨[.ref a], []⟩) (CR (L2.CX Pg w) [] Pg w H s₁ (fun v _ => v = .bl true) fun _ _ _ => False) s₁
theorem walkG {l : PySem.W.OpenLaw} {n : Nat} {q : Program} {loose : List Str} {XP : (Str → Option Value) → Heap → Prop} {YP : World → Heap → Prop} {d : DefRec} {K : Params → PySem.W.Frag}
    (hn : l.most = some n) (hn2 : n ≤ sizeLine) (hdf : d.params.defaults = []) (hrec : ((recsOf q).any fun e => e.name == d.name) = true) (hY : ∀ (w : World) (h : Heap), YP w h → (K w.params).In h)
    (F : ∀ (w : World) (mg : Str → Option Value) (fa : Addr) (h : Heap), YP w h → (K w.params).In h → h.Ns mainGlobals mg → mg d.name = some (.ref fa) → OwnTab (K w.params) fa h → LawG l.prog w (K w.params) n mg fa h) :
    PySem.W.WalkO q loose XP YP l.row.toRowW d [] (fun f vs => PySem.call f vs) := by
  refine Att.attach_callB hn hdf fun w s₀ s₁ mg mb fa o pm cd doc a vs ns G Y ho hd hcd hmg hobj hints hlen hbits hg => ?_
  have KX := hY w _ Y
  have own : OwnTab (K w.params) fa s₁.heap := fun c P o1 fd1 e dd vs1 sl k1 k2 k3 k4 k5 => by
    obtain ⟨dL, hm, hn1⟩ := List.any_eq_true.mp hrec
    have hn2 : dL.name = d.name := beq_iff_eq.mp hn1
    obtain ⟨a', o', fd', c', P', h1, h2, h3, h4, h5, h6⟩ := G.T.tab dL hm
    rw [hn2, hmg] at h1
    cases h1
    have g1 := KX _ _ k1
    rw [g1] at h2
    cases h2
    rw [k2] at h3
    cases h3
    rw [k3] at h4
    cases h4
    obtain ⟨⟨oc, vc, e1, _, e3, e4⟩, hP⟩ := h6
    have g2 := KX _ _ k4
    rw [g2] at e1
    cases e1
    cases e3
    rw [k5] at e4
    cases e4
    exact hP
  obtain ⟨c, P, hT, nT, C, run⟩ := F w mg fa _ Y KX G.T.g hmg own
  exact law_start KX G.T.g G.T.b G.T.builtins G.T.nolimit hg hT nT C G.T.bmain hobj hints (Nat.le_trans hlen hn2) fun base H k1 k2 k3 k4 k5 k6 k7 => run base H s₁ a ns k1 k2 k3 k4 k5 k6 k7 hlen
end EV

-- E20
/-! E20: the def that is handed lambdas, the law's run, from the mirrors. -/
namespace EV
open PySem PySem.Spec L2 PyProof.Rows LamX
/-- the def x of the statement st as it stands -/
def RefF (K : PySem.W.Frag) (mg : Str → Option Value) (x a : Str) (st : Stmt) : Prop :=
  ∃ (g : Addr) (oc : Value) (od : Option Addr) (osl : Array (Option Value)) (kV doc pm : Value) (an : Option Addr) (cdv ct : Value), mg x = some (.ref g) ∧ PySem.W.keepIn K (.ref g) = true ∧
    K.lookup g = some ⟨oc, od, .func (PySem.W.fnOf x x (defArgs st) (defBody st) (defScope st) .none kV doc pm an cdv ct), osl⟩ ∧ PySem.W.codeIn K cdv x = true ∧ Binds K (PySem.W.fnOf x x (defArgs st) (defBody st) (defScope st) .none kV doc pm an cdv ct) [a] []
section
variable {X : Cx} {E : XK} {p lpos pos : Pos}
theorem d_refF {fb : ME} {CN : Addr} {x a : Str} {c P : Addr} {k : Nat} {st : Stmt} {Ng : List Str} {params : Arguments} {body : Expr} {scope : Scope} (n : Nat) (R : RefF X.K X.mg x a st) (Sg : FnScope Ng [a] (defScope st)) (hNg : Ng[0]? = some a) (hva : Vis (defScope st) a)
    (hG : ∀ g cdv, GivesTo X Ng x (defScope st) g cdv (defBody st) a (X.env.qual ++ "<lambda>") (LamY.TTref CN))
    (TB : TabB X.base X.mg c P) (hcode : X.env.code = .ref c) (hr : Room (k + 2) X.A) (hg : Gl X x) (L : lamSB X.env.scope scope = true)
    (hbody : ∀ (A : Around) (outer : List Env) (s : Shared) (H : Hp) (E : XK) (f c' : Addr), Room k (A.deeper (lamEnv X scope s.heap.objs.size f c')) → DE (lamCx X A outer s H E scope f c') E body fb)
    (hdef : defaultsOf params X.env = ([], []) := by rfl)
    (hbind : ∀ (q : Str) (cl : List (Str × Addr)) (pm cv ctv : Value), bindArgs (PySem.W.kla_fn "<lambda>" q params body scope cl pm cv ctv) ⟨[], []⟩ = pure [] := by intro _ _ _ _ _; rfl)
    (hdb : (x == ("__debug__" : Str)) = false := by decide) (hd : (a == ("__debug__" : Str)) = false := by decide) (hcd : (a == ("__classdict__" : Str)) = false := by decide) :
    DE X E (.Call (.Name x p) [.Lambda params body scope lpos] [] pos) (eRef n P (X.env.qual ++ "<lambda>") CN fb) := by
  obtain ⟨g, oc, od, osl, kV, doc, pm, an, cdv, ct, hm, hk, lk, hcg, hb⟩ := R
  exact d_ref (CG := CN) hg hm hk lk hcg hb Sg hNg hva (hG g cdv) TB hcode hr (lamS_by L) hdef hbind hbody hdb hd hcd
theorem pass_lam {A : Around} {outer : List Env} {s : Shared} {H : Hp} {E : XK} {scope : Scope} {f c' : Addr} : Passes (L2.CX X.prog X.w) (lamCx X A outer s H E scope f c') E := passes_call (takes_of rfl rfl rfl rfl) fun _ _ _ _ h => h
end
theorem vals_fz {K : PySem.W.Frag} {m : List Addr} {H : Hp} : ∀ (ns : List Int), RPs K m H (ns.map PV.int) (ns.map V.int)
  | [] => .nil
  | i :: ns => .cons (.int i) (vals_fz ns)
/-- the law's call, from its mirror -/
theorem law_run {Pg : Program} {w : World} {K : PySem.W.Frag} {mg : Str → Option Value} {base : Heap} {N : List Str} {st : Stmt} {fa c P a : Addr} {k n : Nat} {kV doc pm ct oc : Value} {an od : Option Addr} {osl : Array (Option Value)} {f : MS} {q : Str} {H : Hp} {s₁ : Shared} {ns : List Int}
    (lk : K.lookup fa = some ⟨oc, od, .func (PySem.W.fnOf "law" "law" (defArgs st) (defBody st) (defScope st) .none kV doc pm an (.ref c) ct), osl⟩) (hcd : PySem.W.codeIn K (.ref c) "law" = true) (S : FnScope N ["script"] (defScope st))
    (hbind : ∀ (kV doc pm : Value) (an : Option Addr) (cdv ct : Value) (us : List Value), us.length = 1 → bindArgs (PySem.W.fnOf "law" "law" (defArgs st) (defBody st) (defScope st) .none kV doc pm an cdv ct) ⟨us, []⟩ = pure ((["script"] : List Str).zip us))
    (hr : Room (k + 1) callerA) (hb : Room k (callerA.deeper (envOfC "law" (defScope st) s₁.heap.objs.size fa (.ref c))) → DSs (cxOf (L2.CX Pg w) Pg w K mg base N "law" (defScope st) fa (.ref c) callerA [] s₁ H fun _ _ _ => False) (fun _ _ _ => False) (defBody st) f)
    (e0 : Env0 Pg w K mg base callerA [] s₁ H) (hP : H P = some (.tbl #[])) (hS : SqL K H a (ns.map V.int)) (aP : a ≠ P)
    (mir : ∃ h', runB f N.length [.p (.fz (ns.map .int))] [.tab P q] = .ok (.p (.bl true)) h') :
    codeAny (model Pg w) callerA (.call (.ref fa) ⟨[.ref a], []⟩) (CR (L2.CX Pg w) [] Pg w H s₁ (fun v _ => v = .bl true) fun _ _ _ => False) s₁ := by
  refine run_ofS (N := N) (ps := ["script"]) (us := [.ref a]) (vs := [.ref a]) lk hcd S hr e0 (.of_eq (hbind _ _ _ _ _ _ [.ref a] rfl)) (.cons rfl .nil) rfl fun hr' => ⟨_, hb hr', ?_⟩
  obtain ⟨h', mir⟩ := mir
  have w0 : Wd K [P] [.tab P q] H := by
    refine ⟨by simp, rfl, fun i o b e1 e2 => ?_⟩
    cases i with
    | succ i => simp at e1
    | zero =>
      simp at e1 e2
      subst e1; subst e2
      exact ⟨#[], hP, rfl, True.intro, fun pos cv hc => by
        have z : codeAmong pos [] = some cv := hc
        simp [codeAmong] at z⟩
  have r0 : RSs K [P] H [.p (.fz (ns.map .int))] [.ref a] := by
    refine .cons (show RP _ _ _ _ _ from .fz ?_ (vals_fz ns)) .nil
    rcases hS with h | h
    · exact .inl ⟨h, by simpa using aP⟩
    · exact .inr h
  refine ⟨[P], [.tab P q], _, w0, REn.start r0, runB_ok (K := K) (N := N) (xs := [.p (.fz (ns.map .int))]) (Q := fun v _ => v = .bl true) ?_⟩
  rw [mir]
  intro v H' m' st w2 r2
  cases (show RP _ _ _ _ _ from r2)
  rfl
end EV

-- E21
/-! E21: a, b = x, y where a name stands in a cell: the pair is made and taken apart. -/
namespace EV
open PySem PySem.Spec L2
def sUnp (n : Nat) (gs : MGs) (ga : MA) : MS := fun es h => (ga es h).sbind fun xs h1 => if xs.length = n ∧ n ≤ sizeLine then (gs xs es h1).sbind fun es2 h2 => .nx es2 h2 else .bad
section
variable {X : Cx} {E : XK} {es ts : List Expr} {ga : MA} {gs : MGs} {pos p1 p2 : Pos} {k : Nat}
theorem d_unp (n : Nat) {x1} (hc : X.calm = true) (ha : DA X E es ga) (hg : DGs X E ts gs) (hn : (assignEach ts X.env).length = n := by rfl) (hst : (assignEach ts X.env).findIdx? (·.1) = none := by rfl)
    (hs : swapsWithSole [.Tuple ts k p1] (.Tuple es x1 p2) pos.line X.env = pure false := by rfl) (hw : swappedStores [.Tuple ts k p1] (.Tuple es x1 p2) X.env = pure none := by rfl) (h1 : (assignEach [.Tuple ts k p1] X.env).map (·.2) = [assign (.Tuple ts k p1) X.env] := by rfl) :
    DS X E (.Assign [.Tuple ts k p1] (.Tuple es x1 p2) pos) (sUnp n gs ga) :=
  PS.of (ps_asg (pe_tup ha) (pg_tup hc hg hn hst) hs hw h1) fun D σ H ⟨m, h, en, w, r, p⟩ => ⟨m, h, en, w, r, p.sbind fun xs h1 vs H1 m1 s1 w1 r1 p1 => by
    split at p1
    · rename_i hl
      have e := RSs.len r1
      refine ⟨by omega, fun a na => ⟨a, vs, rfl, SqT.of upd_same, by omega, ?_⟩⟩
      have st := Stp.new w1 (u := .tup vs) na
      exact ⟨m1, h1, en, xs, w1.fresh na, (r.stp s1).stp st, RSs.stp st r1, PostS.sbind (p1.step st) fun es2 h2 σ2 H2 m2 s2 w2 r2 p2 => p2.nx_ w2 r2⟩
    · exact p1.elim⟩
@[simp] theorem sUnp_r {n : Nat} {es : Es} {h : List EO} : sUnp n gs ga es h = (ga es h).sbind fun xs h1 => if xs.length = n ∧ n ≤ sizeLine then (gs xs es h1).sbind fun es2 h2 => .nx es2 h2 else .bad := rfl
end
end EV

-- K77a
namespace K77
open PySem PySem.Spec L2 EV PyProof.Rows
def top (i : Nat) : Stmt := PySem.Challenge.pw_tablegroups_k77_whole_what_leads_togethe.main.body.getD i (.Pass ⟨0, 0, 0, 0⟩)
structure Cs where
  (GroupError BadGroup NoPart Group : Addr)
structure Txt (K : PySem.W.Frag) (mg : Str → Option Value) (C : Cs) : Prop where
  z_ValueError : mg "ValueError" = none
  z_abs : mg "abs" = none
  z_all : mg "all" = none
  z_bool : mg "bool" = none
  z_enumerate : mg "enumerate" = none
  z_int : mg "int" = none
  z_isinstance : mg "isinstance" = none
  z_len : mg "len" = none
  z_list : mg "list" = none
  z_range : mg "range" = none
  z_repr : mg "repr" = none
  z_sorted : mg "sorted" = none
  z_tuple : mg "tuple" = none
  z_zip : mg "zip" = none
  g_MOST_MEMBERS : ∃ t, mg "MOST_MEMBERS" = some (.int 32 t)
  m_GroupError : mg "GroupError" = some (.ref C.GroupError)
  m_BadGroup : mg "BadGroup" = some (.ref C.BadGroup)
  m_NoPart : mg "NoPart" = some (.ref C.NoPart)
  m_Group : mg "Group" = some (.ref C.Group)
  cl_Group : Cls K C.Group
  na_Group_backs : NoAttr K C.Group "backs"
  na_Group_many : NoAttr K C.Group "many"
  na_Group_table : NoAttr K C.Group "table"
abbrev s_is_integer : Stmt := top 5
abbrev s_is_within : Stmt := top 6
abbrev s_is_tuple : Stmt := top 7
abbrev s_Group__init__ : Stmt := inClass (top 10) 0
abbrev s_goes_together : Stmt := top 11
abbrev s_is_lot : Stmt := top 12
abbrev s_about : Stmt := top 13
abbrev s_closed_by : Stmt := top 15
abbrev s_is_part : Stmt := top 16
abbrev s_check_part : Stmt := top 17
abbrev s_led_lot : Stmt := top 18
abbrev s_keepers_of : Stmt := top 19
abbrev s_led_together : Stmt := top 21
abbrev s_led_within : Stmt := top 22
abbrev s_keeps_leading : Stmt := top 23
abbrev s_is_kept_leading : Stmt := top 24
abbrev s_differences : Stmt := top 25
abbrev s_moves_of : Stmt := top 26
abbrev s_law_hand : Stmt := top 28
abbrev s_law_draw : Stmt := top 29
abbrev s_law_any : Stmt := top 30
abbrev s_law_ring : Stmt := top 31
abbrev s_law_flips : Stmt := top 32
abbrev s_law_pairs : Stmt := top 33
abbrev s_law_names : Stmt := top 34
abbrev s_law_called : Stmt := top 35
abbrev s_law_table : Stmt := top 36
abbrev s_law_closed : Stmt := top 37
abbrev s_law_led : Stmt := top 38
abbrev s_law_part_led : Stmt := top 39
abbrev s_law_lists : Stmt := top 40
abbrev s_law : Stmt := top 42
abbrev s_law_is_refused : Stmt := top 41
abbrev lamQ : Str := (("law" : Str) ++ ".<locals>.") ++ "<lambda>"
noncomputable def m_is_integer (C : Cs) : MS :=
  (sRet (eAnd (eCall (f2 isiK) (aCons (eVar 0) (aCons (eTy "int") aNil))) (eNot (eCall (f2 isiK) (aCons (eVar 0) (aCons (eTy "bool") aNil))))))
noncomputable abbrev F_is_integer (C : Cs) : MF := runB (m_is_integer C) 1
noncomputable def m_is_tuple (C : Cs) : MS :=
  (sRet (eAnd (eCall (f2 isiK) (aCons (eVar 0) (aCons (eTy "tuple") aNil))) (eChain opLe opLe (eVar 1) (eCall (f1 lenK) (aCons (eVar 0) aNil)) (eVar 2))))
noncomputable abbrev F_is_tuple (C : Cs) : MF := runB (m_is_tuple C) 3
noncomputable def m_goes_together (C : Cs) : MS :=
  (sSeq (sFor (iSeq (eVar 0)) (gNm 1) (sFor (iEn (aCons (eVar 1) aNil)) (gTp 2 (gsCons (gNm 2) (gsCons (gNm 3) gsNil))) (sIf (tB_ (eBin cNe (eCall (f1 tupK) (aCons (eLc false (iSeq (eBin ixF (eVar 0) (eVar 2))) (gNm 4) tTrue (eBin ixF (eVar 1) (eVar 4)) [4]) aNil)) (eBin ixF (eVar 0) (eVar 3)))) (sRet (eC (.bl false))) sNil))) (sRet (eC (.bl true))))
noncomputable abbrev F_goes_together (C : Cs) : MF := runB (m_goes_together C) 5
noncomputable def m_about (C : Cs) : MS :=
  (sRet (eBin ixF (eBin ixF (eFld C.Group "table" (eVar 0)) (eBin ixF (eBin ixF (eFld C.Group "table" (eVar 0)) (eBin ixF (eFld C.Group "backs" (eVar 0)) (eVar 2))) (eVar 1))) (eVar 2)))
noncomputable abbrev F_about (C : Cs) : MF := runB (m_about C) 3
noncomputable def m_closed_by (C : Cs) : MS :=
  (sSeq (sPar 2 3 (aCons (eDisp (eC (.int 0)) (eC (.bl true))) (aCons (eLst true (aCons (eC (.int 0)) aNil)) aNil))) (sSeq (sWhile (tB_ (eBin opGt (eCall (f1 lenK) (aCons (eVar 3) aNil)) (eC (.int 0)))) (sSeq (sSet 4 (eM "list" mPop (eVar 3) aNil)) (sFor (iSeq (eVar 1)) (gNm 5) (sSeq (sSet 6 (eBin ixF (eBin ixF (eFld C.Group "table" (eVar 0)) (eVar 4)) (eVar 5))) (sIf (tB_ (eBin (opIn true) (eVar 6) (eVar 2))) (sSeq (sAsg (gSb (eVar 2) (eVar 6)) (eC (.bl true))) (sExpr (eM "list" mAppend (eVar 3) (aCons (eVar 6) aNil)))) sNil)))) 100000) (sRet (eCall (f1 tupK) (aCons (eCall (f1 (sortK false)) (aCons (eVar 2) aNil)) aNil)))))
noncomputable abbrev F_closed_by (C : Cs) : MF := runB (m_closed_by C) 7
noncomputable def m_law_hand (C : Cs) : MS :=
  (sSeq (sSet 1 (eLc false (iSeq (eSl false (eVar 0) oNone (oSome (eC (.int 63))))) (gNm 2) tTrue (eCall (f1 absK) (aCons (eCall (f1 intK) (aCons (eVar 2) aNil)) aNil)) [2])) (sRet (eLst true (aCons (eVar 1) (aCons (eC (.int 0)) (aCons (eC (.int 0)) (aCons (eBin (opAdd false) (eC (.int 347)) (eBin (opMul false) (eC (.int 227)) (eCall (f1 lenK) (aCons (eVar 1) aNil)))) (aCons (eC (.int 0)) aNil))))))))
noncomputable abbrev F_law_hand (C : Cs) : MF := runB (m_law_hand C) 3
noncomputable def m_law_draw (C : Cs) : MS :=
  (sSeq (sIf (tAnd_ (tB_ (eBin cEq (eBin ixF (eVar 0) (eC (.int 2))) (eC (.int 0)))) (tB_ (eBin opLt (eBin ixF (eVar 0) (eC (.int 1))) (eCall (f1 lenK) (aCons (eBin ixF (eVar 0) (eC (.int 0))) aNil))))) (sSeq (sSet 2 (eBin ixF (eBin ixF (eVar 0) (eC (.int 0))) (eBin ixF (eVar 0) (eC (.int 1))))) (sSeq (sAsg (gSb (eVar 0) (eC (.int 1))) (eBin (opAdd false) (eBin ixF (eVar 0) (eC (.int 1))) (eC (.int 1)))) (sSeq (sAsg (gSb (eVar 0) (eC (.int 3))) (eBin opMod (eCall (f1 intK) (aCons (eBin (opAdd false) (eBin (opAdd false) (eBin (opMul false) (eBin ixF (eVar 0) (eC (.int 3))) (eC (.int 69621))) (eBin (opMul false) (eVar 2) (eC (.int 48271)))) (eC (.int 17))) aNil)) (eC (.int 2147483629)))) (sIf (tB_ (eBin opGe (eVar 2) (eBin opPow (eC (.int 10)) (eC (.int 18))))) (sAsg (gSb (eVar 0) (eC (.int 2))) (eVar 2)) sNil)))) sNil) (sSeq (sIf (tB_ (eBin opGt (eBin ixF (eVar 0) (eC (.int 2))) (eC (.int 0)))) (sSeq (sSet 3 (eBin opMod (eCall (f1 intK) (aCons (eBin ixF (eVar 0) (eC (.int 2))) aNil)) (eVar 1))) (sSeq (sAsg (gSb (eVar 0) (eC (.int 2))) (eBin opFdiv (eBin ixF (eVar 0) (eC (.int 2))) (eVar 1))) (sRet (eVar 3)))) sNil) (sSeq (sAsg (gSb (eVar 0) (eC (.int 4))) (eBin (opAdd false) (eBin ixF (eVar 0) (eC (.int 4))) (eC (.int 1)))) (sSeq (sSet 4 (eBin opMod (eCall (f1 intK) (aCons (eBin (opMul false) (eCall (f1 intK) (aCons (eBin (opAdd false) (eBin ixF (eVar 0) (eC (.int 3))) (eBin (opMul false) (eC (.int 7919)) (eBin ixF (eVar 0) (eC (.int 4))))) aNil)) (eC (.int 40692))) aNil)) (eC (.int 2147483647)))) (sSeq (sSet 4 (eBin opMod (eCall (f1 intK) (aCons (eBin (opMul false) (eVar 4) (eBin (opAdd false) (eBin opFdiv (eVar 4) (eC (.int 1009))) (eC (.int 69621)))) aNil)) (eC (.int 2147483647)))) (sSeq (sSet 4 (eBin opMod (eCall (f1 intK) (aCons (eBin (opMul false) (eVar 4) (eBin (opAdd false) (eBin opFdiv (eVar 4) (eC (.int 2003))) (eC (.int 40014)))) aNil)) (eC (.int 2147483563)))) (sRet (eBin opMod (eCall (f1 intK) (aCons (eBin opFdiv (eVar 4) (eC (.int 16))) aNil)) (eVar 1)))))))))
noncomputable abbrev F_law_draw (C : Cs) : MF := runB (m_law_draw C) 5
noncomputable def m_law_ring (C : Cs) : MS :=
  (sRet (eCall (f1 tupK) (aCons (eLc false (eRng1 (aCons (eVar 0) aNil)) (gNm 1) tTrue (eCall (f1 tupK) (aCons (eLc false (eRng1 (aCons (eVar 0) aNil)) (gNm 2) tTrue (eBin opMod (eCall (f1 intK) (aCons (eBin (opAdd false) (eVar 1) (eVar 2)) aNil)) (eVar 0)) [2]) aNil)) [1]) aNil)))
noncomputable abbrev F_law_ring (C : Cs) : MF := runB (m_law_ring C) 3
noncomputable def m_law_flips (C : Cs) : MS :=
  (sSeq (sSet 2 (eLst true aNil)) (sSeq (sFor (eRng1 (aCons (eBin (opMul false) (eC (.int 2)) (eVar 0)) aNil)) (gNm 3) (sSeq (sSet 4 (eLst true aNil)) (sSeq (sFor (eRng1 (aCons (eBin (opMul false) (eC (.int 2)) (eVar 0)) aNil)) (gNm 5) (sSeq (sSet 6 (eIf (tB_ (eBin opLt (eVar 3) (eVar 0))) (eC (.int 1)) (eNeg (eC (.int 1))))) (sSeq (sSet 7 (eBin (opAdd false) (eBin opMod (eCall (f1 intK) (aCons (eVar 3) aNil)) (eVar 0)) (eBin (opMul false) (eVar 6) (eBin opMod (eCall (f1 intK) (aCons (eVar 5) aNil)) (eVar 0))))) (sSeq (sIf (tAnd_ (tB_ (eBin opGe (eVar 3) (eVar 0))) (tB_ (eBin opGe (eVar 5) (eVar 0)))) (sSet 7 (eBin (opAdd false) (eVar 7) (eVar 1))) sNil) (sSeq (sSet 8 (eBin (opMul false) (eVar 0) (eCall (f1 intK) (aCons (eBin cNe (eBin opGe (eVar 3) (eVar 0)) (eBin opGe (eVar 5) (eVar 0))) aNil)))) (sExpr (eM "list" mAppend (eVar 4) (aCons (eBin (opAdd false) (eBin opMod (eCall (f1 intK) (aCons (eVar 7) aNil)) (eVar 0)) (eVar 8)) aNil)))))))) (sExpr (eM "list" mAppend (eVar 2) (aCons (eCall (f1 tupK) (aCons (eVar 4) aNil)) aNil)))))) (sRet (eCall (f1 tupK) (aCons (eVar 2) aNil)))))
noncomputable abbrev F_law_flips (C : Cs) : MF := runB (m_law_flips C) 9
noncomputable def m_law_pairs (C : Cs) : MS :=
  (sSeq (sPar 2 3 (aCons (eCall (f1 lenK) (aCons (eVar 1) aNil)) (aCons (eLst true aNil) aNil))) (sSeq (sFor (eRng1 (aCons (eBin (opMul false) (eCall (f1 lenK) (aCons (eVar 0) aNil)) (eVar 2)) aNil)) (gNm 4) (sSeq (sSet 5 (eLst true aNil)) (sSeq (sFor (eRng1 (aCons (eBin (opMul false) (eCall (f1 lenK) (aCons (eVar 0) aNil)) (eVar 2)) aNil)) (gNm 6) (sSeq (sSet 7 (eBin (opMul false) (eBin ixF (eBin ixF (eVar 0) (eBin opFdiv (eVar 4) (eVar 2))) (eBin opFdiv (eVar 6) (eVar 2))) (eVar 2))) (sExpr (eM "list" mAppend (eVar 5) (aCons (eBin (opAdd false) (eVar 7) (eBin ixF (eBin ixF (eVar 1) (eBin opMod (eCall (f1 intK) (aCons (eVar 4) aNil)) (eVar 2))) (eBin opMod (eCall (f1 intK) (aCons (eVar 6) aNil)) (eVar 2)))) aNil))))) (sExpr (eM "list" mAppend (eVar 3) (aCons (eCall (f1 tupK) (aCons (eVar 5) aNil)) aNil)))))) (sRet (eCall (f1 tupK) (aCons (eVar 3) aNil)))))
noncomputable abbrev F_law_pairs (C : Cs) : MF := runB (m_law_pairs C) 8
noncomputable def m_law_called (C : Cs) : MS :=
  (sSeq (sSet 2 (eCall (f1 lenK) (aCons (eVar 0) aNil))) (sSeq (sSet 3 (eLc true (eRng1 (aCons (eVar 2) aNil)) (gNm 6) tTrue (eBin (opMul true) (eLst true (aCons (eC (.int 0)) aNil)) (eVar 2)) [6])) (sSeq (sFor (eRng1 (aCons (eVar 2) aNil)) (gNm 4) (sFor (eRng1 (aCons (eVar 2) aNil)) (gNm 5) (sSeq (sSet 6 (eBin ixF (eVar 3) (eBin ixF (eVar 1) (eVar 4)))) (sAsg (gSb (eVar 6) (eBin ixF (eVar 1) (eVar 5))) (eBin ixF (eVar 1) (eBin ixF (eBin ixF (eVar 0) (eVar 4)) (eVar 5))))))) (sRet (eCall (f1 tupK) (aCons (eLc false (iSeq (eVar 3)) (gNm 6) tTrue (eCall (f1 tupFK) (aCons (eVar 6) aNil)) [6]) aNil))))))
noncomputable abbrev F_law_called (C : Cs) : MF := runB (m_law_called C) 7
noncomputable def m_law_closed (C : Cs) : MS :=
  (sSeq (sPar 2 3 (aCons (eDisp (eC (.int 0)) (eC (.bl true))) (aCons (eLst true (aCons (eC (.int 0)) aNil)) aNil))) (sSeq (sWhile (tB_ (eBin cNe (eVar 3) (eLst false aNil))) (sSeq (sSet 4 (eM "list" mPop (eVar 3) aNil)) (sFor (iSeq (eVar 1)) (gNm 5) (sSeq (sSet 6 (eBin ixF (eBin ixF (eVar 0) (eVar 4)) (eVar 5))) (sIf (tB_ (eBin (opIn true) (eVar 6) (eVar 2))) (sSeq (sAsg (gSb (eVar 2) (eVar 6)) (eC (.bl true))) (sExpr (eM "list" mAppend (eVar 3) (aCons (eVar 6) aNil)))) sNil)))) 100000) (sRet (eCall (f1 tupK) (aCons (eCall (f1 (sortK false)) (aCons (eVar 2) aNil)) aNil)))))
noncomputable abbrev F_law_closed (C : Cs) : MF := runB (m_law_closed C) 7
noncomputable def m_law_led (C : Cs) : MS :=
  (sRet (eBin ixF (eBin ixF (eVar 0) (eBin ixF (eBin ixF (eVar 0) (eM "tuple" mTupIx (eBin ixF (eVar 0) (eVar 2)) (aCons (eC (.int 0)) aNil))) (eVar 1))) (eVar 2)))
noncomputable abbrev F_law_led (C : Cs) : MF := runB (m_law_led C) 3
noncomputable def m_is_within (C : Cs) : MS :=
  (sRet (eAnd (eCallM false (F_is_integer C) (aCons (eVar 0) aNil)) (eChain opLe opLe (eVar 1) (eVar 0) (eVar 2))))
noncomputable abbrev F_is_within (C : Cs) : MF := runB (m_is_within C) 3
noncomputable def m_led_lot (C : Cs) : MS :=
  (sRet (eCall (f1 tupK) (aCons (eCall (f1 (sortK false)) (aCons (eLc false (iSeq (eVar 1)) (gNm 3) tTrue (eCallM false (F_about C) (aCons (eVar 0) (aCons (eVar 3) (aCons (eVar 2) aNil)))) [3]) aNil)) aNil)))
noncomputable abbrev F_led_lot (C : Cs) : MF := runB (m_led_lot C) 4
noncomputable def m_law_any (C : Cs) : MS :=
  (sRet (eBin ixF (eVar 1) (eCallM false (F_law_draw C) (aCons (eVar 0) (aCons (eCall (f1 lenK) (aCons (eVar 1) aNil)) aNil)))))
noncomputable abbrev F_law_any (C : Cs) : MF := runB (m_law_any C) 2
noncomputable def m_law_names (C : Cs) : MS :=
  (sSeq (sPar 2 3 (aCons (eLrg2 true (eC (.int 1)) (eVar 1)) (aCons (eLst true (aCons (eC (.int 0)) aNil)) aNil))) (sSeq (sWhile (tB_ (eBin cNe (eVar 2) (eLst false aNil))) (sExpr (eM "list" mAppend (eVar 3) (aCons (eM "list" mPop (eVar 2) (aCons (eCallM false (F_law_draw C) (aCons (eVar 0) (aCons (eCall (f1 lenK) (aCons (eVar 2) aNil)) aNil))) aNil)) aNil))) 100000) (sRet (eCall (f1 tupK) (aCons (eVar 3) aNil)))))
noncomputable abbrev F_law_names (C : Cs) : MF := runB (m_law_names C) 4
noncomputable def m_law_part_led (C : Cs) : MS :=
  (sRet (eCall (f1 tupK) (aCons (eCall (f1 (sortK false)) (aCons (eLc false (iSeq (eVar 1)) (gNm 3) tTrue (eCallM false (F_law_led C) (aCons (eVar 0) (aCons (eVar 3) (aCons (eVar 2) aNil)))) [3]) aNil)) aNil)))
noncomputable abbrev F_law_part_led (C : Cs) : MF := runB (m_law_part_led C) 4
noncomputable def m_law_lists (C : Cs) : MS :=
  (sSeq (sPar 3 4 (aCons (eLst true aNil) (aCons (eCall (f1 (listK false)) (aCons (eVar 1) aNil)) aNil))) (sSeq (sWhile (tB_ (eBin cNe (eVar 4) (eLst false aNil))) (sSeq (sUnp 2 (gsCons (gNm 5) (gsCons (gNm 6) gsNil)) (aCons (eDisp (eBin ixF (eVar 4) (eC (.int 0))) (eC (.bl true))) (aCons (eLst true (aCons (eBin ixF (eVar 4) (eC (.int 0))) aNil)) aNil))) (sSeq (sWhile (tB_ (eBin cNe (eVar 6) (eLst false aNil))) (sSeq (sSet 7 (eM "list" mPop (eVar 6) aNil)) (sFor (iSeq (eVar 2)) (gNm 8) (sSeq (sSet 9 (eCallM false (F_law_led C) (aCons (eVar 0) (aCons (eVar 7) (aCons (eVar 8) aNil))))) (sIf (tAnd_ (tB_ (eBin (opIn false) (eVar 9) (eVar 1))) (tB_ (eBin (opIn true) (eVar 9) (eVar 5)))) (sSeq (sAsg (gSb (eVar 5) (eVar 9)) (eC (.bl true))) (sExpr (eM "list" mAppend (eVar 6) (aCons (eVar 9) aNil)))) sNil)))) 100000) (sSeq (sExpr (eM "list" mAppend (eVar 3) (aCons (eCall (f1 tupK) (aCons (eCall (f1 (sortK false)) (aCons (eVar 5) aNil)) aNil)) aNil))) (sSet 4 (eLc false (iSeq (eVar 4)) (gNm 10) (tB_ (eBin (opIn true) (eVar 10) (eVar 5))) (eVar 10) [10]))))) 100000) (sRet (eCall (f1 (sortK false)) (aCons (eVar 3) aNil)))))
noncomputable abbrev F_law_lists (C : Cs) : MF := runB (m_law_lists C) 11
noncomputable def m_Group__init__ (C : Cs) : MS :=
  (sSeq (sIf (tNot_ (tB_ (eCallM false (F_is_tuple C) (aCons (eVar 1) (aCons (eC (.int 1)) (aCons (eC (.int 32)) aNil)))))) sBad sNil) (sSeq (sSet 2 (eCall (f1 lenK) (aCons (eVar 1) aNil))) (sSeq (sFor (iEn (aCons (eVar 1) aNil)) (gTp 2 (gsCons (gNm 3) (gsCons (gNm 4) gsNil))) (sIf (tOr_ (tNot_ (tB_ (eCallM false (F_is_tuple C) (aCons (eVar 4) (aCons (eVar 2) (aCons (eVar 2) aNil)))))) (tNot_ (tB_ (eCall (f1 allK) (aCons (eLc false (iSeq (eVar 4)) (gNm 5) tTrue (eCallM false (F_is_within C) (aCons (eVar 5) (aCons (eC (.int 0)) (aCons (eBin opSub (eVar 2) (eC (.int 1))) aNil)))) [5]) aNil))))) sBad sNil)) (sSeq (sIf (tOr_ (tB_ (eBin cNe (eCall (f1 (listK false)) (aCons (eBin ixF (eVar 1) (eC (.int 0))) aNil)) (eLrg1 false (eVar 2)))) (tB_ (eBin cNe (eLc false (iSeq (eVar 1)) (gNm 4) tTrue (eBin ixF (eVar 4) (eC (.int 0))) [4]) (eLrg1 false (eVar 2))))) sBad sNil) (sSeq (sIf (tNot_ (tB_ (eCall (f1 allK) (aCons (eLc false (iSeq (eVar 1)) (gNm 4) tTrue (eBin (opIn false) (eC (.int 0)) (eVar 4)) [4]) aNil)))) sBad sNil) (sSeq (sIf (tNot_ (tB_ (eCallM false (F_goes_together C) (aCons (eVar 1) aNil)))) sBad sNil) (sSeq (sFldS C.Group "table" (eVar 0) (eVar 1)) (sSeq (sFldS C.Group "many" (eVar 0) (eVar 2)) (sFldS C.Group "backs" (eVar 0) (eCall (f1 tupK) (aCons (eLc false (iSeq (eVar 1)) (gNm 4) tTrue (eM "tuple" mTupIx (eVar 4) (aCons (eC (.int 0)) aNil)) [4]) aNil)))))))))))
noncomputable abbrev F_Group__init__ (C : Cs) : MF := runB (m_Group__init__ C) 6
noncomputable def m_is_lot (C : Cs) : MS :=
  (sSeq (sIf (tOr_ (tNot_ (tB_ (eCallM false (F_is_tuple C) (aCons (eVar 1) (aCons (eC (.int 0)) (aCons (eFld C.Group "many" (eVar 0)) aNil)))))) (tNot_ (tB_ (eCall (f1 allK) (aCons (eLc false (iSeq (eVar 1)) (gNm 4) tTrue (eCallM false (F_is_within C) (aCons (eVar 4) (aCons (eC (.int 0)) (aCons (eBin opSub (eFld C.Group "many" (eVar 0)) (eC (.int 1))) aNil)))) [4]) aNil))))) (sRet (eC (.bl false))) sNil) (sRet (eCall (f1 allK) (aCons (eLc false (iZp (aCons (eVar 1) (aCons (eSl false (eVar 1) (oSome (eC (.int 1))) oNone) aNil))) (gTp 2 (gsCons (gNm 2) (gsCons (gNm 3) gsNil))) tTrue (eBin opLt (eVar 2) (eVar 3)) [2, 3]) aNil))))
noncomputable abbrev F_is_lot (C : Cs) : MF := runB (m_is_lot C) 5
noncomputable def m_keepers_of (C : Cs) : MS :=
  (sRet (eCall (f1 tupK) (aCons (eLc false (eRng1 (aCons (eFld C.Group "many" (eVar 0)) aNil)) (gNm 2) (tB_ (eBin cEq (eCallM false (F_led_lot C) (aCons (eVar 0) (aCons (eVar 1) (aCons (eVar 2) aNil)))) (eVar 1))) (eVar 2) [2]) aNil)))
noncomputable abbrev F_keepers_of (C : Cs) : MF := runB (m_keepers_of C) 3
noncomputable def m_law_table (C : Cs) : MS :=
  (sSeq (sSet 1 (eCallM false (F_law_ring C) (aCons (eC (.int 2)) aNil))) (sSeq (sSet 2 (eLst false (aCons (eCallM false (F_law_ring C) (aCons (eBin (opAdd false) (eC (.int 1)) (eCallM false (F_law_draw C) (aCons (eVar 0) (aCons (eC (.int 8)) aNil)))) aNil)) (aCons (eCallM false (F_law_flips C) (aCons (eC (.int 3)) (aCons (eC (.int 0)) aNil))) (aCons (eCallM false (F_law_flips C) (aCons (eC (.int 4)) (aCons (eC (.int 0)) aNil))) (aCons (eCallM false (F_law_flips C) (aCons (eC (.int 4)) (aCons (eC (.int 2)) aNil))) aNil)))))) (sSeq (sSet 2 (eBin (opAdd false) (eVar 2) (eLst false (aCons (eCallM false (F_law_pairs C) (aCons (eVar 1) (aCons (eVar 1) aNil))) (aCons (eCallM false (F_law_pairs C) (aCons (eVar 1) (aCons (eCallM false (F_law_ring C) (aCons (eC (.int 4)) aNil)) aNil))) (aCons (eCallM false (F_law_pairs C) (aCons (eVar 1) (aCons (eCallM false (F_law_pairs C) (aCons (eVar 1) (aCons (eVar 1) aNil))) aNil))) aNil)))))) (sSeq (sSet 2 (eBin (opAdd false) (eVar 2) (eLst false (aCons (eCallM false (F_law_flips C) (aCons (eC (.int 2)) (aCons (eC (.int 0)) aNil))) aNil)))) (sSeq (sSet 3 (eCallM false (F_law_any C) (aCons (eVar 0) (aCons (eVar 2) aNil)))) (sRet (eCallM false (F_law_called C) (aCons (eVar 3) (aCons (eCallM false (F_law_names C) (aCons (eVar 0) (aCons (eCall (f1 lenK) (aCons (eVar 3) aNil)) aNil))) aNil)))))))))
noncomputable abbrev F_law_table (C : Cs) : MF := runB (m_law_table C) 4
noncomputable def m_is_part (C : Cs) : MS :=
  (sRet (eAnd (eCallM false (F_is_lot C) (aCons (eVar 0) (aCons (eVar 1) aNil))) (eAnd (eBin opGt (eCall (f1 lenK) (aCons (eVar 1) aNil)) (eC (.int 0))) (eBin cEq (eCallM false (F_closed_by C) (aCons (eVar 0) (aCons (eVar 1) aNil))) (eVar 1)))))
noncomputable abbrev F_is_part (C : Cs) : MF := runB (m_is_part C) 2
noncomputable def m_check_part (C : Cs) : MS :=
  (sIf (tNot_ (tB_ (eCallM false (F_is_part C) (aCons (eVar 0) (aCons (eVar 1) aNil))))) (sRaise C.NoPart) sNil)
noncomputable abbrev F_check_part (C : Cs) : MF := runB (m_check_part C) 2
noncomputable def m_led_together (C : Cs) : MS :=
  (sSeq (sExpr (eCallM false (F_check_part C) (aCons (eVar 0) (aCons (eVar 1) aNil)))) (sSeq (sPar 2 3 (aCons (eNewD false true) (aCons (eLst true aNil) aNil))) (sSeq (sFor (iSeq (eVar 1)) (gNm 4) (sIf (tB_ (eBin (opIn true) (eVar 4) (eVar 2))) (sSeq (sSet 5 (eDc false (eRng1 (aCons (eFld C.Group "many" (eVar 0)) aNil)) (gNm 7) tTrue (eCallM false (F_about C) (aCons (eVar 0) (aCons (eVar 4) (aCons (eVar 7) aNil)))) (eC (.bl true)) [7])) (sSeq (sSet 6 (eCall (f1 tupK) (aCons (eLc false (iSeq (eVar 1)) (gNm 8) (tB_ (eBin (opIn false) (eVar 8) (eVar 5))) (eVar 8) [8]) aNil))) (sSeq (sExpr (eM "dict" mUpd (eVar 2) (aCons (eDc false (iSeq (eVar 6)) (gNm 8) tTrue (eVar 8) (eC (.bl true)) [8]) aNil))) (sExpr (eM "list" mAppend (eVar 3) (aCons (eVar 6) aNil)))))) sNil)) (sRet (eVar 3)))))
noncomputable abbrev F_led_together (C : Cs) : MF := runB (m_led_together C) 9
noncomputable def m_led_within (C : Cs) : MS :=
  (sSeq (sExpr (eCallM false (F_check_part C) (aCons (eVar 0) (aCons (eVar 1) aNil)))) (sSeq (sPar 2 3 (aCons (eNewD false true) (aCons (eLst true aNil) aNil))) (sSeq (sFor (iSeq (eVar 1)) (gNm 4) (sIf (tB_ (eBin (opIn true) (eVar 4) (eVar 2))) (sSeq (sSet 5 (eCall (f1 tupK) (aCons (eCall (f1 (sortK false)) (aCons (eDc false (iSeq (eVar 1)) (gNm 7) tTrue (eCallM false (F_about C) (aCons (eVar 0) (aCons (eVar 4) (aCons (eVar 7) aNil)))) (eC (.bl true)) [7]) aNil)) aNil))) (sSeq (sExpr (eM "dict" mUpd (eVar 2) (aCons (eDc false (iSeq (eVar 5)) (gNm 6) tTrue (eVar 6) (eC (.bl true)) [6]) aNil))) (sExpr (eM "list" mAppend (eVar 3) (aCons (eVar 5) aNil))))) sNil)) (sRet (eVar 3)))))
noncomputable abbrev F_led_within (C : Cs) : MF := runB (m_led_within C) 8
noncomputable def m_moves_of (C : Cs) : MS :=
  (sSeq (sExpr (eCallM false (F_check_part C) (aCons (eVar 0) (aCons (eVar 1) aNil)))) (sSeq (sSet 2 (eNewD true true)) (sSeq (sFor (eRng1 (aCons (eFld C.Group "many" (eVar 0)) aNil)) (gNm 3) (sExpr (eM "dict" mSetd (eVar 2) (aCons (eCallM false (F_led_lot C) (aCons (eVar 0) (aCons (eVar 1) (aCons (eVar 3) aNil)))) (aCons (eVar 3) aNil))))) (sRet (eSortIt (eVar 2))))))
noncomputable abbrev F_moves_of (C : Cs) : MF := runB (m_moves_of C) 4
noncomputable def m_keeps_leading (C : Cs) : MS :=
  (sRet (eBin cEq (eCallM false (F_led_together C) (aCons (eVar 0) (aCons (eVar 1) aNil))) (eCallM false (F_led_within C) (aCons (eVar 0) (aCons (eVar 1) aNil)))))
noncomputable abbrev F_keeps_leading (C : Cs) : MF := runB (m_keeps_leading C) 2
noncomputable def m_is_kept_leading (C : Cs) : MS :=
  (sSeq (sExpr (eCallM false (F_check_part C) (aCons (eVar 0) (aCons (eVar 1) aNil)))) (sSeq (sSet 2 (eCallM false (F_keepers_of C) (aCons (eVar 0) (aCons (eVar 1) aNil)))) (sSeq (sFor (iSeq (eCallM false (F_led_together C) (aCons (eVar 0) (aCons (eVar 1) aNil)))) (gNm 3) (sSeq (sSet 4 (eDc false (iSeq (eVar 2)) (gNm 5) tTrue (eCallM false (F_about C) (aCons (eVar 0) (aCons (eBin ixF (eVar 3) (eC (.int 0))) (aCons (eVar 5) aNil)))) (eC (.bl true)) [5])) (sIf (tNot_ (tB_ (eCall (f1 allK) (aCons (eLc false (iSeq (eVar 3)) (gNm 6) tTrue (eBin (opIn false) (eVar 6) (eVar 4)) [6]) aNil)))) (sRet (eC (.bl false))) sNil))) (sRet (eC (.bl true))))))
noncomputable abbrev F_is_kept_leading (C : Cs) : MF := runB (m_is_kept_leading C) 7
noncomputable def m_differences (C : Cs) : MS :=
  (sSeq (sExpr (eCallM false (F_check_part C) (aCons (eVar 0) (aCons (eVar 1) aNil)))) (sSeq (sSet 2 (eNewD false true)) (sSeq (sFor (iSeq (eCallM false (F_led_together C) (aCons (eVar 0) (aCons (eVar 1) aNil)))) (gNm 3) (sFor (iSeq (eVar 3)) (gNm 4) (sFor (iSeq (eVar 3)) (gNm 5) (sAsg (gSb (eVar 2) (eBin ixF (eBin ixF (eFld C.Group "table" (eVar 0)) (eBin ixF (eFld C.Group "backs" (eVar 0)) (eVar 4))) (eVar 5))) (eC (.bl true)))))) (sRet (eCallM false (F_closed_by C) (aCons (eVar 0) (aCons (eCall (f1 tupK) (aCons (eCall (f1 (sortK false)) (aCons (eVar 2) aNil)) aNil)) aNil)))))))
noncomputable abbrev F_differences (C : Cs) : MF := runB (m_differences C) 6
section
variable {P : Program} {w : World} {K : PySem.W.Frag} {mg : Str → Option Value} {base : Heap} {C : Cs} {f : Addr} {fd : FuncData}
theorem sc_is_integer : FnScope ["thing"] ["thing"] (defScope s_is_integer) := ⟨rfl, rfl, rfl, by decide +kernel, rfl, by decide +kernel, by decide +kernel⟩
theorem ok_is_integer (T : Txt K mg C) (F : Fun K "is_integer" "is_integer" s_is_integer f fd) : FnOk P w K mg base (L2.CX P w) 1 f fd ["thing"] (spM K 1 (F_is_integer C)) :=
  fn_mir (k := 0) F sc_is_integer rfl rfl fun cdv A outer s H E hr => by
    have hu := u_room hr
    have hp := pass_body (P := P) (w := w) (K := K) (mg := mg) (base := base) (N := ["thing"]) (qual := "is_integer") (scope := defScope s_is_integer) (f := f) (cd := cdv) (A := A) (outer := outer) (s := s) (H := H) (E := E)
    have ho := own_body (P := P) (w := w) (K := K) (mg := mg) (base := base) (N := ["thing"]) (qual := "is_integer") (scope := defScope s_is_integer) (f := f) (cd := cdv) (A := A) (outer := outer) (s := s) (H := H) (E := E)
    have nd := sc_is_integer.nd
    exact (d_sone (d_ret (d_eand (d_callB call_isi r_isi (by rfl) T.z_isinstance (by decide +kernel) (d_acons (d_var 0) (d_acons (d_ty "int" (by rfl) T.z_int (by decide +kernel)) d_anil))) (d_one (d_enot (d_callB call_isi r_isi (by rfl) T.z_isinstance (by decide +kernel) (d_acons (d_var 0) (d_acons (d_ty "bool" (by rfl) T.z_bool (by decide +kernel)) d_anil))))))))
theorem sc_is_tuple : FnScope ["thing", "least", "most"] ["thing", "least", "most"] (defScope s_is_tuple) := ⟨rfl, rfl, rfl, by decide +kernel, rfl, by decide +kernel, by decide +kernel⟩
theorem ok_is_tuple (T : Txt K mg C) (F : Fun K "is_tuple" "is_tuple" s_is_tuple f fd) : FnOk P w K mg base (L2.CX P w) 1 f fd ["thing", "least", "most"] (spM K 3 (F_is_tuple C)) :=
  fn_mir (k := 0) F sc_is_tuple rfl rfl fun cdv A outer s H E hr => by
    have hu := u_room hr
    have hp := pass_body (P := P) (w := w) (K := K) (mg := mg) (base := base) (N := ["thing", "least", "most"]) (qual := "is_tuple") (scope := defScope s_is_tuple) (f := f) (cd := cdv) (A := A) (outer := outer) (s := s) (H := H) (E := E)
    have ho := own_body (P := P) (w := w) (K := K) (mg := mg) (base := base) (N := ["thing", "least", "most"]) (qual := "is_tuple") (scope := defScope s_is_tuple) (f := f) (cd := cdv) (A := A) (outer := outer) (s := s) (H := H) (E := E)
    have nd := sc_is_tuple.nd
    exact (d_sone (d_ret (d_eand (d_callB call_isi r_isi (by rfl) T.z_isinstance (by decide +kernel) (d_acons (d_var 0) (d_acons (d_ty "tuple" (by rfl) T.z_tuple (by decide +kernel)) d_anil))) (d_one (d_chain op_le op_le r_cmp r_cmp (d_var 1) (d_callB c_len r_len (by rfl) T.z_len (by decide +kernel) (d_acons (d_var 0) d_anil)) (d_var 2))))))
theorem sc_goes_together : FnScope ["table", "row", "b", "one", "far"] ["table"] (defScope s_goes_together) := ⟨rfl, rfl, rfl, by decide +kernel, rfl, by decide +kernel, by decide +kernel⟩
theorem ok_goes_together (T : Txt K mg C) (F : Fun K "goes_together" "goes_together" s_goes_together f fd) : FnOk P w K mg base (L2.CX P w) 1 f fd ["table"] (spM K 1 (F_goes_together C)) :=
  fn_mir (k := 0) F sc_goes_together rfl rfl fun cdv A outer s H E hr => by
    have hu := u_room hr
    have hp := pass_body (P := P) (w := w) (K := K) (mg := mg) (base := base) (N := ["table", "row", "b", "one", "far"]) (qual := "goes_together") (scope := defScope s_goes_together) (f := f) (cd := cdv) (A := A) (outer := outer) (s := s) (H := H) (E := E)
    have ho := own_body (P := P) (w := w) (K := K) (mg := mg) (base := base) (N := ["table", "row", "b", "one", "far"]) (qual := "goes_together") (scope := defScope s_goes_together) (f := f) (cd := cdv) (A := A) (outer := outer) (s := s) (H := H) (E := E)
    have nd := sc_goes_together.nd
    exact (d_scons (d_for ho rfl (d_isq (d_var 0)) (d_gname 1 nd) (d_sone (d_for ho rfl (d_ien (by rfl) T.z_enumerate (d_acons (d_var 1) d_anil)) (d_gtup rfl (d_gscons (d_gname 2 nd) (d_gscons (d_gname 3 nd) d_gsnil))) (d_sone (d_sif (d_tcmp (op_neD (u64 hu)) r_ne (d_callTy call_tuple_of r_tuple (by rfl) T.z_tuple (by decide +kernel) (d_acons (d_lc (own := [("far", 4)]) false rfl nd (d_isq (d_ix (u1 hu) (d_var 0) (d_var 2) (fun _ _ => rfl))) (blkOk_by (by kernel_rfl)) (fun _ _ _ _ _ => (d_wname 4 (by decide) nd)) (fun _ _ _ _ _ => d_ifs0) (fun _ _ _ _ _ => (d_ix (u1 hu) (d_var 1) (d_var 4) (fun _ _ => rfl)))) d_anil)) (d_ix (u1 hu) (d_var 0) (d_var 3) (fun _ _ => rfl))) (d_sone (d_ret d_bl)) d_snil))))) (d_sone (d_ret d_bl)))
theorem sc_about : FnScope ["group", "one", "other"] ["group", "one", "other"] (defScope s_about) := ⟨rfl, rfl, rfl, by decide +kernel, rfl, by decide +kernel, by decide +kernel⟩
theorem ok_about (T : Txt K mg C) (F : Fun K "about" "about" s_about f fd) : FnOk P w K mg base (L2.CX P w) 1 f fd ["group", "one", "other"] (spM K 3 (F_about C)) :=
  fn_mir (k := 0) F sc_about rfl rfl fun cdv A outer s H E hr => by
    have hu := u_room hr
    have hp := pass_body (P := P) (w := w) (K := K) (mg := mg) (base := base) (N := ["group", "one", "other"]) (qual := "about") (scope := defScope s_about) (f := f) (cd := cdv) (A := A) (outer := outer) (s := s) (H := H) (E := E)
    have ho := own_body (P := P) (w := w) (K := K) (mg := mg) (base := base) (N := ["group", "one", "other"]) (qual := "about") (scope := defScope s_about) (f := f) (cd := cdv) (A := A) (outer := outer) (s := s) (H := H) (E := E)
    have nd := sc_about.nd
    exact (d_sone (d_ret (d_ix (u1 hu) (d_ix (u1 hu) (d_fld T.cl_Group T.na_Group_table (d_var 0)) (d_ix (u1 hu) (d_ix (u1 hu) (d_fld T.cl_Group T.na_Group_table (d_var 0)) (d_ix (u1 hu) (d_fld T.cl_Group T.na_Group_backs (d_var 0)) (d_var 2) (fun _ _ => rfl)) (fun _ _ => rfl)) (d_var 1) (fun _ _ => rfl)) (fun _ _ => rfl)) (d_var 2) (fun _ _ => rfl))))
theorem sc_closed_by : FnScope ["group", "some", "found", "waiting", "here", "one", "later"] ["group", "some"] (defScope s_closed_by) := ⟨rfl, rfl, rfl, by decide +kernel, rfl, by decide +kernel, by decide +kernel⟩
theorem ok_closed_by (T : Txt K mg C) (F : Fun K "closed_by" "closed_by" s_closed_by f fd) : FnOk P w K mg base (L2.CX P w) 1 f fd ["group", "some"] (spM K 2 (F_closed_by C)) :=
  fn_mir (k := 0) F sc_closed_by rfl rfl fun cdv A outer s H E hr => by
    have hu := u_room hr
    have hp := pass_body (P := P) (w := w) (K := K) (mg := mg) (base := base) (N := ["group", "some", "found", "waiting", "here", "one", "later"]) (qual := "closed_by") (scope := defScope s_closed_by) (f := f) (cd := cdv) (A := A) (outer := outer) (s := s) (H := H) (E := E)
    have ho := own_body (P := P) (w := w) (K := K) (mg := mg) (base := base) (N := ["group", "some", "found", "waiting", "here", "one", "later"]) (qual := "closed_by") (scope := defScope s_closed_by) (f := f) (cd := cdv) (A := A) (outer := outer) (s := s) (H := H) (E := E)
    have nd := sc_closed_by.nd
    exact (d_scons (d_par (i := 2) (j := 3) rfl nd (d_acons (d_disp d_int d_bl) (d_acons (d_lst true (d_acons d_int d_anil)) d_anil))) (d_scons (d_while 100000 ho (d_tcmp op_gt r_cmp (d_callB c_len r_len (by rfl) T.z_len (by decide +kernel) (d_acons (d_var 3) d_anil)) d_int) (d_scons (d_set 4 nd (d_m0 PySem.F.plainAttrs_list PySem.F.slot_list_pop PySem.F.type_list_pop m_pop r_pop (d_var 3))) (d_sone (d_for ho rfl (d_isq (d_var 1)) (d_gname 5 nd) (d_scons (d_set 6 nd (d_ix (u1 hu) (d_ix (u1 hu) (d_fld T.cl_Group T.na_Group_table (d_var 0)) (d_var 4) (fun _ _ => rfl)) (d_var 5) (fun _ _ => rfl))) (d_sone (d_sif (d_tcmp (o_notIn (u65 hu)) r_notIn (d_var 6) (d_var 2)) (d_scons (d_asg d_bl (d_gsub (u1 hu) (d_var 2) (d_var 6))) (d_sone (d_expr (d_m PySem.F.plainAttrs_list PySem.F.slot_list_append PySem.F.type_list_append mt_append r_append (d_var 3) (d_acons (d_var 6) d_anil))))) d_snil))))))) (d_sone (d_ret (d_callTy call_tuple_of r_tuple (by rfl) T.z_tuple (by decide +kernel) (d_acons (d_callB (c_sort rfl hu) (r_sort false) (by rfl) T.z_sorted (by decide +kernel) (d_acons (d_var 2) d_anil)) d_anil))))))
theorem sc_law_hand : FnScope ["script", "number_row", "cell"] ["script"] (defScope s_law_hand) := ⟨rfl, rfl, rfl, by decide +kernel, rfl, by decide +kernel, by decide +kernel⟩
theorem ok_law_hand (T : Txt K mg C) (F : Fun K "_law_hand" "_law_hand" s_law_hand f fd) : FnOk P w K mg base (L2.CX P w) 1 f fd ["script"] (spM K 1 (F_law_hand C)) :=
  fn_mir (k := 0) F sc_law_hand rfl rfl fun cdv A outer s H E hr => by
    have hu := u_room hr
    have hp := pass_body (P := P) (w := w) (K := K) (mg := mg) (base := base) (N := ["script", "number_row", "cell"]) (qual := "_law_hand") (scope := defScope s_law_hand) (f := f) (cd := cdv) (A := A) (outer := outer) (s := s) (H := H) (E := E)
    have ho := own_body (P := P) (w := w) (K := K) (mg := mg) (base := base) (N := ["script", "number_row", "cell"]) (qual := "_law_hand") (scope := defScope s_law_hand) (f := f) (cd := cdv) (A := A) (outer := outer) (s := s) (H := H) (E := E)
    have nd := sc_law_hand.nd
    exact (d_scons (d_setLc (i := 1) (own := [("cell", 2)]) false rfl nd (d_isq (d_sl false (d_var 0) d_onone (d_osome d_int))) (blkOk_by (by kernel_rfl)) (fun _ _ _ _ _ => (d_wname 2 (by decide) nd)) (fun _ _ _ _ _ => d_ifs0) (fun _ _ _ _ _ => (d_callB call_abs r_abs (by rfl) T.z_abs (by decide +kernel) (d_acons (d_callTy call_int1 r_int1 (by rfl) T.z_int (by decide +kernel) (d_acons (d_var 2) d_anil)) d_anil)))) (d_sone (d_ret (d_lst true (d_acons (d_var 1) (d_acons d_int (d_acons d_int (d_acons (d_op o_add (r_add false) d_int (d_op o_mul (r_mul false) d_int (d_callB c_len r_len (by rfl) T.z_len (by decide +kernel) (d_acons (d_var 1) d_anil)))) (d_acons d_int d_anil)))))))))
theorem sc_law_draw : FnScope ["hand", "many", "cell", "digit", "number"] ["hand", "many"] (defScope s_law_draw) := ⟨rfl, rfl, rfl, by decide +kernel, rfl, by decide +kernel, by decide +kernel⟩
theorem ok_law_draw (T : Txt K mg C) (F : Fun K "_law_draw" "_law_draw" s_law_draw f fd) : FnOk P w K mg base (L2.CX P w) 1 f fd ["hand", "many"] (spM K 2 (F_law_draw C)) :=
  fn_mir (k := 0) F sc_law_draw rfl rfl fun cdv A outer s H E hr => by
    have hu := u_room hr
    have hp := pass_body (P := P) (w := w) (K := K) (mg := mg) (base := base) (N := ["hand", "many", "cell", "digit", "number"]) (qual := "_law_draw") (scope := defScope s_law_draw) (f := f) (cd := cdv) (A := A) (outer := outer) (s := s) (H := H) (E := E)
    have ho := own_body (P := P) (w := w) (K := K) (mg := mg) (base := base) (N := ["hand", "many", "cell", "digit", "number"]) (qual := "_law_draw") (scope := defScope s_law_draw) (f := f) (cd := cdv) (A := A) (outer := outer) (s := s) (H := H) (E := E)
    have nd := sc_law_draw.nd
    exact (d_scons (d_sif (d_w (d_and (d_tcmp (op_eqD (u64 hu)) r_eq (d_ix (u1 hu) (d_var 0) d_int (fun _ _ => rfl)) d_int) (d_and1 (d_tcmp op_lt r_cmp (d_ix (u1 hu) (d_var 0) d_int (fun _ _ => rfl)) (d_callB c_len r_len (by rfl) T.z_len (by decide +kernel) (d_acons (d_ix (u1 hu) (d_var 0) d_int (fun _ _ => rfl)) d_anil)))))) (d_scons (d_set 2 nd (d_ix (u1 hu) (d_ix (u1 hu) (d_var 0) d_int (fun _ _ => rfl)) (d_ix (u1 hu) (d_var 0) d_int (fun _ _ => rfl)) (fun _ _ => rfl))) (d_scons (d_asg (d_op o_add (r_add false) (d_ix (u1 hu) (d_var 0) d_int (fun _ _ => rfl)) d_int) (d_gsub (u1 hu) (d_var 0) d_int)) (d_scons (d_asg (d_op op_modN r_mod (d_callTy call_int1 r_int1 (by rfl) T.z_int (by decide +kernel) (d_acons (d_op o_add (r_add false) (d_op o_add (r_add false) (d_op o_mul (r_mul false) (d_ix (u1 hu) (d_var 0) d_int (fun _ _ => rfl)) d_int) (d_op o_mul (r_mul false) (d_var 2) d_int)) d_int) d_anil)) d_int) (d_gsub (u1 hu) (d_var 0) d_int)) (d_sone (d_sif (d_tcmp op_ge r_cmp (d_var 2) (d_op op_pow r_pow d_int d_int)) (d_sone (d_asg (d_var 2) (d_gsub (u1 hu) (d_var 0) d_int))) d_snil))))) d_snil) (d_scons (d_sif (d_tcmp op_gt r_cmp (d_ix (u1 hu) (d_var 0) d_int (fun _ _ => rfl)) d_int) (d_scons (d_set 3 nd (d_op op_modN r_mod (d_callTy call_int1 r_int1 (by rfl) T.z_int (by decide +kernel) (d_acons (d_ix (u1 hu) (d_var 0) d_int (fun _ _ => rfl)) d_anil)) (d_var 1))) (d_scons (d_asg (d_op op_fdivN r_fdiv (d_ix (u1 hu) (d_var 0) d_int (fun _ _ => rfl)) (d_var 1)) (d_gsub (u1 hu) (d_var 0) d_int)) (d_sone (d_ret (d_var 3))))) d_snil) (d_scons (d_asg (d_op o_add (r_add false) (d_ix (u1 hu) (d_var 0) d_int (fun _ _ => rfl)) d_int) (d_gsub (u1 hu) (d_var 0) d_int)) (d_scons (d_set 4 nd (d_op op_modN r_mod (d_callTy call_int1 r_int1 (by rfl) T.z_int (by decide +kernel) (d_acons (d_op o_mul (r_mul false) (d_callTy call_int1 r_int1 (by rfl) T.z_int (by decide +kernel) (d_acons (d_op o_add (r_add false) (d_ix (u1 hu) (d_var 0) d_int (fun _ _ => rfl)) (d_op o_mul (r_mul false) d_int (d_ix (u1 hu) (d_var 0) d_int (fun _ _ => rfl)))) d_anil)) d_int) d_anil)) d_int)) (d_scons (d_set 4 nd (d_op op_modN r_mod (d_callTy call_int1 r_int1 (by rfl) T.z_int (by decide +kernel) (d_acons (d_op o_mul (r_mul false) (d_var 4) (d_op o_add (r_add false) (d_op op_fdivN r_fdiv (d_var 4) d_int) d_int)) d_anil)) d_int)) (d_scons (d_set 4 nd (d_op op_modN r_mod (d_callTy call_int1 r_int1 (by rfl) T.z_int (by decide +kernel) (d_acons (d_op o_mul (r_mul false) (d_var 4) (d_op o_add (r_add false) (d_op op_fdivN r_fdiv (d_var 4) d_int) d_int)) d_anil)) d_int)) (d_sone (d_ret (d_op op_modN r_mod (d_callTy call_int1 r_int1 (by rfl) T.z_int (by decide +kernel) (d_acons (d_op op_fdivN r_fdiv (d_var 4) d_int) d_anil)) (d_var 1))))))))))
theorem sc_law_ring : FnScope ["many", "one", "other"] ["many"] (defScope s_law_ring) := ⟨rfl, rfl, rfl, by decide +kernel, rfl, by decide +kernel, by decide +kernel⟩
theorem ok_law_ring (T : Txt K mg C) (F : Fun K "_law_ring" "_law_ring" s_law_ring f fd) : FnOk P w K mg base (L2.CX P w) 1 f fd ["many"] (spM K 1 (F_law_ring C)) :=
  fn_mir (k := 0) F sc_law_ring rfl rfl fun cdv A outer s H E hr => by
    have hu := u_room hr
    have hp := pass_body (P := P) (w := w) (K := K) (mg := mg) (base := base) (N := ["many", "one", "other"]) (qual := "_law_ring") (scope := defScope s_law_ring) (f := f) (cd := cdv) (A := A) (outer := outer) (s := s) (H := H) (E := E)
    have ho := own_body (P := P) (w := w) (K := K) (mg := mg) (base := base) (N := ["many", "one", "other"]) (qual := "_law_ring") (scope := defScope s_law_ring) (f := f) (cd := cdv) (A := A) (outer := outer) (s := s) (H := H) (E := E)
    have nd := sc_law_ring.nd
    exact (d_sone (d_ret (d_callTy call_tuple_of r_tuple (by rfl) T.z_tuple (by decide +kernel) (d_acons (d_lc (own := [("one", 1)]) false rfl nd (d_irng1 (by rfl) T.z_range (d_acons (d_var 0) d_anil)) (blkOk_by (by kernel_rfl)) (fun _ _ _ _ _ => (d_wname 1 (by decide) nd)) (fun _ _ _ _ _ => d_ifs0) (fun _ _ _ _ _ => (d_callTy call_tuple_of r_tuple (by rfl) T.z_tuple (by decide +kernel) (d_acons (d_lc (own := [("other", 2)]) false rfl nd (d_irng1 (by rfl) T.z_range (d_acons (d_var 0) d_anil)) (blkOk_by (by kernel_rfl)) (fun _ _ _ _ _ => (d_wname 2 (by decide) nd)) (fun _ _ _ _ _ => d_ifs0) (fun _ _ _ _ _ => (d_op op_modN r_mod (d_callTy call_int1 r_int1 (by rfl) T.z_int (by decide +kernel) (d_acons (d_op o_add (r_add false) (d_var 1) (d_var 2)) d_anil)) (d_var 0)))) d_anil)))) d_anil))))
theorem sc_law_flips : FnScope ["many", "half", "found", "one", "row", "other", "sign", "turned_by", "part"] ["many", "half"] (defScope s_law_flips) := ⟨rfl, rfl, rfl, by decide +kernel, rfl, by decide +kernel, by decide +kernel⟩
theorem ok_law_flips (T : Txt K mg C) (F : Fun K "_law_flips" "_law_flips" s_law_flips f fd) : FnOk P w K mg base (L2.CX P w) 1 f fd ["many", "half"] (spM K 2 (F_law_flips C)) :=
  fn_mir (k := 0) F sc_law_flips rfl rfl fun cdv A outer s H E hr => by
    have hu := u_room hr
    have hp := pass_body (P := P) (w := w) (K := K) (mg := mg) (base := base) (N := ["many", "half", "found", "one", "row", "other", "sign", "turned_by", "part"]) (qual := "_law_flips") (scope := defScope s_law_flips) (f := f) (cd := cdv) (A := A) (outer := outer) (s := s) (H := H) (E := E)
    have ho := own_body (P := P) (w := w) (K := K) (mg := mg) (base := base) (N := ["many", "half", "found", "one", "row", "other", "sign", "turned_by", "part"]) (qual := "_law_flips") (scope := defScope s_law_flips) (f := f) (cd := cdv) (A := A) (outer := outer) (s := s) (H := H) (E := E)
    have nd := sc_law_flips.nd
    exact (d_scons (d_set 2 nd (d_lst true d_anil)) (d_scons (d_for ho rfl (d_irng1 (by rfl) T.z_range (d_acons (d_op o_mul (r_mul false) d_int (d_var 0)) d_anil)) (d_gname 3 nd) (d_scons (d_set 4 nd (d_lst true d_anil)) (d_scons (d_for ho rfl (d_irng1 (by rfl) T.z_range (d_acons (d_op o_mul (r_mul false) d_int (d_var 0)) d_anil)) (d_gname 5 nd) (d_scons (d_set 6 nd (d_if (d_tcmp op_lt r_cmp (d_var 3) (d_var 0)) d_int (d_neg d_int))) (d_scons (d_set 7 nd (d_op o_add (r_add false) (d_op op_modN r_mod (d_callTy call_int1 r_int1 (by rfl) T.z_int (by decide +kernel) (d_acons (d_var 3) d_anil)) (d_var 0)) (d_op o_mul (r_mul false) (d_var 6) (d_op op_modN r_mod (d_callTy call_int1 r_int1 (by rfl) T.z_int (by decide +kernel) (d_acons (d_var 5) d_anil)) (d_var 0))))) (d_scons (d_sif (d_w (d_and (d_tcmp op_ge r_cmp (d_var 3) (d_var 0)) (d_and1 (d_tcmp op_ge r_cmp (d_var 5) (d_var 0))))) (d_sone (d_set 7 nd (d_op o_add (r_add false) (d_var 7) (d_var 1)))) d_snil) (d_scons (d_set 8 nd (d_op o_mul (r_mul false) (d_var 0) (d_callTy call_int1 r_int1 (by rfl) T.z_int (by decide +kernel) (d_acons (d_cmp (op_neD (u64 hu)) r_ne (d_cmp op_ge r_cmp (d_var 3) (d_var 0)) (d_cmp op_ge r_cmp (d_var 5) (d_var 0))) d_anil)))) (d_sone (d_expr (d_m PySem.F.plainAttrs_list PySem.F.slot_list_append PySem.F.type_list_append mt_append r_append (d_var 4) (d_acons (d_op o_add (r_add false) (d_op op_modN r_mod (d_callTy call_int1 r_int1 (by rfl) T.z_int (by decide +kernel) (d_acons (d_var 7) d_anil)) (d_var 0)) (d_var 8)) d_anil))))))))) (d_sone (d_expr (d_m PySem.F.plainAttrs_list PySem.F.slot_list_append PySem.F.type_list_append mt_append r_append (d_var 2) (d_acons (d_callTy call_tuple_of r_tuple (by rfl) T.z_tuple (by decide +kernel) (d_acons (d_var 4) d_anil)) d_anil))))))) (d_sone (d_ret (d_callTy call_tuple_of r_tuple (by rfl) T.z_tuple (by decide +kernel) (d_acons (d_var 2) d_anil))))))
theorem sc_law_pairs : FnScope ["one", "other", "size", "found", "a", "row", "b", "first"] ["one", "other"] (defScope s_law_pairs) := ⟨rfl, rfl, rfl, by decide +kernel, rfl, by decide +kernel, by decide +kernel⟩
theorem ok_law_pairs (T : Txt K mg C) (F : Fun K "_law_pairs" "_law_pairs" s_law_pairs f fd) : FnOk P w K mg base (L2.CX P w) 1 f fd ["one", "other"] (spM K 2 (F_law_pairs C)) :=
  fn_mir (k := 0) F sc_law_pairs rfl rfl fun cdv A outer s H E hr => by
    have hu := u_room hr
    have hp := pass_body (P := P) (w := w) (K := K) (mg := mg) (base := base) (N := ["one", "other", "size", "found", "a", "row", "b", "first"]) (qual := "_law_pairs") (scope := defScope s_law_pairs) (f := f) (cd := cdv) (A := A) (outer := outer) (s := s) (H := H) (E := E)
    have ho := own_body (P := P) (w := w) (K := K) (mg := mg) (base := base) (N := ["one", "other", "size", "found", "a", "row", "b", "first"]) (qual := "_law_pairs") (scope := defScope s_law_pairs) (f := f) (cd := cdv) (A := A) (outer := outer) (s := s) (H := H) (E := E)
    have nd := sc_law_pairs.nd
    exact (d_scons (d_par (i := 2) (j := 3) rfl nd (d_acons (d_callB c_len r_len (by rfl) T.z_len (by decide +kernel) (d_acons (d_var 1) d_anil)) (d_acons (d_lst true d_anil) d_anil))) (d_scons (d_for ho rfl (d_irng1 (by rfl) T.z_range (d_acons (d_op o_mul (r_mul false) (d_callB c_len r_len (by rfl) T.z_len (by decide +kernel) (d_acons (d_var 0) d_anil)) (d_var 2)) d_anil)) (d_gname 4 nd) (d_scons (d_set 5 nd (d_lst true d_anil)) (d_scons (d_for ho rfl (d_irng1 (by rfl) T.z_range (d_acons (d_op o_mul (r_mul false) (d_callB c_len r_len (by rfl) T.z_len (by decide +kernel) (d_acons (d_var 0) d_anil)) (d_var 2)) d_anil)) (d_gname 6 nd) (d_scons (d_set 7 nd (d_op o_mul (r_mul false) (d_ix (u1 hu) (d_ix (u1 hu) (d_var 0) (d_op op_fdivN r_fdiv (d_var 4) (d_var 2)) (fun _ _ => rfl)) (d_op op_fdivN r_fdiv (d_var 6) (d_var 2)) (fun _ _ => rfl)) (d_var 2))) (d_sone (d_expr (d_m PySem.F.plainAttrs_list PySem.F.slot_list_append PySem.F.type_list_append mt_append r_append (d_var 5) (d_acons (d_op o_add (r_add false) (d_var 7) (d_ix (u1 hu) (d_ix (u1 hu) (d_var 1) (d_op op_modN r_mod (d_callTy call_int1 r_int1 (by rfl) T.z_int (by decide +kernel) (d_acons (d_var 4) d_anil)) (d_var 2)) (fun _ _ => rfl)) (d_op op_modN r_mod (d_callTy call_int1 r_int1 (by rfl) T.z_int (by decide +kernel) (d_acons (d_var 6) d_anil)) (d_var 2)) (fun _ _ => rfl))) d_anil)))))) (d_sone (d_expr (d_m PySem.F.plainAttrs_list PySem.F.slot_list_append PySem.F.type_list_append mt_append r_append (d_var 3) (d_acons (d_callTy call_tuple_of r_tuple (by rfl) T.z_tuple (by decide +kernel) (d_acons (d_var 5) d_anil)) d_anil))))))) (d_sone (d_ret (d_callTy call_tuple_of r_tuple (by rfl) T.z_tuple (by decide +kernel) (d_acons (d_var 3) d_anil))))))
theorem sc_law_called : FnScope ["table_here", "names_here", "many", "found", "one", "other", "row"] ["table_here", "names_here"] (defScope s_law_called) := ⟨rfl, rfl, rfl, by decide +kernel, rfl, by decide +kernel, by decide +kernel⟩
theorem ok_law_called (T : Txt K mg C) (F : Fun K "_law_called" "_law_called" s_law_called f fd) : FnOk P w K mg base (L2.CX P w) 1 f fd ["table_here", "names_here"] (spM K 2 (F_law_called C)) :=
  fn_mir (k := 0) F sc_law_called rfl rfl fun cdv A outer s H E hr => by
    have hu := u_room hr
    have hp := pass_body (P := P) (w := w) (K := K) (mg := mg) (base := base) (N := ["table_here", "names_here", "many", "found", "one", "other", "row"]) (qual := "_law_called") (scope := defScope s_law_called) (f := f) (cd := cdv) (A := A) (outer := outer) (s := s) (H := H) (E := E)
    have ho := own_body (P := P) (w := w) (K := K) (mg := mg) (base := base) (N := ["table_here", "names_here", "many", "found", "one", "other", "row"]) (qual := "_law_called") (scope := defScope s_law_called) (f := f) (cd := cdv) (A := A) (outer := outer) (s := s) (H := H) (E := E)
    have nd := sc_law_called.nd
    exact (d_scons (d_set 2 nd (d_callB c_len r_len (by rfl) T.z_len (by decide +kernel) (d_acons (d_var 0) d_anil))) (d_scons (d_setLc (i := 3) (own := [("row", 6)]) true rfl nd (d_irng1 (by rfl) T.z_range (d_acons (d_var 2) d_anil)) (blkOk_by (by kernel_rfl)) (fun _ _ _ _ _ => (d_wname 6 (by decide) nd)) (fun _ _ _ _ _ => d_ifs0) (fun _ _ _ _ _ => (d_op o_mul (r_mul true) (d_lst true (d_acons d_int d_anil)) (d_var 2)))) (d_scons (d_for ho rfl (d_irng1 (by rfl) T.z_range (d_acons (d_var 2) d_anil)) (d_gname 4 nd) (d_sone (d_for ho rfl (d_irng1 (by rfl) T.z_range (d_acons (d_var 2) d_anil)) (d_gname 5 nd) (d_scons (d_set 6 nd (d_ix (u1 hu) (d_var 3) (d_ix (u1 hu) (d_var 1) (d_var 4) (fun _ _ => rfl)) (fun _ _ => rfl))) (d_sone (d_asg (d_ix (u1 hu) (d_var 1) (d_ix (u1 hu) (d_ix (u1 hu) (d_var 0) (d_var 4) (fun _ _ => rfl)) (d_var 5) (fun _ _ => rfl)) (fun _ _ => rfl)) (d_gsub (u1 hu) (d_var 6) (d_ix (u1 hu) (d_var 1) (d_var 5) (fun _ _ => rfl))))))))) (d_sone (d_ret (d_callTy call_tuple_of r_tuple (by rfl) T.z_tuple (by decide +kernel) (d_acons (d_lc (own := [("row", 6)]) false rfl nd (d_isq (d_var 3)) (blkOk_by (by kernel_rfl)) (fun _ _ _ _ _ => (d_wname 6 (by decide) nd)) (fun _ _ _ _ _ => d_ifs0) (fun _ _ _ _ _ => (d_callTy call_tupleF r_tupF (by rfl) T.z_tuple (by decide +kernel) (d_acons (d_var 6) d_anil)))) d_anil)))))))
theorem sc_law_closed : FnScope ["rows", "some", "found", "queue", "here", "one", "later"] ["rows", "some"] (defScope s_law_closed) := ⟨rfl, rfl, rfl, by decide +kernel, rfl, by decide +kernel, by decide +kernel⟩
theorem ok_law_closed (T : Txt K mg C) (F : Fun K "_law_closed" "_law_closed" s_law_closed f fd) : FnOk P w K mg base (L2.CX P w) 1 f fd ["rows", "some"] (spM K 2 (F_law_closed C)) :=
  fn_mir (k := 0) F sc_law_closed rfl rfl fun cdv A outer s H E hr => by
    have hu := u_room hr
    have hp := pass_body (P := P) (w := w) (K := K) (mg := mg) (base := base) (N := ["rows", "some", "found", "queue", "here", "one", "later"]) (qual := "_law_closed") (scope := defScope s_law_closed) (f := f) (cd := cdv) (A := A) (outer := outer) (s := s) (H := H) (E := E)
    have ho := own_body (P := P) (w := w) (K := K) (mg := mg) (base := base) (N := ["rows", "some", "found", "queue", "here", "one", "later"]) (qual := "_law_closed") (scope := defScope s_law_closed) (f := f) (cd := cdv) (A := A) (outer := outer) (s := s) (H := H) (E := E)
    have nd := sc_law_closed.nd
    exact (d_scons (d_par (i := 2) (j := 3) rfl nd (d_acons (d_disp d_int d_bl) (d_acons (d_lst true (d_acons d_int d_anil)) d_anil))) (d_scons (d_while 100000 ho (d_tcmp (op_neD (u64 hu)) r_ne (d_var 3) (d_lst false d_anil)) (d_scons (d_set 4 nd (d_m0 PySem.F.plainAttrs_list PySem.F.slot_list_pop PySem.F.type_list_pop m_pop r_pop (d_var 3))) (d_sone (d_for ho rfl (d_isq (d_var 1)) (d_gname 5 nd) (d_scons (d_set 6 nd (d_ix (u1 hu) (d_ix (u1 hu) (d_var 0) (d_var 4) (fun _ _ => rfl)) (d_var 5) (fun _ _ => rfl))) (d_sone (d_sif (d_tcmp (o_notIn (u65 hu)) r_notIn (d_var 6) (d_var 2)) (d_scons (d_asg d_bl (d_gsub (u1 hu) (d_var 2) (d_var 6))) (d_sone (d_expr (d_m PySem.F.plainAttrs_list PySem.F.slot_list_append PySem.F.type_list_append mt_append r_append (d_var 3) (d_acons (d_var 6) d_anil))))) d_snil))))))) (d_sone (d_ret (d_callTy call_tuple_of r_tuple (by rfl) T.z_tuple (by decide +kernel) (d_acons (d_callB (c_sort rfl hu) (r_sort false) (by rfl) T.z_sorted (by decide +kernel) (d_acons (d_var 2) d_anil)) d_anil))))))
theorem sc_law_led : FnScope ["rows", "one", "by"] ["rows", "one", "by"] (defScope s_law_led) := ⟨rfl, rfl, rfl, by decide +kernel, rfl, by decide +kernel, by decide +kernel⟩
theorem ok_law_led (T : Txt K mg C) (F : Fun K "_law_led" "_law_led" s_law_led f fd) : FnOk P w K mg base (L2.CX P w) 1 f fd ["rows", "one", "by"] (spM K 3 (F_law_led C)) :=
  fn_mir (k := 0) F sc_law_led rfl rfl fun cdv A outer s H E hr => by
    have hu := u_room hr
    have hp := pass_body (P := P) (w := w) (K := K) (mg := mg) (base := base) (N := ["rows", "one", "by"]) (qual := "_law_led") (scope := defScope s_law_led) (f := f) (cd := cdv) (A := A) (outer := outer) (s := s) (H := H) (E := E)
    have ho := own_body (P := P) (w := w) (K := K) (mg := mg) (base := base) (N := ["rows", "one", "by"]) (qual := "_law_led") (scope := defScope s_law_led) (f := f) (cd := cdv) (A := A) (outer := outer) (s := s) (H := H) (E := E)
    have nd := sc_law_led.nd
    exact (d_sone (d_ret (d_ix (u1 hu) (d_ix (u1 hu) (d_var 0) (d_ix (u1 hu) (d_ix (u1 hu) (d_var 0) (d_m PySem.F.plainAttrs_tuple PySem.F.slot_tuple_index PySem.F.type_tuple_index mt_tup_indexI r_tupIx (d_ix (u1 hu) (d_var 0) (d_var 2) (fun _ _ => rfl)) (d_acons d_int d_anil)) (fun _ _ => rfl)) (d_var 1) (fun _ _ => rfl)) (fun _ _ => rfl)) (d_var 2) (fun _ _ => rfl))))
theorem sc_is_within : FnScope ["thing", "least", "most"] ["thing", "least", "most"] (defScope s_is_within) := ⟨rfl, rfl, rfl, by decide +kernel, rfl, by decide +kernel, by decide +kernel⟩
theorem ok_is_within (T : Txt K mg C) (F : Fun K "is_within" "is_within" s_is_within f fd) (G_is_integer : Fnc P w K mg base 1 "is_integer" 1 (F_is_integer C)) : FnOk P w K mg base (L2.CX P w) 2 f fd ["thing", "least", "most"] (spM K 3 (F_is_within C)) :=
  fn_mir (k := 1) F sc_is_within rfl rfl fun cdv A outer s H E hr => by
    have hu := u_room hr
    have hp := pass_body (P := P) (w := w) (K := K) (mg := mg) (base := base) (N := ["thing", "least", "most"]) (qual := "is_within") (scope := defScope s_is_within) (f := f) (cd := cdv) (A := A) (outer := outer) (s := s) (H := H) (E := E)
    have ho := own_body (P := P) (w := w) (K := K) (mg := mg) (base := base) (N := ["thing", "least", "most"]) (qual := "is_within") (scope := defScope s_is_within) (f := f) (cd := cdv) (A := A) (outer := outer) (s := s) (H := H) (E := E)
    have nd := sc_is_within.nd
    exact (d_sone (d_ret (d_eand (d_callF false G_is_integer hr hp (by rfl) (d_acons (d_var 0) d_anil) (al_cons al_nil)) (d_one (d_chain op_le op_le r_cmp r_cmp (d_var 1) (d_var 0) (d_var 2))))))
theorem sc_led_lot : FnScope ["group", "lot", "one", "far"] ["group", "lot", "one"] (defScope s_led_lot) := ⟨rfl, rfl, rfl, by decide +kernel, rfl, by decide +kernel, by decide +kernel⟩
theorem ok_led_lot (T : Txt K mg C) (F : Fun K "led_lot" "led_lot" s_led_lot f fd) (G_about : Fnc P w K mg base 1 "about" 3 (F_about C)) : FnOk P w K mg base (L2.CX P w) 2 f fd ["group", "lot", "one"] (spM K 3 (F_led_lot C)) :=
  fn_mir (k := 1) F sc_led_lot rfl rfl fun cdv A outer s H E hr => by
    have hu := u_room hr
    have hp := pass_body (P := P) (w := w) (K := K) (mg := mg) (base := base) (N := ["group", "lot", "one", "far"]) (qual := "led_lot") (scope := defScope s_led_lot) (f := f) (cd := cdv) (A := A) (outer := outer) (s := s) (H := H) (E := E)
    have ho := own_body (P := P) (w := w) (K := K) (mg := mg) (base := base) (N := ["group", "lot", "one", "far"]) (qual := "led_lot") (scope := defScope s_led_lot) (f := f) (cd := cdv) (A := A) (outer := outer) (s := s) (H := H) (E := E)
    have nd := sc_led_lot.nd
    exact (d_sone (d_ret (d_callTy call_tuple_of r_tuple (by rfl) T.z_tuple (by decide +kernel) (d_acons (d_callB (c_sort rfl hu) (r_sort false) (by rfl) T.z_sorted (by decide +kernel) (d_acons (d_lc (own := [("far", 3)]) false rfl nd (d_isq (d_var 1)) (blkOk_by (by kernel_rfl)) (fun _ _ _ _ _ => (d_wname 3 (by decide) nd)) (fun _ _ _ _ _ => d_ifs0) (fun _ _ _ _ _ => (d_callF false G_about hr passL (by rfl) (d_acons (d_var 0) (d_acons (d_var 3) (d_acons (d_var 2) d_anil))) (al_cons (al_cons (al_cons al_nil)))))) d_anil)) d_anil))))
theorem sc_law_any : FnScope ["hand", "some"] ["hand", "some"] (defScope s_law_any) := ⟨rfl, rfl, rfl, by decide +kernel, rfl, by decide +kernel, by decide +kernel⟩
theorem ok_law_any (T : Txt K mg C) (F : Fun K "_law_any" "_law_any" s_law_any f fd) (G_law_draw : Fnc P w K mg base 1 "_law_draw" 2 (F_law_draw C)) : FnOk P w K mg base (L2.CX P w) 2 f fd ["hand", "some"] (spM K 2 (F_law_any C)) :=
  fn_mir (k := 1) F sc_law_any rfl rfl fun cdv A outer s H E hr => by
    have hu := u_room hr
    have hp := pass_body (P := P) (w := w) (K := K) (mg := mg) (base := base) (N := ["hand", "some"]) (qual := "_law_any") (scope := defScope s_law_any) (f := f) (cd := cdv) (A := A) (outer := outer) (s := s) (H := H) (E := E)
    have ho := own_body (P := P) (w := w) (K := K) (mg := mg) (base := base) (N := ["hand", "some"]) (qual := "_law_any") (scope := defScope s_law_any) (f := f) (cd := cdv) (A := A) (outer := outer) (s := s) (H := H) (E := E)
    have nd := sc_law_any.nd
    exact (d_sone (d_ret (d_ix (u1 hu) (d_var 1) (d_callF false G_law_draw hr hp (by rfl) (d_acons (d_var 0) (d_acons (d_callB c_len r_len (by rfl) T.z_len (by decide +kernel) (d_acons (d_var 1) d_anil)) d_anil)) (al_cons (al_cons al_nil))) (fun _ _ => rfl))))
theorem sc_law_names : FnScope ["hand", "many", "left", "found"] ["hand", "many"] (defScope s_law_names) := ⟨rfl, rfl, rfl, by decide +kernel, rfl, by decide +kernel, by decide +kernel⟩
theorem ok_law_names (T : Txt K mg C) (F : Fun K "_law_names" "_law_names" s_law_names f fd) (G_law_draw : Fnc P w K mg base 1 "_law_draw" 2 (F_law_draw C)) : FnOk P w K mg base (L2.CX P w) 2 f fd ["hand", "many"] (spM K 2 (F_law_names C)) :=
  fn_mir (k := 1) F sc_law_names rfl rfl fun cdv A outer s H E hr => by
    have hu := u_room hr
    have hp := pass_body (P := P) (w := w) (K := K) (mg := mg) (base := base) (N := ["hand", "many", "left", "found"]) (qual := "_law_names") (scope := defScope s_law_names) (f := f) (cd := cdv) (A := A) (outer := outer) (s := s) (H := H) (E := E)
    have ho := own_body (P := P) (w := w) (K := K) (mg := mg) (base := base) (N := ["hand", "many", "left", "found"]) (qual := "_law_names") (scope := defScope s_law_names) (f := f) (cd := cdv) (A := A) (outer := outer) (s := s) (H := H) (E := E)
    have nd := sc_law_names.nd
    exact (d_scons (d_par (i := 2) (j := 3) rfl nd (d_acons (d_lrg2 true rfl (by rfl) T.z_list (by rfl) T.z_range d_int (d_var 1)) (d_acons (d_lst true (d_acons d_int d_anil)) d_anil))) (d_scons (d_while 100000 ho (d_tcmp (op_neD (u64 hu)) r_ne (d_var 2) (d_lst false d_anil)) (d_sone (d_expr (d_m PySem.F.plainAttrs_list PySem.F.slot_list_append PySem.F.type_list_append mt_append r_append (d_var 3) (d_acons (d_m PySem.F.plainAttrs_list PySem.F.slot_list_pop PySem.F.type_list_pop m_pop r_pop (d_var 2) (d_acons (d_callF false G_law_draw hr hp (by rfl) (d_acons (d_var 0) (d_acons (d_callB c_len r_len (by rfl) T.z_len (by decide +kernel) (d_acons (d_var 2) d_anil)) d_anil)) (al_cons (al_cons al_nil))) d_anil)) d_anil))))) (d_sone (d_ret (d_callTy call_tuple_of r_tuple (by rfl) T.z_tuple (by decide +kernel) (d_acons (d_var 3) d_anil))))))
theorem sc_law_part_led : FnScope ["rows", "part", "by", "one"] ["rows", "part", "by"] (defScope s_law_part_led) := ⟨rfl, rfl, rfl, by decide +kernel, rfl, by decide +kernel, by decide +kernel⟩
theorem ok_law_part_led (T : Txt K mg C) (F : Fun K "_law_part_led" "_law_part_led" s_law_part_led f fd) (G_law_led : Fnc P w K mg base 1 "_law_led" 3 (F_law_led C)) : FnOk P w K mg base (L2.CX P w) 2 f fd ["rows", "part", "by"] (spM K 3 (F_law_part_led C)) :=
  fn_mir (k := 1) F sc_law_part_led rfl rfl fun cdv A outer s H E hr => by
    have hu := u_room hr
    have hp := pass_body (P := P) (w := w) (K := K) (mg := mg) (base := base) (N := ["rows", "part", "by", "one"]) (qual := "_law_part_led") (scope := defScope s_law_part_led) (f := f) (cd := cdv) (A := A) (outer := outer) (s := s) (H := H) (E := E)
    have ho := own_body (P := P) (w := w) (K := K) (mg := mg) (base := base) (N := ["rows", "part", "by", "one"]) (qual := "_law_part_led") (scope := defScope s_law_part_led) (f := f) (cd := cdv) (A := A) (outer := outer) (s := s) (H := H) (E := E)
    have nd := sc_law_part_led.nd
    exact (d_sone (d_ret (d_callTy call_tuple_of r_tuple (by rfl) T.z_tuple (by decide +kernel) (d_acons (d_callB (c_sort rfl hu) (r_sort false) (by rfl) T.z_sorted (by decide +kernel) (d_acons (d_lc (own := [("one", 3)]) false rfl nd (d_isq (d_var 1)) (blkOk_by (by kernel_rfl)) (fun _ _ _ _ _ => (d_wname 3 (by decide) nd)) (fun _ _ _ _ _ => d_ifs0) (fun _ _ _ _ _ => (d_callF false G_law_led hr passL (by rfl) (d_acons (d_var 0) (d_acons (d_var 3) (d_acons (d_var 2) d_anil))) (al_cons (al_cons (al_cons al_nil)))))) d_anil)) d_anil))))
theorem sc_law_lists : FnScope ["rows", "part", "leaders", "found", "left", "lot", "queue", "here", "by", "later", "one"] ["rows", "part", "leaders"] (defScope s_law_lists) := ⟨rfl, rfl, rfl, by decide +kernel, rfl, by decide +kernel, by decide +kernel⟩
theorem ok_law_lists (T : Txt K mg C) (F : Fun K "_law_lists" "_law_lists" s_law_lists f fd) (G_law_led : Fnc P w K mg base 1 "_law_led" 3 (F_law_led C)) : FnOk P w K mg base (L2.CX P w) 2 f fd ["rows", "part", "leaders"] (spM K 3 (F_law_lists C)) :=
  fn_mir (k := 1) F sc_law_lists rfl rfl fun cdv A outer s H E hr => by
    have hu := u_room hr
    have hp := pass_body (P := P) (w := w) (K := K) (mg := mg) (base := base) (N := ["rows", "part", "leaders", "found", "left", "lot", "queue", "here", "by", "later", "one"]) (qual := "_law_lists") (scope := defScope s_law_lists) (f := f) (cd := cdv) (A := A) (outer := outer) (s := s) (H := H) (E := E)
    have ho := own_body (P := P) (w := w) (K := K) (mg := mg) (base := base) (N := ["rows", "part", "leaders", "found", "left", "lot", "queue", "here", "by", "later", "one"]) (qual := "_law_lists") (scope := defScope s_law_lists) (f := f) (cd := cdv) (A := A) (outer := outer) (s := s) (H := H) (E := E)
    have nd := sc_law_lists.nd
    exact (d_scons (d_par (i := 3) (j := 4) rfl nd (d_acons (d_lst true d_anil) (d_acons (d_callTy call_list_of (r_list false) (by rfl) T.z_list (by decide +kernel) (d_acons (d_var 1) d_anil)) d_anil))) (d_scons (d_while 100000 ho (d_tcmp (op_neD (u64 hu)) r_ne (d_var 4) (d_lst false d_anil)) (d_scons (d_unp 2 rfl (d_acons (d_disp (d_ix (u1 hu) (d_var 4) d_int (fun _ _ => rfl)) d_bl) (d_acons (d_lst true (d_acons (d_ix (u1 hu) (d_var 4) d_int (fun _ _ => rfl)) d_anil)) d_anil)) (d_gscons (d_gname 5 nd) (d_gscons (d_gname 6 nd) d_gsnil))) (d_scons (d_while 100000 ho (d_tcmp (op_neD (u64 hu)) r_ne (d_var 6) (d_lst false d_anil)) (d_scons (d_set 7 nd (d_m0 PySem.F.plainAttrs_list PySem.F.slot_list_pop PySem.F.type_list_pop m_pop r_pop (d_var 6))) (d_sone (d_for ho rfl (d_isq (d_var 2)) (d_gname 8 nd) (d_scons (d_set 9 nd (d_callF false G_law_led hr hp (by rfl) (d_acons (d_var 0) (d_acons (d_var 7) (d_acons (d_var 8) d_anil))) (al_cons (al_cons (al_cons al_nil))))) (d_sone (d_sif (d_w (d_and (d_tcmp (o_in (u65 hu)) r_in (d_var 9) (d_var 1)) (d_and1 (d_tcmp (o_notIn (u65 hu)) r_notIn (d_var 9) (d_var 5))))) (d_scons (d_asg d_bl (d_gsub (u1 hu) (d_var 5) (d_var 9))) (d_sone (d_expr (d_m PySem.F.plainAttrs_list PySem.F.slot_list_append PySem.F.type_list_append mt_append r_append (d_var 6) (d_acons (d_var 9) d_anil))))) d_snil))))))) (d_scons (d_expr (d_m PySem.F.plainAttrs_list PySem.F.slot_list_append PySem.F.type_list_append mt_append r_append (d_var 3) (d_acons (d_callTy call_tuple_of r_tuple (by rfl) T.z_tuple (by decide +kernel) (d_acons (d_callB (c_sort rfl hu) (r_sort false) (by rfl) T.z_sorted (by decide +kernel) (d_acons (d_var 5) d_anil)) d_anil)) d_anil))) (d_sone (d_setLc (i := 4) (own := [("one", 10)]) false rfl nd (d_isq (d_var 4)) (blkOk_by (by kernel_rfl)) (fun _ _ _ _ _ => (d_wname 10 (by decide) nd)) (fun _ _ _ _ _ => (d_ifs1 (d_tcmp (o_notIn (u65 hu)) r_notIn (d_var 10) (d_var 5)))) (fun _ _ _ _ _ => (d_var 10)))))))) (d_sone (d_ret (d_callB (c_sort rfl hu) (r_sort false) (by rfl) T.z_sorted (by decide +kernel) (d_acons (d_var 3) d_anil))))))
theorem sc_Group__init__ : FnScope ["self", "table", "many", "number", "row", "one"] ["self", "table"] (defScope s_Group__init__) := ⟨rfl, rfl, rfl, by decide +kernel, rfl, by decide +kernel, by decide +kernel⟩
theorem ok_Group__init__ (T : Txt K mg C) (F : Fun K "__init__" "Group.__init__" s_Group__init__ f fd) (G_goes_together : Fnc P w K mg base 1 "goes_together" 1 (F_goes_together C)) (G_is_tuple : Fnc P w K mg base 1 "is_tuple" 3 (F_is_tuple C)) (G_is_within : Fnc P w K mg base 2 "is_within" 3 (F_is_within C)) : FnOk P w K mg base (L2.CX P w) 3 f fd ["self", "table"] (spM K 2 (F_Group__init__ C)) :=
  fn_mir (k := 2) F sc_Group__init__ rfl rfl fun cdv A outer s H E hr => by
    have hu := u_room hr
    have hp := pass_body (P := P) (w := w) (K := K) (mg := mg) (base := base) (N := ["self", "table", "many", "number", "row", "one"]) (qual := "Group.__init__") (scope := defScope s_Group__init__) (f := f) (cd := cdv) (A := A) (outer := outer) (s := s) (H := H) (E := E)
    have ho := own_body (P := P) (w := w) (K := K) (mg := mg) (base := base) (N := ["self", "table", "many", "number", "row", "one"]) (qual := "Group.__init__") (scope := defScope s_Group__init__) (f := f) (cd := cdv) (A := A) (outer := outer) (s := s) (H := H) (E := E)
    have nd := sc_Group__init__.nd
    exact (d_scons (d_sif (d_tnot (d_tval (d_callF false G_is_tuple hr hp (by rfl) (d_acons (d_var 1) (d_acons d_int (d_acons (d_gint (by rfl) T.g_MOST_MEMBERS) d_anil))) (al_cons (al_cons (al_cons al_nil)))))) (d_sone d_never) d_snil) (d_scons (d_set 2 nd (d_callB c_len r_len (by rfl) T.z_len (by decide +kernel) (d_acons (d_var 1) d_anil))) (d_scons (d_for ho rfl (d_ien (by rfl) T.z_enumerate (d_acons (d_var 1) d_anil)) (d_gtup rfl (d_gscons (d_gname 3 nd) (d_gscons (d_gname 4 nd) d_gsnil))) (d_sone (d_sif (d_w (d_or (d_tnot (d_tval (d_callF false G_is_tuple hr hp (by rfl) (d_acons (d_var 4) (d_acons (d_var 2) (d_acons (d_var 2) d_anil))) (al_cons (al_cons (al_cons al_nil)))))) (d_or1 (d_tnot (d_tval (d_callB (cr_all rfl) r_all (by rfl) T.z_all (by decide +kernel) (d_acons (d_lc (own := [("one", 5)]) false rfl nd (d_isq (d_var 4)) (blkOk_by (by kernel_rfl)) (fun _ _ _ _ _ => (d_wname 5 (by decide) nd)) (fun _ _ _ _ _ => d_ifs0) (fun _ _ _ _ _ => (d_callF false G_is_within hr passL (by rfl) (d_acons (d_var 5) (d_acons d_int (d_acons (d_op op_sub r_sub (d_var 2) d_int) d_anil))) (al_cons (al_cons (al_cons al_nil)))))) d_anil))))))) (d_sone d_never) d_snil))) (d_scons (d_sif (d_w (d_or (d_tcmp (op_neD (u64 hu)) r_ne (d_callTy call_list_of (r_list false) (by rfl) T.z_list (by decide +kernel) (d_acons (d_ix (u1 hu) (d_var 1) d_int (fun _ _ => rfl)) d_anil)) (d_lrg1 false rfl (by rfl) T.z_list (by rfl) T.z_range (d_var 2))) (d_or1 (d_tcmp (op_neD (u64 hu)) r_ne (d_lc (own := [("row", 4)]) false rfl nd (d_isq (d_var 1)) (blkOk_by (by kernel_rfl)) (fun _ _ _ _ _ => (d_wname 4 (by decide) nd)) (fun _ _ _ _ _ => d_ifs0) (fun _ _ _ _ _ => (d_ix (u1 hu) (d_var 4) d_int (fun _ _ => rfl)))) (d_lrg1 false rfl (by rfl) T.z_list (by rfl) T.z_range (d_var 2)))))) (d_sone d_never) d_snil) (d_scons (d_sif (d_tnot (d_tval (d_callB (cr_all rfl) r_all (by rfl) T.z_all (by decide +kernel) (d_acons (d_lc (own := [("row", 4)]) false rfl nd (d_isq (d_var 1)) (blkOk_by (by kernel_rfl)) (fun _ _ _ _ _ => (d_wname 4 (by decide) nd)) (fun _ _ _ _ _ => d_ifs0) (fun _ _ _ _ _ => (d_cmp (o_in (u65 hu)) r_in d_int (d_var 4)))) d_anil)))) (d_sone d_never) d_snil) (d_scons (d_sif (d_tnot (d_tval (d_callF false G_goes_together hr hp (by rfl) (d_acons (d_var 1) d_anil) (al_cons al_nil)))) (d_sone d_never) d_snil) (d_scons (d_sfld T.cl_Group T.na_Group_table (d_var 0) (d_var 1)) (d_scons (d_sfld T.cl_Group T.na_Group_many (d_var 0) (d_var 2)) (d_sone (d_sfld T.cl_Group T.na_Group_backs (d_var 0) (d_callTy call_tuple_of r_tuple (by rfl) T.z_tuple (by decide +kernel) (d_acons (d_lc (own := [("row", 4)]) false rfl nd (d_isq (d_var 1)) (blkOk_by (by kernel_rfl)) (fun _ _ _ _ _ => (d_wname 4 (by decide) nd)) (fun _ _ _ _ _ => d_ifs0) (fun _ _ _ _ _ => (d_m PySem.F.plainAttrs_tuple PySem.F.slot_tuple_index PySem.F.type_tuple_index mt_tup_indexI r_tupIx (d_var 4) (d_acons d_int d_anil)))) d_anil))))))))))))
theorem sc_is_lot : FnScope ["group", "thing", "a", "b", "one"] ["group", "thing"] (defScope s_is_lot) := ⟨rfl, rfl, rfl, by decide +kernel, rfl, by decide +kernel, by decide +kernel⟩
theorem ok_is_lot (T : Txt K mg C) (F : Fun K "is_lot" "is_lot" s_is_lot f fd) (G_is_tuple : Fnc P w K mg base 1 "is_tuple" 3 (F_is_tuple C)) (G_is_within : Fnc P w K mg base 2 "is_within" 3 (F_is_within C)) : FnOk P w K mg base (L2.CX P w) 3 f fd ["group", "thing"] (spM K 2 (F_is_lot C)) :=
  fn_mir (k := 2) F sc_is_lot rfl rfl fun cdv A outer s H E hr => by
    have hu := u_room hr
    have hp := pass_body (P := P) (w := w) (K := K) (mg := mg) (base := base) (N := ["group", "thing", "a", "b", "one"]) (qual := "is_lot") (scope := defScope s_is_lot) (f := f) (cd := cdv) (A := A) (outer := outer) (s := s) (H := H) (E := E)
    have ho := own_body (P := P) (w := w) (K := K) (mg := mg) (base := base) (N := ["group", "thing", "a", "b", "one"]) (qual := "is_lot") (scope := defScope s_is_lot) (f := f) (cd := cdv) (A := A) (outer := outer) (s := s) (H := H) (E := E)
    have nd := sc_is_lot.nd
    exact (d_scons (d_sif (d_w (d_or (d_tnot (d_tval (d_callF false G_is_tuple hr hp (by rfl) (d_acons (d_var 1) (d_acons d_int (d_acons (d_fld T.cl_Group T.na_Group_many (d_var 0)) d_anil))) (al_cons (al_cons (al_cons al_nil)))))) (d_or1 (d_tnot (d_tval (d_callB (cr_all rfl) r_all (by rfl) T.z_all (by decide +kernel) (d_acons (d_lc (own := [("one", 4)]) false rfl nd (d_isq (d_var 1)) (blkOk_by (by kernel_rfl)) (fun _ _ _ _ _ => (d_wname 4 (by decide) nd)) (fun _ _ _ _ _ => d_ifs0) (fun _ _ _ _ _ => (d_callF false G_is_within hr passL (by rfl) (d_acons (d_var 4) (d_acons d_int (d_acons (d_op op_sub r_sub (d_fld T.cl_Group T.na_Group_many (d_var 0)) d_int) d_anil))) (al_cons (al_cons (al_cons al_nil)))))) d_anil))))))) (d_sone (d_ret d_bl)) d_snil) (d_sone (d_ret (d_callB (cr_all rfl) r_all (by rfl) T.z_all (by decide +kernel) (d_acons (d_lc (own := [("a", 2), ("b", 3)]) false rfl nd (d_izp (by rfl) T.z_zip (d_acons (d_var 1) (d_acons (d_sl false (d_var 1) (d_osome d_int) d_onone) d_anil))) (blkOk_by (by kernel_rfl)) (fun _ _ _ _ _ => (d_wtup rfl (d_wscons (d_wname 2 (by decide) nd) (d_wscons (d_wname 3 (by decide) nd) d_wsnil)))) (fun _ _ _ _ _ => d_ifs0) (fun _ _ _ _ _ => (d_cmp op_lt r_cmp (d_var 2) (d_var 3)))) d_anil)))))
theorem sc_keepers_of : FnScope ["group", "lot", "one"] ["group", "lot"] (defScope s_keepers_of) := ⟨rfl, rfl, rfl, by decide +kernel, rfl, by decide +kernel, by decide +kernel⟩
theorem ok_keepers_of (T : Txt K mg C) (F : Fun K "keepers_of" "keepers_of" s_keepers_of f fd) (G_led_lot : Fnc P w K mg base 2 "led_lot" 3 (F_led_lot C)) : FnOk P w K mg base (L2.CX P w) 3 f fd ["group", "lot"] (spM K 2 (F_keepers_of C)) :=
  fn_mir (k := 2) F sc_keepers_of rfl rfl fun cdv A outer s H E hr => by
    have hu := u_room hr
    have hp := pass_body (P := P) (w := w) (K := K) (mg := mg) (base := base) (N := ["group", "lot", "one"]) (qual := "keepers_of") (scope := defScope s_keepers_of) (f := f) (cd := cdv) (A := A) (outer := outer) (s := s) (H := H) (E := E)
    have ho := own_body (P := P) (w := w) (K := K) (mg := mg) (base := base) (N := ["group", "lot", "one"]) (qual := "keepers_of") (scope := defScope s_keepers_of) (f := f) (cd := cdv) (A := A) (outer := outer) (s := s) (H := H) (E := E)
    have nd := sc_keepers_of.nd
    exact (d_sone (d_ret (d_callTy call_tuple_of r_tuple (by rfl) T.z_tuple (by decide +kernel) (d_acons (d_lc (own := [("one", 2)]) false rfl nd (d_irng1 (by rfl) T.z_range (d_acons (d_fld T.cl_Group T.na_Group_many (d_var 0)) d_anil)) (blkOk_by (by kernel_rfl)) (fun _ _ _ _ _ => (d_wname 2 (by decide) nd)) (fun _ _ _ _ _ => (d_ifs1 (d_tcmp (op_eqD (u64 hu)) r_eq (d_callF false G_led_lot hr passL (by rfl) (d_acons (d_var 0) (d_acons (d_var 1) (d_acons (d_var 2) d_anil))) (al_cons (al_cons (al_cons al_nil)))) (d_var 1)))) (fun _ _ _ _ _ => (d_var 2))) d_anil))))
theorem sc_law_table : FnScope ["hand", "two", "some", "found"] ["hand"] (defScope s_law_table) := ⟨rfl, rfl, rfl, by decide +kernel, rfl, by decide +kernel, by decide +kernel⟩
theorem ok_law_table (T : Txt K mg C) (F : Fun K "_law_table" "_law_table" s_law_table f fd) (G_law_any : Fnc P w K mg base 2 "_law_any" 2 (F_law_any C)) (G_law_called : Fnc P w K mg base 1 "_law_called" 2 (F_law_called C)) (G_law_draw : Fnc P w K mg base 1 "_law_draw" 2 (F_law_draw C)) (G_law_flips : Fnc P w K mg base 1 "_law_flips" 2 (F_law_flips C)) (G_law_names : Fnc P w K mg base 2 "_law_names" 2 (F_law_names C)) (G_law_pairs : Fnc P w K mg base 1 "_law_pairs" 2 (F_law_pairs C)) (G_law_ring : Fnc P w K mg base 1 "_law_ring" 1 (F_law_ring C)) : FnOk P w K mg base (L2.CX P w) 3 f fd ["hand"] (spM K 1 (F_law_table C)) :=
  fn_mir (k := 2) F sc_law_table rfl rfl fun cdv A outer s H E hr => by
    have hu := u_room hr
    have hp := pass_body (P := P) (w := w) (K := K) (mg := mg) (base := base) (N := ["hand", "two", "some", "found"]) (qual := "_law_table") (scope := defScope s_law_table) (f := f) (cd := cdv) (A := A) (outer := outer) (s := s) (H := H) (E := E)
    have ho := own_body (P := P) (w := w) (K := K) (mg := mg) (base := base) (N := ["hand", "two", "some", "found"]) (qual := "_law_table") (scope := defScope s_law_table) (f := f) (cd := cdv) (A := A) (outer := outer) (s := s) (H := H) (E := E)
    have nd := sc_law_table.nd
    exact (d_scons (d_set 1 nd (d_callF false G_law_ring hr hp (by rfl) (d_acons d_int d_anil) (al_cons al_nil))) (d_scons (d_set 2 nd (d_lst false (d_acons (d_callF false G_law_ring hr hp (by rfl) (d_acons (d_op o_add (r_add false) d_int (d_callF false G_law_draw hr hp (by rfl) (d_acons (d_var 0) (d_acons d_int d_anil)) (al_cons (al_cons al_nil)))) d_anil) (al_cons al_nil)) (d_acons (d_callF false G_law_flips hr hp (by rfl) (d_acons d_int (d_acons d_int d_anil)) (al_cons (al_cons al_nil))) (d_acons (d_callF false G_law_flips hr hp (by rfl) (d_acons d_int (d_acons d_int d_anil)) (al_cons (al_cons al_nil))) (d_acons (d_callF false G_law_flips hr hp (by rfl) (d_acons d_int (d_acons d_int d_anil)) (al_cons (al_cons al_nil))) d_anil)))))) (d_scons (d_set 2 nd (d_op o_add (r_add false) (d_var 2) (d_lst false (d_acons (d_callF false G_law_pairs hr hp (by rfl) (d_acons (d_var 1) (d_acons (d_var 1) d_anil)) (al_cons (al_cons al_nil))) (d_acons (d_callF false G_law_pairs hr hp (by rfl) (d_acons (d_var 1) (d_acons (d_callF false G_law_ring hr hp (by rfl) (d_acons d_int d_anil) (al_cons al_nil)) d_anil)) (al_cons (al_cons al_nil))) (d_acons (d_callF false G_law_pairs hr hp (by rfl) (d_acons (d_var 1) (d_acons (d_callF false G_law_pairs hr hp (by rfl) (d_acons (d_var 1) (d_acons (d_var 1) d_anil)) (al_cons (al_cons al_nil))) d_anil)) (al_cons (al_cons al_nil))) d_anil)))))) (d_scons (d_set 2 nd (d_op o_add (r_add false) (d_var 2) (d_lst false (d_acons (d_callF false G_law_flips hr hp (by rfl) (d_acons d_int (d_acons d_int d_anil)) (al_cons (al_cons al_nil))) d_anil)))) (d_scons (d_set 3 nd (d_callF false G_law_any hr hp (by rfl) (d_acons (d_var 0) (d_acons (d_var 2) d_anil)) (al_cons (al_cons al_nil)))) (d_sone (d_ret (d_callF false G_law_called hr hp (by rfl) (d_acons (d_var 3) (d_acons (d_callF false G_law_names hr hp (by rfl) (d_acons (d_var 0) (d_acons (d_callB c_len r_len (by rfl) T.z_len (by decide +kernel) (d_acons (d_var 3) d_anil)) d_anil)) (al_cons (al_cons al_nil))) d_anil)) (al_cons (al_cons al_nil))))))))))
theorem sc_is_part : FnScope ["group", "thing"] ["group", "thing"] (defScope s_is_part) := ⟨rfl, rfl, rfl, by decide +kernel, rfl, by decide +kernel, by decide +kernel⟩
theorem ok_is_part (T : Txt K mg C) (F : Fun K "is_part" "is_part" s_is_part f fd) (G_closed_by : Fnc P w K mg base 1 "closed_by" 2 (F_closed_by C)) (G_is_lot : Fnc P w K mg base 3 "is_lot" 2 (F_is_lot C)) : FnOk P w K mg base (L2.CX P w) 4 f fd ["group", "thing"] (spM K 2 (F_is_part C)) :=
  fn_mir (k := 3) F sc_is_part rfl rfl fun cdv A outer s H E hr => by
    have hu := u_room hr
    have hp := pass_body (P := P) (w := w) (K := K) (mg := mg) (base := base) (N := ["group", "thing"]) (qual := "is_part") (scope := defScope s_is_part) (f := f) (cd := cdv) (A := A) (outer := outer) (s := s) (H := H) (E := E)
    have ho := own_body (P := P) (w := w) (K := K) (mg := mg) (base := base) (N := ["group", "thing"]) (qual := "is_part") (scope := defScope s_is_part) (f := f) (cd := cdv) (A := A) (outer := outer) (s := s) (H := H) (E := E)
    have nd := sc_is_part.nd
    exact (d_sone (d_ret (d_eand (d_callF false G_is_lot hr hp (by rfl) (d_acons (d_var 0) (d_acons (d_var 1) d_anil)) (al_cons (al_cons al_nil))) (d_eand (d_cmp op_gt r_cmp (d_callB c_len r_len (by rfl) T.z_len (by decide +kernel) (d_acons (d_var 1) d_anil)) d_int) (d_one (d_cmp (op_eqD (u64 hu)) r_eq (d_callF false G_closed_by hr hp (by rfl) (d_acons (d_var 0) (d_acons (d_var 1) d_anil)) (al_cons (al_cons al_nil))) (d_var 1)))))))
theorem sc_check_part : FnScope ["group", "thing"] ["group", "thing"] (defScope s_check_part) := ⟨rfl, rfl, rfl, by decide +kernel, rfl, by decide +kernel, by decide +kernel⟩
theorem ok_check_part (T : Txt K mg C) (F : Fun K "check_part" "check_part" s_check_part f fd) (G_is_part : Fnc P w K mg base 4 "is_part" 2 (F_is_part C)) (X_NoPart : ExcK P K mg "NoPart" C.NoPart) : FnOk P w K mg base (L2.CX P w) 5 f fd ["group", "thing"] (spM K 2 (F_check_part C)) :=
  fn_mir (k := 4) F sc_check_part rfl rfl fun cdv A outer s H E hr => by
    have hu := u_room hr
    have hp := pass_body (P := P) (w := w) (K := K) (mg := mg) (base := base) (N := ["group", "thing"]) (qual := "check_part") (scope := defScope s_check_part) (f := f) (cd := cdv) (A := A) (outer := outer) (s := s) (H := H) (E := E)
    have ho := own_body (P := P) (w := w) (K := K) (mg := mg) (base := base) (N := ["group", "thing"]) (qual := "check_part") (scope := defScope s_check_part) (f := f) (cd := cdv) (A := A) (outer := outer) (s := s) (H := H) (E := E)
    have nd := sc_check_part.nd
    exact (d_sone (d_sif (d_tnot (d_tval (d_callF false G_is_part hr hp (by rfl) (d_acons (d_var 0) (d_acons (d_var 1) d_anil)) (al_cons (al_cons al_nil))))) (d_sone (d_raise0 X_NoPart (hr.mono (by decide)) rfl take_body (by rfl))) d_snil))
theorem sc_led_together : FnScope ["group", "part", "seen", "found", "one", "led", "lot", "by", "far"] ["group", "part"] (defScope s_led_together) := ⟨rfl, rfl, rfl, by decide +kernel, rfl, by decide +kernel, by decide +kernel⟩
theorem ok_led_together (T : Txt K mg C) (F : Fun K "led_together" "led_together" s_led_together f fd) (G_about : Fnc P w K mg base 1 "about" 3 (F_about C)) (G_check_part : Fnc P w K mg base 5 "check_part" 2 (F_check_part C)) : FnOk P w K mg base (L2.CX P w) 6 f fd ["group", "part"] (spM K 2 (F_led_together C)) :=
  fn_mir (k := 5) F sc_led_together rfl rfl fun cdv A outer s H E hr => by
    have hu := u_room hr
    have hp := pass_body (P := P) (w := w) (K := K) (mg := mg) (base := base) (N := ["group", "part", "seen", "found", "one", "led", "lot", "by", "far"]) (qual := "led_together") (scope := defScope s_led_together) (f := f) (cd := cdv) (A := A) (outer := outer) (s := s) (H := H) (E := E)
    have ho := own_body (P := P) (w := w) (K := K) (mg := mg) (base := base) (N := ["group", "part", "seen", "found", "one", "led", "lot", "by", "far"]) (qual := "led_together") (scope := defScope s_led_together) (f := f) (cd := cdv) (A := A) (outer := outer) (s := s) (H := H) (E := E)
    have nd := sc_led_together.nd
    exact (d_scons (d_expr (d_callF false G_check_part hr hp (by rfl) (d_acons (d_var 0) (d_acons (d_var 1) d_anil)) (al_cons (al_cons al_nil)))) (d_scons (d_par (i := 2) (j := 3) rfl nd (d_acons (d_newK true) (d_acons (d_lst true d_anil) d_anil))) (d_scons (d_for ho rfl (d_isq (d_var 1)) (d_gname 4 nd) (d_sone (d_sif (d_tcmp (o_notIn (u65 hu)) r_notIn (d_var 4) (d_var 2)) (d_scons (d_set 5 nd (d_dc (own := [("by", 7)]) false rfl nd (d_irng1 (by rfl) T.z_range (d_acons (d_fld T.cl_Group T.na_Group_many (d_var 0)) d_anil)) (blkOk_by (by kernel_rfl)) (fun _ _ _ _ _ => (d_wname 7 (by decide) nd)) (fun _ _ _ _ _ => d_ifs0) (fun _ _ _ _ _ => (d_callF false G_about hr passL (by rfl) (d_acons (d_var 0) (d_acons (d_var 4) (d_acons (d_var 7) d_anil))) (al_cons (al_cons (al_cons al_nil))))) (fun _ _ _ _ _ => d_bl))) (d_scons (d_set 6 nd (d_callTy call_tuple_of r_tuple (by rfl) T.z_tuple (by decide +kernel) (d_acons (d_lc (own := [("far", 8)]) false rfl nd (d_isq (d_var 1)) (blkOk_by (by kernel_rfl)) (fun _ _ _ _ _ => (d_wname 8 (by decide) nd)) (fun _ _ _ _ _ => (d_ifs1 (d_tcmp (o_in (u65 hu)) r_in (d_var 8) (d_var 5)))) (fun _ _ _ _ _ => (d_var 8))) d_anil))) (d_scons (d_expr (d_m PySem.F.plainAttrs_dict PySem.F.slot_dict_update PySem.F.type_dict_update mt_dupd r_upd (d_var 2) (d_acons (d_dc (own := [("far", 8)]) false rfl nd (d_isq (d_var 6)) (blkOk_by (by kernel_rfl)) (fun _ _ _ _ _ => (d_wname 8 (by decide) nd)) (fun _ _ _ _ _ => d_ifs0) (fun _ _ _ _ _ => (d_var 8)) (fun _ _ _ _ _ => d_bl)) d_anil))) (d_sone (d_expr (d_m PySem.F.plainAttrs_list PySem.F.slot_list_append PySem.F.type_list_append mt_append r_append (d_var 3) (d_acons (d_var 6) d_anil))))))) d_snil))) (d_sone (d_ret (d_var 3))))))
theorem sc_led_within : FnScope ["group", "part", "seen", "found", "one", "lot", "far", "by"] ["group", "part"] (defScope s_led_within) := ⟨rfl, rfl, rfl, by decide +kernel, rfl, by decide +kernel, by decide +kernel⟩
theorem ok_led_within (T : Txt K mg C) (F : Fun K "led_within" "led_within" s_led_within f fd) (G_about : Fnc P w K mg base 1 "about" 3 (F_about C)) (G_check_part : Fnc P w K mg base 5 "check_part" 2 (F_check_part C)) : FnOk P w K mg base (L2.CX P w) 6 f fd ["group", "part"] (spM K 2 (F_led_within C)) :=
  fn_mir (k := 5) F sc_led_within rfl rfl fun cdv A outer s H E hr => by
    have hu := u_room hr
    have hp := pass_body (P := P) (w := w) (K := K) (mg := mg) (base := base) (N := ["group", "part", "seen", "found", "one", "lot", "far", "by"]) (qual := "led_within") (scope := defScope s_led_within) (f := f) (cd := cdv) (A := A) (outer := outer) (s := s) (H := H) (E := E)
    have ho := own_body (P := P) (w := w) (K := K) (mg := mg) (base := base) (N := ["group", "part", "seen", "found", "one", "lot", "far", "by"]) (qual := "led_within") (scope := defScope s_led_within) (f := f) (cd := cdv) (A := A) (outer := outer) (s := s) (H := H) (E := E)
    have nd := sc_led_within.nd
    exact (d_scons (d_expr (d_callF false G_check_part hr hp (by rfl) (d_acons (d_var 0) (d_acons (d_var 1) d_anil)) (al_cons (al_cons al_nil)))) (d_scons (d_par (i := 2) (j := 3) rfl nd (d_acons (d_newK true) (d_acons (d_lst true d_anil) d_anil))) (d_scons (d_for ho rfl (d_isq (d_var 1)) (d_gname 4 nd) (d_sone (d_sif (d_tcmp (o_notIn (u65 hu)) r_notIn (d_var 4) (d_var 2)) (d_scons (d_set 5 nd (d_callTy call_tuple_of r_tuple (by rfl) T.z_tuple (by decide +kernel) (d_acons (d_callB (c_sort rfl hu) (r_sort false) (by rfl) T.z_sorted (by decide +kernel) (d_acons (d_dc (own := [("by", 7)]) false rfl nd (d_isq (d_var 1)) (blkOk_by (by kernel_rfl)) (fun _ _ _ _ _ => (d_wname 7 (by decide) nd)) (fun _ _ _ _ _ => d_ifs0) (fun _ _ _ _ _ => (d_callF false G_about hr passL (by rfl) (d_acons (d_var 0) (d_acons (d_var 4) (d_acons (d_var 7) d_anil))) (al_cons (al_cons (al_cons al_nil))))) (fun _ _ _ _ _ => d_bl)) d_anil)) d_anil))) (d_scons (d_expr (d_m PySem.F.plainAttrs_dict PySem.F.slot_dict_update PySem.F.type_dict_update mt_dupd r_upd (d_var 2) (d_acons (d_dc (own := [("far", 6)]) false rfl nd (d_isq (d_var 5)) (blkOk_by (by kernel_rfl)) (fun _ _ _ _ _ => (d_wname 6 (by decide) nd)) (fun _ _ _ _ _ => d_ifs0) (fun _ _ _ _ _ => (d_var 6)) (fun _ _ _ _ _ => d_bl)) d_anil))) (d_sone (d_expr (d_m PySem.F.plainAttrs_list PySem.F.slot_list_append PySem.F.type_list_append mt_append r_append (d_var 3) (d_acons (d_var 5) d_anil)))))) d_snil))) (d_sone (d_ret (d_var 3))))))
theorem sc_moves_of : FnScope ["group", "part", "found", "one"] ["group", "part"] (defScope s_moves_of) := ⟨rfl, rfl, rfl, by decide +kernel, rfl, by decide +kernel, by decide +kernel⟩
theorem ok_moves_of (T : Txt K mg C) (F : Fun K "moves_of" "moves_of" s_moves_of f fd) (G_check_part : Fnc P w K mg base 5 "check_part" 2 (F_check_part C)) (G_led_lot : Fnc P w K mg base 2 "led_lot" 3 (F_led_lot C)) : FnOk P w K mg base (L2.CX P w) 6 f fd ["group", "part"] (spM K 2 (F_moves_of C)) :=
  fn_mir (k := 5) F sc_moves_of rfl rfl fun cdv A outer s H E hr => by
    have hu := u_room hr
    have hp := pass_body (P := P) (w := w) (K := K) (mg := mg) (base := base) (N := ["group", "part", "found", "one"]) (qual := "moves_of") (scope := defScope s_moves_of) (f := f) (cd := cdv) (A := A) (outer := outer) (s := s) (H := H) (E := E)
    have ho := own_body (P := P) (w := w) (K := K) (mg := mg) (base := base) (N := ["group", "part", "found", "one"]) (qual := "moves_of") (scope := defScope s_moves_of) (f := f) (cd := cdv) (A := A) (outer := outer) (s := s) (H := H) (E := E)
    have nd := sc_moves_of.nd
    exact (d_scons (d_expr (d_callF false G_check_part hr hp (by rfl) (d_acons (d_var 0) (d_acons (d_var 1) d_anil)) (al_cons (al_cons al_nil)))) (d_scons (d_set 2 nd (d_newT true)) (d_scons (d_for ho rfl (d_irng1 (by rfl) T.z_range (d_acons (d_fld T.cl_Group T.na_Group_many (d_var 0)) d_anil)) (d_gname 3 nd) (d_sone (d_expr (d_m PySem.F.plainAttrs_dict PySem.F.slot_dict_setdefault PySem.F.type_dict_setdefault (mt_dsetd (u1 hu)) r_setd (d_var 2) (d_acons (d_callF false G_led_lot hr hp (by rfl) (d_acons (d_var 0) (d_acons (d_var 1) (d_acons (d_var 3) d_anil))) (al_cons (al_cons (al_cons al_nil)))) (d_acons (d_var 3) d_anil)))))) (d_sone (d_ret (d_sortIt rfl hu (by rfl) T.z_sorted (d_var 2)))))))
theorem sc_keeps_leading : FnScope ["group", "part"] ["group", "part"] (defScope s_keeps_leading) := ⟨rfl, rfl, rfl, by decide +kernel, rfl, by decide +kernel, by decide +kernel⟩
theorem ok_keeps_leading (T : Txt K mg C) (F : Fun K "keeps_leading" "keeps_leading" s_keeps_leading f fd) (G_led_together : Fnc P w K mg base 6 "led_together" 2 (F_led_together C)) (G_led_within : Fnc P w K mg base 6 "led_within" 2 (F_led_within C)) : FnOk P w K mg base (L2.CX P w) 7 f fd ["group", "part"] (spM K 2 (F_keeps_leading C)) :=
  fn_mir (k := 6) F sc_keeps_leading rfl rfl fun cdv A outer s H E hr => by
    have hu := u_room hr
    have hp := pass_body (P := P) (w := w) (K := K) (mg := mg) (base := base) (N := ["group", "part"]) (qual := "keeps_leading") (scope := defScope s_keeps_leading) (f := f) (cd := cdv) (A := A) (outer := outer) (s := s) (H := H) (E := E)
    have ho := own_body (P := P) (w := w) (K := K) (mg := mg) (base := base) (N := ["group", "part"]) (qual := "keeps_leading") (scope := defScope s_keeps_leading) (f := f) (cd := cdv) (A := A) (outer := outer) (s := s) (H := H) (E := E)
    have nd := sc_keeps_leading.nd
    exact (d_sone (d_ret (d_cmp (op_eqD (u64 hu)) r_eq (d_callF false G_led_together hr hp (by rfl) (d_acons (d_var 0) (d_acons (d_var 1) d_anil)) (al_cons (al_cons al_nil))) (d_callF false G_led_within hr hp (by rfl) (d_acons (d_var 0) (d_acons (d_var 1) d_anil)) (al_cons (al_cons al_nil))))))
theorem sc_is_kept_leading : FnScope ["group", "part", "inner", "lot", "led", "by", "one"] ["group", "part"] (defScope s_is_kept_leading) := ⟨rfl, rfl, rfl, by decide +kernel, rfl, by decide +kernel, by decide +kernel⟩
theorem ok_is_kept_leading (T : Txt K mg C) (F : Fun K "is_kept_leading" "is_kept_leading" s_is_kept_leading f fd) (G_about : Fnc P w K mg base 1 "about" 3 (F_about C)) (G_check_part : Fnc P w K mg base 5 "check_part" 2 (F_check_part C)) (G_keepers_of : Fnc P w K mg base 3 "keepers_of" 2 (F_keepers_of C)) (G_led_together : Fnc P w K mg base 6 "led_together" 2 (F_led_together C)) : FnOk P w K mg base (L2.CX P w) 7 f fd ["group", "part"] (spM K 2 (F_is_kept_leading C)) :=
  fn_mir (k := 6) F sc_is_kept_leading rfl rfl fun cdv A outer s H E hr => by
    have hu := u_room hr
    have hp := pass_body (P := P) (w := w) (K := K) (mg := mg) (base := base) (N := ["group", "part", "inner", "lot", "led", "by", "one"]) (qual := "is_kept_leading") (scope := defScope s_is_kept_leading) (f := f) (cd := cdv) (A := A) (outer := outer) (s := s) (H := H) (E := E)
    have ho := own_body (P := P) (w := w) (K := K) (mg := mg) (base := base) (N := ["group", "part", "inner", "lot", "led", "by", "one"]) (qual := "is_kept_leading") (scope := defScope s_is_kept_leading) (f := f) (cd := cdv) (A := A) (outer := outer) (s := s) (H := H) (E := E)
    have nd := sc_is_kept_leading.nd
    exact (d_scons (d_expr (d_callF false G_check_part hr hp (by rfl) (d_acons (d_var 0) (d_acons (d_var 1) d_anil)) (al_cons (al_cons al_nil)))) (d_scons (d_set 2 nd (d_callF false G_keepers_of hr hp (by rfl) (d_acons (d_var 0) (d_acons (d_var 1) d_anil)) (al_cons (al_cons al_nil)))) (d_scons (d_for ho rfl (d_isq (d_callF false G_led_together hr hp (by rfl) (d_acons (d_var 0) (d_acons (d_var 1) d_anil)) (al_cons (al_cons al_nil)))) (d_gname 3 nd) (d_scons (d_set 4 nd (d_dc (own := [("by", 5)]) false rfl nd (d_isq (d_var 2)) (blkOk_by (by kernel_rfl)) (fun _ _ _ _ _ => (d_wname 5 (by decide) nd)) (fun _ _ _ _ _ => d_ifs0) (fun _ _ _ _ _ => (d_callF false G_about hr passL (by rfl) (d_acons (d_var 0) (d_acons (d_ix (u1 hu) (d_var 3) d_int (fun _ _ => rfl)) (d_acons (d_var 5) d_anil))) (al_cons (al_cons (al_cons al_nil))))) (fun _ _ _ _ _ => d_bl))) (d_sone (d_sif (d_tnot (d_tval (d_callB (cr_all rfl) r_all (by rfl) T.z_all (by decide +kernel) (d_acons (d_lc (own := [("one", 6)]) false rfl nd (d_isq (d_var 3)) (blkOk_by (by kernel_rfl)) (fun _ _ _ _ _ => (d_wname 6 (by decide) nd)) (fun _ _ _ _ _ => d_ifs0) (fun _ _ _ _ _ => (d_cmp (o_in (u65 hu)) r_in (d_var 6) (d_var 4)))) d_anil)))) (d_sone (d_ret d_bl)) d_snil)))) (d_sone (d_ret d_bl)))))
theorem sc_differences : FnScope ["group", "part", "found", "lot", "one", "far"] ["group", "part"] (defScope s_differences) := ⟨rfl, rfl, rfl, by decide +kernel, rfl, by decide +kernel, by decide +kernel⟩
theorem ok_differences (T : Txt K mg C) (F : Fun K "differences" "differences" s_differences f fd) (G_check_part : Fnc P w K mg base 5 "check_part" 2 (F_check_part C)) (G_closed_by : Fnc P w K mg base 1 "closed_by" 2 (F_closed_by C)) (G_led_together : Fnc P w K mg base 6 "led_together" 2 (F_led_together C)) : FnOk P w K mg base (L2.CX P w) 7 f fd ["group", "part"] (spM K 2 (F_differences C)) :=
  fn_mir (k := 6) F sc_differences rfl rfl fun cdv A outer s H E hr => by
    have hu := u_room hr
    have hp := pass_body (P := P) (w := w) (K := K) (mg := mg) (base := base) (N := ["group", "part", "found", "lot", "one", "far"]) (qual := "differences") (scope := defScope s_differences) (f := f) (cd := cdv) (A := A) (outer := outer) (s := s) (H := H) (E := E)
    have ho := own_body (P := P) (w := w) (K := K) (mg := mg) (base := base) (N := ["group", "part", "found", "lot", "one", "far"]) (qual := "differences") (scope := defScope s_differences) (f := f) (cd := cdv) (A := A) (outer := outer) (s := s) (H := H) (E := E)
    have nd := sc_differences.nd
    exact (d_scons (d_expr (d_callF false G_check_part hr hp (by rfl) (d_acons (d_var 0) (d_acons (d_var 1) d_anil)) (al_cons (al_cons al_nil)))) (d_scons (d_set 2 nd (d_newK true)) (d_scons (d_for ho rfl (d_isq (d_callF false G_led_together hr hp (by rfl) (d_acons (d_var 0) (d_acons (d_var 1) d_anil)) (al_cons (al_cons al_nil)))) (d_gname 3 nd) (d_sone (d_for ho rfl (d_isq (d_var 3)) (d_gname 4 nd) (d_sone (d_for ho rfl (d_isq (d_var 3)) (d_gname 5 nd) (d_sone (d_asg d_bl (d_gsub (u1 hu) (d_var 2) (d_ix (u1 hu) (d_ix (u1 hu) (d_fld T.cl_Group T.na_Group_table (d_var 0)) (d_ix (u1 hu) (d_fld T.cl_Group T.na_Group_backs (d_var 0)) (d_var 4) (fun _ _ => rfl)) (fun _ _ => rfl)) (d_var 5) (fun _ _ => rfl)))))))))) (d_sone (d_ret (d_callF false G_closed_by hr hp (by rfl) (d_acons (d_var 0) (d_acons (d_callTy call_tuple_of r_tuple (by rfl) T.z_tuple (by decide +kernel) (d_acons (d_callB (c_sort rfl hu) (r_sort false) (by rfl) T.z_sorted (by decide +kernel) (d_acons (d_var 2) d_anil)) d_anil)) d_anil)) (al_cons (al_cons al_nil))))))))
end
end K77

-- M1
/-! M1: mirrors run: what each piece gives, loops by what stays true. -/
namespace EV
open PySem PySem.Spec L2
section
variable {α β : Type} {es : Es} {h h1 h2 : List EO} {C : Addr} {fs : List (Str × PV)}
@[simp] theorem rbind_ok {a : α} {k : α → List EO → Res β} : (Res.ok a h).bind k = k a h := rfl
@[simp] theorem rbind_exc {k : α → List EO → Res β} : (Res.exc C fs h : Res α).bind k = .exc C fs h := rfl
@[simp] theorem rsbind_ok {a : α} {k : α → List EO → SRes} : (Res.ok a h).sbind k = k a h := rfl
@[simp] theorem rsbind_exc {k : α → List EO → SRes} : (Res.exc C fs h : Res α).sbind k = .exc C fs h := rfl
@[simp] theorem rnb_ok {a : α} {k : α → List EO → Res β} : (Res.ok a h).nb k = k a h := rfl
@[simp] theorem nbind_nx {k : Es → List EO → SRes} : (SRes.nx es h).nbind k = k es h := rfl
@[simp] theorem nbind_rt {x : SV} {k : Es → List EO → SRes} : (SRes.rt x h).nbind k = .rt x h := rfl
@[simp] theorem nbind_exc {k : Es → List EO → SRes} : (SRes.exc C fs h).nbind k = .exc C fs h := rfl
/-! pieces -/
variable {f g fa fb fc : ME} {ga : MA} {k : F2} {t u : MT} {s s1 s2 : MS} {i j l n : Nat} {x y : SV} {p q : PV}
@[simp] theorem eVar_r : eVar i es h = match es[i]? with | some (some x) => .ok x h | _ => .bad := rfl
@[simp] theorem eC_r : eC p es h = .ok (.p p) h := rfl
@[simp] theorem eBin_r : eBin k fa fb es h = (fa es h).bind fun x h1 => (fb es h1).bind fun y h2 => k x y h2 := rfl
@[simp] theorem asB_r {b : Bool} : asB (.p (.bl b)) h = .ok b h := rfl
@[simp] theorem tB_r : tB_ f es h = (f es h).bind asB := rfl
@[simp] theorem eChain_r {k2 : F2} : eChain k k2 fa fb fc es h = (fa es h).bind fun x h1 => (fb es h1).bind fun y h2 => (k x y h2).bind fun z h3 => match z with
    | .p (.bl true) => (fc es h3).bind fun u h4 => k2 y u h4
    | .p (.bl false) => .ok (.p (.bl false)) h3
    | _ => .bad := rfl
@[simp] theorem tAnd_r : tAnd_ t u es h = (t es h).bind fun b h1 => if b = true then u es h1 else .ok false h1 := rfl
@[simp] theorem tOr_r : tOr_ t u es h = (t es h).bind fun b h1 => if b = true then .ok true h1 else u es h1 := rfl
@[simp] theorem tNot_r : tNot_ t es h = (t es h).bind fun b h1 => .ok (!b) h1 := rfl
@[simp] theorem eAnd_r : eAnd fa fb es h = (fa es h).bind fun x h1 => (asB x h1).bind fun b h2 => if b = true then fb es h2 else .ok (.p (.bl false)) h2 := rfl
@[simp] theorem eOr_r : eOr fa fb es h = (fa es h).bind fun x h1 => (asB x h1).bind fun b h2 => if b = true then .ok (.p (.bl true)) h2 else fb es h2 := rfl
@[simp] theorem eNot_r : eNot fa es h = (fa es h).bind fun x h1 => (asB x h1).bind fun b h2 => .ok (.p (.bl (!b))) h2 := rfl
@[simp] theorem eIf_r : eIf t fa fb es h = (t es h).bind fun b h1 => if b = true then fa es h1 else fb es h1 := rfl
@[simp] theorem tTrue_r : tTrue es h = .ok true h := rfl
@[simp] theorem aNil_r : aNil es h = .ok [] h := rfl
@[simp] theorem aCons_r : aCons fa ga es h = (fa es h).bind fun x h1 => (ga es h1).bind fun xs h2 => .ok (x :: xs) h2 := rfl
@[simp] theorem eTup_r : eTup ga es h = (ga es h).bind fun xs h1 => mkT xs h1 := rfl
@[simp] theorem eLst_r {mu : Bool} : eLst mu ga es h = (ga es h).bind fun xs h1 => mkL mu xs h1 := rfl
@[simp] theorem eCall_r {f : FC} : eCall f ga es h = (ga es h).bind fun xs h1 => f xs h1 := rfl
@[simp] theorem f1_r {k : SV → List EO → Res SV} : f1 k [x] h = k x h := rfl
@[simp] theorem f2_r {k : SV → SV → List EO → Res SV} : f2 k [x, y] h = k x y h := rfl
@[simp] theorem eCallM_r {mu : Bool} {mir : MF} : eCallM mu mir ga es h = (ga es h).bind fun xs h1 => cutR mu h1 (mir xs h1) := rfl
@[simp] theorem eM_r {T : String} {m : FM} : eM T m f ga es h = (f es h).bind fun x h1 => if tyS T x h1 = true then (ga es h1).bind fun xs h2 => m x xs h2 else .bad := rfl
@[simp] theorem eFld_r {fn : Str} : eFld C fn f es h = (f es h).bind fun x h1 => fldK C fn x h1 := rfl
@[simp] theorem eTy_r {T : String} : eTy T es h = .ok (.p (.ty T)) h := rfl
@[simp] theorem sNil_r : sNil es h = .nx es h := rfl
@[simp] theorem sSeq_r : sSeq s1 s2 es h = (s1 es h).nbind s2 := rfl
@[simp] theorem sExpr_r : sExpr f es h = (f es h).sbind fun _ h1 => .nx es h1 := rfl
@[simp] theorem sRet_r : sRet f es h = (f es h).sbind fun x h1 => .rt x h1 := rfl
@[simp] theorem sIf_r : sIf t s1 s2 es h = (t es h).sbind fun b h1 => if b = true then s1 es h1 else s2 es h1 := rfl
@[simp] theorem sSet_r : sSet i f es h = (f es h).sbind fun x h1 => .nx (es.set i (some x)) h1 := rfl
@[simp] theorem sAsg_r {g : MG} : sAsg g f es h = (f es h).sbind fun x h1 => (g x es h1).sbind fun es2 h2 => .nx es2 h2 := rfl
@[simp] theorem sPar_r : sPar i j ga es h = (ga es h).sbind fun xs h1 => match xs with
    | [x, y] => .nx ((es.set i (some x)).set j (some y)) h1
    | _ => .bad := rfl
@[simp] theorem gNm_r : gNm i x es h = .ok (es.set i (some x)) h := rfl
@[simp] theorem gsNil_r : gsNil [] es h = .ok es h := rfl
@[simp] theorem gsCons_r {g : MG} {gs : MGs} {xs : List SV} : gsCons g gs (x :: xs) es h = (g x es h).bind fun es1 h1 => gs xs es1 h1 := rfl
@[simp] theorem gSb_r {fo fi : ME} : gSb fo fi x es h = (fo es h).bind fun o h1 => (fi es h1).bind fun i h2 => (setF o i x h2).bind fun _ h3 => .ok es h3 := rfl
@[simp] theorem sRaise_r : sRaise C es h = .exc C [] h := rfl
theorem sFor_r {fI : MI} {g : MG} : sFor fI g s es h = (fI es h).sbind fun x h1 => sLoop x.1 g s x.2 0 es h1 := rfl
theorem runB_r {xs : List SV} : runB s n xs h = match s (xs.map some ++ List.replicate (n - xs.length) none) h with
    | .nx _ h1 => .ok (.p .non) h1
    | .rt x h1 => .ok x h1
    | .exc C fs h1 => .exc C fs h1
    | _ => .bad := rfl
/-! numbers -/
variable {a b : Int}
@[simp] theorem add_r {mu : Bool} : opAdd mu (.p (.int a)) (.p (.int b)) h = .ok (.p (.int (a + b))) h := rfl
@[simp] theorem sub_r : opSub (.p (.int a)) (.p (.int b)) h = .ok (.p (.int (a - b))) h := rfl
theorem mul_r {mu : Bool} (q : mulC a b = true) : opMul mu (.p (.int a)) (.p (.int b)) h = .ok (.p (.int (a * b))) h := by simp only [opMul, q, if_true]
theorem mod_r (q : b ≠ 0) : opMod (.p (.int a)) (.p (.int b)) h = .ok (.p (.int (a.fmod b))) h := by simp [opInt, q]
theorem fdiv_r (q : b ≠ 0) (q2 : b.natAbs < 1073741824) : opFdiv (.p (.int a)) (.p (.int b)) h = .ok (.p (.int (a.fdiv b))) h := by simp [opInt, q, q2]
@[simp] theorem cmp_r {c : Int → Int → Bool} : opCmp c (.p (.int a)) (.p (.int b)) h = .ok (.p (.bl (c a b))) h := rfl
@[simp] theorem intK_r : intK (.p (.int a)) h = .ok (.p (.int a)) h := rfl
@[simp] theorem absK_r : absK (.p (.int a)) h = .ok (.p (.int (if a < 0 then -a else a))) h := rfl
@[simp] theorem sz1 : (1 ≤ sizeLine) = True := eq_true (by decide)
@[simp] theorem sz0 : (0 ≤ sizeLine) = True := eq_true (by decide)
@[simp] theorem sz2 : (2 ≤ sizeLine) = True := eq_true (by decide)
/-! ends of calls -/
@[simp] theorem cut_self : Cut h h := ⟨Nat.le_refl _, .inl (List.take_length)⟩
theorem cut_app (l : List EO) : Cut h (h ++ l) := ⟨by simp, .inl (by simp)⟩
@[simp] theorem cutR_p : cutR false h (.ok (.p p) h) = .ok (.p p) h := by simp [cutR]
theorem cutR_app (l : List EO) : cutR false h (.ok (.p p) (h ++ l)) = .ok (.p p) h := by simp [cutR, cut_app]
@[simp] theorem cutR_exc : cutR false h (.exc C fs h) = .exc C fs h := by simp [cutR]
theorem cutR_excA (l : List EO) : cutR false h (.exc C fs (h ++ l)) = .exc C fs h := by simp [cutR, cut_app]
/-- a new list handed back -/
theorem cutR_lst {xs : List PV} {l l2 : List EO} (hn : n = h.length + l.length) : cutR false h (.ok (.ref n) (h ++ (l ++ .lst (xs.map .p) :: l2))) = .ok (.p (.fl xs)) h := by
  subst hn
  have e : (h ++ (l ++ EO.lst (xs.map .p) :: l2))[h.length + l.length]? = some (.lst (xs.map .p)) := by
    rw [List.getElem?_append_right (by omega)]; simp
  simp [cutR, cut_app, e, frzO, allP_map]
/-! x[i] -/
theorem atI_nat {γ : Type} {xs : List γ} {i : Nat} : atI xs (i : Int) = xs[i]? := by
  unfold atI ixN
  by_cases hi : i < xs.length
  · simp [hi]
  · have : xs[i]? = none := List.getElem?_eq_none (by omega)
    simp [hi, this]
theorem ix_seq_r {xs : List SV} {i : Nat} (e : seqOf h x = some xs) (ei : xs[i]? = some y) : ixF x (.p (.int i)) h = .ok y h := by
  simp [ixF, e, atI_nat, ei]
@[simp] theorem seq_tup {xs : List PV} : seqOf h (.p (.tup xs)) = some (xs.map .p) := rfl
@[simp] theorem seq_ftp {xs : List PV} : seqOf h (.p (.ftp xs)) = some (xs.map .p) := rfl
@[simp] theorem seq_fz {xs : List PV} : seqOf h (.p (.fz xs)) = some (xs.map .p) := rfl
@[simp] theorem seq_fl {xs : List PV} : seqOf h (.p (.fl xs)) = some (xs.map .p) := rfl
theorem seq_ref {xs : List SV} (e : h[n]? = some (.lst xs)) : seqOf h (.ref n) = some xs := by simp [seqOf, lstOf, e]
theorem iSeq_p {xs : List PV} (e : seqP p = some xs) (ef : f es h = .ok (.p p) h1) : iSeq f es h = .ok (nxtL (xs.map .p), xs.length + 1) h1 := by simp [iSeq, ef, e]
/-! walks -/
/-- what a walk hands out, while P holds -/
def Wk (x : Nxt × Nat) (xs : List SV) (P : List EO → Prop) : Prop := xs.length < x.2 ∧ ∀ h, P h → ∀ i, i ≤ xs.length → x.1 i h = some xs[i]?
theorem wk_l (xs : List SV) (P : List EO → Prop) : Wk (nxtL xs, xs.length + 1) xs P := ⟨Nat.lt_succ_self _, fun _ _ _ _ => rfl⟩
theorem wk_p (xs : List PV) (P : List EO → Prop) : Wk (nxtL (xs.map .p), xs.length + 1) (xs.map .p) P := ⟨by simp, fun _ _ _ _ => rfl⟩
theorem wk_n (n : Nat) (P : List EO → Prop) : Wk (nxtN 0 n, n + 1) ((List.range n).map fun i : Nat => SV.p (.int i)) P := ⟨by simp, fun _ _ i hi => by
  unfold nxtN
  by_cases h : i < n
  · simp [h, List.getElem?_range]
  · simp [h]⟩
/-- a for loop: what stays true, turn by turn; it may end by a return -/
theorem loop_ret {xs : List SV} {w : Nxt × Nat} {P : List EO → Prop} {g : MG} {Inv : Nat → Es → List EO → Prop} {Ret : SV → List EO → Prop} (wk : Wk w xs P) (hP : ∀ i es h, Inv i es h → P h)
    (step : ∀ i y es h, xs[i]? = some y → Inv i es h → ∃ es1 h1, g y es h = .ok es1 h1 ∧ ((∃ es2 h2, s es1 h1 = .nx es2 h2 ∧ Inv (i + 1) es2 h2) ∨ ∃ z h2, s es1 h1 = .rt z h2 ∧ Ret z h2)) (h0 : Inv 0 es h) :
    (∃ es2 h2, sLoop w.1 g s w.2 0 es h = .nx es2 h2 ∧ Inv xs.length es2 h2) ∨ ∃ z h2, sLoop w.1 g s w.2 0 es h = .rt z h2 ∧ Ret z h2 := by
  have main : ∀ (r k i : Nat) (es : Es) (h : List EO), i + r = xs.length → r < k → Inv i es h → (∃ es2 h2, sLoop w.1 g s k i es h = .nx es2 h2 ∧ Inv xs.length es2 h2) ∨ ∃ z h2, sLoop w.1 g s k i es h = .rt z h2 ∧ Ret z h2 := by
    intro r
    induction r with
    | zero =>
      intro k i es h hi hk I
      obtain ⟨k, rfl⟩ : ∃ k', k = k' + 1 := ⟨k - 1, by omega⟩
      have e := wk.2 h (hP _ _ _ I) i (by omega)
      rw [List.getElem?_eq_none (by omega)] at e
      refine .inl ⟨es, h, by simp only [sLoop, e], ?_⟩
      have : i = xs.length := by omega
      rw [← this]; exact I
    | succ r ih =>
      intro k i es h hi hk I
      obtain ⟨k, rfl⟩ : ∃ k', k = k' + 1 := ⟨k - 1, by omega⟩
      have e := wk.2 h (hP _ _ _ I) i (by omega)
      have ex : xs[i]? = some (xs[i]'(by omega)) := List.getElem?_eq_getElem _
      rw [ex] at e
      obtain ⟨es1, h1, eg, q⟩ := step i _ es h ex I
      rcases q with ⟨es2, h2, ef, I2⟩ | ⟨z, h2, ef, R⟩
      · have := ih k (i + 1) es2 h2 (by omega) (by omega) I2
        simp only [sLoop, e, eg, rsbind_ok, ef]
        exact this
      · exact .inr ⟨z, h2, by simp only [sLoop, e, eg, rsbind_ok, ef], R⟩
  exact main xs.length w.2 0 es h (by omega) wk.1 h0
theorem loop_inv {xs : List SV} {w : Nxt × Nat} {P : List EO → Prop} {g : MG} (Inv : Nat → Es → List EO → Prop) (wk : Wk w xs P) (hP : ∀ i es h, Inv i es h → P h)
    (step : ∀ i y es h, xs[i]? = some y → Inv i es h → ∃ es1 h1, g y es h = .ok es1 h1 ∧ ∃ es2 h2, s es1 h1 = .nx es2 h2 ∧ Inv (i + 1) es2 h2) (h0 : Inv 0 es h) :
    ∃ es2 h2, sLoop w.1 g s w.2 0 es h = .nx es2 h2 ∧ Inv xs.length es2 h2 := by
  rcases loop_ret (Ret := fun _ _ => False) wk hP (fun i y es h e I => let ⟨a, b, c, d⟩ := step i y es h e I; ⟨a, b, c, .inl d⟩) h0 with q | ⟨_, _, _, q⟩
  · exact q
  · exact q.elim
/-- while: what stays true, and a number that sinks -/
theorem while_inv {f : MS} (Inv : Nat → Es → List EO → Prop) (Fin : Es → List EO → Prop)
    (step : ∀ j es h, Inv j es h → (t es h = .ok false h ∧ Fin es h) ∨ (t es h = .ok true h ∧ ∃ j2 es2 h2, j2 < j ∧ f es h = .nx es2 h2 ∧ Inv j2 es2 h2)) : ∀ (k j : Nat) (es : Es) (h : List EO), j < k → Inv j es h → ∃ es2 h2, sWhile t f k es h = .nx es2 h2 ∧ Fin es2 h2
  | 0, _, _, _, hk, _ => by omega
  | k + 1, j, es, h, hk, I => by
    rcases step j es h I with ⟨e, F⟩ | ⟨e, j2, es2, h2, hj, ef, I2⟩
    · exact ⟨es, h, by simp [sWhile, e], F⟩
    · obtain ⟨es3, h3, e3, F⟩ := while_inv Inv Fin step k j2 es2 h2 (by omega) I2
      exact ⟨es3, h3, by simp [sWhile, e, ef, e3], F⟩
/-! comprehensions -/
/-- a list comprehension whose pieces leave all as it is -/
theorem lc_loop {γ : Type} {L : List γ} {e : γ → SV} {w : Nxt × Nat} {g : MG} {vs : List Nat} {tt : γ → Bool} {ff : γ → SV} {h : List EO} (wk : Wk w (L.map e) fun h' => ∃ acc, h' = h ++ [.lst acc]) (hl : L.length ≤ sizeLine)
    (step : ∀ y acc, y ∈ L → ∃ es1, g (e y) (ewipe es vs) (h ++ [.lst acc]) = .ok es1 (h ++ [.lst acc]) ∧ t es1 (h ++ [.lst acc]) = .ok (tt y) (h ++ [.lst acc]) ∧ (tt y = true → f es1 (h ++ [.lst acc]) = .ok (ff y) (h ++ [.lst acc]))) :
    lcLoop h.length w.1 g t f vs w.2 0 es (h ++ [.lst []]) = .ok () (h ++ [.lst ((L.filter tt).map ff)]) := by
  have main : ∀ (r k i : Nat) (acc : List SV), i + r = L.length → r < k → acc.length ≤ i → lcLoop h.length w.1 g t f vs k i es (h ++ [.lst acc]) = .ok () (h ++ [.lst (acc ++ ((L.drop i).filter tt).map ff)]) := by
    intro r
    induction r with
    | zero =>
      intro k i acc hi hk ha
      obtain ⟨k, rfl⟩ : ∃ k', k = k' + 1 := ⟨k - 1, by omega⟩
      have e := wk.2 _ ⟨acc, rfl⟩ i (by simp; omega)
      rw [List.getElem?_eq_none (by simp; omega)] at e
      rw [List.drop_eq_nil_of_le (by omega)]
      simp [lcLoop, e]
    | succ r ih =>
      intro k i acc hi hk ha
      obtain ⟨k, rfl⟩ : ∃ k', k = k' + 1 := ⟨k - 1, by omega⟩
      have hi' : i < L.length := by omega
      have e := wk.2 _ ⟨acc, rfl⟩ i (by simp; omega)
      rw [List.getElem?_map, List.getElem?_eq_getElem hi', Option.map_some] at e
      obtain ⟨es1, eg, et, ef⟩ := step L[i] acc (List.getElem_mem hi')
      rw [List.drop_eq_getElem_cons hi', List.filter_cons]
      cases htt : tt L[i] with
      | true =>
        have := ih k (i + 1) (acc ++ [ff L[i]]) (by omega) (by omega) (by simp; omega)
        simp only [lcLoop, e, eg, et, rnb_ok, htt, ef htt, if_true]
        have eh : (h ++ [EO.lst acc])[h.length]? = some (.lst acc) := by simp
        rw [eh]
        simp only
        rw [if_pos (by omega)]
        have es' : (h ++ [EO.lst acc]).set h.length (.lst (acc ++ [ff L[i]])) = h ++ [.lst (acc ++ [ff L[i]])] := by simp
        rw [es', this]
        simp
      | false =>
        have := ih k (i + 1) acc (by omega) (by omega) (by omega)
        simp only [lcLoop, e, eg, et, rnb_ok, htt]
        simpa using this
  have := main L.length w.2 0 [] (by omega) (by simpa using wk.1) (by simp)
  simpa using this
theorem lc_p {γ : Type} {L : List γ} {e : γ → SV} {w : Nxt × Nat} {fI : MI} {g : MG} {vs : List Nat} {h h1 : List EO} (tt : γ → Bool) (ff : γ → PV) (eI : fI es h = .ok w h1) (wk : Wk w (L.map e) fun h' => ∃ acc, h' = h1 ++ [.lst acc]) (hl : L.length ≤ sizeLine)
    (step : ∀ y acc, y ∈ L → ∃ es1, g (e y) (ewipe es vs) (h1 ++ [.lst acc]) = .ok es1 (h1 ++ [.lst acc]) ∧ t es1 (h1 ++ [.lst acc]) = .ok (tt y) (h1 ++ [.lst acc]) ∧ (tt y = true → f es1 (h1 ++ [.lst acc]) = .ok (.p (ff y)) (h1 ++ [.lst acc]))) :
    eLc false fI g t f vs es h = .ok (.p (.fl ((L.filter tt).map ff))) h1 := by
  have := lc_loop (ff := fun y => .p (ff y)) wk hl step
  have em : (L.filter tt).map (fun y => SV.p (ff y)) = ((L.filter tt).map ff).map SV.p := by simp
  rw [em] at this
  simp only [eLc, eI, rbind_ok, this, rnb_ok]
  have eh : (h1 ++ [EO.lst (List.map SV.p (List.map ff (List.filter tt L)))])[h1.length]? = some (.lst (List.map SV.p (List.map ff (List.filter tt L)))) := by simp
  simp only [finL, eh, allP_map]
  simp [cut_app]
theorem lc_m {γ : Type} {L : List γ} {e : γ → SV} {w : Nxt × Nat} {fI : MI} {g : MG} {vs : List Nat} {h h1 : List EO} (tt : γ → Bool) (ff : γ → SV) (eI : fI es h = .ok w h1) (wk : Wk w (L.map e) fun h' => ∃ acc, h' = h1 ++ [.lst acc]) (hl : L.length ≤ sizeLine)
    (step : ∀ y acc, y ∈ L → ∃ es1, g (e y) (ewipe es vs) (h1 ++ [.lst acc]) = .ok es1 (h1 ++ [.lst acc]) ∧ t es1 (h1 ++ [.lst acc]) = .ok (tt y) (h1 ++ [.lst acc]) ∧ (tt y = true → f es1 (h1 ++ [.lst acc]) = .ok (ff y) (h1 ++ [.lst acc]))) :
    eLc true fI g t f vs es h = .ok (.ref h1.length) (h1 ++ [.lst ((L.filter tt).map ff)]) := by
  simp only [eLc, eI, rbind_ok, lc_loop wk hl step, rnb_ok]
  simp [finL]
/-- the same, all taken -/
theorem lc_a {γ : Type} {L : List γ} {e : γ → SV} {w : Nxt × Nat} {fI : MI} {g : MG} {vs : List Nat} {h h1 : List EO} (ff : γ → PV) (eI : fI es h = .ok w h1) (wk : Wk w (L.map e) fun h' => ∃ acc, h' = h1 ++ [.lst acc]) (hl : L.length ≤ sizeLine)
    (step : ∀ y acc, y ∈ L → ∃ es1, g (e y) (ewipe es vs) (h1 ++ [.lst acc]) = .ok es1 (h1 ++ [.lst acc]) ∧ f es1 (h1 ++ [.lst acc]) = .ok (.p (ff y)) (h1 ++ [.lst acc])) :
    eLc false fI g tTrue f vs es h = .ok (.p (.fl (L.map ff))) h1 := by
  have := lc_p (f := f) (t := tTrue) (es := es) (h := h) (fun _ => true) ff eI wk hl fun y acc hy => let ⟨a, b, c⟩ := step y acc hy; ⟨a, b, rfl, fun _ => c⟩
  rwa [List.filter_eq_self.mpr fun _ _ => rfl] at this
/-- a for loop as a fold -/
theorem loop_fold {γ σ : Type} {L : List γ} {e : γ → SV} {w : Nxt × Nat} {P : List EO → Prop} {g : MG} (hp : σ → List EO) (I : σ → Prop) (EsOk : Es → Prop) (up : σ → γ → σ) (wk : Wk w (L.map e) P) (hP : ∀ st, I st → P (hp st))
    (step : ∀ y es st, y ∈ L → EsOk es → I st → I (up st y) ∧ ∃ es1, g (e y) es (hp st) = .ok es1 (hp st) ∧ ∃ es2, s es1 (hp st) = .nx es2 (hp (up st y)) ∧ EsOk es2) {st : σ} (h0 : EsOk es) (hI : I st) :
    I (L.foldl up st) ∧ ∃ es2, sLoop w.1 g s w.2 0 es (hp st) = .nx es2 (hp (L.foldl up st)) ∧ EsOk es2 := by
  obtain ⟨es2, h2, e1, ⟨k1, k2, k3⟩⟩ := loop_inv (fun i es h => h = hp ((L.take i).foldl up st) ∧ EsOk es ∧ I ((L.take i).foldl up st)) wk (fun i es h q => q.1 ▸ hP _ q.2.2) (fun i y es h hy ⟨q1, q2, q3⟩ => by
    subst q1
    rw [List.getElem?_map, Option.map_eq_some_iff] at hy
    obtain ⟨z, hz, rfl⟩ := hy
    obtain ⟨r1, es1, r2, es2, r3, r4⟩ := step z es _ (List.mem_of_getElem? hz) q2 q3
    have et : (L.take (i + 1)).foldl up st = up ((L.take i).foldl up st) z := by
      rw [List.take_add_one, hz]; simp
    exact ⟨es1, _, r2, es2, _, r3, by rw [et], r4, by rw [et]; exact r1⟩) (es := es) (h := hp st) ⟨rfl, h0, hI⟩
  simp only [List.length_map, List.take_length] at k1 k3
  exact ⟨k3, es2, by rw [e1, k1], k2⟩
/-! lists and dicts that change -/
variable {xs : List SV}
theorem append_r {y : SV} (e : h[n]? = some (.lst xs)) (hl : xs.length < sizeLine) : mAppend (.ref n) [y] h = .ok (.p .non) (h.set n (.lst (xs ++ [y]))) := by simp [mAppend, onLst, e, hl]
theorem ty_lst (e : h[n]? = some (.lst xs)) : tyS "list" (.ref n) h = true := by simp [tyS, lstOf, e]
theorem ty_dic {kvs : List (Key × SV)} (e : h[n]? = some (.dic kvs)) : tyS "dict" (.ref n) h = true := by simp [tyS, dctOf, e]
theorem ty_dit {kvs : List (List Key × SV)} (e : h[n]? = some (.dit kvs)) : tyS "dict" (.ref n) h = true := by simp [tyS, dctOf, e]
theorem pop_r {y : SV} (e : h[n]? = some (.lst (xs ++ [y]))) : mPop (.ref n) [] h = .ok y (h.set n (.lst xs)) := by simp [mPop, onLst, e]
theorem len_lst (e : h[n]? = some (.lst xs)) : lenK (.ref n) h = .ok (.p (.int xs.length)) h := by simp [lenK, seqOf, lstOf, e]
@[simp] theorem len_tup {xs : List PV} : lenK (.p (.tup xs)) h = .ok (.p (.int xs.length)) h := by simp [lenK]
@[simp] theorem len_ftp {xs : List PV} : lenK (.p (.ftp xs)) h = .ok (.p (.int xs.length)) h := by simp [lenK]
@[simp] theorem len_fl {xs : List PV} : lenK (.p (.fl xs)) h = .ok (.p (.int xs.length)) h := by simp [lenK]
/-- members kept as keys -/
def nD (l : List Nat) : EO := .dic (l.map fun k : Nat => (.inl (k : Int), .p (.bl true)))
theorem look_nD {l : List Nat} {a : Nat} : (dkLook (l.map fun k : Nat => ((.inl (k : Int) : Key), SV.p (.bl true))) (.inl (a : Int))).isSome = decide (a ∈ l) := by
  induction l with
  | nil => rfl
  | cons b l ih =>
    simp only [dkLook, List.map_cons, List.find?_cons, List.mem_cons] at ih ⊢
    by_cases hb : b = a
    · subst hb; simp
    · have h1 : ((Sum.inl (b : Int) : Key) = Sum.inl (a : Int)) = False := by simp; omega
      simp only [h1, decide_false]
      rw [ih]
      have : ¬ a = b := fun q => hb q.symm
      simp [this]
theorem in_nD {l : List Nat} {a : Nat} (e : h[n]? = some (nD l)) : isInK (.p (.int (a : Nat))) (.ref n) h = some (decide (a ∈ l)) := by
  simp only [isInK, dctOf, e, nD, dctLook, keyOf, Option.map_some, look_nD]
theorem opIn_f {y : SV} {b : Bool} (e : isInK x y h = some b) : opIn false x y h = .ok (.p (.bl b)) h := by simp [opIn, e]
theorem opIn_t {y : SV} {b : Bool} (e : isInK x y h = some b) : opIn true x y h = .ok (.p (.bl !b)) h := by simp [opIn, e]
theorem put_nD {l : List Nat} {a : Nat} (e : h[n]? = some (nD l)) (hl : l.length < sizeLine) (hm : a ∉ l) : setF (.ref n) (.p (.int (a : Nat))) (.p (.bl true)) h = .ok () (h.set n (nD (l ++ [a]))) := by
  have h1 : ((l.map fun k : Nat => ((.inl (k : Int) : Key), SV.p (.bl true))).any fun kv => decide (kv.1 = (.inl (a : Int) : Key))) = false := by
    rw [List.any_map, List.any_eq_false]
    intro b hb
    simp only [Function.comp, Sum.inl.injEq, decide_eq_true_eq]
    intro q
    exact hm (by have : b = a := by omega
                 exact this ▸ hb)
  simp only [setF, e, nD, keyOf, List.length_map, hl, if_true, dkPut, h1]
  simp
theorem put_nD_in {l : List Nat} {a : Nat} (e : h[n]? = some (nD l)) (hl : l.length < sizeLine) (hm : a ∈ l) : setF (.ref n) (.p (.int (a : Nat))) (.p (.bl true)) h = .ok () (h.set n (nD l)) := by
  have h1 : ((l.map fun k : Nat => ((.inl (k : Int) : Key), SV.p (.bl true))).any fun kv => decide (kv.1 = (.inl (a : Int) : Key))) = true := by
    rw [List.any_map, List.any_eq_true]
    exact ⟨a, hm, by simp⟩
  simp only [setF, e, nD, keyOf, List.length_map, hl, if_true, dkPut, h1]
  have h2 : ((l.map fun k : Nat => ((.inl (k : Int) : Key), SV.p (.bl true))).map fun kv => if kv.1 = (.inl (a : Int) : Key) then (kv.1, SV.p (.bl true)) else kv) = l.map fun k : Nat => ((.inl (k : Int) : Key), SV.p (.bl true)) := by
    rw [List.map_map]
    refine List.map_congr_left fun k _ => ?_
    simp
  rw [h2]
end
end EV

-- M2
/-! M2: groups told by their tables, and how they stand as values; sorted. -/
namespace EV
open PySem PySem.Spec L2
/-- members as values -/
def nP (l : List Nat) : List PV := l.map fun i => .int (i : Nat)
theorem nP_map {γ : Type} (l : List γ) (f : γ → Nat) : nP (l.map f) = l.map fun i => PV.int (f i : Nat) := by simp [nP]
@[simp] theorem nP_len (l : List Nat) : (nP l).length = l.length := by simp [nP]
theorem nP_get {l : List Nat} {i : Nat} : (nP l)[i]? = l[i]?.map fun i => PV.int (i : Nat) := by simp [nP]
structure Tb where
  n : Nat
  mul : Nat → Nat → Nat
  inv : Nat → Nat
structure Tb.Ok (T : Tb) : Prop where
  pos : 0 < T.n
  le : T.n ≤ 8
  lt : ∀ {a b}, a < T.n → b < T.n → T.mul a b < T.n
  ilt : ∀ {a}, a < T.n → T.inv a < T.n
  l1 : ∀ {a}, a < T.n → T.mul 0 a = a
  r1 : ∀ {a}, a < T.n → T.mul a 0 = a
  li : ∀ {a}, a < T.n → T.mul (T.inv a) a = 0
  ri : ∀ {a}, a < T.n → T.mul a (T.inv a) = 0
  as : ∀ {a b c}, a < T.n → b < T.n → c < T.n → T.mul (T.mul a b) c = T.mul a (T.mul b c)
def Tb.row (T : Tb) (a : Nat) : PV := .ftp (nP ((List.range T.n).map (T.mul a)))
def Tb.tab (T : Tb) : PV := .tup ((List.range T.n).map T.row)
/-- b's back, a, b -/
def Tb.cj (T : Tb) (a b : Nat) : Nat := T.mul (T.mul (T.inv b) a) b
section
variable {T : Tb} {h : List EO} {a b c : Nat}
theorem Tb.Ok.cjlt (O : T.Ok) (ha : a < T.n) (hb : b < T.n) : T.cj a b < T.n := O.lt (O.lt (O.ilt hb) ha) hb
theorem ix_n {x : SV} {l : List Nat} {i : Nat} (e : seqOf h x = some ((nP l).map .p)) (hi : l[i]? = some a) : ixF x (.p (.int (i : Nat))) h = .ok (.p (.int (a : Nat))) h :=
  ix_seq_r e (by simp [nP_get, hi])
theorem ix_tab (ha : a < T.n) : ixF (.p T.tab) (.p (.int (a : Nat))) h = .ok (.p (T.row a)) h :=
  ix_seq_r rfl (by simp [ha])
theorem ix_row (hb : b < T.n) : ixF (.p (T.row a)) (.p (.int (b : Nat))) h = .ok (.p (.int (T.mul a b : Nat))) h :=
  ix_n rfl (by simp [hb])
theorem Tb.Ok.canc (O : T.Ok) (ha : a < T.n) (hb : b < T.n) (hc : c < T.n) (e : T.mul a b = T.mul a c) : b = c := by
  have := congrArg (T.mul (T.inv a)) e
  rwa [← O.as (O.ilt ha) ha hb, ← O.as (O.ilt ha) ha hc, O.li ha, O.l1 hb, O.l1 hc] at this
theorem Tb.Ok.invq (O : T.Ok) (ha : a < T.n) (hb : b < T.n) (e : T.mul a b = 0) : b = T.inv a := O.canc ha hb (O.ilt ha) (e.trans (O.ri ha).symm)
theorem idx_is {l : List Nat} {j : Nat} (hj : l[j]? = some 0) (hu : ∀ k, l[k]? = some 0 → k = j) : (l.map Int.ofNat).idxOf (0 : Int) = j := by
  have hm : (0 : Int) ∈ l.map Int.ofNat := List.mem_map.mpr ⟨0, List.mem_of_getElem? hj, rfl⟩
  have h1 := List.idxOf_lt_length_of_mem hm
  have h2 := List.getElem_idxOf h1
  refine hu _ ?_
  rw [List.getElem_map] at h2
  rw [List.getElem?_eq_getElem (by simpa using h1)]
  have h3 : l[List.idxOf (0 : Int) (l.map Int.ofNat)]'(by simpa using h1) = 0 := by
    exact Int.ofNat.inj (h2.trans rfl)
  rw [h3]
theorem allInt_nP (l : List Nat) : allInt ((nP l).map .p) = some (l.map Int.ofNat) := by
  induction l with
  | nil => rfl
  | cons a l ih => simp only [nP, List.map_cons, allInt] at ih ⊢; rw [ih]; rfl
theorem ix0_row (O : T.Ok) (ha : a < T.n) : mTupIx (.p (T.row a)) [.p (.int 0)] h = .ok (.p (.int (T.inv a : Nat))) h := by
  have e0 : ((List.range T.n).map (T.mul a))[T.inv a]? = some 0 := by simp [O.ilt ha, O.ri ha]
  have e := idx_is e0 fun k hk => by
    simp only [List.getElem?_map, Option.map_eq_some_iff] at hk
    obtain ⟨x, hx, q⟩ := hk
    obtain ⟨h1, h2⟩ := List.getElem?_eq_some_iff.mp hx
    simp at h1 h2
    subst h2
    exact O.invq ha h1 q
  have hm : (0 : Int) ∈ ((List.range T.n).map (T.mul a)).map Int.ofNat := List.mem_map.mpr ⟨0, List.mem_of_getElem? e0, rfl⟩
  simp only [mTupIx, Tb.row, tupOf, allInt_nP, hm, if_true, e]
/-! data -/
theorem PsD_nP (l : List Nat) : PsD (nP l) = some (l.map fun i => (PV.int (i : Nat), PyData.int (i : Nat))) := by
  induction l with
  | nil => rfl
  | cons a l ih => simp only [nP, List.map_cons, PsD, toD] at ih ⊢; rw [ih]
theorem toDs_nP (l : List Nat) : toDs (nP l) = some (l.map fun i => PyData.int (i : Nat)) := by
  induction l with
  | nil => rfl
  | cons a l ih => simp only [nP, List.map_cons, toDs, toD] at ih ⊢; rw [ih]
theorem merge_nat {l m : List Nat} (p : m.Perm l) (o : m.Pairwise (· ≤ ·)) : l.mergeSort (fun a b => decide (a ≤ b)) = m := by
  refine (List.Perm.eq_of_pairwise (le := fun a b => a ≤ b) (fun a b _ _ h1 h2 => Nat.le_antisymm h1 h2) o ?_ (p.trans (List.mergeSort_perm l _).symm)).symm
  exact (List.pairwise_mergeSort (le := fun a b : Nat => decide (a ≤ b)) (fun a b c h1 h2 => by simp only [decide_eq_true_eq] at *; omega) (fun a b => by simp only [Bool.or_eq_true, decide_eq_true_eq]; omega) l).imp fun h => of_decide_eq_true h
theorem sort_nP {l m : List Nat} (hl : l.length ≤ sizeLine) (p : m.Perm l) (o : m.Pairwise (· ≤ ·)) : sortDs (nP l) = some (nP m) := by
  have hc : PySem.W.AllAlike ((l.map fun i => (PV.int (i : Nat), PyData.int (i : Nat))).map (·.2)) ∧ PySem.W.Sortable ((l.map fun i => (PV.int (i : Nat), PyData.int (i : Nat))).map (·.2)) ∧ (l.map fun i => (PV.int (i : Nat), PyData.int (i : Nat))).length ≤ sizeLine ∧ ∀ b ∈ l.map fun i => (PV.int (i : Nat), PyData.int (i : Nat)), b.2.depth ≤ 64 := by
    refine ⟨?_, .inr ?_, by simpa using hl, ?_⟩
    · intro d hd d' hd'
      simp only [List.map_map, List.mem_map] at hd hd'
      obtain ⟨i, _, rfl⟩ := hd
      obtain ⟨j, _, rfl⟩ := hd'
      rfl
    · intro d hd
      simp only [List.map_map, List.mem_map] at hd
      obtain ⟨i, _, rfl⟩ := hd
      exact ⟨by simp, by simp⟩
    · intro d hd
      simp only [List.mem_map] at hd
      obtain ⟨i, _, rfl⟩ := hd
      simp [PyData.depth]
  simp only [sortDs, PsD_nP]
  rw [if_pos hc]
  have hm : (l.map fun i => (PV.int (i : Nat), PyData.int (i : Nat))).mergeSort (PySem.W.dataLe false (·.2)) = (l.mergeSort (fun a b => decide (a ≤ b))).map fun i => (PV.int (i : Nat), PyData.int (i : Nat)) := by
    rw [List.map_mergeSort]
    intro a _ b _
    have := congrFun (congrFun (PySem.W.dataLe_int (fun i : Nat => (i : Int))) a) b
    have e2 : PySem.W.dataLe false (fun x : PV × PyData => x.2) (PV.int (a : Nat), PyData.int (a : Nat)) (PV.int (b : Nat), PyData.int (b : Nat)) = PySem.W.dataLe false (fun i : Nat => PyData.int (i : Int)) a b := rfl
    rw [e2, this]
    simp
  rw [hm, merge_nat p o]
  simp [nP]
theorem sortI_nat {l m : List Nat} (p : m.Perm l) (o : m.Pairwise (· ≤ ·)) : sortI (l.map Int.ofNat) = m.map Int.ofNat := by
  refine (sortI_the (p.map _) ?_).symm
  rw [List.pairwise_map]
  exact o.imp fun h => by simpa using h
end
/-! ascending rows of members -/
open Classical in
/-- those below n that P holds of -/
noncomputable def can (n : Nat) (P : Nat → Prop) : List Nat := (List.range n).filter fun i => decide (P i)
theorem mem_can {n : Nat} {P : Nat → Prop} {i : Nat} : i ∈ can n P ↔ i < n ∧ P i := by simp [can]
theorem can_nodup (n : Nat) (P : Nat → Prop) : (can n P).Nodup := List.Pairwise.filter _ List.nodup_range
theorem can_lt (n : Nat) (P : Nat → Prop) : (can n P).Pairwise (· < ·) := (List.pairwise_lt_range).filter _
theorem can_le (n : Nat) (P : Nat → Prop) : (can n P).Pairwise (· ≤ ·) := (can_lt n P).imp Nat.le_of_lt
theorem can_len (n : Nat) (P : Nat → Prop) : (can n P).length ≤ n := by
  have := List.length_filter_le (fun i => @decide (P i) (Classical.propDecidable _)) (List.range n)
  simpa [can] using this
theorem can_congr {n : Nat} {P Q : Nat → Prop} (h : ∀ i, i < n → (P i ↔ Q i)) : can n P = can n Q := by
  unfold can
  refine List.filter_congr fun i hi => ?_
  have := h i (by simpa using hi)
  simp [this]
theorem perm_can {n : Nat} {P : Nat → Prop} {l : List Nat} (nd : l.Nodup) (hm : ∀ i, i ∈ l ↔ i < n ∧ P i) : (can n P).Perm l :=
  (List.perm_ext_iff_of_nodup (can_nodup n P) nd).mpr fun i => by rw [mem_can, hm]
theorem can_filter {n : Nat} {P Q : Nat → Prop} [DecidablePred Q] : (can n P).filter (fun i => decide (Q i)) = can n fun i => P i ∧ Q i := by
  unfold can
  rw [List.filter_filter]
  refine List.filter_congr fun i _ => ?_
  by_cases hP : P i <;> by_cases hQ : Q i <;> simp [hP, hQ]
/-! going about: what is found, what waits -/
section
variable {op : Nat → Nat → Nat} {ok : Nat → Bool} {x : Nat}
/-- one look: what x and s lead to is new, or not -/
def bst (op : Nat → Nat → Nat) (ok : Nat → Bool) (x : Nat) (p : List Nat × List Nat) (s : Nat) : List Nat × List Nat :=
  if ok (op x s) = true ∧ op x s ∉ p.1 then (p.1 ++ [op x s], p.2 ++ [op x s]) else p
theorem bst_fold (op : Nat → Nat → Nat) (ok : Nat → Bool) (x : Nat) : ∀ (L : List Nat) (ks ws : List Nat), ks.Nodup → ∃ d, L.foldl (bst op ok x) (ks, ws) = (ks ++ d, ws ++ d) ∧ (ks ++ d).Nodup ∧ (∀ y ∈ d, ok y = true ∧ ∃ s ∈ L, y = op x s) ∧ ∀ s ∈ L, ok (op x s) = true → op x s ∈ ks ++ d
  | [], ks, ws, nd => ⟨[], by simp, by simpa using nd, by simp, by simp⟩
  | s :: L, ks, ws, nd => by
    rw [List.foldl_cons]
    by_cases q : ok (op x s) = true ∧ op x s ∉ ks
    · have e : bst op ok x (ks, ws) s = (ks ++ [op x s], ws ++ [op x s]) := by simp only [bst]; rw [if_pos q]
      rw [e]
      have nd2 : (ks ++ [op x s]).Nodup := by
        rw [List.nodup_append]
        exact ⟨nd, by simp, fun a ha b hb => by simp at hb; subst hb; intro r; exact q.2 (r ▸ ha)⟩
      obtain ⟨d, h1, h2, h3, h4⟩ := bst_fold op ok x L (ks ++ [op x s]) (ws ++ [op x s]) nd2
      refine ⟨op x s :: d, by rw [h1]; simp, by simpa using h2, ?_, ?_⟩
      · intro y hy
        rcases List.mem_cons.mp hy with rfl | hy
        · exact ⟨q.1, s, List.mem_cons_self, rfl⟩
        · obtain ⟨a, b, c, e⟩ := h3 y hy
          exact ⟨a, b, List.mem_cons_of_mem _ c, e⟩
      · intro t ht hk
        rcases List.mem_cons.mp ht with rfl | ht
        · simp
        · simpa using h4 t ht hk
    · have e : bst op ok x (ks, ws) s = (ks, ws) := by simp only [bst]; rw [if_neg q]
      rw [e]
      obtain ⟨d, h1, h2, h3, h4⟩ := bst_fold op ok x L ks ws nd
      refine ⟨d, h1, h2, fun y hy => ?_, ?_⟩
      · obtain ⟨a, b, c, e⟩ := h3 y hy
        exact ⟨a, b, List.mem_cons_of_mem _ c, e⟩
      · intro t ht hk
        rcases List.mem_cons.mp ht with rfl | ht
        · have : op x t ∈ ks := Classical.byContradiction fun r => q ⟨hk, r⟩
          exact List.mem_append_left _ this
        · exact h4 t ht hk
/-- what comes of x₀ by L, all along ok -/
inductive Com (op : Nat → Nat → Nat) (ok : Nat → Bool) (L : List Nat) (x₀ : Nat) : Nat → Prop
  | at_ : Com op ok L x₀ x₀
  | go {x s : Nat} (h : Com op ok L x₀ x) (hs : s ∈ L) (k : ok (op x s) = true) : Com op ok L x₀ (op x s)
/-- what stays true while all is gone about: n is how many there may be -/
structure BInv (op : Nat → Nat → Nat) (ok : Nat → Bool) (L : List Nat) (x₀ n : Nat) (j : Nat) (p : List Nat × List Nat) : Prop where
  nd : p.1.Nodup
  com : ∀ y ∈ p.1, y < n ∧ Com op ok L x₀ y
  st : x₀ ∈ p.1
  sub : ∀ y ∈ p.2, y ∈ p.1
  shut : ∀ y ∈ p.1, y ∉ p.2 → ∀ s ∈ L, ok (op y s) = true → op y s ∈ p.1
  m : 2 * (n - p.1.length) + p.2.length = j
theorem nodup_lt {n : Nat} {l : List Nat} (nd : l.Nodup) (h : ∀ y ∈ l, y < n) : l.length ≤ n := by
  have := nd.length_le_of_subset (l₂ := List.range n) fun y hy => by simpa using h y hy
  simpa using this
theorem binv_0 {n x₀ : Nat} {L : List Nat} (h0 : x₀ < n) : BInv op ok L x₀ n (2 * (n - 1) + 1) ([x₀], [x₀]) :=
  ⟨by simp, fun y hy => by simp at hy; subst hy; exact ⟨h0, .at_⟩, by simp, by simp, fun y hy hn => by simp at hy; subst hy; simp at hn, by simp⟩
theorem binv_step {n x₀ j : Nat} {L : List Nat} {ks ws : List Nat} (ho : ∀ y s, y < n → s ∈ L → op y s < n) (I : BInv op ok L x₀ n j (ks, ws ++ [x])) : ∃ j2, j2 < j ∧ BInv op ok L x₀ n j2 (L.foldl (bst op ok x) (ks, ws)) := by
  obtain ⟨d, h1, h2, h3, h4⟩ := bst_fold op ok x L ks ws I.nd
  obtain ⟨hx1, hx2⟩ := I.com x (I.sub x (by simp))
  have hc : ∀ y ∈ ks ++ d, y < n ∧ Com op ok L x₀ y := by
    intro y hy
    rcases List.mem_append.mp hy with hy | hy
    · exact I.com y hy
    · obtain ⟨a, s, hs, rfl⟩ := h3 y hy
      exact ⟨ho _ _ hx1 hs, .go hx2 hs a⟩
  have hl := nodup_lt h2 fun y hy => (hc y hy).1
  have hm := I.m
  simp only [List.length_append, List.length_singleton] at hm hl
  rw [h1]
  refine ⟨_, ?_, ⟨h2, hc, List.mem_append_left _ I.st, ?_, ?_, rfl⟩⟩
  · simp only [List.length_append]; omega
  · intro y hy
    rcases List.mem_append.mp hy with hy | hy
    · exact List.mem_append_left _ (I.sub y (List.mem_append_left _ hy))
    · exact List.mem_append_right _ hy
  · intro y hy hn s hs hk
    rcases List.mem_append.mp hy with hy | hy
    · by_cases hyx : y = x
      · subst hyx; exact h4 s hs hk
      · refine List.mem_append_left _ (I.shut y hy (fun q => ?_) s hs hk)
        rcases List.mem_append.mp q with q | q
        · exact hn (List.mem_append_left _ q)
        · simp at q; exact hyx q
    · exact absurd (List.mem_append_right _ hy) hn
theorem binv_end {n x₀ j : Nat} {L : List Nat} {ks : List Nat} (I : BInv op ok L x₀ n j (ks, [])) : (can n (Com op ok L x₀)).Perm ks := by
  have hq : ∀ y, Com op ok L x₀ y → y ∈ ks := by
    intro y q
    induction q with
    | at_ => exact I.st
    | go h hs k ih => exact I.shut _ ih (by simp) _ hs k
  exact perm_can I.nd fun i => ⟨I.com i, fun q => hq i q.2⟩
end
section
variable {h l : List EO} {a b c a' : EO}
theorem g0 : (h ++ a :: l)[h.length]? = some a := by simp
theorem g1 : (h ++ a :: b :: l)[h.length + 1]? = some b := by rw [List.getElem?_append_right (by omega)]; simp
theorem g2 : (h ++ a :: b :: c :: l)[h.length + 2]? = some c := by rw [List.getElem?_append_right (by omega)]; simp
theorem t0 : (h ++ a :: l).set h.length a' = h ++ a' :: l := by simp
theorem t1 : (h ++ a :: b :: l).set (h.length + 1) a' = h ++ a :: a' :: l := by rw [List.set_append_right _ _ (by omega)]; simp
theorem t2 : (h ++ a :: b :: c :: l).set (h.length + 2) a' = h ++ a :: b :: a' :: l := by rw [List.set_append_right _ _ (by omega)]; simp
end
/-- a value walked, whatever comes behind h -/
def Walks (h : List EO) (x : SV) (ys : List SV) : Prop := ∃ w, (∀ l i es, es[i]? = some (some x) → iSeq (eVar i) es (h ++ l) = .ok w (h ++ l)) ∧ ∀ P : List EO → Prop, (∀ h', P h' → ∃ l, h' = h ++ l) → Wk w ys P
theorem walks_p {h : List EO} {p : PV} {xs : List PV} (e : seqP p = some xs) : Walks h (.p p) (xs.map .p) :=
  ⟨(nxtL (xs.map .p), xs.length + 1), fun l i es ei => iSeq_p e (by simp [ei]), fun P _ => wk_p xs P⟩
theorem walks_ref {h : List EO} {n : Nat} {xs : List SV} (e : h[n]? = some (.lst xs)) (hl : xs.length < 100000) : Walks h (.ref n) xs :=
  have hn : n < h.length := (List.getElem?_eq_some_iff.mp e).1
  have eg : ∀ l, (h ++ l)[n]? = some (.lst xs) := fun l => by rw [List.getElem?_append_left hn, e]
  ⟨(nxtR n, fuelL), fun l i es ei => by simp [iSeq, ei, eg], fun P hP => ⟨hl, fun h' hh i hi => by
    obtain ⟨l, rfl⟩ := hP _ hh
    show nxtR n i (h ++ l) = _
    simp [nxtR, eg]⟩⟩
theorem Walks.app {h : List EO} {x : SV} {ys : List SV} (l : List EO) (w : Walks h x ys) : Walks (h ++ l) x ys := by
  obtain ⟨w, h1, h2⟩ := w
  exact ⟨w, fun l2 i es ei => by rw [List.append_assoc]; exact h1 _ i es ei, fun P hP => h2 P fun h' hh => by
    obtain ⟨l2, rfl⟩ := hP _ hh
    exact ⟨l ++ l2, by simp⟩⟩
theorem disp_r {es : Es} {h : List EO} (k : Nat) : eDisp (eC (.int (k : Nat))) (eC (.bl true)) es h = .ok (.ref h.length) (h ++ [nD [k]]) := by
  simp [eDisp, keyOf, nD]
theorem sortK_nD {h : List EO} {n : Nat} {l m : List Nat} (e : h[n]? = some (nD l)) (hl : l.length < 64) (p : m.Perm l) (o : m.Pairwise (· ≤ ·)) : sortK false (.ref n) h = .ok (.p (.fl (nP m))) h := by
  have hi : intKs (l.map fun k : Nat => (.inl (k : Int) : Key)) = some (l.map Int.ofNat) := by
    clear e p hl
    induction l with
    | nil => rfl
    | cons a l ih => simp only [List.map_cons, intKs, ih]; rfl
  have e1 : ((l.map fun k : Nat => ((.inl (k : Int) : Key), SV.p (.bl true))).map (·.1)) = l.map fun k : Nat => (.inl (k : Int) : Key) := by simp
  have hz : (64 : Nat) ≤ sizeLine := by decide
  have e2 : ((m.map Int.ofNat).map fun i => SV.p (.int i)) = (nP m).map .p := by simp [nP]
  have hm := p.length_eq
  simp only [sortK, dctOf, e, nD, e1, hi, List.length_map, hl, if_true, sortI_nat p o, e2, mkL]
  rw [if_pos (by simp; omega)]
  simp [allP_map]
theorem tup_fl {h : List EO} {xs : List PV} (hl : xs.length ≤ sizeLine) : tupK (.p (.fl xs)) h = .ok (.p (.tup xs)) h := by
  simp [tupK, tupOf, lstOf, mkT, hl, allP_map]
abbrev nI (i : Nat) : SV := .p (.int (i : Nat))
theorem nP_nI (l : List Nat) : (nP l).map SV.p = l.map nI := by simp [nP]
theorem bst_inv {op : Nat → Nat → Nat} {ok : Nat → Bool} {n x s : Nat} {ks ws : List Nat} (ho : op x s < n) (h1 : ks.Nodup) (h2 : ∀ y ∈ ks, y < n) (h3 : ws.length ≤ ks.length + 2 * n) :
    (bst op ok x (ks, ws) s).1.Nodup ∧ (∀ y ∈ (bst op ok x (ks, ws) s).1, y < n) ∧ (bst op ok x (ks, ws) s).2.length ≤ (bst op ok x (ks, ws) s).1.length + 2 * n := by
  unfold bst
  by_cases q : ok (op x s) = true ∧ op x s ∉ ks
  · rw [if_pos q]
    refine ⟨?_, ?_, by simp; omega⟩
    · rw [List.nodup_append]
      exact ⟨h1, by simp, fun a ha b hb => by simp at hb; subst hb; intro r; exact q.2 (r ▸ ha)⟩
    · intro y hy
      rcases List.mem_append.mp hy with hy | hy
      · exact h2 y hy
      · simp at hy; subst hy; exact ho
  · rw [if_neg q]; exact ⟨h1, h2, h3⟩
/-- all gone about, as the programs do it -/
theorem bfs {op : Nat → Nat → Nat} {ok : Nat → Bool} {n x₀ : Nat} {L : List Nat} {es : Es} {t : MT} {pop body : MS} {fI : MI} {g : MG} (hp : List Nat × List Nat → List EO) (EsI : Es → Prop) (EsZ : Nat → Es → Prop)
    (hn : n ≤ 1000) (h0 : x₀ < n) (ho : ∀ y s, y < n → s ∈ L → op y s < n)
    (ht : ∀ es ks ws, EsI es → ws.length ≤ 3 * n → (∀ y ∈ ws, y < n) → t es (hp (ks, ws)) = .ok (decide (ws ≠ [])) (hp (ks, ws)))
    (hpop : ∀ es ks ws z, EsI es → ∃ es1, pop es (hp (ks, ws ++ [z])) = .nx es1 (hp (ks, ws)) ∧ EsZ z es1)
    (hfor : ∀ es z p, EsZ z es → ∃ w, fI es (hp p) = .ok w (hp p) ∧ Wk w (L.map nI) fun h' => ∃ p, h' = hp p)
    (hbody : ∀ es z s ks ws, EsZ z es → z < n → s ∈ L → ks.Nodup → (∀ y ∈ ks, y < n) → ks.length ≤ n → ws.length ≤ 3 * n → ∃ es1, g (nI s) es (hp (ks, ws)) = .ok es1 (hp (ks, ws)) ∧ ∃ es2, body es1 (hp (ks, ws)) = .nx es2 (hp (bst op ok z (ks, ws) s)) ∧ EsZ z es2)
    (hz : ∀ es z, EsZ z es → EsI es) (hes : EsI es) :
    ∃ es2 ks, sWhile t (sSeq pop (sFor fI g body)) 100000 es (hp ([x₀], [x₀])) = .nx es2 (hp (ks, [])) ∧ EsI es2 ∧ (can n (Com op ok L x₀)).Perm ks ∧ ks.length ≤ n := by
  obtain ⟨es2, h2, e1, ks, e2, e3, j, e4⟩ := while_inv (t := t) (f := sSeq pop (sFor fI g body)) (fun j es h' => EsI es ∧ j ≤ 2 * n ∧ ∃ p, h' = hp p ∧ BInv op ok L x₀ n j p) (fun es h' => ∃ ks, h' = hp (ks, []) ∧ EsI es ∧ ∃ j, BInv op ok L x₀ n j (ks, []))
    (by
      rintro j es h' ⟨he, hj, ⟨ks, ws⟩, rfl, I⟩
      have hl := nodup_lt I.nd fun y hy => (I.com y hy).1
      have hm := I.m
      simp only at hl hm
      rcases List.eq_nil_or_concat ws with rfl | ⟨ws, z, rfl⟩
      · exact .inl ⟨by simpa using ht es ks [] he (by simp) (by simp), ks, rfl, he, j, I⟩
      · rw [List.concat_eq_append] at I hm ⊢
        have hz1 : z < n := (I.com z (I.sub z (by simp))).1
        obtain ⟨j2, hj2, I2⟩ := binv_step ho I
        obtain ⟨es1, p1, q1⟩ := hpop es ks ws z he
        obtain ⟨w, ew, hw⟩ := hfor es1 z (ks, ws) q1
        simp only [List.length_append, List.length_singleton] at hm
        obtain ⟨_, es2, p2, q2⟩ := loop_fold (es := es1) (s := body) hp (fun p => p.1.Nodup ∧ (∀ y ∈ p.1, y < n) ∧ p.2.length ≤ p.1.length + 2 * n) (EsZ z) (bst op ok z) hw (fun p _ => ⟨p, rfl⟩)
          (by
            rintro s es ⟨k1, w1⟩ hs he ⟨i1, i2, i3⟩
            have hl1 := nodup_lt i1 i2
            simp only at hl1 i3
            exact ⟨bst_inv (ho z s hz1 hs) i1 i2 i3, hbody es z s k1 w1 he hz1 hs i1 i2 hl1 (by omega)⟩) (st := (ks, ws)) q1 ⟨I.nd, fun y hy => (I.com y hy).1, by simp only; omega⟩
        refine .inr ⟨?_, j2, es2, _, hj2, ?_, hz es2 z q2, by omega, _, rfl, I2⟩
        · have := ht es ks (ws ++ [z]) he (by simp; omega) fun y hy => (I.com y (I.sub y hy)).1
          simpa using this
        · simp only [sSeq_r, p1, nbind_nx, sFor_r, ew, rsbind_ok, p2]) 100000 (2 * (n - 1) + 1) es (hp ([x₀], [x₀])) (by omega) ⟨hes, by omega, _, rfl, binv_0 h0⟩
  subst e2
  exact ⟨es2, ks, e1, e3, binv_end e4, nodup_lt e4.nd fun y hy => (e4.com y hy).1⟩
end EV

-- M2b
/-! M2b: rows of members as data: compared, shown. -/
namespace EV
open PySem PySem.Spec L2
/-- small data: what can be compared and shown -/
structure Pl (k w : Nat) (d : PyData) : Prop where
  lay : d.canLay0 = true
  dep : d.depth ≤ k
  sh : d.showable = true
  nd : d.hasDict = false
  ish : d.intsShort 13 = true
  wt : d.weight ≤ w
  so : ∀ c ∈ d.shown.cps.toList, c < 0x110000
def nd (i : Nat) : PyData := .int (i : Nat)
theorem pl_nd {i : Nat} (h : i < 16) : Pl 0 8 (nd i) := by
  have a : ∀ i : Fin 16, (decide ((nd i.val).showable = true) && decide ((nd i.val).intsShort 13 = true) && decide ((nd i.val).weight ≤ 8) && decide (∀ c ∈ (nd i.val).shown.cps.toList, c < 0x110000)) = true := by decide +kernel
  have := a ⟨i, h⟩
  simp only [Bool.and_eq_true, decide_eq_true_eq] at this
  exact ⟨by simp [nd, PyData.canLay0], by simp [nd, PyData.depth], this.1.1.1, by simp [nd, PyData.hasDict], this.1.1.2, this.1.2, this.2⟩
theorem pl_bl (b : Bool) : Pl 0 8 (.bool b) := ⟨by simp [PyData.canLay0], by simp [PyData.depth], by simp [PyData.showable], by simp [PyData.hasDict], by simp [PyData.intsShort], by simp [PyData.weight], by cases b <;> decide +kernel⟩
theorem pl_all {k w : Nat} : ∀ {ds : List PyData}, (∀ d ∈ ds, Pl k w d) → PyData.canLayAll0 ds = true ∧ PyData.depthAll ds ≤ k ∧ PyData.showableAll ds = true ∧ PyData.hasDictAll ds = false ∧ PyData.intsShortAll 13 ds = true ∧ PyData.weightAll ds ≤ ds.length * (w + 1)
  | [], _ => ⟨by simp [PyData.canLayAll0], by simp [PyData.depthAll], by simp [PyData.showableAll], by simp [PyData.hasDictAll], by simp [PyData.intsShortAll], by simp [PyData.weightAll]⟩
  | d :: ds, h => by
    have p := h d List.mem_cons_self
    obtain ⟨a1, a2, a3, a4, a5, a6⟩ := pl_all fun x hx => h x (List.mem_cons_of_mem _ hx)
    have := p.wt
    have := p.dep
    refine ⟨by simp [PyData.canLayAll0, p.lay, a1], by simp only [PyData.depthAll]; omega, by simp [PyData.showableAll, p.sh, a3], by simp [PyData.hasDictAll, p.nd, a4], by simp [PyData.intsShortAll, p.ish, a5], ?_⟩
    simp only [PyData.weightAll, List.length_cons, Nat.succ_mul]
    omega
theorem so_all {ds : List PyData} (h : ∀ d ∈ ds, ∀ c ∈ d.shown.cps.toList, c < 0x110000) : ∀ t ∈ PyData.shownAll ds, ∀ c ∈ t.cps.toList, c < 0x110000 := by
  rw [PyProof.Rows.shownAll_eq_map]
  intro t ht
  obtain ⟨d, hd, rfl⟩ := List.mem_map.mp ht
  exact h d hd
theorem so_tup {ds : List PyData} (h : ∀ d ∈ ds, ∀ c ∈ d.shown.cps.toList, c < 0x110000) : ∀ c ∈ (PyData.tuple ds).shown.cps.toList, c < 0x110000 := by
  intro c hc
  rw [PyData.shown_tuple, PyProof.Rows.mem_cps_append, PyProof.Rows.mem_cps_append, PyProof.Rows.signs_lparen, PyProof.Rows.mem_join, PyProof.Rows.signs_sep] at hc
  rcases hc with (hc | ⟨t, ht, hc⟩ | ⟨_, hc⟩) | hc
  · simp at hc; omega
  · exact so_all h t ht c hc
  · simp at hc; omega
  · rw [PyProof.Rows.signs_tuple_end] at hc
    split at hc <;> simp at hc <;> omega
theorem so_lst {ds : List PyData} (h : ∀ d ∈ ds, ∀ c ∈ d.shown.cps.toList, c < 0x110000) : ∀ c ∈ (PyData.list ds).shown.cps.toList, c < 0x110000 := by
  intro c hc
  rw [PyData.shown_list, PyProof.Rows.mem_cps_append, PyProof.Rows.mem_cps_append, PyProof.Rows.signs_lbrack, PyProof.Rows.signs_rbrack, PyProof.Rows.mem_join, PyProof.Rows.signs_sep] at hc
  rcases hc with (hc | ⟨t, ht, hc⟩ | ⟨_, hc⟩) | hc
  · simp at hc; omega
  · exact so_all h t ht c hc
  · simp at hc; omega
  · simp at hc; omega
theorem pl_tup {k w : Nat} {ds : List PyData} (h : ∀ d ∈ ds, Pl k w d) (hl : ds.length ≤ 16) : Pl (k + 1) (16 * (w + 1)) (.tuple ds) := by
  obtain ⟨a1, a2, a3, a4, a5, a6⟩ := pl_all h
  exact ⟨by simp [PyData.canLay0, a1], by simp only [PyData.depth]; omega, by simp [PyData.showable, a3], by simp [PyData.hasDict, a4], by simp [PyData.intsShort, a5], by simp only [PyData.weight]; exact Nat.le_trans a6 (Nat.mul_le_mul_right _ hl), so_tup fun d hd => (h d hd).so⟩
theorem pl_lst {k w : Nat} {ds : List PyData} (h : ∀ d ∈ ds, Pl k w d) (hl : ds.length ≤ 16) : Pl (k + 1) (16 * (w + 1)) (.list ds) := by
  obtain ⟨a1, a2, a3, a4, a5, a6⟩ := pl_all h
  exact ⟨by simp [PyData.canLay0, a1], by simp only [PyData.depth]; omega, by simp [PyData.showable, a3], by simp [PyData.hasDict, a4], by simp [PyData.intsShort, a5], by simp only [PyData.weight]; exact Nat.le_trans a6 (Nat.mul_le_mul_right _ hl), so_lst fun d hd => (h d hd).so⟩
theorem Pl.shaped {k w : Nat} {d : PyData} (p : Pl k w d) (h : k ≤ 64) : SeqAt.shaped d = true := by
  have := p.dep
  simp only [SeqAt.shaped, p.lay, Bool.true_and, decide_eq_true_eq]
  omega
theorem Pl.shown {k w : Nat} {d : PyData} (p : Pl k w d) (h : k ≤ 64) (hw : w ≤ 2 ^ 20) : d.shown.length ≤ sizeLine := by
  have h1 := p.dep
  have h2 := p.wt
  have := PyProof.Rows.shown_le13 (d := d) (by simp only [PyData.layable0, p.lay, Bool.true_and, Bool.and_eq_true, decide_eq_true_eq]; omega) p.ish
  have : sizeLine = 16777216 := by decide
  omega
theorem repr_r {x : SV} {h : List EO} {k w : Nat} {d : PyData} (e : svD h x = some d) (p : Pl k w d) (hk : k ≤ 64) (hw : w ≤ 2 ^ 20) : reprK x h = .ok (.p (.str d.shown)) h := by
  have h1 := p.dep
  simp only [reprK, e, p.sh, p.nd, p.shown hk hw, and_true, true_and]
  rw [if_pos (by omega)]
theorem eq_r {x y : SV} {h : List EO} {k w : Nat} {d e : PyData} {g : PyData → PyData → Bool} (ex : svD h x = some d) (ey : svD h y = some e) (p : Pl k w d) (q : Pl k w e) (hk : k ≤ 64) : opData g x y h = .ok (.p (.bl (g d e))) h := by
  simp only [opData, ex, ey, p.shaped hk, q.shaped hk, and_self, if_true]
theorem Pl.up {k w k2 w2 : Nat} {d : PyData} (p : Pl k w d) (h1 : k ≤ k2) (h2 : w ≤ w2) : Pl k2 w2 d := ⟨p.lay, Nat.le_trans p.dep h1, p.sh, p.nd, p.ish, Nat.le_trans p.wt h2, p.so⟩
theorem toDs_n (l : List Nat) : toDs (nP l) = some (l.map nd) := toDs_nP l
theorem toDs_of {γ : Type} {l : List γ} {f : γ → PV} {g : γ → PyData} (h : ∀ a, toD (f a) = some (g a)) : toDs (l.map f) = some (l.map g) := by
  induction l with
  | nil => rfl
  | cons a l ih => simp only [List.map_cons, toDs, h, ih]
/-- a row of members -/
def tD (l : List Nat) : PyData := .tuple (l.map nd)
theorem toD_tup (l : List Nat) : toD (.tup (nP l)) = some (tD l) := by simp only [toD, toDs_n]; rfl
theorem toD_ftp (l : List Nat) : toD (.ftp (nP l)) = some (tD l) := by simp only [toD, toDs_n]; rfl
theorem pl_tD {l : List Nat} (h : ∀ a ∈ l, a < 16) (hl : l.length ≤ 16) : Pl 1 144 (tD l) := pl_tup (w := 8) (fun d hd => by
  obtain ⟨a, ha, rfl⟩ := List.mem_map.mp hd
  exact pl_nd (h a ha)) (by simpa using hl)
theorem sv_lst {h : List EO} {n : Nat} {ps : List PV} {ds : List PyData} (e : h[n]? = some (.lst (ps.map .p))) (ed : toDs ps = some ds) : svD h (.ref n) = some (.list ds) := by
  simp only [svD, lstOf, e, allP_map, ed]; rfl
theorem sv_fl {h : List EO} {ps : List PV} {ds : List PyData} (ed : toDs ps = some ds) : svD h (.p (.fl ps)) = some (.list ds) := by
  simp only [svD, toD, ed]; rfl
theorem nd_eqv (a b : Nat) : PyData.eqv (nd a) (nd b) = decide (a = b) := by
  simp only [nd, PyData.eqv]
  by_cases h : a = b
  · subst h; simp
  · have : ¬ ((a : Int) = (b : Int)) := by omega
    rw [decide_eq_false h]
    exact beq_eq_false_iff_ne.mpr this
theorem eqvAll_of {γ : Type} [DecidableEq γ] {f : γ → PyData} (h : ∀ a b, PyData.eqv (f a) (f b) = decide (a = b)) : ∀ l m : List γ, PyData.eqvAll (l.map f) (m.map f) = decide (l = m)
  | [], [] => by simp [PyData.eqvAll]
  | [], _ :: _ => by simp [PyData.eqvAll]
  | _ :: _, [] => by simp [PyData.eqvAll]
  | a :: l, b :: m => by
    simp only [List.map_cons, PyData.eqvAll, h, eqvAll_of h l m, List.cons.injEq]
    by_cases h1 : a = b <;> by_cases h2 : l = m <;> simp [h1, h2]
theorem tD_eqv (l m : List Nat) : PyData.eqv (tD l) (tD m) = decide (l = m) := by
  simp only [tD, PyData.eqv]; exact eqvAll_of nd_eqv l m
/-- a row of rows -/
def lD (L : List (List Nat)) : PyData := .list (L.map tD)
theorem lD_eqv (L M : List (List Nat)) : PyData.eqv (lD L) (lD M) = decide (L = M) := by
  simp only [lD, PyData.eqv]; exact eqvAll_of tD_eqv L M
theorem pl_lD {L : List (List Nat)} (h : ∀ l ∈ L, (∀ a ∈ l, a < 16) ∧ l.length ≤ 16) (hl : L.length ≤ 16) : Pl 2 2320 (lD L) := pl_lst (w := 144) (fun d hd => by
  obtain ⟨a, ha, rfl⟩ := List.mem_map.mp hd
  exact pl_tD (h a ha).1 (h a ha).2) (by simpa using hl)
def lP (L : List (List Nat)) : List PV := L.map fun l => .tup (nP l)
theorem toDs_l (L : List (List Nat)) : toDs (lP L) = some (L.map tD) := toDs_of toD_tup
/-- while a list is left -/
theorem ne_nil {h : List EO} {n : Nat} {ws : List Nat} (e : h[n]? = some (.lst (ws.map nI))) : (∀ a ∈ ws, a < 16) → opData (fun d e => !PyData.eqv d e) (.ref n) (.p (.fl [])) h = .ok (.p (.bl (decide (ws ≠ [])))) h := by
  intro hw
  rw [← nP_nI] at e
  have e1 := sv_lst e (toDs_n ws)
  have e2 : svD h (.p (.fl [])) = some (.list []) := rfl
  have hl : ∀ d ∈ ws.map nd, Pl 0 8 d := fun d hd => by
    obtain ⟨a, ha, rfl⟩ := List.mem_map.mp hd
    exact pl_nd (hw a ha)
  obtain ⟨a1, a2, _⟩ := pl_all hl
  have c1 : SeqAt.shaped (.list (ws.map nd)) = true := by
    have hd : (PyData.list (ws.map nd)).depth ≤ 1 := by simp only [PyData.depth]; exact Nat.succ_le_succ a2
    have hc : (PyData.list (ws.map nd)).canLay0 = true := by simp only [PyData.canLay0]; exact a1
    simp only [SeqAt.shaped, hc, Bool.true_and, decide_eq_true_eq]
    exact Nat.le_trans hd (by decide)
  have c2 : SeqAt.shaped (.list []) = true := by decide +kernel
  simp only [opData, e1, e2, c1, c2, and_self, if_true]
  cases ws <;> simp [PyData.eqv, PyData.eqvAll]
end EV

-- M3
/-! M3: the functions of k77 on groups as values, first part. -/
namespace K77
open PySem PySem.Spec L2 EV
def grp (C : Cs) (T : Tb) : PV := .ob C.Group ["table", "many", "backs"] [T.tab, .int (T.n : Nat), .tup (nP ((List.range T.n).map T.inv))]
section
variable {C : Cs} {T : Tb} {h : List EO} {a b c : Nat}
theorem f_tab : fldK C.Group "table" (.p (grp C T)) h = .ok (.p T.tab) h := by
  simp [fldK, grp]; rfl
theorem f_many : fldK C.Group "many" (.p (grp C T)) h = .ok (nI T.n) h := by
  simp [fldK, grp]; rfl
theorem f_backs : fldK C.Group "backs" (.p (grp C T)) h = .ok (.p (.tup (nP ((List.range T.n).map T.inv)))) h := by
  simp [fldK, grp]; rfl
theorem ix_back (ha : a < T.n) : ixF (.p (.tup (nP ((List.range T.n).map T.inv)))) (nI a) h = .ok (nI (T.inv a)) h := ix_n rfl (by simp [ha])
theorem about_r (O : T.Ok) (ha : a < T.n) (hb : b < T.n) : cutR false h (F_about C [.p (grp C T), nI a, nI b] h) = .ok (nI (T.cj a b)) h := by
  have h1 := O.ilt hb
  have h2 := O.lt h1 ha
  simp only [F_about, runB_r]; simp [m_about, List.replicate, f_tab, f_backs, ix_back hb, ix_tab h1, ix_row ha, ix_tab h2, ix_row hb, Tb.cj]
theorem led_r (O : T.Ok) (ha : a < T.n) (hb : b < T.n) : cutR false h (F_law_led C [.p T.tab, nI a, nI b] h) = .ok (nI (T.cj a b)) h := by
  have h1 := O.ilt hb
  have h2 := O.lt h1 ha
  have ty : tyS "tuple" (.p (T.row b)) h = true := rfl
  simp only [F_law_led, runB_r]; simp [m_law_led, List.replicate, ty, ix0_row O hb, ix_tab hb, ix_tab h1, ix_row ha, ix_tab h2, ix_row hb, Tb.cj]
theorem kii : kitB "int" "int" = some true := by decide +kernel
theorem kib : kitB "int" "bool" = some false := by decide +kernel
theorem kbi : kitB "bool" "int" = some true := by decide +kernel
theorem kbb : kitB "bool" "bool" = some true := by decide +kernel
theorem ktt : kitB "tuple" "tuple" = some true := by decide +kernel
theorem klt : kitB "list" "tuple" = some false := by decide +kernel
theorem knt : kitB "NoneType" "tuple" = some false := by decide +kernel
theorem kit : kitB "int" "tuple" = some false := by decide +kernel
theorem int_r (i : Int) : cutR false h (F_is_integer C [.p (.int i)] h) = .ok (.p (.bl true)) h := by
  simp only [F_is_integer, runB_r]; simp [m_is_integer, List.replicate, isiK, tyN, kii, kib]
theorem int_bl (i : Bool) : cutR false h (F_is_integer C [.p (.bl i)] h) = .ok (.p (.bl false)) h := by
  simp only [F_is_integer, runB_r]; simp [m_is_integer, List.replicate, isiK, tyN, kbi, kbb]
theorem within_r (i lo hi : Int) : cutR false h (F_is_within C [.p (.int i), .p (.int lo), .p (.int hi)] h) = .ok (.p (.bl (decide (lo ≤ i) && decide (i ≤ hi)))) h := by
  have := int_r (C := C) (h := h) i
  simp only [F_is_within, runB_r]
  by_cases q : lo ≤ i <;> simp [m_is_within, List.replicate, this, q]
theorem within_bl (i : Bool) (lo hi : Int) : cutR false h (F_is_within C [.p (.bl i), .p (.int lo), .p (.int hi)] h) = .ok (.p (.bl false)) h := by
  have := int_bl (C := C) (h := h) i
  simp only [F_is_within, runB_r]; simp [m_is_within, List.replicate, this]
noncomputable def Tb.gen (T : Tb) (S : List Nat) : List Nat := can T.n (Com T.mul (fun _ => true) S 0)
theorem bst_new {op : Nat → Nat → Nat} {z s : Nat} {ks ws : List Nat} (q : op z s ∉ ks) : bst op (fun _ => true) z (ks, ws) s = (ks ++ [op z s], ws ++ [op z s]) := by
  unfold bst; rw [if_pos ⟨rfl, q⟩]
theorem bst_old {op : Nat → Nat → Nat} {z s : Nat} {ks ws : List Nat} (q : op z s ∈ ks) : bst op (fun _ => true) z (ks, ws) s = (ks, ws) := by
  unfold bst; rw [if_neg fun r => r.2 q]
theorem closed_r (O : T.Ok) {S : List Nat} (hS : ∀ s ∈ S, s < T.n) {x : SV} (hx : Walks h x (S.map nI)) :
    cutR false h (F_closed_by C [.p (grp C T), x] h) = .ok (.p (.tup (nP (Tb.gen T S)))) h := by
  have h8 := O.le
  obtain ⟨w, ew, hw⟩ := hx
  have hz : (1000 : Nat) < sizeLine := by decide
  let hp : List Nat × List Nat → List EO := fun p => h ++ [nD p.1, .lst (p.2.map nI)]
  obtain ⟨es2, ks, e1, ⟨a, b, c, rfl⟩, e3, hk⟩ := bfs (op := T.mul) (ok := fun _ => true) (L := S) (t := (tB_ (eBin opGt (eCall (f1 lenK) (aCons (eVar 3) aNil)) (eC (.int 0))))) (pop := (sSet 4 (eM "list" mPop (eVar 3) aNil))) (fI := iSeq (eVar 1)) (g := gNm 5) (body := (sSeq (sSet 6 (eBin ixF (eBin ixF (eFld C.Group "table" (eVar 0)) (eVar 4)) (eVar 5))) (sIf (tB_ (eBin (opIn true) (eVar 6) (eVar 2))) (sSeq (sAsg (gSb (eVar 2) (eVar 6)) (eC (.bl true))) (sExpr (eM "list" mAppend (eVar 3) (aCons (eVar 6) aNil)))) sNil)))
    hp (fun es => ∃ a b c, es = [some (.p (grp C T)), some x, some (.ref h.length), some (.ref (h.length + 1)), a, b, c]) (fun z es => ∃ b c, es = [some (.p (grp C T)), some x, some (.ref h.length), some (.ref (h.length + 1)), some (nI z), b, c])
    (es := [some (.p (grp C T)), some x, some (.ref h.length), some (.ref (h.length + 1)), none, none, none]) (n := T.n) (by omega) O.pos (fun y s hy hs => O.lt hy (hS s hs))
    (by
      rintro es ks ws ⟨a, b, c, rfl⟩ _ _
      have := len_lst (g1 : (h ++ nD ks :: .lst (ws.map nI) :: [])[h.length + 1]? = _)
      simp [hp, this]
      cases ws <;> simp)
    (by
      rintro es ks ws z ⟨a, b, c, rfl⟩
      have e1 := g1 (h := h) (a := nD ks) (b := .lst (ws.map nI ++ [nI z])) (l := [])
      refine ⟨_, ?_, b, c, rfl⟩
      simp [hp, ty_lst e1, pop_r e1, t1])
    (by
      rintro es z p ⟨b, c, rfl⟩
      exact ⟨w, ew _ 1 _ rfl, hw _ fun h' ⟨p, e⟩ => ⟨_, e⟩⟩)
    (by
      rintro es z s ks ws ⟨b, c, rfl⟩ hz1 hs nd hks hl1 hl2
      have e0 := g0 (h := h) (a := nD ks) (l := [.lst (ws.map nI)])
      have hm := opIn_t (in_nD (a := T.mul z s) e0)
      refine ⟨_, rfl, ?_⟩
      by_cases q : T.mul z s ∈ ks
      · rw [bst_old q]
        refine ⟨_, ?_, some (nI s), some (nI (T.mul z s)), rfl⟩
        simp [f_tab, ix_tab hz1, ix_row (hS s hs), hp, hm, q]
      · rw [bst_new q]
        have hp1 := put_nD e0 (by omega) q
        have e1 := g1 (h := h) (a := nD (ks ++ [T.mul z s])) (b := .lst (ws.map nI)) (l := [])
        have ha := append_r (y := nI (T.mul z s)) e1 (by simp; omega)
        refine ⟨_, ?_, some (nI s), some (nI (T.mul z s)), rfl⟩
        simp [f_tab, ix_tab hz1, ix_row (hS s hs), hp, hm, q, hp1, t0, ty_lst e1, ha, t1])
    (fun es z ⟨b, c, e⟩ => ⟨_, _, _, e⟩) ⟨none, none, none, rfl⟩
  have es0 := sortK_nD (g0 : (h ++ nD ks :: [.lst []])[h.length]? = _) (by omega) e3 (can_le _ _)
  have hl := can_len T.n (Com T.mul (fun _ => true) S 0)
  simp only [F_closed_by, runB_r]
  have d0 := disp_r (es := [some (.p (grp C T)), some x, none, none, none, none, none]) (h := h) 0
  simp only [hp, List.map_cons, List.map_nil, nI, Int.cast_ofNat_Int] at e1
  simp only [Int.ofNat_zero, Int.cast_ofNat_Int] at d0 
  simp [m_closed_by, List.replicate, d0, mkL, e1, es0, tup_fl (h := h ++ [nD ks, .lst []]) (xs := nP (can T.n (Com T.mul (fun _ => true) S 0))) (by simp; omega), cutR_app]
  rfl
end
end K77

-- M4
/-! M4: the law's own closing, leading. -/
namespace K77
open PySem PySem.Spec L2 EV
section
variable {C : Cs} {T : Tb} {h : List EO} {a b c : Nat}
theorem law_closed_r (O : T.Ok) {S : List Nat} (hS : ∀ s ∈ S, s < T.n) {x : SV} (hx : Walks h x (S.map nI)) :
    cutR false h (F_law_closed C [.p T.tab, x] h) = .ok (.p (.tup (nP (Tb.gen T S)))) h := by
  have h8 := O.le
  obtain ⟨w, ew, hw⟩ := hx
  have hz : (1000 : Nat) < sizeLine := by decide
  let hp : List Nat × List Nat → List EO := fun p => h ++ [nD p.1, .lst (p.2.map nI)]
  obtain ⟨es2, ks, e1, ⟨⟨a, b, c, rfl⟩, _⟩, e3, hk⟩ := bfs (op := T.mul) (ok := fun _ => true) (L := S) (t := (tB_ (eBin cNe (eVar 3) (eLst false aNil)))) (pop := (sSet 4 (eM "list" mPop (eVar 3) aNil))) (fI := iSeq (eVar 1)) (g := gNm 5) (body := (sSeq (sSet 6 (eBin ixF (eBin ixF (eVar 0) (eVar 4)) (eVar 5))) (sIf (tB_ (eBin (opIn true) (eVar 6) (eVar 2))) (sSeq (sAsg (gSb (eVar 2) (eVar 6)) (eC (.bl true))) (sExpr (eM "list" mAppend (eVar 3) (aCons (eVar 6) aNil)))) sNil)))
    hp (fun es => (∃ a b c, es = [some (.p T.tab), some x, some (.ref h.length), some (.ref (h.length + 1)), a, b, c]) ∧ True) (fun z es => ∃ b c, es = [some (.p T.tab), some x, some (.ref h.length), some (.ref (h.length + 1)), some (nI z), b, c])
    (es := [some (.p T.tab), some x, some (.ref h.length), some (.ref (h.length + 1)), none, none, none]) (n := T.n) (by omega) O.pos (fun y s hy hs => O.lt hy (hS s hs))
    (by
      rintro es ks ws ⟨⟨a, b, c, rfl⟩, _⟩ _ hw
      have := ne_nil (g1 : (h ++ nD ks :: .lst (ws.map nI) :: [])[h.length + 1]? = _) fun y hy => by have := hw y hy; omega
      simp [hp, mkL, allP, this])
    (by
      rintro es ks ws z ⟨⟨a, b, c, rfl⟩, _⟩
      have e1 := g1 (h := h) (a := nD ks) (b := .lst (ws.map nI ++ [nI z])) (l := [])
      refine ⟨_, ?_, b, c, rfl⟩
      simp [hp, ty_lst e1, pop_r e1, t1])
    (by
      rintro es z p ⟨b, c, rfl⟩
      exact ⟨w, ew _ 1 _ rfl, hw _ fun h' ⟨p, e⟩ => ⟨_, e⟩⟩)
    (by
      rintro es z s ks ws ⟨b, c, rfl⟩ hz1 hs nd hks hl1 hl2
      have e0 := g0 (h := h) (a := nD ks) (l := [.lst (ws.map nI)])
      have hm := opIn_t (in_nD (a := T.mul z s) e0)
      refine ⟨_, rfl, ?_⟩
      by_cases q : T.mul z s ∈ ks
      · rw [bst_old q]
        refine ⟨_, ?_, some (nI s), some (nI (T.mul z s)), rfl⟩
        simp [ix_tab hz1, ix_row (hS s hs), hp, hm, q]
      · rw [bst_new q]
        have hp1 := put_nD e0 (by omega) q
        have e1 := g1 (h := h) (a := nD (ks ++ [T.mul z s])) (b := .lst (ws.map nI)) (l := [])
        have ha := append_r (y := nI (T.mul z s)) e1 (by simp; omega)
        refine ⟨_, ?_, some (nI s), some (nI (T.mul z s)), rfl⟩
        simp [ix_tab hz1, ix_row (hS s hs), hp, hm, q, hp1, t0, ty_lst e1, ha, t1])
    (fun es z ⟨b, c, e⟩ => ⟨⟨_, _, _, e⟩, trivial⟩) ⟨⟨none, none, none, rfl⟩, trivial⟩
  have es0 := sortK_nD (g0 : (h ++ nD ks :: [.lst []])[h.length]? = _) (by omega) e3 (can_le _ _)
  have hl := can_len T.n (Com T.mul (fun _ => true) S 0)
  have d0 := disp_r (es := [some (.p T.tab), some x, none, none, none, none, none]) (h := h) 0
  simp only [hp, List.map_cons, List.map_nil, nI, Int.cast_ofNat_Int] at e1
  simp only [F_law_closed, runB_r]
  simp only [Int.ofNat_zero, Int.cast_ofNat_Int] at d0 
  simp [m_law_closed, List.replicate, d0, mkL, e1, es0, tup_fl (h := h ++ [nD ks, .lst []]) (xs := nP (can T.n (Com T.mul (fun _ => true) S 0))) (by simp; omega), cutR_app]
  rfl
theorem sortK_fl {h : List EO} {l m : List Nat} (hl : l.length ≤ 1000) (p : m.Perm l) (o : m.Pairwise (· ≤ ·)) : sortK false (.p (.fl (nP l))) h = .ok (.p (.fl (nP m))) h := by
  have hz : (1000 : Nat) < sizeLine := by decide
  have hm := p.length_eq
  have e3 := sort_nP (by omega) p o
  simp [sortK, dctOf, lstOf, allP_map, e3, mkL]
  omega
theorem tup_n {h : List EO} {l : List Nat} (hl : l.length ≤ 1000) : tupK (.p (.fl (nP l))) h = .ok (.p (.tup (nP l))) h := tup_fl (by
  have hz : (1000 : Nat) < sizeLine := by decide
  simp; omega)
theorem wk_nP (l : List Nat) (P : List EO → Prop) : Wk (nxtL ((nP l).map .p), (nP l).length + 1) (l.map nI) P := by
  have := wk_p (nP l) P
  rwa [nP_nI] at this ⊢
/-- a lot led about -/
theorem led_lot_r (O : T.Ok) {l : List Nat} (hl : ∀ a ∈ l, a < T.n) (hlen : l.length ≤ 1000) (hb : b < T.n) {m : List Nat} (p : m.Perm (l.map fun a => T.cj a b)) (o : m.Pairwise (· ≤ ·)) :
    cutR false h (F_led_lot C [.p (grp C T), .p (.tup (nP l)), nI b] h) = .ok (.p (.tup (nP m))) h := by
  have hz : (1000 : Nat) < sizeLine := by decide
  have hm := p.length_eq
  simp only [List.length_map] at hm
  have e1 := lc_a (es := [some (.p (grp C T)), some (.p (.tup (nP l))), some (nI b), none]) (h := h) (fI := iSeq (eVar 1)) (g := gNm 3) (f := eCallM false (F_about C) (aCons (eVar 0) (aCons (eVar 3) (aCons (eVar 2) aNil)))) (vs := [3]) (fun a => .int (T.cj a b : Nat))
    (iSeq_p (p := .tup (nP l)) (h1 := h) rfl (by simp)) (wk_nP l _) (by omega) (by
      intro a acc ha
      refine ⟨_, rfl, ?_⟩
      simp [ewipe, about_r O (hl a ha) hb])
  rw [← nP_map] at e1
  simp only [F_led_lot, runB_r]
  simp [m_led_lot, List.replicate, e1, sortK_fl (h := h) (l := l.map fun a => T.cj a b) (by simpa using hlen) p o, tup_n (h := h) (l := m) (by omega)]
theorem law_part_led_r (O : T.Ok) {l : List Nat} (hl : ∀ a ∈ l, a < T.n) (hlen : l.length ≤ 1000) (hb : b < T.n) {m : List Nat} (p : m.Perm (l.map fun a => T.cj a b)) (o : m.Pairwise (· ≤ ·)) :
    cutR false h (F_law_part_led C [.p T.tab, .p (.tup (nP l)), nI b] h) = .ok (.p (.tup (nP m))) h := by
  have hz : (1000 : Nat) < sizeLine := by decide
  have hm := p.length_eq
  simp only [List.length_map] at hm
  have e1 := lc_a (es := [some (.p T.tab), some (.p (.tup (nP l))), some (nI b), none]) (h := h) (fI := iSeq (eVar 1)) (g := gNm 3) (f := eCallM false (F_law_led C) (aCons (eVar 0) (aCons (eVar 3) (aCons (eVar 2) aNil)))) (vs := [3]) (fun a => .int (T.cj a b : Nat))
    (iSeq_p (p := .tup (nP l)) (h1 := h) rfl (by simp)) (wk_nP l _) (by omega) (by
      intro a acc ha
      refine ⟨_, rfl, ?_⟩
      simp [ewipe, led_r O (hl a ha) hb])
  rw [← nP_map] at e1
  simp only [F_law_part_led, runB_r]
  simp [m_law_part_led, List.replicate, e1, sortK_fl (h := h) (l := l.map fun a => T.cj a b) (by simpa using hlen) p o, tup_n (h := h) (l := m) (by omega)]
end
end K77

-- M5
/-! M5: groups: leading, parts. -/
namespace EV
theorem nodup_map {γ : Type} {f : γ → Nat} : ∀ {l : List γ}, l.Nodup → (∀ a ∈ l, ∀ b ∈ l, f a = f b → a = b) → (l.map f).Nodup
  | [], _, _ => List.nodup_nil
  | a :: l, nd, h => by
    rw [List.nodup_cons] at nd
    rw [List.map_cons, List.nodup_cons]
    refine ⟨fun q => ?_, nodup_map nd.2 fun x hx y hy => h x (List.mem_cons_of_mem _ hx) y (List.mem_cons_of_mem _ hy)⟩
    obtain ⟨b, hb, e⟩ := List.mem_map.mp q
    have := h b (List.mem_cons_of_mem _ hb) a List.mem_cons_self e
    subst this
    exact nd.1 hb
theorem mem_of_all {l m : List Nat} (nd : l.Nodup) (hs : l ⊆ m) (hl : m.length ≤ l.length) {x : Nat} (hx : x ∈ m) : x ∈ l := by
  refine Classical.byContradiction fun q => ?_
  have := (List.nodup_cons.mpr ⟨q, nd⟩).length_le_of_subset (l₂ := m) fun y hy => by
    rcases List.mem_cons.mp hy with rfl | hy
    · exact hx
    · exact hs hy
  simp at this
  omega
section
variable {T : Tb} {a b c x y : Nat}
theorem Tb.Ok.inv_mul (O : T.Ok) (hx : x < T.n) (hy : y < T.n) : T.inv (T.mul x y) = T.mul (T.inv y) (T.inv x) := by
  refine (O.invq (O.lt hx hy) (O.lt (O.ilt hy) (O.ilt hx)) ?_).symm
  rw [← O.as (O.lt hx hy) (O.ilt hy) (O.ilt hx), O.as hx hy (O.ilt hy), O.ri hy, O.r1 hx, O.ri hx]
theorem Tb.Ok.inv0 (O : T.Ok) : T.inv 0 = 0 := (O.invq O.pos O.pos (O.l1 O.pos)).symm
theorem Tb.Ok.invinv (O : T.Ok) (hx : x < T.n) : T.inv (T.inv x) = x := (O.invq (O.ilt hx) hx (O.li hx)).symm
theorem Tb.Ok.cj0 (O : T.Ok) (ha : a < T.n) : T.cj a 0 = a := by simp only [Tb.cj, O.inv0, O.l1 ha, O.r1 ha]
theorem Tb.Ok.cj_mul (O : T.Ok) (ha : a < T.n) (hx : x < T.n) (hy : y < T.n) : T.cj (T.cj a x) y = T.cj a (T.mul x y) := by
  simp only [Tb.cj, O.inv_mul hx hy]
  have ix := O.ilt hx
  have iy := O.ilt hy
  rw [← O.as (O.lt (O.lt iy ix) ha) hx hy, O.as iy ix ha, ← O.as iy (O.lt ix ha) hx]
theorem Tb.Ok.cj_back (O : T.Ok) (ha : a < T.n) (hx : x < T.n) : T.cj (T.cj a x) (T.inv x) = a := by
  rw [O.cj_mul ha hx (O.ilt hx), O.ri hx, O.cj0 ha]
theorem Tb.Ok.cj_inj (O : T.Ok) (ha : a < T.n) (hb : b < T.n) (hx : x < T.n) (e : T.cj a x = T.cj b x) : a = b := by
  rw [← O.cj_back ha hx, e, O.cj_back hb hx]
theorem Tb.Ok.cj_mulp (O : T.Ok) (ha : a < T.n) (hb : b < T.n) (hx : x < T.n) : T.mul (T.cj a x) (T.cj b x) = T.cj (T.mul a b) x := by
  have ix := O.ilt hx
  simp only [Tb.cj]
  rw [O.as (O.lt ix ha) hx (O.lt (O.lt ix hb) hx), ← O.as hx (O.lt ix hb) hx, ← O.as hx ix hb, O.ri hx, O.l1 hb, ← O.as (O.lt ix ha) hb hx, O.as ix ha hb]
/-- a part: holds of the one, goes with products and backs -/
structure Sub (T : Tb) (P : Nat → Prop) : Prop where
  lt : ∀ {x}, P x → x < T.n
  one : P 0
  mul : ∀ {x y}, P x → P y → P (T.mul x y)
  inv : ∀ {x}, P x → P (T.inv x)
theorem sub_of (O : T.Ok) {P : Nat → Prop} (lt : ∀ {x}, P x → x < T.n) (one : P 0) (mul : ∀ {x y}, P x → P y → P (T.mul x y)) : Sub T P := by
  refine ⟨lt, one, mul, fun {x} hx => ?_⟩
  have nd : ((can T.n P).map (T.mul x)).Nodup := nodup_map (can_nodup _ _) fun a ha b hb e => O.canc (lt hx) (mem_can.mp ha).1 (mem_can.mp hb).1 e
  have hs : (can T.n P).map (T.mul x) ⊆ can T.n P := by
    intro z hz
    obtain ⟨w, hw, rfl⟩ := List.mem_map.mp hz
    exact mem_can.mpr ⟨O.lt (lt hx) (mem_can.mp hw).1, mul hx (mem_can.mp hw).2⟩
  have h0 : 0 ∈ (can T.n P).map (T.mul x) := mem_of_all nd hs (by simp) (mem_can.mpr ⟨O.pos, one⟩)
  obtain ⟨w, hw, e⟩ := List.mem_map.mp h0
  rw [← O.invq (lt hx) (mem_can.mp hw).1 e]
  exact (mem_can.mp hw).2
/-- what comes of S -/
def Gen (T : Tb) (S : List Nat) (x : Nat) : Prop := Com T.mul (fun _ => true) S 0 x
theorem gen_sub (O : T.Ok) {S : List Nat} (hS : ∀ s ∈ S, s < T.n) : Sub T (Gen T S) := by
  have lt : ∀ {x}, Gen T S x → x < T.n := by
    intro x h
    unfold Gen at h
    induction h with
    | at_ => exact O.pos
    | go h hs k ih => exact O.lt ih (hS _ hs)
  refine sub_of O lt .at_ fun {x y} hx hy => ?_
  unfold Gen at hy
  induction hy with
  | at_ => rw [O.r1 (lt hx)]; exact hx
  | go h hs k ih =>
    rw [← O.as (lt hx) (lt h) (hS _ hs)]
    exact .go ih hs rfl
theorem gen_min {S : List Nat} {P : Nat → Prop} (U : Sub T P) (h : ∀ s ∈ S, P s) : ∀ {x}, Gen T S x → P x := by
  intro x hx
  unfold Gen at hx
  induction hx with
  | at_ => exact U.one
  | go _ hs _ ih => exact U.mul ih (h _ hs)
theorem gen_of (O : T.Ok) {S : List Nat} (hS : ∀ s ∈ S, s < T.n) {s : Nat} (h : s ∈ S) : Gen T S s := by
  have : Gen T S (T.mul 0 s) := .go .at_ h rfl
  rwa [O.l1 (hS s h)] at this
theorem gen_eq (O : T.Ok) {S R : List Nat} (hS : ∀ s ∈ S, s < T.n) (hR : ∀ s ∈ R, s < T.n) (h1 : ∀ s ∈ S, Gen T R s) (h2 : ∀ s ∈ R, Gen T S s) (x : Nat) : Gen T S x ↔ Gen T R x :=
  ⟨gen_min (gen_sub O hR) h1, gen_min (gen_sub O hS) h2⟩
theorem gen_gen (O : T.Ok) {S : List Nat} (hS : ∀ s ∈ S, s < T.n) (x : Nat) : Gen T (can T.n (Gen T S)) x ↔ Gen T S x := by
  have hl : ∀ s ∈ can T.n (Gen T S), s < T.n := fun s h => (mem_can.mp h).1
  exact gen_eq O hl hS (fun s h => (mem_can.mp h).2) (fun s h => gen_of O hl (mem_can.mpr ⟨hS s h, gen_of O hS h⟩)) x
/-- led to one another by members that P holds of -/
def Led (T : Tb) (P : Nat → Prop) (a b : Nat) : Prop := ∃ x, P x ∧ T.cj a x = b
theorem led_refl (O : T.Ok) {P : Nat → Prop} (U : Sub T P) (ha : a < T.n) : Led T P a a := ⟨0, U.one, O.cj0 ha⟩
theorem led_symm (O : T.Ok) {P : Nat → Prop} (U : Sub T P) (ha : a < T.n) (h : Led T P a b) : Led T P b a := by
  obtain ⟨x, hx, rfl⟩ := h
  exact ⟨T.inv x, U.inv hx, O.cj_back ha (U.lt hx)⟩
theorem led_trans (O : T.Ok) {P : Nat → Prop} (U : Sub T P) (ha : a < T.n) (h : Led T P a b) (h2 : Led T P b c) : Led T P a c := by
  obtain ⟨x, hx, rfl⟩ := h
  obtain ⟨y, hy, rfl⟩ := h2
  exact ⟨T.mul x y, U.mul hx hy, (O.cj_mul ha (U.lt hx) (U.lt hy)).symm⟩
end
end EV

-- M6
/-! M6: dicts of members; classes one by one. -/
namespace EV
open PySem PySem.Spec L2
/-- members as keys, told whole -/
def fdN (l : List Nat) : PV := .fd (l.map fun k : Nat => .inl (k : Int)) (l.map fun _ => .bl true)
theorem zip_fdN (l : List Nat) : (l.map fun k : Nat => (.inl (k : Int) : Key)).zip ((l.map fun _ => PV.bl true).map SV.p) = l.map fun k : Nat => ((.inl (k : Int) : Key), SV.p (.bl true)) := by
  induction l with
  | nil => rfl
  | cons a l ih => simp only [List.map_cons, List.zip_cons_cons, ih]
theorem dct_fdN {h : List EO} (l : List Nat) : dctOf h (.p (fdN l)) = some (.k (l.map fun k : Nat => ((.inl (k : Int) : Key), SV.p (.bl true)))) := by
  simp only [dctOf, fdN, zip_fdN]
theorem in_fdN {h : List EO} {l : List Nat} {a : Nat} : isInK (nI a) (.p (fdN l)) h = some (decide (a ∈ l)) := by
  simp only [isInK, dct_fdN, dctLook, keyOf, Option.map_some, look_nD]
/-- put in, where not yet -/
def addN (l : List Nat) (a : Nat) : List Nat := if a ∈ l then l else l ++ [a]
theorem put_pairs (l : List Nat) (a : Nat) : dkPut (l.map fun k : Nat => ((.inl (k : Int) : Key), SV.p (.bl true))) (.inl (a : Int)) (SV.p (.bl true)) = (addN l a).map fun k : Nat => ((.inl (k : Int) : Key), SV.p (.bl true)) := by
  unfold dkPut addN
  by_cases hm : a ∈ l
  · have h1 : ((l.map fun k : Nat => ((.inl (k : Int) : Key), SV.p (.bl true))).any fun kv => decide (kv.1 = (.inl (a : Int) : Key))) = true := by
      rw [List.any_map, List.any_eq_true]
      exact ⟨a, hm, by simp⟩
    rw [if_pos h1, if_pos hm, List.map_map]
    refine List.map_congr_left fun k _ => ?_
    simp
  · have h1 : ¬ ((l.map fun k : Nat => ((.inl (k : Int) : Key), SV.p (.bl true))).any fun kv => decide (kv.1 = (.inl (a : Int) : Key))) = true := by
      rw [List.any_map, Bool.not_eq_true, List.any_eq_false]
      intro b hb
      simp only [Function.comp, Sum.inl.injEq, decide_eq_true_eq]
      intro q
      exact hm (by have : b = a := by omega
                   exact this ▸ hb)
    rw [if_neg h1, if_neg hm]
    simp
theorem merge_pairs (l m : List Nat) : dkMerge (l.map fun k : Nat => ((.inl (k : Int) : Key), SV.p (.bl true))) (m.map fun k : Nat => ((.inl (k : Int) : Key), SV.p (.bl true))) = (m.foldl addN l).map fun k : Nat => ((.inl (k : Int) : Key), SV.p (.bl true)) := by
  induction m generalizing l with
  | nil => rfl
  | cons a m ih =>
    have := ih (addN l a)
    simp only [dkMerge, List.map_cons, List.foldl_cons, put_pairs] at this ⊢
    exact this
theorem addN_mem {l : List Nat} {a x : Nat} : x ∈ addN l a ↔ x ∈ l ∨ x = a := by
  unfold addN
  split
  · rename_i h
    exact ⟨.inl, fun q => q.elim id fun e => e ▸ h⟩
  · simp
theorem addN_nd {l : List Nat} {a : Nat} (h : l.Nodup) : (addN l a).Nodup := by
  unfold addN
  split
  · exact h
  · rename_i hn
    rw [List.nodup_append]
    exact ⟨h, by simp, fun x hx y hy => by simp at hy; subst hy; intro e; exact hn (e ▸ hx)⟩
theorem addAll_mem {m l : List Nat} {x : Nat} : x ∈ m.foldl addN l ↔ x ∈ l ∨ x ∈ m := by
  induction m generalizing l with
  | nil => simp
  | cons a m ih => rw [List.foldl_cons, ih, addN_mem, List.mem_cons, or_assoc]
theorem addAll_nd {m l : List Nat} (h : l.Nodup) : (m.foldl addN l).Nodup := by
  induction m generalizing l with
  | nil => exact h
  | cons a m ih => rw [List.foldl_cons]; exact ih (addN_nd h)
theorem upd_r {h : List EO} {n : Nat} {l m : List Nat} (e : h[n]? = some (nD l)) (hl : l.length + m.length ≤ sizeLine) : mUpd (.ref n) [.p (fdN m)] h = .ok (.p .non) (h.set n (nD (m.foldl addN l))) := by
  simp only [mUpd, fdN, e, nD, List.length_map, hl, if_true, zip_fdN, merge_pairs]
section
variable {es : Es} {fk fv : ME}
/-- a dict comprehension of members, all taken -/
theorem dc_n {γ : Type} {L : List γ} {e : γ → SV} {w : Nxt × Nat} {fI : MI} {g : MG} {vs : List Nat} {h h1 : List EO} (ky : γ → Nat) (eI : fI es h = .ok w h1) (wk : Wk w (L.map e) fun h' => ∃ acc, h' = h1 ++ [nD acc]) (hl : L.length < sizeLine)
    (step : ∀ y acc, y ∈ L → ∃ es1, g (e y) (ewipe es vs) (h1 ++ [nD acc]) = .ok es1 (h1 ++ [nD acc]) ∧ fk es1 (h1 ++ [nD acc]) = .ok (nI (ky y)) (h1 ++ [nD acc]) ∧ fv es1 (h1 ++ [nD acc]) = .ok (.p (.bl true)) (h1 ++ [nD acc])) :
    eDc false fI g tTrue fk fv vs es h = .ok (.p (fdN ((L.map ky).foldl addN []))) h1 := by
  have main : ∀ (r k i : Nat) (acc : List Nat), i + r = L.length → r < k → acc.length ≤ i → dcLoop h1.length w.1 g tTrue fk fv vs k i es (h1 ++ [nD acc]) = .ok () (h1 ++ [nD (((L.drop i).map ky).foldl addN acc)]) := by
    intro r
    induction r with
    | zero =>
      intro k i acc hi hk ha
      obtain ⟨k, rfl⟩ : ∃ k', k = k' + 1 := ⟨k - 1, by omega⟩
      have e := wk.2 _ ⟨acc, rfl⟩ i (by simp; omega)
      rw [List.getElem?_eq_none (by simp; omega)] at e
      rw [List.drop_eq_nil_of_le (by omega)]
      simp [dcLoop, e]
    | succ r ih =>
      intro k i acc hi hk ha
      obtain ⟨k, rfl⟩ : ∃ k', k = k' + 1 := ⟨k - 1, by omega⟩
      have hi' : i < L.length := by omega
      have e := wk.2 _ ⟨acc, rfl⟩ i (by simp; omega)
      rw [List.getElem?_map, List.getElem?_eq_getElem hi', Option.map_some] at e
      obtain ⟨es1, eg, ek, ev⟩ := step L[i] acc (List.getElem_mem hi')
      have hle : (addN acc (ky L[i])).length ≤ i + 1 := by
        unfold addN
        split
        · omega
        · simp only [List.length_append, List.length_singleton]; omega
      have := ih k (i + 1) (addN acc (ky L[i])) (by omega) (by omega) hle
      simp only [dcLoop, e, eg, tTrue_r, rnb_ok, ek, ev, if_true, keyOf]
      have eh : (h1 ++ [nD acc])[h1.length]? = some (nD acc) := by simp
      simp only [nD] at eh ⊢
      rw [eh]
      simp only [List.length_map]
      rw [if_pos (by omega), put_pairs]
      simp only [nD] at this
      rw [t0, this, List.drop_eq_getElem_cons hi', List.map_cons, List.foldl_cons]
  have := main L.length w.2 0 [] (by omega) (by simpa using wk.1) (by simp)
  simp only [eDc, eI, rbind_ok]
  have e0 : (EO.dic [] : EO) = nD [] := rfl
  rw [e0, this, List.drop_zero]
  have eh : (h1 ++ [nD (((L.map ky)).foldl addN [])])[h1.length]? = some (nD ((L.map ky).foldl addN [])) := by simp
  simp only [rnb_ok, finD]
  simp only [nD] at eh ⊢
  rw [eh]
  simp only [List.map_map]
  have e1 : allP (((L.map ky).foldl addN []).map ((fun x => x.2) ∘ fun k : Nat => ((Sum.inl (k : Int) : Key), SV.p (PV.bl true)))) = some (((L.map ky).foldl addN []).map fun _ => PV.bl true) := by
    have : ((fun x : Key × SV => x.2) ∘ fun k : Nat => ((Sum.inl (k : Int) : Key), SV.p (PV.bl true))) = SV.p ∘ fun _ => PV.bl true := rfl
    rw [this, ← List.map_map, allP_map]
  rw [e1]
  simp [cut_app, fdN]
end
/-! ascending lists are told by what they hold -/
theorem asc_ext : ∀ {l m : List Nat}, l.Pairwise (· < ·) → m.Pairwise (· < ·) → (∀ x, x ∈ l ↔ x ∈ m) → l = m := by
  intro l m h1 h2 h
  have n1 : l.Nodup := h1.imp fun q => Nat.ne_of_lt q
  have n2 : m.Nodup := h2.imp fun q => Nat.ne_of_lt q
  have p := (List.perm_ext_iff_of_nodup n1 n2).mpr h
  exact List.Perm.eq_of_pairwise (le := fun a b => a < b) (fun a b _ _ h1 h2 => absurd h1 (by omega)) h1 h2 p
section
variable {n : Nat} {Q : Nat → Prop} {R : Nat → Nat → Prop}
structure Eqv (n : Nat) (Q : Nat → Prop) (R : Nat → Nat → Prop) : Prop where
  lt : ∀ {a}, Q a → a < n
  refl : ∀ {a}, Q a → R a a
  symm : ∀ {a b}, Q a → R a b → R b a
  trans : ∀ {a b c}, Q a → R a b → R b c → R a c
noncomputable def clsOf (n : Nat) (Q : Nat → Prop) (R : Nat → Nat → Prop) (a : Nat) : List Nat := can n fun y => Q y ∧ R a y
def Least (Q : Nat → Prop) (R : Nat → Nat → Prop) (a : Nat) : Prop := Q a ∧ ∀ y, Q y → R a y → a ≤ y
noncomputable def classes (n : Nat) (Q : Nat → Prop) (R : Nat → Nat → Prop) : List (List Nat) := (can n (Least Q R)).map (clsOf n Q R)
structure CInv (n : Nat) (Q : Nat → Prop) (R : Nat → Nat → Prop) (seen : Nat → Prop) (found : List (List Nat)) : Prop where
  shut : ∀ a b, Q a → Q b → R a b → seen a → seen b
  is_ : found = (can n fun z => Least Q R z ∧ seen z).map (clsOf n Q R)
theorem cinv_0 : CInv n Q R (fun _ => False) [] := ⟨fun _ _ _ _ _ q => q, by
  have : (can n fun z => Least Q R z ∧ False) = [] := by
    rw [List.eq_nil_iff_forall_not_mem]
    intro x hx
    exact (mem_can.mp hx).2.2
  rw [this]; rfl⟩
theorem cinv_step (V : Eqv n Q R) {seen : Nat → Prop} {found : List (List Nat)} {a : Nat} (I : CInv n Q R seen found) (ha : Q a) (hn : ¬ seen a) (h1 : ∀ z, Q z → z < a → seen z) (h2 : ∀ z, Least Q R z → seen z → z < a) : CInv n Q R (fun z => seen z ∨ (Q z ∧ R a z)) (found ++ [clsOf n Q R a]) := by
  have hL : Least Q R a := ⟨ha, fun y hy r => Nat.le_of_not_lt fun q => hn (I.shut y a hy ha (V.symm ha r) (h1 y hy q))⟩
  refine ⟨fun x y hx hy r s => ?_, ?_⟩
  · rcases s with s | ⟨_, s⟩
    · exact .inl (I.shut x y hx hy r s)
    · exact .inr ⟨hy, V.trans ha s r⟩
  · have e : (can n fun z => Least Q R z ∧ (seen z ∨ (Q z ∧ R a z))) = (can n fun z => Least Q R z ∧ seen z) ++ [a] := by
      refine asc_ext (can_lt _ _) ?_ fun x => ?_
      · rw [List.pairwise_append]
        exact ⟨can_lt _ _, by simp, fun x hx y hy => by simp at hy; subst hy; exact h2 x (mem_can.mp hx).2.1 (mem_can.mp hx).2.2⟩
      · rw [List.mem_append, mem_can, mem_can, List.mem_singleton]
        constructor
        · rintro ⟨k1, k2, k3 | ⟨k3, k4⟩⟩
          · exact .inl ⟨k1, k2, k3⟩
          · refine .inr (Nat.le_antisymm (k2.2 a ha (V.symm ha k4)) (hL.2 x k3 k4))
        · rintro (⟨k1, k2, k3⟩ | rfl)
          · exact ⟨k1, k2, .inl k3⟩
          · exact ⟨V.lt ha, hL, .inr ⟨ha, V.refl ha⟩⟩
    rw [e, I.is_, List.map_append]; rfl
theorem cinv_end {seen : Nat → Prop} {found : List (List Nat)} (I : CInv n Q R seen found) (h : ∀ z, Q z → seen z) : found = classes n Q R := by
  rw [I.is_]
  unfold classes
  rw [can_congr fun i _ => ⟨fun q => q.1, fun q => ⟨q, h i q.1⟩⟩]
end
end EV

-- N1
/-! N1: what a piece shows, step by step. -/
namespace EV
open PySem PySem.Spec L2
abbrev ExP := Addr → List (Str × PV) → List EO → Prop
def noE : ExP := fun _ _ _ => False
/-- what comes of a reading shows Q -/
inductive Wx {α : Type} : Res α → ExP → (α → List EO → Prop) → Prop
  | ok {a : α} {h : List EO} {E : ExP} {Q : α → List EO → Prop} (q : Q a h) : Wx (.ok a h) E Q
  | exc {C : Addr} {fs : List (Str × PV)} {h : List EO} {E : ExP} {Q : α → List EO → Prop} (q : E C fs h) : Wx (.exc C fs h) E Q
structure Ps where
  nx : Es → List EO → Prop
  rt : SV → List EO → Prop
  bk : Es → List EO → Prop
  ct : Es → List EO → Prop
  ex : ExP
inductive Ws : SRes → Ps → Prop
  | nx {es : Es} {h : List EO} {D : Ps} (q : D.nx es h) : Ws (.nx es h) D
  | rt {x : SV} {h : List EO} {D : Ps} (q : D.rt x h) : Ws (.rt x h) D
  | bk {es : Es} {h : List EO} {D : Ps} (q : D.bk es h) : Ws (.bk es h) D
  | ct {es : Es} {h : List EO} {D : Ps} (q : D.ct es h) : Ws (.ct es h) D
  | exc {C : Addr} {fs : List (Str × PV)} {h : List EO} {D : Ps} (q : D.ex C fs h) : Ws (.exc C fs h) D
section
variable {α β : Type} {r r' : Res α} {E : ExP} {Q : α → List EO → Prop} {D : Ps} {es : Es} {h h1 h2 : List EO}
theorem wx_congr (e : r = r') : Wx r E Q = Wx r' E Q := by rw [e]
theorem ws_congr {s s' : SRes} (e : s = s') : Ws s D = Ws s' D := by rw [e]
@[simp] theorem wx_ok {a : α} : Wx (.ok a h) E Q = Q a h := propext ⟨fun q => by cases q; assumption, .ok⟩
@[simp] theorem wx_exc {C : Addr} {fs : List (Str × PV)} : Wx (.exc C fs h : Res α) E Q = E C fs h := propext ⟨fun q => by cases q; assumption, .exc⟩
@[simp] theorem wx_bad : Wx (.bad : Res α) E Q = False := propext ⟨fun q => (by cases q), False.elim⟩
@[simp] theorem wx_bind {k : α → List EO → Res β} {Q : β → List EO → Prop} : Wx (r.bind k) E Q = Wx r E fun a h => Wx (k a h) E Q := by
  cases r with
  | ok a h => rw [wx_ok]; rfl
  | exc C fs h => rw [wx_exc]; exact wx_exc
  | bad => rw [wx_bad]; exact wx_bad
@[simp] theorem wx_if {c : Prop} [Decidable c] : Wx (if c then r else r') E Q = if c then Wx r E Q else Wx r' E Q := by split <;> rfl
@[simp] theorem ws_nx : Ws (.nx es h) D = D.nx es h := propext ⟨fun q => by cases q; assumption, .nx⟩
@[simp] theorem ws_rt {x : SV} : Ws (.rt x h) D = D.rt x h := propext ⟨fun q => by cases q; assumption, .rt⟩
@[simp] theorem ws_bk : Ws (.bk es h) D = D.bk es h := propext ⟨fun q => by cases q; assumption, .bk⟩
@[simp] theorem ws_ct : Ws (.ct es h) D = D.ct es h := propext ⟨fun q => by cases q; assumption, .ct⟩
@[simp] theorem ws_exc {C : Addr} {fs : List (Str × PV)} : Ws (.exc C fs h) D = D.ex C fs h := propext ⟨fun q => by cases q; assumption, .exc⟩
@[simp] theorem ws_bad : Ws .bad D = False := propext ⟨fun q => (by cases q), False.elim⟩
@[simp] theorem ws_sbind {k : α → List EO → SRes} : Ws (r.sbind k) D = Wx r D.ex fun a h => Ws (k a h) D := by
  cases r with
  | ok a h => rw [wx_ok]; rfl
  | exc C fs h => rw [wx_exc]; exact ws_exc
  | bad => rw [wx_bad]; exact ws_bad
@[simp] theorem ws_nbind {s : SRes} {k : Es → List EO → SRes} : Ws (s.nbind k) D = Ws s ⟨fun es h => Ws (k es h) D, D.rt, D.bk, D.ct, D.ex⟩ := by
  cases s with
  | nx es h => rw [ws_nx]; rfl
  | rt x h => rw [ws_rt]; exact ws_rt
  | bk es h => rw [ws_bk]; exact ws_bk
  | ct es h => rw [ws_ct]; exact ws_ct
  | exc C fs h => rw [ws_exc]; exact ws_exc
  | bad => rw [ws_bad]; exact ws_bad
@[simp] theorem ws_if {c : Prop} [Decidable c] {s s' : SRes} : Ws (if c then s else s') D = if c then Ws s D else Ws s' D := by split <;> rfl
theorem ws_seq {f g : MS} : Ws (sSeq f g es h) D = Ws (f es h) ⟨fun es h => Ws (g es h) D, D.rt, D.bk, D.ct, D.ex⟩ := ws_nbind
theorem wx_and {f g : ME} : Wx (eAnd f g es h) E = fun (Q : SV → List EO → Prop) => Wx (f es h) E fun x h1 => Wx (asB x h1) E fun b h2 => if b = true then Wx (g es h2) E Q else Q (.p (.bl false)) h2 := by
  funext Q
  simp only [eAnd_r, wx_bind, wx_if, wx_ok]
theorem Wx.imp {Q' : α → List EO → Prop} (q : Wx r E Q) (f : ∀ a h, Q a h → Q' a h) : Wx r E Q' := by
  cases q with
  | ok q => exact .ok (f _ _ q)
  | exc q => exact .exc q
/-- a def, from its body -/
theorem wfn {m : MS} {n : Nat} {xs : List SV} {res : Res SV} {mu : Bool} (q : Ws (m (xs.map some ++ List.replicate (n - xs.length) none) h) ⟨fun _ h1 => cutR mu h (.ok (.p .non) h1) = res, fun x h1 => cutR mu h (.ok x h1) = res, fun _ _ => False, fun _ _ => False, fun C fs h1 => cutR mu h (.exc C fs h1) = res⟩) : cutR mu h (runB m n xs h) = res := by
  rw [runB_r]
  generalize m (xs.map some ++ List.replicate (n - xs.length) none) h = r at q
  cases q with
  | nx q => exact q
  | rt q => exact q
  | bk q => exact q.elim
  | ct q => exact q.elim
  | exc q => exact q
/-! loops -/
theorem ws_loop {xs : List SV} {w : Nxt × Nat} {P : List EO → Prop} {g : MG} {s : MS} (Inv : Nat → Es → List EO → Prop) (wk : Wk w xs P) (hP : ∀ i es h, Inv i es h → P h) (h0 : Inv 0 es h)
    (step : ∀ i y es h, xs[i]? = some y → Inv i es h → Wx (g y es h) D.ex fun es1 h1 => Ws (s es1 h1) ⟨Inv (i + 1), D.rt, D.nx, Inv (i + 1), D.ex⟩)
    (hQ : ∀ es h, Inv xs.length es h → D.nx es h) : Ws (sLoop w.1 g s w.2 0 es h) D := by
  have main : ∀ (r k i : Nat) (es : Es) (h : List EO), i + r = xs.length → r < k → Inv i es h → Ws (sLoop w.1 g s k i es h) D := by
    intro r
    induction r with
    | zero =>
      intro k i es h hi hk I
      obtain ⟨k, rfl⟩ : ∃ k', k = k' + 1 := ⟨k - 1, by omega⟩
      have e := wk.2 h (hP _ _ _ I) i (by omega)
      rw [List.getElem?_eq_none (by omega)] at e
      have : i = xs.length := by omega
      simp only [sLoop, e]
      exact .nx (hQ es h (this ▸ I))
    | succ r ih =>
      intro k i es h hi hk I
      obtain ⟨k, rfl⟩ : ∃ k', k = k' + 1 := ⟨k - 1, by omega⟩
      have e := wk.2 h (hP _ _ _ I) i (by omega)
      have ex : xs[i]? = some (xs[i]'(by omega)) := List.getElem?_eq_getElem _
      rw [ex] at e
      have q := step i _ es h ex I
      simp only [sLoop, e, ws_sbind]
      refine q.imp fun es1 h1 q => ?_
      generalize s es1 h1 = r at q
      cases q with
      | nx q => exact ih k (i + 1) _ _ (by omega) (by omega) q
      | rt q => exact .rt q
      | bk q => exact .nx q
      | ct q => exact ih k (i + 1) _ _ (by omega) (by omega) q
      | exc q => exact .exc q
  exact main xs.length w.2 0 es h (by omega) wk.1 h0
theorem ws_for {γ : Type} {L : List γ} {e : γ → SV} {fI : MI} {g : MG} {s : MS} {w : Nxt × Nat} {P : List EO → Prop} (eI : fI es h = .ok w h1) (wk : Wk w (L.map e) P) (Inv : List γ → Es → List EO → Prop) (hP : ∀ d es h, Inv d es h → P h) (h0 : Inv [] es h1)
    (step : ∀ d y t es h, L = d ++ y :: t → Inv d es h → Wx (g (e y) es h) D.ex fun es1 h1 => Ws (s es1 h1) ⟨Inv (d ++ [y]), D.rt, D.nx, Inv (d ++ [y]), D.ex⟩)
    (hQ : ∀ es h, Inv L es h → D.nx es h) : Ws (sFor fI g s es h) D := by
  rw [sFor_r, eI, rsbind_ok]
  refine ws_loop (xs := L.map e) (fun i es h => Inv (L.take i) es h) wk (fun i es h => hP _ es h) (by simpa using h0) (fun i y es h hy I => ?_) fun es h I => hQ es h (by simpa using I)
  rw [List.getElem?_map, Option.map_eq_some_iff] at hy
  obtain ⟨z, hz, rfl⟩ := hy
  have et : L.take (i + 1) = L.take i ++ [z] := by rw [List.take_add_one, hz]; rfl
  have hi := (List.getElem?_eq_some_iff.mp hz).1
  have el : L = L.take i ++ z :: L.drop (i + 1) := by
    conv => lhs; rw [← List.take_append_drop i L, List.drop_eq_getElem_cons hi]
    rw [(List.getElem?_eq_some_iff.mp hz).2]
  have := step (L.take i) z (L.drop (i + 1)) es h el I
  simpa only [et] using this
/-- a while loop: what stays true, and a number that sinks -/
theorem ws_while {t : MT} {s : MS} (Inv : Nat → Es → List EO → Prop)
    (step : ∀ j es h, Inv j es h → Wx (t es h) D.ex fun b h1 => if b = true then Ws (s es h1) ⟨fun es2 h2 => ∃ j2, j2 < j ∧ Inv j2 es2 h2, D.rt, D.nx, fun es2 h2 => ∃ j2, j2 < j ∧ Inv j2 es2 h2, D.ex⟩ else D.nx es h1) : ∀ (k j : Nat) (es : Es) (h : List EO), j < k → Inv j es h → Ws (sWhile t s k es h) D
  | 0, _, _, _, hk, _ => by omega
  | k + 1, j, es, h, hk, I => by
    simp only [sWhile, ws_sbind]
    refine (step j es h I).imp fun b h1 q => ?_
    cases b with
    | false => exact .nx q
    | true =>
      simp only [if_true] at q ⊢
      generalize s es h1 = r at q
      cases q with
      | nx q => obtain ⟨j2, hj, I2⟩ := q; exact ws_while Inv step k j2 _ _ (by omega) I2
      | rt q => exact .rt q
      | bk q => exact .nx q
      | ct q => obtain ⟨j2, hj, I2⟩ := q; exact ws_while Inv step k j2 _ _ (by omega) I2
      | exc q => exact .exc q
/-! comprehensions -/
variable {f fk fv : ME} {t : MT} {fI : MI} {g : MG} {vs : List Nat} {w : Nxt × Nat} {γ : Type} {L : List γ} {e : γ → SV}
theorem wx_lc {Q : SV → List EO → Prop} (tt : γ → Bool) (ff : γ → PV) (eI : fI es h = .ok w h1) (wk : Wk w (L.map e) fun h' => ∃ acc, h' = h1 ++ [.lst acc]) (hl : L.length ≤ sizeLine)
    (step : ∀ y acc, y ∈ L → ∃ es1, g (e y) (ewipe es vs) (h1 ++ [.lst acc]) = .ok es1 (h1 ++ [.lst acc]) ∧ t es1 (h1 ++ [.lst acc]) = .ok (tt y) (h1 ++ [.lst acc]) ∧ (tt y = true → f es1 (h1 ++ [.lst acc]) = .ok (.p (ff y)) (h1 ++ [.lst acc])))
    (hQ : Q (.p (.fl ((L.filter tt).map ff))) h1) : Wx (eLc false fI g t f vs es h) E Q := by
  rw [lc_p tt ff eI wk hl step]; exact .ok hQ
theorem wx_la {Q : SV → List EO → Prop} (ff : γ → PV) (eI : fI es h = .ok w h1) (wk : Wk w (L.map e) fun h' => ∃ acc, h' = h1 ++ [.lst acc]) (hl : L.length ≤ sizeLine)
    (step : ∀ y acc, y ∈ L → ∃ es1, g (e y) (ewipe es vs) (h1 ++ [.lst acc]) = .ok es1 (h1 ++ [.lst acc]) ∧ f es1 (h1 ++ [.lst acc]) = .ok (.p (ff y)) (h1 ++ [.lst acc]))
    (hQ : Q (.p (.fl (L.map ff))) h1) : Wx (eLc false fI g tTrue f vs es h) E Q := by
  rw [lc_a ff eI wk hl step]; exact .ok hQ
theorem wx_lm {Q : SV → List EO → Prop} (tt : γ → Bool) (ff : γ → SV) (eI : fI es h = .ok w h1) (wk : Wk w (L.map e) fun h' => ∃ acc, h' = h1 ++ [.lst acc]) (hl : L.length ≤ sizeLine)
    (step : ∀ y acc, y ∈ L → ∃ es1, g (e y) (ewipe es vs) (h1 ++ [.lst acc]) = .ok es1 (h1 ++ [.lst acc]) ∧ t es1 (h1 ++ [.lst acc]) = .ok (tt y) (h1 ++ [.lst acc]) ∧ (tt y = true → f es1 (h1 ++ [.lst acc]) = .ok (ff y) (h1 ++ [.lst acc])))
    (hQ : Q (.ref h1.length) (h1 ++ [.lst ((L.filter tt).map ff)])) : Wx (eLc true fI g t f vs es h) E Q := by
  rw [lc_m tt ff eI wk hl step]; exact .ok hQ
theorem wx_dn {Q : SV → List EO → Prop} (ky : γ → Nat) (eI : fI es h = .ok w h1) (wk : Wk w (L.map e) fun h' => ∃ acc, h' = h1 ++ [nD acc]) (hl : L.length < sizeLine)
    (step : ∀ y acc, y ∈ L → ∃ es1, g (e y) (ewipe es vs) (h1 ++ [nD acc]) = .ok es1 (h1 ++ [nD acc]) ∧ fk es1 (h1 ++ [nD acc]) = .ok (nI (ky y)) (h1 ++ [nD acc]) ∧ fv es1 (h1 ++ [nD acc]) = .ok (.p (.bl true)) (h1 ++ [nD acc]))
    (hQ : Q (.p (fdN ((L.map ky).foldl addN []))) h1) : Wx (eDc false fI g tTrue fk fv vs es h) E Q := by
  rw [dc_n ky eI wk hl step]; exact .ok hQ
/-! the own objects at the end -/
variable {l : List EO} {k : Nat} {o : EO}
@[simp] theorem getL : (h ++ l)[h.length + k]? = l[k]? := by rw [List.getElem?_append_right (by omega)]; simp
@[simp] theorem getL0 : (h ++ l)[h.length]? = l[0]? := getL (k := 0)
@[simp] theorem setL : (h ++ l).set (h.length + k) o = h ++ l.set k o := by rw [List.set_append_right _ _ (by omega)]; simp
@[simp] theorem setL0 : (h ++ l).set h.length o = h ++ l.set 0 o := setL (k := 0)
@[simp] theorem appL {l2 : List EO} : (h ++ l) ++ l2 = h ++ (l ++ l2) := List.append_assoc ..
/-! ends -/
theorem cutE_p {p : PV} (l : List EO) : cutR false h (.ok (.p p) (h ++ l)) = .ok (.p p) h := cutR_app l
theorem cutE_l {xs : List PV} {k : Nat} (e : l[k]? = some (.lst (xs.map .p))) : cutR false h (.ok (.ref (h.length + k)) (h ++ l)) = .ok (.p (.fl xs)) h := by
  have e : (h ++ l)[h.length + k]? = some (.lst (xs.map .p)) := getL.trans e
  simp [cutR, cut_app, e, frzO, allP_map]
theorem cutE_l0 {xs : List PV} (e : l[0]? = some (.lst (xs.map .p))) : cutR false h (.ok (.ref h.length) (h ++ l)) = .ok (.p (.fl xs)) h := cutE_l (k := 0) e
end
end EV

-- M7
/-! M7: what is a part. -/
namespace K77
open PySem PySem.Spec L2 EV
theorem allBl_map (bs : List Bool) : allBl ((bs.map PV.bl).map .p) = some bs := by
  induction bs with
  | nil => rfl
  | cons b bs ih => simp only [List.map_cons, allBl, ih]; rfl
theorem all_fl {h : List EO} {γ : Type} (L : List γ) (f : γ → Bool) : allK (.p (.fl (L.map fun a => .bl (f a)))) h = .ok (.p (.bl (L.all f))) h := by
  have : (L.map fun a => PV.bl (f a)) = (L.map f).map PV.bl := by simp
  simp only [blsK, lstOf, this, allBl_map, List.all_map]
  rfl
theorem sl1 {h : List EO} {l : List Nat} : slF false (.p (.tup (nP l))) (some 1) none h = .ok (.p (.tup (nP (l.drop 1)))) h := by
  have e1 : HT.sIx (nP l).length 0 (some 1) = min 1 l.length := by
    have := HT.sIx_nat (nP l).length 0 1
    simpa using this
  have e2 : HT.sIx (nP l).length (nP l).length none = l.length := by rw [HT.sIx_none]; simp
  cases l with
  | nil => simp [slF, tupOf, nP, HT.sIx]
  | cons a l =>
    have e1 : HT.sIx (nP (a :: l)).length 0 (some 1) = 1 := by rw [e1]; simp
    simp only [slF, tupOf, e1, e2, cutS_]
    rw [if_neg (by simp)]
    have : (List.drop 1 (nP (a :: l))).take ((a :: l).length - 1) = nP l := by
      simp only [nP, List.map_cons, List.drop_succ_cons, List.drop_zero, List.length_cons, Nat.add_sub_cancel]
      rw [List.take_of_length_le (by simp)]
    rw [this]; rfl
section
variable {C : Cs} {T : Tb} {h : List EO} {a b c : Nat}
theorem is_tuple_r {xs : List PV} (lo hi : Int) : cutR false h (F_is_tuple C [.p (.tup xs), .p (.int lo), .p (.int hi)] h) = .ok (.p (.bl (decide (lo ≤ xs.length) && decide ((xs.length : Int) ≤ hi)))) h := by
  simp only [F_is_tuple, runB_r]
  by_cases q : lo ≤ (xs.length : Int) <;> simp [m_is_tuple, List.replicate, isiK, tyN, ktt, q]
theorem is_tuple_f {xs : List PV} (lo hi : Int) : cutR false h (F_is_tuple C [.p (.ftp xs), .p (.int lo), .p (.int hi)] h) = .ok (.p (.bl (decide (lo ≤ xs.length) && decide ((xs.length : Int) ≤ hi)))) h := by
  simp only [F_is_tuple, runB_r]
  by_cases q : lo ≤ (xs.length : Int) <;> simp [m_is_tuple, List.replicate, isiK, tyN, ktt, q]
/-- what is no tuple -/
theorem is_tuple_no {p : PV} {t : String} (e : tyN h (.p p) = some t) (k : kitB t "tuple" = some false) (lo hi : Int) : cutR false h (F_is_tuple C [.p p, .p (.int lo), .p (.int hi)] h) = .ok (.p (.bl false)) h := by
  simp only [F_is_tuple, runB_r]
  simp [m_is_tuple, List.replicate, isiK, e, k]
theorem zip_lt : ∀ {l : List Nat}, l.Pairwise (· < ·) → ∀ q ∈ l.zip (l.drop 1), q.1 < q.2
  | [], _, q, h => by simp at h
  | [a], _, q, h => by simp at h
  | a :: b :: l, p, q, h => by
    simp only [List.drop_succ_cons, List.drop_zero, List.zip_cons_cons, List.mem_cons] at h
    rw [List.pairwise_cons] at p
    rcases h with rfl | h
    · exact p.1 b List.mem_cons_self
    · exact zip_lt p.2 q (by simpa using h)
theorem is_lot_r (O : T.Ok) {l : List Nat} (hl : ∀ a ∈ l, a < T.n) (asc : l.Pairwise (· < ·)) : cutR false h (F_is_lot C [.p (grp C T), .p (.tup (nP l))] h) = .ok (.p (.bl true)) h := by
  have hz : (1000 : Nat) < sizeLine := by decide
  have hlen : l.length ≤ T.n := nodup_lt (asc.imp fun q => Nat.ne_of_lt q) hl
  have h8 := O.le
  have e0 := is_tuple_r (C := C) (h := h) (xs := nP l) 0 (T.n : Nat)
  have e1 := lc_a (es := [some (.p (grp C T)), some (.p (.tup (nP l))), none, none, none]) (h := h) (fI := iSeq (eVar 1)) (g := gNm 4) (f := eCallM false (F_is_within C) (aCons (eVar 4) (aCons (eC (.int 0)) (aCons (eBin opSub (eFld C.Group "many" (eVar 0)) (eC (.int 1))) aNil)))) (vs := [4]) (fun a : Nat => .bl true)
    (iSeq_p (p := .tup (nP l)) (h1 := h) rfl (by simp)) (wk_nP l _) (by omega) (by
      intro a acc ha
      refine ⟨_, rfl, ?_⟩
      have := hl a ha
      simp [ewipe, f_many, opInt, within_r]
      omega)
  have wz : Wk (nxtZ (nP l) (nP (l.drop 1)), (nP l).length + 1) ((l.zip (l.drop 1)).map fun q => SV.p (.tup [.int (q.1 : Nat), .int (q.2 : Nat)])) fun h' => ∃ acc, h' = h ++ [.lst acc] := by
    refine ⟨by simp; omega, fun h' _ i _ => ?_⟩
    simp only [nxtZ, nP_get, List.getElem?_map, List.zip_eq_zipWith, List.getElem?_zipWith]
    cases l[i]? <;> cases (l.drop 1)[i]? <;> rfl
  have e3 := lc_a (es := [some (.p (grp C T)), some (.p (.tup (nP l))), none, none, none]) (h := h) (fI := iZp (aCons (eVar 1) (aCons (eSl false (eVar 1) (oSome (eC (.int 1))) oNone) aNil))) (g := gTp 2 (gsCons (gNm 2) (gsCons (gNm 3) gsNil))) (f := eBin opLt (eVar 2) (eVar 3)) (vs := [2, 3]) (fun q : Nat × Nat => .bl true)
    (by
      simp [iZp, eSl, oSome, oNone, sl1, tupOf]) wz (by simp; omega) (by
      intro q acc hq
      refine ⟨_, rfl, ?_⟩
      have := zip_lt asc q hq
      simp [ewipe, this])
  simp only [F_is_lot, runB_r]
  simp only [nP_len] at e0
  have a1 := all_fl (h := h) l fun _ => true
  have a2 := all_fl (h := h) (l.zip (l.drop 1)) fun _ => true
  generalize l.zip (l.drop 1) = zl at e3 a2
  simp [m_is_lot, List.replicate, f_many, e0, e1, e3, a1, a2, hlen]
/-- what is told of a part -/
theorem is_part_r (O : T.Ok) {S : List Nat} (hS : ∀ s ∈ S, s < T.n) : cutR false h (F_is_part C [.p (grp C T), .p (.tup (nP (Tb.gen T S)))] h) = .ok (.p (.bl true)) h := by
  have h8 := O.le
  have hl : ∀ a ∈ Tb.gen T S, a < T.n := fun a ha => (mem_can.mp ha).1
  have hlen := can_len T.n (Com T.mul (fun _ => true) S 0)
  have e0 := is_lot_r (C := C) (h := h) O hl (can_lt _ _)
  have e1 := closed_r (C := C) (h := h) O hl (x := .p (.tup (nP (Tb.gen T S)))) (by rw [← nP_nI]; exact walks_p rfl)
  have e2 : Tb.gen T (Tb.gen T S) = Tb.gen T S := can_congr fun i _ => gen_gen O hS i
  rw [e2] at e1
  have hp : 0 < (Tb.gen T S).length := List.length_pos_of_mem (mem_can.mpr ⟨O.pos, .at_⟩)
  have pl : Pl 1 144 (tD (Tb.gen T S)) := pl_tD (fun a ha => by have := hl a ha; omega) (by simp only [Tb.gen]; omega)
  have e3 := eq_r (h := h) (g := PyData.eqv) (x := .p (.tup (nP (Tb.gen T S)))) (y := .p (.tup (nP (Tb.gen T S)))) (toD_tup _) (toD_tup _) pl pl (by omega)
  rw [tD_eqv] at e3
  simp only [F_is_part, runB_r]
  simp [m_is_part, List.replicate, e0, e1, e3, hp]
theorem check_part_r (O : T.Ok) {S : List Nat} (hS : ∀ s ∈ S, s < T.n) : cutR false h (F_check_part C [.p (grp C T), .p (.tup (nP (Tb.gen T S)))] h) = .ok (.p .non) h := by
  have e0 := is_part_r (C := C) (h := h) O hS
  simp only [F_check_part, runB_r]
  simp [m_check_part, List.replicate, e0]
end
end K77

-- M8
/-! M8: led together, led within. -/
namespace EV
open PySem PySem.Spec L2
theorem asc_take : ∀ {l : List Nat} {i a z : Nat}, l.Pairwise (· < ·) → l[i]? = some a → (z ∈ l.take i ↔ z ∈ l ∧ z < a)
  | [], _, _, _, _, h => by simp at h
  | b :: l, 0, a, z, p, h => by
    simp only [List.getElem?_cons_zero, Option.some.injEq] at h
    subst h
    rw [List.pairwise_cons] at p
    simp only [List.take_zero, List.not_mem_nil, List.mem_cons, false_iff]
    rintro ⟨rfl | hz, q⟩
    · omega
    · have := p.1 z hz; omega
  | b :: l, i + 1, a, z, p, h => by
    simp only [List.getElem?_cons_succ] at h
    rw [List.pairwise_cons] at p
    have ih := asc_take (z := z) p.2 h
    have hb := p.1 a (List.mem_of_getElem? h)
    simp only [List.take_succ_cons, List.mem_cons, ih]
    constructor
    · rintro (rfl | ⟨h1, h2⟩)
      · exact ⟨.inl rfl, hb⟩
      · exact ⟨.inr h1, h2⟩
    · rintro ⟨rfl | h1, h2⟩
      · exact .inl rfl
      · exact .inr ⟨h1, h2⟩
section
variable {n : Nat} {Q : Nat → Prop} {R : Nat → Nat → Prop}
theorem CInv.congr {s1 s2 : Nat → Prop} {fd : List (List Nat)} (I : CInv n Q R s1 fd) (h : ∀ z, s1 z ↔ s2 z) : CInv n Q R s2 fd := by
  have : s1 = s2 := funext fun z => propext (h z)
  rwa [← this]
open Classical in
/-- one member after the other: classes found -/
theorem class_loop (V : Eqv n Q R) {g : MG} {body : MS} {es : Es} (hp : List Nat × List (List Nat) → List EO) (EsI : Es → Prop)
    (hin : ∀ a es sn fd, EsI es → Q a → sn.Nodup → (∀ y ∈ sn, y < n) → fd.length ≤ n → ∃ es1, g (nI a) es (hp (sn, fd)) = .ok es1 (hp (sn, fd)) ∧ ∃ es2, body es1 (hp (sn, fd)) = .nx es2 (hp (if a ∈ sn then (sn, fd) else ((clsOf n Q R a).foldl addN sn, fd ++ [clsOf n Q R a]))) ∧ EsI es2) (hes : EsI es) :
    ∃ es2 sn, sLoop (nxtL ((nP (can n Q)).map .p)) g body ((nP (can n Q)).length + 1) 0 es (hp ([], [])) = .nx es2 (hp (sn, classes n Q R)) ∧ EsI es2 := by
  obtain ⟨es2, h2, e1, sn, fd, rfl, e3, e4, e5, e6, e7, e8⟩ := loop_inv (s := body) (g := g) (es := es) (h := hp ([], [])) (w := (nxtL ((nP (can n Q)).map .p), (nP (can n Q)).length + 1))
    (fun i es h => ∃ sn fd, h = hp (sn, fd) ∧ EsI es ∧ sn.Nodup ∧ (∀ y ∈ sn, y < n) ∧ CInv n Q R (fun z => z ∈ sn) fd ∧ (∀ z ∈ (can n Q).take i, z ∈ sn) ∧ ∀ z, Least Q R z → z ∈ sn → z ∈ (can n Q).take i)
    (wk_p (nP (can n Q)) fun _ => True) (fun _ _ _ _ => trivial)
    (by
      rintro i y es h hy ⟨sn, fd, rfl, he, nd, lt, I, h1, h2⟩
      rw [nP_nI, List.getElem?_map, Option.map_eq_some_iff] at hy
      obtain ⟨a, ha, rfl⟩ := hy
      have hm := mem_can.mp (List.mem_of_getElem? ha)
      have at_ := fun z => asc_take (z := z) (can_lt n Q) ha
      have hfd : fd.length ≤ n := by
        rw [I.is_, List.length_map]
        exact can_len _ _
      obtain ⟨es1, k1, es2, k2, k3⟩ := hin a es sn fd he hm.2 nd lt hfd
      have tk : (can n Q).take (i + 1) = (can n Q).take i ++ [a] := by rw [List.take_add_one, ha]; rfl
      refine ⟨es1, _, k1, es2, _, k2, ?_⟩
      by_cases q : a ∈ sn
      · rw [if_pos q]
        refine ⟨sn, fd, rfl, k3, nd, lt, I, fun z hz => ?_, fun z hL hz => ?_⟩
        · rw [tk] at hz
          rcases List.mem_append.mp hz with hz | hz
          · exact h1 z hz
          · simp at hz; subst hz; exact q
        · rw [tk]; exact List.mem_append_left _ (h2 z hL hz)
      · rw [if_neg q]
        have J := cinv_step V I hm.2 q (fun z hz hlt => h1 z ((at_ z).mpr ⟨mem_can.mpr ⟨V.lt hz, hz⟩, hlt⟩)) (fun z hL hz => ((at_ z).mp (h2 z hL hz)).2)
        have hmem : ∀ z, z ∈ (clsOf n Q R a).foldl addN sn ↔ z ∈ sn ∨ (Q z ∧ R a z) := fun z => by
          rw [addAll_mem]
          unfold clsOf
          rw [mem_can]
          exact or_congr_right ⟨fun q => q.2, fun q => ⟨V.lt q.1, q⟩⟩
        refine ⟨_, _, rfl, k3, addAll_nd nd, fun y hy => ?_, J.congr fun z => (hmem z).symm, fun z hz => ?_, fun z hL hz => ?_⟩
        · rcases (hmem y).mp hy with hy | hy
          · exact lt y hy
          · exact V.lt hy.1
        · rw [tk] at hz
          rcases List.mem_append.mp hz with hz | hz
          · exact (hmem z).mpr (.inl (h1 z hz))
          · simp at hz; subst hz
            exact (hmem z).mpr (.inr ⟨hm.2, V.refl hm.2⟩)
        · rw [tk]
          rcases (hmem z).mp hz with hz | ⟨hz, hr⟩
          · exact List.mem_append_left _ (h2 z hL hz)
          · have h3 : z ≤ a := hL.2 a hm.2 (V.symm hm.2 hr)
            by_cases h4 : z = a
            · subst h4; simp
            · exact List.mem_append_left _ ((at_ z).mpr ⟨mem_can.mpr ⟨V.lt hz, hz⟩, by omega⟩))
    ⟨[], [], rfl, hes, List.nodup_nil, by simp, cinv_0.congr fun z => by simp, by simp, by simp⟩
  have hf : fd = classes n Q R := cinv_end e6 fun z hz => e7 z (by
    rw [List.take_of_length_le (by simp)]
    exact mem_can.mpr ⟨V.lt hz, hz⟩)
  subst hf
  exact ⟨es2, sn, e1, e3⟩
end
end EV

-- M9
/-! M9: led_together, led_within. -/
namespace K77
open PySem PySem.Spec L2 EV
theorem addAll_app : ∀ {m l : List Nat}, (l ++ m).Nodup → m.foldl addN l = l ++ m
  | [], l, _ => by simp
  | a :: m, l, h => by
    have h1 : a ∉ l := fun q => by
      rw [List.nodup_append] at h
      exact h.2.2 a q a List.mem_cons_self rfl
    have e : addN l a = l ++ [a] := by unfold addN; rw [if_neg h1]
    rw [List.foldl_cons, e, addAll_app (by simpa using h)]
    simp
theorem addAll_nil {m : List Nat} (h : m.Nodup) : m.foldl addN [] = m := by
  rw [addAll_app (by simpa using h)]; rfl
theorem inB_n {n : Nat} (h : n ≤ 1000) : inB (n : Int) := by
  unfold inB
  have e : (2 : Int) ^ 62 = 4611686018427387904 := by decide +kernel
  rw [e]
  omega
theorem rng1_r {fa : ME} {es : Es} {h : List EO} {n : Nat} (e : fa es h = .ok (nI n) h) (hn : n ≤ 1000) : eRng1 (aCons fa aNil) es h = .ok (nxtN 0 n, n + 1) h := by
  unfold eRng1
  rw [aCons_r, e, rbind_ok, aNil_r, rbind_ok, rbind_ok]
  exact if_pos (inB_n hn)
theorem ty_nD {h : List EO} {n : Nat} {l : List Nat} (e : h[n]? = some (nD l)) : tyS "dict" (.ref n) h = true := ty_dic e
theorem all_sub {T : Tb} (O : T.Ok) : Sub T (fun x => x < T.n) := ⟨id, O.pos, O.lt, O.ilt⟩
theorem eqv_of {T : Tb} (O : T.Ok) {S : List Nat} (hS : ∀ s ∈ S, s < T.n) {P : Nat → Prop} (U : Sub T P) : Eqv T.n (Gen T S) (Led T P) :=
  ⟨(gen_sub O hS).lt, fun h => led_refl O U ((gen_sub O hS).lt h), fun h r => led_symm O U ((gen_sub O hS).lt h) r, fun h r s => led_trans O U ((gen_sub O hS).lt h) r s⟩
theorem keys_led {T : Tb} (O : T.Ok) {P : Nat → Prop} {L : List Nat} (hL : ∀ x, x ∈ L ↔ P x) (a x : Nat) : x ∈ (L.map fun b => T.cj a b).foldl addN [] ↔ Led T P a x := by
  rw [addAll_mem, List.mem_map]
  simp only [List.not_mem_nil, false_or, Led, hL]
section
variable {C : Cs} {T : Tb} {h : List EO} {a b c : Nat}
abbrev tS (l : List Nat) : SV := .p (.tup (nP l))
theorem tS_map (L : List (List Nat)) : L.map tS = (lP L).map .p := by simp [lP]
theorem led_together_r (O : T.Ok) {S : List Nat} (hS : ∀ s ∈ S, s < T.n) : cutR false h (F_led_together C [.p (grp C T), tS (Tb.gen T S)] h) = .ok (.p (.fl (lP (classes T.n (Gen T S) (Led T fun x => x < T.n))))) h := by
  have h8 := O.le
  have hz : (1000 : Nat) < sizeLine := by decide
  have V := eqv_of O hS (all_sub O)
  have hl : ∀ a ∈ Tb.gen T S, a < T.n := fun a ha => (mem_can.mp ha).1
  have hlen : (Tb.gen T S).length ≤ T.n := can_len _ _
  let hp : List Nat × List (List Nat) → List EO := fun p => h ++ [nD p.1, .lst (p.2.map tS)]
  obtain ⟨es2, sn, e1, x1, x2, x3, x4, x5, rfl⟩ := class_loop V (g := gNm 4) (es := [some (.p (grp C T)), some (tS (Tb.gen T S)), some (.ref h.length), some (.ref (h.length + 1)), none, none, none, none, none]) (body := (sIf (tB_ (eBin (opIn true) (eVar 4) (eVar 2))) (sSeq (sSet 5 (eDc false (eRng1 (aCons (eFld C.Group "many" (eVar 0)) aNil)) (gNm 7) tTrue (eCallM false (F_about C) (aCons (eVar 0) (aCons (eVar 4) (aCons (eVar 7) aNil)))) (eC (.bl true)) [7])) (sSeq (sSet 6 (eCall (f1 tupK) (aCons (eLc false (iSeq (eVar 1)) (gNm 8) (tB_ (eBin (opIn false) (eVar 8) (eVar 5))) (eVar 8) [8]) aNil))) (sSeq (sExpr (eM "dict" mUpd (eVar 2) (aCons (eDc false (iSeq (eVar 6)) (gNm 8) tTrue (eVar 8) (eC (.bl true)) [8]) aNil))) (sExpr (eM "list" mAppend (eVar 3) (aCons (eVar 6) aNil)))))) sNil))
    hp (fun es => ∃ x1 x2 x3 x4 x5, es = [some (.p (grp C T)), some (tS (Tb.gen T S)), some (.ref h.length), some (.ref (h.length + 1)), x1, x2, x3, x4, x5])
    (by
      rintro a es sn fd ⟨x1, x2, x3, x4, x5, rfl⟩ ha nd lt hfd
      have hsn := nodup_lt nd lt
      have han := V.lt ha
      have e0 := g0 (h := h) (a := nD sn) (l := [.lst (fd.map tS)])
      have hm := opIn_t (in_nD (a := a) e0)
      refine ⟨_, rfl, ?_⟩
      by_cases q : a ∈ sn
      · rw [if_pos q]
        refine ⟨_, ?_, some (nI a), x2, x3, x4, x5, rfl⟩
        simp [hp, hm, q]
      · rw [if_neg q]
        let ks := ((List.range T.n).map fun b => T.cj a b).foldl addN []
        have hk : ∀ x, x ∈ ks ↔ Led T (fun x => x < T.n) a x := keys_led O (by simp) a
        let h1 : List EO := h ++ [nD sn, .lst (fd.map tS)]
        have d1 := dc_n (es := [some (.p (grp C T)), some (tS (Tb.gen T S)), some (.ref h.length), some (.ref (h.length + 1)), some (nI a), x2, x3, x4, x5]) (h := h1) (h1 := h1) (fI := (eRng1 (aCons (eFld C.Group "many" (eVar 0)) aNil))) (g := gNm 7) (fk := (eCallM false (F_about C) (aCons (eVar 0) (aCons (eVar 4) (aCons (eVar 7) aNil))))) (fv := eC (.bl true)) (vs := [7]) (L := List.range T.n) (e := nI) (w := (nxtN 0 T.n, T.n + 1)) (fun b => T.cj a b)
          (rng1_r (by simp [f_many]) (by omega)) (wk_n T.n _) (by simp; omega) (by
            intro b acc hb
            refine ⟨_, rfl, ?_, rfl⟩
            simp [ewipe, about_r O han (by simpa using hb)])
        have d2 := lc_p (es := [some (.p (grp C T)), some (tS (Tb.gen T S)), some (.ref h.length), some (.ref (h.length + 1)), some (nI a), some (.p (fdN ks)), x3, x4, x5]) (h := h1) (h1 := h1) (fI := iSeq (eVar 1)) (g := gNm 8) (t := (tB_ (eBin (opIn false) (eVar 8) (eVar 5)))) (f := eVar 8) (vs := [8]) (L := Tb.gen T S) (e := nI) (fun b => decide (b ∈ ks)) (fun b => .int (b : Nat))
          (iSeq_p (p := .tup (nP (Tb.gen T S))) rfl (by simp)) (wk_nP _ _) (by omega) (by
            intro b acc hb
            refine ⟨_, rfl, ?_, fun _ => ?_⟩
            · simp [ewipe, opIn_f in_fdN]
            · simp [ewipe])
        have ef : ((Tb.gen T S).filter fun b => decide (b ∈ ks)) = clsOf T.n (Gen T S) (Led T fun x => x < T.n) a := by
          unfold Tb.gen
          rw [can_filter (Q := fun b => b ∈ ks)]
          exact can_congr fun i _ => and_congr_right fun _ => hk i
        rw [ef] at d2
        change _ = Res.ok (SV.p (PV.fl (nP (clsOf T.n (Gen T S) (Led T fun x => x < T.n) a)))) h1 at d2
        generalize hlot : clsOf T.n (Gen T S) (Led T fun x => x < T.n) a = lot at d2
        have nl : lot.Nodup := by rw [← hlot]; exact can_nodup _ _
        have ll : lot.length ≤ T.n := by rw [← hlot]; exact can_len _ _
        have d3 := dc_n (es := [some (.p (grp C T)), some (tS (Tb.gen T S)), some (.ref h.length), some (.ref (h.length + 1)), some (nI a), some (.p (fdN ks)), some (tS lot), x4, x5]) (h := h1) (h1 := h1) (fI := iSeq (eVar 6)) (g := gNm 8) (fk := eVar 8) (fv := eC (.bl true)) (vs := [8]) (L := lot) (e := nI) (fun b => b)
          (iSeq_p (p := .tup (nP lot)) rfl (by simp)) (wk_nP _ _) (by omega) (by
            intro b acc hb
            refine ⟨_, rfl, ?_, rfl⟩
            simp [ewipe])
        rw [List.map_id', addAll_nil nl] at d3
        have u := upd_r (m := lot) e0 (by omega)
        have g := g1 (h := h) (a := nD (lot.foldl addN sn)) (b := .lst (fd.map tS)) (l := [])
        have ap := append_r (y := tS lot) g (by simp; omega)
        refine ⟨_, ?_, some (nI a), some (.p (fdN ks)), some (tS lot), x4, x5, rfl⟩
        simp only [h1] at d1 d2 d3
        simp [hp, hm, q, d1, d2, d3, tup_n (l := lot) (by omega), ty_nD e0, u, t0, ty_lst g, ap, t1, ks]) ⟨_, _, _, _, _, rfl⟩
  have ec := check_part_r (C := C) (h := h) O hS
  have en : ∀ es, eNewD false true es h = .ok (.ref h.length) (h ++ [nD []]) := fun _ => rfl
  have ew := iSeq_p (es := [some (.p (grp C T)), some (tS (Tb.gen T S)), some (.ref h.length), some (.ref (h.length + 1)), none, none, none, none, none]) (f := eVar 1) (h := h ++ [nD [], .lst []]) (h1 := h ++ [nD [], .lst []]) (p := .tup (nP (Tb.gen T S))) rfl (by simp)
  have e1' : sLoop (nxtL ((nP (Tb.gen T S)).map .p)) _ _ ((nP (Tb.gen T S)).length + 1) 0 _ (h ++ [nD [], .lst []]) = _ := e1
  have ct := cutR_lst (h := h) (l := [nD sn]) (l2 := []) (n := h.length + 1) (xs := lP (classes T.n (Gen T S) (Led T fun x => x < T.n))) (by simp)
  rw [← tS_map] at ct
  simp only [F_led_together, runB_r]
  simp only [nP_len] at ew e1'
  simp [m_led_together, sFor_r, List.replicate, ec, en, mkL, ew, e1', hp]
  simpa using ct
end
end K77

-- M10
/-! M10: led_within. -/
namespace K77
open PySem PySem.Spec L2 EV
theorem sortK_fd {h : List EO} {l m : List Nat} (hl : l.length < 64) (p : m.Perm l) (o : m.Pairwise (· ≤ ·)) : sortK false (.p (fdN l)) h = .ok (.p (.fl (nP m))) h := by
  have hi : intKs (l.map fun k : Nat => (.inl (k : Int) : Key)) = some (l.map Int.ofNat) := by
    clear p hl
    induction l with
    | nil => rfl
    | cons a l ih => simp only [List.map_cons, intKs, ih]; rfl
  have e1 : ((l.map fun k : Nat => ((.inl (k : Int) : Key), SV.p (.bl true))).map (·.1)) = l.map fun k : Nat => (.inl (k : Int) : Key) := by simp
  have hz : (64 : Nat) ≤ sizeLine := by decide
  have e2 : ((m.map Int.ofNat).map fun i => SV.p (.int i)) = (nP m).map .p := by simp [nP]
  have hm := p.length_eq
  simp only [sortK, dct_fdN, e1, hi, List.length_map, hl, if_true, sortI_nat p o, e2, mkL]
  rw [if_pos (by simp; omega)]
  simp [allP_map]
section
variable {C : Cs} {T : Tb} {h : List EO} {a b c : Nat}
theorem cj_in (O : T.Ok) {P : Nat → Prop} (U : Sub T P) (ha : P a) (hb : P b) : P (T.cj a b) := U.mul (U.mul (U.inv hb) ha) hb
theorem cls_within (O : T.Ok) {P : Nat → Prop} (U : Sub T P) (ha : P a) : clsOf T.n P (Led T P) a = can T.n (Led T P a) :=
  can_congr fun i _ => ⟨fun q => q.2, fun q => ⟨by obtain ⟨x, hx, rfl⟩ := q; exact cj_in O U ha hx, q⟩⟩
theorem led_within_r (O : T.Ok) {S : List Nat} (hS : ∀ s ∈ S, s < T.n) : cutR false h (F_led_within C [.p (grp C T), tS (Tb.gen T S)] h) = .ok (.p (.fl (lP (classes T.n (Gen T S) (Led T (Gen T S)))))) h := by
  have h8 := O.le
  have hz : (1000 : Nat) < sizeLine := by decide
  have U := gen_sub O hS
  have V := eqv_of O hS U
  have hl : ∀ a ∈ Tb.gen T S, a < T.n := fun a ha => (mem_can.mp ha).1
  have hlen : (Tb.gen T S).length ≤ T.n := can_len _ _
  let hp : List Nat × List (List Nat) → List EO := fun p => h ++ [nD p.1, .lst (p.2.map tS)]
  obtain ⟨es2, sn, e1, x1, x2, x3, x4, rfl⟩ := class_loop V (g := gNm 4) (es := [some (.p (grp C T)), some (tS (Tb.gen T S)), some (.ref h.length), some (.ref (h.length + 1)), none, none, none, none]) (body := (sIf (tB_ (eBin (opIn true) (eVar 4) (eVar 2))) (sSeq (sSet 5 (eCall (f1 tupK) (aCons (eCall (f1 (sortK false)) (aCons (eDc false (iSeq (eVar 1)) (gNm 7) tTrue (eCallM false (F_about C) (aCons (eVar 0) (aCons (eVar 4) (aCons (eVar 7) aNil)))) (eC (.bl true)) [7]) aNil)) aNil))) (sSeq (sExpr (eM "dict" mUpd (eVar 2) (aCons (eDc false (iSeq (eVar 5)) (gNm 6) tTrue (eVar 6) (eC (.bl true)) [6]) aNil))) (sExpr (eM "list" mAppend (eVar 3) (aCons (eVar 5) aNil))))) sNil))
    hp (fun es => ∃ x1 x2 x3 x4, es = [some (.p (grp C T)), some (tS (Tb.gen T S)), some (.ref h.length), some (.ref (h.length + 1)), x1, x2, x3, x4])
    (by
      rintro a es sn fd ⟨x1, x2, x3, x4, rfl⟩ ha nd lt hfd
      have hsn := nodup_lt nd lt
      have han := V.lt ha
      have e0 := g0 (h := h) (a := nD sn) (l := [.lst (fd.map tS)])
      have hm := opIn_t (in_nD (a := a) e0)
      refine ⟨_, rfl, ?_⟩
      by_cases q : a ∈ sn
      · rw [if_pos q]
        refine ⟨_, ?_, some (nI a), x2, x3, x4, rfl⟩
        simp [hp, hm, q]
      · rw [if_neg q]
        let ks := ((Tb.gen T S).map fun b => T.cj a b).foldl addN []
        have hk : ∀ x, x ∈ ks ↔ Led T (Gen T S) a x := keys_led O (fun x => ⟨fun q => (mem_can.mp q).2, fun q => mem_can.mpr ⟨U.lt q, q⟩⟩) a
        let h1 : List EO := h ++ [nD sn, .lst (fd.map tS)]
        have d1 := dc_n (es := [some (.p (grp C T)), some (tS (Tb.gen T S)), some (.ref h.length), some (.ref (h.length + 1)), some (nI a), x2, x3, x4]) (h := h1) (h1 := h1) (fI := iSeq (eVar 1)) (g := gNm 7) (fk := (eCallM false (F_about C) (aCons (eVar 0) (aCons (eVar 4) (aCons (eVar 7) aNil))))) (fv := eC (.bl true)) (vs := [7]) (L := Tb.gen T S) (e := nI) (fun b => T.cj a b)
          (iSeq_p (p := .tup (nP (Tb.gen T S))) rfl (by simp)) (wk_nP _ _) (by omega) (by
            intro b acc hb
            refine ⟨_, rfl, ?_, rfl⟩
            simp [ewipe, about_r O han (hl b hb)])
        have hlt : ∀ x ∈ ks, x < T.n := fun x hx => by
          obtain ⟨y, hy, rfl⟩ := (hk x).mp hx
          exact O.cjlt han (U.lt hy)
        have hp1 : (can T.n (Led T (Gen T S) a)).Perm ks := perm_can (addAll_nd List.nodup_nil) fun i => by
          rw [hk]; exact ⟨fun q => ⟨hlt i ((hk i).mpr q), q⟩, fun q => q.2⟩
        have hkl : ks.length ≤ T.n := nodup_lt (addAll_nd List.nodup_nil) hlt
        have so := fun h' => sortK_fd (h := h') (by omega) hp1 (can_le _ _)
        rw [← cls_within O U ha] at so
        generalize hlot : clsOf T.n (Gen T S) (Led T (Gen T S)) a = lot at so
        have nl : lot.Nodup := by rw [← hlot]; exact can_nodup _ _
        have ll : lot.length ≤ T.n := by rw [← hlot]; exact can_len _ _
        have d3 := dc_n (es := [some (.p (grp C T)), some (tS (Tb.gen T S)), some (.ref h.length), some (.ref (h.length + 1)), some (nI a), some (tS lot), x3, x4]) (h := h1) (h1 := h1) (fI := iSeq (eVar 5)) (g := gNm 6) (fk := eVar 6) (fv := eC (.bl true)) (vs := [6]) (L := lot) (e := nI) (fun b => b)
          (iSeq_p (p := .tup (nP lot)) rfl (by simp)) (wk_nP _ _) (by omega) (by
            intro b acc hb
            refine ⟨_, rfl, ?_, rfl⟩
            simp [ewipe])
        rw [List.map_id', addAll_nil nl] at d3
        have u := upd_r (m := lot) e0 (by omega)
        have g := g1 (h := h) (a := nD (lot.foldl addN sn)) (b := .lst (fd.map tS)) (l := [])
        have ap := append_r (y := tS lot) g (by simp; omega)
        refine ⟨_, ?_, some (nI a), some (tS lot), x3, x4, rfl⟩
        simp only [h1] at d1 d3
        simp only [ks] at so
        simp [hp, hm, q, d1, so, d3, tup_n (l := lot) (by omega), ty_nD e0, u, t0, ty_lst g, ap, t1]) ⟨_, _, _, _, rfl⟩
  have ec := check_part_r (C := C) (h := h) O hS
  have en : ∀ es, eNewD false true es h = .ok (.ref h.length) (h ++ [nD []]) := fun _ => rfl
  have ew := iSeq_p (es := [some (.p (grp C T)), some (tS (Tb.gen T S)), some (.ref h.length), some (.ref (h.length + 1)), none, none, none, none]) (f := eVar 1) (h := h ++ [nD [], .lst []]) (h1 := h ++ [nD [], .lst []]) (p := .tup (nP (Tb.gen T S))) rfl (by simp)
  have e1' : sLoop (nxtL ((nP (Tb.gen T S)).map .p)) _ _ ((nP (Tb.gen T S)).length + 1) 0 _ (h ++ [nD [], .lst []]) = _ := e1
  have ct := cutR_lst (h := h) (l := [nD sn]) (l2 := []) (n := h.length + 1) (xs := lP (classes T.n (Gen T S) (Led T (Gen T S)))) (by simp)
  rw [← tS_map] at ct
  simp only [F_led_within, runB_r]
  simp only [nP_len] at ew e1'
  simp [m_led_within, sFor_r, List.replicate, ec, en, mkL, ew, e1', hp]
  simpa using ct
end
end K77

-- M11
/-! M11: keepers, kept leading, differences. -/
namespace EV
open PySem PySem.Spec L2
/-- a row led about, ascending -/
noncomputable def ledL (T : Tb) (l : List Nat) (b : Nat) : List Nat := can T.n fun y => ∃ x ∈ l, T.cj x b = y
theorem ledL_perm {T : Tb} (O : T.Ok) {l : List Nat} {b : Nat} (hl : ∀ a ∈ l, a < T.n) (nd : l.Nodup) (hb : b < T.n) : (ledL T l b).Perm (l.map fun a => T.cj a b) :=
  perm_can (nodup_map nd fun x hx y hy e => O.cj_inj (hl x hx) (hl y hy) hb e) fun i => by
    rw [List.mem_map]
    exact ⟨fun ⟨a, ha, e⟩ => ⟨e ▸ O.cjlt (hl a ha) hb, a, ha, e⟩, fun q => q.2⟩
theorem wk_r (n : Nat) (P : List EO → Prop) : Wk (nxtN 0 n, n + 1) ((List.range n).map nI) P := wk_n n P
end EV
namespace K77
open PySem PySem.Spec L2 EV
section
variable {C : Cs} {T : Tb} {h : List EO} {a b c : Nat}
theorem led_lot_g (O : T.Ok) {S : List Nat} (hb : b < T.n) : cutR false h (F_led_lot C [.p (grp C T), tS (Tb.gen T S), nI b] h) = .ok (tS (ledL T (Tb.gen T S) b)) h := by
  have h8 := O.le
  have hl : ∀ a ∈ Tb.gen T S, a < T.n := fun a ha => (mem_can.mp ha).1
  have hn := can_len T.n (Com T.mul (fun _ => true) S 0)
  exact led_lot_r O hl (by simp only [Tb.gen]; omega) hb (ledL_perm O hl (can_nodup _ _) hb) (can_le _ _)
theorem tup_same {h : List EO} {p : List PV} : tupK (.p (.tup p)) h = .ok (.p (.tup p)) h := rfl
theorem pl_l {l : List Nat} (h8 : T.n ≤ 8) (hl : ∀ a ∈ l, a < T.n) (hn : l.length ≤ 16) : Pl 1 144 (tD l) := pl_tD (fun a ha => by have := hl a ha; omega) hn
theorem eq_tS {g : PyData → PyData → Bool} {l m : List Nat} (h8 : T.n ≤ 8) (hl : ∀ a ∈ l, a < T.n) (hn : l.length ≤ 16) (hm : ∀ a ∈ m, a < T.n) (hk : m.length ≤ 16) : opData g (tS l) (tS m) h = .ok (.p (.bl (g (tD l) (tD m)))) h :=
  eq_r (toD_tup _) (toD_tup _) (pl_l h8 hl hn) (pl_l h8 hm hk) (by omega)
noncomputable def keepL (T : Tb) (l : List Nat) : List Nat := (List.range T.n).filter fun b => decide (ledL T l b = l)
theorem keepers_of_r (O : T.Ok) {S : List Nat} : cutR false h (F_keepers_of C [.p (grp C T), tS (Tb.gen T S)] h) = .ok (tS (keepL T (Tb.gen T S))) h := by
  have h8 := O.le
  have hz : (1000 : Nat) < sizeLine := by decide
  have hl : ∀ a ∈ Tb.gen T S, a < T.n := fun a ha => (mem_can.mp ha).1
  have hn : (Tb.gen T S).length ≤ T.n := can_len _ _
  have hk : (keepL T (Tb.gen T S)).length ≤ T.n := by have := List.length_filter_le (fun b => decide (ledL T (Tb.gen T S) b = Tb.gen T S)) (List.range T.n); simpa [keepL] using this
  refine wfn ?_
  simp [m_keepers_of, List.replicate]
  refine wx_lc (fun b => decide (ledL T (Tb.gen T S) b = Tb.gen T S)) (fun b => .int (b : Nat)) (rng1_r (n := T.n) (by simp [f_many]) (by omega)) (wk_r _ _) (by simp; omega) (fun b acc hb => ⟨_, rfl, ?_, fun _ => ?_⟩) ?_
  · have hb : b < T.n := by simpa using hb
    simp [ewipe, led_lot_g O hb, eq_tS h8 (l := ledL T (Tb.gen T S) b) (fun a ha => (mem_can.mp ha).1) (by have := can_len T.n (fun y => ∃ x ∈ Tb.gen T S, T.cj x b = y); simp only [ledL]; omega) hl (by omega), tD_eqv]
  · simp [ewipe]
  · show Wx (tupK (.p (.fl (nP (keepL T (Tb.gen T S))))) h) _ _
    simp [tup_n (h := h) (l := keepL T (Tb.gen T S)) (by omega)]
theorem gen_lt {S : List Nat} : ∀ a ∈ Tb.gen T S, a < T.n := fun a ha => (mem_can.mp ha).1
theorem gen_len {S : List Nat} : (Tb.gen T S).length ≤ T.n := can_len _ _
theorem cls_len {n : Nat} {Q : Nat → Prop} {R : Nat → Nat → Prop} : (classes n Q R).length ≤ n := by
  unfold classes
  rw [List.length_map]
  exact can_len _ _
theorem cls_mem {n : Nat} {Q : Nat → Prop} {R : Nat → Nat → Prop} {l : List Nat} (h : l ∈ classes n Q R) : ∃ a, Least Q R a ∧ a < n ∧ l = clsOf n Q R a := by
  obtain ⟨a, ha, rfl⟩ := List.mem_map.mp h
  exact ⟨a, (mem_can.mp ha).2, (mem_can.mp ha).1, rfl⟩
theorem cls_lt {n : Nat} {Q : Nat → Prop} {R : Nat → Nat → Prop} {l : List Nat} (h : l ∈ classes n Q R) : (∀ a ∈ l, a < n) ∧ l.length ≤ n ∧ l.Nodup := by
  obtain ⟨a, _, _, rfl⟩ := cls_mem h
  exact ⟨fun a ha => (mem_can.mp ha).1, can_len _ _, can_nodup _ _⟩
theorem pl_cls {Q : Nat → Prop} {R : Nat → Nat → Prop} (h8 : T.n ≤ 8) : Pl 2 2320 (lD (classes T.n Q R)) := by
  refine pl_lD (fun l hl => ⟨fun a ha => ?_, ?_⟩) ?_
  · have := (cls_lt hl).1 a ha; omega
  · have := (cls_lt hl).2.1; omega
  · have := cls_len (n := T.n) (Q := Q) (R := R); omega
noncomputable abbrev TogL (T : Tb) (S : List Nat) : List (List Nat) := classes T.n (Gen T S) (Led T fun x => x < T.n)
noncomputable abbrev WithL (T : Tb) (S : List Nat) : List (List Nat) := classes T.n (Gen T S) (Led T (Gen T S))
theorem keeps_leading_r (O : T.Ok) {S : List Nat} (hS : ∀ s ∈ S, s < T.n) : cutR false h (F_keeps_leading C [.p (grp C T), tS (Tb.gen T S)] h) = .ok (.p (.bl (decide (TogL T S = WithL T S)))) h := by
  have h8 := O.le
  refine wfn ?_
  simp [m_keeps_leading, List.replicate, led_together_r O hS, led_within_r O hS, eq_r (sv_fl (toDs_l _)) (sv_fl (toDs_l _)) (pl_cls h8) (pl_cls h8)]
  exact lD_eqv _ _
theorem iSeqF {es : Es} {f : ME} {xs : List PV} (ef : f es h = .ok (.p (.fl xs)) h) : iSeq f es h = .ok (nxtL (xs.map .p), xs.length + 1) h := iSeq_p (p := .fl xs) rfl ef
theorem iSeqT {es : Es} {f : ME} {xs : List PV} (ef : f es h = .ok (.p (.tup xs)) h) : iSeq f es h = .ok (nxtL (xs.map .p), xs.length + 1) h := iSeq_p (p := .tup xs) rfl ef
theorem wk_lP (L : List (List Nat)) (P : List EO → Prop) : Wk (nxtL ((lP L).map .p), (lP L).length + 1) (L.map tS) P := by
  have := wk_p (lP L) P
  rwa [← tS_map] at this ⊢
/-- whether keepers alone lead all so -/
def KLd (T : Tb) (S : List Nat) (l : List Nat) : Prop := ∀ b ∈ l, ∃ k ∈ keepL T (Tb.gen T S), T.cj (l.head?.getD 0) k = b
theorem tog_head (O : T.Ok) {S : List Nat} (hS : ∀ s ∈ S, s < T.n) {l : List Nat} (h : l ∈ TogL T S) : l[0]? = some (l.head?.getD 0) ∧ l.head?.getD 0 < T.n := by
  obtain ⟨a, ha, h2, rfl⟩ := cls_mem h
  have : a ∈ clsOf T.n (Gen T S) (Led T fun x => x < T.n) a := mem_can.mpr ⟨h2, ha.1, led_refl O (all_sub O) h2⟩
  cases e : clsOf T.n (Gen T S) (Led T fun x => x < T.n) a with
  | nil => rw [e] at this; simp at this
  | cons b t =>
    refine ⟨rfl, ?_⟩
    have : b ∈ clsOf T.n (Gen T S) (Led T fun x => x < T.n) a := by rw [e]; simp
    exact (mem_can.mp this).1
theorem keepL_lt {l : List Nat} : (∀ a ∈ keepL T l, a < T.n) ∧ (keepL T l).length ≤ T.n := by
  refine ⟨fun a ha => by simp [keepL] at ha; exact ha.1, ?_⟩
  have := List.length_filter_le (fun b => decide (ledL T l b = l)) (List.range T.n)
  simpa [keepL] using this
open Classical in
theorem is_kept_leading_r (O : T.Ok) {S : List Nat} (hS : ∀ s ∈ S, s < T.n) : cutR false h (F_is_kept_leading C [.p (grp C T), tS (Tb.gen T S)] h) = .ok (.p (.bl (decide (∀ l ∈ TogL T S, KLd T S l)))) h := by
  have h8 := O.le
  have hz : (1000 : Nat) < sizeLine := by decide
  obtain ⟨k1, k2⟩ := keepL_lt (T := T) (l := Tb.gen T S)
  refine wfn ?_
  simp [m_is_kept_leading, List.replicate, check_part_r O hS, keepers_of_r O]
  refine ws_for (L := TogL T S) (e := tS) (iSeqF (by simp [led_together_r O hS])) (wk_lP _ _) (fun d es h' => h' = h ∧ ∃ x y z w, es = [some (.p (grp C T)), some (tS (Tb.gen T S)), some (tS (keepL T (Tb.gen T S))), x, y, z, w] ∧ ∀ l ∈ d, KLd T S l) (P := fun _ => True) (fun _ _ _ _ => trivial) ⟨rfl, _, _, _, _, rfl, by simp⟩ ?_ ?_
  · rintro d l t es h' el ⟨rfl, x1, x2, x3, x4, rfl, hd⟩
    have hm : l ∈ TogL T S := by rw [el]; simp
    obtain ⟨hl1, hl2, _⟩ := cls_lt hm
    obtain ⟨hd1, hd2⟩ := tog_head O hS hm
    simp
    refine wx_dn (L := keepL T (Tb.gen T S)) (e := nI) (fun b => T.cj (l.head?.getD 0) b) (iSeqT (by simp)) (wk_nP _ _) (by omega) (fun b acc hb => ⟨_, rfl, ?_, rfl⟩) ?_
    · have := ix_n (h := h' ++ [nD acc]) (x := tS l) (l := l) (i := 0) rfl hd1
      simp at this
      simp [ewipe, this, about_r O hd2 (k1 b hb)]
    refine wx_la (L := l) (e := nI) (fun b => .bl (decide (b ∈ ((keepL T (Tb.gen T S)).map fun b => T.cj (l.head?.getD 0) b).foldl addN []))) (iSeqT (by simp)) (wk_nP _ _) (by omega) (fun b acc hb => ⟨_, rfl, ?_⟩) ?_
    · simp [ewipe, opIn_f in_fdN]
    have hc : (l.all fun b => decide (b ∈ ((keepL T (Tb.gen T S)).map fun b => T.cj (l.head?.getD 0) b).foldl addN [])) = decide (KLd T S l) := by
      rw [Bool.eq_iff_iff, decide_eq_true_iff]
      simp [KLd, addAll_mem]
    simp only [all_fl, hc]
    by_cases q : KLd T S l
    · simp [q]
      rintro x (hx | rfl)
      · exact hd x hx
      · exact q
    · simp [q]
      exact ⟨l, hm, q⟩
  · rintro es h' ⟨rfl, _, _, _, _, rfl, hd⟩
    simp
    exact hd
/-- what comes of backs and others -/
noncomputable def difL (T : Tb) (S : List Nat) : List Nat := (TogL T S).flatMap fun l => l.flatMap fun a => l.map fun b => T.mul (T.inv a) b
theorem put_nDa {h : List EO} {n : Nat} {l : List Nat} {a : Nat} (e : h[n]? = some (nD l)) (hl : l.length < sizeLine) : setF (.ref n) (nI a) (.p (.bl true)) h = .ok () (h.set n (nD (addN l a))) := by
  unfold addN
  split
  · exact put_nD_in e hl ‹_›
  · exact put_nD e hl ‹_›
theorem addAll_lt {n : Nat} {m l : List Nat} (h1 : ∀ a ∈ l, a < n) (h2 : ∀ a ∈ m, a < n) : ∀ a ∈ m.foldl addN l, a < n := fun a ha => by
  rcases addAll_mem.mp ha with q | q
  · exact h1 a q
  · exact h2 a q
theorem addAll_len {n : Nat} {m : List Nat} (h2 : ∀ a ∈ m, a < n) : (m.foldl addN []).length ≤ n := nodup_lt (addAll_nd List.nodup_nil) (addAll_lt (by simp) h2)
theorem com_mono {op : Nat → Nat → Nat} {ok : Nat → Bool} {A B : List Nat} {x₀ x : Nat} (h : ∀ s ∈ A, s ∈ B) (q : Com op ok A x₀ x) : Com op ok B x₀ x := by
  induction q with
  | at_ => exact .at_
  | go _ hs k ih => exact .go ih (h _ hs) k
theorem gen_cong {A B : List Nat} (h : ∀ x, x ∈ A ↔ x ∈ B) : Tb.gen T A = Tb.gen T B :=
  can_congr fun i _ => ⟨com_mono fun s q => (h s).mp q, com_mono fun s q => (h s).mpr q⟩
theorem srt_n {h : List EO} {n k : Nat} {l : List Nat} (e : h[n]? = some (nD l)) (nd : l.Nodup) (lt : ∀ a ∈ l, a < k) (hk : k < 64) : sortK false (.ref n) h = .ok (.p (.fl (nP (can k fun x => x ∈ l)))) h :=
  sortK_nD e (by have := nodup_lt nd lt; omega) (perm_can nd fun i => ⟨fun q => ⟨lt i q, q⟩, fun q => q.2⟩) (can_le _ _)
theorem walks_tS {l : List Nat} : Walks h (tS l) (l.map nI) := by rw [← nP_nI]; exact walks_p rfl
theorem differences_r (O : T.Ok) {S : List Nat} (hS : ∀ s ∈ S, s < T.n) : cutR false h (F_differences C [.p (grp C T), tS (Tb.gen T S)] h) = .ok (tS (Tb.gen T (difL T S))) h := by
  have h8 := O.le
  have hz : (1000 : Nat) < sizeLine := by decide
  have bnd : ∀ L : List (List Nat), (∀ l ∈ L, l ∈ TogL T S) → ∀ x ∈ L.flatMap fun l => l.flatMap fun a => l.map fun b => T.mul (T.inv a) b, x < T.n := by
    intro L hL x hx
    simp only [List.mem_flatMap, List.mem_map] at hx
    obtain ⟨l, hl, a, ha, b, hb, rfl⟩ := hx
    exact O.lt (O.ilt ((cls_lt (hL l hl)).1 a ha)) ((cls_lt (hL l hl)).1 b hb)
  refine wfn ?_
  simp [m_differences, List.replicate, check_part_r O hS, eNewD]
  refine ws_for (L := TogL T S) (e := tS) (h1 := h ++ [nD []]) (iSeqF (by simp [led_together_r O hS])) (wk_lP _ _) (fun d es h' => h' = h ++ [nD ((d.flatMap fun l => l.flatMap fun a => l.map fun b => T.mul (T.inv a) b).foldl addN [])] ∧ ∃ x y z, es = [some (.p (grp C T)), some (tS (Tb.gen T S)), some (.ref h.length), x, y, z]) (P := fun _ => True) (fun _ _ _ _ => trivial) ⟨rfl, _, _, _, rfl⟩ ?_ ?_
  · rintro d l t es h' el ⟨rfl, x1, x2, x3, rfl⟩
    have hm : l ∈ TogL T S := by rw [el]; simp
    obtain ⟨hl1, hl2, _⟩ := cls_lt hm
    have hd : ∀ m ∈ d, m ∈ TogL T S := fun m hm => by rw [el]; simp [hm]
    generalize hF : (d.flatMap fun l => l.flatMap fun a => l.map fun b => T.mul (T.inv a) b) = F
    simp
    refine ws_for (L := l) (e := nI) (iSeqT (by simp)) (wk_nP _ _) (fun d2 es h' => h' = h ++ [nD ((F ++ d2.flatMap fun a => l.map fun b => T.mul (T.inv a) b).foldl addN [])] ∧ ∃ y z, es = [some (.p (grp C T)), some (tS (Tb.gen T S)), some (.ref h.length), some (tS l), y, z]) (P := fun _ => True) (fun _ _ _ _ => trivial) ⟨by simp, _, _, rfl⟩ ?_ ?_
    · rintro d2 a t2 es h' el2 ⟨rfl, x1, x2, rfl⟩
      have ha : a < T.n := hl1 a (by rw [el2]; simp)
      generalize hG : (d2.flatMap fun a => l.map fun b => T.mul (T.inv a) b) = G
      simp
      refine ws_for (L := l) (e := nI) (iSeqT (by simp)) (wk_nP _ _) (fun d3 es h' => h' = h ++ [nD ((F ++ G ++ d3.map fun b => T.mul (T.inv a) b).foldl addN [])] ∧ ∃ z, es = [some (.p (grp C T)), some (tS (Tb.gen T S)), some (.ref h.length), some (tS l), some (nI a), z]) (P := fun _ => True) (fun _ _ _ _ => trivial) ⟨by simp, _, rfl⟩ ?_ ?_
      · rintro d3 b t3 es h' el3 ⟨rfl, x1, rfl⟩
        have hb : b < T.n := hl1 b (by rw [el3]; simp)
        have hia := O.ilt ha
        have hlen : ((F ++ G ++ d3.map fun b => T.mul (T.inv a) b).foldl addN []).length ≤ T.n := addAll_len fun x hx => by
          refine bnd (d ++ [l]) (fun m hm' => by rcases List.mem_append.mp hm' with q | q; exact hd m q; simp at q; subst q; exact hm) x ?_
          simp only [List.flatMap_append, hF, List.mem_append] at hx ⊢
          rcases hx with (q | q) | q
          · exact .inl q
          · right
            simp only [← hG, List.mem_flatMap, List.mem_map] at q
            obtain ⟨a', ha', b', hb', rfl⟩ := q
            simp
            exact ⟨a', by rw [el2]; simp [ha'], b', hb', rfl⟩
          · right
            simp only [List.mem_map] at q
            obtain ⟨b', hb', rfl⟩ := q
            simp
            exact ⟨a, by rw [el2]; simp, b', by rw [el3]; simp [hb'], rfl⟩
        have p := fun (h' : List EO) e => put_nDa (h := h') (n := h.length) (l := (F ++ G ++ d3.map fun b => T.mul (T.inv a) b).foldl addN []) (a := T.mul (T.inv a) b) e (by omega)
        simp [f_tab, f_backs, ix_back ha, ix_tab hia, ix_row hb] at p ⊢
        simp [p]
      · rintro es h' ⟨rfl, _, rfl⟩
        simp [hG]
    · rintro es h' ⟨rfl, _, _, rfl⟩
      simp [hF]
  · rintro es h' ⟨rfl, _, _, _, rfl⟩
    have lt := bnd (TogL T S) fun _ q => q
    change ∀ x ∈ difL T S, x < T.n at lt
    have nd : ((difL T S).foldl addN []).Nodup := addAll_nd List.nodup_nil
    have hlt := addAll_lt (l := []) (by simp) lt
    have hc : ∀ s ∈ can T.n fun x => x ∈ (difL T S).foldl addN [], s < T.n := fun s q => (mem_can.mp q).1
    have hcl := can_len T.n fun x => x ∈ (difL T S).foldl addN []
    have so := srt_n (h := h ++ [nD ((difL T S).foldl addN [])]) (n := h.length) (by simp) nd hlt (by omega)
    have cl := closed_r (C := C) (h := h ++ [nD ((difL T S).foldl addN [])]) O hc walks_tS
    have ge : Tb.gen T (can T.n fun x => x ∈ (difL T S).foldl addN []) = Tb.gen T (difL T S) := gen_cong fun x => by
      rw [mem_can, addAll_mem]
      simp
      exact lt x
    rw [ge] at cl
    simp only [difL] at so cl
    simp [so, tup_n (l := can T.n fun x => x ∈ ((TogL T S).flatMap fun l => l.flatMap fun a => l.map fun b => T.mul (T.inv a) b).foldl addN []) (by simp only [difL] at hcl; omega), cl]
    exact cutE_p _
end
end K77

-- M12
/-! M12: rows of rows sorted; the law's own lists. -/
namespace EV
open PySem PySem.Spec L2
theorem ofNat_lt : ∀ l m : List Nat, (l.map Int.ofNat < m.map Int.ofNat) ↔ l < m
  | [], [] => by simp
  | [], _ :: _ => by simp
  | _ :: _, [] => by simp
  | a :: l, b :: m => by
    simp only [List.map_cons, List.cons_lt_cons_iff, ofNat_lt l m]
    have h1 : Int.ofNat a < Int.ofNat b ↔ a < b := Int.ofNat_lt
    have h2 : Int.ofNat a = Int.ofNat b ↔ a = b := Int.ofNat_inj
    rw [h1, h2]
theorem lt_tD (l m : List Nat) : PySem.W.dataLt (tD l) (tD m) = decide (l < m) := by
  have e : ∀ l : List Nat, l.map nd = (l.map Int.ofNat).map PyData.int := fun l => by simp [nd]
  have := PySem.W.dataLt_ints (l.map Int.ofNat) (m.map Int.ofNat)
  rw [← e, ← e] at this
  have h2 : PySem.W.dataLt (tD l) (tD m) = PySem.W.rowLt (l.map nd) (m.map nd) := rfl
  rw [h2, this]
  exact decide_eq_decide.mpr (ofNat_lt l m)
theorem alike_nds : ∀ l m : List Nat, PySem.W.alikeAll (l.map nd) (m.map nd) = true
  | [], _ => by simp [PySem.W.alikeAll]
  | _ :: _, [] => by simp [PySem.W.alikeAll]
  | a :: l, b :: m => by simp [PySem.W.alikeAll, nd, PySem.W.alike]; exact alike_nds l m
theorem alike_tD (l m : List Nat) : PySem.W.alike (tD l) (tD m) = true := by
  simp only [tD, PySem.W.alike]; exact alike_nds l m
theorem depth_tD (l : List Nat) : (tD l).depth ≤ 1 := by
  have : PyData.depthAll (l.map nd) = 0 := by
    induction l with
    | nil => rfl
    | cons a l ih => simp [PyData.depthAll, nd, PyData.depth]; exact ih
  simp [tD, PyData.depth, this]
theorem PsD_l (L : List (List Nat)) : PsD (lP L) = some (L.map fun l => (PV.tup (nP l), tD l)) := by
  induction L with
  | nil => rfl
  | cons l L ih => simp only [lP, List.map_cons, PsD, toD_tup] at ih ⊢; rw [ih]
theorem merge_gen {γ : Type} {le : γ → γ → Bool} {l m : List γ} (as : ∀ a b, le a b = true → le b a = true → a = b) (tr : ∀ a b c, le a b = true → le b c = true → le a c = true) (to : ∀ a b, (le a b || le b a) = true) (p : m.Perm l) (o : m.Pairwise fun a b => le a b = true) : l.mergeSort le = m :=
  (List.Perm.eq_of_pairwise (le := fun a b => le a b = true) (fun a b _ _ h1 h2 => as a b h1 h2) o (List.pairwise_mergeSort tr to l) (p.trans (List.mergeSort_perm l _).symm)).symm
theorem sort_lP {L M : List (List Nat)} (hl : L.length ≤ sizeLine) (ne : ∀ l ∈ L, l ≠ []) (p : M.Perm L) (o : M.Pairwise (· ≤ ·)) : sortDs (lP L) = some (lP M) := by
  have hc : PySem.W.AllAlike ((L.map fun l => (PV.tup (nP l), tD l)).map (·.2)) ∧ PySem.W.Sortable ((L.map fun l => (PV.tup (nP l), tD l)).map (·.2)) ∧ (L.map fun l => (PV.tup (nP l), tD l)).length ≤ sizeLine ∧ ∀ b ∈ L.map fun l => (PV.tup (nP l), tD l), b.2.depth ≤ 64 := by
    refine ⟨?_, .inl ?_, by simpa using hl, ?_⟩
    · intro d hd d' hd'
      simp only [List.map_map, List.mem_map] at hd hd'
      obtain ⟨i, _, rfl⟩ := hd
      obtain ⟨j, _, rfl⟩ := hd'
      exact alike_tD i j
    · intro d hd
      simp only [List.map_map, List.mem_map] at hd
      obtain ⟨l, hl, rfl⟩ := hd
      cases l with
      | nil => exact absurd rfl (ne _ hl)
      | cons a l => exact ⟨_, _, rfl⟩
    · intro d hd
      simp only [List.mem_map] at hd
      obtain ⟨i, _, rfl⟩ := hd
      have := depth_tD i
      simp only
      omega
  simp only [sortDs, PsD_l]
  rw [if_pos hc]
  have hm : (L.map fun l => (PV.tup (nP l), tD l)).mergeSort (PySem.W.dataLe false (·.2)) = (L.mergeSort (fun a b => decide (a ≤ b))).map fun l => (PV.tup (nP l), tD l) := by
    rw [List.map_mergeSort]
    intro a _ b _
    have e2 : PySem.W.dataLe false (fun x : PV × PyData => x.2) (PV.tup (nP a), tD a) (PV.tup (nP b), tD b) = !PySem.W.dataLt (tD b) (tD a) := rfl
    rw [e2, lt_tD]
    rw [Bool.eq_iff_iff]
    simp [List.not_lt]
  rw [hm, merge_gen (m := M) (le := fun a b => decide (a ≤ b)) (fun a b h1 h2 => List.le_antisymm (of_decide_eq_true h1) (of_decide_eq_true h2)) (fun a b c h1 h2 => decide_eq_true (List.le_trans (of_decide_eq_true h1) (of_decide_eq_true h2))) (fun a b => by simp only [Bool.or_eq_true, decide_eq_true_eq]; exact List.le_total a b) p (o.imp fun h => decide_eq_true h)]
  simp [lP]
end EV
namespace EV
open PySem PySem.Spec L2
/-- all gone about, as the programs do it -/
theorem ws_bfs {op : Nat → Nat → Nat} {ok : Nat → Bool} {n x₀ : Nat} {L : List Nat} {es : Es} {h0 : List EO} {t : MT} {pop body : MS} {fI : MI} {g : MG} {D : Ps} (hp : List Nat × List Nat → List EO) (EsI : Es → Prop) (EsZ : Nat → Es → Prop)
    (e0 : h0 = hp ([x₀], [x₀])) (hn : n ≤ 1000) (hx : x₀ < n) (ho : ∀ y s, y < n → s ∈ L → op y s < n)
    (ht : ∀ es ks ws, EsI es → ws.length ≤ 3 * n → (∀ y ∈ ws, y < n) → t es (hp (ks, ws)) = .ok (decide (ws ≠ [])) (hp (ks, ws)))
    (hpop : ∀ es ks ws z, EsI es → ∃ es1, pop es (hp (ks, ws ++ [z])) = .nx es1 (hp (ks, ws)) ∧ EsZ z es1)
    (hfor : ∀ es z p, EsZ z es → ∃ w, fI es (hp p) = .ok w (hp p) ∧ Wk w (L.map nI) fun h' => ∃ p, h' = hp p)
    (hbody : ∀ es z s ks ws, EsZ z es → z < n → s ∈ L → ks.Nodup → (∀ y ∈ ks, y < n) → ks.length ≤ n → ws.length ≤ 3 * n → ∃ es1, g (nI s) es (hp (ks, ws)) = .ok es1 (hp (ks, ws)) ∧ ∃ es2, body es1 (hp (ks, ws)) = .nx es2 (hp (bst op ok z (ks, ws) s)) ∧ EsZ z es2)
    (hz : ∀ es z, EsZ z es → EsI es) (hes : EsI es)
    (hQ : ∀ es2 ks, EsI es2 → (can n (Com op ok L x₀)).Perm ks → ks.length ≤ n → D.nx es2 (hp (ks, []))) : Ws (sWhile t (sSeq pop (sFor fI g body)) 100000 es h0) D := by
  obtain ⟨es2, ks, e, a, b, c⟩ := bfs hp EsI EsZ hn hx ho ht hpop hfor hbody hz hes
  rw [e0, e]
  exact .nx (hQ es2 ks a b c)
theorem bst_is {op : Nat → Nat → Nat} {ok : Nat → Bool} {z s : Nat} {ks ws : List Nat} (q1 : ok (op z s) = true) (q : op z s ∉ ks) : bst op ok z (ks, ws) s = (ks ++ [op z s], ws ++ [op z s]) := by
  unfold bst; rw [if_pos ⟨q1, q⟩]
theorem bst_no {op : Nat → Nat → Nat} {ok : Nat → Bool} {z s : Nat} {ks ws : List Nat} (q : ok (op z s) = true → op z s ∈ ks) : bst op ok z (ks, ws) s = (ks, ws) := by
  unfold bst; rw [if_neg fun r => r.2 (q r.1)]
/-- a member among a row's -/
theorem in_tS {h : List EO} {l : List Nat} {a n : Nat} (hn : n ≤ 16) (ha : a < n) (hl : ∀ b ∈ l, b < n) (hk : l.length ≤ 16) : isInK (nI a) (.p (.tup (nP l))) h = some (decide (a ∈ l)) := by
  have p1 := pl_nd (i := a) (by omega)
  have p2 := pl_tD (l := l) (fun b hb => by have := hl b hb; omega) hk
  have e1 : svD h (nI a) = some (nd a) := rfl
  have e2 : svD h (.p (.tup (nP l))) = some (tD l) := toD_tup l
  have e3 : dctOf h (.p (.tup (nP l))) = none := rfl
  simp only [isInK, e3, e1, e2, tD]
  rw [if_pos ⟨p1.shaped (by omega), p2.shaped (by omega)⟩, List.any_map]
  congr 1
  rw [Bool.eq_iff_iff, List.any_eq_true]
  simp only [Function.comp, nd_eqv, decide_eq_true_eq]
  exact ⟨fun ⟨b, hb, e⟩ => e ▸ hb, fun q => ⟨a, q, rfl⟩⟩
theorem com_led {T : Tb} (O : T.Ok) {P Q : Nat → Prop} {part L : List Nat} (U : Sub T P) (hQ : ∀ x, x ∈ part ↔ Q x) (lt : ∀ x, Q x → x < T.n) (hL : ∀ x, x ∈ L ↔ P x) {a : Nat} (ha : Q a) (y : Nat) : Com T.cj (fun x => decide (x ∈ part)) L a y ↔ Q y ∧ Led T P a y := by
  constructor
  · intro q
    induction q with
    | at_ => exact ⟨ha, led_refl O U (lt a ha)⟩
    | go _ hs k ih =>
      refine ⟨(hQ _).mp (of_decide_eq_true k), led_trans O U (lt a ha) ih.2 ⟨_, (hL _).mp hs, rfl⟩⟩
  · rintro ⟨hy, x, hx, rfl⟩
    exact .go .at_ ((hL x).mpr hx) (decide_eq_true ((hQ _).mpr hy))
theorem cls_first {n : Nat} {Q : Nat → Prop} {R : Nat → Nat → Prop} (V : Eqv n Q R) {a : Nat} (h : Least Q R a) : ∃ t, clsOf n Q R a = a :: t := by
  have hm : a ∈ clsOf n Q R a := mem_can.mpr ⟨V.lt h.1, h.1, V.refl h.1⟩
  have hs : (clsOf n Q R a).Pairwise (· < ·) := can_lt _ _
  cases e : clsOf n Q R a with
  | nil => rw [e] at hm; simp at hm
  | cons b t =>
    have hb : b ∈ clsOf n Q R a := by rw [e]; simp
    have h1 := h.2 b (mem_can.mp hb).2.1 (mem_can.mp hb).2.2
    rw [e] at hm hs
    rw [List.pairwise_cons] at hs
    rcases List.mem_cons.mp hm with rfl | q
    · exact ⟨t, rfl⟩
    · have := hs.1 a q; omega
theorem cls_asc {n : Nat} {Q : Nat → Prop} {R : Nat → Nat → Prop} (V : Eqv n Q R) : (classes n Q R).Pairwise (· ≤ ·) := by
  unfold classes
  rw [List.pairwise_map]
  have : (can n (Least Q R)).Pairwise fun a b => a ∈ can n (Least Q R) → b ∈ can n (Least Q R) → clsOf n Q R a ≤ clsOf n Q R b := (can_lt n (Least Q R)).imp fun {a b} hab ha hb => by
    obtain ⟨t, e1⟩ := cls_first V (mem_can.mp ha).2
    obtain ⟨u, e2⟩ := cls_first V (mem_can.mp hb).2
    rw [e1, e2]
    exact List.le_of_lt (List.cons_lt_cons_iff.mpr (.inl hab))
  exact this.imp_of_mem fun ha hb h => h ha hb
end EV
namespace K77
open PySem PySem.Spec L2 EV
section
variable {C : Cs} {T : Tb} {h : List EO} {a b c : Nat}
theorem law_lists_r (O : T.Ok) {S : List Nat} (hS : ∀ s ∈ S, s < T.n) {P : Nat → Prop} (U : Sub T P) {L : List Nat} (hL : ∀ x, x ∈ L ↔ P x) (hLn : L.length ≤ 1000) {x : SV} (hx : Walks h x (L.map nI)) : cutR false h (F_law_lists C [.p T.tab, tS (Tb.gen T S), x] h) = .ok (.p (.fl (lP (classes T.n (Gen T S) (Led T P))))) h := by
  have h8 := O.le
  have hz : (1000 : Nat) < sizeLine := by decide
  have V := eqv_of O hS U
  have hQ : ∀ x, x ∈ Tb.gen T S ↔ Gen T S x := fun x => ⟨fun q => (mem_can.mp q).2, fun q => mem_can.mpr ⟨V.lt q, q⟩⟩
  have hLt : ∀ s ∈ L, s < T.n := fun s hs => U.lt ((hL s).mp hs)
  refine wfn ?_
  simp [m_law_lists, List.replicate, mkL, listK, show (Tb.gen T S).length ≤ sizeLine by have := gen_len (T := T) (S := S); omega, allP_map]
  refine ws_while (fun j es h' => ∃ (seen : Nat → Prop) (fd : List (List Nat)) (l : List EO) (x1 x2 x3 x4 x5 x6 : Option SV), CInv T.n (Gen T S) (Led T P) seen fd ∧ (∀ z, Least (Gen T S) (Led T P) z → seen z → ∀ y, Gen T S y → ¬ seen y → z < y) ∧ j = (can T.n fun z => Gen T S z ∧ ¬ seen z).length ∧ h' = h ++ .lst (fd.map tS) :: l ∧
      es = [some (.p T.tab), some (tS (Tb.gen T S)), some x, some (.ref h.length), some (.p (.fl (nP (can T.n fun z => Gen T S z ∧ ¬ seen z)))), x1, x2, x3, x4, x5, x6]) ?_ 100000 (Tb.gen T S).length _ _ (by have := gen_len (T := T) (S := S); omega) ?_
  · rintro j es h' ⟨seen, fd, l, x1, x2, x3, x4, x5, x6, I, hlt, rfl, rfl, rfl⟩
    have hleft : ∀ z, z ∈ (can T.n fun z => Gen T S z ∧ ¬ seen z) ↔ Gen T S z ∧ ¬ seen z := fun z => ⟨fun q => (mem_can.mp q).2, fun q => mem_can.mpr ⟨V.lt q.1, q⟩⟩
    have hasc := can_lt T.n fun z => Gen T S z ∧ ¬ seen z
    have hlen := can_len T.n fun z => Gen T S z ∧ ¬ seen z
    generalize hlf : (can T.n fun z => Gen T S z ∧ ¬ seen z) = lf at hleft hasc hlen
    have hlt16 : ∀ a ∈ lf, a < T.n := fun a ha => V.lt ((hleft a).mp ha).1
    have pl : Pl 1 144 (.list (lf.map nd)) := pl_lst (w := 8) (fun d hd => by
      obtain ⟨a, ha, rfl⟩ := List.mem_map.mp hd
      exact pl_nd (by have := hlt16 a ha; omega)) (by simp; omega)
    have p0 : Pl 1 144 (.list ([] : List PyData)) := pl_lst (w := 8) (by simp) (by simp)
    have et := eq_r (h := h ++ .lst (fd.map tS) :: l) (g := fun d e => !PyData.eqv d e) (x := .p (.fl (nP lf))) (y := .p (.fl [])) (sv_fl (toDs_n lf)) (sv_fl rfl) pl p0 (by omega)
    simp [mkL, allP, et]
    cases lf with
    | nil =>
      simp [PyData.eqv, PyData.eqvAll]
      have hf : fd = classes T.n (Gen T S) (Led T P) := cinv_end I fun z hz => Classical.byContradiction fun r => by
        have := (hleft z).mpr ⟨hz, r⟩
        simp at this
      subst hf
      have hcl := cls_len (n := T.n) (Q := Gen T S) (R := Led T P)
      have so : sortK false (.ref h.length) (h ++ .lst ((classes T.n (Gen T S) (Led T P)).map tS) :: l) = .ok (.p (.fl (lP (classes T.n (Gen T S) (Led T P))))) (h ++ .lst ((classes T.n (Gen T S) (Led T P)).map tS) :: l) := by
        have sl := sort_lP (L := classes T.n (Gen T S) (Led T P)) (by omega) (fun l hl e => by
          obtain ⟨a, ha, _, rfl⟩ := cls_mem hl
          obtain ⟨t, e2⟩ := cls_first V ha
          rw [e2] at e; cases e) (List.Perm.refl _) (cls_asc V)
        simp only [sortK, dctOf, lstOf, getL0]
        simp [tS_map, allP_map, sl, mkL]
        simp [lP]; omega
      simp [so, cutE_p]
    | cons a lf =>
      simp [PyData.eqv, PyData.eqvAll]
      have e0 := ix_n (h := h ++ .lst (fd.map tS) :: (l ++ [.dic []])) (x := .p (.fl (nP (a :: lf)))) (l := a :: lf) (i := 0) rfl rfl
      have e1 := ix_n (h := h ++ .lst (fd.map tS) :: (l ++ [nD [a]])) (x := .p (.fl (nP (a :: lf)))) (l := a :: lf) (i := 0) rfl rfl
      simp at e0 e1
      simp [nD] at e1
      simp [eDisp, e0, EV.keyOf, e1]
      obtain ⟨h2, hh2⟩ : ∃ h2, h2 = h ++ .lst (fd.map tS) :: l := ⟨_, rfl⟩
      have hN : h.length + (l.length + 1) = h2.length := by rw [hh2]; simp
      have hN1 : h.length + (l.length + 1 + 1) = h2.length + 1 := by rw [hh2]; simp; omega
      have haQ := (hleft a).mp (by simp)
      have han := V.lt haQ.1
      let hp : List Nat × List Nat → List EO := fun p => h2 ++ [nD p.1, .lst (p.2.map nI)]
      have hx2 : EV.Walks h2 x (L.map nI) := by rw [hh2]; exact hx.app _
      obtain ⟨w, ew, hw⟩ := hx2
      simp only [hN, hN1]
      refine ws_bfs (op := T.cj) (ok := fun y => decide (y ∈ Tb.gen T S)) (L := L) (n := T.n) (x₀ := a) hp
        (fun es => ∃ y1 y2 y3 y4, es = [some (.p T.tab), some (tS (Tb.gen T S)), some x, some (.ref h.length), some (.p (.fl (nP (a :: lf)))), some (.ref h2.length), some (.ref (h2.length + 1)), y1, y2, y3, y4])
        (fun z es => ∃ y2 y3 y4, es = [some (.p T.tab), some (tS (Tb.gen T S)), some x, some (.ref h.length), some (.p (.fl (nP (a :: lf)))), some (.ref h2.length), some (.ref (h2.length + 1)), some (nI z), y2, y3, y4])
        (by simp [hp, hh2, nD]) (by omega) han (fun y s hy hs => O.cjlt hy (hLt s hs)) ?_ ?_ ?_ ?_ (fun es z ⟨_, _, _, e⟩ => ⟨_, _, _, _, e⟩) ⟨_, _, _, _, rfl⟩ ?_
      · rintro es ks ws ⟨y1, y2, y3, y4, rfl⟩ _ hw
        have := ne_nil (g1 : (h2 ++ nD ks :: .lst (ws.map nI) :: [])[h2.length + 1]? = _) fun y hy => by have := hw y hy; omega
        simp [hp, mkL, allP, this]
      · rintro es ks ws z ⟨y1, y2, y3, y4, rfl⟩
        have e1 := g1 (h := h2) (a := nD ks) (b := .lst (ws.map nI ++ [nI z])) (l := [])
        refine ⟨_, ?_, y2, y3, y4, rfl⟩
        simp [hp, ty_lst e1, pop_r e1, t1]
      · rintro es z p ⟨y2, y3, y4, rfl⟩
        exact ⟨w, ew _ 2 _ rfl, hw _ fun h' ⟨p, e⟩ => ⟨_, e⟩⟩
      · rintro es z s ks ws ⟨y2, y3, y4, rfl⟩ hz1 hs nd hks hl1 hl2
        have e0 := g0 (h := h2) (a := nD ks) (l := [.lst (ws.map nI)])
        have hm := opIn_t (in_nD (a := T.cj z s) e0)
        have hcl := O.cjlt hz1 (hLt s hs)
        have hin := opIn_f (in_tS (h := h2 ++ [nD ks, .lst (ws.map nI)]) (l := Tb.gen T S) (a := T.cj z s) (n := T.n) (by omega) hcl gen_lt (by have := gen_len (T := T) (S := S); omega))
        refine ⟨_, rfl, ?_⟩
        by_cases q : T.cj z s ∈ Tb.gen T S ∧ T.cj z s ∉ ks
        · rw [bst_is (decide_eq_true q.1) q.2]
          have hp1 := put_nD e0 (by omega) q.2
          have e1 := g1 (h := h2) (a := nD (ks ++ [T.cj z s])) (b := .lst (ws.map nI)) (l := [])
          have ha := append_r (y := nI (T.cj z s)) e1 (by simp; omega)
          refine ⟨_, ?_, some (nI s), some (nI (T.cj z s)), y4, rfl⟩
          simp [led_r O hz1 (hLt s hs), hp, hm, hin, q.1, q.2, hp1, t0, ty_lst e1, ha, t1]
        · rw [bst_no fun r => Classical.byContradiction fun r2 => q ⟨of_decide_eq_true r, r2⟩]
          refine ⟨_, ?_, some (nI s), some (nI (T.cj z s)), y4, rfl⟩
          by_cases q1 : T.cj z s ∈ Tb.gen T S
          · have q2 : T.cj z s ∈ ks := Classical.byContradiction fun r => q ⟨q1, r⟩
            simp [led_r O hz1 (hLt s hs), hp, hm, hin, q1, q2]
          · simp [led_r O hz1 (hLt s hs), hp, hin, q1]
      · rintro es ks ⟨y1, y2, y3, y4, rfl⟩ hpm hkl
        have hcl : can T.n (Com T.cj (fun y => decide (y ∈ Tb.gen T S)) L a) = clsOf T.n (Gen T S) (Led T P) a := can_congr fun i _ => com_led O U hQ (fun x hx => V.lt hx) hL haQ.1 i
        rw [hcl] at hpm
        have hkm : ∀ z, z ∈ ks ↔ Gen T S z ∧ Led T P a z := fun z => by
          rw [← hpm.mem_iff]
          unfold clsOf
          rw [mem_can]
          exact ⟨fun q => q.2, fun q => ⟨V.lt q.1, q⟩⟩
        have so := sortK_nD (g0 : (h2 ++ nD ks :: [.lst []])[h2.length]? = _) (by omega) hpm (can_le _ _)
        have hcn : (clsOf T.n (Gen T S) (Led T P) a).length ≤ T.n := can_len _ _
        generalize hlot : clsOf T.n (Gen T S) (Led T P) a = lot at so hpm hcn
        have el : (h2 ++ [nD ks, .lst []])[h.length]? = some (.lst (fd.map tS)) := by rw [hh2]; simp
        have hfd : fd.length ≤ T.n := by rw [I.is_, List.length_map]; exact can_len _ _
        have ap := append_r (y := tS lot) el (by simp; omega)
        have hset : (h2 ++ [nD ks, .lst []]).set h.length (.lst (fd.map tS ++ [tS lot])) = h ++ .lst ((fd ++ [lot]).map tS) :: (l ++ [nD ks, .lst []]) := by rw [hh2]; simp
        rw [hset] at ap
        simp [hp, ty_lst el, so, tup_n (l := lot) (by omega), ap]
        simp only [← List.map_append, ← List.map_singleton (f := tS)]
        generalize hh3 : h ++ EO.lst ((fd ++ [lot]).map tS) :: (l ++ [nD ks, .lst []]) = h3
        have e3 : h3[h2.length]? = some (nD ks) := by rw [← hh3, ← hN]; simp
        refine wx_lc (L := a :: lf) (e := nI) (fun b => !decide (b ∈ ks)) (fun b => .int (b : Nat)) (iSeqF (by simp)) (wk_nP _ _) (by simp at hlen ⊢; omega) (fun b acc hb => ⟨_, rfl, ?_, fun _ => ?_⟩) ?_
        · have e4 : (h3 ++ [.lst acc])[h2.length]? = some (nD ks) := by
            rw [List.getElem?_append_left (List.getElem?_eq_some_iff.mp e3).1]; exact e3
          simp [ewipe, opIn_t (in_nD (a := b) e4)]
        · simp [ewipe]
        · have hh : ∀ z, Gen T S z → ¬ seen z → a ≤ z := fun z h1 h2 => by
            have := (hleft z).mpr ⟨h1, h2⟩
            rcases List.mem_cons.mp this with rfl | q
            · exact Nat.le_refl _
            · exact Nat.le_of_lt ((List.pairwise_cons.mp hasc).1 z q)
          have J := cinv_step V I haQ.1 haQ.2 (fun z hz hlt => Classical.byContradiction fun r => by have := hh z hz r; omega) (fun z hL hs => hlt z hL hs a haQ.1 haQ.2)
          have ef : (a :: lf).filter (fun b => !decide (b ∈ ks)) = can T.n fun z => Gen T S z ∧ ¬ (seen z ∨ (Gen T S z ∧ Led T P a z)) := by
            refine asc_ext (hasc.filter _) (can_lt _ _) fun z => ?_
            rw [List.mem_filter, mem_can, hleft z]
            simp only [Bool.not_eq_true', decide_eq_false_iff_not, hkm]
            constructor
            · rintro ⟨⟨h1, h2⟩, h3⟩
              exact ⟨V.lt h1, h1, fun q => q.elim h2 h3⟩
            · rintro ⟨_, h1, h2⟩
              exact ⟨⟨h1, fun q => h2 (.inl q)⟩, fun q => h2 (.inr q)⟩
          rw [hlot] at J
          have hlen2 : ((a :: lf).filter (fun b => !decide (b ∈ ks))).length < lf.length + 1 := by
            have ha : a ∈ ks := (hkm a).mpr ⟨haQ.1, V.refl haQ.1⟩
            rw [List.filter_cons]
            simp [ha]
            have := List.length_filter_le (fun b => !decide (b ∈ ks)) lf
            omega
          refine ⟨_, hlen2, _, _, J, ?_, by rw [ef], ⟨_, hh3.symm⟩, ?_⟩
          · intro z hzL hs y hy hns
            have hns1 : ¬ seen y := fun q => hns (.inl q)
            rcases hs with hs | hs
            · exact hlt z hzL hs y hy hns1
            · have hza : z ≤ a := hzL.2 a haQ.1 (V.symm haQ.1 hs.2)
              have hay := hh y hy hns1
              have : y ≠ a := fun e => hns (.inr ⟨hy, by rw [e]; exact V.refl haQ.1⟩)
              omega
          · rw [ef]; rfl
  · refine ⟨fun _ => False, [], [], none, none, none, none, none, none, cinv_0, by simp, ?_⟩
    have : (can T.n fun z => Gen T S z ∧ ¬ False) = Tb.gen T S := can_congr fun i _ => by simp [Gen]
    simp at this
    simp [this]
end
end K77

-- M13
/-! M13: dicts of rows, their pairs sorted; shown texts compared. -/
namespace EV
open PySem PySem.Spec L2
def kyN (l : List Nat) : List Key := l.map fun i => .inl (i : Nat)
def encT (acc : List (List Nat × Nat)) : List (List Key × SV) := acc.map fun q => (kyN q.1, nI q.2)
def sdN (acc : List (List Nat × Nat)) (k : List Nat) (v : Nat) : List (List Nat × Nat) := if k ∈ acc.map (·.1) then acc else acc ++ [(k, v)]
theorem kyN_inj {l m : List Nat} (e : kyN l = kyN m) : l = m := by
  unfold kyN at e
  induction l generalizing m with
  | nil => cases m with
    | nil => rfl
    | cons b m => simp at e
  | cons a l ih => cases m with
    | nil => simp at e
    | cons b m =>
      simp only [List.map_cons, List.cons.injEq, Sum.inl.injEq] at e
      rw [ih e.2]
      have : a = b := by omega
      rw [this]
theorem tkey_n (l : List Nat) : tkeyOf (.p (.tup (nP l))) = some (kyN l) := by
  have : keysOf (nP l) = some (kyN l) := by
    induction l with
    | nil => rfl
    | cons a l ih =>
      simp only [nP, List.map_cons, keysOf] at ih ⊢
      rw [ih]; rfl
  exact this
theorem find_encT (acc : List (List Nat × Nat)) (k : List Nat) : (dkLook (encT acc) (kyN k)).isSome = decide (k ∈ acc.map (·.1)) := by
  induction acc with
  | nil => rfl
  | cons q acc ih =>
    simp only [encT, List.map_cons, dkLook, List.find?_cons, List.mem_cons] at ih ⊢
    by_cases h : q.1 = k
    · subst h; simp
    · have h1 : ¬ kyN q.1 = kyN k := fun e => h (kyN_inj e)
      simp only [h1, decide_false]
      rw [ih]
      have : ¬ k = q.1 := fun e => h e.symm
      simp [this]
theorem setd_r {h : List EO} {n : Nat} {acc : List (List Nat × Nat)} {k : List Nat} {v : Nat} (e : h[n]? = some (.dit (encT acc))) (hl : acc.length < sizeLine) : ∃ r, mSetd (.ref n) [.p (.tup (nP k)), nI v] h = .ok r (h.set n (.dit (encT (sdN acc k v)))) := by
  have f := find_encT acc k
  have hl2 : (encT acc).length < sizeLine := by simpa [encT] using hl
  simp only [mSetd, e, tkey_n, hl2, if_true]
  cases q : dkLook (encT acc) (kyN k) with
  | some u =>
    rw [q] at f
    have : k ∈ acc.map (·.1) := by simpa using f.symm
    refine ⟨u, ?_⟩
    simp only [sdN, if_pos this]
    congr 1
    obtain ⟨hn, e'⟩ := List.getElem?_eq_some_iff.mp e
    rw [← e', List.set_getElem_self]
  | none =>
    rw [q] at f
    have hk : k ∉ acc.map (·.1) := by simpa using f.symm
    have h1 : ¬ ((encT acc).any fun kv => decide (kv.1 = kyN k)) = true := by
      rw [Bool.not_eq_true, List.any_eq_false]
      intro x hx
      simp only [encT, List.mem_map] at hx
      obtain ⟨y, hy, rfl⟩ := hx
      simp only [decide_eq_true_eq]
      exact fun e => hk (List.mem_map.mpr ⟨y, hy, kyN_inj e⟩)
    refine ⟨nI v, ?_⟩
    simp only [dkPut, if_neg h1, sdN, if_neg hk]
    simp [encT]
def encI (acc : List (List Nat × Nat)) : List (List Key × Int) := acc.map fun q => (kyN q.1, (q.2 : Int))
theorem items_enc (acc : List (List Nat × Nat)) : itemsI (encT acc) = some (encI acc) := by
  induction acc with
  | nil => rfl
  | cons q acc ih => simp only [encT, List.map_cons, itemsI, encI] at ih ⊢; rw [ih]; rfl
theorem itD_enc (q : List Nat × Nat) : itD (kyN q.1, (q.2 : Int)) = .tuple [tD q.1, nd q.2] := by
  simp only [itD, tD, nd, kyN, List.map_map]
  rfl
/-- what the pairs sorted come to -/
noncomputable def mvV (acc : List (List Nat × Nat)) : List PV := ((encI acc).mergeSort (PySem.W.dataLe false itD)).map itP
theorem sortIt_r {h : List EO} {n : Nat} {acc : List (List Nat × Nat)} (e : h[n]? = some (.dit (encT acc))) (hl : acc.length ≤ 1000) : sortIt (.ref n) h = .ok (.p (.fl (mvV acc))) h := by
  have al : PySem.W.AllAlike ((encI acc).map itD) := by
    intro d hd d' hd'
    simp only [encI, List.map_map, List.mem_map] at hd hd'
    obtain ⟨x, _, rfl⟩ := hd
    obtain ⟨y, _, rfl⟩ := hd'
    simp only [Function.comp, itD_enc, PySem.W.alike, PySem.W.alikeAll, alike_tD, nd, Bool.and_true, Bool.true_and]
  have hl2 : (encI acc).length ≤ 1000 := by simpa [encI] using hl
  simp only [sortIt, e, items_enc]
  rw [if_pos ⟨hl2, al⟩]; rfl
theorem toD_itP (q : List Nat × Nat) : toD (itP (kyN q.1, (q.2 : Int))) = some (.tuple [tD q.1, nd q.2]) := by
  have e : (kyN q.1).map kPV = nP q.1 := by simp [kyN, nP, kPV]
  simp only [itP, e, toD, toDs, toDs_n]
  rfl
/-- all is small: the pairs can be shown -/
theorem mvV_data {acc : List (List Nat × Nat)} (h : ∀ q ∈ acc, (∀ a ∈ q.1, a < 16) ∧ q.1.length ≤ 16 ∧ q.2 < 16) (hl : acc.length ≤ 16) : ∃ ds, toDs (mvV acc) = some ds ∧ Pl 3 37136 (.list ds) := by
  have hp := List.mergeSort_perm (encI acc) (PySem.W.dataLe false itD)
  have hm : ∀ e ∈ (encI acc).mergeSort (PySem.W.dataLe false itD), ∃ q ∈ acc, e = (kyN q.1, (q.2 : Int)) := fun e he => by
    have := hp.mem_iff.mp he
    simp only [encI, List.mem_map] at this
    obtain ⟨q, hq, rfl⟩ := this
    exact ⟨q, hq, rfl⟩
  have hlen := hp.length_eq
  unfold mvV
  generalize (encI acc).mergeSort (PySem.W.dataLe false itD) = L at hm hlen
  have : ∃ ds, toDs (L.map itP) = some ds ∧ ds.length = L.length ∧ ∀ d ∈ ds, Pl 2 2320 d := by
    clear hlen
    induction L with
    | nil => exact ⟨[], rfl, rfl, by simp⟩
    | cons e L ih =>
      obtain ⟨ds, e1, e2, e3⟩ := ih fun x hx => hm x (List.mem_cons_of_mem _ hx)
      obtain ⟨q, hq, rfl⟩ := hm _ List.mem_cons_self
      obtain ⟨h1, h2, h3⟩ := h q hq
      refine ⟨.tuple [tD q.1, nd q.2] :: ds, ?_, by simp [e2], fun d hd => ?_⟩
      · simp only [List.map_cons, toDs, toD_itP, e1]
      · rcases List.mem_cons.mp hd with rfl | hd
        · refine pl_tup (w := 144) (fun d hd => ?_) (by simp)
          simp only [List.mem_cons, List.not_mem_nil, or_false] at hd
          rcases hd with rfl | rfl
          · exact pl_tD h1 h2
          · exact (pl_nd h3).up (by omega) (by omega)
        · exact e3 d hd
  obtain ⟨ds, e1, e2, e3⟩ := this
  refine ⟨ds, e1, pl_lst e3 ?_⟩
  rw [e2, hlen]
  simpa [encI] using hl
/-! texts compared -/
theorem Pl.sstr {k w : Nat} {d : PyData} (p : Pl k w d) : SeqAt.shaped (.str d.shown) = true := by
  have : PyData.strOk d.shown = true := by
    unfold PyData.strOk
    rw [← Array.all_toList, List.all_eq_true]
    exact fun c hc => decide_eq_true (p.so c hc)
  simp [SeqAt.shaped, PyData.canLay0, PyData.depth, this]
theorem ne_repr {h : List EO} {k w k2 w2 : Nat} {d e : PyData} (p : Pl k w d) (q : Pl k2 w2 e) : opData (fun d e => !PyData.eqv d e) (.p (.str d.shown)) (.p (.str e.shown)) h = .ok (.p (.bl (!(d.shown == e.shown)))) h := by
  simp only [opData, svD, toD, p.sstr, q.sstr, and_self, if_true]
  rfl
theorem ne_same {h : List EO} {k w : Nat} {d : PyData} (p : Pl k w d) : opData (fun d e => !PyData.eqv d e) (.p (.str d.shown)) (.p (.str d.shown)) h = .ok (.p (.bl false)) h := by
  rw [ne_repr p p]; simp
end EV
namespace K77
open PySem PySem.Spec L2 EV
section
variable {C : Cs} {T : Tb} {h : List EO} {a b c : Nat}
/-- parts led to, with the least that lead there -/
noncomputable def mvs (T : Tb) (l : List Nat) (L : List Nat) : List (List Nat × Nat) := L.foldl (fun acc b => sdN acc (ledL T l b) b) []
theorem mvs_ok {l L : List Nat} (hL : ∀ b ∈ L, b < T.n) : (mvs T l L).length ≤ L.length ∧ ∀ q ∈ mvs T l L, (∀ a ∈ q.1, a < T.n) ∧ q.1.length ≤ T.n ∧ q.2 < T.n := by
  have main : ∀ (L : List Nat) (acc : List (List Nat × Nat)), (∀ b ∈ L, b < T.n) → (∀ q ∈ acc, (∀ a ∈ q.1, a < T.n) ∧ q.1.length ≤ T.n ∧ q.2 < T.n) → (L.foldl (fun acc b => sdN acc (ledL T l b) b) acc).length ≤ acc.length + L.length ∧ ∀ q ∈ L.foldl (fun acc b => sdN acc (ledL T l b) b) acc, (∀ a ∈ q.1, a < T.n) ∧ q.1.length ≤ T.n ∧ q.2 < T.n := by
    intro L
    induction L with
    | nil => intro acc _ h; exact ⟨by simp, h⟩
    | cons b L ih =>
      intro acc hL h
      have hs : (sdN acc (ledL T l b) b).length ≤ acc.length + 1 ∧ ∀ q ∈ sdN acc (ledL T l b) b, (∀ a ∈ q.1, a < T.n) ∧ q.1.length ≤ T.n ∧ q.2 < T.n := by
        unfold sdN
        split
        · exact ⟨by omega, h⟩
        · refine ⟨by simp, fun q hq => ?_⟩
          rcases List.mem_append.mp hq with hq | hq
          · exact h q hq
          · simp at hq
            subst hq
            exact ⟨fun a ha => (mem_can.mp ha).1, can_len _ _, hL b (by simp)⟩
      have := ih (sdN acc (ledL T l b) b) (fun x hx => hL x (List.mem_cons_of_mem _ hx)) hs.2
      simp only [List.foldl_cons, List.length_cons]
      exact ⟨by omega, this.2⟩
  have := main L [] hL (by simp)
  simpa [mvs] using this
theorem mvs_snoc {l d : List Nat} {b : Nat} : mvs T l (d ++ [b]) = sdN (mvs T l d) (ledL T l b) b := by simp [mvs]
theorem moves_of_r (O : T.Ok) {S : List Nat} (hS : ∀ s ∈ S, s < T.n) : cutR false h (F_moves_of C [.p (grp C T), tS (Tb.gen T S)] h) = .ok (.p (.fl (mvV (mvs T (Tb.gen T S) (List.range T.n))))) h := by
  have h8 := O.le
  have hz : (1000 : Nat) < sizeLine := by decide
  refine wfn ?_
  simp [m_moves_of, List.replicate, check_part_r O hS, eNewD]
  refine ws_for (L := List.range T.n) (e := nI) (h1 := h ++ [.dit []]) (rng1_r (n := T.n) (by simp [f_many]) (by omega)) (wk_r _ _) (fun d es h' => h' = h ++ [.dit (encT (mvs T (Tb.gen T S) d))] ∧ ∃ x, es = [some (.p (grp C T)), some (tS (Tb.gen T S)), some (.ref h.length), x]) (P := fun _ => True) (fun _ _ _ _ => trivial) ⟨rfl, _, rfl⟩ ?_ ?_
  · rintro d b t es h' el ⟨rfl, x, rfl⟩
    have hm : ∀ b ∈ d, b < T.n := fun b hb => by
      have : b ∈ List.range T.n := by rw [el]; simp [hb]
      simpa using this
    have hb : b < T.n := by
      have : b ∈ List.range T.n := by rw [el]; simp
      simpa using this
    have hdl : d.length ≤ T.n := by
      have := congrArg List.length el
      simp at this; omega
    obtain ⟨h1, h2⟩ := mvs_ok (l := Tb.gen T S) hm
    obtain ⟨r, hr⟩ := setd_r (k := ledL T (Tb.gen T S) b) (v := b) (g0 : (h ++ EO.dit (encT (mvs T (Tb.gen T S) d)) :: [])[h.length]? = _) (by omega)
    have ty := ty_dit (g0 : (h ++ EO.dit (encT (mvs T (Tb.gen T S) d)) :: [])[h.length]? = _)
    simp at hr
    simp [ty, led_lot_g O hb, hr, mvs_snoc]
  · rintro es h' ⟨rfl, x, rfl⟩
    obtain ⟨h1, h2⟩ := mvs_ok (T := T) (l := Tb.gen T S) (L := List.range T.n) (by simp)
    simp at h1
    have := sortIt_r (g0 : (h ++ EO.dit (encT (mvs T (Tb.gen T S) (List.range T.n))) :: [])[h.length]? = _) (by omega)
    simp [eSortIt, this, cutE_p]
end
end K77

-- M14
/-! M14: what is none: NoPart. -/
namespace K77
open PySem PySem.Spec L2 EV
section
variable {C : Cs} {T : Tb} {h : List EO} {a b c : Nat}
def bads (n : Nat) : List PV := [.non, .tup [], .tup [.int n], .fl [.int 0], .tup [.int 0, .int 0], .int 0, .tup [.bl true]]
theorem is_lot_nt {p : PV} {t : String} (e : tyN h (.p p) = some t) (k : kitB t "tuple" = some false) : cutR false h (F_is_lot C [.p (grp C T), .p p] h) = .ok (.p (.bl false)) h := by
  have e0 := is_tuple_no (C := C) (h := h) e k 0 (T.n : Nat)
  refine wfn ?_
  simp [m_is_lot, List.replicate, f_many, e0]
/-- whether it is a member -/
def inw (n : Nat) : PV → Bool
  | .int i => decide (0 ≤ i) && decide (i ≤ (n : Int) - 1)
  | _ => false
theorem within_g (x : PV) (hx : (∃ i, x = .int i) ∨ ∃ b, x = .bl b) : cutR false h (F_is_within C [.p x, .p (.int 0), .p (.int ((T.n : Int) - 1))] h) = .ok (.p (.bl (inw T.n x))) h := by
  rcases hx with ⟨i, rfl⟩ | ⟨b, rfl⟩
  · rw [within_r]; rfl
  · rw [within_bl]; rfl
theorem is_lot_nw {xs : List PV} (hx : ∀ x ∈ xs, (∃ i, x = .int i) ∨ ∃ b, x = .bl b) (hw : xs.all (inw T.n) = false) (hl : xs.length ≤ 1000) : cutR false h (F_is_lot C [.p (grp C T), .p (.tup xs)] h) = .ok (.p (.bl false)) h := by
  have hz : (1000 : Nat) < sizeLine := by decide
  have e0 := is_tuple_r (C := C) (h := h) (xs := xs) 0 (T.n : Nat)
  refine wfn ?_
  simp [m_is_lot, List.replicate, f_many, e0]
  by_cases q : xs.length ≤ T.n
  · simp [q]
    refine wx_la (L := xs) (e := SV.p) (fun x => .bl (inw T.n x)) (iSeqT (by simp)) (wk_p _ _) (by omega) (fun x acc hx' => ⟨_, rfl, ?_⟩) ?_
    · have := within_g (C := C) (T := T) (h := h ++ [.lst acc]) x (hx x hx')
      simp [ewipe, f_many, opInt, this]
    · simp only [all_fl, hw]
      simp
  · simp [q]
theorem is_part_no {p : PV} (hp : p ∈ bads T.n) : cutR false h (F_is_part C [.p (grp C T), .p p] h) = .ok (.p (.bl false)) h := by
  have hz : (1000 : Nat) < sizeLine := by decide
  have main : cutR false h (F_is_lot C [.p (grp C T), .p p] h) = .ok (.p (.bl false)) h → cutR false h (F_is_part C [.p (grp C T), .p p] h) = .ok (.p (.bl false)) h := by
    intro e
    refine wfn ?_
    simp [m_is_part, List.replicate, e]
  simp only [bads, List.mem_cons, List.not_mem_nil, or_false] at hp
  rcases hp with rfl | rfl | rfl | rfl | rfl | rfl | rfl
  · exact main (is_lot_nt rfl knt)
  · have e0 := is_tuple_r (C := C) (h := h) (xs := []) 0 (T.n : Nat)
    have e1 : cutR false h (F_is_lot C [.p (grp C T), .p (.tup [])] h) = .ok (.p (.bl true)) h := by
      refine wfn ?_
      simp at e0
      simp [m_is_lot, List.replicate, f_many, e0]
      refine wx_la (L := ([] : List PV)) (e := SV.p) (fun x => .bl true) (iSeqT (by simp)) (wk_p _ _) (by simp) (by simp) ?_
      simp only [all_fl]
      simp
      refine wx_la (L := ([] : List PV)) (e := SV.p) (fun x => .bl true) (w := (nxtZ [] [], 1)) (h1 := h) ?_ ⟨by simp, fun h' _ i _ => by simp [nxtZ]⟩ (by simp) (by simp) ?_
      · simp [iZp, eSl, oSome, oNone, slF, tupOf, HT.sIx]
      · simp only [all_fl]
        simp
    refine wfn ?_
    simp [m_is_part, List.replicate, e1]
  · refine main (is_lot_nw (by simp) ?_ (by simp))
    simp [inw]; omega
  · exact main (is_lot_nt rfl klt)
  · by_cases q : T.n ≤ 1
    · have e0 := is_tuple_r (C := C) (h := h) (xs := [.int 0, .int 0]) 0 (T.n : Nat)
      refine main (wfn ?_)
      have q2 : ¬ (2 : Int) ≤ T.n := by omega
      simp [q2] at e0
      simp [m_is_lot, List.replicate, f_many, e0]
    · have e0 := is_tuple_r (C := C) (h := h) (xs := [.int 0, .int 0]) 0 (T.n : Nat)
      refine main (wfn ?_)
      have q2 : (2 : Int) ≤ T.n := by omega
      simp [q2] at e0
      simp [m_is_lot, List.replicate, f_many, e0]
      refine wx_la (L := [PV.int 0, .int 0]) (e := SV.p) (fun x => .bl true) (iSeqT (by simp)) (wk_p _ _) (by simp) (fun x acc hx' => ⟨_, rfl, ?_⟩) ?_
      · simp at hx'
        subst hx'
        have := within_g (C := C) (T := T) (h := h ++ [.lst acc]) (.int 0) (.inl ⟨_, rfl⟩)
        have q3 : inw T.n (.int 0) = true := by simp [inw]; omega
        rw [q3] at this
        simp [ewipe, f_many, opInt, this]
      simp only [all_fl]
      simp
      refine wx_la (L := [PV.tup [.int 0, .int 0]]) (e := SV.p) (fun x => .bl false) (w := (nxtZ [.int 0, .int 0] [.int 0], 3)) (h1 := h) ?_ ⟨by simp, fun h' _ i hi => ?_⟩ (by simp) ?_ ?_
      · have : slF false (.p (.tup [.int 0, .int 0])) (some 1) none h = .ok (.p (.tup [.int 0])) h := by simpa [nP] using sl1 (h := h) (l := [0, 0])
        simp [iZp, eSl, oSome, oNone, this, tupOf]
      · simp at hi
        rcases i with _ | _ | i
        · rfl
        · rfl
        · omega
      · intro x acc hx'
        simp at hx'
        subst hx'
        exact ⟨_, rfl, by simp [ewipe]⟩
      · simp only [all_fl]
        simp
  · exact main (is_lot_nt rfl kit)
  · refine main (is_lot_nw (by simp) ?_ (by simp))
    simp [inw]
theorem check_part_no {p : PV} (hp : p ∈ bads T.n) : cutR false h (F_check_part C [.p (grp C T), .p p] h) = .exc C.NoPart [] h := by
  refine wfn ?_
  simp [m_check_part, List.replicate, is_part_no hp]
theorem no1 {p : PV} (hp : p ∈ bads T.n) : cutR false h (F_led_together C [.p (grp C T), .p p] h) = .exc C.NoPart [] h := by
  refine wfn ?_
  simp [m_led_together, List.replicate, check_part_no hp]
theorem no2 {p : PV} (hp : p ∈ bads T.n) : cutR false h (F_led_within C [.p (grp C T), .p p] h) = .exc C.NoPart [] h := by
  refine wfn ?_
  simp [m_led_within, List.replicate, check_part_no hp]
theorem no3 {p : PV} (hp : p ∈ bads T.n) : cutR false h (F_keeps_leading C [.p (grp C T), .p p] h) = .exc C.NoPart [] h := by
  refine wfn ?_
  simp [m_keeps_leading, List.replicate, no1 hp]
theorem no4 {p : PV} (hp : p ∈ bads T.n) : cutR false h (F_differences C [.p (grp C T), .p p] h) = .exc C.NoPart [] h := by
  refine wfn ?_
  simp [m_differences, List.replicate, check_part_no hp]
theorem no5 {p : PV} (hp : p ∈ bads T.n) : cutR false h (F_moves_of C [.p (grp C T), .p p] h) = .exc C.NoPart [] h := by
  refine wfn ?_
  simp [m_moves_of, List.replicate, check_part_no hp]
end
end K77

-- M15
/-! M15: the hand, what is drawn. -/
namespace EV
open PySem PySem.Spec L2
structure HS where
  nums : List Int
  pos : Int
  gr : Int
  mix : Int
  cnt : Int
def HS.o (s : HS) : EO := .lst [.p (.fl (s.nums.map .int)), .p (.int s.pos), .p (.int s.gr), .p (.int s.mix), .p (.int s.cnt)]
/-- a heap that holds the hand at n -/
structure HH (h : List EO) (n : Nat) (s : HS) : Prop where
  at_ : h[n]? = some s.o
  pos : 0 ≤ s.pos
  bel : h.all (EO.below h.length) = true
section
variable {h : List EO} {n : Nat} {s : HS} {v : Int}
theorem HH.lt (H : HH h n s) : n < h.length := (List.getElem?_eq_some_iff.mp H.at_).1
theorem HH.is (H : HH h n s) : h.set n s.o = h := by
  obtain ⟨a, e⟩ := List.getElem?_eq_some_iff.mp H.at_
  rw [← e, List.set_getElem_self]
theorem setH_get (hn : n < h.length) : (h.set n s.o)[n]? = some s.o := by simp [hn]
section
variable (hn : n < h.length)
include hn
theorem rd0 : ixF (.ref n) (.p (.int 0)) (h.set n s.o) = .ok (.p (.fl (s.nums.map .int))) (h.set n s.o) := by
  have := ix_seq_r (h := h.set n s.o) (i := 0) (seq_ref (setH_get (s := s) hn)) rfl
  simpa using this
theorem rd1 : ixF (.ref n) (.p (.int 1)) (h.set n s.o) = .ok (.p (.int s.pos)) (h.set n s.o) := by
  have := ix_seq_r (h := h.set n s.o) (i := 1) (seq_ref (setH_get (s := s) hn)) rfl
  simpa using this
theorem rd2 : ixF (.ref n) (.p (.int 2)) (h.set n s.o) = .ok (.p (.int s.gr)) (h.set n s.o) := by
  have := ix_seq_r (h := h.set n s.o) (i := 2) (seq_ref (setH_get (s := s) hn)) rfl
  simpa using this
theorem rd3 : ixF (.ref n) (.p (.int 3)) (h.set n s.o) = .ok (.p (.int s.mix)) (h.set n s.o) := by
  have := ix_seq_r (h := h.set n s.o) (i := 3) (seq_ref (setH_get (s := s) hn)) rfl
  simpa using this
theorem rd4 : ixF (.ref n) (.p (.int 4)) (h.set n s.o) = .ok (.p (.int s.cnt)) (h.set n s.o) := by
  have := ix_seq_r (h := h.set n s.o) (i := 4) (seq_ref (setH_get (s := s) hn)) rfl
  simpa using this
theorem wr1 : setF (.ref n) (.p (.int 1)) (.p (.int v)) (h.set n s.o) = .ok () (h.set n { s with pos := v }.o) := by
  simp [setF, hn, HS.o, ixN]
theorem wr2 : setF (.ref n) (.p (.int 2)) (.p (.int v)) (h.set n s.o) = .ok () (h.set n { s with gr := v }.o) := by
  simp [setF, hn, HS.o, ixN]
theorem wr3 : setF (.ref n) (.p (.int 3)) (.p (.int v)) (h.set n s.o) = .ok () (h.set n { s with mix := v }.o) := by
  simp [setF, hn, HS.o, ixN]
theorem wr4 : setF (.ref n) (.p (.int 4)) (.p (.int v)) (h.set n s.o) = .ok () (h.set n { s with cnt := v }.o) := by
  simp [setF, hn, HS.o, ixN]
end
theorem below_set (H : HH h n s) (s2 : HS) : (h.set n s2.o).all (EO.below h.length) = true := by
  rw [List.all_eq_true]
  intro o ho
  rcases List.mem_or_eq_of_mem_set ho with q | rfl
  · exact (List.all_eq_true.mp H.bel) o q
  · simp [HS.o, EO.below, EO.vals, SV.below]
theorem HH.step (H : HH h n s) {s2 : HS} (p : 0 ≤ s2.pos) : HH (h.set n s2.o) n s2 :=
  ⟨by simp [H.lt], p, by simpa using below_set H s2⟩
theorem cutR_set (H : HH h n s) (s2 : HS) (p : PV) : cutR false h (.ok (.p p) (h.set n s2.o)) = .ok (.p p) (h.set n s2.o) := by
  have hb := below_set H s2
  have hc : Cut h (h.set n s2.o) := ⟨by simp, .inr (by
    rw [List.take_of_length_le (by simp)]
    exact hb)⟩
  simp only [cutR, hc, if_true, Bool.false_eq_true, if_false]
  rw [List.take_of_length_le (by simp)]
theorem len_flm {γ : Type} {l : List γ} {f : γ → PV} : lenK (.p (.fl (l.map f))) h = .ok (.p (.int l.length)) h := by simp
theorem ix_flm {γ : Type} {l : List γ} {f : γ → PV} {i : Int} {x : γ} (hi : 0 ≤ i) (e : l[i.toNat]? = some x) : ixF (.p (.fl (l.map f))) (.p (.int i)) h = .ok (.p (f x)) h := by
  obtain ⟨k, rfl⟩ := Int.eq_ofNat_of_zero_le hi
  exact ix_seq_r rfl (by simp at e; simp [e])
theorem mulC_r {a b : Int} (q : b.natAbs < 2 ^ 63) : mulC a b = true := decide_eq_true (.inr q)
theorem mulC_l {a b : Int} (q : a.natAbs < 2 ^ 63) : mulC a b = true := decide_eq_true (.inl q)
theorem fmod_range {a b : Int} (hb : 0 < b) : ∃ d : Nat, a.fmod b = d ∧ d < b.toNat := by
  have h1 := Int.fmod_nonneg_of_pos a hb
  have h2 := Int.fmod_lt_of_pos a hb
  exact ⟨(a.fmod b).toNat, by omega, by omega⟩
end
end EV
namespace K77
open PySem PySem.Spec L2 EV
section
variable {C : Cs} {h : List EO} {n : Nat} {s : HS} {m : Nat}
def draw2 : MS :=
  (sSeq (sIf (tB_ (eBin opGt (eBin ixF (eVar 0) (eC (.int 2))) (eC (.int 0)))) (sSeq (sSet 3 (eBin opMod (eCall (f1 intK) (aCons (eBin ixF (eVar 0) (eC (.int 2))) aNil)) (eVar 1))) (sSeq (sAsg (gSb (eVar 0) (eC (.int 2))) (eBin opFdiv (eBin ixF (eVar 0) (eC (.int 2))) (eVar 1))) (sRet (eVar 3)))) sNil) (sSeq (sAsg (gSb (eVar 0) (eC (.int 4))) (eBin (opAdd false) (eBin ixF (eVar 0) (eC (.int 4))) (eC (.int 1)))) (sSeq (sSet 4 (eBin opMod (eCall (f1 intK) (aCons (eBin (opMul false) (eCall (f1 intK) (aCons (eBin (opAdd false) (eBin ixF (eVar 0) (eC (.int 3))) (eBin (opMul false) (eC (.int 7919)) (eBin ixF (eVar 0) (eC (.int 4))))) aNil)) (eC (.int 40692))) aNil)) (eC (.int 2147483647)))) (sSeq (sSet 4 (eBin opMod (eCall (f1 intK) (aCons (eBin (opMul false) (eVar 4) (eBin (opAdd false) (eBin opFdiv (eVar 4) (eC (.int 1009))) (eC (.int 69621)))) aNil)) (eC (.int 2147483647)))) (sSeq (sSet 4 (eBin opMod (eCall (f1 intK) (aCons (eBin (opMul false) (eVar 4) (eBin (opAdd false) (eBin opFdiv (eVar 4) (eC (.int 2003))) (eC (.int 40014)))) aNil)) (eC (.int 2147483563)))) (sRet (eBin opMod (eCall (f1 intK) (aCons (eBin opFdiv (eVar 4) (eC (.int 16))) aNil)) (eVar 1))))))))
theorem ws_rt_imp {r : SRes} {R : SV → List EO → Prop} {D : Ps} (q : Ws r ⟨fun _ _ => False, R, fun _ _ => False, fun _ _ => False, fun _ _ _ => False⟩) (f : ∀ x h, R x h → D.rt x h) : Ws r D := by
  cases q with
  | nx q => exact q.elim
  | rt q => exact .rt (f _ _ q)
  | bk q => exact q.elim
  | ct q => exact q.elim
  | exc q => exact q.elim
theorem draw_r (H : HH h n s) (hm : 0 < m) (hm2 : m < 1000) : ∃ (d : Nat) (s2 : HS), d < m ∧ 0 ≤ s2.pos ∧ cutR false h (F_law_draw C [.ref n, nI m] h) = .ok (nI d) (h.set n s2.o) := by
  have hn := H.lt
  have hs := H.is
  have hm0 : ((m : Nat) : Int) ≠ 0 := by omega
  have hmb : ((m : Nat) : Int).natAbs < 1073741824 := by omega
  have hp := H.pos
  have half : ∀ s : HS, 0 ≤ s.pos → ∃ (d : Nat) (s2 : HS), d < m ∧ 0 ≤ s2.pos ∧ ∀ x y z, Ws (draw2 [some (.ref n), some (nI m), x, y, z] (h.set n s.o)) ⟨fun _ _ => False, fun x h1 => x = nI d ∧ h1 = h.set n s2.o, fun _ _ => False, fun _ _ => False, fun _ _ _ => False⟩ := by
    intro s hp
    by_cases hg : 0 < s.gr
    · obtain ⟨d, e1, hd⟩ := fmod_range (a := s.gr) (b := (m : Nat)) (by omega)
      refine ⟨d, { s with gr := s.gr.fdiv m }, by omega, hp, fun x y z => ?_⟩
      simp [draw2, rd2 hn, hg, mod_r hm0, fdiv_r hm0 hmb, e1, wr2 hn]
    · have m1 : ∀ x, mulC 7919 x = true := fun x => mulC_l (by decide)
      have m2 : ∀ x, mulC x 40692 = true := fun x => mulC_r (by decide)
      obtain ⟨d1, e1, hd1⟩ := fmod_range (a := (s.mix + 7919 * (s.cnt + 1)) * 40692) (b := 2147483647) (by omega)
      obtain ⟨d2, e2, hd2⟩ := fmod_range (a := (d1 : Int) * ((d1 : Int).fdiv 1009 + 69621)) (b := 2147483647) (by omega)
      obtain ⟨d3, e3, hd3⟩ := fmod_range (a := (d2 : Int) * ((d2 : Int).fdiv 2003 + 40014)) (b := 2147483563) (by omega)
      obtain ⟨d, e4, hd⟩ := fmod_range (a := (d3 : Int).fdiv 16) (b := (m : Nat)) (by omega)
      have m3 : ∀ x, mulC (d1 : Nat) x = true := fun x => mulC_l (by simp at hd1 ⊢; omega)
      have m4 : ∀ x, mulC (d2 : Nat) x = true := fun x => mulC_l (by simp at hd2 ⊢; omega)
      refine ⟨d, { s with cnt := s.cnt + 1 }, by omega, hp, fun x y z => ?_⟩
      have f1 : (1009 : Int).natAbs < 1073741824 := by decide
      have f2 : (2003 : Int).natAbs < 1073741824 := by decide
      have f3 : (16 : Int).natAbs < 1073741824 := by decide
      simp [draw2, rd2 hn, hg, rd3 hn, rd4 hn, wr4 hn, mul_r (m1 _), mul_r (m2 _), mul_r (m3 _), mul_r (m4 _), mod_r (b := 2147483647) (by decide), mod_r (b := 2147483563) (by decide), fdiv_r (b := 1009) (by decide) f1, fdiv_r (b := 2003) (by decide) f2, fdiv_r (b := 16) (by decide) f3, mod_r hm0, e1, e2, e3, e4]
  have e : m_law_draw C = sSeq (sIf (tAnd_ (tB_ (eBin cEq (eBin ixF (eVar 0) (eC (.int 2))) (eC (.int 0)))) (tB_ (eBin opLt (eBin ixF (eVar 0) (eC (.int 1))) (eCall (f1 lenK) (aCons (eBin ixF (eVar 0) (eC (.int 0))) aNil))))) (sSeq (sSet 2 (eBin ixF (eBin ixF (eVar 0) (eC (.int 0))) (eBin ixF (eVar 0) (eC (.int 1))))) (sSeq (sAsg (gSb (eVar 0) (eC (.int 1))) (eBin (opAdd false) (eBin ixF (eVar 0) (eC (.int 1))) (eC (.int 1)))) (sSeq (sAsg (gSb (eVar 0) (eC (.int 3))) (eBin opMod (eCall (f1 intK) (aCons (eBin (opAdd false) (eBin (opAdd false) (eBin (opMul false) (eBin ixF (eVar 0) (eC (.int 3))) (eC (.int 69621))) (eBin (opMul false) (eVar 2) (eC (.int 48271)))) (eC (.int 17))) aNil)) (eC (.int 2147483629)))) (sIf (tB_ (eBin opGe (eVar 2) (eBin opPow (eC (.int 10)) (eC (.int 18))))) (sAsg (gSb (eVar 0) (eC (.int 2))) (eVar 2)) sNil)))) sNil) draw2 := rfl
  have eqi : ∀ (h : List EO) (a b : Int), opData PyData.eqv (.p (.int a)) (.p (.int b)) h = .ok (.p (.bl (decide (a = b)))) h := fun h a b => by
    simp [opData, svD, toD, SeqAt.shaped, PyData.canLay0, PyData.depth, PyData.eqv]
    by_cases q : a = b <;> simp [q]
  have m5 : ∀ x, mulC x 69621 = true := fun x => mulC_r (by decide)
  have m6 : ∀ x, mulC x 48271 = true := fun x => mulC_r (by decide)
  by_cases hc : s.gr = 0 ∧ s.pos < s.nums.length
  · obtain ⟨cell, hcell⟩ : ∃ c, s.nums[s.pos.toNat]? = some c := ⟨_, List.getElem?_eq_getElem (by omega)⟩
    obtain ⟨d1, e1, hd1⟩ := fmod_range (a := s.mix * 69621 + cell * 48271 + 17) (b := 2147483629) (by omega)
    have hx := fun h => ix_flm (h := h) (f := PV.int) (l := s.nums) hp hcell
    have pw : (10 : Int) ^ 18 = 1000000000000000000 := by decide +kernel
    by_cases hbig : (1000000000000000000 : Int) ≤ cell
    · obtain ⟨d, s2, h1, h2, h3⟩ := half { s with pos := s.pos + 1, mix := d1, gr := cell } (by simp; omega)
      refine ⟨d, s2, h1, h2, wfn ?_⟩
      have h3 := h3 (some (.p (.int cell))) none none
      rw [e, ← hs]
      refine ws_rt_imp (R := fun x h1 => x = nI d ∧ h1 = h.set n s2.o) ?_ (fun x h1 ⟨q1, q2⟩ => by subst q1 q2; simp [List.set_set]; rw [hs]; exact cutR_set H s2 _)
      rw [ws_seq]
      simp [List.replicate, rd0 hn, rd1 hn, rd2 hn, rd3 hn, wr1 hn, wr2 hn, wr3 hn, eqi, hc.1, hc.2, hx, mul_r (m5 _), mul_r (m6 _), mod_r (b := 2147483629) (by decide), e1, opInt, pw, hbig]
      exact h3
    · obtain ⟨d, s2, h1, h2, h3⟩ := half { s with pos := s.pos + 1, mix := d1, gr := 0 } (by simp; omega)
      refine ⟨d, s2, h1, h2, wfn ?_⟩
      have h3 := h3 (some (.p (.int cell))) none none
      rw [e, ← hs]
      refine ws_rt_imp (R := fun x h1 => x = nI d ∧ h1 = h.set n s2.o) ?_ (fun x h1 ⟨q1, q2⟩ => by subst q1 q2; simp [List.set_set]; rw [hs]; exact cutR_set H s2 _)
      rw [ws_seq]
      simp [List.replicate, rd0 hn, rd1 hn, rd2 hn, rd3 hn, wr1 hn, wr2 hn, wr3 hn, eqi, hc.1, hc.2, hx, mul_r (m5 _), mul_r (m6 _), mod_r (b := 2147483629) (by decide), e1, opInt, pw, hbig]
      exact h3
  · obtain ⟨d, s2, h1, h2, h3⟩ := half s hp
    refine ⟨d, s2, h1, h2, wfn ?_⟩
    have h3 := h3 none none none
    rw [e, ← hs]
    refine ws_rt_imp (R := fun x h1 => x = nI d ∧ h1 = h.set n s2.o) ?_ (fun x h1 ⟨q1, q2⟩ => by subst q1 q2; simp [List.set_set]; rw [hs]; exact cutR_set H s2 _)
    rw [ws_seq]
    by_cases g0 : s.gr = 0
    · have q : ¬ s.pos < s.nums.length := fun q => hc ⟨g0, q⟩
      simp [List.replicate, rd0 hn, rd1 hn, rd2 hn, eqi, g0, q]
      exact h3
    · simp [List.replicate, rd2 hn, eqi, g0]
      exact h3
end
end K77

-- N2
/-! N2: the same, with what is left to do as names. -/
namespace EV
open PySem PySem.Spec L2
abbrev QV := SV → List EO → Prop
section
variable {α β : Type} {E : ExP} {Q : QV} {QB : Bool → List EO → Prop} {QA : List SV → List EO → Prop} {QO : Option Int → List EO → Prop} {QE : Es → List EO → Prop} {D : Ps} {es es1 es2 : Es} {h h1 h2 : List EO} {C : Addr} {fs : List (Str × PV)}
variable {f g fa fb fc fo fi fe : ME} {ga : MA} {k k2 : F2} {t u : MT} {s s1 s2 : MS} {i j l n : Nat} {x y z : SV} {xs : List SV} {b : Bool} {mg : MG} {gs : MGs} {fl fh : MO} {mu : Bool}
/-! one value more -/
def kG (g : α → List EO → Res β) (E : ExP) (Q : β → List EO → Prop) : α → List EO → Prop := fun x h => Wx (g x h) E Q
@[simp] theorem kG_r {g : α → List EO → Res β} {Q : β → List EO → Prop} {x : α} : kG g E Q x h = Wx (g x h) E Q := rfl
def kBin (f : F2) (fb : ME) (es : Es) (E : ExP) (Q : QV) : QV := fun x h1 => Wx (fb es h1) E (kG (f x) E Q)
@[simp] theorem kBin_r : kBin k fb es E Q x h = Wx (fb es h) E (kG (k x) E Q) := rfl
@[simp ↓] theorem wx_bin : Wx (eBin k fa fb es h) E Q = Wx (fa es h) E (kBin k fb es E Q) := by
  simp only [eBin_r, wx_bind]; rfl
@[simp ↓] theorem wx_tB : Wx (tB_ f es h) E QB = Wx (f es h) E (kG asB E QB) := by
  simp only [tB_r, wx_bind]; rfl
def kC4 (k2 : F2) (y : SV) (fc : ME) (es : Es) (E : ExP) (Q : QV) : Bool → List EO → Prop := fun b h => if b = true then Wx (fc es h) E (kG (k2 y) E Q) else Q (.p (.bl false)) h
def kC3 (k2 : F2) (y : SV) (fc : ME) (es : Es) (E : ExP) (Q : QV) : QV := fun z h => Wx (asB z h) E (kC4 k2 y fc es E Q)
def kC2 (k k2 : F2) (x : SV) (fc : ME) (es : Es) (E : ExP) (Q : QV) : QV := fun y h => Wx (k x y h) E (kC3 k2 y fc es E Q)
def kC1 (k k2 : F2) (fb fc : ME) (es : Es) (E : ExP) (Q : QV) : QV := fun x h => Wx (fb es h) E (kC2 k k2 x fc es E Q)
@[simp] theorem kC1_r : kC1 k k2 fb fc es E Q x h = Wx (fb es h) E (kC2 k k2 x fc es E Q) := rfl
@[simp] theorem kC2_r : kC2 k k2 x fc es E Q y h = Wx (k x y h) E (kC3 k2 y fc es E Q) := rfl
@[simp] theorem kC3_r : kC3 k2 y fc es E Q z h = Wx (asB z h) E (kC4 k2 y fc es E Q) := rfl
@[simp] theorem kC4_r : kC4 k2 y fc es E Q b h = if b = true then Wx (fc es h) E (kG (k2 y) E Q) else Q (.p (.bl false)) h := rfl
@[simp ↓] theorem wx_chain : Wx (eChain k k2 fa fb fc es h) E Q = Wx (fa es h) E (kC1 k k2 fb fc es E Q) := by
  simp only [eChain_r, wx_bind]
  congr 1; funext x h1
  simp only [kC1_r]
  congr 1; funext y h2
  simp only [kC2_r]
  congr 1; funext z h3
  simp only [kC3_r]
  unfold asB
  split
  · simp; rfl
  · simp
  · rename_i h1 h2
    split
    · rename_i b; cases b
      · exact absurd rfl h2
      · exact absurd rfl h1
    · rw [wx_bad, wx_bad]
def kTa (u : MT) (es : Es) (E : ExP) (Q : Bool → List EO → Prop) : Bool → List EO → Prop := fun b h => if b = true then Wx (u es h) E Q else Q false h
@[simp] theorem kTa_r : kTa u es E QB b h = if b = true then Wx (u es h) E QB else QB false h := rfl
@[simp ↓] theorem wx_tAnd : Wx (tAnd_ t u es h) E QB = Wx (t es h) E (kTa u es E QB) := by
  simp only [tAnd_r, wx_bind, wx_if, wx_ok]; rfl
def kTo (u : MT) (es : Es) (E : ExP) (Q : Bool → List EO → Prop) : Bool → List EO → Prop := fun b h => if b = true then Q true h else Wx (u es h) E Q
@[simp] theorem kTo_r : kTo u es E QB b h = if b = true then QB true h else Wx (u es h) E QB := rfl
@[simp ↓] theorem wx_tOr : Wx (tOr_ t u es h) E QB = Wx (t es h) E (kTo u es E QB) := by
  simp only [tOr_r, wx_bind, wx_if, wx_ok]; rfl
def kTn (Q : Bool → List EO → Prop) : Bool → List EO → Prop := fun b h => Q (!b) h
@[simp] theorem kTn_r : kTn QB b h = QB (!b) h := rfl
@[simp ↓] theorem wx_tNot : Wx (tNot_ t es h) E QB = Wx (t es h) E (kTn QB) := by
  simp only [tNot_r, wx_bind, wx_ok]; rfl
def kBl (Q : QV) : Bool → List EO → Prop := fun b h => Q (.p (.bl (!b))) h
@[simp] theorem kBl_r : kBl Q b h = Q (.p (.bl (!b))) h := rfl
@[simp ↓] theorem wx_not : Wx (eNot fa es h) E Q = Wx (fa es h) E (kG asB E (kBl Q)) := by
  simp only [eNot_r, wx_bind, wx_ok]; rfl
def kAnd (fb : ME) (es : Es) (E : ExP) (Q : QV) : Bool → List EO → Prop := fun b h => if b = true then Wx (fb es h) E Q else Q (.p (.bl false)) h
@[simp] theorem kAnd_r : kAnd fb es E Q b h = if b = true then Wx (fb es h) E Q else Q (.p (.bl false)) h := rfl
@[simp ↓] theorem wx_eand : Wx (eAnd fa fb es h) E Q = Wx (fa es h) E (kG asB E (kAnd fb es E Q)) := by
  simp only [eAnd_r, wx_bind, wx_if, wx_ok]; rfl
def kOr (fb : ME) (es : Es) (E : ExP) (Q : QV) : Bool → List EO → Prop := fun b h => if b = true then Q (.p (.bl true)) h else Wx (fb es h) E Q
@[simp] theorem kOr_r : kOr fb es E Q b h = if b = true then Q (.p (.bl true)) h else Wx (fb es h) E Q := rfl
@[simp ↓] theorem wx_eor : Wx (eOr fa fb es h) E Q = Wx (fa es h) E (kG asB E (kOr fb es E Q)) := by
  simp only [eOr_r, wx_bind, wx_if, wx_ok]; rfl
def kIf (f g : ME) (es : Es) (E : ExP) (Q : QV) : Bool → List EO → Prop := fun b h => if b = true then Wx (f es h) E Q else Wx (g es h) E Q
@[simp] theorem kIf_r : kIf f g es E Q b h = if b = true then Wx (f es h) E Q else Wx (g es h) E Q := rfl
@[simp ↓] theorem wx_eif : Wx (eIf t f g es h) E Q = Wx (t es h) E (kIf f g es E Q) := by
  simp only [eIf_r, wx_bind, wx_if]; rfl
def kA2 (x : SV) (Q : List SV → List EO → Prop) : List SV → List EO → Prop := fun xs h => Q (x :: xs) h
@[simp] theorem kA2_r : kA2 x QA xs h = QA (x :: xs) h := rfl
def kA1 (ga : MA) (es : Es) (E : ExP) (Q : List SV → List EO → Prop) : QV := fun x h => Wx (ga es h) E (kA2 x Q)
@[simp] theorem kA1_r : kA1 ga es E QA x h = Wx (ga es h) E (kA2 x QA) := rfl
@[simp ↓] theorem wx_acons : Wx (aCons f ga es h) E QA = Wx (f es h) E (kA1 ga es E QA) := by
  simp only [aCons_r, wx_bind, wx_ok]; rfl
@[simp ↓] theorem wx_tup : Wx (eTup ga es h) E Q = Wx (ga es h) E (kG mkT E Q) := by
  simp only [eTup_r, wx_bind]; rfl
@[simp ↓] theorem wx_lst : Wx (eLst mu ga es h) E Q = Wx (ga es h) E (kG (mkL mu) E Q) := by
  simp only [eLst_r, wx_bind]; rfl
@[simp ↓] theorem wx_call {f : FC} : Wx (eCall f ga es h) E Q = Wx (ga es h) E (kG f E Q) := by
  simp only [eCall_r, wx_bind]; rfl
def kM (mu : Bool) (mir : MF) (E : ExP) (Q : QV) : List SV → List EO → Prop := fun xs h => Wx (cutR mu h (mir xs h)) E Q
@[simp] theorem kM_r {mir : MF} : kM mu mir E Q xs h = Wx (cutR mu h (mir xs h)) E Q := rfl
@[simp ↓] theorem wx_callM {mir : MF} : Wx (eCallM mu mir ga es h) E Q = Wx (ga es h) E (kM mu mir E Q) := by
  simp only [eCallM_r, wx_bind]; rfl
def kM1 (T : String) (m : FM) (ga : MA) (es : Es) (E : ExP) (Q : QV) : QV := fun x h => if tyS T x h = true then Wx (ga es h) E (kG (m x) E Q) else False
@[simp] theorem kM1_r {T : String} {m : FM} : kM1 T m ga es E Q x h = if tyS T x h = true then Wx (ga es h) E (kG (m x) E Q) else False := rfl
@[simp ↓] theorem wx_meth {T : String} {m : FM} : Wx (eM T m f ga es h) E Q = Wx (f es h) E (kM1 T m ga es E Q) := by
  simp only [eM_r, wx_bind, wx_if, wx_bad]; rfl
@[simp ↓] theorem wx_fld {fn : Str} : Wx (eFld C fn f es h) E Q = Wx (f es h) E (kG (fldK C fn) E Q) := by
  simp only [eFld_r, wx_bind]; rfl
def kS3 (mu : Bool) (x : SV) (lo : Option Int) (E : ExP) (Q : QV) : Option Int → List EO → Prop := fun hi h => Wx (slF mu x lo hi h) E Q
def kS2 (mu : Bool) (x : SV) (fh : MO) (es : Es) (E : ExP) (Q : QV) : Option Int → List EO → Prop := fun lo h => Wx (fh es h) E (kS3 mu x lo E Q)
def kS1 (mu : Bool) (fl fh : MO) (es : Es) (E : ExP) (Q : QV) : QV := fun x h => Wx (fl es h) E (kS2 mu x fh es E Q)
@[simp] theorem kS1_r : kS1 mu fl fh es E Q x h = Wx (fl es h) E (kS2 mu x fh es E Q) := rfl
@[simp] theorem kS2_r {lo : Option Int} : kS2 mu x fh es E Q lo h = Wx (fh es h) E (kS3 mu x lo E Q) := rfl
@[simp] theorem kS3_r {lo hi : Option Int} : kS3 mu x lo E Q hi h = Wx (slF mu x lo hi h) E Q := rfl
@[simp ↓] theorem wx_sl : Wx (eSl mu fa fl fh es h) E Q = Wx (fa es h) E (kS1 mu fl fh es E Q) := by
  simp only [eSl, wx_bind]; rfl
def intO (x : SV) (h : List EO) : Res (Option Int) := match x with
  | .p (.int i) => .ok (some i) h
  | _ => .bad
@[simp] theorem intO_r {i : Int} : intO (.p (.int i)) h = .ok (some i) h := rfl
@[simp ↓] theorem wx_osome : Wx (oSome f es h) E QO = Wx (f es h) E (kG intO E QO) := by
  simp only [oSome, wx_bind]; rfl
@[simp] theorem oNone_r : oNone es h = .ok none h := rfl
def negK (x : SV) (h : List EO) : Res SV := match x with
  | .p (.int i) => .ok (.p (.int (-i))) h
  | _ => .bad
@[simp] theorem negK_r {i : Int} : negK (.p (.int i)) h = .ok (.p (.int (-i))) h := rfl
@[simp ↓] theorem wx_neg : Wx (eNeg fa es h) E Q = Wx (fa es h) E (kG negK E Q) := by
  simp only [eNeg, wx_bind]; rfl
@[simp ↓] theorem wx_sortIt : Wx (eSortIt fo es h) E Q = Wx (fo es h) E (kG sortIt E Q) := by
  simp only [eSortIt, wx_bind]; rfl
def lrg2K (mu : Bool) (x y : SV) (h : List EO) : Res SV := match x, y with
  | .p (.int i), .p (.int j) => lrgK mu i j h
  | _, _ => .bad
@[simp] theorem lrg2K_r {a b : Int} : lrg2K mu (.p (.int a)) (.p (.int b)) h = lrgK mu a b h := rfl
@[simp ↓] theorem wx_lrg2 : Wx (eLrg2 mu fa fb es h) E Q = Wx (fa es h) E (kBin (lrg2K mu) fb es E Q) := by
  simp only [eLrg2, wx_bind]; rfl
def lrg1K (mu : Bool) (x : SV) (h : List EO) : Res SV := match x with
  | .p (.int j) => lrgK mu 0 j h
  | _ => .bad
@[simp] theorem lrg1K_r {b : Int} : lrg1K mu (.p (.int b)) h = lrgK mu 0 b h := rfl
@[simp ↓] theorem wx_lrg1 : Wx (eLrg1 mu fa es h) E Q = Wx (fa es h) E (kG (lrg1K mu) E Q) := by
  simp only [eLrg1, wx_bind]; rfl
theorem lrg_t {a b : Int} (r : RgOk a b) : lrgK true a b h = .ok (.ref h.length) (h ++ [.lst ((rgS a b).map .p)]) := by
  unfold lrgK
  rw [if_pos r, if_pos rfl]
theorem lrg_f {a b : Int} (r : RgOk a b) : lrgK false a b h = .ok (.p (.fl (rgS a b))) h := by
  unfold lrgK
  rw [if_pos r, if_neg (by decide)]
def trgK (x : SV) (h : List EO) : Res SV := match x with
  | .p (.int j) => if RgOk 0 j then .ok (.p (.tup (rgS 0 j))) h else .bad
  | _ => .bad
@[simp ↓] theorem wx_trg1 : Wx (eTrg1 fa es h) E Q = Wx (fa es h) E (kG trgK E Q) := by
  simp only [eTrg1, wx_bind]; rfl
theorem trg_r {b : Int} (r : RgOk 0 b) : trgK (.p (.int b)) h = .ok (.p (.tup (rgS 0 b))) h := by
  unfold trgK
  exact if_pos r
/-! statements -/
def Ps.thn (D : Ps) (g : MS) : Ps := ⟨fun es h => Ws (g es h) D, D.rt, D.bk, D.ct, D.ex⟩
@[simp] theorem thn_nx : (D.thn s).nx es h = Ws (s es h) D := rfl
@[simp] theorem thn_rt : (D.thn s).rt = D.rt := rfl
@[simp] theorem thn_bk : (D.thn s).bk = D.bk := rfl
@[simp] theorem thn_ct : (D.thn s).ct = D.ct := rfl
@[simp] theorem thn_ex : (D.thn s).ex = D.ex := rfl
@[simp ↓] theorem ws_seqT : Ws (sSeq s1 s2 es h) D = Ws (s1 es h) (D.thn s2) := ws_nbind
def kEx (es : Es) (D : Ps) : QV := fun _ h => D.nx es h
@[simp] theorem kEx_r : kEx es D x h = D.nx es h := rfl
@[simp ↓] theorem ws_expr : Ws (sExpr f es h) D = Wx (f es h) D.ex (kEx es D) := by
  simp only [sExpr_r, ws_sbind, ws_nx]; rfl
@[simp ↓] theorem ws_ret : Ws (sRet f es h) D = Wx (f es h) D.ex D.rt := by
  simp only [sRet_r, ws_sbind, ws_rt]
def kSif (s1 s2 : MS) (es : Es) (D : Ps) : Bool → List EO → Prop := fun b h => if b = true then Ws (s1 es h) D else Ws (s2 es h) D
@[simp] theorem kSif_r : kSif s1 s2 es D b h = if b = true then Ws (s1 es h) D else Ws (s2 es h) D := rfl
@[simp ↓] theorem ws_sif : Ws (sIf t s1 s2 es h) D = Wx (t es h) D.ex (kSif s1 s2 es D) := by
  simp only [sIf_r, ws_sbind, ws_if]; rfl
def kSet (i : Nat) (es : Es) (D : Ps) : QV := fun x h => D.nx (es.set i (some x)) h
@[simp] theorem kSet_r : kSet i es D x h = D.nx (es.set i (some x)) h := rfl
@[simp ↓] theorem ws_set : Ws (sSet i f es h) D = Wx (f es h) D.ex (kSet i es D) := by
  simp only [sSet_r, ws_sbind, ws_nx]; rfl
def kAsg (g : MG) (es : Es) (D : Ps) : QV := fun x h => Wx (g x es h) D.ex D.nx
@[simp] theorem kAsg_r : kAsg mg es D x h = Wx (mg x es h) D.ex D.nx := rfl
@[simp ↓] theorem ws_asg : Ws (sAsg mg f es h) D = Wx (f es h) D.ex (kAsg mg es D) := by
  simp only [sAsg_r, ws_sbind, ws_nx]; rfl
def kPar (i j : Nat) (es : Es) (D : Ps) : List SV → List EO → Prop := fun xs h => match xs with
  | [x, y] => D.nx ((es.set i (some x)).set j (some y)) h
  | _ => False
@[simp] theorem kPar_r : kPar i j es D [x, y] h = D.nx ((es.set i (some x)).set j (some y)) h := rfl
@[simp ↓] theorem ws_par : Ws (sPar i j ga es h) D = Wx (ga es h) D.ex (kPar i j es D) := by
  simp only [sPar_r, ws_sbind]
  congr 1; funext xs h1
  unfold kPar
  split <;> simp
def kPar3 (i j l : Nat) (es : Es) (D : Ps) : List SV → List EO → Prop := fun xs h => match xs with
  | [x, y, z] => D.nx (((es.set i (some x)).set j (some y)).set l (some z)) h
  | _ => False
@[simp] theorem kPar3_r : kPar3 i j l es D [x, y, z] h = D.nx (((es.set i (some x)).set j (some y)).set l (some z)) h := rfl
@[simp ↓] theorem ws_par3 : Ws (sPar3 i j l ga es h) D = Wx (ga es h) D.ex (kPar3 i j l es D) := by
  simp only [sPar3, ws_sbind]
  congr 1; funext xs h1
  unfold kPar3
  split <;> simp
def kUnp (n : Nat) (gs : MGs) (es : Es) (D : Ps) : List SV → List EO → Prop := fun xs h => if xs.length = n ∧ n ≤ sizeLine then Wx (gs xs es h) D.ex D.nx else False
@[simp] theorem kUnp_r : kUnp n gs es D xs h = if xs.length = n ∧ n ≤ sizeLine then Wx (gs xs es h) D.ex D.nx else False := rfl
@[simp ↓] theorem ws_unp : Ws (sUnp n gs ga es h) D = Wx (ga es h) D.ex (kUnp n gs es D) := by
  simp only [sUnp_r, ws_sbind, ws_if, ws_nx, ws_bad]; rfl
def kSb3 (es : Es) (Q : Es → List EO → Prop) : Unit → List EO → Prop := fun _ h => Q es h
@[simp] theorem kSb3_r {u : Unit} : kSb3 es QE u h = QE es h := rfl
def kSb2 (o x : SV) (es : Es) (E : ExP) (Q : Es → List EO → Prop) : QV := fun i h => Wx (setF o i x h) E (kSb3 es Q)
@[simp] theorem kSb2_r : kSb2 x y es E QE z h = Wx (setF x z y h) E (kSb3 es QE) := rfl
def kSb1 (fi : ME) (x : SV) (es : Es) (E : ExP) (Q : Es → List EO → Prop) : QV := fun o h => Wx (fi es h) E (kSb2 o x es E Q)
@[simp] theorem kSb1_r : kSb1 fi x es E QE y h = Wx (fi es h) E (kSb2 y x es E QE) := rfl
@[simp ↓] theorem wx_gSb : Wx (gSb fo fi x es h) E QE = Wx (fo es h) E (kSb1 fi x es E QE) := by
  simp only [gSb_r, wx_bind, wx_ok]; rfl
def kGs (gs : MGs) (xs : List SV) (E : ExP) (Q : Es → List EO → Prop) : Es → List EO → Prop := fun es h => Wx (gs xs es h) E Q
@[simp] theorem kGs_r : kGs gs xs E QE es h = Wx (gs xs es h) E QE := rfl
@[simp ↓] theorem wx_gsCons : Wx (gsCons mg gs (x :: xs) es h) E QE = Wx (mg x es h) E (kGs gs xs E QE) := by
  simp only [gsCons_r, wx_bind]; rfl
theorem gTp_r {ps : List PV} {x : SV} (e : tupOf x = some ps) (hl : ps.length = n) : gTp n gs x es h = gs (ps.map .p) es h := by
  simp only [gTp, e, hl, if_true]
/-! the end of a def -/
def Dfn (mu : Bool) (h : List EO) (res : Res SV) : Ps := ⟨fun _ h1 => cutR mu h (.ok (.p .non) h1) = res, fun x h1 => cutR mu h (.ok x h1) = res, fun _ _ => False, fun _ _ => False, fun C fs h1 => cutR mu h (.exc C fs h1) = res⟩
variable {res : Res SV}
@[simp] theorem Dfn_nx : (Dfn mu h res).nx es h1 = (cutR mu h (.ok (.p .non) h1) = res) := rfl
@[simp] theorem Dfn_rt : (Dfn mu h res).rt x h1 = (cutR mu h (.ok x h1) = res) := rfl
@[simp] theorem Dfn_ex : (Dfn mu h res).ex C fs h1 = (cutR mu h (.exc C fs h1) = res) := rfl
@[simp] theorem Dfn_bk : (Dfn mu h res).bk es h1 = False := rfl
@[simp] theorem Dfn_ct : (Dfn mu h res).ct es h1 = False := rfl
theorem wfd {m : MS} {n : Nat} {xs : List SV} (q : Ws (m (xs.map some ++ List.replicate (n - xs.length) none) h) (Dfn mu h res)) : cutR mu h (runB m n xs h) = res := wfn q
def Ps.lp (D : Ps) (I : Es → List EO → Prop) : Ps := ⟨I, D.rt, D.nx, I, D.ex⟩
variable {I : Es → List EO → Prop}
@[simp] theorem lp_nx : (D.lp I).nx es h = I es h := rfl
@[simp] theorem lp_ct : (D.lp I).ct es h = I es h := rfl
@[simp] theorem lp_bk : (D.lp I).bk es h = D.nx es h := rfl
@[simp] theorem lp_rt : (D.lp I).rt = D.rt := rfl
@[simp] theorem lp_ex : (D.lp I).ex = D.ex := rfl
def kGo (s : MS) (D : Ps) (I : Es → List EO → Prop) : Es → List EO → Prop := fun es h => Ws (s es h) (D.lp I)
@[simp] theorem kGo_r : kGo s D I es h = Ws (s es h) (D.lp I) := rfl
theorem wfor {γ : Type} {L : List γ} {e : γ → SV} {fI : MI} {g : MG} {s : MS} {w : Nxt × Nat} {P : List EO → Prop} (eI : fI es h = .ok w h1) (wk : Wk w (L.map e) P) (Inv : List γ → Es → List EO → Prop) (hP : ∀ d es h, Inv d es h → P h) (h0 : Inv [] es h1)
    (step : ∀ d y t es h, L = d ++ y :: t → Inv d es h → Wx (g (e y) es h) D.ex (kGo s D (Inv (d ++ [y]))))
    (hQ : ∀ es h, Inv L es h → D.nx es h) : Ws (sFor fI g s es h) D := ws_for eI wk Inv hP h0 step hQ
/-! a def, with any end -/
def Dgn (mu : Bool) (h : List EO) (G : Res SV → Prop) : Ps := ⟨fun _ h1 => G (cutR mu h (.ok (.p .non) h1)), fun x h1 => G (cutR mu h (.ok x h1)), fun _ _ => False, fun _ _ => False, fun C fs h1 => G (cutR mu h (.exc C fs h1))⟩
variable {G : Res SV → Prop}
@[simp] theorem Dgn_nx : (Dgn mu h G).nx es h1 = G (cutR mu h (.ok (.p .non) h1)) := rfl
@[simp] theorem Dgn_rt : (Dgn mu h G).rt x h1 = G (cutR mu h (.ok x h1)) := rfl
@[simp] theorem Dgn_ex : (Dgn mu h G).ex C fs h1 = G (cutR mu h (.exc C fs h1)) := rfl
@[simp] theorem Dgn_bk : (Dgn mu h G).bk es h1 = False := rfl
@[simp] theorem Dgn_ct : (Dgn mu h G).ct es h1 = False := rfl
theorem wfg {m : MS} {n : Nat} {xs : List SV} (q : Ws (m (xs.map some ++ List.replicate (n - xs.length) none) h) (Dgn mu h G)) : G (cutR mu h (runB m n xs h)) := by
  rw [runB_r]
  generalize m (xs.map some ++ List.replicate (n - xs.length) none) h = r at q
  cases q with
  | nx q => exact q
  | rt q => exact q
  | bk q => exact q.elim
  | ct q => exact q.elim
  | exc q => exact q
/-! a list comprehension whose pieces may leave new objects -/
theorem lcI_loop {γ : Type} {L : List γ} {e : γ → SV} {w : Nxt × Nat} {vs : List Nat} (Inv : List γ → List SV → List EO → Prop) (wk : Wk w (L.map e) fun h' => ∃ acc l, h' = h ++ .lst acc :: l) (hl : L.length ≤ sizeLine)
    (h0 : Inv [] [] []) (step : ∀ d y tl acc l, L = d ++ y :: tl → Inv d acc l → acc.length = d.length → ∃ es1, mg (e y) (ewipe es vs) (h ++ .lst acc :: l) = .ok es1 (h ++ .lst acc :: l) ∧ t es1 (h ++ .lst acc :: l) = .ok true (h ++ .lst acc :: l) ∧ ∃ z l2, f es1 (h ++ .lst acc :: l) = .ok z (h ++ .lst acc :: l2) ∧ Inv (d ++ [y]) (acc ++ [z]) l2) :
    ∃ acc l, lcLoop h.length w.1 mg t f vs w.2 0 es (h ++ [.lst []]) = .ok () (h ++ .lst acc :: l) ∧ Inv L acc l ∧ acc.length = L.length := by
  have main : ∀ (r k i : Nat) (acc : List SV) (l : List EO), i + r = L.length → r < k → acc.length = i → Inv (L.take i) acc l → ∃ acc2 l2, lcLoop h.length w.1 mg t f vs k i es (h ++ .lst acc :: l) = .ok () (h ++ .lst acc2 :: l2) ∧ Inv L acc2 l2 ∧ acc2.length = L.length := by
    intro r
    induction r with
    | zero =>
      intro k i acc l hi hk ha I
      obtain ⟨k, rfl⟩ : ∃ k', k = k' + 1 := ⟨k - 1, by omega⟩
      have e := wk.2 _ ⟨acc, l, rfl⟩ i (by simp; omega)
      rw [List.getElem?_eq_none (by simp; omega)] at e
      rw [List.take_of_length_le (by omega)] at I
      exact ⟨acc, l, by simp [lcLoop, e], I, by omega⟩
    | succ r ih =>
      intro k i acc l hi hk ha I
      obtain ⟨k, rfl⟩ : ∃ k', k = k' + 1 := ⟨k - 1, by omega⟩
      have hi' : i < L.length := by omega
      have e := wk.2 _ ⟨acc, l, rfl⟩ i (by simp; omega)
      rw [List.getElem?_map, List.getElem?_eq_getElem hi', Option.map_some] at e
      have el : L = L.take i ++ L[i] :: L.drop (i + 1) := by
        conv => lhs; rw [← List.take_append_drop i L, List.drop_eq_getElem_cons hi']
      obtain ⟨es1, eg, et, z, l2, ef, I2⟩ := step (L.take i) L[i] _ acc l el I (by simp; omega)
      have et2 : L.take (i + 1) = L.take i ++ [L[i]] := by rw [List.take_add_one, List.getElem?_eq_getElem hi']; rfl
      obtain ⟨acc3, l3, q1, q2, q3⟩ := ih k (i + 1) (acc ++ [z]) l2 (by omega) (by omega) (by simp; omega) (by rw [et2]; exact I2)
      refine ⟨acc3, l3, ?_, q2, q3⟩
      simp only [lcLoop, e, eg, et, rnb_ok, ef, if_true]
      have eh : (h ++ EO.lst acc :: l2)[h.length]? = some (.lst acc) := by simp
      rw [eh]
      simp only
      rw [if_pos (by omega), t0]
      exact q1
  have := main L.length w.2 0 [] [] (by omega) (by simpa using wk.1) rfl (by simpa using h0)
  simpa using this
theorem wx_lI {γ : Type} {L : List γ} {e : γ → SV} {fI : MI} {w : Nxt × Nat} {vs : List Nat} (eI : fI es h = .ok w h1) (wk : Wk w (L.map e) fun h' => ∃ acc l, h' = h1 ++ .lst acc :: l) (hl : L.length ≤ sizeLine) (Inv : List γ → List SV → List EO → Prop)
    (h0 : Inv [] [] []) (step : ∀ d y tl acc l, L = d ++ y :: tl → Inv d acc l → acc.length = d.length → ∃ es1, mg (e y) (ewipe es vs) (h1 ++ .lst acc :: l) = .ok es1 (h1 ++ .lst acc :: l) ∧ t es1 (h1 ++ .lst acc :: l) = .ok true (h1 ++ .lst acc :: l) ∧ ∃ z l2, f es1 (h1 ++ .lst acc :: l) = .ok z (h1 ++ .lst acc :: l2) ∧ Inv (d ++ [y]) (acc ++ [z]) l2)
    (hQ : ∀ acc l, Inv L acc l → acc.length = L.length → Q (.ref h1.length) (h1 ++ .lst acc :: l)) : Wx (eLc true fI mg t f vs es h) E Q := by
  obtain ⟨acc, l, e1, I, hl⟩ := lcI_loop Inv wk hl h0 step
  simp only [eLc, eI, rbind_ok, e1, rnb_ok, finL, if_true]
  exact .ok (hQ acc l I hl)
/-! fields written -/
def putK (C : Addr) (f : Str) (y x : SV) (es : Es) (h : List EO) : SRes := match x with
  | .ref n => match h[n]? with
    | some (.ins C' fs) => if C' = C ∧ fs.length < 1000 then .nx es (h.set n (.ins C (putS f y fs))) else .bad
    | _ => .bad
  | _ => .bad
theorem putK_r {fn : Str} {os : List (Str × SV)} (e : h[n]? = some (.ins C os)) (hl : os.length < 1000) : putK C fn y (.ref n) es h = .nx es (h.set n (.ins C (putS fn y os))) := by
  simp only [putK, e, hl, and_self, if_true]
def kFs2 (C : Addr) (f : Str) (y : SV) (es : Es) (D : Ps) : QV := fun x h => Ws (putK C f y x es h) D
@[simp] theorem kFs2_r {fn : Str} : kFs2 C fn y es D x h = Ws (putK C fn y x es h) D := rfl
def kFs1 (C : Addr) (f : Str) (fo : ME) (es : Es) (D : Ps) : QV := fun y h => Wx (fo es h) D.ex (kFs2 C f y es D)
@[simp] theorem kFs1_r {fn : Str} : kFs1 C fn fo es D y h = Wx (fo es h) D.ex (kFs2 C fn y es D) := rfl
@[simp ↓] theorem ws_fldS {fn : Str} : Ws (sFldS C fn fo fe es h) D = Wx (fe es h) D.ex (kFs1 C fn fo es D) := by
  simp only [sFldS, ws_sbind]; rfl
/-! a body alone -/
def Drn (G : Res SV → Prop) : Ps := ⟨fun _ h1 => G (.ok (.p .non) h1), fun x h1 => G (.ok x h1), fun _ _ => False, fun _ _ => False, fun C fs h1 => G (.exc C fs h1)⟩
@[simp] theorem Drn_nx : (Drn G).nx es h1 = G (.ok (.p .non) h1) := rfl
@[simp] theorem Drn_rt : (Drn G).rt x h1 = G (.ok x h1) := rfl
@[simp] theorem Drn_ex : (Drn G).ex C fs h1 = G (.exc C fs h1) := rfl
@[simp] theorem Drn_bk : (Drn G).bk es h1 = False := rfl
@[simp] theorem Drn_ct : (Drn G).ct es h1 = False := rfl
theorem wrn {m : MS} {n : Nat} {xs : List SV} (q : Ws (m (xs.map some ++ List.replicate (n - xs.length) none) h) (Drn G)) : G (runB m n xs h) := by
  rw [runB_r]
  generalize m (xs.map some ++ List.replicate (n - xs.length) none) h = r at q
  cases q with
  | nx q => exact q
  | rt q => exact q
  | bk q => exact q.elim
  | ct q => exact q.elim
  | exc q => exact q
end
end EV

-- M16
/-! M16: the law's own tables. -/
namespace EV
open PySem PySem.Spec L2
theorem okw {α : Type} {r : Res α} {v : α} {h : List EO} (q : Wx r noE fun x h1 => x = v ∧ h1 = h) : r = .ok v h := by
  cases q with
  | ok q => obtain ⟨rfl, rfl⟩ := q; rfl
  | exc q => exact q.elim
theorem fmodN (a b : Nat) : ((a : Nat) : Int).fmod (b : Nat) = ((a % b : Nat) : Int) := by
  rw [Int.fmod_eq_emod_of_nonneg _ (by omega)]; rfl
theorem fdivN (a b : Nat) : ((a : Nat) : Int).fdiv (b : Nat) = ((a / b : Nat) : Int) := by
  rw [Int.fdiv_eq_ediv_of_nonneg _ (by omega)]; rfl
/-- a table of rows -/
def tblR (n : Nat) (mul : Nat → Nat → Nat) : List PV := (List.range n).map fun a => .tup (nP ((List.range n).map (mul a)))
def tbl (n : Nat) (mul : Nat → Nat → Nat) : PV := .tup (tblR n mul)
section
variable {h : List EO} {n a b : Nat} {mul : Nat → Nat → Nat}
theorem ix_tbl (ha : a < n) : ixF (.p (tbl n mul)) (nI a) h = .ok (.p (.tup (nP ((List.range n).map (mul a))))) h := ix_seq_r rfl (by simp [tblR, ha])
theorem ix_tblrow (hb : b < n) : ixF (.p (.tup (nP ((List.range n).map (mul a))))) (nI b) h = .ok (nI (mul a b)) h := ix_n rfl (by simp [hb])
theorem len_tbl : lenK (.p (tbl n mul)) h = .ok (nI n) h := by simp [tbl, tblR]
theorem rng1n {fa : ME} {es : Es} (e : fa es h = .ok (nI n) h) (hn : n ≤ 1000) : eRng1 (aCons fa aNil) es h = .ok (nxtN 0 n, n + 1) h := K77.rng1_r e hn
theorem tup_ref {n : Nat} {xs : List PV} (e : h[n]? = some (.lst (xs.map .p))) (hl : xs.length ≤ 1000) : tupK (.ref n) h = .ok (.p (.tup xs)) h := by
  have hz : (1000 : Nat) < sizeLine := by decide
  have h1 : xs.length ≤ sizeLine := by omega
  simp only [tupK, tupOf, lstOf, e, mkT, List.length_map, h1, if_true, allP_map]
theorem tup_l {xs : List PV} (hl : xs.length ≤ 1000) : tupK (.p (.fl xs)) h = .ok (.p (.tup xs)) h := tup_fl (by
  have hz : (1000 : Nat) < sizeLine := by decide
  omega)
end
end EV
namespace K77
open PySem PySem.Spec L2 EV
section
variable {C : Cs} {h : List EO} {n m : Nat}
theorem ring_r (hm : 0 < m) (h1 : m ≤ 1000) : cutR false h (F_law_ring C [nI m] h) = .ok (.p (tbl m fun a b => (a + b) % m)) h := by
  have hz : (1000 : Nat) < sizeLine := by decide
  have hm0 : ((m : Nat) : Int) ≠ 0 := by omega
  refine wfd ?_
  unfold m_law_ring
  simp [List.replicate]
  refine wx_la (L := List.range m) (e := nI) (fun a => .tup (nP ((List.range m).map fun b => (a + b) % m))) (rng1n (n := m) (by simp) h1) (wk_r _ _) (by simp; omega) (fun a acc ha => ⟨_, rfl, okw ?_⟩) ?_
  · simp [ewipe]
    refine wx_la (L := List.range m) (e := nI) (fun b => .int ((a + b) % m : Nat)) (rng1n (n := m) (by simp) h1) (wk_r _ _) (by simp; omega) (fun b acc hb => ⟨_, rfl, ?_⟩) ?_
    · have := fmodN (a + b) m
      simp at this
      simp [ewipe, mod_r hm0, this]
    · rw [← nP_map]
      have := tup_n (h := h ++ [.lst acc]) (l := (List.range m).map fun b => (a + b) % m) (by simp; omega)
      simp [this]
  · have := tup_l (h := h) (xs := (List.range m).map fun a => PV.tup (nP ((List.range m).map fun b => (a + b) % m))) (by simp; omega)
    simp [this, tbl, tblR]
/-- the flips' products -/
def flI (m : Nat) (half : Int) (a b : Nat) : Int :=
  if a < m then (if b < m then ((a : Int) % m + (b : Int) % m).fmod m else ((a : Int) % m + (b : Int) % m).fmod m + m)
  else (if b < m then ((a : Int) % m + -((b : Int) % m)).fmod m + m else ((a : Int) % m + -((b : Int) % m) + half).fmod m)
theorem flips_r {half : Int} (hm : 0 < m) (h1 : m ≤ 400) : cutR false h (F_law_flips C [nI m, .p (.int half)] h) = .ok (.p (.tup ((List.range (2 * m)).map fun a => .tup ((List.range (2 * m)).map fun b => .int (flI m half a b))))) h := by
  have hz : (1000 : Nat) < sizeLine := by decide
  have hm0 : ((m : Nat) : Int) ≠ 0 := by omega
  have mc : ∀ x, mulC 2 x = true := fun x => mulC_l (by decide)
  have mc2 : ∀ x, mulC (m : Nat) x = true := fun x => mulC_l (by simp; omega)
  have eqb : ∀ (h : List EO) (a b : Bool), opData (fun d e => !PyData.eqv d e) (.p (.bl a)) (.p (.bl b)) h = .ok (.p (.bl (!(a == b)))) h := fun h a b => by
    simp [opData, svD, toD, SeqAt.shaped, PyData.canLay0, PyData.depth, PyData.eqv]
  refine wfd ?_
  unfold m_law_flips
  simp [List.replicate, mkL]
  refine wfor (L := List.range (2 * m)) (e := nI) (h1 := h ++ [.lst []]) (rng1n (n := 2 * m) (by simp [mul_r (mc _)]) (by omega)) (wk_r _ _) (fun d es h' => (∃ l, h' = h ++ .lst ((d.map fun a => PV.tup ((List.range (2 * m)).map fun b => .int (flI m half a b))).map .p) :: l) ∧ ∃ x1 x2 x3 x4 x5 x6, es = [some (nI m), some (.p (.int half)), some (.ref h.length), x1, x2, x3, x4, x5, x6]) (P := fun _ => True) (fun _ _ _ _ => trivial) ⟨⟨[], rfl⟩, _, _, _, _, _, _, rfl⟩ ?_ ?_
  · rintro d a t es h' el ⟨⟨l, rfl⟩, x1, x2, x3, x4, x5, x6, rfl⟩
    have hd : d.length < 2 * m := by
      have := congrArg List.length el
      simp at this; omega
    generalize hF : (d.map fun a => PV.tup ((List.range (2 * m)).map fun b => .int (flI m half a b))) = F
    have hFl : F.length < 2 * m := by rw [← hF]; simpa using hd
    simp [mkL]
    have hN : h.length + (l.length + 1) = (h ++ .lst (F.map .p) :: l).length := by simp
    generalize hh2 : h ++ EO.lst (F.map .p) :: l = h2 at hN
    have eh : h ++ EO.lst (F.map .p) :: (l ++ [.lst []]) = h2 ++ [.lst []] := by rw [← hh2]; simp
    rw [eh, hN]
    refine wfor (L := List.range (2 * m)) (e := nI) (h1 := h2 ++ [.lst []]) (rng1n (n := 2 * m) (by simp [mul_r (mc _)]) (by omega)) (wk_r _ _) (fun d es h' => h' = h2 ++ [.lst ((d.map fun b => PV.int (flI m half a b)).map .p)] ∧ ∃ x3 x4 x5 x6, es = [some (nI m), some (.p (.int half)), some (.ref h.length), some (nI a), some (.ref h2.length), x3, x4, x5, x6]) (P := fun _ => True) (fun _ _ _ _ => trivial) ⟨rfl, _, _, _, _, rfl⟩ ?_ ?_
    · rintro d2 b t2 es h' el2 ⟨rfl, x3, x4, x5, x6, rfl⟩
      have hd2 : d2.length < 2 * m := by
        have := congrArg List.length el2
        simp at this; omega
      generalize hG : (d2.map fun b => PV.int (flI m half a b)) = G
      have hGl : G.length < 2 * m := by rw [← hG]; simpa using hd2
      have ty := ty_lst (g0 : (h2 ++ EO.lst (G.map .p) :: [])[h2.length]? = _)
      have ap := append_r (y := .p (.int (flI m half a b))) (g0 : (h2 ++ EO.lst (G.map .p) :: [])[h2.length]? = _) (by simp; omega)
      have fa := fmodN a m
      have fb := fmodN b m
      simp at fa fb ap
      have mc3 : ∀ x, mulC 1 x = true := fun x => mulC_l (by decide)
      have mc4 : ∀ x, mulC (-1) x = true := fun x => mulC_l (by decide)
      by_cases qa : a < m <;> by_cases qb : b < m <;> simp [flI, qa, qb] at ap
      · have q1 : ¬ m ≤ a := by omega
        have q2 : ¬ m ≤ b := by omega
        simp [mul_r (mc3 _), mul_r (mc2 _), mod_r hm0, fa, fb, eqb, ty, q1, q2, intK, ap]
        simp [← hG, flI, qa, qb]
      · have q1 : ¬ m ≤ a := by omega
        have q2 : m ≤ b := by omega
        simp [mul_r (mc3 _), mul_r (mc2 _), mod_r hm0, fa, fb, eqb, ty, q1, q2, intK, ap]
        simp [← hG, flI, qa, qb]
      · have q1 : m ≤ a := by omega
        have q2 : ¬ m ≤ b := by omega
        simp [mul_r (mc4 _), mul_r (mc2 _), mod_r hm0, fa, fb, eqb, ty, q1, q2, intK, ap, eNeg]
        simp [← hG, flI, qa, qb]
      · have q1 : m ≤ a := by omega
        have q2 : m ≤ b := by omega
        simp [mul_r (mc4 _), mul_r (mc2 _), mod_r hm0, fa, fb, eqb, ty, q1, q2, intK, ap, eNeg]
        simp [← hG, flI, qa, qb]
    · rintro es h' ⟨rfl, x3, x4, x5, x6, rfl⟩
      generalize hG : ((List.range (2 * m)).map fun b => PV.int (flI m half a b)) = G
      have hGl : G.length = 2 * m := by rw [← hG]; simp
      have tr := tup_ref (g0 : (h2 ++ EO.lst (G.map .p) :: [])[h2.length]? = _) (by omega)
      have el : (h2 ++ [EO.lst (G.map .p)])[h.length]? = some (.lst (F.map .p)) := by rw [← hh2]; simp
      have ap := append_r (y := .p (.tup G)) el (by simp; omega)
      simp [tr, ty_lst el, ap]
      rw [← hh2]
      simp [← hF, hG]
  · rintro es h' ⟨⟨l, rfl⟩, x1, x2, x3, x4, x5, x6, rfl⟩
    generalize hG : ((List.range (2 * m)).map fun a => PV.tup ((List.range (2 * m)).map fun b => .int (flI m half a b))) = G
    have hGl : G.length = 2 * m := by rw [← hG]; simp
    have := tup_ref (h := h ++ EO.lst (G.map .p) :: l) g0 (by omega)
    simp [this, cutE_p]
theorem pairs_r {n1 n2 : Nat} {m1 m2 : Nat → Nat → Nat} (hn2 : 0 < n2) (h1 : n1 * n2 ≤ 400) (hn2' : n2 ≤ 400) : cutR false h (F_law_pairs C [.p (tbl n1 m1), .p (tbl n2 m2)] h) = .ok (.p (tbl (n1 * n2) fun a b => m1 (a / n2) (b / n2) * n2 + m2 (a % n2) (b % n2))) h := by
  have hz : (1000 : Nat) < sizeLine := by decide
  have hm0 : ((n2 : Nat) : Int) ≠ 0 := by omega
  have hmb : ((n2 : Nat) : Int).natAbs < 1073741824 := by omega
  have mc : ∀ x, mulC x (n2 : Nat) = true := fun x => mulC_r (by simp; omega)
  refine wfd ?_
  unfold m_law_pairs
  simp [List.replicate, mkL, len_tbl]
  refine wfor (L := List.range (n1 * n2)) (e := nI) (h1 := h ++ [.lst []]) (rng1n (n := n1 * n2) (by simp [len_tbl, mul_r (mc _)]) (by omega)) (wk_r _ _) (fun d es h' => (∃ l, h' = h ++ .lst ((d.map fun a => PV.tup (nP ((List.range (n1 * n2)).map fun b => m1 (a / n2) (b / n2) * n2 + m2 (a % n2) (b % n2)))).map .p) :: l) ∧ ∃ x1 x2 x3 x4, es = [some (.p (tbl n1 m1)), some (.p (tbl n2 m2)), some (nI n2), some (.ref h.length), x1, x2, x3, x4]) (P := fun _ => True) (fun _ _ _ _ => trivial) ⟨⟨[], rfl⟩, _, _, _, _, rfl⟩ ?_ ?_
  · rintro d a t es h' el ⟨⟨l, rfl⟩, x1, x2, x3, x4, rfl⟩
    have hd : d.length < n1 * n2 := by
      have := congrArg List.length el
      simp at this; omega
    have ha : a < n1 * n2 := by
      have : a ∈ List.range (n1 * n2) := by rw [el]; simp
      simpa using this
    generalize hF : (d.map fun a => PV.tup (nP ((List.range (n1 * n2)).map fun b => m1 (a / n2) (b / n2) * n2 + m2 (a % n2) (b % n2)))) = F
    have hFl : F.length < n1 * n2 := by rw [← hF]; simpa using hd
    simp [mkL]
    have hN : h.length + (l.length + 1) = (h ++ .lst (F.map .p) :: l).length := by simp
    generalize hh2 : h ++ EO.lst (F.map .p) :: l = h2 at hN
    have eh : h ++ EO.lst (F.map .p) :: (l ++ [.lst []]) = h2 ++ [.lst []] := by rw [← hh2]; simp
    rw [eh, hN]
    refine wfor (L := List.range (n1 * n2)) (e := nI) (h1 := h2 ++ [.lst []]) (rng1n (n := n1 * n2) (by simp [len_tbl, mul_r (mc _)]) (by omega)) (wk_r _ _) (fun d es h' => h' = h2 ++ [.lst ((nP (d.map fun b => m1 (a / n2) (b / n2) * n2 + m2 (a % n2) (b % n2))).map .p)] ∧ ∃ x3 x4, es = [some (.p (tbl n1 m1)), some (.p (tbl n2 m2)), some (nI n2), some (.ref h.length), some (nI a), some (.ref h2.length), x3, x4]) (P := fun _ => True) (fun _ _ _ _ => trivial) ⟨rfl, _, _, rfl⟩ ?_ ?_
    · rintro d2 b t2 es h' el2 ⟨rfl, x3, x4, rfl⟩
      have hd2 : d2.length < n1 * n2 := by
        have := congrArg List.length el2
        simp at this; omega
      have hb : b < n1 * n2 := by
        have : b ∈ List.range (n1 * n2) := by rw [el2]; simp
        simpa using this
      have fa := fmodN a n2
      have fb := fmodN b n2
      have da := fdivN a n2
      have db := fdivN b n2
      have ha1 : a / n2 < n1 := Nat.div_lt_of_lt_mul (by rw [Nat.mul_comm]; exact ha)
      have hb1 : b / n2 < n1 := Nat.div_lt_of_lt_mul (by rw [Nat.mul_comm]; exact hb)
      have ha2 : a % n2 < n2 := Nat.mod_lt _ hn2
      have hb2 : b % n2 < n2 := Nat.mod_lt _ hn2
      generalize hG : nP (d2.map fun b => m1 (a / n2) (b / n2) * n2 + m2 (a % n2) (b % n2)) = G
      have hGl : G.length < n1 * n2 := by rw [← hG]; simpa using hd2
      have ty := ty_lst (g0 : (h2 ++ EO.lst (G.map .p) :: [])[h2.length]? = _)
      have ap := append_r (y := nI (m1 (a / n2) (b / n2) * n2 + m2 (a % n2) (b % n2))) (g0 : (h2 ++ EO.lst (G.map .p) :: [])[h2.length]? = _) (by simp; omega)
      have i1 := fun h => ix_tbl (h := h) (mul := m1) ha1
      have i2 := fun h => ix_tblrow (h := h) (mul := m1) (a := a / n2) hb1
      have i3 := fun h => ix_tbl (h := h) (mul := m2) ha2
      have i4 := fun h => ix_tblrow (h := h) (mul := m2) (a := a % n2) hb2
      simp at ap fa fb da db i1 i3 i2 i4
      simp only [nI, Int.natCast_ediv, Int.natCast_emod, Int.natCast_add, Int.natCast_mul] at ap i1 i2 i3 i4
      simp [mul_r (mc _), mod_r hm0, fdiv_r hm0 hmb, fa, fb, da, db, i1, i2, i3, i4, ty, ap]
      simp [← hG, nP]
    · rintro es h' ⟨rfl, x3, x4, rfl⟩
      generalize hG : nP ((List.range (n1 * n2)).map fun b => m1 (a / n2) (b / n2) * n2 + m2 (a % n2) (b % n2)) = G
      have hGl : G.length = n1 * n2 := by rw [← hG]; simp
      have tr := tup_ref (g0 : (h2 ++ EO.lst (G.map .p) :: [])[h2.length]? = _) (by omega)
      have el : (h2 ++ [EO.lst (G.map .p)])[h.length]? = some (.lst (F.map .p)) := by rw [← hh2]; simp
      have ap := append_r (y := .p (.tup G)) el (by simp; omega)
      simp [tr, ty_lst el, ap]
      rw [← hh2]
      simp [← hF, hG]
  · rintro es h' ⟨⟨l, rfl⟩, x1, x2, x3, x4, rfl⟩
    have hG : ((List.range (n1 * n2)).map fun a => PV.tup (nP ((List.range (n1 * n2)).map fun b => m1 (a / n2) (b / n2) * n2 + m2 (a % n2) (b % n2)))) = tblR (n1 * n2) fun a b => m1 (a / n2) (b / n2) * n2 + m2 (a % n2) (b % n2) := rfl
    rw [hG]
    have hGl : (tblR (n1 * n2) fun a b => m1 (a / n2) (b / n2) * n2 + m2 (a % n2) (b % n2)).length = n1 * n2 := by simp [tblR]
    unfold tbl
    generalize (tblR (n1 * n2) fun a b => m1 (a / n2) (b / n2) * n2 + m2 (a % n2) (b % n2)) = G at hGl
    have := tup_ref (h := h ++ EO.lst (G.map .p) :: l) g0 (by omega)
    simp [this, cutE_p]
end
end K77

-- M17
/-! M17: names drawn, tables renamed. -/
namespace EV
open PySem PySem.Spec L2
section
variable {h l : List EO} {n : Nat} {s s2 : HS}
theorem below_mono {a b : Nat} (hab : a ≤ b) {o : EO} (q : EO.below a o = true) : EO.below b o = true := by
  unfold EO.below at *
  rw [List.all_eq_true] at *
  intro x hx
  have := q x hx
  cases x with
  | p x => rfl
  | ref k => simp [SV.below] at *; omega
theorem HH.app (H : HH h n s) (hl : l.all (EO.below (h.length + l.length)) = true) : HH (h ++ l) n s := by
  refine ⟨by rw [List.getElem?_append_left H.lt]; exact H.at_, H.pos, ?_⟩
  rw [List.length_append, List.all_append, hl, Bool.and_true, List.all_eq_true]
  exact fun o ho => below_mono (by omega) ((List.all_eq_true.mp H.bel) o ho)
theorem below_p {m : Nat} {xs : List PV} : EO.below m (.lst (xs.map .p)) = true := by
  simp [EO.below, EO.vals, SV.below]
theorem below_nI {m : Nat} {xs : List Nat} : EO.below m (.lst (xs.map nI)) = true := by
  simp [EO.below, EO.vals, SV.below]
theorem set_app (H : HH h n s) : (h ++ l).set n s2.o = h.set n s2.o ++ l := List.set_append_left _ _ H.lt
theorem cutR_setA (H : HH h n s) (s2 : HS) (l : List EO) (p : PV) : cutR false h (.ok (.p p) (h.set n s2.o ++ l)) = .ok (.p p) (h.set n s2.o) := by
  have hb := below_set H s2
  have e : (h.set n s2.o ++ l).take h.length = h.set n s2.o := by
    rw [List.take_append_of_le_length (by simp), List.take_of_length_le (by simp)]
  have hc : Cut h (h.set n s2.o ++ l) := ⟨by simp, .inr (by rw [e]; exact hb)⟩
  simp only [cutR, hc, if_true, Bool.false_eq_true, if_false, e]
theorem rgok {a b : Int} (h1 : -1000 ≤ a) (h2 : a ≤ 1000) (h3 : -1000 ≤ b) (h4 : b ≤ 1000) : RgOk a b := by
  unfold RgOk
  have e : (2 : Int) ^ 62 = 4611686018427387904 := by decide +kernel
  rw [e]
  exact ⟨by omega, by omega, by omega, by omega, by omega⟩
theorem HH.is2 (H : HH h n s) : h = h.set n s.o := H.is.symm
theorem erase_perm {γ : Type} : ∀ {l : List γ} {d : Nat} {y : γ}, l[d]? = some y → (y :: l.eraseIdx d).Perm l
  | [], _, _, h => by simp at h
  | a :: l, 0, y, h => by simp at h; subst h; exact List.Perm.refl _
  | a :: l, d + 1, y, h => by
    simp only [List.getElem?_cons_succ] at h
    simp only [List.eraseIdx_cons_succ]
    exact (List.Perm.swap a y _).trans ((erase_perm h).cons a)
theorem pop_i {h : List EO} {n : Nat} {xs : List SV} {k : Nat} {y : SV} (e : h[n]? = some (.lst xs)) (hy : xs[k]? = some y) (hk : xs.length < 1000) : mPop (.ref n) [nI k] h = .ok y (h.set n (.lst (xs.eraseIdx k))) := by
  have hk2 := (List.getElem?_eq_some_iff.mp hy).1
  have hb : -(2 ^ 63) ≤ ((k : Nat) : Int) ∧ ((k : Nat) : Int) < 2 ^ 63 := by
    have e : (2 : Int) ^ 63 = 9223372036854775808 := by decide +kernel
    rw [e]; omega
  have hs : seqIndex? (k : Nat) xs.length = some k := by
    unfold seqIndex?
    simp
    omega
  simp only [mPop, onLst, e, hb, hs, hy, and_self, if_true]
end
end EV
namespace K77
open PySem PySem.Spec L2 EV
section
variable {C : Cs} {h : List EO} {n m : Nat} {s : HS}
theorem any_r (H : HH h n s) {xs : List PV} (hl : 0 < xs.length) (hl2 : xs.length < 1000) : ∃ (d : Nat) (x : PV) (s2 : HS), xs[d]? = some x ∧ 0 ≤ s2.pos ∧ cutR false h (F_law_any C [.ref n, .p (.fl xs)] h) = .ok (.p x) (h.set n s2.o) := by
  obtain ⟨d, s2, h1, h2, h3⟩ := draw_r (C := C) H hl hl2
  have e1 : xs[d]? = some (xs[d]'h1) := List.getElem?_eq_getElem h1
  refine ⟨d, xs[d], s2, e1, h2, wfd ?_⟩
  unfold m_law_any
  have ix := ix_seq_r (h := h.set n s2.o) (x := .p (.fl xs)) (i := d) (y := .p xs[d]) rfl (by simp [h1])
  simp [List.replicate, h3, ix, cutR_set H]
theorem names_r (H : HH h n s) (hm : 0 < m) (hm2 : m ≤ 16) : ∃ (nm : List Nat) (s2 : HS), nm.Perm (List.range m) ∧ nm[0]? = some 0 ∧ 0 ≤ s2.pos ∧ cutR false h (F_law_names C [.ref n, nI m] h) = .ok (tS nm) (h.set n s2.o) := by
  have hz : (1000 : Nat) < sizeLine := by decide
  refine wfg (G := fun r => ∃ (nm : List Nat) (s2 : HS), nm.Perm (List.range m) ∧ nm[0]? = some 0 ∧ 0 ≤ s2.pos ∧ r = .ok (tS nm) (h.set n s2.o)) ?_
  unfold m_law_names
  have rg : RgOk 1 (m : Nat) := by
    exact rgok (by omega) (by omega) (by omega) (by omega)
  have rs : rgS 1 (m : Nat) = nP ((List.range (m - 1)).map (· + 1)) := by
    have : ((m : Nat) - 1 : Int).toNat = m - 1 := by omega
    simp only [rgS, this, nP, List.map_map]
    refine List.map_congr_left fun i _ => ?_
    simp; omega
  simp [List.replicate, mkL, lrg_t rg, rs]
  refine ws_while (fun j es h' => ∃ (left found : List Nat) (s1 : HS), j = left.length ∧ h' = h.set n s1.o ++ [.lst (left.map nI), .lst (found.map nI)] ∧ es = [some (.ref n), some (nI m), some (.ref h.length), some (.ref (h.length + 1))] ∧ (found ++ left).Perm (List.range m) ∧ found[0]? = some 0 ∧ 0 ≤ s1.pos) ?_ 100000 (m - 1) _ _ (by omega) ?_
  · rintro j es h' ⟨left, found, s1, rfl, rfl, rfl, hp, h0, hpos⟩
    have hlen := hp.length_eq
    simp at hlen
    have hlt : ∀ a ∈ left, a < m := fun a ha => by
      have := hp.mem_iff.mp (List.mem_append_right found ha)
      simpa using this
    have H1 : HH (h.set n s1.o) n s1 := H.step hpos
    have hN : h.length = (h.set n s1.o).length := by simp
    have hset : ∀ s2 : HS, (h.set n s1.o).set n s2.o = h.set n s2.o := fun s2 => by simp
    generalize hh1 : h.set n s1.o = h1 at H1 hN hset
    have H2 : HH (h1 ++ [.lst (left.map nI), .lst (found.map nI)]) n s1 := H1.app (by simp [below_nI])
    rw [hN]
    have e0 := g0 (h := h1) (a := .lst (left.map nI)) (l := [.lst (found.map nI)])
    have nn := ne_nil e0 fun a ha => by have := hlt a ha; omega
    simp [mkL, allP, nn]
    by_cases hl : left = []
    · subst hl
      have e1 := g1 (h := h1) (a := .lst (([] : List Nat).map nI)) (b := .lst (found.map nI)) (l := [])
      have e1' : (h1 ++ EO.lst (([] : List Nat).map nI) :: .lst (found.map nI) :: [])[h1.length + 1]? = some (.lst ((nP found).map .p)) := by rw [e1, nP_nI]
      have tr := tup_ref e1' (by simp at hlen ⊢; omega)
      simp at tr
      simp [tr]
      refine ⟨found, by simpa using hp, h0, s1, hpos, ?_⟩
      rw [← hh1]
      exact cutR_setA H s1 _ _
    · have ll := len_lst e0
      simp only [List.length_map] at ll
      obtain ⟨d, s2, hd, hp2, e2⟩ := draw_r (C := C) H2 (m := left.length) (List.length_pos_iff.mpr hl) (by omega)
      rw [set_app H1, hset] at e2
      have hN2 : h1.length = (h.set n s2.o).length := by simp [← hN]
      have e3 : (h.set n s2.o ++ [.lst (left.map nI), .lst (found.map nI)])[h1.length]? = some (.lst (left.map nI)) := by rw [hN2]; exact g0
      obtain ⟨y, hy⟩ : ∃ y, left[d]? = some y := ⟨_, List.getElem?_eq_getElem hd⟩
      have po := pop_i (k := d) (y := nI y) e3 (by simp [hy]) (by simp; omega)
      have tyl := ty_lst e3
      have era : (left.map nI).eraseIdx d = (left.eraseIdx d).map nI := by
        rw [List.eraseIdx_eq_take_drop_succ, List.eraseIdx_eq_take_drop_succ]; simp
      have e4 : (h.set n s2.o ++ [EO.lst (left.map nI), EO.lst (found.map nI)]).set h1.length (EO.lst ((left.map nI).eraseIdx d)) = h.set n s2.o ++ [.lst ((left.eraseIdx d).map nI), .lst (found.map nI)] := by
        rw [hN2]; simp [era]
      rw [e4] at po
      have e5 : (h.set n s2.o ++ [.lst ((left.eraseIdx d).map nI), .lst (found.map nI)])[h1.length + 1]? = some (.lst (found.map nI)) := by rw [hN2]; exact g1
      have ap := append_r (y := nI y) e5 (by simp; omega)
      have e6 : (h.set n s2.o ++ [EO.lst ((left.eraseIdx d).map nI), EO.lst (found.map nI)]).set (h1.length + 1) (.lst (found.map nI ++ [nI y])) = h.set n s2.o ++ [.lst ((left.eraseIdx d).map nI), .lst ((found ++ [y]).map nI)] := by
        rw [hN2, t1]; simp
      rw [e6] at ap
      have ty0 := ty_lst e0
      have ty1 : tyS "list" (.ref (h1.length + 1)) (h1 ++ [.lst (left.map nI), .lst (found.map nI)]) = true := ty_lst g1
      simp at e2 po ap tyl ty0 ty1
      simp [hl, ty0, ty1, ll, e2, po, ap]
      have her : (left.eraseIdx d).length < left.length := by rw [List.length_eraseIdx_of_lt hd]; omega
      refine ⟨_, her, left.eraseIdx d, rfl, found ++ [y], s2, by simp, ?_, ?_, hp2⟩
      · have := erase_perm hy
        refine List.Perm.trans ?_ hp
        rw [List.append_assoc]
        exact List.Perm.append_left found (by simpa using this)
      · rw [List.getElem?_append_left (List.getElem?_eq_some_iff.mp h0).1]; exact h0
  · refine ⟨(List.range (m - 1)).map (· + 1), [0], s, by simp, ?_, rfl, ?_, rfl, H.pos⟩
    · rw [H.is]; simp [nP]
    · have : List.range m = 0 :: (List.range (m - 1)).map (· + 1) := by
        obtain ⟨k, rfl⟩ : ∃ k, m = k + 1 := ⟨m - 1, by omega⟩
        rw [List.range_succ_eq_map]; rfl
      rw [this]; exact List.Perm.refl _
end
end K77

-- M18
/-! M18: tables renamed. -/
namespace EV
open PySem PySem.Spec L2
/-- names of all members, the one first -/
structure Nm (m : Nat) (nm : List Nat) : Prop where
  p : nm.Perm (List.range m)
  z : nm[0]? = some 0
def nf (nm : List Nat) (k : Nat) : Nat := nm.getD k 0
def un (nm : List Nat) (x : Nat) : Nat := nm.idxOf x
section
variable {m k x : Nat} {nm : List Nat}
theorem Nm.len (N : Nm m nm) : nm.length = m := by simpa using N.p.length_eq
theorem Nm.get (N : Nm m nm) (hk : k < m) : nm[k]? = some (nf nm k) := by
  have : k < nm.length := by rw [N.len]; exact hk
  simp [nf, List.getD, this]
theorem Nm.lt (N : Nm m nm) (hk : k < m) : nf nm k < m := by
  have := N.p.mem_iff.mp (List.mem_of_getElem? (N.get hk))
  simpa using this
theorem Nm.zero (N : Nm m nm) : nf nm 0 = 0 := by simp [nf, List.getD, N.z]
theorem Nm.unlt (N : Nm m nm) (hx : x < m) : un nm x < m := by
  have : x ∈ nm := N.p.mem_iff.mpr (by simpa using hx)
  have := List.idxOf_lt_length_of_mem this
  rw [N.len] at this
  exact this
theorem Nm.nu (N : Nm m nm) (hx : x < m) : nf nm (un nm x) = x := by
  have hm : x ∈ nm := N.p.mem_iff.mpr (by simpa using hx)
  have h1 := List.idxOf_lt_length_of_mem hm
  have := N.get (N.unlt hx)
  unfold un at this ⊢
  rw [List.getElem?_eq_getElem h1, List.getElem_idxOf] at this
  exact (Option.some.inj this).symm
theorem Nm.nd (N : Nm m nm) : nm.Nodup := N.p.nodup_iff.mpr List.nodup_range
theorem Nm.inj (N : Nm m nm) {a b : Nat} (ha : a < m) (hb : b < m) (e : nf nm a = nf nm b) : a = b := by
  have h1 := N.get ha
  have h2 := N.get hb
  rw [e] at h1
  have la : a < nm.length := by rw [N.len]; exact ha
  exact (List.getElem?_inj la N.nd).mp (h1.trans h2.symm)
theorem Nm.un_n (N : Nm m nm) (hk : k < m) : un nm (nf nm k) = k := N.inj (N.unlt (N.lt hk)) hk (N.nu (N.lt hk))
theorem Nm.un0 (N : Nm m nm) (hm : 0 < m) : un nm 0 = 0 := by
  have := N.un_n hm
  rwa [N.zero] at this
/-- the table with other names -/
def Tb.ren (B : Tb) (nm : List Nat) : Tb := ⟨B.n, fun x y => nf nm (B.mul (un nm x) (un nm y)), fun x => nf nm (B.inv (un nm x))⟩
theorem Tb.Ok.ren {B : Tb} (O : B.Ok) (N : Nm B.n nm) : (B.ren nm).Ok where
  pos := O.pos
  le := O.le
  lt ha hb := N.lt (O.lt (N.unlt ha) (N.unlt hb))
  ilt ha := N.lt (O.ilt (N.unlt ha))
  l1 ha := by simp only [Tb.ren, N.un0 O.pos, O.l1 (N.unlt ha)]; exact N.nu ha
  r1 ha := by simp only [Tb.ren, N.un0 O.pos, O.r1 (N.unlt ha)]; exact N.nu ha
  li ha := by
    have h1 := N.unlt ha
    simp only [Tb.ren, N.un_n (O.ilt h1), O.li h1, N.zero]
  ri ha := by
    have h1 := N.unlt ha
    simp only [Tb.ren, N.un_n (O.ilt h1), O.ri h1, N.zero]
  as ha hb hc := by
    have h1 := N.unlt ha
    have h2 := N.unlt hb
    have h3 := N.unlt hc
    simp only [Tb.ren, N.un_n (O.lt h1 h2), N.un_n (O.lt h2 h3), O.as h1 h2 h3]
end
/-! rows that change -/
section
variable {h h' : List EO} {m : Nat} {R : Nat → Nat → Nat}
def rfs (b m : Nat) : List SV := (List.range m).map fun i => .ref (b + 2 + 2 * i)
/-- a list of lists that may change, behind h -/
structure MX (h : List EO) (m : Nat) (R : Nat → Nat → Nat) (h' : List EO) : Prop where
  ex : ∃ l, h' = h ++ .lst (rfs h.length m) :: l ∧ ∀ i, i < m → l[2 * i + 1]? = some (.lst ((List.range m).map fun j => nI (R i j)))
theorem MX.row (M : MX h m R h') {i : Nat} (hi : i < m) : h'[h.length + 2 + 2 * i]? = some (.lst ((List.range m).map fun j => nI (R i j))) := by
  obtain ⟨l, rfl, q⟩ := M.ex
  have e : h.length + 2 + 2 * i = h.length + (2 * i + 1 + 1) := by omega
  rw [e, getL]
  simpa using q i hi
theorem MX.at_ (M : MX h m R h') {i : Nat} (hi : i < m) : ixF (.ref h.length) (nI i) h' = .ok (.ref (h.length + 2 + 2 * i)) h' := by
  obtain ⟨l, rfl, q⟩ := M.ex
  exact ix_seq_r (seq_ref getL0) (by simp [rfs, hi])
theorem MX.set (M : MX h m R h') {i j v : Nat} (hi : i < m) (hj : j < m) : ∃ h'', setF (.ref (h.length + 2 + 2 * i)) (nI j) (nI v) h' = .ok () h'' ∧ MX h m (fun x y => if x = i ∧ y = j then v else R x y) h'' := by
  have er := M.row hi
  obtain ⟨l, rfl, q⟩ := M.ex
  have e : h.length + 2 + 2 * i = h.length + (2 * i + 1 + 1) := by omega
  have ixn : ixN m ((j : Nat) : Int) = some j := by simp [ixN, hj]
  have es : setF (.ref (h.length + 2 + 2 * i)) (nI j) (nI v) (h ++ .lst (rfs h.length m) :: l) = .ok () (h ++ .lst (rfs h.length m) :: l.set (2 * i + 1) (.lst (((List.range m).map fun y => nI (R i y)).set j (nI v)))) := by
    simp only [setF, er, List.length_map, List.length_range, ixn]
    rw [e, setL]; rfl
  refine ⟨_, es, ⟨⟨_, rfl, fun x hx => ?_⟩⟩⟩
  by_cases hxi : x = i
  · subst hxi
    have hl := (List.getElem?_eq_some_iff.mp (q x hx)).1
    rw [List.getElem?_set_self hl]
    congr 2
    apply List.ext_getElem? 
    intro y
    by_cases hy : y < m
    · by_cases hyj : y = j
      · subst hyj; simp [hy]
      · have : ¬ j = y := fun e => hyj e.symm
        simp [hy, this, hyj]
    · have h1 : ¬ j = y := by omega
      simp [hy, h1]
  · rw [List.getElem?_set_ne (by omega)]
    have := q x hx
    simp [hxi, this]
theorem mul_lst {n : Nat} {xs : List SV} {k : Nat} (e : h[n]? = some (.lst xs)) (hk : xs.length * k ≤ 1000) (hk2 : k ≤ 1000) : opMul true (.ref n) (nI k) h = .ok (.ref h.length) (h ++ [.lst (List.replicate k xs).flatten]) := by
  have hz : (1000 : Nat) < sizeLine := by decide
  have e63 : (2 : Int) ^ 63 = 9223372036854775808 := by decide +kernel
  have hc : -(2 ^ 63) ≤ ((k : Nat) : Int) ∧ ((k : Nat) : Int) < 2 ^ 63 ∧ xs.length * ((k : Nat) : Int).toNat ≤ sizeLine := by
    rw [e63]
    simp only [Int.toNat_natCast]
    omega
  have hl : (List.replicate k xs).flatten.length ≤ sizeLine := by simp; rw [Nat.mul_comm]; omega
  simp only [opMul, lstOf, e, Int.toNat_natCast, mkL, hl, if_true]
  simp only [Int.toNat_natCast] at hc
  rw [if_pos hc]
theorem tupF_ref {n : Nat} {xs : List PV} (e : h[n]? = some (.lst (xs.map .p))) : tupFK (.ref n) h = .ok (.p (.ftp xs)) h := by
  simp only [tupFK, lstOf, e, allP_map]
theorem rep_flat (m : Nat) (x : SV) : (List.replicate m [x]).flatten = (List.range m).map fun _ => x := by
  induction m with
  | zero => rfl
  | succ m ih => rw [List.replicate_succ', List.range_succ]; simp [ih]
end
end EV
namespace K77
open PySem PySem.Spec L2 EV
section
variable {C : Cs} {h : List EO} {n m : Nat} {s : HS}
theorem called_r {B : Tb} (O : B.Ok) {nm : List Nat} (N : Nm B.n nm) : cutR false h (F_law_called C [.p (tbl B.n B.mul), tS nm] h) = .ok (.p (B.ren nm).tab) h := by
  have h8 := O.le
  have hz : (1000 : Nat) < sizeLine := by decide
  refine wfd ?_
  unfold m_law_called
  simp [List.replicate, len_tbl]
  refine wx_lI (L := List.range B.n) (e := nI) (rng1n (n := B.n) (by simp) (by omega)) (wk_r _ _) (by simp; omega) (fun d acc l => l.length = 2 * d.length ∧ acc = rfs h.length d.length ∧ ∀ i, i < d.length → l[2 * i + 1]? = some (.lst ((List.range B.n).map fun j => nI 0))) ⟨rfl, rfl, by simp⟩ ?_ ?_
  · rintro d y tl acc l el ⟨h1, h2, h3⟩ h4
    refine ⟨_, rfl, rfl, ?_⟩
    have e1 : (h ++ EO.lst acc :: (l ++ [EO.lst [nI 0]]))[h.length + (l.length + 1)]? = some (.lst [nI 0]) := by simp
    have mm := mul_lst (k := B.n) e1 (by simp; omega) (by omega)
    rw [rep_flat] at mm
    refine ⟨.ref (h.length + 2 + 2 * d.length), l ++ [.lst [nI 0], .lst ((List.range B.n).map fun _ => nI 0)], ?_, by simp [h1]; omega, ?_, ?_⟩
    · simp at mm
      have hidx : h.length + 2 + 2 * d.length = h.length + (l.length + 1 + 1) := by omega
      rw [hidx]
      simp [ewipe, mkL]
      exact mm
    · simp [h2, rfs, List.range_succ]
    · intro i hi
      simp at hi
      by_cases hid : i < d.length
      · rw [List.getElem?_append_left (by omega)]; exact h3 i hid
      · have : i = d.length := by omega
        subst this
        rw [List.getElem?_append_right (by omega)]
        have : 2 * d.length + 1 - l.length = 1 := by omega
        rw [this]; rfl
  · rintro acc l ⟨h1, h2, h3⟩ h4
    simp at h1 h2 h3
    have M0 : MX h B.n (fun _ _ => 0) (h ++ EO.lst acc :: l) := ⟨l, by rw [h2], by simpa using h3⟩
    generalize h ++ EO.lst acc :: l = h0 at M0
    simp
    refine wfor (L := List.range B.n) (e := nI) (h1 := h0) (rng1n (n := B.n) (by simp) (by omega)) (wk_r _ _) (fun d es h' => ∃ (R : Nat → Nat → Nat) (x4 x5 x6 : Option SV), MX h B.n R h' ∧ es = [some (.p (tbl B.n B.mul)), some (tS nm), some (nI B.n), some (.ref h.length), x4, x5, x6] ∧ ∀ a ∈ d, ∀ b, b < B.n → R (nf nm a) (nf nm b) = nf nm (B.mul a b)) (P := fun _ => True) (fun _ _ _ _ => trivial) ⟨_, _, _, _, M0, rfl, by simp⟩ ?_ ?_
    · rintro d a t es h' el ⟨R, x4, x5, x6, M, rfl, hR⟩
      have ha : a < B.n := by
        have : a ∈ List.range B.n := by rw [el]; simp
        simpa using this
      have hd : ∀ a ∈ d, a < B.n := fun a ha => by
        have : a ∈ List.range B.n := by rw [el]; simp [ha]
        simpa using this
      simp
      refine wfor (L := List.range B.n) (e := nI) (h1 := h') (rng1n (n := B.n) (by simp) (by omega)) (wk_r _ _) (fun d2 es h' => ∃ (R : Nat → Nat → Nat) (x5 x6 : Option SV), MX h B.n R h' ∧ es = [some (.p (tbl B.n B.mul)), some (tS nm), some (nI B.n), some (.ref h.length), some (nI a), x5, x6] ∧ (∀ a ∈ d, ∀ b, b < B.n → R (nf nm a) (nf nm b) = nf nm (B.mul a b)) ∧ ∀ b ∈ d2, R (nf nm a) (nf nm b) = nf nm (B.mul a b)) (P := fun _ => True) (fun _ _ _ _ => trivial) ⟨_, _, _, M, rfl, hR, by simp⟩ ?_ ?_
      · rintro d2 b t2 es h2 el2 ⟨R2, y5, y6, M2, rfl, hR2, hR3⟩
        have hb : b < B.n := by
          have : b ∈ List.range B.n := by rw [el2]; simp
          simpa using this
        have hd2 : ∀ a ∈ d2, a < B.n := fun a ha => by
          have : a ∈ List.range B.n := by rw [el2]; simp [ha]
          simpa using this
        have i1 := ix_n (h := h2) (x := tS nm) rfl (N.get ha)
        have i2 := ix_n (h := h2) (x := tS nm) rfl (N.get hb)
        have i3 := ix_n (h := h2) (x := tS nm) rfl (N.get (O.lt ha hb))
        have i4 := ix_tbl (h := h2) (mul := B.mul) ha
        have i5 := ix_tblrow (h := h2) (mul := B.mul) (a := a) hb
        have i6 := M2.at_ (N.lt ha)
        obtain ⟨h3, s1, M3⟩ := M2.set (v := nf nm (B.mul a b)) (N.lt ha) (N.lt hb)
        simp [i1, i2, i3, i4, i5, i6, s1]
        refine ⟨_, M3, fun x hx y hy => ?_, fun y hy => ?_⟩
        · by_cases q : nf nm x = nf nm a ∧ nf nm y = nf nm b
          · have e1 := N.inj (hd x hx) ha q.1
            have e2 := N.inj hy hb q.2
            subst e1 e2
            simp
          · simp only [if_neg q]; exact hR2 x hx y hy
        · by_cases q : nf nm y = nf nm b
          · rcases hy with hy | rfl
            · have e2 := N.inj (hd2 y hy) hb q
              subst e2
              simp
            · simp
          · rcases hy with hy | rfl
            · simp [q, hR3 y hy]
            · exact absurd rfl q
      · rintro es h2 ⟨R2, y5, y6, M2, rfl, hR2, hR3⟩
        simp
        refine ⟨R2, M2, fun x hx y hy => ?_⟩
        rcases hx with hx | rfl
        · exact hR2 x hx y hy
        · exact hR3 y (by simpa using hy)
    · rintro es h' ⟨R, x4, x5, x6, M, rfl, hR⟩
      have hRR : ∀ x, x < B.n → ∀ y, y < B.n → R x y = (B.ren nm).mul x y := fun x hx y hy => by
        have := hR (un nm x) (by simpa using N.unlt hx) (un nm y) (N.unlt hy)
        rwa [N.nu hx, N.nu hy] at this
      obtain ⟨l, rfl, q⟩ := M.ex
      have wk : Wk (nxtR h.length, fuelL) ((List.range B.n).map fun i => SV.ref (h.length + 2 + 2 * i)) fun h' => ∃ acc, h' = (h ++ .lst (rfs h.length B.n) :: l) ++ [.lst acc] := by
        refine ⟨by simp [fuelL]; omega, fun h' hh i hi => ?_⟩
        obtain ⟨acc, rfl⟩ := hh
        simp [nxtR, rfs]
      simp
      refine wx_la (L := List.range B.n) (e := fun i => SV.ref (h.length + 2 + 2 * i)) (h1 := h ++ .lst (rfs h.length B.n) :: l) (fun i => (B.ren nm).row i) (by simp [iSeq]) wk (by simp; omega) (fun i acc hi => ⟨_, rfl, ?_⟩) ?_
      · have hi : i < B.n := by simpa using hi
        have er := M.row hi
        have er2 : ((h ++ EO.lst (rfs h.length B.n) :: l) ++ [.lst acc])[h.length + 2 + 2 * i]? = some (.lst ((nP ((List.range B.n).map fun j => R i j)).map .p)) := by
          rw [List.getElem?_append_left (List.getElem?_eq_some_iff.mp er).1, er, nP_nI]
          simp
        have tf := tupF_ref er2
        have ee : (List.range B.n).map (fun j => R i j) = (List.range B.n).map ((B.ren nm).mul i) := List.map_congr_left fun j hj => hRR i hi j (by simpa using hj)
        rw [ee] at tf
        rw [appL] at tf
        simp [ewipe]
        exact tf
      · have tl := tup_l (h := h ++ .lst (rfs h.length B.n) :: l) (xs := (List.range B.n).map fun i => (B.ren nm).row i) (by simp; omega)
        simp [tl, cutE_p]
        rfl
end
end K77

-- M19
/-! M19: the drawn tables are groups. -/
namespace EV
open PySem PySem.Spec L2
def mkB (n : Nat) (mul : Nat → Nat → Nat) : Tb := ⟨n, mul, fun a => ((List.range n).find? fun b => mul a b == 0).getD 0⟩
def okB (n : Nat) (mul : Nat → Nat → Nat) : Bool :=
  decide (0 < n) && decide (n ≤ 8) && (List.range n).all fun a => decide ((mkB n mul).inv a < n) && decide (mul 0 a = a) && decide (mul a 0 = a) && decide (mul ((mkB n mul).inv a) a = 0) && decide (mul a ((mkB n mul).inv a) = 0) &&
    (List.range n).all fun b => decide (mul a b < n) && (List.range n).all fun c => decide (mul (mul a b) c = mul a (mul b c))
theorem okB_ok {n : Nat} {mul : Nat → Nat → Nat} (h : okB n mul = true) : (mkB n mul).Ok := by
  simp only [okB, Bool.and_eq_true, decide_eq_true_eq, List.all_eq_true, List.mem_range] at h
  obtain ⟨⟨h0, h8⟩, h⟩ := h
  exact ⟨h0, h8, fun ha hb => ((h _ ha).2 _ hb).1, fun ha => (h _ ha).1.1.1.1.1, fun ha => (h _ ha).1.1.1.1.2, fun ha => (h _ ha).1.1.1.2, fun ha => (h _ ha).1.1.2, fun ha => (h _ ha).1.2, fun ha hb hc => ((h _ ha).2 _ hb).2 _ hc⟩
/-- what the law draws from -/
def bRing (m : Nat) : Tb := mkB m fun a b => (a + b) % m
def bPair (A B : Tb) : Tb := mkB (A.n * B.n) fun a b => A.mul (a / B.n) (b / B.n) * B.n + B.mul (a % B.n) (b % B.n)
end EV
namespace K77
open PySem PySem.Spec L2 EV
def bFlip (m : Nat) (half : Int) : Tb := mkB (2 * m) fun a b => (flI m half a b).toNat
def bases (k : Nat) : List Tb := [bRing (1 + k), bFlip 3 0, bFlip 4 0, bFlip 4 2, bPair (bRing 2) (bRing 2), bPair (bRing 2) (bRing 4), bPair (bRing 2) (bPair (bRing 2) (bRing 2)), bFlip 2 0]
theorem bases_ok : ∀ k, k < 8 → ∀ B ∈ bases k, B.Ok := by
  have r : ∀ k, k < 8 → (bRing (1 + k)).Ok := by
    have : ∀ k : Fin 8, okB (1 + k.val) (fun a b => (a + b) % (1 + k.val)) = true := by decide +kernel
    exact fun k hk => okB_ok (this ⟨k, hk⟩)
  have f1 : (bFlip 3 0).Ok := okB_ok (by decide +kernel)
  have f2 : (bFlip 4 0).Ok := okB_ok (by decide +kernel)
  have f3 : (bFlip 4 2).Ok := okB_ok (by decide +kernel)
  have f4 : (bPair (bRing 2) (bRing 2)).Ok := okB_ok (by decide +kernel)
  have f5 : (bPair (bRing 2) (bRing 4)).Ok := okB_ok (by decide +kernel)
  have f6 : (bPair (bRing 2) (bPair (bRing 2) (bRing 2))).Ok := okB_ok (by decide +kernel)
  have f7 : (bFlip 2 0).Ok := okB_ok (by decide +kernel)
  intro k hk B hB
  simp only [bases, List.mem_cons, List.not_mem_nil, or_false] at hB
  rcases hB with rfl | rfl | rfl | rfl | rfl | rfl | rfl | rfl
  · exact r k hk
  · exact f1
  · exact f2
  · exact f3
  · exact f4
  · exact f5
  · exact f6
  · exact f7
def bT (B : Tb) : PV := tbl B.n B.mul
section
variable {C : Cs} {h : List EO} {n m : Nat} {s : HS}
theorem flips_t {half : Int} (hm : 0 < m) (h1 : m ≤ 400) (hd : ∀ a, a < 2 * m → ∀ b, b < 2 * m → 0 ≤ flI m half a b) : cutR false h (F_law_flips C [nI m, .p (.int half)] h) = .ok (.p (bT (bFlip m half))) h := by
  rw [flips_r hm h1]
  refine congrArg (fun x => Res.ok (SV.p (PV.tup x)) h) (List.map_congr_left fun a ha => congrArg PV.tup ?_)
  show _ = nP _
  simp only [nP, List.map_map]
  refine List.map_congr_left fun b hb => ?_
  have := hd a (by simpa using ha) b (by simpa using hb)
  show PV.int _ = PV.int _
  congr 1
  show _ = ((flI m half a b).toNat : Int)
  omega
theorem mkL_f {xs : List PV} (h1 : xs.length ≤ 100000) : mkL false (xs.map .p) h = .ok (.p (.fl xs)) h := by
  have hz : (100000 : Nat) < sizeLine := by decide
  unfold mkL
  rw [if_pos (by simp; omega), if_neg (by decide), allP_map]
theorem add_fl {xs ys : List PV} (h1 : xs.length ≤ 1000) (h2 : ys.length ≤ 1000) : opAdd false (.p (.fl xs)) (.p (.fl ys)) h = .ok (.p (.fl (xs ++ ys))) h := by
  have hz : (100000 : Nat) < sizeLine := by decide
  have e : opAdd false (.p (.fl xs)) (.p (.fl ys)) h = if (xs.map SV.p).length + (ys.map SV.p).length ≤ sizeLine then mkL false (xs.map SV.p ++ ys.map SV.p) h else .bad := rfl
  rw [e, if_pos (by simp; omega), ← List.map_append, mkL_f (by simp; omega)]
theorem ring_t (hm : 0 < m) (h1 : m ≤ 1000) : cutR false h (F_law_ring C [nI m] h) = .ok (.p (bT (bRing m))) h := ring_r hm h1
theorem pair_t {A B : Tb} (h1 : 0 < B.n) (h2 : A.n * B.n ≤ 400) (h3 : B.n ≤ 400) : cutR false h (F_law_pairs C [.p (bT A), .p (bT B)] h) = .ok (.p (bT (bPair A B))) h := pairs_r h1 h2 h3
theorem len_bT {B : Tb} : lenK (.p (bT B)) h = .ok (nI B.n) h := len_tbl
theorem table_r (H : HH h n s) : ∃ (T : Tb) (s2 : HS), T.Ok ∧ 0 ≤ s2.pos ∧ cutR false h (F_law_table C [.ref n] h) = .ok (.p T.tab) (h.set n s2.o) := by
  refine wfg (G := fun r => ∃ (T : Tb) (s2 : HS), T.Ok ∧ 0 ≤ s2.pos ∧ r = .ok (.p T.tab) (h.set n s2.o)) ?_
  unfold m_law_table
  obtain ⟨k, s1, hk, hp1, e1⟩ := draw_r (C := C) H (m := 8) (by omega) (by omega)
  have H1 := H.step hp1
  have t2 := fun h => ring_t (C := C) (h := h) (m := 2) (by omega) (by omega)
  have t4 := fun h => ring_t (C := C) (h := h) (m := 4) (by omega) (by omega)
  have tk := fun h => ring_t (C := C) (h := h) (m := 1 + k) (by omega) (by omega)
  have f3 := fun h => flips_t (C := C) (h := h) (m := 3) (half := 0) (by omega) (by omega) (by decide +kernel)
  have f40 := fun h => flips_t (C := C) (h := h) (m := 4) (half := 0) (by omega) (by omega) (by decide +kernel)
  have f42 := fun h => flips_t (C := C) (h := h) (m := 4) (half := 2) (by omega) (by omega) (by decide +kernel)
  have f2 := fun h => flips_t (C := C) (h := h) (m := 2) (half := 0) (by omega) (by omega) (by decide +kernel)
  have p22 := fun h => pair_t (C := C) (h := h) (A := bRing 2) (B := bRing 2) (by decide) (by decide) (by decide)
  have p24 := fun h => pair_t (C := C) (h := h) (A := bRing 2) (B := bRing 4) (by decide) (by decide) (by decide)
  have p222 := fun h => pair_t (C := C) (h := h) (A := bRing 2) (B := bPair (bRing 2) (bRing 2)) (by decide) (by decide) (by decide)
  simp only [nI] at t2 t4 tk f3 f40 f42 f2 e1
  simp at t2 t4 tk f3 f40 f42 f2 e1
  have hset : ∀ s2 : HS, (h.set n s1.o).set n s2.o = h.set n s2.o := fun s2 => by simp
  have m4 := mkL_f (h := h.set n s1.o) (xs := [bT (bRing (1 + k)), bT (bFlip 3 0), bT (bFlip 4 0), bT (bFlip 4 2)]) (by simp)
  have m3 := mkL_f (h := h.set n s1.o) (xs := [bT (bPair (bRing 2) (bRing 2)), bT (bPair (bRing 2) (bRing 4)), bT (bPair (bRing 2) (bPair (bRing 2) (bRing 2)))]) (by simp)
  have m1 := mkL_f (h := h.set n s1.o) (xs := [bT (bFlip 2 0)]) (by simp)
  simp at m4 m3 m1
  obtain ⟨d, x, s2, hx, hp2, e2⟩ := any_r (C := C) H1 (xs := (bases k).map bT) (by simp [bases]) (by simp [bases])
  rw [List.getElem?_map, Option.map_eq_some_iff] at hx
  obtain ⟨B, hB, rfl⟩ := hx
  have OB := bases_ok k hk B (List.mem_of_getElem? hB)
  have h8 := OB.le
  rw [hset] at e2
  have H2 := H.step hp2
  obtain ⟨nm, s3, q1, q2, hp3, e3⟩ := names_r (C := C) H2 (m := B.n) OB.pos (by omega)
  have hset2 : (h.set n s2.o).set n s3.o = h.set n s3.o := by simp
  rw [hset2] at e3
  have ca := called_r (C := C) (h := h.set n s3.o) OB ⟨q1, q2⟩
  simp only [bases, List.map_cons, List.map_nil] at e2
  simp [List.replicate, t2, e1, tk, f3, f40, f42, m4, p22, t4, p24, p222, m3, f2, m1, add_fl, e2, len_bT, e3]
  change Wx (cutR false _ (F_law_called C [.p (tbl B.n B.mul), tS nm] _)) _ _
  rw [ca]
  simp [cutR_set H]
  exact ⟨_, OB.ren ⟨q1, q2⟩, _, hp3, rfl, rfl⟩
end
end K77

-- M20
/-! M20: a group made of its table. -/
namespace EV
open PySem PySem.Spec L2
section
variable {h : List EO} {T : Tb} {a b : Nat}
theorem wk_e {m : Nat} {f : Nat → PV} (P : List EO → Prop) : Wk (nxtE ((List.range m).map f), m + 1) ((List.range m).map fun i => SV.p (.tup [.int (i : Nat), f i])) P := by
  refine ⟨by simp, fun h' _ i hi => ?_⟩
  simp at hi
  by_cases q : i < m
  · simp [nxtE, q]
  · have : i = m := by omega
    simp [nxtE, this]
theorem en_r {es : Es} {fa : ME} {m : Nat} {f : Nat → PV} {p : PV} (ef : fa es h = .ok (.p p) h) (e : seqP p = some ((List.range m).map f)) : iEn (aCons fa aNil) es h = .ok (nxtE ((List.range m).map f), m + 1) h := by
  simp only [iEn, aCons_r, ef, rbind_ok, aNil_r, e, List.length_map, List.length_range]
theorem row_len : lenK (.p (T.row a)) h = .ok (nI T.n) h := by simp [Tb.row]
theorem tab_len : lenK (.p T.tab) h = .ok (nI T.n) h := by simp [Tb.tab]
theorem rgS0 (n : Nat) : rgS 0 (n : Nat) = nP (List.range n) := by simp [rgS, nP]
theorem toD_row : toD (T.row a) = some (tD ((List.range T.n).map (T.mul a))) := toD_ftp _
theorem pl_row (O : T.Ok) (ha : a < T.n) : Pl 1 144 (tD ((List.range T.n).map (T.mul a))) := by
  have h8 := O.le
  refine pl_tD (fun x hx => ?_) (by simp; omega)
  obtain ⟨b, hb, rfl⟩ := List.mem_map.mp hx
  have := O.lt ha (by simpa using hb)
  omega
end
end EV
namespace K77
open PySem PySem.Spec L2 EV
section
variable {C : Cs} {h : List EO} {T : Tb}
theorem goes_r (O : T.Ok) : cutR false h (F_goes_together C [.p T.tab] h) = .ok (.p (.bl true)) h := by
  have h8 := O.le
  have hz : (1000 : Nat) < sizeLine := by decide
  refine wfd ?_
  unfold m_goes_together
  simp [List.replicate]
  refine wfor (L := List.range T.n) (e := fun a => SV.p (T.row a)) (h1 := h) (w := (nxtL (((List.range T.n).map T.row).map .p), ((List.range T.n).map T.row).length + 1)) (iSeqT (xs := (List.range T.n).map T.row) (by simp; rfl)) (by have := wk_p ((List.range T.n).map T.row) (fun _ => True); rw [List.map_map] at this; rwa [List.map_map]) (fun d es h' => h' = h ∧ ∃ x1 x2 x3 x4, es = [some (.p T.tab), x1, x2, x3, x4]) (P := fun _ => True) (fun _ _ _ _ => trivial) ⟨rfl, _, _, _, _, rfl⟩ ?_ ?_
  · rintro d a t es h' el ⟨rfl, x1, x2, x3, x4, rfl⟩
    have ha : a < T.n := by
      have : a ∈ List.range T.n := by rw [el]; simp
      simpa using this
    simp
    refine wfor (L := List.range T.n) (e := fun i => SV.p (.tup [.int (i : Nat), .int (T.mul a i : Nat)])) (h1 := h') (w := (nxtE ((List.range T.n).map fun i => PV.int (T.mul a i : Nat)), T.n + 1)) (en_r (p := T.row a) (f := fun i => PV.int (T.mul a i : Nat)) (by simp) (by simp [Tb.row, seqP, nP])) (wk_e _) (fun d es h2 => h2 = h' ∧ ∃ x2 x3 x4, es = [some (.p T.tab), some (.p (T.row a)), x2, x3, x4]) (P := fun _ => True) (fun _ _ _ _ => trivial) ⟨rfl, _, _, _, rfl⟩ ?_ ?_
    · rintro d2 b t2 es h2 el2 ⟨rfl, y2, y3, y4, rfl⟩
      have hb : b < T.n := by
        have : b ∈ List.range T.n := by rw [el2]; simp
        simpa using this
      have i1 := fun h => ix_tab (T := T) (h := h) hb
      have i2 := fun h => ix_tab (T := T) (h := h) (O.lt ha hb)
      simp [gTp, tupOf]
      refine wx_la (L := List.range T.n) (e := fun c => nI (T.mul b c)) (h1 := h2) (w := (nxtL ((nP ((List.range T.n).map (T.mul b))).map .p), (nP ((List.range T.n).map (T.mul b))).length + 1)) (fun c => .int (T.mul a (T.mul b c) : Nat)) (iSeq_p (p := T.row b) (h1 := h2) rfl (by simp [i1])) (by have := wk_nP ((List.range T.n).map (T.mul b)) (fun h' => ∃ acc, h' = h2 ++ [.lst acc]); rw [List.map_map] at this; exact this) (by simp; omega) (fun c acc hc => ⟨_, rfl, ?_⟩) ?_
      · have hc : c < T.n := by simpa using hc
        have i3 := ix_row (T := T) (h := h2 ++ [.lst acc]) (a := a) (O.lt hb hc)
        simp [ewipe, i3]
      · rw [← nP_map]
        have e1 : (List.range T.n).map (fun c => T.mul a (T.mul b c)) = (List.range T.n).map (T.mul (T.mul a b)) := List.map_congr_left fun c hc => (O.as ha hb (by simpa using hc)).symm
        rw [e1]
        have tu := tup_n (h := h2) (l := (List.range T.n).map (T.mul (T.mul a b))) (by simp; omega)
        have ne := eq_r (h := h2) (g := fun d e => !PyData.eqv d e) (x := .p (.tup (nP ((List.range T.n).map (T.mul (T.mul a b)))))) (y := .p (T.row (T.mul a b))) (toD_tup _) toD_row (pl_row O (O.lt ha hb)) (pl_row O (O.lt ha hb)) (by omega)
        rw [tD_eqv] at ne
        simp at ne
        simp [tu, i2, ne]
    · rintro es h2 ⟨rfl, y2, y3, y4, rfl⟩
      simp
  · rintro es h2 ⟨rfl, x1, x2, x3, x4, rfl⟩
    simp
theorem wk_rows (P : List EO → Prop) : Wk (nxtL (((List.range T.n).map T.row).map .p), ((List.range T.n).map T.row).length + 1) ((List.range T.n).map fun a => SV.p (T.row a)) P := by
  have := wk_p ((List.range T.n).map T.row) P
  rw [List.map_map] at this
  rw [List.map_map]
  exact this
theorem wk_row {a : Nat} (P : List EO → Prop) : Wk (nxtL ((nP ((List.range T.n).map (T.mul a))).map .p), (nP ((List.range T.n).map (T.mul a))).length + 1) ((List.range T.n).map fun b => nI (T.mul a b)) P := by
  have := wk_nP ((List.range T.n).map (T.mul a)) P
  rw [List.map_map] at this
  exact this
theorem in_row {a : Nat} (O : T.Ok) (ha : a < T.n) : isInK (.p (.int 0)) (.p (T.row a)) h = some true := by
  have h8 := O.le
  have hl : ∀ b ∈ (List.range T.n).map (T.mul a), b < T.n := fun b hb => by
    obtain ⟨c, hc, rfl⟩ := List.mem_map.mp hb
    exact O.lt ha (by simpa using hc)
  have p1 := pl_nd (i := 0) (by omega)
  have p2 := pl_row O ha
  have e1 : svD h (.p (.int 0)) = some (nd 0) := rfl
  have e2 : svD h (.p (T.row a)) = some (tD ((List.range T.n).map (T.mul a))) := toD_row
  have e3 : dctOf h (.p (T.row a)) = none := rfl
  have e4 : isInK (.p (.int 0)) (.p (T.row a)) h = (match svD h (.p (.int 0)), svD h (.p (T.row a)) with
      | some d, some (.list ds) => if SeqAt.shaped d = true ∧ SeqAt.shaped (.list ds) = true then some (ds.any fun z => PyData.eqv z d) else none
      | some d, some (.tuple ds) => if SeqAt.shaped d = true ∧ SeqAt.shaped (.tuple ds) = true then some (ds.any fun z => PyData.eqv z d) else none
      | _, _ => none) := rfl
  rw [e4, e1, e2]
  simp only [tD]
  rw [if_pos ⟨p1.shaped (by omega), p2.shaped (by omega)⟩]
  congr 1
  rw [List.any_eq_true]
  exact ⟨nd 0, List.mem_map.mpr ⟨0, List.mem_map.mpr ⟨T.inv a, by simpa using O.ilt ha, O.ri ha⟩, rfl⟩, by rw [nd_eqv]; simp⟩
theorem init_r (O : T.Ok) : cutR false h (mkM C.Group (F_Group__init__ C) [.p T.tab] h) = .ok (.p (grp C T)) h := by
  have h8 := O.le
  have hpos := O.pos
  have hz : (1000 : Nat) < sizeLine := by decide
  have key : F_Group__init__ C (.ref h.length :: [.p T.tab]) (h ++ [.ins C.Group []]) = Res.ok (SV.p .non) (h ++ [.ins C.Group [("table", .p T.tab), ("many", nI T.n), ("backs", .p (.tup (nP ((List.range T.n).map T.inv))))]]) := by
    refine wrn (G := fun r => r = Res.ok (SV.p .non) (h ++ [.ins C.Group [("table", .p T.tab), ("many", nI T.n), ("backs", .p (.tup (nP ((List.range T.n).map T.inv))))]])) ?_
    unfold m_Group__init__
    have q0 := is_tuple_r (C := C) (h := h ++ [.ins C.Group []]) (xs := (List.range T.n).map T.row) 1 32
    have q0' : (decide (1 ≤ ((((List.range T.n).map T.row).length : Nat) : Int)) && decide (((((List.range T.n).map T.row).length : Nat) : Int) ≤ 32)) = true := by simp; omega
    rw [q0'] at q0
    have q1 : cutR false (h ++ [.ins C.Group []]) (F_is_tuple C [.p T.tab, .p (.int 1), .p (.int 32)] (h ++ [.ins C.Group []])) = .ok (.p (.bl true)) (h ++ [.ins C.Group []]) := q0
    simp [List.replicate, q1, tab_len]
    refine wfor (L := List.range T.n) (e := fun i => SV.p (.tup [.int (i : Nat), T.row i])) (h1 := h ++ [.ins C.Group []]) (en_r (p := T.tab) (f := T.row) (by simp) rfl) (wk_e _) (fun d es h2 => h2 = h ++ [.ins C.Group []] ∧ ∃ x3 x4 x5, es = [some (.ref h.length), some (.p T.tab), some (nI T.n), x3, x4, x5]) (P := fun _ => True) (fun _ _ _ _ => trivial) ⟨rfl, _, _, _, rfl⟩ ?_ ?_
    · rintro d a t es h2 el ⟨rfl, x3, x4, x5, rfl⟩
      have ha : a < T.n := by
        have : a ∈ List.range T.n := by rw [el]; simp
        simpa using this
      have q2 := is_tuple_f (C := C) (h := h ++ [.ins C.Group []]) (xs := nP ((List.range T.n).map (T.mul a))) (T.n : Nat) (T.n : Nat)
      have q2' : cutR false (h ++ [.ins C.Group []]) (F_is_tuple C [.p (T.row a), nI T.n, nI T.n] (h ++ [.ins C.Group []])) = .ok (.p (.bl true)) (h ++ [.ins C.Group []]) := by
        rw [show SV.p (T.row a) = SV.p (PV.ftp (nP ((List.range T.n).map (T.mul a)))) from rfl, q2]
        simp
      simp [gTp, tupOf, q2']
      refine wx_la (L := List.range T.n) (e := fun b => nI (T.mul a b)) (h1 := h ++ [.ins C.Group []]) (fun b => .bl true) (iSeq_p (p := T.row a) rfl (by simp)) (wk_row _) (by simp; omega) (fun b acc hb => ⟨_, rfl, ?_⟩) ?_
      · have hb : b < T.n := by simpa using hb
        have := O.lt ha hb
        simp [ewipe, opInt, within_r]
        omega
      · simp only [kA1_r, aNil_r, wx_ok, kA2_r, kG_r, f1_r, all_fl]
        simp
    · rintro es h2 ⟨rfl, x3, x4, x5, rfl⟩
      have i0 := fun h => ix_tab (T := T) (h := h) hpos
      have e0 : (List.range T.n).map (T.mul 0) = List.range T.n := by
        conv => rhs; rw [← List.map_id (List.range T.n)]
        exact List.map_congr_left fun b hb => O.l1 (by simpa using hb)
      have lr : listK false (.p (T.row 0)) (h ++ [.ins C.Group []]) = .ok (.p (.fl (nP (List.range T.n)))) (h ++ [.ins C.Group []]) := by
        have : listK false (.p (T.row 0)) (h ++ [.ins C.Group []]) = mkL false ((nP ((List.range T.n).map (T.mul 0))).map .p) (h ++ [.ins C.Group []]) := rfl
        rw [this, e0, mkL_f (by simp; omega)]
      have rg : RgOk 0 (T.n : Nat) := rgok (by omega) (by omega) (by omega) (by omega)
      have pl : Pl 1 144 (.list ((List.range T.n).map nd)) := pl_lst (w := 8) (fun d hd => by
        obtain ⟨a, ha, rfl⟩ := List.mem_map.mp hd
        exact pl_nd (by have : a < T.n := by simpa using ha
                        omega)) (by simp; omega)
      have ne := fun h => eq_r (h := h) (g := fun d e => !PyData.eqv d e) (x := .p (.fl (nP (List.range T.n)))) (y := .p (.fl (nP (List.range T.n)))) (sv_fl (toDs_n _)) (sv_fl (toDs_n _)) pl pl (by omega)
      have ee : (!PyData.eqv (.list ((List.range T.n).map nd)) (.list ((List.range T.n).map nd))) = false := by
        simp only [PyData.eqv, eqvAll_of nd_eqv, decide_true, Bool.not_true]
      simp only [ee] at ne
      simp at i0
      simp [i0, lr, lrg_f rg, rgS0, ne]
      refine wx_la (L := List.range T.n) (e := fun a => SV.p (T.row a)) (h1 := h ++ [.ins C.Group []]) (fun a => .int (a : Nat)) (iSeqT (xs := (List.range T.n).map T.row) (by simp; rfl)) (wk_rows _) (by simp; omega) (fun a acc ha => ⟨_, rfl, ?_⟩) ?_
      · have ha : a < T.n := by simpa using ha
        have := ix_row (T := T) (h := h ++ [.ins C.Group []] ++ [.lst acc]) (a := a) hpos
        simp [O.r1 ha] at this
        simp [ewipe, this]
      have ne2 := ne (h ++ [.ins C.Group []])
      simp only [nP] at ne2
      simp [lrg_f rg, rgS0, nP, ne2]
      refine wx_la (L := List.range T.n) (e := fun a => SV.p (T.row a)) (h1 := h ++ [.ins C.Group []]) (fun a => .bl true) (iSeqT (xs := (List.range T.n).map T.row) (by simp; rfl)) (wk_rows _) (by simp; omega) (fun a acc ha => ⟨_, rfl, ?_⟩) ?_
      · have ha : a < T.n := by simpa using ha
        simp [ewipe, opIn_f (in_row O ha)]
      simp only [kA1_r, aNil_r, wx_ok, kA2_r, kG_r, f1_r, all_fl]
      have pu1 := putK_r (C := C.Group) (h := h ++ [EO.ins C.Group []]) (n := h.length) (os := []) (fn := "table") (y := .p T.tab) (es := [some (.ref h.length), some (.p T.tab), some (nI T.n), x3, x4, x5]) getL0 (by simp)
      have pu2 := putK_r (C := C.Group) (h := h ++ [EO.ins C.Group [("table", .p T.tab)]]) (n := h.length) (os := [("table", .p T.tab)]) (fn := "many") (y := nI T.n) (es := [some (.ref h.length), some (.p T.tab), some (nI T.n), x3, x4, x5]) getL0 (by simp)
      simp at pu1 pu2
      have n1 : ¬ (("table" : Str) = ("many" : Str)) := by decide
      have n2 : ¬ (("table" : Str) = ("backs" : Str)) := by decide
      have n3 : ¬ (("many" : Str) = ("backs" : Str)) := by decide
      simp [goes_r O, pu1, pu2, putS, n1]
      refine wx_la (L := List.range T.n) (e := fun a => SV.p (T.row a)) (h1 := h ++ [.ins C.Group [("table", .p T.tab), ("many", nI T.n)]]) (fun a => .int (T.inv a : Nat)) (iSeqT (xs := (List.range T.n).map T.row) (by simp; rfl)) (wk_rows _) (by simp; omega) (fun a acc ha => ⟨_, rfl, ?_⟩) ?_
      · have ha : a < T.n := by simpa using ha
        have ty : ∀ h, tyS "tuple" (.p (T.row a)) h = true := fun _ => rfl
        simp [ewipe, ty, ix0_row O ha]
      rw [← nP_map]
      have pu3 := putK_r (C := C.Group) (h := h ++ [EO.ins C.Group [("table", .p T.tab), ("many", nI T.n)]]) (n := h.length) (os := [("table", .p T.tab), ("many", nI T.n)]) (fn := "backs") (y := .p (.tup (nP ((List.range T.n).map T.inv)))) (es := [some (.ref h.length), some (.p T.tab), some (nI T.n), x3, x4, x5]) getL0 (by simp)
      have tu := tup_n (h := h ++ [EO.ins C.Group [("table", .p T.tab), ("many", nI T.n)]]) (l := (List.range T.n).map T.inv) (by simp; omega)
      simp [nP] at tu pu3
      simp [tu, pu3, putS, n2, n3, nP]
  unfold mkM
  rw [key]
  have e : (h ++ [EO.ins C.Group [("table", .p T.tab), ("many", nI T.n), ("backs", .p (.tup (nP ((List.range T.n).map T.inv))))]])[h.length]? = some (.ins C.Group [("table", .p T.tab), ("many", nI T.n), ("backs", .p (.tup (nP ((List.range T.n).map T.inv))))]) := getL0
  simp [cutR, cut_app, frzO, allP, grp]
end
end K77

-- M21
/-! M21: keepers are a part; what is kept by leading; even groups. -/
namespace K77
open PySem PySem.Spec L2 EV
section
variable {T : Tb} {a b c : Nat}
theorem keep_iff (O : T.Ok) {S : List Nat} (hS : ∀ s ∈ S, s < T.n) : b ∈ keepL T (Tb.gen T S) ↔ b < T.n ∧ ∀ a, Gen T S a → Gen T S (T.cj a b) := by
  have U := gen_sub O hS
  have hQ : ∀ x, x ∈ Tb.gen T S ↔ Gen T S x := fun x => ⟨fun q => (mem_can.mp q).2, fun q => mem_can.mpr ⟨U.lt q, q⟩⟩
  simp only [keepL, List.mem_filter, List.mem_range, decide_eq_true_eq]
  refine and_congr_right fun hb => ⟨fun e a ha => ?_, fun h => ?_⟩
  · rw [← hQ, ← e]
    exact mem_can.mpr ⟨O.cjlt (U.lt ha) hb, a, (hQ a).mpr ha, rfl⟩
  · have hp := ledL_perm O (l := Tb.gen T S) (b := b) (fun a ha => (mem_can.mp ha).1) (can_nodup _ _) hb
    have nd : ((Tb.gen T S).map fun a => T.cj a b).Nodup := hp.nodup_iff.mp (can_nodup _ _)
    have hs : ((Tb.gen T S).map fun a => T.cj a b) ⊆ Tb.gen T S := fun x hx => by
      obtain ⟨a, ha, rfl⟩ := List.mem_map.mp hx
      exact (hQ _).mpr (h a ((hQ a).mp ha))
    refine asc_ext (can_lt _ _) (can_lt _ _) fun x => ?_
    rw [hp.mem_iff]
    exact ⟨fun q => hs q, fun q => mem_of_all nd hs (by simp) q⟩
theorem keep_sub (O : T.Ok) {S : List Nat} (hS : ∀ s ∈ S, s < T.n) : Sub T (fun x => x ∈ keepL T (Tb.gen T S)) := by
  have U := gen_sub O hS
  refine sub_of O (fun {x} hx => (keepL_lt.1 x hx)) ((keep_iff O hS).mpr ⟨O.pos, fun a ha => by rw [O.cj0 (U.lt ha)]; exact ha⟩) fun {x y} hx hy => ?_
  obtain ⟨x1, x2⟩ := (keep_iff O hS).mp hx
  obtain ⟨y1, y2⟩ := (keep_iff O hS).mp hy
  exact (keep_iff O hS).mpr ⟨O.lt x1 y1, fun a ha => by rw [← O.cj_mul (U.lt ha) x1 y1]; exact y2 _ (x2 a ha)⟩
theorem cls_congr {n : Nat} {Q : Nat → Prop} {R1 R2 : Nat → Nat → Prop} (h : ∀ a b, Q a → Q b → (R1 a b ↔ R2 a b)) : classes n Q R1 = classes n Q R2 := by
  unfold classes
  have e1 : can n (Least Q R1) = can n (Least Q R2) := can_congr fun i _ => by
    unfold Least
    refine and_congr_right fun hi => forall_congr' fun y => ?_
    constructor
    · intro q hy r; exact q hy ((h i y hi hy).mpr r)
    · intro q hy r; exact q hy ((h i y hi hy).mp r)
  rw [e1]
  refine List.map_congr_left fun a ha => can_congr fun i _ => ?_
  have := (mem_can.mp ha).2.1
  exact and_congr_right fun hi => h a i this hi
theorem cls_of {n : Nat} {Q : Nat → Prop} {R : Nat → Nat → Prop} (V : Eqv n Q R) {b : Nat} (hb : Q b) : ∃ l ∈ classes n Q R, ∃ z, Least Q R z ∧ l = clsOf n Q R z ∧ R z b := by
  have main : ∀ k, (∃ y, y ≤ k ∧ Q y ∧ R b y) → ∃ z, Least Q R z ∧ R z b := by
    intro k
    induction k with
    | zero =>
      rintro ⟨y, hy, q, r⟩
      refine ⟨y, ⟨q, fun x hx rx => by omega⟩, V.symm hb r⟩
    | succ k ih =>
      rintro ⟨y, hy, q, r⟩
      by_cases hk : ∃ y, y ≤ k ∧ Q y ∧ R b y
      · exact ih hk
      · refine ⟨y, ⟨q, fun x hx rx => ?_⟩, V.symm hb r⟩
        refine Nat.le_of_not_lt fun hlt => hk ⟨x, by omega, hx, V.trans hb r rx⟩
  obtain ⟨z, hz, hr⟩ := main b ⟨b, Nat.le_refl _, hb, V.refl hb⟩
  exact ⟨_, List.mem_map.mpr ⟨z, mem_can.mpr ⟨V.lt hz.1, hz⟩, rfl⟩, z, hz, rfl, hr⟩
open Classical in
theorem kept_leading_iff (O : T.Ok) {S : List Nat} (hS : ∀ s ∈ S, s < T.n) : (classes T.n (Gen T S) (Led T fun x => x ∈ keepL T (Tb.gen T S)) = TogL T S) ↔ ∀ l ∈ TogL T S, KLd T S l := by
  have U := gen_sub O hS
  have UK := keep_sub O hS
  have V := eqv_of O hS (all_sub O)
  have VK := eqv_of O hS UK
  constructor
  · intro e l hl b hb
    rw [← e] at hl
    obtain ⟨z, hz, _, rfl⟩ := cls_mem hl
    obtain ⟨t, e2⟩ := cls_first VK hz
    have hb2 := (mem_can.mp hb).2.2
    rw [e2]
    exact hb2
  · intro h
    refine cls_congr fun a b ha hb => ⟨fun ⟨x, hx, e⟩ => ⟨x, UK.lt hx, e⟩, fun r => ?_⟩
    obtain ⟨l, hl, z, hz, rfl, hza⟩ := cls_of V ha
    obtain ⟨t, e2⟩ := cls_first V hz
    have k := h _ hl
    have q1 := k a (mem_can.mpr ⟨V.lt ha, ha, hza⟩)
    have q2 := k b (mem_can.mpr ⟨V.lt hb, hb, V.trans hz.1 hza r⟩)
    rw [e2] at q1 q2
    exact VK.trans ha (VK.symm hz.1 q1) q2
/-! even groups -/
theorem even_led (O : T.Ok) (he : ∀ a, a < T.n → ∀ b, b < T.n → T.mul a b = T.mul b a) (ha : a < T.n) (hb : b < T.n) : T.cj a b = a := by
  simp only [Tb.cj]
  rw [he _ (O.ilt hb) _ ha, O.as ha (O.ilt hb) hb, O.li hb, O.r1 ha]
theorem even_tog (O : T.Ok) {S : List Nat} (hS : ∀ s ∈ S, s < T.n) (he : ∀ a, a < T.n → ∀ b, b < T.n → T.mul a b = T.mul b a) : TogL T S = (Tb.gen T S).map fun a => [a] := by
  have V := eqv_of O hS (all_sub O)
  have hr : ∀ a b, Gen T S a → (Led T (fun x => x < T.n) a b ↔ a = b) := fun a b ha => by
    constructor
    · rintro ⟨x, hx, e⟩; rw [even_led O he (V.lt ha) hx] at e; exact e
    · intro e; subst e; exact V.refl ha
  unfold TogL classes
  have e1 : can T.n (Least (Gen T S) (Led T fun x => x < T.n)) = Tb.gen T S := can_congr fun i _ => by
    constructor
    · intro q; exact q.1
    · intro q
      refine ⟨q, fun y hy r => ?_⟩
      rw [(hr i y q).mp r]; exact Nat.le_refl _
  rw [e1]
  refine List.map_congr_left fun a ha => ?_
  have hQ : Gen T S a := (mem_can.mp ha).2
  refine asc_ext (can_lt _ _) (by simp) fun x => ?_
  unfold clsOf
  rw [mem_can, List.mem_singleton]
  constructor
  · rintro ⟨_, _, r⟩; exact ((hr a x hQ).mp r).symm
  · intro e; subst e; exact ⟨V.lt hQ, hQ, V.refl hQ⟩
theorem even_dif (O : T.Ok) {S : List Nat} (hS : ∀ s ∈ S, s < T.n) (he : ∀ a, a < T.n → ∀ b, b < T.n → T.mul a b = T.mul b a) : Tb.gen T (difL T S) = [0] := by
  have hd : ∀ x ∈ difL T S, x = 0 := by
    intro x hx
    unfold difL at hx
    rw [even_tog O hS he] at hx
    simp only [List.mem_flatMap, List.mem_map] at hx
    obtain ⟨l, ⟨a, ha, rfl⟩, b, hb, c, hc, rfl⟩ := hx
    simp at hb hc
    subst hb hc
    exact O.li (mem_can.mp ha).1
  refine asc_ext (can_lt _ _) (by simp) fun x => ?_
  show x ∈ can T.n (Com T.mul (fun _ => true) (difL T S) 0) ↔ _
  rw [mem_can, List.mem_singleton]
  constructor
  · rintro ⟨hx, q⟩
    clear hx
    induction q with
    | at_ => rfl
    | go h hs k ih => rw [hd _ hs, ih]; exact O.l1 O.pos
  · intro e; subst e; exact ⟨O.pos, .at_⟩
end
end K77

-- K77b
namespace K77
open PySem PySem.Spec L2 EV PyProof.Rows
section
variable {P : Program} {w : World} {K : PySem.W.Frag} {mg : Str → Option Value} {base : Heap} {C : Cs} {f : Addr} {fd : FuncData}
theorem sc_law : FnScope ["script", "hand", "turn", "rows", "group", "many", "part", "every", "together_so", "within_so", "told_lists", "keepers_here", "some", "lot", "one", "due", "by", "bad", "said", "member", "a", "pair", "other", "row"] ["script"] (defScope s_law) := ⟨rfl, rfl, rfl, by decide +kernel, rfl, by decide +kernel, by decide +kernel⟩
theorem sc_law_is_refused : FnScope ["call", "error"] ["call"] (defScope s_law_is_refused) := ⟨rfl, rfl, rfl, by decide +kernel, rfl, by decide +kernel, by decide +kernel⟩
abbrev XL (P : Program) (w : World) (K : PySem.W.Frag) (mg : Str → Option Value) (base : Heap) (f c : Addr) (s : Shared) (H : Hp) : Cx := cxOf (L2.CX P w) P w K mg base ["script", "hand", "turn", "rows", "group", "many", "part", "every", "together_so", "within_so", "told_lists", "keepers_here", "some", "lot", "one", "due", "by", "bad", "said", "member", "a", "pair", "other", "row"] "law" (defScope s_law) f (.ref c) callerA [] s H fun _ _ _ => False
abbrev EL : XK := fun _ _ _ => False
abbrev noS : Stmt := .Pass ⟨0, 0, 0, 0⟩
def forBody (s : Stmt) : List Stmt := match s with
  | .For _ _ b _ _ => b
  | _ => []
noncomputable def law_0 (C : Cs) (Pt : Addr) : MS :=
  (sSet 1 (eCallM true (F_law_hand C) (aCons (eVar 0) aNil)))
noncomputable def law_1_0 (C : Cs) (Pt : Addr) : MS :=
  (sSet 3 (eCallM false (F_law_table C) (aCons (eVar 1) aNil)))
noncomputable def law_1_1 (C : Cs) (Pt : Addr) : MS :=
  (sUnp 2 (gsCons (gNm 4) (gsCons (gNm 5) gsNil)) (aCons (eCallM false (mkM C.Group (F_Group__init__ C)) (aCons (eVar 3) aNil)) (aCons (eCall (f1 lenK) (aCons (eVar 3) aNil)) aNil)))
noncomputable def law_1_2 (C : Cs) (Pt : Addr) : MS :=
  (sSet 6 (eCallM false (F_law_closed C) (aCons (eVar 3) (aCons (eLc false (eRng1 (aCons (eCallM false (F_law_draw C) (aCons (eVar 1) (aCons (eC (.int 3)) aNil))) aNil)) (gNm 19) tTrue (eCallM false (F_law_draw C) (aCons (eVar 1) (aCons (eVar 5) aNil))) [19]) aNil))))
noncomputable def law_1_3 (C : Cs) (Pt : Addr) : MS :=
  (sSet 7 (eTrg1 (eVar 5)))
noncomputable def law_1_4 (C : Cs) (Pt : Addr) : MS :=
  (sPar 8 9 (aCons (eCallM false (F_law_lists C) (aCons (eVar 3) (aCons (eVar 6) (aCons (eVar 7) aNil)))) (aCons (eCallM false (F_law_lists C) (aCons (eVar 3) (aCons (eVar 6) (aCons (eVar 6) aNil)))) aNil)))
noncomputable def law_1_5 (C : Cs) (Pt : Addr) : MS :=
  (sSet 10 (eLst false (aCons (eLc false (iSeq (eCallM false (F_led_together C) (aCons (eVar 4) (aCons (eVar 6) aNil)))) (gNm 13) tTrue (eCall (f1 tupK) (aCons (eVar 13) aNil)) [13]) aNil)))
noncomputable def law_1_6 (C : Cs) (Pt : Addr) : MS :=
  (sSet 10 (eBin (opAdd false) (eVar 10) (eLst false (aCons (eLc false (iSeq (eCallM false (F_led_within C) (aCons (eVar 4) (aCons (eVar 6) aNil)))) (gNm 13) tTrue (eCall (f1 tupK) (aCons (eVar 13) aNil)) [13]) aNil))))
noncomputable def law_1_7 (C : Cs) (Pt : Addr) : MS :=
  (sIf (tB_ (eBin cNe (eVar 10) (eLst false (aCons (eVar 8) (aCons (eVar 9) aNil))))) (sRet (eC (.bl false))) sNil)
noncomputable def law_1_8 (C : Cs) (Pt : Addr) : MS :=
  (sIf (tB_ (eBin cNe (eCall (f1 reprK) (aCons (eCallM false (F_keeps_leading C) (aCons (eVar 4) (aCons (eVar 6) aNil))) aNil)) (eCall (f1 reprK) (aCons (eBin cEq (eVar 8) (eVar 9)) aNil)))) (sRet (eC (.bl false))) sNil)
noncomputable def law_1_9 (C : Cs) (Pt : Addr) : MS :=
  (sSet 11 (eLc false (iSeq (eVar 7)) (gNm 16) (tB_ (eBin cEq (eCallM false (F_law_part_led C) (aCons (eVar 3) (aCons (eVar 6) (aCons (eVar 16) aNil)))) (eVar 6))) (eVar 16) [16]))
noncomputable def law_1_10 (C : Cs) (Pt : Addr) : MS :=
  (sIf (tB_ (eBin cNe (eCall (f1 reprK) (aCons (eCallM false (F_is_kept_leading C) (aCons (eVar 4) (aCons (eVar 6) aNil))) aNil)) (eCall (f1 reprK) (aCons (eBin cEq (eCallM false (F_law_lists C) (aCons (eVar 3) (aCons (eVar 6) (aCons (eVar 11) aNil)))) (eVar 8)) aNil)))) (sRet (eC (.bl false))) sNil)
noncomputable def law_1_11 (C : Cs) (Pt : Addr) : MS :=
  (sSet 12 (eLst true aNil))
noncomputable def law_1_12_0_0 (C : Cs) (Pt : Addr) : MS :=
  (sExpr (eM "list" mExtend (eVar 12) (aCons (eLc false (iSeq (eVar 13)) (gNm 22) tTrue (eBin ixF (eBin ixF (eVar 3) (eM "tuple" mTupIx (eBin ixF (eVar 3) (eVar 14)) (aCons (eC (.int 0)) aNil))) (eVar 22)) [22]) aNil)))
noncomputable def law_1_12_0 (C : Cs) (Pt : Addr) : MS :=
  (sFor (iSeq (eVar 13)) (gNm 14) (law_1_12_0_0 C Pt))
noncomputable def law_1_12 (C : Cs) (Pt : Addr) : MS :=
  (sFor (iSeq (eVar 8)) (gNm 13) (law_1_12_0 C Pt))
noncomputable def law_1_13 (C : Cs) (Pt : Addr) : MS :=
  (sIf (tB_ (eBin cNe (eCall (f1 reprK) (aCons (eCallM false (F_differences C) (aCons (eVar 4) (aCons (eVar 6) aNil))) aNil)) (eCall (f1 reprK) (aCons (eCallM false (F_law_closed C) (aCons (eVar 3) (aCons (eVar 12) aNil))) aNil)))) (sRet (eC (.bl false))) sNil)
noncomputable def law_1_14 (C : Cs) (Pt : Addr) : MS :=
  (sSet 15 (eNewD true true))
noncomputable def law_1_15_0 (C : Cs) (Pt : Addr) : MS :=
  (sExpr (eM "dict" mSetd (eVar 15) (aCons (eCallM false (F_law_part_led C) (aCons (eVar 3) (aCons (eVar 6) (aCons (eVar 16) aNil)))) (aCons (eVar 16) aNil))))
noncomputable def law_1_15 (C : Cs) (Pt : Addr) : MS :=
  (sFor (iSeq (eVar 7)) (gNm 16) (law_1_15_0 C Pt))
noncomputable def law_1_16 (C : Cs) (Pt : Addr) : MS :=
  (sIf (tB_ (eBin cNe (eCall (f1 reprK) (aCons (eLc false (iSeq (eCallM false (F_moves_of C) (aCons (eVar 4) (aCons (eVar 6) aNil)))) (gNm 21) tTrue (eCall (f1 tupK) (aCons (eVar 21) aNil)) [21]) aNil)) (eCall (f1 reprK) (aCons (eSortIt (eVar 15)) aNil)))) (sRet (eC (.bl false))) sNil)
noncomputable def law_1_17 (C : Cs) (Pt : Addr) : MS :=
  (sIf (tB_ (eCall (f1 allK) (aCons (eLc false (iSeq (eVar 7)) (gNm 20) tTrue (eBin cEq (eBin ixF (eVar 3) (eVar 20)) (eCall (f1 tupK) (aCons (eLc false (iSeq (eVar 3)) (gNm 23) tTrue (eBin ixF (eVar 23) (eVar 20)) [23]) aNil))) [20]) aNil))) (sIf (tOr_ (tB_ (eBin cNe (eVar 8) (eLc false (iSeq (eVar 6)) (gNm 14) tTrue (eTup (aCons (eVar 14) aNil)) [14]))) (tB_ (eBin cNe (eCallM false (F_differences C) (aCons (eVar 4) (aCons (eVar 6) aNil))) (eTup (aCons (eC (.int 0)) aNil))))) (sRet (eC (.bl false))) sNil) sNil)
noncomputable def law_1_18 (C : Cs) (Pt : Addr) : MS :=
  (sSet 17 (eCallM false (F_law_any C) (aCons (eVar 1) (aCons (eLst false (aCons (eC .non) (aCons (eTup aNil) (aCons (eTup (aCons (eVar 5) aNil)) (aCons (eLst false (aCons (eC (.int 0)) aNil)) (aCons (eTup (aCons (eC (.int 0)) (aCons (eC (.int 0)) aNil))) (aCons (eC (.int 0)) (aCons (eTup (aCons (eC (.bl true)) aNil)) aNil)))))))) aNil))))
noncomputable def law_1_19 (C : Cs) (Pt : Addr) : MS :=
  (sSet 18 (eLst true (aCons (eRef 0 Pt lamQ C.NoPart (eCallM false (F_led_together C) (aCons (eVar 4) (aCons (eVar 17) aNil)))) aNil)))
noncomputable def law_1_20 (C : Cs) (Pt : Addr) : MS :=
  (sExpr (eM "list" mAppend (eVar 18) (aCons (eRef 0 Pt lamQ C.NoPart (eCallM false (F_led_within C) (aCons (eVar 4) (aCons (eVar 17) aNil)))) aNil)))
noncomputable def law_1_21 (C : Cs) (Pt : Addr) : MS :=
  (sExpr (eM "list" mAppend (eVar 18) (aCons (eRef 0 Pt lamQ C.NoPart (eCallM false (F_keeps_leading C) (aCons (eVar 4) (aCons (eVar 17) aNil)))) aNil)))
noncomputable def law_1_22 (C : Cs) (Pt : Addr) : MS :=
  (sExpr (eM "list" mAppend (eVar 18) (aCons (eRef 0 Pt lamQ C.NoPart (eCallM false (F_differences C) (aCons (eVar 4) (aCons (eVar 17) aNil)))) aNil)))
noncomputable def law_1_23 (C : Cs) (Pt : Addr) : MS :=
  (sExpr (eM "list" mAppend (eVar 18) (aCons (eRef 0 Pt lamQ C.NoPart (eCallM false (F_moves_of C) (aCons (eVar 4) (aCons (eVar 17) aNil)))) aNil)))
noncomputable def law_1_24 (C : Cs) (Pt : Addr) : MS :=
  (sIf (tB_ (eBin cNe (eVar 18) (eBin (opMul false) (eLst false (aCons (eC (.bl true)) aNil)) (eC (.int 5))))) (sRet (eC (.bl false))) sNil)
noncomputable def law_1 (C : Cs) (Pt : Addr) : MS :=
  (sFor (eRng1 (aCons (eC (.int 4)) aNil)) (gNm 2) (sSeq (law_1_0 C Pt) (sSeq (law_1_1 C Pt) (sSeq (law_1_2 C Pt) (sSeq (law_1_3 C Pt) (sSeq (law_1_4 C Pt) (sSeq (law_1_5 C Pt) (sSeq (law_1_6 C Pt) (sSeq (law_1_7 C Pt) (sSeq (law_1_8 C Pt) (sSeq (law_1_9 C Pt) (sSeq (law_1_10 C Pt) (sSeq (law_1_11 C Pt) (sSeq (law_1_12 C Pt) (sSeq (law_1_13 C Pt) (sSeq (law_1_14 C Pt) (sSeq (law_1_15 C Pt) (sSeq (law_1_16 C Pt) (sSeq (law_1_17 C Pt) (sSeq (law_1_18 C Pt) (sSeq (law_1_19 C Pt) (sSeq (law_1_20 C Pt) (sSeq (law_1_21 C Pt) (sSeq (law_1_22 C Pt) (sSeq (law_1_23 C Pt) (law_1_24 C Pt))))))))))))))))))))))))))
noncomputable def law_2 (C : Cs) (Pt : Addr) : MS :=
  (sRet (eC (.bl true)))
noncomputable def m_law (C : Cs) (Pt : Addr) : MS :=
  (sSeq (law_0 C Pt) (sSeq (law_1 C Pt) (law_2 C Pt)))
theorem ok_law_0 (T : Txt K mg C) (G_law_any : Fnc P w K mg base 2 "_law_any" 2 (F_law_any C)) (G_law_closed : Fnc P w K mg base 1 "_law_closed" 2 (F_law_closed C)) (G_law_draw : Fnc P w K mg base 1 "_law_draw" 2 (F_law_draw C)) (G_law_hand : Fnc P w K mg base 1 "_law_hand" 1 (F_law_hand C)) (G_law_lists : Fnc P w K mg base 2 "_law_lists" 3 (F_law_lists C)) (G_law_part_led : Fnc P w K mg base 2 "_law_part_led" 3 (F_law_part_led C)) (G_law_table : Fnc P w K mg base 3 "_law_table" 1 (F_law_table C)) (G_differences : Fnc P w K mg base 7 "differences" 2 (F_differences C)) (G_is_kept_leading : Fnc P w K mg base 7 "is_kept_leading" 2 (F_is_kept_leading C)) (G_keeps_leading : Fnc P w K mg base 7 "keeps_leading" 2 (F_keeps_leading C)) (G_led_together : Fnc P w K mg base 6 "led_together" 2 (F_led_together C)) (G_led_within : Fnc P w K mg base 6 "led_within" 2 (F_led_within C)) (G_moves_of : Fnc P w K mg base 6 "moves_of" 2 (F_moves_of C)) (G_Group__init__ : Mkc P w K mg base 3 "Group" C.Group 2 (F_Group__init__ C)) (RF : RefF K mg "_law_is_refused" "call" s_law_is_refused) (RC : LamY.RefC K C.GroupError C.NoPart) {c Pt : Addr} (TB : LamX.TabB base mg c Pt) {s : Shared} {H : Hp} (hr : Room 9 (callerA.deeper (envOfC "law" (defScope s_law) s.heap.objs.size f (.ref c)))) : DS (XL P w K mg base f c s H) EL ((defBody s_law).getD 0 noS) (law_0 C Pt) := by
  have hu := u_room hr
  have hgd : (callerA.deeper (envOfC "law" (defScope s_law) s.heap.objs.size f (.ref c))).guards = some [] := rfl
  have hp : Passes (L2.CX P w) (XL P w K mg base f c s H) EL := pass_body
  have ho : PassesOwn (model P w) (XL P w K mg base f c s H).A (XL P w K mg base f c s H).env (XL P w K mg base f c s H).xe := own_body
  have nd := sc_law.nd
  exact (d_set 1 nd (d_callF true G_law_hand hr hp (by rfl) (d_acons (d_var 0) d_anil) (al_cons al_nil)))
theorem ok_law_1_0 (T : Txt K mg C) (G_law_any : Fnc P w K mg base 2 "_law_any" 2 (F_law_any C)) (G_law_closed : Fnc P w K mg base 1 "_law_closed" 2 (F_law_closed C)) (G_law_draw : Fnc P w K mg base 1 "_law_draw" 2 (F_law_draw C)) (G_law_hand : Fnc P w K mg base 1 "_law_hand" 1 (F_law_hand C)) (G_law_lists : Fnc P w K mg base 2 "_law_lists" 3 (F_law_lists C)) (G_law_part_led : Fnc P w K mg base 2 "_law_part_led" 3 (F_law_part_led C)) (G_law_table : Fnc P w K mg base 3 "_law_table" 1 (F_law_table C)) (G_differences : Fnc P w K mg base 7 "differences" 2 (F_differences C)) (G_is_kept_leading : Fnc P w K mg base 7 "is_kept_leading" 2 (F_is_kept_leading C)) (G_keeps_leading : Fnc P w K mg base 7 "keeps_leading" 2 (F_keeps_leading C)) (G_led_together : Fnc P w K mg base 6 "led_together" 2 (F_led_together C)) (G_led_within : Fnc P w K mg base 6 "led_within" 2 (F_led_within C)) (G_moves_of : Fnc P w K mg base 6 "moves_of" 2 (F_moves_of C)) (G_Group__init__ : Mkc P w K mg base 3 "Group" C.Group 2 (F_Group__init__ C)) (RF : RefF K mg "_law_is_refused" "call" s_law_is_refused) (RC : LamY.RefC K C.GroupError C.NoPart) {c Pt : Addr} (TB : LamX.TabB base mg c Pt) {s : Shared} {H : Hp} (hr : Room 9 (callerA.deeper (envOfC "law" (defScope s_law) s.heap.objs.size f (.ref c)))) : DS (XL P w K mg base f c s H) EL ((forBody ((defBody s_law).getD 1 noS)).getD 0 noS) (law_1_0 C Pt) := by
  have hu := u_room hr
  have hgd : (callerA.deeper (envOfC "law" (defScope s_law) s.heap.objs.size f (.ref c))).guards = some [] := rfl
  have hp : Passes (L2.CX P w) (XL P w K mg base f c s H) EL := pass_body
  have ho : PassesOwn (model P w) (XL P w K mg base f c s H).A (XL P w K mg base f c s H).env (XL P w K mg base f c s H).xe := own_body
  have nd := sc_law.nd
  exact (d_set 3 nd (d_callF false G_law_table hr hp (by rfl) (d_acons (d_var 1) d_anil) (al_cons al_nil)))
theorem ok_law_1_1 (T : Txt K mg C) (G_law_any : Fnc P w K mg base 2 "_law_any" 2 (F_law_any C)) (G_law_closed : Fnc P w K mg base 1 "_law_closed" 2 (F_law_closed C)) (G_law_draw : Fnc P w K mg base 1 "_law_draw" 2 (F_law_draw C)) (G_law_hand : Fnc P w K mg base 1 "_law_hand" 1 (F_law_hand C)) (G_law_lists : Fnc P w K mg base 2 "_law_lists" 3 (F_law_lists C)) (G_law_part_led : Fnc P w K mg base 2 "_law_part_led" 3 (F_law_part_led C)) (G_law_table : Fnc P w K mg base 3 "_law_table" 1 (F_law_table C)) (G_differences : Fnc P w K mg base 7 "differences" 2 (F_differences C)) (G_is_kept_leading : Fnc P w K mg base 7 "is_kept_leading" 2 (F_is_kept_leading C)) (G_keeps_leading : Fnc P w K mg base 7 "keeps_leading" 2 (F_keeps_leading C)) (G_led_together : Fnc P w K mg base 6 "led_together" 2 (F_led_together C)) (G_led_within : Fnc P w K mg base 6 "led_within" 2 (F_led_within C)) (G_moves_of : Fnc P w K mg base 6 "moves_of" 2 (F_moves_of C)) (G_Group__init__ : Mkc P w K mg base 3 "Group" C.Group 2 (F_Group__init__ C)) (RF : RefF K mg "_law_is_refused" "call" s_law_is_refused) (RC : LamY.RefC K C.GroupError C.NoPart) {c Pt : Addr} (TB : LamX.TabB base mg c Pt) {s : Shared} {H : Hp} (hr : Room 9 (callerA.deeper (envOfC "law" (defScope s_law) s.heap.objs.size f (.ref c)))) : DS (XL P w K mg base f c s H) EL ((forBody ((defBody s_law).getD 1 noS)).getD 1 noS) (law_1_1 C Pt) := by
  have hu := u_room hr
  have hgd : (callerA.deeper (envOfC "law" (defScope s_law) s.heap.objs.size f (.ref c))).guards = some [] := rfl
  have hp : Passes (L2.CX P w) (XL P w K mg base f c s H) EL := pass_body
  have ho : PassesOwn (model P w) (XL P w K mg base f c s H).A (XL P w K mg base f c s H).env (XL P w K mg base f c s H).xe := own_body
  have nd := sc_law.nd
  exact (d_unp 2 rfl (d_acons (d_makeF false G_Group__init__ hr hp (by rfl) (d_acons (d_var 3) d_anil) (al_cons al_nil)) (d_acons (d_callB c_len r_len (by rfl) T.z_len (by decide +kernel) (d_acons (d_var 3) d_anil)) d_anil)) (d_gscons (d_gname 4 nd) (d_gscons (d_gname 5 nd) d_gsnil)))
theorem ok_law_1_2 (T : Txt K mg C) (G_law_any : Fnc P w K mg base 2 "_law_any" 2 (F_law_any C)) (G_law_closed : Fnc P w K mg base 1 "_law_closed" 2 (F_law_closed C)) (G_law_draw : Fnc P w K mg base 1 "_law_draw" 2 (F_law_draw C)) (G_law_hand : Fnc P w K mg base 1 "_law_hand" 1 (F_law_hand C)) (G_law_lists : Fnc P w K mg base 2 "_law_lists" 3 (F_law_lists C)) (G_law_part_led : Fnc P w K mg base 2 "_law_part_led" 3 (F_law_part_led C)) (G_law_table : Fnc P w K mg base 3 "_law_table" 1 (F_law_table C)) (G_differences : Fnc P w K mg base 7 "differences" 2 (F_differences C)) (G_is_kept_leading : Fnc P w K mg base 7 "is_kept_leading" 2 (F_is_kept_leading C)) (G_keeps_leading : Fnc P w K mg base 7 "keeps_leading" 2 (F_keeps_leading C)) (G_led_together : Fnc P w K mg base 6 "led_together" 2 (F_led_together C)) (G_led_within : Fnc P w K mg base 6 "led_within" 2 (F_led_within C)) (G_moves_of : Fnc P w K mg base 6 "moves_of" 2 (F_moves_of C)) (G_Group__init__ : Mkc P w K mg base 3 "Group" C.Group 2 (F_Group__init__ C)) (RF : RefF K mg "_law_is_refused" "call" s_law_is_refused) (RC : LamY.RefC K C.GroupError C.NoPart) {c Pt : Addr} (TB : LamX.TabB base mg c Pt) {s : Shared} {H : Hp} (hr : Room 9 (callerA.deeper (envOfC "law" (defScope s_law) s.heap.objs.size f (.ref c)))) : DS (XL P w K mg base f c s H) EL ((forBody ((defBody s_law).getD 1 noS)).getD 2 noS) (law_1_2 C Pt) := by
  have hu := u_room hr
  have hgd : (callerA.deeper (envOfC "law" (defScope s_law) s.heap.objs.size f (.ref c))).guards = some [] := rfl
  have hp : Passes (L2.CX P w) (XL P w K mg base f c s H) EL := pass_body
  have ho : PassesOwn (model P w) (XL P w K mg base f c s H).A (XL P w K mg base f c s H).env (XL P w K mg base f c s H).xe := own_body
  have nd := sc_law.nd
  exact (d_set 6 nd (d_callF false G_law_closed hr hp (by rfl) (d_acons (d_var 3) (d_acons (d_lc (own := [("member", 19)]) false rfl nd (d_irng1 (by rfl) T.z_range (d_acons (d_callF false G_law_draw hr hp (by rfl) (d_acons (d_var 1) (d_acons d_int d_anil)) (al_cons (al_cons al_nil))) d_anil)) (blkOk_by (by kernel_rfl)) (fun _ _ _ _ _ => (d_wname 19 (by decide) nd)) (fun _ _ _ _ _ => d_ifs0) (fun _ _ _ _ _ => (d_callF false G_law_draw hr passL (by rfl) (d_acons (d_var 1) (d_acons (d_var 5) d_anil)) (al_cons (al_cons al_nil))))) d_anil)) (al_cons (al_cons al_nil))))
theorem ok_law_1_3 (T : Txt K mg C) (G_law_any : Fnc P w K mg base 2 "_law_any" 2 (F_law_any C)) (G_law_closed : Fnc P w K mg base 1 "_law_closed" 2 (F_law_closed C)) (G_law_draw : Fnc P w K mg base 1 "_law_draw" 2 (F_law_draw C)) (G_law_hand : Fnc P w K mg base 1 "_law_hand" 1 (F_law_hand C)) (G_law_lists : Fnc P w K mg base 2 "_law_lists" 3 (F_law_lists C)) (G_law_part_led : Fnc P w K mg base 2 "_law_part_led" 3 (F_law_part_led C)) (G_law_table : Fnc P w K mg base 3 "_law_table" 1 (F_law_table C)) (G_differences : Fnc P w K mg base 7 "differences" 2 (F_differences C)) (G_is_kept_leading : Fnc P w K mg base 7 "is_kept_leading" 2 (F_is_kept_leading C)) (G_keeps_leading : Fnc P w K mg base 7 "keeps_leading" 2 (F_keeps_leading C)) (G_led_together : Fnc P w K mg base 6 "led_together" 2 (F_led_together C)) (G_led_within : Fnc P w K mg base 6 "led_within" 2 (F_led_within C)) (G_moves_of : Fnc P w K mg base 6 "moves_of" 2 (F_moves_of C)) (G_Group__init__ : Mkc P w K mg base 3 "Group" C.Group 2 (F_Group__init__ C)) (RF : RefF K mg "_law_is_refused" "call" s_law_is_refused) (RC : LamY.RefC K C.GroupError C.NoPart) {c Pt : Addr} (TB : LamX.TabB base mg c Pt) {s : Shared} {H : Hp} (hr : Room 9 (callerA.deeper (envOfC "law" (defScope s_law) s.heap.objs.size f (.ref c)))) : DS (XL P w K mg base f c s H) EL ((forBody ((defBody s_law).getD 1 noS)).getD 3 noS) (law_1_3 C Pt) := by
  have hu := u_room hr
  have hgd : (callerA.deeper (envOfC "law" (defScope s_law) s.heap.objs.size f (.ref c))).guards = some [] := rfl
  have hp : Passes (L2.CX P w) (XL P w K mg base f c s H) EL := pass_body
  have ho : PassesOwn (model P w) (XL P w K mg base f c s H).A (XL P w K mg base f c s H).env (XL P w K mg base f c s H).xe := own_body
  have nd := sc_law.nd
  exact (d_set 7 nd (d_trg1 rfl (by rfl) T.z_tuple (by rfl) T.z_range (d_var 5)))
theorem ok_law_1_4 (T : Txt K mg C) (G_law_any : Fnc P w K mg base 2 "_law_any" 2 (F_law_any C)) (G_law_closed : Fnc P w K mg base 1 "_law_closed" 2 (F_law_closed C)) (G_law_draw : Fnc P w K mg base 1 "_law_draw" 2 (F_law_draw C)) (G_law_hand : Fnc P w K mg base 1 "_law_hand" 1 (F_law_hand C)) (G_law_lists : Fnc P w K mg base 2 "_law_lists" 3 (F_law_lists C)) (G_law_part_led : Fnc P w K mg base 2 "_law_part_led" 3 (F_law_part_led C)) (G_law_table : Fnc P w K mg base 3 "_law_table" 1 (F_law_table C)) (G_differences : Fnc P w K mg base 7 "differences" 2 (F_differences C)) (G_is_kept_leading : Fnc P w K mg base 7 "is_kept_leading" 2 (F_is_kept_leading C)) (G_keeps_leading : Fnc P w K mg base 7 "keeps_leading" 2 (F_keeps_leading C)) (G_led_together : Fnc P w K mg base 6 "led_together" 2 (F_led_together C)) (G_led_within : Fnc P w K mg base 6 "led_within" 2 (F_led_within C)) (G_moves_of : Fnc P w K mg base 6 "moves_of" 2 (F_moves_of C)) (G_Group__init__ : Mkc P w K mg base 3 "Group" C.Group 2 (F_Group__init__ C)) (RF : RefF K mg "_law_is_refused" "call" s_law_is_refused) (RC : LamY.RefC K C.GroupError C.NoPart) {c Pt : Addr} (TB : LamX.TabB base mg c Pt) {s : Shared} {H : Hp} (hr : Room 9 (callerA.deeper (envOfC "law" (defScope s_law) s.heap.objs.size f (.ref c)))) : DS (XL P w K mg base f c s H) EL ((forBody ((defBody s_law).getD 1 noS)).getD 4 noS) (law_1_4 C Pt) := by
  have hu := u_room hr
  have hgd : (callerA.deeper (envOfC "law" (defScope s_law) s.heap.objs.size f (.ref c))).guards = some [] := rfl
  have hp : Passes (L2.CX P w) (XL P w K mg base f c s H) EL := pass_body
  have ho : PassesOwn (model P w) (XL P w K mg base f c s H).A (XL P w K mg base f c s H).env (XL P w K mg base f c s H).xe := own_body
  have nd := sc_law.nd
  exact (d_par (i := 8) (j := 9) rfl nd (d_acons (d_callF false G_law_lists hr hp (by rfl) (d_acons (d_var 3) (d_acons (d_var 6) (d_acons (d_var 7) d_anil))) (al_cons (al_cons (al_cons al_nil)))) (d_acons (d_callF false G_law_lists hr hp (by rfl) (d_acons (d_var 3) (d_acons (d_var 6) (d_acons (d_var 6) d_anil))) (al_cons (al_cons (al_cons al_nil)))) d_anil)))
theorem ok_law_1_5 (T : Txt K mg C) (G_law_any : Fnc P w K mg base 2 "_law_any" 2 (F_law_any C)) (G_law_closed : Fnc P w K mg base 1 "_law_closed" 2 (F_law_closed C)) (G_law_draw : Fnc P w K mg base 1 "_law_draw" 2 (F_law_draw C)) (G_law_hand : Fnc P w K mg base 1 "_law_hand" 1 (F_law_hand C)) (G_law_lists : Fnc P w K mg base 2 "_law_lists" 3 (F_law_lists C)) (G_law_part_led : Fnc P w K mg base 2 "_law_part_led" 3 (F_law_part_led C)) (G_law_table : Fnc P w K mg base 3 "_law_table" 1 (F_law_table C)) (G_differences : Fnc P w K mg base 7 "differences" 2 (F_differences C)) (G_is_kept_leading : Fnc P w K mg base 7 "is_kept_leading" 2 (F_is_kept_leading C)) (G_keeps_leading : Fnc P w K mg base 7 "keeps_leading" 2 (F_keeps_leading C)) (G_led_together : Fnc P w K mg base 6 "led_together" 2 (F_led_together C)) (G_led_within : Fnc P w K mg base 6 "led_within" 2 (F_led_within C)) (G_moves_of : Fnc P w K mg base 6 "moves_of" 2 (F_moves_of C)) (G_Group__init__ : Mkc P w K mg base 3 "Group" C.Group 2 (F_Group__init__ C)) (RF : RefF K mg "_law_is_refused" "call" s_law_is_refused) (RC : LamY.RefC K C.GroupError C.NoPart) {c Pt : Addr} (TB : LamX.TabB base mg c Pt) {s : Shared} {H : Hp} (hr : Room 9 (callerA.deeper (envOfC "law" (defScope s_law) s.heap.objs.size f (.ref c)))) : DS (XL P w K mg base f c s H) EL ((forBody ((defBody s_law).getD 1 noS)).getD 5 noS) (law_1_5 C Pt) := by
  have hu := u_room hr
  have hgd : (callerA.deeper (envOfC "law" (defScope s_law) s.heap.objs.size f (.ref c))).guards = some [] := rfl
  have hp : Passes (L2.CX P w) (XL P w K mg base f c s H) EL := pass_body
  have ho : PassesOwn (model P w) (XL P w K mg base f c s H).A (XL P w K mg base f c s H).env (XL P w K mg base f c s H).xe := own_body
  have nd := sc_law.nd
  exact (d_set 10 nd (d_lst false (d_acons (d_lc (own := [("lot", 13)]) false rfl nd (d_isq (d_callF false G_led_together hr hp (by rfl) (d_acons (d_var 4) (d_acons (d_var 6) d_anil)) (al_cons (al_cons al_nil)))) (blkOk_by (by kernel_rfl)) (fun _ _ _ _ _ => (d_wname 13 (by decide) nd)) (fun _ _ _ _ _ => d_ifs0) (fun _ _ _ _ _ => (d_callTy call_tuple_of r_tuple (by rfl) T.z_tuple (by decide +kernel) (d_acons (d_var 13) d_anil)))) d_anil)))
theorem ok_law_1_6 (T : Txt K mg C) (G_law_any : Fnc P w K mg base 2 "_law_any" 2 (F_law_any C)) (G_law_closed : Fnc P w K mg base 1 "_law_closed" 2 (F_law_closed C)) (G_law_draw : Fnc P w K mg base 1 "_law_draw" 2 (F_law_draw C)) (G_law_hand : Fnc P w K mg base 1 "_law_hand" 1 (F_law_hand C)) (G_law_lists : Fnc P w K mg base 2 "_law_lists" 3 (F_law_lists C)) (G_law_part_led : Fnc P w K mg base 2 "_law_part_led" 3 (F_law_part_led C)) (G_law_table : Fnc P w K mg base 3 "_law_table" 1 (F_law_table C)) (G_differences : Fnc P w K mg base 7 "differences" 2 (F_differences C)) (G_is_kept_leading : Fnc P w K mg base 7 "is_kept_leading" 2 (F_is_kept_leading C)) (G_keeps_leading : Fnc P w K mg base 7 "keeps_leading" 2 (F_keeps_leading C)) (G_led_together : Fnc P w K mg base 6 "led_together" 2 (F_led_together C)) (G_led_within : Fnc P w K mg base 6 "led_within" 2 (F_led_within C)) (G_moves_of : Fnc P w K mg base 6 "moves_of" 2 (F_moves_of C)) (G_Group__init__ : Mkc P w K mg base 3 "Group" C.Group 2 (F_Group__init__ C)) (RF : RefF K mg "_law_is_refused" "call" s_law_is_refused) (RC : LamY.RefC K C.GroupError C.NoPart) {c Pt : Addr} (TB : LamX.TabB base mg c Pt) {s : Shared} {H : Hp} (hr : Room 9 (callerA.deeper (envOfC "law" (defScope s_law) s.heap.objs.size f (.ref c)))) : DS (XL P w K mg base f c s H) EL ((forBody ((defBody s_law).getD 1 noS)).getD 6 noS) (law_1_6 C Pt) := by
  have hu := u_room hr
  have hgd : (callerA.deeper (envOfC "law" (defScope s_law) s.heap.objs.size f (.ref c))).guards = some [] := rfl
  have hp : Passes (L2.CX P w) (XL P w K mg base f c s H) EL := pass_body
  have ho : PassesOwn (model P w) (XL P w K mg base f c s H).A (XL P w K mg base f c s H).env (XL P w K mg base f c s H).xe := own_body
  have nd := sc_law.nd
  exact (d_set 10 nd (d_op o_add (r_add false) (d_var 10) (d_lst false (d_acons (d_lc (own := [("lot", 13)]) false rfl nd (d_isq (d_callF false G_led_within hr hp (by rfl) (d_acons (d_var 4) (d_acons (d_var 6) d_anil)) (al_cons (al_cons al_nil)))) (blkOk_by (by kernel_rfl)) (fun _ _ _ _ _ => (d_wname 13 (by decide) nd)) (fun _ _ _ _ _ => d_ifs0) (fun _ _ _ _ _ => (d_callTy call_tuple_of r_tuple (by rfl) T.z_tuple (by decide +kernel) (d_acons (d_var 13) d_anil)))) d_anil))))
theorem ok_law_1_7 (T : Txt K mg C) (G_law_any : Fnc P w K mg base 2 "_law_any" 2 (F_law_any C)) (G_law_closed : Fnc P w K mg base 1 "_law_closed" 2 (F_law_closed C)) (G_law_draw : Fnc P w K mg base 1 "_law_draw" 2 (F_law_draw C)) (G_law_hand : Fnc P w K mg base 1 "_law_hand" 1 (F_law_hand C)) (G_law_lists : Fnc P w K mg base 2 "_law_lists" 3 (F_law_lists C)) (G_law_part_led : Fnc P w K mg base 2 "_law_part_led" 3 (F_law_part_led C)) (G_law_table : Fnc P w K mg base 3 "_law_table" 1 (F_law_table C)) (G_differences : Fnc P w K mg base 7 "differences" 2 (F_differences C)) (G_is_kept_leading : Fnc P w K mg base 7 "is_kept_leading" 2 (F_is_kept_leading C)) (G_keeps_leading : Fnc P w K mg base 7 "keeps_leading" 2 (F_keeps_leading C)) (G_led_together : Fnc P w K mg base 6 "led_together" 2 (F_led_together C)) (G_led_within : Fnc P w K mg base 6 "led_within" 2 (F_led_within C)) (G_moves_of : Fnc P w K mg base 6 "moves_of" 2 (F_moves_of C)) (G_Group__init__ : Mkc P w K mg base 3 "Group" C.Group 2 (F_Group__init__ C)) (RF : RefF K mg "_law_is_refused" "call" s_law_is_refused) (RC : LamY.RefC K C.GroupError C.NoPart) {c Pt : Addr} (TB : LamX.TabB base mg c Pt) {s : Shared} {H : Hp} (hr : Room 9 (callerA.deeper (envOfC "law" (defScope s_law) s.heap.objs.size f (.ref c)))) : DS (XL P w K mg base f c s H) EL ((forBody ((defBody s_law).getD 1 noS)).getD 7 noS) (law_1_7 C Pt) := by
  have hu := u_room hr
  have hgd : (callerA.deeper (envOfC "law" (defScope s_law) s.heap.objs.size f (.ref c))).guards = some [] := rfl
  have hp : Passes (L2.CX P w) (XL P w K mg base f c s H) EL := pass_body
  have ho : PassesOwn (model P w) (XL P w K mg base f c s H).A (XL P w K mg base f c s H).env (XL P w K mg base f c s H).xe := own_body
  have nd := sc_law.nd
  exact (d_sif (d_tcmp (op_neD (u64 hu)) r_ne (d_var 10) (d_lst false (d_acons (d_var 8) (d_acons (d_var 9) d_anil)))) (d_sone (d_ret d_bl)) d_snil)
theorem ok_law_1_8 (T : Txt K mg C) (G_law_any : Fnc P w K mg base 2 "_law_any" 2 (F_law_any C)) (G_law_closed : Fnc P w K mg base 1 "_law_closed" 2 (F_law_closed C)) (G_law_draw : Fnc P w K mg base 1 "_law_draw" 2 (F_law_draw C)) (G_law_hand : Fnc P w K mg base 1 "_law_hand" 1 (F_law_hand C)) (G_law_lists : Fnc P w K mg base 2 "_law_lists" 3 (F_law_lists C)) (G_law_part_led : Fnc P w K mg base 2 "_law_part_led" 3 (F_law_part_led C)) (G_law_table : Fnc P w K mg base 3 "_law_table" 1 (F_law_table C)) (G_differences : Fnc P w K mg base 7 "differences" 2 (F_differences C)) (G_is_kept_leading : Fnc P w K mg base 7 "is_kept_leading" 2 (F_is_kept_leading C)) (G_keeps_leading : Fnc P w K mg base 7 "keeps_leading" 2 (F_keeps_leading C)) (G_led_together : Fnc P w K mg base 6 "led_together" 2 (F_led_together C)) (G_led_within : Fnc P w K mg base 6 "led_within" 2 (F_led_within C)) (G_moves_of : Fnc P w K mg base 6 "moves_of" 2 (F_moves_of C)) (G_Group__init__ : Mkc P w K mg base 3 "Group" C.Group 2 (F_Group__init__ C)) (RF : RefF K mg "_law_is_refused" "call" s_law_is_refused) (RC : LamY.RefC K C.GroupError C.NoPart) {c Pt : Addr} (TB : LamX.TabB base mg c Pt) {s : Shared} {H : Hp} (hr : Room 9 (callerA.deeper (envOfC "law" (defScope s_law) s.heap.objs.size f (.ref c)))) : DS (XL P w K mg base f c s H) EL ((forBody ((defBody s_law).getD 1 noS)).getD 8 noS) (law_1_8 C Pt) := by
  have hu := u_room hr
  have hgd : (callerA.deeper (envOfC "law" (defScope s_law) s.heap.objs.size f (.ref c))).guards = some [] := rfl
  have hp : Passes (L2.CX P w) (XL P w K mg base f c s H) EL := pass_body
  have ho : PassesOwn (model P w) (XL P w K mg base f c s H).A (XL P w K mg base f c s H).env (XL P w K mg base f c s H).xe := own_body
  have nd := sc_law.nd
  exact (d_sif (d_tcmp (op_neD (u64 hu)) r_ne (d_callB (c_repr hu hgd) r_repr (by rfl) T.z_repr (by decide +kernel) (d_acons (d_callF false G_keeps_leading hr hp (by rfl) (d_acons (d_var 4) (d_acons (d_var 6) d_anil)) (al_cons (al_cons al_nil))) d_anil)) (d_callB (c_repr hu hgd) r_repr (by rfl) T.z_repr (by decide +kernel) (d_acons (d_cmp (op_eqD (u64 hu)) r_eq (d_var 8) (d_var 9)) d_anil))) (d_sone (d_ret d_bl)) d_snil)
theorem ok_law_1_9 (T : Txt K mg C) (G_law_any : Fnc P w K mg base 2 "_law_any" 2 (F_law_any C)) (G_law_closed : Fnc P w K mg base 1 "_law_closed" 2 (F_law_closed C)) (G_law_draw : Fnc P w K mg base 1 "_law_draw" 2 (F_law_draw C)) (G_law_hand : Fnc P w K mg base 1 "_law_hand" 1 (F_law_hand C)) (G_law_lists : Fnc P w K mg base 2 "_law_lists" 3 (F_law_lists C)) (G_law_part_led : Fnc P w K mg base 2 "_law_part_led" 3 (F_law_part_led C)) (G_law_table : Fnc P w K mg base 3 "_law_table" 1 (F_law_table C)) (G_differences : Fnc P w K mg base 7 "differences" 2 (F_differences C)) (G_is_kept_leading : Fnc P w K mg base 7 "is_kept_leading" 2 (F_is_kept_leading C)) (G_keeps_leading : Fnc P w K mg base 7 "keeps_leading" 2 (F_keeps_leading C)) (G_led_together : Fnc P w K mg base 6 "led_together" 2 (F_led_together C)) (G_led_within : Fnc P w K mg base 6 "led_within" 2 (F_led_within C)) (G_moves_of : Fnc P w K mg base 6 "moves_of" 2 (F_moves_of C)) (G_Group__init__ : Mkc P w K mg base 3 "Group" C.Group 2 (F_Group__init__ C)) (RF : RefF K mg "_law_is_refused" "call" s_law_is_refused) (RC : LamY.RefC K C.GroupError C.NoPart) {c Pt : Addr} (TB : LamX.TabB base mg c Pt) {s : Shared} {H : Hp} (hr : Room 9 (callerA.deeper (envOfC "law" (defScope s_law) s.heap.objs.size f (.ref c)))) : DS (XL P w K mg base f c s H) EL ((forBody ((defBody s_law).getD 1 noS)).getD 9 noS) (law_1_9 C Pt) := by
  have hu := u_room hr
  have hgd : (callerA.deeper (envOfC "law" (defScope s_law) s.heap.objs.size f (.ref c))).guards = some [] := rfl
  have hp : Passes (L2.CX P w) (XL P w K mg base f c s H) EL := pass_body
  have ho : PassesOwn (model P w) (XL P w K mg base f c s H).A (XL P w K mg base f c s H).env (XL P w K mg base f c s H).xe := own_body
  have nd := sc_law.nd
  exact (d_setLc (i := 11) (own := [("by", 16)]) false rfl nd (d_isq (d_var 7)) (blkOk_by (by kernel_rfl)) (fun _ _ _ _ _ => (d_wname 16 (by decide) nd)) (fun _ _ _ _ _ => (d_ifs1 (d_tcmp (op_eqD (u64 hu)) r_eq (d_callF false G_law_part_led hr passL (by rfl) (d_acons (d_var 3) (d_acons (d_var 6) (d_acons (d_var 16) d_anil))) (al_cons (al_cons (al_cons al_nil)))) (d_var 6)))) (fun _ _ _ _ _ => (d_var 16)))
theorem ok_law_1_10 (T : Txt K mg C) (G_law_any : Fnc P w K mg base 2 "_law_any" 2 (F_law_any C)) (G_law_closed : Fnc P w K mg base 1 "_law_closed" 2 (F_law_closed C)) (G_law_draw : Fnc P w K mg base 1 "_law_draw" 2 (F_law_draw C)) (G_law_hand : Fnc P w K mg base 1 "_law_hand" 1 (F_law_hand C)) (G_law_lists : Fnc P w K mg base 2 "_law_lists" 3 (F_law_lists C)) (G_law_part_led : Fnc P w K mg base 2 "_law_part_led" 3 (F_law_part_led C)) (G_law_table : Fnc P w K mg base 3 "_law_table" 1 (F_law_table C)) (G_differences : Fnc P w K mg base 7 "differences" 2 (F_differences C)) (G_is_kept_leading : Fnc P w K mg base 7 "is_kept_leading" 2 (F_is_kept_leading C)) (G_keeps_leading : Fnc P w K mg base 7 "keeps_leading" 2 (F_keeps_leading C)) (G_led_together : Fnc P w K mg base 6 "led_together" 2 (F_led_together C)) (G_led_within : Fnc P w K mg base 6 "led_within" 2 (F_led_within C)) (G_moves_of : Fnc P w K mg base 6 "moves_of" 2 (F_moves_of C)) (G_Group__init__ : Mkc P w K mg base 3 "Group" C.Group 2 (F_Group__init__ C)) (RF : RefF K mg "_law_is_refused" "call" s_law_is_refused) (RC : LamY.RefC K C.GroupError C.NoPart) {c Pt : Addr} (TB : LamX.TabB base mg c Pt) {s : Shared} {H : Hp} (hr : Room 9 (callerA.deeper (envOfC "law" (defScope s_law) s.heap.objs.size f (.ref c)))) : DS (XL P w K mg base f c s H) EL ((forBody ((defBody s_law).getD 1 noS)).getD 10 noS) (law_1_10 C Pt) := by
  have hu := u_room hr
  have hgd : (callerA.deeper (envOfC "law" (defScope s_law) s.heap.objs.size f (.ref c))).guards = some [] := rfl
  have hp : Passes (L2.CX P w) (XL P w K mg base f c s H) EL := pass_body
  have ho : PassesOwn (model P w) (XL P w K mg base f c s H).A (XL P w K mg base f c s H).env (XL P w K mg base f c s H).xe := own_body
  have nd := sc_law.nd
  exact (d_sif (d_tcmp (op_neD (u64 hu)) r_ne (d_callB (c_repr hu hgd) r_repr (by rfl) T.z_repr (by decide +kernel) (d_acons (d_callF false G_is_kept_leading hr hp (by rfl) (d_acons (d_var 4) (d_acons (d_var 6) d_anil)) (al_cons (al_cons al_nil))) d_anil)) (d_callB (c_repr hu hgd) r_repr (by rfl) T.z_repr (by decide +kernel) (d_acons (d_cmp (op_eqD (u64 hu)) r_eq (d_callF false G_law_lists hr hp (by rfl) (d_acons (d_var 3) (d_acons (d_var 6) (d_acons (d_var 11) d_anil))) (al_cons (al_cons (al_cons al_nil)))) (d_var 8)) d_anil))) (d_sone (d_ret d_bl)) d_snil)
theorem ok_law_1_11 (T : Txt K mg C) (G_law_any : Fnc P w K mg base 2 "_law_any" 2 (F_law_any C)) (G_law_closed : Fnc P w K mg base 1 "_law_closed" 2 (F_law_closed C)) (G_law_draw : Fnc P w K mg base 1 "_law_draw" 2 (F_law_draw C)) (G_law_hand : Fnc P w K mg base 1 "_law_hand" 1 (F_law_hand C)) (G_law_lists : Fnc P w K mg base 2 "_law_lists" 3 (F_law_lists C)) (G_law_part_led : Fnc P w K mg base 2 "_law_part_led" 3 (F_law_part_led C)) (G_law_table : Fnc P w K mg base 3 "_law_table" 1 (F_law_table C)) (G_differences : Fnc P w K mg base 7 "differences" 2 (F_differences C)) (G_is_kept_leading : Fnc P w K mg base 7 "is_kept_leading" 2 (F_is_kept_leading C)) (G_keeps_leading : Fnc P w K mg base 7 "keeps_leading" 2 (F_keeps_leading C)) (G_led_together : Fnc P w K mg base 6 "led_together" 2 (F_led_together C)) (G_led_within : Fnc P w K mg base 6 "led_within" 2 (F_led_within C)) (G_moves_of : Fnc P w K mg base 6 "moves_of" 2 (F_moves_of C)) (G_Group__init__ : Mkc P w K mg base 3 "Group" C.Group 2 (F_Group__init__ C)) (RF : RefF K mg "_law_is_refused" "call" s_law_is_refused) (RC : LamY.RefC K C.GroupError C.NoPart) {c Pt : Addr} (TB : LamX.TabB base mg c Pt) {s : Shared} {H : Hp} (hr : Room 9 (callerA.deeper (envOfC "law" (defScope s_law) s.heap.objs.size f (.ref c)))) : DS (XL P w K mg base f c s H) EL ((forBody ((defBody s_law).getD 1 noS)).getD 11 noS) (law_1_11 C Pt) := by
  have hu := u_room hr
  have hgd : (callerA.deeper (envOfC "law" (defScope s_law) s.heap.objs.size f (.ref c))).guards = some [] := rfl
  have hp : Passes (L2.CX P w) (XL P w K mg base f c s H) EL := pass_body
  have ho : PassesOwn (model P w) (XL P w K mg base f c s H).A (XL P w K mg base f c s H).env (XL P w K mg base f c s H).xe := own_body
  have nd := sc_law.nd
  exact (d_set 12 nd (d_lst true d_anil))
theorem ok_law_1_12_0_0 (T : Txt K mg C) (G_law_any : Fnc P w K mg base 2 "_law_any" 2 (F_law_any C)) (G_law_closed : Fnc P w K mg base 1 "_law_closed" 2 (F_law_closed C)) (G_law_draw : Fnc P w K mg base 1 "_law_draw" 2 (F_law_draw C)) (G_law_hand : Fnc P w K mg base 1 "_law_hand" 1 (F_law_hand C)) (G_law_lists : Fnc P w K mg base 2 "_law_lists" 3 (F_law_lists C)) (G_law_part_led : Fnc P w K mg base 2 "_law_part_led" 3 (F_law_part_led C)) (G_law_table : Fnc P w K mg base 3 "_law_table" 1 (F_law_table C)) (G_differences : Fnc P w K mg base 7 "differences" 2 (F_differences C)) (G_is_kept_leading : Fnc P w K mg base 7 "is_kept_leading" 2 (F_is_kept_leading C)) (G_keeps_leading : Fnc P w K mg base 7 "keeps_leading" 2 (F_keeps_leading C)) (G_led_together : Fnc P w K mg base 6 "led_together" 2 (F_led_together C)) (G_led_within : Fnc P w K mg base 6 "led_within" 2 (F_led_within C)) (G_moves_of : Fnc P w K mg base 6 "moves_of" 2 (F_moves_of C)) (G_Group__init__ : Mkc P w K mg base 3 "Group" C.Group 2 (F_Group__init__ C)) (RF : RefF K mg "_law_is_refused" "call" s_law_is_refused) (RC : LamY.RefC K C.GroupError C.NoPart) {c Pt : Addr} (TB : LamX.TabB base mg c Pt) {s : Shared} {H : Hp} (hr : Room 9 (callerA.deeper (envOfC "law" (defScope s_law) s.heap.objs.size f (.ref c)))) : DS (XL P w K mg base f c s H) EL ((forBody ((forBody ((forBody ((defBody s_law).getD 1 noS)).getD 12 noS)).getD 0 noS)).getD 0 noS) (law_1_12_0_0 C Pt) := by
  have hu := u_room hr
  have hgd : (callerA.deeper (envOfC "law" (defScope s_law) s.heap.objs.size f (.ref c))).guards = some [] := rfl
  have hp : Passes (L2.CX P w) (XL P w K mg base f c s H) EL := pass_body
  have ho : PassesOwn (model P w) (XL P w K mg base f c s H).A (XL P w K mg base f c s H).env (XL P w K mg base f c s H).xe := own_body
  have nd := sc_law.nd
  exact (d_expr (d_m PySem.F.plainAttrs_list PySem.F.slot_list_extend PySem.F.type_list_extend mt_extend r_extend (d_var 12) (d_acons (d_lc (own := [("other", 22)]) false rfl nd (d_isq (d_var 13)) (blkOk_by (by kernel_rfl)) (fun _ _ _ _ _ => (d_wname 22 (by decide) nd)) (fun _ _ _ _ _ => d_ifs0) (fun _ _ _ _ _ => (d_ix (u1 hu) (d_ix (u1 hu) (d_var 3) (d_m PySem.F.plainAttrs_tuple PySem.F.slot_tuple_index PySem.F.type_tuple_index mt_tup_indexI r_tupIx (d_ix (u1 hu) (d_var 3) (d_var 14) (fun _ _ => rfl)) (d_acons d_int d_anil)) (fun _ _ => rfl)) (d_var 22) (fun _ _ => rfl)))) d_anil)))
theorem ok_law_1_12_0 (T : Txt K mg C) (G_law_any : Fnc P w K mg base 2 "_law_any" 2 (F_law_any C)) (G_law_closed : Fnc P w K mg base 1 "_law_closed" 2 (F_law_closed C)) (G_law_draw : Fnc P w K mg base 1 "_law_draw" 2 (F_law_draw C)) (G_law_hand : Fnc P w K mg base 1 "_law_hand" 1 (F_law_hand C)) (G_law_lists : Fnc P w K mg base 2 "_law_lists" 3 (F_law_lists C)) (G_law_part_led : Fnc P w K mg base 2 "_law_part_led" 3 (F_law_part_led C)) (G_law_table : Fnc P w K mg base 3 "_law_table" 1 (F_law_table C)) (G_differences : Fnc P w K mg base 7 "differences" 2 (F_differences C)) (G_is_kept_leading : Fnc P w K mg base 7 "is_kept_leading" 2 (F_is_kept_leading C)) (G_keeps_leading : Fnc P w K mg base 7 "keeps_leading" 2 (F_keeps_leading C)) (G_led_together : Fnc P w K mg base 6 "led_together" 2 (F_led_together C)) (G_led_within : Fnc P w K mg base 6 "led_within" 2 (F_led_within C)) (G_moves_of : Fnc P w K mg base 6 "moves_of" 2 (F_moves_of C)) (G_Group__init__ : Mkc P w K mg base 3 "Group" C.Group 2 (F_Group__init__ C)) (RF : RefF K mg "_law_is_refused" "call" s_law_is_refused) (RC : LamY.RefC K C.GroupError C.NoPart) {c Pt : Addr} (TB : LamX.TabB base mg c Pt) {s : Shared} {H : Hp} (hr : Room 9 (callerA.deeper (envOfC "law" (defScope s_law) s.heap.objs.size f (.ref c)))) : DS (XL P w K mg base f c s H) EL ((forBody ((forBody ((defBody s_law).getD 1 noS)).getD 12 noS)).getD 0 noS) (law_1_12_0 C Pt) := by
  have hu := u_room hr
  have hgd : (callerA.deeper (envOfC "law" (defScope s_law) s.heap.objs.size f (.ref c))).guards = some [] := rfl
  have hp : Passes (L2.CX P w) (XL P w K mg base f c s H) EL := pass_body
  have ho : PassesOwn (model P w) (XL P w K mg base f c s H).A (XL P w K mg base f c s H).env (XL P w K mg base f c s H).xe := own_body
  have nd := sc_law.nd
  exact (d_for ho rfl (d_isq (d_var 13)) (d_gname 14 nd) (d_sone (ok_law_1_12_0_0 T G_law_any G_law_closed G_law_draw G_law_hand G_law_lists G_law_part_led G_law_table G_differences G_is_kept_leading G_keeps_leading G_led_together G_led_within G_moves_of G_Group__init__ RF RC TB hr)))
theorem ok_law_1_12 (T : Txt K mg C) (G_law_any : Fnc P w K mg base 2 "_law_any" 2 (F_law_any C)) (G_law_closed : Fnc P w K mg base 1 "_law_closed" 2 (F_law_closed C)) (G_law_draw : Fnc P w K mg base 1 "_law_draw" 2 (F_law_draw C)) (G_law_hand : Fnc P w K mg base 1 "_law_hand" 1 (F_law_hand C)) (G_law_lists : Fnc P w K mg base 2 "_law_lists" 3 (F_law_lists C)) (G_law_part_led : Fnc P w K mg base 2 "_law_part_led" 3 (F_law_part_led C)) (G_law_table : Fnc P w K mg base 3 "_law_table" 1 (F_law_table C)) (G_differences : Fnc P w K mg base 7 "differences" 2 (F_differences C)) (G_is_kept_leading : Fnc P w K mg base 7 "is_kept_leading" 2 (F_is_kept_leading C)) (G_keeps_leading : Fnc P w K mg base 7 "keeps_leading" 2 (F_keeps_leading C)) (G_led_together : Fnc P w K mg base 6 "led_together" 2 (F_led_together C)) (G_led_within : Fnc P w K mg base 6 "led_within" 2 (F_led_within C)) (G_moves_of : Fnc P w K mg base 6 "moves_of" 2 (F_moves_of C)) (G_Group__init__ : Mkc P w K mg base 3 "Group" C.Group 2 (F_Group__init__ C)) (RF : RefF K mg "_law_is_refused" "call" s_law_is_refused) (RC : LamY.RefC K C.GroupError C.NoPart) {c Pt : Addr} (TB : LamX.TabB base mg c Pt) {s : Shared} {H : Hp} (hr : Room 9 (callerA.deeper (envOfC "law" (defScope s_law) s.heap.objs.size f (.ref c)))) : DS (XL P w K mg base f c s H) EL ((forBody ((defBody s_law).getD 1 noS)).getD 12 noS) (law_1_12 C Pt) := by
  have hu := u_room hr
  have hgd : (callerA.deeper (envOfC "law" (defScope s_law) s.heap.objs.size f (.ref c))).guards = some [] := rfl
  have hp : Passes (L2.CX P w) (XL P w K mg base f c s H) EL := pass_body
  have ho : PassesOwn (model P w) (XL P w K mg base f c s H).A (XL P w K mg base f c s H).env (XL P w K mg base f c s H).xe := own_body
  have nd := sc_law.nd
  exact (d_for ho rfl (d_isq (d_var 8)) (d_gname 13 nd) (d_sone (ok_law_1_12_0 T G_law_any G_law_closed G_law_draw G_law_hand G_law_lists G_law_part_led G_law_table G_differences G_is_kept_leading G_keeps_leading G_led_together G_led_within G_moves_of G_Group__init__ RF RC TB hr)))
theorem ok_law_1_13 (T : Txt K mg C) (G_law_any : Fnc P w K mg base 2 "_law_any" 2 (F_law_any C)) (G_law_closed : Fnc P w K mg base 1 "_law_closed" 2 (F_law_closed C)) (G_law_draw : Fnc P w K mg base 1 "_law_draw" 2 (F_law_draw C)) (G_law_hand : Fnc P w K mg base 1 "_law_hand" 1 (F_law_hand C)) (G_law_lists : Fnc P w K mg base 2 "_law_lists" 3 (F_law_lists C)) (G_law_part_led : Fnc P w K mg base 2 "_law_part_led" 3 (F_law_part_led C)) (G_law_table : Fnc P w K mg base 3 "_law_table" 1 (F_law_table C)) (G_differences : Fnc P w K mg base 7 "differences" 2 (F_differences C)) (G_is_kept_leading : Fnc P w K mg base 7 "is_kept_leading" 2 (F_is_kept_leading C)) (G_keeps_leading : Fnc P w K mg base 7 "keeps_leading" 2 (F_keeps_leading C)) (G_led_together : Fnc P w K mg base 6 "led_together" 2 (F_led_together C)) (G_led_within : Fnc P w K mg base 6 "led_within" 2 (F_led_within C)) (G_moves_of : Fnc P w K mg base 6 "moves_of" 2 (F_moves_of C)) (G_Group__init__ : Mkc P w K mg base 3 "Group" C.Group 2 (F_Group__init__ C)) (RF : RefF K mg "_law_is_refused" "call" s_law_is_refused) (RC : LamY.RefC K C.GroupError C.NoPart) {c Pt : Addr} (TB : LamX.TabB base mg c Pt) {s : Shared} {H : Hp} (hr : Room 9 (callerA.deeper (envOfC "law" (defScope s_law) s.heap.objs.size f (.ref c)))) : DS (XL P w K mg base f c s H) EL ((forBody ((defBody s_law).getD 1 noS)).getD 13 noS) (law_1_13 C Pt) := by
  have hu := u_room hr
  have hgd : (callerA.deeper (envOfC "law" (defScope s_law) s.heap.objs.size f (.ref c))).guards = some [] := rfl
  have hp : Passes (L2.CX P w) (XL P w K mg base f c s H) EL := pass_body
  have ho : PassesOwn (model P w) (XL P w K mg base f c s H).A (XL P w K mg base f c s H).env (XL P w K mg base f c s H).xe := own_body
  have nd := sc_law.nd
  exact (d_sif (d_tcmp (op_neD (u64 hu)) r_ne (d_callB (c_repr hu hgd) r_repr (by rfl) T.z_repr (by decide +kernel) (d_acons (d_callF false G_differences hr hp (by rfl) (d_acons (d_var 4) (d_acons (d_var 6) d_anil)) (al_cons (al_cons al_nil))) d_anil)) (d_callB (c_repr hu hgd) r_repr (by rfl) T.z_repr (by decide +kernel) (d_acons (d_callF false G_law_closed hr hp (by rfl) (d_acons (d_var 3) (d_acons (d_var 12) d_anil)) (al_cons (al_cons al_nil))) d_anil))) (d_sone (d_ret d_bl)) d_snil)
theorem ok_law_1_14 (T : Txt K mg C) (G_law_any : Fnc P w K mg base 2 "_law_any" 2 (F_law_any C)) (G_law_closed : Fnc P w K mg base 1 "_law_closed" 2 (F_law_closed C)) (G_law_draw : Fnc P w K mg base 1 "_law_draw" 2 (F_law_draw C)) (G_law_hand : Fnc P w K mg base 1 "_law_hand" 1 (F_law_hand C)) (G_law_lists : Fnc P w K mg base 2 "_law_lists" 3 (F_law_lists C)) (G_law_part_led : Fnc P w K mg base 2 "_law_part_led" 3 (F_law_part_led C)) (G_law_table : Fnc P w K mg base 3 "_law_table" 1 (F_law_table C)) (G_differences : Fnc P w K mg base 7 "differences" 2 (F_differences C)) (G_is_kept_leading : Fnc P w K mg base 7 "is_kept_leading" 2 (F_is_kept_leading C)) (G_keeps_leading : Fnc P w K mg base 7 "keeps_leading" 2 (F_keeps_leading C)) (G_led_together : Fnc P w K mg base 6 "led_together" 2 (F_led_together C)) (G_led_within : Fnc P w K mg base 6 "led_within" 2 (F_led_within C)) (G_moves_of : Fnc P w K mg base 6 "moves_of" 2 (F_moves_of C)) (G_Group__init__ : Mkc P w K mg base 3 "Group" C.Group 2 (F_Group__init__ C)) (RF : RefF K mg "_law_is_refused" "call" s_law_is_refused) (RC : LamY.RefC K C.GroupError C.NoPart) {c Pt : Addr} (TB : LamX.TabB base mg c Pt) {s : Shared} {H : Hp} (hr : Room 9 (callerA.deeper (envOfC "law" (defScope s_law) s.heap.objs.size f (.ref c)))) : DS (XL P w K mg base f c s H) EL ((forBody ((defBody s_law).getD 1 noS)).getD 14 noS) (law_1_14 C Pt) := by
  have hu := u_room hr
  have hgd : (callerA.deeper (envOfC "law" (defScope s_law) s.heap.objs.size f (.ref c))).guards = some [] := rfl
  have hp : Passes (L2.CX P w) (XL P w K mg base f c s H) EL := pass_body
  have ho : PassesOwn (model P w) (XL P w K mg base f c s H).A (XL P w K mg base f c s H).env (XL P w K mg base f c s H).xe := own_body
  have nd := sc_law.nd
  exact (d_set 15 nd (d_newT true))
theorem ok_law_1_15_0 (T : Txt K mg C) (G_law_any : Fnc P w K mg base 2 "_law_any" 2 (F_law_any C)) (G_law_closed : Fnc P w K mg base 1 "_law_closed" 2 (F_law_closed C)) (G_law_draw : Fnc P w K mg base 1 "_law_draw" 2 (F_law_draw C)) (G_law_hand : Fnc P w K mg base 1 "_law_hand" 1 (F_law_hand C)) (G_law_lists : Fnc P w K mg base 2 "_law_lists" 3 (F_law_lists C)) (G_law_part_led : Fnc P w K mg base 2 "_law_part_led" 3 (F_law_part_led C)) (G_law_table : Fnc P w K mg base 3 "_law_table" 1 (F_law_table C)) (G_differences : Fnc P w K mg base 7 "differences" 2 (F_differences C)) (G_is_kept_leading : Fnc P w K mg base 7 "is_kept_leading" 2 (F_is_kept_leading C)) (G_keeps_leading : Fnc P w K mg base 7 "keeps_leading" 2 (F_keeps_leading C)) (G_led_together : Fnc P w K mg base 6 "led_together" 2 (F_led_together C)) (G_led_within : Fnc P w K mg base 6 "led_within" 2 (F_led_within C)) (G_moves_of : Fnc P w K mg base 6 "moves_of" 2 (F_moves_of C)) (G_Group__init__ : Mkc P w K mg base 3 "Group" C.Group 2 (F_Group__init__ C)) (RF : RefF K mg "_law_is_refused" "call" s_law_is_refused) (RC : LamY.RefC K C.GroupError C.NoPart) {c Pt : Addr} (TB : LamX.TabB base mg c Pt) {s : Shared} {H : Hp} (hr : Room 9 (callerA.deeper (envOfC "law" (defScope s_law) s.heap.objs.size f (.ref c)))) : DS (XL P w K mg base f c s H) EL ((forBody ((forBody ((defBody s_law).getD 1 noS)).getD 15 noS)).getD 0 noS) (law_1_15_0 C Pt) := by
  have hu := u_room hr
  have hgd : (callerA.deeper (envOfC "law" (defScope s_law) s.heap.objs.size f (.ref c))).guards = some [] := rfl
  have hp : Passes (L2.CX P w) (XL P w K mg base f c s H) EL := pass_body
  have ho : PassesOwn (model P w) (XL P w K mg base f c s H).A (XL P w K mg base f c s H).env (XL P w K mg base f c s H).xe := own_body
  have nd := sc_law.nd
  exact (d_expr (d_m PySem.F.plainAttrs_dict PySem.F.slot_dict_setdefault PySem.F.type_dict_setdefault (mt_dsetd (u1 hu)) r_setd (d_var 15) (d_acons (d_callF false G_law_part_led hr hp (by rfl) (d_acons (d_var 3) (d_acons (d_var 6) (d_acons (d_var 16) d_anil))) (al_cons (al_cons (al_cons al_nil)))) (d_acons (d_var 16) d_anil))))
theorem ok_law_1_15 (T : Txt K mg C) (G_law_any : Fnc P w K mg base 2 "_law_any" 2 (F_law_any C)) (G_law_closed : Fnc P w K mg base 1 "_law_closed" 2 (F_law_closed C)) (G_law_draw : Fnc P w K mg base 1 "_law_draw" 2 (F_law_draw C)) (G_law_hand : Fnc P w K mg base 1 "_law_hand" 1 (F_law_hand C)) (G_law_lists : Fnc P w K mg base 2 "_law_lists" 3 (F_law_lists C)) (G_law_part_led : Fnc P w K mg base 2 "_law_part_led" 3 (F_law_part_led C)) (G_law_table : Fnc P w K mg base 3 "_law_table" 1 (F_law_table C)) (G_differences : Fnc P w K mg base 7 "differences" 2 (F_differences C)) (G_is_kept_leading : Fnc P w K mg base 7 "is_kept_leading" 2 (F_is_kept_leading C)) (G_keeps_leading : Fnc P w K mg base 7 "keeps_leading" 2 (F_keeps_leading C)) (G_led_together : Fnc P w K mg base 6 "led_together" 2 (F_led_together C)) (G_led_within : Fnc P w K mg base 6 "led_within" 2 (F_led_within C)) (G_moves_of : Fnc P w K mg base 6 "moves_of" 2 (F_moves_of C)) (G_Group__init__ : Mkc P w K mg base 3 "Group" C.Group 2 (F_Group__init__ C)) (RF : RefF K mg "_law_is_refused" "call" s_law_is_refused) (RC : LamY.RefC K C.GroupError C.NoPart) {c Pt : Addr} (TB : LamX.TabB base mg c Pt) {s : Shared} {H : Hp} (hr : Room 9 (callerA.deeper (envOfC "law" (defScope s_law) s.heap.objs.size f (.ref c)))) : DS (XL P w K mg base f c s H) EL ((forBody ((defBody s_law).getD 1 noS)).getD 15 noS) (law_1_15 C Pt) := by
  have hu := u_room hr
  have hgd : (callerA.deeper (envOfC "law" (defScope s_law) s.heap.objs.size f (.ref c))).guards = some [] := rfl
  have hp : Passes (L2.CX P w) (XL P w K mg base f c s H) EL := pass_body
  have ho : PassesOwn (model P w) (XL P w K mg base f c s H).A (XL P w K mg base f c s H).env (XL P w K mg base f c s H).xe := own_body
  have nd := sc_law.nd
  exact (d_for ho rfl (d_isq (d_var 7)) (d_gname 16 nd) (d_sone (ok_law_1_15_0 T G_law_any G_law_closed G_law_draw G_law_hand G_law_lists G_law_part_led G_law_table G_differences G_is_kept_leading G_keeps_leading G_led_together G_led_within G_moves_of G_Group__init__ RF RC TB hr)))
theorem ok_law_1_16 (T : Txt K mg C) (G_law_any : Fnc P w K mg base 2 "_law_any" 2 (F_law_any C)) (G_law_closed : Fnc P w K mg base 1 "_law_closed" 2 (F_law_closed C)) (G_law_draw : Fnc P w K mg base 1 "_law_draw" 2 (F_law_draw C)) (G_law_hand : Fnc P w K mg base 1 "_law_hand" 1 (F_law_hand C)) (G_law_lists : Fnc P w K mg base 2 "_law_lists" 3 (F_law_lists C)) (G_law_part_led : Fnc P w K mg base 2 "_law_part_led" 3 (F_law_part_led C)) (G_law_table : Fnc P w K mg base 3 "_law_table" 1 (F_law_table C)) (G_differences : Fnc P w K mg base 7 "differences" 2 (F_differences C)) (G_is_kept_leading : Fnc P w K mg base 7 "is_kept_leading" 2 (F_is_kept_leading C)) (G_keeps_leading : Fnc P w K mg base 7 "keeps_leading" 2 (F_keeps_leading C)) (G_led_together : Fnc P w K mg base 6 "led_together" 2 (F_led_together C)) (G_led_within : Fnc P w K mg base 6 "led_within" 2 (F_led_within C)) (G_moves_of : Fnc P w K mg base 6 "moves_of" 2 (F_moves_of C)) (G_Group__init__ : Mkc P w K mg base 3 "Group" C.Group 2 (F_Group__init__ C)) (RF : RefF K mg "_law_is_refused" "call" s_law_is_refused) (RC : LamY.RefC K C.GroupError C.NoPart) {c Pt : Addr} (TB : LamX.TabB base mg c Pt) {s : Shared} {H : Hp} (hr : Room 9 (callerA.deeper (envOfC "law" (defScope s_law) s.heap.objs.size f (.ref c)))) : DS (XL P w K mg base f c s H) EL ((forBody ((defBody s_law).getD 1 noS)).getD 16 noS) (law_1_16 C Pt) := by
  have hu := u_room hr
  have hgd : (callerA.deeper (envOfC "law" (defScope s_law) s.heap.objs.size f (.ref c))).guards = some [] := rfl
  have hp : Passes (L2.CX P w) (XL P w K mg base f c s H) EL := pass_body
  have ho : PassesOwn (model P w) (XL P w K mg base f c s H).A (XL P w K mg base f c s H).env (XL P w K mg base f c s H).xe := own_body
  have nd := sc_law.nd
  exact (d_sif (d_tcmp (op_neD (u64 hu)) r_ne (d_callB (c_repr hu hgd) r_repr (by rfl) T.z_repr (by decide +kernel) (d_acons (d_lc (own := [("pair", 21)]) false rfl nd (d_isq (d_callF false G_moves_of hr hp (by rfl) (d_acons (d_var 4) (d_acons (d_var 6) d_anil)) (al_cons (al_cons al_nil)))) (blkOk_by (by kernel_rfl)) (fun _ _ _ _ _ => (d_wname 21 (by decide) nd)) (fun _ _ _ _ _ => d_ifs0) (fun _ _ _ _ _ => (d_callTy call_tuple_of r_tuple (by rfl) T.z_tuple (by decide +kernel) (d_acons (d_var 21) d_anil)))) d_anil)) (d_callB (c_repr hu hgd) r_repr (by rfl) T.z_repr (by decide +kernel) (d_acons (d_sortIt rfl hu (by rfl) T.z_sorted (d_var 15)) d_anil))) (d_sone (d_ret d_bl)) d_snil)
theorem ok_law_1_17 (T : Txt K mg C) (G_law_any : Fnc P w K mg base 2 "_law_any" 2 (F_law_any C)) (G_law_closed : Fnc P w K mg base 1 "_law_closed" 2 (F_law_closed C)) (G_law_draw : Fnc P w K mg base 1 "_law_draw" 2 (F_law_draw C)) (G_law_hand : Fnc P w K mg base 1 "_law_hand" 1 (F_law_hand C)) (G_law_lists : Fnc P w K mg base 2 "_law_lists" 3 (F_law_lists C)) (G_law_part_led : Fnc P w K mg base 2 "_law_part_led" 3 (F_law_part_led C)) (G_law_table : Fnc P w K mg base 3 "_law_table" 1 (F_law_table C)) (G_differences : Fnc P w K mg base 7 "differences" 2 (F_differences C)) (G_is_kept_leading : Fnc P w K mg base 7 "is_kept_leading" 2 (F_is_kept_leading C)) (G_keeps_leading : Fnc P w K mg base 7 "keeps_leading" 2 (F_keeps_leading C)) (G_led_together : Fnc P w K mg base 6 "led_together" 2 (F_led_together C)) (G_led_within : Fnc P w K mg base 6 "led_within" 2 (F_led_within C)) (G_moves_of : Fnc P w K mg base 6 "moves_of" 2 (F_moves_of C)) (G_Group__init__ : Mkc P w K mg base 3 "Group" C.Group 2 (F_Group__init__ C)) (RF : RefF K mg "_law_is_refused" "call" s_law_is_refused) (RC : LamY.RefC K C.GroupError C.NoPart) {c Pt : Addr} (TB : LamX.TabB base mg c Pt) {s : Shared} {H : Hp} (hr : Room 9 (callerA.deeper (envOfC "law" (defScope s_law) s.heap.objs.size f (.ref c)))) : DS (XL P w K mg base f c s H) EL ((forBody ((defBody s_law).getD 1 noS)).getD 17 noS) (law_1_17 C Pt) := by
  have hu := u_room hr
  have hgd : (callerA.deeper (envOfC "law" (defScope s_law) s.heap.objs.size f (.ref c))).guards = some [] := rfl
  have hp : Passes (L2.CX P w) (XL P w K mg base f c s H) EL := pass_body
  have ho : PassesOwn (model P w) (XL P w K mg base f c s H).A (XL P w K mg base f c s H).env (XL P w K mg base f c s H).xe := own_body
  have nd := sc_law.nd
  exact (d_sif (d_tval (d_callB (cr_all rfl) r_all (by rfl) T.z_all (by decide +kernel) (d_acons (d_lc (own := [("a", 20)]) false rfl nd (d_isq (d_var 7)) (blkOk_by (by kernel_rfl)) (fun _ _ _ _ _ => (d_wname 20 (by decide) nd)) (fun _ _ _ _ _ => d_ifs0) (fun _ _ _ _ _ => (d_cmp (op_eqD (u64 hu)) r_eq (d_ix (u1 hu) (d_var 3) (d_var 20) (fun _ _ => rfl)) (d_callTy call_tuple_of r_tuple (by rfl) T.z_tuple (by decide +kernel) (d_acons (d_lc (own := [("row", 23)]) false rfl nd (d_isq (d_var 3)) (blkOk_by (by kernel_rfl)) (fun _ _ _ _ _ => (d_wname 23 (by decide) nd)) (fun _ _ _ _ _ => d_ifs0) (fun _ _ _ _ _ => (d_ix (u1 hu) (d_var 23) (d_var 20) (fun _ _ => rfl)))) d_anil))))) d_anil))) (d_sone (d_sif (d_w (d_or (d_tcmp (op_neD (u64 hu)) r_ne (d_var 8) (d_lc (own := [("one", 14)]) false rfl nd (d_isq (d_var 6)) (blkOk_by (by kernel_rfl)) (fun _ _ _ _ _ => (d_wname 14 (by decide) nd)) (fun _ _ _ _ _ => d_ifs0) (fun _ _ _ _ _ => (d_tup (d_acons (d_var 14) d_anil))))) (d_or1 (d_tcmp (op_neD (u64 hu)) r_ne (d_callF false G_differences hr hp (by rfl) (d_acons (d_var 4) (d_acons (d_var 6) d_anil)) (al_cons (al_cons al_nil))) (d_tup (d_acons d_int d_anil)))))) (d_sone (d_ret d_bl)) d_snil)) d_snil)
theorem ok_law_1_18 (T : Txt K mg C) (G_law_any : Fnc P w K mg base 2 "_law_any" 2 (F_law_any C)) (G_law_closed : Fnc P w K mg base 1 "_law_closed" 2 (F_law_closed C)) (G_law_draw : Fnc P w K mg base 1 "_law_draw" 2 (F_law_draw C)) (G_law_hand : Fnc P w K mg base 1 "_law_hand" 1 (F_law_hand C)) (G_law_lists : Fnc P w K mg base 2 "_law_lists" 3 (F_law_lists C)) (G_law_part_led : Fnc P w K mg base 2 "_law_part_led" 3 (F_law_part_led C)) (G_law_table : Fnc P w K mg base 3 "_law_table" 1 (F_law_table C)) (G_differences : Fnc P w K mg base 7 "differences" 2 (F_differences C)) (G_is_kept_leading : Fnc P w K mg base 7 "is_kept_leading" 2 (F_is_kept_leading C)) (G_keeps_leading : Fnc P w K mg base 7 "keeps_leading" 2 (F_keeps_leading C)) (G_led_together : Fnc P w K mg base 6 "led_together" 2 (F_led_together C)) (G_led_within : Fnc P w K mg base 6 "led_within" 2 (F_led_within C)) (G_moves_of : Fnc P w K mg base 6 "moves_of" 2 (F_moves_of C)) (G_Group__init__ : Mkc P w K mg base 3 "Group" C.Group 2 (F_Group__init__ C)) (RF : RefF K mg "_law_is_refused" "call" s_law_is_refused) (RC : LamY.RefC K C.GroupError C.NoPart) {c Pt : Addr} (TB : LamX.TabB base mg c Pt) {s : Shared} {H : Hp} (hr : Room 9 (callerA.deeper (envOfC "law" (defScope s_law) s.heap.objs.size f (.ref c)))) : DS (XL P w K mg base f c s H) EL ((forBody ((defBody s_law).getD 1 noS)).getD 18 noS) (law_1_18 C Pt) := by
  have hu := u_room hr
  have hgd : (callerA.deeper (envOfC "law" (defScope s_law) s.heap.objs.size f (.ref c))).guards = some [] := rfl
  have hp : Passes (L2.CX P w) (XL P w K mg base f c s H) EL := pass_body
  have ho : PassesOwn (model P w) (XL P w K mg base f c s H).A (XL P w K mg base f c s H).env (XL P w K mg base f c s H).xe := own_body
  have nd := sc_law.nd
  exact (d_set 17 nd (d_callF false G_law_any hr hp (by rfl) (d_acons (d_var 1) (d_acons (d_lst false (d_acons d_non (d_acons (d_tup d_anil) (d_acons (d_tup (d_acons (d_var 5) d_anil)) (d_acons (d_lst false (d_acons d_int d_anil)) (d_acons (d_tup (d_acons d_int (d_acons d_int d_anil))) (d_acons d_int (d_acons (d_tup (d_acons d_bl d_anil)) d_anil)))))))) d_anil)) (al_cons (al_cons al_nil))))
theorem ok_law_1_19 (T : Txt K mg C) (G_law_any : Fnc P w K mg base 2 "_law_any" 2 (F_law_any C)) (G_law_closed : Fnc P w K mg base 1 "_law_closed" 2 (F_law_closed C)) (G_law_draw : Fnc P w K mg base 1 "_law_draw" 2 (F_law_draw C)) (G_law_hand : Fnc P w K mg base 1 "_law_hand" 1 (F_law_hand C)) (G_law_lists : Fnc P w K mg base 2 "_law_lists" 3 (F_law_lists C)) (G_law_part_led : Fnc P w K mg base 2 "_law_part_led" 3 (F_law_part_led C)) (G_law_table : Fnc P w K mg base 3 "_law_table" 1 (F_law_table C)) (G_differences : Fnc P w K mg base 7 "differences" 2 (F_differences C)) (G_is_kept_leading : Fnc P w K mg base 7 "is_kept_leading" 2 (F_is_kept_leading C)) (G_keeps_leading : Fnc P w K mg base 7 "keeps_leading" 2 (F_keeps_leading C)) (G_led_together : Fnc P w K mg base 6 "led_together" 2 (F_led_together C)) (G_led_within : Fnc P w K mg base 6 "led_within" 2 (F_led_within C)) (G_moves_of : Fnc P w K mg base 6 "moves_of" 2 (F_moves_of C)) (G_Group__init__ : Mkc P w K mg base 3 "Group" C.Group 2 (F_Group__init__ C)) (RF : RefF K mg "_law_is_refused" "call" s_law_is_refused) (RC : LamY.RefC K C.GroupError C.NoPart) {c Pt : Addr} (TB : LamX.TabB base mg c Pt) {s : Shared} {H : Hp} (hr : Room 9 (callerA.deeper (envOfC "law" (defScope s_law) s.heap.objs.size f (.ref c)))) : DS (XL P w K mg base f c s H) EL ((forBody ((defBody s_law).getD 1 noS)).getD 19 noS) (law_1_19 C Pt) := by
  have hu := u_room hr
  have hgd : (callerA.deeper (envOfC "law" (defScope s_law) s.heap.objs.size f (.ref c))).guards = some [] := rfl
  have hp : Passes (L2.CX P w) (XL P w K mg base f c s H) EL := pass_body
  have ho : PassesOwn (model P w) (XL P w K mg base f c s H).A (XL P w K mg base f c s H).env (XL P w K mg base f c s H).xe := own_body
  have nd := sc_law.nd
  have gv : ∀ g cdv, LamX.GivesTo (XL P w K mg base f c s H) ["call", "error"] "_law_is_refused" (defScope s_law_is_refused) g cdv (defBody s_law_is_refused) "call" lamQ (LamY.TTref C.NoPart) := fun g cdv =>
    LamY.ref_gives (e := "error") (xe := "GroupError") (xn := "NoPart") (CG := C.GroupError) RC sc_law_is_refused.nd rfl (by rfl) (by rfl) (by rfl) (by rfl) (by rfl) (by decide) (by decide) (by decide) (by decide) T.m_GroupError T.m_NoPart T.z_isinstance T.z_ValueError (fun _ => rfl)
  exact (d_set 18 nd (d_lst true (d_acons (d_refF (k := 7) 0 RF sc_law_is_refused rfl (by first | exact Or.inl rfl | exact Or.inr (Or.inl rfl)) gv TB rfl hr (by rfl) (by kernel_rfl) (fun _ _ _ _ _ _ _ hr2 => (d_callF false G_led_together hr2 (pass_lam (X := XL P w K mg base f c s H)) (by rfl) (d_acons (d_var 4) (d_acons (d_var 17) d_anil)) (al_cons (al_cons al_nil))))) d_anil)))
theorem ok_law_1_20 (T : Txt K mg C) (G_law_any : Fnc P w K mg base 2 "_law_any" 2 (F_law_any C)) (G_law_closed : Fnc P w K mg base 1 "_law_closed" 2 (F_law_closed C)) (G_law_draw : Fnc P w K mg base 1 "_law_draw" 2 (F_law_draw C)) (G_law_hand : Fnc P w K mg base 1 "_law_hand" 1 (F_law_hand C)) (G_law_lists : Fnc P w K mg base 2 "_law_lists" 3 (F_law_lists C)) (G_law_part_led : Fnc P w K mg base 2 "_law_part_led" 3 (F_law_part_led C)) (G_law_table : Fnc P w K mg base 3 "_law_table" 1 (F_law_table C)) (G_differences : Fnc P w K mg base 7 "differences" 2 (F_differences C)) (G_is_kept_leading : Fnc P w K mg base 7 "is_kept_leading" 2 (F_is_kept_leading C)) (G_keeps_leading : Fnc P w K mg base 7 "keeps_leading" 2 (F_keeps_leading C)) (G_led_together : Fnc P w K mg base 6 "led_together" 2 (F_led_together C)) (G_led_within : Fnc P w K mg base 6 "led_within" 2 (F_led_within C)) (G_moves_of : Fnc P w K mg base 6 "moves_of" 2 (F_moves_of C)) (G_Group__init__ : Mkc P w K mg base 3 "Group" C.Group 2 (F_Group__init__ C)) (RF : RefF K mg "_law_is_refused" "call" s_law_is_refused) (RC : LamY.RefC K C.GroupError C.NoPart) {c Pt : Addr} (TB : LamX.TabB base mg c Pt) {s : Shared} {H : Hp} (hr : Room 9 (callerA.deeper (envOfC "law" (defScope s_law) s.heap.objs.size f (.ref c)))) : DS (XL P w K mg base f c s H) EL ((forBody ((defBody s_law).getD 1 noS)).getD 20 noS) (law_1_20 C Pt) := by
  have hu := u_room hr
  have hgd : (callerA.deeper (envOfC "law" (defScope s_law) s.heap.objs.size f (.ref c))).guards = some [] := rfl
  have hp : Passes (L2.CX P w) (XL P w K mg base f c s H) EL := pass_body
  have ho : PassesOwn (model P w) (XL P w K mg base f c s H).A (XL P w K mg base f c s H).env (XL P w K mg base f c s H).xe := own_body
  have nd := sc_law.nd
  have gv : ∀ g cdv, LamX.GivesTo (XL P w K mg base f c s H) ["call", "error"] "_law_is_refused" (defScope s_law_is_refused) g cdv (defBody s_law_is_refused) "call" lamQ (LamY.TTref C.NoPart) := fun g cdv =>
    LamY.ref_gives (e := "error") (xe := "GroupError") (xn := "NoPart") (CG := C.GroupError) RC sc_law_is_refused.nd rfl (by rfl) (by rfl) (by rfl) (by rfl) (by rfl) (by decide) (by decide) (by decide) (by decide) T.m_GroupError T.m_NoPart T.z_isinstance T.z_ValueError (fun _ => rfl)
  exact (d_expr (d_m PySem.F.plainAttrs_list PySem.F.slot_list_append PySem.F.type_list_append mt_append r_append (d_var 18) (d_acons (d_refF (k := 7) 0 RF sc_law_is_refused rfl (by first | exact Or.inl rfl | exact Or.inr (Or.inl rfl)) gv TB rfl hr (by rfl) (by kernel_rfl) (fun _ _ _ _ _ _ _ hr2 => (d_callF false G_led_within hr2 (pass_lam (X := XL P w K mg base f c s H)) (by rfl) (d_acons (d_var 4) (d_acons (d_var 17) d_anil)) (al_cons (al_cons al_nil))))) d_anil)))
theorem ok_law_1_21 (T : Txt K mg C) (G_law_any : Fnc P w K mg base 2 "_law_any" 2 (F_law_any C)) (G_law_closed : Fnc P w K mg base 1 "_law_closed" 2 (F_law_closed C)) (G_law_draw : Fnc P w K mg base 1 "_law_draw" 2 (F_law_draw C)) (G_law_hand : Fnc P w K mg base 1 "_law_hand" 1 (F_law_hand C)) (G_law_lists : Fnc P w K mg base 2 "_law_lists" 3 (F_law_lists C)) (G_law_part_led : Fnc P w K mg base 2 "_law_part_led" 3 (F_law_part_led C)) (G_law_table : Fnc P w K mg base 3 "_law_table" 1 (F_law_table C)) (G_differences : Fnc P w K mg base 7 "differences" 2 (F_differences C)) (G_is_kept_leading : Fnc P w K mg base 7 "is_kept_leading" 2 (F_is_kept_leading C)) (G_keeps_leading : Fnc P w K mg base 7 "keeps_leading" 2 (F_keeps_leading C)) (G_led_together : Fnc P w K mg base 6 "led_together" 2 (F_led_together C)) (G_led_within : Fnc P w K mg base 6 "led_within" 2 (F_led_within C)) (G_moves_of : Fnc P w K mg base 6 "moves_of" 2 (F_moves_of C)) (G_Group__init__ : Mkc P w K mg base 3 "Group" C.Group 2 (F_Group__init__ C)) (RF : RefF K mg "_law_is_refused" "call" s_law_is_refused) (RC : LamY.RefC K C.GroupError C.NoPart) {c Pt : Addr} (TB : LamX.TabB base mg c Pt) {s : Shared} {H : Hp} (hr : Room 9 (callerA.deeper (envOfC "law" (defScope s_law) s.heap.objs.size f (.ref c)))) : DS (XL P w K mg base f c s H) EL ((forBody ((defBody s_law).getD 1 noS)).getD 21 noS) (law_1_21 C Pt) := by
  have hu := u_room hr
  have hgd : (callerA.deeper (envOfC "law" (defScope s_law) s.heap.objs.size f (.ref c))).guards = some [] := rfl
  have hp : Passes (L2.CX P w) (XL P w K mg base f c s H) EL := pass_body
  have ho : PassesOwn (model P w) (XL P w K mg base f c s H).A (XL P w K mg base f c s H).env (XL P w K mg base f c s H).xe := own_body
  have nd := sc_law.nd
  have gv : ∀ g cdv, LamX.GivesTo (XL P w K mg base f c s H) ["call", "error"] "_law_is_refused" (defScope s_law_is_refused) g cdv (defBody s_law_is_refused) "call" lamQ (LamY.TTref C.NoPart) := fun g cdv =>
    LamY.ref_gives (e := "error") (xe := "GroupError") (xn := "NoPart") (CG := C.GroupError) RC sc_law_is_refused.nd rfl (by rfl) (by rfl) (by rfl) (by rfl) (by rfl) (by decide) (by decide) (by decide) (by decide) T.m_GroupError T.m_NoPart T.z_isinstance T.z_ValueError (fun _ => rfl)
  exact (d_expr (d_m PySem.F.plainAttrs_list PySem.F.slot_list_append PySem.F.type_list_append mt_append r_append (d_var 18) (d_acons (d_refF (k := 7) 0 RF sc_law_is_refused rfl (by first | exact Or.inl rfl | exact Or.inr (Or.inl rfl)) gv TB rfl hr (by rfl) (by kernel_rfl) (fun _ _ _ _ _ _ _ hr2 => (d_callF false G_keeps_leading hr2 (pass_lam (X := XL P w K mg base f c s H)) (by rfl) (d_acons (d_var 4) (d_acons (d_var 17) d_anil)) (al_cons (al_cons al_nil))))) d_anil)))
theorem ok_law_1_22 (T : Txt K mg C) (G_law_any : Fnc P w K mg base 2 "_law_any" 2 (F_law_any C)) (G_law_closed : Fnc P w K mg base 1 "_law_closed" 2 (F_law_closed C)) (G_law_draw : Fnc P w K mg base 1 "_law_draw" 2 (F_law_draw C)) (G_law_hand : Fnc P w K mg base 1 "_law_hand" 1 (F_law_hand C)) (G_law_lists : Fnc P w K mg base 2 "_law_lists" 3 (F_law_lists C)) (G_law_part_led : Fnc P w K mg base 2 "_law_part_led" 3 (F_law_part_led C)) (G_law_table : Fnc P w K mg base 3 "_law_table" 1 (F_law_table C)) (G_differences : Fnc P w K mg base 7 "differences" 2 (F_differences C)) (G_is_kept_leading : Fnc P w K mg base 7 "is_kept_leading" 2 (F_is_kept_leading C)) (G_keeps_leading : Fnc P w K mg base 7 "keeps_leading" 2 (F_keeps_leading C)) (G_led_together : Fnc P w K mg base 6 "led_together" 2 (F_led_together C)) (G_led_within : Fnc P w K mg base 6 "led_within" 2 (F_led_within C)) (G_moves_of : Fnc P w K mg base 6 "moves_of" 2 (F_moves_of C)) (G_Group__init__ : Mkc P w K mg base 3 "Group" C.Group 2 (F_Group__init__ C)) (RF : RefF K mg "_law_is_refused" "call" s_law_is_refused) (RC : LamY.RefC K C.GroupError C.NoPart) {c Pt : Addr} (TB : LamX.TabB base mg c Pt) {s : Shared} {H : Hp} (hr : Room 9 (callerA.deeper (envOfC "law" (defScope s_law) s.heap.objs.size f (.ref c)))) : DS (XL P w K mg base f c s H) EL ((forBody ((defBody s_law).getD 1 noS)).getD 22 noS) (law_1_22 C Pt) := by
  have hu := u_room hr
  have hgd : (callerA.deeper (envOfC "law" (defScope s_law) s.heap.objs.size f (.ref c))).guards = some [] := rfl
  have hp : Passes (L2.CX P w) (XL P w K mg base f c s H) EL := pass_body
  have ho : PassesOwn (model P w) (XL P w K mg base f c s H).A (XL P w K mg base f c s H).env (XL P w K mg base f c s H).xe := own_body
  have nd := sc_law.nd
  have gv : ∀ g cdv, LamX.GivesTo (XL P w K mg base f c s H) ["call", "error"] "_law_is_refused" (defScope s_law_is_refused) g cdv (defBody s_law_is_refused) "call" lamQ (LamY.TTref C.NoPart) := fun g cdv =>
    LamY.ref_gives (e := "error") (xe := "GroupError") (xn := "NoPart") (CG := C.GroupError) RC sc_law_is_refused.nd rfl (by rfl) (by rfl) (by rfl) (by rfl) (by rfl) (by decide) (by decide) (by decide) (by decide) T.m_GroupError T.m_NoPart T.z_isinstance T.z_ValueError (fun _ => rfl)
  exact (d_expr (d_m PySem.F.plainAttrs_list PySem.F.slot_list_append PySem.F.type_list_append mt_append r_append (d_var 18) (d_acons (d_refF (k := 7) 0 RF sc_law_is_refused rfl (by first | exact Or.inl rfl | exact Or.inr (Or.inl rfl)) gv TB rfl hr (by rfl) (by kernel_rfl) (fun _ _ _ _ _ _ _ hr2 => (d_callF false G_differences hr2 (pass_lam (X := XL P w K mg base f c s H)) (by rfl) (d_acons (d_var 4) (d_acons (d_var 17) d_anil)) (al_cons (al_cons al_nil))))) d_anil)))
theorem ok_law_1_23 (T : Txt K mg C) (G_law_any : Fnc P w K mg base 2 "_law_any" 2 (F_law_any C)) (G_law_closed : Fnc P w K mg base 1 "_law_closed" 2 (F_law_closed C)) (G_law_draw : Fnc P w K mg base 1 "_law_draw" 2 (F_law_draw C)) (G_law_hand : Fnc P w K mg base 1 "_law_hand" 1 (F_law_hand C)) (G_law_lists : Fnc P w K mg base 2 "_law_lists" 3 (F_law_lists C)) (G_law_part_led : Fnc P w K mg base 2 "_law_part_led" 3 (F_law_part_led C)) (G_law_table : Fnc P w K mg base 3 "_law_table" 1 (F_law_table C)) (G_differences : Fnc P w K mg base 7 "differences" 2 (F_differences C)) (G_is_kept_leading : Fnc P w K mg base 7 "is_kept_leading" 2 (F_is_kept_leading C)) (G_keeps_leading : Fnc P w K mg base 7 "keeps_leading" 2 (F_keeps_leading C)) (G_led_together : Fnc P w K mg base 6 "led_together" 2 (F_led_together C)) (G_led_within : Fnc P w K mg base 6 "led_within" 2 (F_led_within C)) (G_moves_of : Fnc P w K mg base 6 "moves_of" 2 (F_moves_of C)) (G_Group__init__ : Mkc P w K mg base 3 "Group" C.Group 2 (F_Group__init__ C)) (RF : RefF K mg "_law_is_refused" "call" s_law_is_refused) (RC : LamY.RefC K C.GroupError C.NoPart) {c Pt : Addr} (TB : LamX.TabB base mg c Pt) {s : Shared} {H : Hp} (hr : Room 9 (callerA.deeper (envOfC "law" (defScope s_law) s.heap.objs.size f (.ref c)))) : DS (XL P w K mg base f c s H) EL ((forBody ((defBody s_law).getD 1 noS)).getD 23 noS) (law_1_23 C Pt) := by
  have hu := u_room hr
  have hgd : (callerA.deeper (envOfC "law" (defScope s_law) s.heap.objs.size f (.ref c))).guards = some [] := rfl
  have hp : Passes (L2.CX P w) (XL P w K mg base f c s H) EL := pass_body
  have ho : PassesOwn (model P w) (XL P w K mg base f c s H).A (XL P w K mg base f c s H).env (XL P w K mg base f c s H).xe := own_body
  have nd := sc_law.nd
  have gv : ∀ g cdv, LamX.GivesTo (XL P w K mg base f c s H) ["call", "error"] "_law_is_refused" (defScope s_law_is_refused) g cdv (defBody s_law_is_refused) "call" lamQ (LamY.TTref C.NoPart) := fun g cdv =>
    LamY.ref_gives (e := "error") (xe := "GroupError") (xn := "NoPart") (CG := C.GroupError) RC sc_law_is_refused.nd rfl (by rfl) (by rfl) (by rfl) (by rfl) (by rfl) (by decide) (by decide) (by decide) (by decide) T.m_GroupError T.m_NoPart T.z_isinstance T.z_ValueError (fun _ => rfl)
  exact (d_expr (d_m PySem.F.plainAttrs_list PySem.F.slot_list_append PySem.F.type_list_append mt_append r_append (d_var 18) (d_acons (d_refF (k := 7) 0 RF sc_law_is_refused rfl (by first | exact Or.inl rfl | exact Or.inr (Or.inl rfl)) gv TB rfl hr (by rfl) (by kernel_rfl) (fun _ _ _ _ _ _ _ hr2 => (d_callF false G_moves_of hr2 (pass_lam (X := XL P w K mg base f c s H)) (by rfl) (d_acons (d_var 4) (d_acons (d_var 17) d_anil)) (al_cons (al_cons al_nil))))) d_anil)))
theorem ok_law_1_24 (T : Txt K mg C) (G_law_any : Fnc P w K mg base 2 "_law_any" 2 (F_law_any C)) (G_law_closed : Fnc P w K mg base 1 "_law_closed" 2 (F_law_closed C)) (G_law_draw : Fnc P w K mg base 1 "_law_draw" 2 (F_law_draw C)) (G_law_hand : Fnc P w K mg base 1 "_law_hand" 1 (F_law_hand C)) (G_law_lists : Fnc P w K mg base 2 "_law_lists" 3 (F_law_lists C)) (G_law_part_led : Fnc P w K mg base 2 "_law_part_led" 3 (F_law_part_led C)) (G_law_table : Fnc P w K mg base 3 "_law_table" 1 (F_law_table C)) (G_differences : Fnc P w K mg base 7 "differences" 2 (F_differences C)) (G_is_kept_leading : Fnc P w K mg base 7 "is_kept_leading" 2 (F_is_kept_leading C)) (G_keeps_leading : Fnc P w K mg base 7 "keeps_leading" 2 (F_keeps_leading C)) (G_led_together : Fnc P w K mg base 6 "led_together" 2 (F_led_together C)) (G_led_within : Fnc P w K mg base 6 "led_within" 2 (F_led_within C)) (G_moves_of : Fnc P w K mg base 6 "moves_of" 2 (F_moves_of C)) (G_Group__init__ : Mkc P w K mg base 3 "Group" C.Group 2 (F_Group__init__ C)) (RF : RefF K mg "_law_is_refused" "call" s_law_is_refused) (RC : LamY.RefC K C.GroupError C.NoPart) {c Pt : Addr} (TB : LamX.TabB base mg c Pt) {s : Shared} {H : Hp} (hr : Room 9 (callerA.deeper (envOfC "law" (defScope s_law) s.heap.objs.size f (.ref c)))) : DS (XL P w K mg base f c s H) EL ((forBody ((defBody s_law).getD 1 noS)).getD 24 noS) (law_1_24 C Pt) := by
  have hu := u_room hr
  have hgd : (callerA.deeper (envOfC "law" (defScope s_law) s.heap.objs.size f (.ref c))).guards = some [] := rfl
  have hp : Passes (L2.CX P w) (XL P w K mg base f c s H) EL := pass_body
  have ho : PassesOwn (model P w) (XL P w K mg base f c s H).A (XL P w K mg base f c s H).env (XL P w K mg base f c s H).xe := own_body
  have nd := sc_law.nd
  exact (d_sif (d_tcmp (op_neD (u64 hu)) r_ne (d_var 18) (d_op o_mul (r_mul false) (d_lst false (d_acons d_bl d_anil)) d_int)) (d_sone (d_ret d_bl)) d_snil)
theorem ok_law_1 (T : Txt K mg C) (G_law_any : Fnc P w K mg base 2 "_law_any" 2 (F_law_any C)) (G_law_closed : Fnc P w K mg base 1 "_law_closed" 2 (F_law_closed C)) (G_law_draw : Fnc P w K mg base 1 "_law_draw" 2 (F_law_draw C)) (G_law_hand : Fnc P w K mg base 1 "_law_hand" 1 (F_law_hand C)) (G_law_lists : Fnc P w K mg base 2 "_law_lists" 3 (F_law_lists C)) (G_law_part_led : Fnc P w K mg base 2 "_law_part_led" 3 (F_law_part_led C)) (G_law_table : Fnc P w K mg base 3 "_law_table" 1 (F_law_table C)) (G_differences : Fnc P w K mg base 7 "differences" 2 (F_differences C)) (G_is_kept_leading : Fnc P w K mg base 7 "is_kept_leading" 2 (F_is_kept_leading C)) (G_keeps_leading : Fnc P w K mg base 7 "keeps_leading" 2 (F_keeps_leading C)) (G_led_together : Fnc P w K mg base 6 "led_together" 2 (F_led_together C)) (G_led_within : Fnc P w K mg base 6 "led_within" 2 (F_led_within C)) (G_moves_of : Fnc P w K mg base 6 "moves_of" 2 (F_moves_of C)) (G_Group__init__ : Mkc P w K mg base 3 "Group" C.Group 2 (F_Group__init__ C)) (RF : RefF K mg "_law_is_refused" "call" s_law_is_refused) (RC : LamY.RefC K C.GroupError C.NoPart) {c Pt : Addr} (TB : LamX.TabB base mg c Pt) {s : Shared} {H : Hp} (hr : Room 9 (callerA.deeper (envOfC "law" (defScope s_law) s.heap.objs.size f (.ref c)))) : DS (XL P w K mg base f c s H) EL ((defBody s_law).getD 1 noS) (law_1 C Pt) := by
  have hu := u_room hr
  have hgd : (callerA.deeper (envOfC "law" (defScope s_law) s.heap.objs.size f (.ref c))).guards = some [] := rfl
  have hp : Passes (L2.CX P w) (XL P w K mg base f c s H) EL := pass_body
  have ho : PassesOwn (model P w) (XL P w K mg base f c s H).A (XL P w K mg base f c s H).env (XL P w K mg base f c s H).xe := own_body
  have nd := sc_law.nd
  exact (d_for ho rfl (d_irng1 (by rfl) T.z_range (d_acons d_int d_anil)) (d_gname 2 nd) (d_scons (ok_law_1_0 T G_law_any G_law_closed G_law_draw G_law_hand G_law_lists G_law_part_led G_law_table G_differences G_is_kept_leading G_keeps_leading G_led_together G_led_within G_moves_of G_Group__init__ RF RC TB hr) (d_scons (ok_law_1_1 T G_law_any G_law_closed G_law_draw G_law_hand G_law_lists G_law_part_led G_law_table G_differences G_is_kept_leading G_keeps_leading G_led_together G_led_within G_moves_of G_Group__init__ RF RC TB hr) (d_scons (ok_law_1_2 T G_law_any G_law_closed G_law_draw G_law_hand G_law_lists G_law_part_led G_law_table G_differences G_is_kept_leading G_keeps_leading G_led_together G_led_within G_moves_of G_Group__init__ RF RC TB hr) (d_scons (ok_law_1_3 T G_law_any G_law_closed G_law_draw G_law_hand G_law_lists G_law_part_led G_law_table G_differences G_is_kept_leading G_keeps_leading G_led_together G_led_within G_moves_of G_Group__init__ RF RC TB hr) (d_scons (ok_law_1_4 T G_law_any G_law_closed G_law_draw G_law_hand G_law_lists G_law_part_led G_law_table G_differences G_is_kept_leading G_keeps_leading G_led_together G_led_within G_moves_of G_Group__init__ RF RC TB hr) (d_scons (ok_law_1_5 T G_law_any G_law_closed G_law_draw G_law_hand G_law_lists G_law_part_led G_law_table G_differences G_is_kept_leading G_keeps_leading G_led_together G_led_within G_moves_of G_Group__init__ RF RC TB hr) (d_scons (ok_law_1_6 T G_law_any G_law_closed G_law_draw G_law_hand G_law_lists G_law_part_led G_law_table G_differences G_is_kept_leading G_keeps_leading G_led_together G_led_within G_moves_of G_Group__init__ RF RC TB hr) (d_scons (ok_law_1_7 T G_law_any G_law_closed G_law_draw G_law_hand G_law_lists G_law_part_led G_law_table G_differences G_is_kept_leading G_keeps_leading G_led_together G_led_within G_moves_of G_Group__init__ RF RC TB hr) (d_scons (ok_law_1_8 T G_law_any G_law_closed G_law_draw G_law_hand G_law_lists G_law_part_led G_law_table G_differences G_is_kept_leading G_keeps_leading G_led_together G_led_within G_moves_of G_Group__init__ RF RC TB hr) (d_scons (ok_law_1_9 T G_law_any G_law_closed G_law_draw G_law_hand G_law_lists G_law_part_led G_law_table G_differences G_is_kept_leading G_keeps_leading G_led_together G_led_within G_moves_of G_Group__init__ RF RC TB hr) (d_scons (ok_law_1_10 T G_law_any G_law_closed G_law_draw G_law_hand G_law_lists G_law_part_led G_law_table G_differences G_is_kept_leading G_keeps_leading G_led_together G_led_within G_moves_of G_Group__init__ RF RC TB hr) (d_scons (ok_law_1_11 T G_law_any G_law_closed G_law_draw G_law_hand G_law_lists G_law_part_led G_law_table G_differences G_is_kept_leading G_keeps_leading G_led_together G_led_within G_moves_of G_Group__init__ RF RC TB hr) (d_scons (ok_law_1_12 T G_law_any G_law_closed G_law_draw G_law_hand G_law_lists G_law_part_led G_law_table G_differences G_is_kept_leading G_keeps_leading G_led_together G_led_within G_moves_of G_Group__init__ RF RC TB hr) (d_scons (ok_law_1_13 T G_law_any G_law_closed G_law_draw G_law_hand G_law_lists G_law_part_led G_law_table G_differences G_is_kept_leading G_keeps_leading G_led_together G_led_within G_moves_of G_Group__init__ RF RC TB hr) (d_scons (ok_law_1_14 T G_law_any G_law_closed G_law_draw G_law_hand G_law_lists G_law_part_led G_law_table G_differences G_is_kept_leading G_keeps_leading G_led_together G_led_within G_moves_of G_Group__init__ RF RC TB hr) (d_scons (ok_law_1_15 T G_law_any G_law_closed G_law_draw G_law_hand G_law_lists G_law_part_led G_law_table G_differences G_is_kept_leading G_keeps_leading G_led_together G_led_within G_moves_of G_Group__init__ RF RC TB hr) (d_scons (ok_law_1_16 T G_law_any G_law_closed G_law_draw G_law_hand G_law_lists G_law_part_led G_law_table G_differences G_is_kept_leading G_keeps_leading G_led_together G_led_within G_moves_of G_Group__init__ RF RC TB hr) (d_scons (ok_law_1_17 T G_law_any G_law_closed G_law_draw G_law_hand G_law_lists G_law_part_led G_law_table G_differences G_is_kept_leading G_keeps_leading G_led_together G_led_within G_moves_of G_Group__init__ RF RC TB hr) (d_scons (ok_law_1_18 T G_law_any G_law_closed G_law_draw G_law_hand G_law_lists G_law_part_led G_law_table G_differences G_is_kept_leading G_keeps_leading G_led_together G_led_within G_moves_of G_Group__init__ RF RC TB hr) (d_scons (ok_law_1_19 T G_law_any G_law_closed G_law_draw G_law_hand G_law_lists G_law_part_led G_law_table G_differences G_is_kept_leading G_keeps_leading G_led_together G_led_within G_moves_of G_Group__init__ RF RC TB hr) (d_scons (ok_law_1_20 T G_law_any G_law_closed G_law_draw G_law_hand G_law_lists G_law_part_led G_law_table G_differences G_is_kept_leading G_keeps_leading G_led_together G_led_within G_moves_of G_Group__init__ RF RC TB hr) (d_scons (ok_law_1_21 T G_law_any G_law_closed G_law_draw G_law_hand G_law_lists G_law_part_led G_law_table G_differences G_is_kept_leading G_keeps_leading G_led_together G_led_within G_moves_of G_Group__init__ RF RC TB hr) (d_scons (ok_law_1_22 T G_law_any G_law_closed G_law_draw G_law_hand G_law_lists G_law_part_led G_law_table G_differences G_is_kept_leading G_keeps_leading G_led_together G_led_within G_moves_of G_Group__init__ RF RC TB hr) (d_scons (ok_law_1_23 T G_law_any G_law_closed G_law_draw G_law_hand G_law_lists G_law_part_led G_law_table G_differences G_is_kept_leading G_keeps_leading G_led_together G_led_within G_moves_of G_Group__init__ RF RC TB hr) (d_sone (ok_law_1_24 T G_law_any G_law_closed G_law_draw G_law_hand G_law_lists G_law_part_led G_law_table G_differences G_is_kept_leading G_keeps_leading G_led_together G_led_within G_moves_of G_Group__init__ RF RC TB hr)))))))))))))))))))))))))))
theorem ok_law_2 (T : Txt K mg C) (G_law_any : Fnc P w K mg base 2 "_law_any" 2 (F_law_any C)) (G_law_closed : Fnc P w K mg base 1 "_law_closed" 2 (F_law_closed C)) (G_law_draw : Fnc P w K mg base 1 "_law_draw" 2 (F_law_draw C)) (G_law_hand : Fnc P w K mg base 1 "_law_hand" 1 (F_law_hand C)) (G_law_lists : Fnc P w K mg base 2 "_law_lists" 3 (F_law_lists C)) (G_law_part_led : Fnc P w K mg base 2 "_law_part_led" 3 (F_law_part_led C)) (G_law_table : Fnc P w K mg base 3 "_law_table" 1 (F_law_table C)) (G_differences : Fnc P w K mg base 7 "differences" 2 (F_differences C)) (G_is_kept_leading : Fnc P w K mg base 7 "is_kept_leading" 2 (F_is_kept_leading C)) (G_keeps_leading : Fnc P w K mg base 7 "keeps_leading" 2 (F_keeps_leading C)) (G_led_together : Fnc P w K mg base 6 "led_together" 2 (F_led_together C)) (G_led_within : Fnc P w K mg base 6 "led_within" 2 (F_led_within C)) (G_moves_of : Fnc P w K mg base 6 "moves_of" 2 (F_moves_of C)) (G_Group__init__ : Mkc P w K mg base 3 "Group" C.Group 2 (F_Group__init__ C)) (RF : RefF K mg "_law_is_refused" "call" s_law_is_refused) (RC : LamY.RefC K C.GroupError C.NoPart) {c Pt : Addr} (TB : LamX.TabB base mg c Pt) {s : Shared} {H : Hp} (hr : Room 9 (callerA.deeper (envOfC "law" (defScope s_law) s.heap.objs.size f (.ref c)))) : DS (XL P w K mg base f c s H) EL ((defBody s_law).getD 2 noS) (law_2 C Pt) := by
  have hu := u_room hr
  have hgd : (callerA.deeper (envOfC "law" (defScope s_law) s.heap.objs.size f (.ref c))).guards = some [] := rfl
  have hp : Passes (L2.CX P w) (XL P w K mg base f c s H) EL := pass_body
  have ho : PassesOwn (model P w) (XL P w K mg base f c s H).A (XL P w K mg base f c s H).env (XL P w K mg base f c s H).xe := own_body
  have nd := sc_law.nd
  exact (d_ret d_bl)
theorem body_law (T : Txt K mg C) (G_law_any : Fnc P w K mg base 2 "_law_any" 2 (F_law_any C)) (G_law_closed : Fnc P w K mg base 1 "_law_closed" 2 (F_law_closed C)) (G_law_draw : Fnc P w K mg base 1 "_law_draw" 2 (F_law_draw C)) (G_law_hand : Fnc P w K mg base 1 "_law_hand" 1 (F_law_hand C)) (G_law_lists : Fnc P w K mg base 2 "_law_lists" 3 (F_law_lists C)) (G_law_part_led : Fnc P w K mg base 2 "_law_part_led" 3 (F_law_part_led C)) (G_law_table : Fnc P w K mg base 3 "_law_table" 1 (F_law_table C)) (G_differences : Fnc P w K mg base 7 "differences" 2 (F_differences C)) (G_is_kept_leading : Fnc P w K mg base 7 "is_kept_leading" 2 (F_is_kept_leading C)) (G_keeps_leading : Fnc P w K mg base 7 "keeps_leading" 2 (F_keeps_leading C)) (G_led_together : Fnc P w K mg base 6 "led_together" 2 (F_led_together C)) (G_led_within : Fnc P w K mg base 6 "led_within" 2 (F_led_within C)) (G_moves_of : Fnc P w K mg base 6 "moves_of" 2 (F_moves_of C)) (G_Group__init__ : Mkc P w K mg base 3 "Group" C.Group 2 (F_Group__init__ C)) (RF : RefF K mg "_law_is_refused" "call" s_law_is_refused) (RC : LamY.RefC K C.GroupError C.NoPart) {c Pt : Addr} (TB : LamX.TabB base mg c Pt) {s : Shared} {H : Hp} (hr : Room 9 (callerA.deeper (envOfC "law" (defScope s_law) s.heap.objs.size f (.ref c)))) :
    DSs (XL P w K mg base f c s H) EL (defBody s_law) (m_law C Pt) := by
  exact (d_scons (ok_law_0 T G_law_any G_law_closed G_law_draw G_law_hand G_law_lists G_law_part_led G_law_table G_differences G_is_kept_leading G_keeps_leading G_led_together G_led_within G_moves_of G_Group__init__ RF RC TB hr) (d_scons (ok_law_1 T G_law_any G_law_closed G_law_draw G_law_hand G_law_lists G_law_part_led G_law_table G_differences G_is_kept_leading G_keeps_leading G_led_together G_led_within G_moves_of G_Group__init__ RF RC TB hr) (d_sone (ok_law_2 T G_law_any G_law_closed G_law_draw G_law_hand G_law_lists G_law_part_led G_law_table G_differences G_is_kept_leading G_keeps_leading G_led_together G_led_within G_moves_of G_Group__init__ RF RC TB hr))))
end
end K77

-- M22
/-! M22: one turn of the law. -/
namespace EV
open PySem PySem.Spec L2
section
variable {h : List EO} {n m k : Nat} {s s1 : HS} {es : Es} {fI : MI} {g : MG} {f : ME} {vs : List Nat} {h0 : List EO}
theorem set_len {s : HS} : (h.set n s.o).length = h.length := by simp
theorem lc_draws (H : HH h n s) (hp : 0 ≤ s1.pos) (eI : fI es h0 = .ok (nxtN 0 k, k + 1) (h.set n s1.o)) (hk : k ≤ 1000)
    (step : ∀ (i : Nat) (s' : HS) (acc : List Nat), 0 ≤ s'.pos → ∃ es1, g (nI i) (ewipe es vs) (h.set n s'.o ++ [.lst (acc.map nI)]) = .ok es1 (h.set n s'.o ++ [.lst (acc.map nI)]) ∧ ∃ (d : Nat) (s2 : HS), d < m ∧ 0 ≤ s2.pos ∧ f es1 (h.set n s'.o ++ [.lst (acc.map nI)]) = .ok (nI d) (h.set n s2.o ++ [.lst (acc.map nI)])) :
    ∃ (S : List Nat) (s2 : HS), S.length = k ∧ (∀ x ∈ S, x < m) ∧ 0 ≤ s2.pos ∧ eLc false fI g tTrue f vs es h0 = .ok (.p (.fl (nP S))) (h.set n s2.o) := by
  have hz : (1000 : Nat) < sizeLine := by decide
  have main : ∀ (r i : Nat) (S0 : List Nat) (s' : HS), i + r = k → S0.length = i → (∀ x ∈ S0, x < m) → 0 ≤ s'.pos → ∃ (S : List Nat) (s2 : HS), S.length = k ∧ (∀ x ∈ S, x < m) ∧ 0 ≤ s2.pos ∧ lcLoop h.length (nxtN 0 k) g tTrue f vs (r + 1) i es (h.set n s'.o ++ [.lst (S0.map nI)]) = .ok () (h.set n s2.o ++ [.lst (S.map nI)]) := by
    intro r
    induction r with
    | zero =>
      intro i S0 s' hi hl hm hp
      refine ⟨S0, s', by omega, hm, hp, ?_⟩
      have : ¬ i < k := by omega
      simp [lcLoop, nxtN, this]
    | succ r ih =>
      intro i S0 s' hi hl hm hp
      obtain ⟨es1, e1, d, s2, hd, hp2, e2⟩ := step i s' S0 hp
      obtain ⟨S, s3, q1, q2, q3, q4⟩ := ih (i + 1) (S0 ++ [d]) s2 (by omega) (by simp; omega) (fun x hx => by
        rcases List.mem_append.mp hx with hx | hx
        · exact hm x hx
        · simp at hx; omega) hp2
      refine ⟨S, s3, q1, q2, q3, ?_⟩
      have hik : i < k := by omega
      have e3 : nxtN 0 k i (h.set n s'.o ++ [.lst (S0.map nI)]) = some (some (nI i)) := by simp [nxtN, hik]
      have e4 : (h.set n s2.o ++ [EO.lst (S0.map nI)])[h.length]? = some (.lst (S0.map nI)) := by
        have : h.length = (h.set n s2.o).length := by simp
        rw [this]; exact getL0
      have e5 : (h.set n s2.o ++ [EO.lst (S0.map nI)]).set h.length (.lst (S0.map nI ++ [nI d])) = h.set n s2.o ++ [.lst ((S0 ++ [d]).map nI)] := by
        have : h.length = (h.set n s2.o).length := by simp
        rw [this, setL0]; simp
      rw [lcLoop]
      simp only [e3, e1, rnb_ok, tTrue_r, if_true, e2, e4, List.length_map, hl]
      rw [if_pos (by omega), e5]
      exact q4
  obtain ⟨S, s2, q1, q2, q3, q4⟩ := main k 0 [] s1 (by omega) rfl (by simp) hp
  refine ⟨S, s2, q1, q2, q3, ?_⟩
  simp only [eLc, eI, rbind_ok, set_len]
  simp only [List.map_nil] at q4
  rw [q4]
  simp only [rnb_ok, finL, set_len, Bool.false_eq_true, if_false]
  have e4 : (h.set n s2.o ++ [EO.lst (S.map nI)])[h.length]? = some (.lst ((nP S).map .p)) := by
    have : h.length = (h.set n s2.o).length := by simp
    rw [nP_nI]
    conv => lhs; rw [this]
    exact getL0
  have e5 : (h.set n s2.o ++ [EO.lst (S.map nI)]).take h.length = h.set n s2.o := by
    rw [List.take_append_of_le_length (by simp), List.take_of_length_le (by simp)]
  have hc : Cut (h.set n s1.o) (h.set n s2.o ++ [EO.lst (S.map nI)]) := ⟨by simp, .inr (by
    rw [set_len, e5]
    exact below_set H s2)⟩
  rw [e4]
  simp only [allP_map]
  rw [if_pos ⟨by simp, hc⟩, e5]
theorem absI {i : Int} : (if i < 0 then -i else i) = (i.natAbs : Int) := by omega
end
end EV
namespace K77
open PySem PySem.Spec L2 EV
section
variable {C : Cs} {h : List EO} {Pt : Addr}
theorem hand_r {ns : List Int} (hl : ns.length ≤ 63) : cutR true h (F_law_hand C [.p (.fz (ns.map .int))] h) = .ok (.ref h.length) (h ++ [HS.o ⟨ns.map fun i => (i.natAbs : Int), 0, 0, 347 + 227 * ns.length, 0⟩]) := by
  have hz : (1000 : Nat) < sizeLine := by decide
  have sl : slF false (.p (.fz (ns.map .int))) none (some 63) h = .ok (.p (.fl (ns.map .int))) h := by
    have e1 : slF false (.p (.fz (ns.map .int))) none (some 63) h = if ((ns.map PV.int).map SV.p).length ≤ sizeLine then mkL false (cutS_ ((ns.map PV.int).map SV.p) none (some 63)) h else .bad := rfl
    have e2 : HT.sIx ((ns.map PV.int).map SV.p).length 0 none = 0 := by rw [HT.sIx_none]
    have e3 : HT.sIx ((ns.map PV.int).map SV.p).length ((ns.map PV.int).map SV.p).length (some 63) = ns.length := by
      have := HT.sIx_nat ((ns.map PV.int).map SV.p).length ((ns.map PV.int).map SV.p).length 63
      simp at this
      simp
      rw [this]; omega
    have e4 : cutS_ ((ns.map PV.int).map SV.p) none (some 63) = (ns.map PV.int).map SV.p := by
      unfold cutS_
      rw [e2, e3, List.drop_zero, Nat.sub_zero, List.take_of_length_le (by simp)]
    rw [e1, if_pos (by simp; omega), e4, mkL_f (by simp; omega)]
  refine wfd ?_
  unfold m_law_hand
  simp [List.replicate]
  refine wx_la (L := ns) (e := fun i => SV.p (.int i)) (h1 := h) (w := (nxtL ((ns.map PV.int).map .p), (ns.map PV.int).length + 1)) (fun i => .int (i.natAbs : Int)) (iSeqF (xs := ns.map .int) (by simp [eSl, oSome, sl])) (by rw [show ns.map (fun i => SV.p (.int i)) = (ns.map PV.int).map SV.p by simp]; exact wk_p _ _) (by omega) (fun i acc hi => ⟨_, rfl, ?_⟩) ?_
  · simp only [ewipe]
    simp [absI]
  · have mc : ∀ x, mulC 227 x = true := fun x => mulC_l (by decide)
    simp [mul_r (mc _), mkL, cutR, HS.o, show 5 ≤ sizeLine by omega]
end
end K77

-- M23
/-! M23: the law. -/
namespace K77
open PySem PySem.Spec L2 EV
section
variable {C : Cs} {h : List EO} {Pt : Addr}
def LInv (Pt : Addr) (sc : SV) (es : Es) (h : List EO) : Prop := ∃ (s : HS) (x2 x3 x4 x5 x6 x7 x8 x9 x10 x11 x12 x13 x14 x15 x16 x17 x18 x19 x20 x21 x22 x23 : Option SV), es = [some sc, some (.ref 1), x2, x3, x4, x5, x6, x7, x8, x9, x10, x11, x12, x13, x14, x15, x16, x17, x18, x19, x20, x21, x22, x23] ∧ HH h 1 s ∧ h[0]? = some (.tab Pt lamQ)
theorem rng1_h {fa : ME} {es : Es} {h h1 : List EO} {n : Nat} (e : fa es h = .ok (nI n) h1) (hn : n ≤ 1000) : eRng1 (aCons fa aNil) es h = .ok (nxtN 0 n, n + 1) h1 := by
  unfold eRng1
  rw [aCons_r, e, rbind_ok, aNil_r, rbind_ok, rbind_ok]
  exact if_pos (inB_n hn)
theorem walks_fl {l : List Nat} : EV.Walks h (.p (.fl (nP l))) (l.map nI) := by rw [← nP_nI]; exact walks_p rfl
theorem ext_r {h : List EO} {n : Nat} {xs : List SV} {ys : List PV} (e : h[n]? = some (.lst xs)) (hl : xs.length + ys.length ≤ 100000) : mExtend (.ref n) [.p (.fl ys)] h = .ok (.p .non) (h.set n (.lst (xs ++ ys.map .p))) := by
  have hz : (100000 : Nat) < sizeLine := by decide
  have h1 : xs.length + ys.length ≤ sizeLine := by omega
  simp only [mExtend, onLst, e, lstOf, List.length_map, h1, if_true]
theorem mvV_tup {acc : List (List Nat × Nat)} {x : PV} (hx : x ∈ mvV acc) : ∃ ps, x = .tup ps := by
  unfold mvV at hx
  obtain ⟨e, _, rfl⟩ := List.mem_map.mp hx
  exact ⟨_, rfl⟩
theorem wx_ref {n : Nat} {P : Addr} {q : Str} {CN : Addr} {fb : ME} {es : Es} {h : List EO} {E : ExP} {Q : SV → List EO → Prop} (e : h[n]? = some (.tab P q)) (ef : fb es h = .exc CN [] h) (hQ : Q (.p (.bl true)) h) : Wx (eRef n P q CN fb es h) E Q := by
  have : eRef n P q CN fb es h = .ok (.p (.bl true)) h := by
    simp only [eRef, e, and_self, if_true, ef, refK]
    simp
  rw [this]; exact .ok hQ
theorem mulf_r {h : List EO} {xs : List PV} {k : Nat} (hk : xs.length * k ≤ 1000) (hk2 : k ≤ 1000) : opMul false (.p (.fl xs)) (nI k) h = .ok (.p (.fl (List.replicate k xs).flatten)) h := by
  have hz : (100000 : Nat) < sizeLine := by decide
  have e63 : (2 : Int) ^ 63 = 9223372036854775808 := by decide +kernel
  have hc : -(2 ^ 63) ≤ ((k : Nat) : Int) ∧ ((k : Nat) : Int) < 2 ^ 63 ∧ (xs.map SV.p).length * ((k : Nat) : Int).toNat ≤ sizeLine := by
    rw [e63]
    simp only [Int.toNat_natCast, List.length_map]
    omega
  have e : opMul false (.p (.fl xs)) (nI k) h = if -(2 ^ 63) ≤ ((k : Nat) : Int) ∧ ((k : Nat) : Int) < 2 ^ 63 ∧ (xs.map SV.p).length * ((k : Nat) : Int).toNat ≤ sizeLine then mkL false (List.replicate ((k : Nat) : Int).toNat (xs.map SV.p)).flatten h else .bad := rfl
  have e2 : (List.replicate ((k : Nat) : Int).toNat (xs.map SV.p)).flatten = ((List.replicate k xs).flatten).map SV.p := by
    rw [Int.toNat_natCast, List.map_flatten, List.map_replicate]
  rw [e, if_pos hc, e2, mkL_f (by simp; rw [Nat.mul_comm]; omega)]
theorem tab_set {s : HS} (e : h[0]? = some (.tab Pt lamQ)) : (h.set 1 s.o)[0]? = some (.tab Pt lamQ) := by
  rw [List.getElem?_set_ne (by omega)]; exact e
theorem turn_r {sc : SV} {D : Ps} {s : HS} {x2 x3 x4 x5 x6 x7 x8 x9 x10 x11 x12 x13 x14 x15 x16 x17 x18 x19 x20 x21 x22 x23 : Option SV} (H : HH h 1 s) (e0 : h[0]? = some (.tab Pt lamQ)) :
    Ws ((sSeq (law_1_0 C Pt) (sSeq (law_1_1 C Pt) (sSeq (law_1_2 C Pt) (sSeq (law_1_3 C Pt) (sSeq (law_1_4 C Pt) (sSeq (law_1_5 C Pt) (sSeq (law_1_6 C Pt) (sSeq (law_1_7 C Pt) (sSeq (law_1_8 C Pt) (sSeq (law_1_9 C Pt) (sSeq (law_1_10 C Pt) (sSeq (law_1_11 C Pt) (sSeq (law_1_12 C Pt) (sSeq (law_1_13 C Pt) (sSeq (law_1_14 C Pt) (sSeq (law_1_15 C Pt) (sSeq (law_1_16 C Pt) (sSeq (law_1_17 C Pt) (sSeq (law_1_18 C Pt) (sSeq (law_1_19 C Pt) (sSeq (law_1_20 C Pt) (sSeq (law_1_21 C Pt) (sSeq (law_1_22 C Pt) (sSeq (law_1_23 C Pt) (law_1_24 C Pt))))))))))))))))))))))))) [some sc, some (.ref 1), x2, x3, x4, x5, x6, x7, x8, x9, x10, x11, x12, x13, x14, x15, x16, x17, x18, x19, x20, x21, x22, x23] h) (D.lp (LInv Pt sc)) := by
  have hz : (100000 : Nat) < sizeLine := by decide
  -- rows
  obtain ⟨T, s1, O, hp1, t1⟩ := table_r (C := C) H
  have h8 := O.le
  have hpos := O.pos
  have H1 := H.step hp1
  have hs1 : ∀ s2 : HS, (h.set 1 s1.o).set 1 s2.o = h.set 1 s2.o := fun s2 => by simp
  rw [ws_seqT]; unfold law_1_0
  simp [t1]
  -- group, many
  unfold law_1_1
  simp [init_r O, tab_len, show 2 ≤ sizeLine by omega]
  -- part
  unfold law_1_2
  obtain ⟨k, s2, hk, hp2, d2⟩ := draw_r (C := C) H1 (m := 3) (by omega) (by omega)
  rw [hs1] at d2
  obtain ⟨S, s3, q1, q2, hp3, q4⟩ := lc_draws (m := T.n) (k := k) (fI := (eRng1 (aCons (eCallM false (F_law_draw C) (aCons (eVar 1) (aCons (eC (.int 3)) aNil))) aNil))) (g := gNm 19) (f := (eCallM false (F_law_draw C) (aCons (eVar 1) (aCons (eVar 5) aNil)))) (vs := [19]) (h0 := h.set 1 s1.o) (es := [some sc, some (.ref 1), x2, some (.p T.tab), some (.p (grp C T)), some (nI T.n), x6, x7, x8, x9, x10, x11, x12, x13, x14, x15, x16, x17, x18, x19, x20, x21, x22, x23]) H hp2 (by
    refine rng1_h ?_ (by omega)
    simp only [nI] at d2
    simp at d2
    simp [d2]) (by omega) (by
    intro i s' acc hp'
    have Hs := H.step hp'
    have Ha : HH (h.set 1 s'.o ++ [.lst (acc.map nI)]) 1 s' := Hs.app (by simp [below_nI])
    obtain ⟨d, s2, hd, hp, e⟩ := draw_r (C := C) Ha (m := T.n) O.pos (by omega)
    refine ⟨_, rfl, d, s2, hd, hp, ?_⟩
    rw [set_app Hs] at e
    simp only [List.set_set] at e
    simp [ewipe, e])
  simp [q4]
  have H3 := H.step hp3
  have e3 := tab_set (s := s3) e0
  clear t1 d2 q4 H1 hs1
  generalize h.set 1 s3.o = h3 at H3 e3
  simp [law_closed_r O q2 walks_fl]
  -- every
  unfold law_1_3
  have rg : RgOk 0 (T.n : Nat) := rgok (by omega) (by omega) (by omega) (by omega)
  simp [trg_r rg, rgS0]
  -- the own lists
  unfold law_1_4
  have hE : ∀ x, x ∈ List.range T.n ↔ x < T.n := fun x => by simp
  have U := gen_sub O q2
  have hP : ∀ x, x ∈ Tb.gen T S ↔ Gen T S x := fun x => ⟨fun q => (mem_can.mp q).2, fun q => mem_can.mpr ⟨U.lt q, q⟩⟩
  have hlen : (Tb.gen T S).length ≤ T.n := can_len _ _
  obtain ⟨TL, hTL⟩ : ∃ TL, TL = TogL T S := ⟨_, rfl⟩
  obtain ⟨WL, hWL⟩ : ∃ WL, WL = WithL T S := ⟨_, rfl⟩
  obtain ⟨KL, hKL⟩ : ∃ KL, KL = classes T.n (Gen T S) (Led T fun x => x ∈ keepL T (Tb.gen T S)) := ⟨_, rfl⟩
  have fold : ∀ L : List (List Nat), L.map (fun l => PV.tup (nP l)) = lP L := fun _ => rfl
  have nT : TL.length ≤ T.n := by rw [hTL]; exact cls_len
  have nW : WL.length ≤ T.n := by rw [hWL]; exact cls_len
  have pT : Pl 2 2320 (lD TL) := by rw [hTL]; exact pl_cls h8
  have pW : Pl 2 2320 (lD WL) := by rw [hWL]; exact pl_cls h8
  have pK : Pl 2 2320 (lD KL) := by rw [hKL]; exact pl_cls h8
  have l1 : ∀ h, cutR false h (F_law_lists C [.p T.tab, tS (Tb.gen T S), .p (.tup (nP (List.range T.n)))] h) = .ok (.p (.fl (lP TL))) h := fun h => by
    rw [hTL]; exact law_lists_r (C := C) (h := h) O q2 (all_sub O) (L := List.range T.n) hE (by simp; omega) walks_tS
  have l2 : ∀ h, cutR false h (F_law_lists C [.p T.tab, tS (Tb.gen T S), tS (Tb.gen T S)] h) = .ok (.p (.fl (lP WL))) h := fun h => by
    rw [hWL]; exact law_lists_r (C := C) (h := h) O q2 U (L := Tb.gen T S) hP (by omega) walks_tS
  obtain ⟨k1, k2⟩ := keepL_lt (T := T) (l := Tb.gen T S)
  have l3 : ∀ h, cutR false h (F_law_lists C [.p T.tab, tS (Tb.gen T S), .p (.fl (nP (keepL T (Tb.gen T S))))] h) = .ok (.p (.fl (lP KL))) h := fun h => by
    rw [hKL]; exact law_lists_r (C := C) (h := h) O q2 (keep_sub O q2) (L := keepL T (Tb.gen T S)) (fun x => Iff.rfl) (by omega) walks_fl
  have g1 : ∀ h, cutR false h (F_led_together C [.p (grp C T), tS (Tb.gen T S)] h) = .ok (.p (.fl (lP TL))) h := fun h => by rw [hTL]; exact led_together_r O q2
  have g2 : ∀ h, cutR false h (F_led_within C [.p (grp C T), tS (Tb.gen T S)] h) = .ok (.p (.fl (lP WL))) h := fun h => by rw [hWL]; exact led_within_r O q2
  have g3 : ∀ h, cutR false h (F_keeps_leading C [.p (grp C T), tS (Tb.gen T S)] h) = .ok (.p (.bl (decide (TL = WL)))) h := fun h => by rw [hTL, hWL]; exact keeps_leading_r O q2
  have g4 : ∀ h, cutR false h (F_is_kept_leading C [.p (grp C T), tS (Tb.gen T S)] h) = .ok (.p (.bl (decide (KL = TL)))) h := fun h => by
    rw [is_kept_leading_r O q2, hKL, hTL]
    congr 3
    exact decide_eq_decide.mpr (kept_leading_iff O q2).symm
  have eqL : ∀ (h : List EO) (A B : List (List Nat)), Pl 2 2320 (lD A) → Pl 2 2320 (lD B) → opData PyData.eqv (.p (.fl (lP A))) (.p (.fl (lP B))) h = .ok (.p (.bl (decide (A = B)))) h := fun h A B pa pb => by
    rw [eq_r (sv_fl (toDs_l A)) (sv_fl (toDs_l B)) pa pb (by omega)]
    have := lD_eqv A B
    simp only [lD] at this
    rw [this]
  have rb : ∀ (b : Bool) h, reprK (.p (.bl b)) h = .ok (.p (.str (PyData.bool b).shown)) h := fun b h => repr_r rfl (pl_bl b) (by omega) (by omega)
  simp [l1, l2]
  -- told lists
  unfold law_1_5
  simp
  refine wx_la (L := TL) (e := tS) (h1 := h3) (fun l => .tup (nP l)) (iSeqF (by simp [g1])) (wk_lP _ _) (by omega) (fun l acc hl => ⟨_, rfl, by simp [ewipe, tup_same]⟩) ?_
  have ml1 := mkL_f (h := h3) (xs := [.fl (lP TL)]) (by simp)
  simp at ml1
  simp [fold, ml1]
  unfold law_1_6
  simp
  refine wx_la (L := WL) (e := tS) (h1 := h3) (fun l => .tup (nP l)) (iSeqF (by simp [g2])) (wk_lP _ _) (by omega) (fun l acc hl => ⟨_, rfl, by simp [ewipe, tup_same]⟩) ?_
  have ml2 := mkL_f (h := h3) (xs := [.fl (lP WL)]) (by simp)
  simp at ml2
  simp [fold, ml2, add_fl]
  unfold law_1_7
  have ml3 := mkL_f (h := h3) (xs := [.fl (lP TL), .fl (lP WL)]) (by simp)
  have pTW : Pl 3 37136 (.list [lD TL, lD WL]) := pl_lst (k := 2) (w := 2320) (fun d hd => by
    simp at hd
    rcases hd with rfl | rfl
    · exact pT
    · exact pW) (by simp)
  have toTW : toDs [PV.fl (lP TL), .fl (lP WL)] = some [lD TL, lD WL] := by simp only [toDs, toD, toDs_l]; rfl
  have ne7 : opData (fun d e => !PyData.eqv d e) (.p (.fl [.fl (lP TL), .fl (lP WL)])) (.p (.fl [.fl (lP TL), .fl (lP WL)])) h3 = .ok (.p (.bl false)) h3 := by
    rw [eq_r (sv_fl toTW) (sv_fl toTW) pTW pTW (by omega)]
    simp [PyData.eqv, PyData.eqvAll, lD_eqv]
  simp at ml3
  simp [ml3, ne7]
  unfold law_1_8
  simp [g3, rb, eqL _ _ _ pT pW, ne_same (pl_bl _)]
  -- keepers
  unfold law_1_9
  have pld : ∀ h b, b < T.n → cutR false h (F_law_part_led C [.p T.tab, tS (Tb.gen T S), nI b] h) = .ok (tS (ledL T (Tb.gen T S) b)) h := fun h b hb =>
    law_part_led_r O gen_lt (by omega) hb (ledL_perm O gen_lt (can_nodup _ _) hb) (can_le _ _)
  simp
  refine wx_lc (L := List.range T.n) (e := nI) (h1 := h3) (fun b => decide (ledL T (Tb.gen T S) b = Tb.gen T S)) (fun b => .int (b : Nat)) (iSeqT (by simp)) (wk_nP _ _) (by simp; omega) (fun b acc hb => ⟨_, rfl, ?_, fun _ => ?_⟩) ?_
  · have hb : b < T.n := by simpa using hb
    simp [ewipe, pld _ b hb, eq_tS h8 (l := ledL T (Tb.gen T S) b) (m := Tb.gen T S) (fun a ha => (mem_can.mp ha).1) (by have := can_len T.n (fun y => ∃ x ∈ Tb.gen T S, T.cj x b = y); simp only [ledL]; omega) gen_lt (by omega), tD_eqv]
  · simp [ewipe]
  have kf : (List.map (fun b : Nat => PV.int (b : Int)) ((List.range T.n).filter fun b => decide (ledL T (Tb.gen T S) b = Tb.gen T S))) = nP (keepL T (Tb.gen T S)) := rfl
  rw [kf]
  simp
  unfold law_1_10
  simp [g4, rb, l3, eqL _ _ _ pK pT, ne_same (pl_bl _)]
  -- differences
  unfold law_1_11
  simp [mkL]
  unfold law_1_12
  have hT : ∀ l ∈ TL, (∀ a ∈ l, a < T.n) ∧ l.length ≤ T.n := fun l hl => by
    rw [hTL] at hl
    exact ⟨(cls_lt hl).1, (cls_lt hl).2.1⟩
  have fl1 : ∀ (a : Nat) (l : List Nat), (l.map fun b => T.mul (T.inv a) b).length = l.length := by simp
  have fl2 : ∀ (l d : List Nat), (d.flatMap fun a => l.map fun b => T.mul (T.inv a) b).length = d.length * l.length := fun l d => by
    induction d with
    | nil => simp
    | cons a d ih => simp [ih, Nat.succ_mul]; omega
  have fl3 : ∀ d : List (List Nat), (∀ l ∈ d, l.length ≤ T.n) → (d.flatMap fun l => l.flatMap fun a => l.map fun b => T.mul (T.inv a) b).length ≤ d.length * 64 := fun d hd => by
    induction d with
    | nil => simp
    | cons l d ih =>
      have h1 := ih fun x hx => hd x (List.mem_cons_of_mem _ hx)
      have h2 := hd l List.mem_cons_self
      have h3 : l.length * l.length ≤ 8 * 8 := Nat.mul_le_mul (by omega) (by omega)
      simp only [List.flatMap_cons, List.length_append, fl2, List.length_cons, Nat.succ_mul]
      omega
  refine wfor (L := TL) (e := tS) (h1 := h3 ++ [.lst []]) (iSeqF (by simp)) (wk_lP _ _) (fun d es h' => h' = h3 ++ [.lst ((nP (d.flatMap fun l => l.flatMap fun a => l.map fun b => T.mul (T.inv a) b)).map .p)] ∧ ∃ y13 y14, es = [some sc, some (.ref 1), x2, some (.p T.tab), some (.p (grp C T)), some (nI T.n), some (tS (Tb.gen T S)), some (.p (.tup (nP (List.range T.n)))), some (.p (.fl (lP TL))), some (.p (.fl (lP WL))), some (.p (.fl [.fl (lP TL), .fl (lP WL)])), some (.p (.fl (nP (keepL T (Tb.gen T S))))), some (.ref h3.length), y13, y14, x15, x16, x17, x18, x19, x20, x21, x22, x23]) (P := fun _ => True) (fun _ _ _ _ => trivial) ⟨rfl, _, _, rfl⟩ ?_ ?_
  · rintro d l t es h' el ⟨rfl, y13, y14, rfl⟩
    have hl := hT l (by rw [el]; simp)
    have hd : ∀ l ∈ d, l.length ≤ T.n := fun x hx => (hT x (by rw [el]; simp [hx])).2
    have hdl : d.length ≤ T.n := by
      have := congrArg List.length el
      simp at this; omega
    have hF := fl3 d hd
    generalize hFe : (d.flatMap fun l => l.flatMap fun a => l.map fun b => T.mul (T.inv a) b) = F at hF
    simp
    unfold law_1_12_0
    refine wfor (L := l) (e := nI) (h1 := h3 ++ [.lst ((nP F).map .p)]) (iSeqT (by simp)) (wk_nP _ _) (fun d2 es h' => h' = h3 ++ [.lst ((nP (F ++ d2.flatMap fun a => l.map fun b => T.mul (T.inv a) b)).map .p)] ∧ ∃ y14, es = [some sc, some (.ref 1), x2, some (.p T.tab), some (.p (grp C T)), some (nI T.n), some (tS (Tb.gen T S)), some (.p (.tup (nP (List.range T.n)))), some (.p (.fl (lP TL))), some (.p (.fl (lP WL))), some (.p (.fl [.fl (lP TL), .fl (lP WL)])), some (.p (.fl (nP (keepL T (Tb.gen T S))))), some (.ref h3.length), some (tS l), y14, x15, x16, x17, x18, x19, x20, x21, x22, x23]) (P := fun _ => True) (fun _ _ _ _ => trivial) ⟨by simp, _, rfl⟩ ?_ ?_
    · rintro d2 a t2 es h' el2 ⟨rfl, y14, rfl⟩
      have ha := hl.1 a (by rw [el2]; simp)
      have hia := O.ilt ha
      have hd2 : d2.length ≤ l.length := by
        have := congrArg List.length el2
        simp at this; omega
      have hG := fl2 l d2
      have hG2 : d2.length * l.length ≤ 8 * 8 := Nat.mul_le_mul (by omega) (by omega)
      generalize hGe : (d2.flatMap fun a => l.map fun b => T.mul (T.inv a) b) = G at hG
      have tyx := ty_lst (g0 : (h3 ++ EO.lst ((nP (F ++ G)).map .p) :: [])[h3.length]? = _)
      have tyr : ∀ h, tyS "tuple" (.p (T.row a)) h = true := fun _ => rfl
      simp
      unfold law_1_12_0_0
      simp [tyx]
      refine wx_la (L := l) (e := nI) (h1 := h3 ++ [.lst ((nP (F ++ G)).map .p)]) (fun b => .int (T.mul (T.inv a) b : Nat)) ?_ (wk_nP _ _) (by omega) (fun b acc hb => ⟨_, rfl, ?_⟩) ?_
      · exact iSeqT (by simp)
      · have hb := hl.1 b hb
        simp [ewipe, ix_tab ha, tyr, ix0_row O ha, ix_tab hia, ix_row hb]
      · have ex := ext_r (ys := nP (l.map fun b => T.mul (T.inv a) b)) (g0 : (h3 ++ EO.lst ((nP (F ++ G)).map .p) :: [])[h3.length]? = _) (by simp; omega)
        rw [← nP_map]
        simp at ex
        simp [ex]
        simp [nP, hGe]
    · rintro es h' ⟨rfl, y14, rfl⟩
      simp [hFe]
  rintro es h' ⟨rfl, y13, y14, rfl⟩
  have hDl : (difL T S).length ≤ TL.length * 64 := by
    have := fl3 TL fun l hl => (hT l hl).2
    rw [hTL] at this ⊢
    exact this
  have hDt : ∀ x ∈ difL T S, x < T.n := by
    intro x hx
    simp only [difL, List.mem_flatMap, List.mem_map] at hx
    obtain ⟨l, hl, a, ha, b, hb, rfl⟩ := hx
    exact O.lt (O.ilt ((cls_lt hl).1 a ha)) ((cls_lt hl).1 b hb)
  have hDe : (TL.flatMap fun l => l.flatMap fun a => l.map fun b => T.mul (T.inv a) b) = difL T S := by rw [hTL]; rfl
  rw [hDe]
  simp
  unfold law_1_13
  have wD : EV.Walks (h3 ++ [.lst ((nP (difL T S)).map .p)]) (.ref h3.length) ((difL T S).map nI) := by
    rw [← nP_nI]; exact walks_ref g0 (by simp; omega)
  have lcD := law_closed_r (C := C) O hDt wD
  have pD : Pl 1 144 (tD (Tb.gen T (difL T S))) := pl_l h8 gen_lt (by have := gen_len (T := T) (S := difL T S); omega)
  have rD : ∀ h, reprK (tS (Tb.gen T (difL T S))) h = .ok (.p (.str (tD (Tb.gen T (difL T S))).shown)) h := fun h => repr_r (toD_tup _) pD (by omega) (by omega)
  have dD := fun h => differences_r (C := C) (h := h) O q2
  simp [dD, rD, lcD, ne_same pD]
  have H4 : HH (h3 ++ [.lst ((nP (difL T S)).map .p)]) 1 s3 := H3.app (by simp [below_p])
  have e4 : (h3 ++ [.lst ((nP (difL T S)).map .p)])[0]? = some (.tab Pt lamQ) := by
    rw [List.getElem?_append_left (List.getElem?_eq_some_iff.mp e3).1]; exact e3
  generalize hN : h3.length = N3
  generalize h3 ++ [.lst ((nP (difL T S)).map .p)] = h4 at H4 e4
  -- moves
  unfold law_1_14
  simp [eNewD]
  unfold law_1_15
  refine wfor (L := List.range T.n) (e := nI) (h1 := h4 ++ [.dit []]) (iSeqT (by simp)) (wk_nP _ _) (fun d es h' => h' = h4 ++ [.dit (encT (mvs T (Tb.gen T S) d))] ∧ ∃ y16, es = [some sc, some (.ref 1), x2, some (.p T.tab), some (.p (grp C T)), some (nI T.n), some (tS (Tb.gen T S)), some (.p (.tup (nP (List.range T.n)))), some (.p (.fl (lP TL))), some (.p (.fl (lP WL))), some (.p (.fl [.fl (lP TL), .fl (lP WL)])), some (.p (.fl (nP (keepL T (Tb.gen T S))))), some (.ref N3), y13, y14, some (.ref h4.length), y16, x17, x18, x19, x20, x21, x22, x23]) (P := fun _ => True) (fun _ _ _ _ => trivial) ⟨rfl, _, rfl⟩ ?_ ?_
  · rintro d b t es h' el ⟨rfl, y16, rfl⟩
    have hm : ∀ b ∈ d, b < T.n := fun b hb => by
      have : b ∈ List.range T.n := by rw [el]; simp [hb]
      simpa using this
    have hb : b < T.n := by
      have : b ∈ List.range T.n := by rw [el]; simp
      simpa using this
    have hdl : d.length ≤ T.n := by
      have := congrArg List.length el
      simp at this; omega
    obtain ⟨m1, m2⟩ := mvs_ok (l := Tb.gen T S) hm
    obtain ⟨r, hr⟩ := setd_r (k := ledL T (Tb.gen T S) b) (v := b) (g0 : (h4 ++ EO.dit (encT (mvs T (Tb.gen T S) d)) :: [])[h4.length]? = _) (by omega)
    have ty := ty_dit (g0 : (h4 ++ EO.dit (encT (mvs T (Tb.gen T S) d)) :: [])[h4.length]? = _)
    simp at hr
    simp
    unfold law_1_15_0
    simp [ty, pld _ b hb, hr, mvs_snoc]
  rintro es h' ⟨rfl, y16, rfl⟩
  obtain ⟨m1, m2⟩ := mvs_ok (T := T) (l := Tb.gen T S) (L := List.range T.n) (by simp)
  simp at m1
  have mvr := fun h => moves_of_r (C := C) (h := h) O q2
  have srt := sortIt_r (g0 : (h4 ++ EO.dit (encT (mvs T (Tb.gen T S) (List.range T.n))) :: [])[h4.length]? = _) (by omega)
  obtain ⟨ds, v1, v2⟩ := mvV_data (acc := mvs T (Tb.gen T S) (List.range T.n)) (fun q hq => ⟨fun a ha => by have := (m2 q hq).1 a ha; omega, by have := (m2 q hq).2.1; omega, by have := (m2 q hq).2.2; omega⟩) (by omega)
  have H5 : HH (h4 ++ [EO.dit (encT (mvs T (Tb.gen T S) (List.range T.n)))]) 1 s3 := H4.app (by simp [EO.below, EO.vals, encT, SV.below])
  have e5 : (h4 ++ [EO.dit (encT (mvs T (Tb.gen T S) (List.range T.n)))])[0]? = some (.tab Pt lamQ) := by
    rw [List.getElem?_append_left (List.getElem?_eq_some_iff.mp e4).1]; exact e4
  have mvl : (mvV (mvs T (Tb.gen T S) (List.range T.n))).length ≤ 1000 := by
    simp [mvV, encI]; omega
  have mvt : ∀ x ∈ mvV (mvs T (Tb.gen T S) (List.range T.n)), ∃ ps, x = PV.tup ps := fun x hx => mvV_tup hx
  generalize mvV (mvs T (Tb.gen T S) (List.range T.n)) = mv at mvr srt v1 mvl mvt
  generalize h4.length = N4 at srt
  generalize h4 ++ [EO.dit (encT (mvs T (Tb.gen T S) (List.range T.n)))] = h5 at H5 e5 srt
  simp
  unfold law_1_16
  simp
  refine wx_la (L := mv) (e := SV.p) (h1 := h5) (fun x => x) (iSeqF (by simp [mvr])) (wk_p _ _) (by omega) (fun x acc hx => ⟨_, rfl, ?_⟩) ?_
  · obtain ⟨ps, rfl⟩ := mvt x hx
    simp [ewipe, tup_same]
  have rmv : ∀ h, reprK (.p (.fl mv)) h = .ok (.p (.str (PyData.list ds).shown)) h := fun h => repr_r (sv_fl v1) v2 (by omega) (by omega)
  simp [rmv, srt, ne_same v2]
  -- even ones
  unfold law_1_17
  have cmp : ∀ h (a : Nat), a < T.n → opData PyData.eqv (.p (T.row a)) (tS ((List.range T.n).map fun x => T.mul x a)) h = .ok (.p (.bl (decide ((List.range T.n).map (T.mul a) = (List.range T.n).map fun x => T.mul x a)))) h := fun h a ha => by
    have p2 : Pl 1 144 (tD ((List.range T.n).map fun x => T.mul x a)) := pl_l h8 (fun y hy => by
      obtain ⟨x, hx, rfl⟩ := List.mem_map.mp hy
      exact O.lt (by simpa using hx) ha) (by simp; omega)
    rw [eq_r (x := .p (T.row a)) (y := tS ((List.range T.n).map fun x => T.mul x a)) toD_row (toD_tup _) (pl_row O ha) p2 (by omega), tD_eqv]
  simp
  refine wx_la (L := List.range T.n) (e := nI) (h1 := h5) (fun a => .bl (decide ((List.range T.n).map (T.mul a) = (List.range T.n).map fun x => T.mul x a))) (iSeqT (by simp)) (wk_nP _ _) (by simp; omega) (fun a acc ha => ⟨_, rfl, okw ?_⟩) ?_
  · have ha : a < T.n := by simpa using ha
    simp [ewipe, ix_tab ha]
    refine wx_la (L := List.range T.n) (e := fun x => SV.p (T.row x)) (h1 := h5 ++ [.lst acc]) (fun x => .int (T.mul x a : Nat)) (iSeqT (xs := (List.range T.n).map T.row) (by simp; rfl)) (wk_rows _) (by simp; omega) (fun x acc2 hx => ⟨_, rfl, ?_⟩) ?_
    · simp [ewipe, ix_row ha]
    · rw [← nP_map]
      have tu := tup_n (h := h5 ++ [.lst acc]) (l := (List.range T.n).map fun x => T.mul x a) (by simp; omega)
      simp [tu, cmp _ a ha]
  simp only [kA1_r, aNil_r, wx_ok, kA2_r, kG_r, f1_r, all_fl]
  -- the rest, whatever came
  have rest : ∀ y14 y20 : Option SV, Ws (law_1_18 C Pt [some sc, some (.ref 1), x2, some (.p T.tab), some (.p (grp C T)), some (nI T.n), some (tS (Tb.gen T S)), some (.p (.tup (nP (List.range T.n)))), some (.p (.fl (lP TL))), some (.p (.fl (lP WL))), some (.p (.fl [.fl (lP TL), .fl (lP WL)])), some (.p (.fl (nP (keepL T (Tb.gen T S))))), some (.ref N3), y13, y14, some (.ref N4), y16, x17, x18, x19, y20, x21, x22, x23] h5) ((D.lp (LInv Pt sc)).thn (sSeq (law_1_19 C Pt) (sSeq (law_1_20 C Pt) (sSeq (law_1_21 C Pt) (sSeq (law_1_22 C Pt) (sSeq (law_1_23 C Pt) (law_1_24 C Pt))))))) := by
    intro y14 y20
    unfold law_1_18
    obtain ⟨d, p, s4, hb, hp4, a1⟩ := any_r (C := C) H5 (xs := bads T.n) (by simp [bads]) (by simp [bads])
    have hb := List.mem_of_getElem? hb
    have mb := mkL_f (h := h5) (xs := bads T.n) (by simp [bads])
    simp [bads] at mb a1
    have m0 := mkL_f (h := h5) (xs := [.int 0]) (by simp)
    simp at m0
    simp [mkT, allP, m0, mb, a1]
    have H6 := H5.step hp4
    have e6 := tab_set (s := s4) e5
    clear a1 mb m0
    generalize h5.set 1 s4.o = h6 at H6 e6
    have app0 : ∀ l, (h6 ++ l)[0]? = some (.tab Pt lamQ) := fun l => by
      rw [List.getElem?_append_left (List.getElem?_eq_some_iff.mp e6).1]; exact e6
    unfold law_1_19
    simp
    refine wx_ref e6 (by simp [no1 hb]) ?_
    simp [mkL]
    have st : ∀ xs : List PV, xs.length ≤ 10 → tyS "list" (.ref h6.length) (h6 ++ [.lst (xs.map .p)]) = true ∧ mAppend (.ref h6.length) [.p (.bl true)] (h6 ++ [.lst (xs.map .p)]) = .ok (.p .non) (h6 ++ [.lst ((xs ++ [PV.bl true]).map .p)]) := fun xs hl => by
      refine ⟨ty_lst g0, ?_⟩
      have := append_r (y := .p (.bl true)) (g0 : (h6 ++ EO.lst (xs.map .p) :: [])[h6.length]? = _) (by simp; omega)
      rw [this, t0]; simp
    have st1 := st [.bl true] (by simp)
    have st2 := st [.bl true, .bl true] (by simp)
    have st3 := st [.bl true, .bl true, .bl true] (by simp)
    have st4 := st [.bl true, .bl true, .bl true, .bl true] (by simp)
    simp at st1 st2 st3 st4
    unfold law_1_20
    simp [st1.1]
    refine wx_ref (app0 _) (by simp [no2 hb]) ?_
    simp [st1.2]
    unfold law_1_21
    simp [st2.1]
    refine wx_ref (app0 _) (by simp [no3 hb]) ?_
    simp [st2.2]
    unfold law_1_22
    simp [st3.1]
    refine wx_ref (app0 _) (by simp [no4 hb]) ?_
    simp [st3.2]
    unfold law_1_23
    simp [st4.1]
    refine wx_ref (app0 _) (by simp [no5 hb]) ?_
    simp [st4.2]
    unfold law_1_24
    have HE : HH (h6 ++ [.lst ([PV.bl true, .bl true, .bl true, .bl true, .bl true].map .p)]) 1 s4 := H6.app (by simp [EO.below, EO.vals, SV.below])
    have e7 := g0 (h := h6) (a := .lst ([PV.bl true, .bl true, .bl true, .bl true, .bl true].map .p)) (l := [])
    have pb : Pl 1 144 (.list [.bool true, .bool true, .bool true, .bool true, .bool true]) := pl_lst (k := 0) (w := 8) (fun d hd => by
      simp at hd
      subst hd
      exact pl_bl true) (by simp)
    have toB : toDs [PV.bl true, .bl true, .bl true, .bl true, .bl true] = some [.bool true, .bool true, .bool true, .bool true, .bool true] := rfl
    have ne24 := eq_r (g := fun d e => !PyData.eqv d e) (y := .p (.fl [.bl true, .bl true, .bl true, .bl true, .bl true])) (sv_lst e7 toB) (sv_fl toB) pb pb (by omega)
    have eb : (!PyData.eqv (.list [.bool true, .bool true, .bool true, .bool true, .bool true]) (.list [.bool true, .bool true, .bool true, .bool true, .bool true])) = false := by decide +kernel
    rw [eb] at ne24
    have m1 := mkL_f (h := h6 ++ [.lst ([PV.bl true, .bl true, .bl true, .bl true, .bl true].map .p)]) (xs := [.bl true]) (by simp)
    have mu := mulf_r (h := h6 ++ [.lst ([PV.bl true, .bl true, .bl true, .bl true, .bl true].map .p)]) (xs := [.bl true]) (k := 5) (by simp) (by simp)
    simp only [nI] at mu
    simp [List.replicate] at ne24 m1 mu HE
    simp [m1, mu, ne24]
    exact ⟨_, _, _, _, _, _, _, _, _, _, _, _, _, _, _, _, _, _, _, _, _, _, _, rfl, HE, app0 _⟩
  by_cases hc : ((List.range T.n).all fun a => decide ((List.range T.n).map (T.mul a) = (List.range T.n).map fun x => T.mul x a)) = true
  · have he : ∀ a, a < T.n → ∀ b, b < T.n → T.mul a b = T.mul b a := fun a ha b hb => by
      have h1 := of_decide_eq_true (List.all_eq_true.mp hc a (by simpa using ha))
      have := congrArg (fun l => l[b]?) h1
      simpa [hb] using this
    have t1 : TL = (Tb.gen T S).map fun a => [a] := by rw [hTL]; exact even_tog O q2 he
    have t2 := even_dif O q2 he
    rw [hc]
    simp
    refine wx_la (L := Tb.gen T S) (e := nI) (h1 := h5) (fun a => .tup [.int (a : Nat)]) (iSeqT (by simp)) (wk_nP _ _) (by omega) (fun a acc ha => ⟨_, rfl, by simp [ewipe, mkT, allP]⟩) ?_
    have e1 : (Tb.gen T S).map (fun a => PV.tup [.int (a : Nat)]) = lP TL := by rw [t1]; simp [lP, nP]
    have ne1 : opData (fun d e => !PyData.eqv d e) (.p (.fl (lP TL))) (.p (.fl (lP TL))) h5 = .ok (.p (.bl false)) h5 := by
      rw [eq_r (sv_fl (toDs_l TL)) (sv_fl (toDs_l TL)) pT pT (by omega)]
      have := lD_eqv TL TL
      simp only [lD] at this
      rw [this]; simp
    have p0 : Pl 1 144 (tD [0]) := pl_tD (by simp) (by simp)
    have ne2 : opData (fun d e => !PyData.eqv d e) (tS [0]) (tS [0]) h5 = .ok (.p (.bl false)) h5 := by
      rw [eq_r (x := tS [0]) (y := tS [0]) (show svD h5 (tS [0]) = some (tD [0]) from toD_tup [0]) (show svD h5 (tS [0]) = some (tD [0]) from toD_tup [0]) p0 p0 (by omega), tD_eqv]; simp
    rw [e1]
    have ne3 : opData (fun d e => !PyData.eqv d e) (tS [0]) (.p (.tup [.int 0])) h5 = .ok (.p (.bl false)) h5 := ne2
    simp [ne1, dD, t2, mkT, allP, ne3]
    exact rest _ _
  · rw [Bool.not_eq_true] at hc
    rw [hc]
    simp
    exact rest _ _
theorem mir_law (C : Cs) (Pt : Addr) (ns : List Int) (hl : ns.length ≤ 63) : ∃ h', runB (m_law C Pt) 24 [.p (.fz (ns.map .int))] [.tab Pt lamQ] = .ok (.p (.bl true)) h' := by
  refine wrn (G := fun r => ∃ h', r = .ok (.p (.bl true)) h') ?_
  unfold m_law
  rw [ws_seqT]; unfold law_0
  have hr := hand_r (C := C) (h := [.tab Pt lamQ]) hl
  simp at hr
  simp [List.replicate, hr]
  unfold law_1
  refine wfor (L := List.range 4) (e := nI) (h1 := [.tab Pt lamQ, HS.o ⟨ns.map fun i => (i.natAbs : Int), 0, 0, 347 + 227 * ns.length, 0⟩]) (rng1n (n := 4) (by simp) (by omega)) (wk_r _ _) (fun d es h' => LInv Pt (.p (.fz (ns.map .int))) es h') (P := fun _ => True) (fun _ _ _ _ => trivial) ⟨⟨ns.map fun i => (i.natAbs : Int), 0, 0, 347 + 227 * ns.length, 0⟩, _, _, _, _, _, _, _, _, _, _, _, _, _, _, _, _, _, _, _, _, _, _, rfl, ⟨rfl, by simp, by simp [EO.below, EO.vals, HS.o, SV.below]⟩, rfl⟩ ?_ ?_
  · rintro d i t es h' el ⟨s, x2, x3, x4, x5, x6, x7, x8, x9, x10, x11, x12, x13, x14, x15, x16, x17, x18, x19, x20, x21, x22, x23, rfl, H, e0⟩
    simp only [gNm_r, wx_ok, kGo_r, List.set_cons_succ, List.set_cons_zero]
    exact turn_r H e0
  · rintro es h' ⟨s, x2, x3, x4, x5, x6, x7, x8, x9, x10, x11, x12, x13, x14, x15, x16, x17, x18, x19, x20, x21, x22, x23, rfl, H, e0⟩
    simp only [thn_nx]
    unfold law_2
    simp
end
end K77

-- top
namespace K77
open PySem PySem.Spec L2 EV PyProof.Rows
theorem top_law {w : World} {K : PySem.W.Frag} {h : Heap} {mg : Str → Option Value} {fa : Addr} (X : K.In h) (G : h.Ns mainGlobals mg) (hfa : mg "law" = some (.ref fa)) (own : LamX.OwnTab K fa h)
    {cBadGroup cGroup cGroupError cNoPart : Addr} {fGroup__init__ fabout fcheck_part fclosed_by fdifferences fgoes_together fis_integer fis_kept_leading fis_lot fis_part fis_tuple fis_within fkeepers_of fkeeps_leading flaw flaw_any flaw_called flaw_closed flaw_draw flaw_flips flaw_hand flaw_is_refused flaw_led flaw_lists flaw_names flaw_pairs flaw_part_led flaw_ring flaw_table fled_lot fled_together fled_within fmoves_of : Addr} {cdGroup__init__ cdabout cdcheck_part cdclosed_by cddifferences cdgoes_together cdis_integer cdis_kept_leading cdis_lot cdis_part cdis_tuple cdis_within cdkeepers_of cdkeeps_leading cdlaw_any cdlaw_called cdlaw_closed cdlaw_draw cdlaw_flips cdlaw_hand cdlaw_is_refused cdlaw_led cdlaw_lists cdlaw_names cdlaw_pairs cdlaw_part_led cdlaw_ring cdlaw_table cdled_lot cdled_together cdled_within cdmoves_of ctGroup__init__ ctabout ctcheck_part ctclosed_by ctdifferences ctgoes_together ctis_integer ctis_kept_leading ctis_lot ctis_part ctis_tuple ctis_within ctkeepers_of ctkeeps_leading ctlaw ctlaw_any ctlaw_called ctlaw_closed ctlaw_draw ctlaw_flips ctlaw_hand ctlaw_is_refused ctlaw_led ctlaw_lists ctlaw_names ctlaw_pairs ctlaw_part_led ctlaw_ring ctlaw_table ctled_lot ctled_together ctled_within ctmoves_of dcGroup__init__ dcabout dccheck_part dcclosed_by dcdifferences dcgoes_together dcis_integer dcis_kept_leading dcis_lot dcis_part dcis_tuple dcis_within dckeepers_of dckeeps_leading dclaw dclaw_any dclaw_called dclaw_closed dclaw_draw dclaw_flips dclaw_hand dclaw_is_refused dclaw_led dclaw_lists dclaw_names dclaw_pairs dclaw_part_led dclaw_ring dclaw_table dcled_lot dcled_together dcled_within dcmoves_of kVGroup__init__ kVabout kVcheck_part kVclosed_by kVdifferences kVgoes_together kVis_integer kVis_kept_leading kVis_lot kVis_part kVis_tuple kVis_within kVkeepers_of kVkeeps_leading kVlaw kVlaw_any kVlaw_called kVlaw_closed kVlaw_draw kVlaw_flips kVlaw_hand kVlaw_is_refused kVlaw_led kVlaw_lists kVlaw_names kVlaw_pairs kVlaw_part_led kVlaw_ring kVlaw_table kVled_lot kVled_together kVled_within kVmoves_of ocGroup__init__ ocabout occheck_part occlosed_by ocdifferences ocgoes_together ocis_integer ocis_kept_leading ocis_lot ocis_part ocis_tuple ocis_within ockeepers_of ockeeps_leading oclaw oclaw_any oclaw_called oclaw_closed oclaw_draw oclaw_flips oclaw_hand oclaw_is_refused oclaw_led oclaw_lists oclaw_names oclaw_pairs oclaw_part_led oclaw_ring oclaw_table ocled_lot ocled_together ocled_within ocmoves_of pmGroup__init__ pmabout pmcheck_part pmclosed_by pmdifferences pmgoes_together pmis_integer pmis_kept_leading pmis_lot pmis_part pmis_tuple pmis_within pmkeepers_of pmkeeps_leading pmlaw pmlaw_any pmlaw_called pmlaw_closed pmlaw_draw pmlaw_flips pmlaw_hand pmlaw_is_refused pmlaw_led pmlaw_lists pmlaw_names pmlaw_pairs pmlaw_part_led pmlaw_ring pmlaw_table pmled_lot pmled_together pmled_within pmmoves_of : Value} {anGroup__init__ anabout ancheck_part anclosed_by andifferences angoes_together anis_integer anis_kept_leading anis_lot anis_part anis_tuple anis_within ankeepers_of ankeeps_leading anlaw anlaw_any anlaw_called anlaw_closed anlaw_draw anlaw_flips anlaw_hand anlaw_is_refused anlaw_led anlaw_lists anlaw_names anlaw_pairs anlaw_part_led anlaw_ring anlaw_table anled_lot anled_together anled_within anmoves_of odGroup__init__ odabout odcheck_part odclosed_by oddifferences odgoes_together odis_integer odis_kept_leading odis_lot odis_part odis_tuple odis_within odkeepers_of odkeeps_leading odlaw odlaw_any odlaw_called odlaw_closed odlaw_draw odlaw_flips odlaw_hand odlaw_is_refused odlaw_led odlaw_lists odlaw_names odlaw_pairs odlaw_part_led odlaw_ring odlaw_table odled_lot odled_together odled_within odmoves_of : Option Addr} {slGroup__init__ slabout slcheck_part slclosed_by sldifferences slgoes_together slis_integer slis_kept_leading slis_lot slis_part slis_tuple slis_within slkeepers_of slkeeps_leading sllaw sllaw_any sllaw_called sllaw_closed sllaw_draw sllaw_flips sllaw_hand sllaw_is_refused sllaw_led sllaw_lists sllaw_names sllaw_pairs sllaw_part_led sllaw_ring sllaw_table slled_lot slled_together slled_within slmoves_of : Array (Option Value)} {tMOST_MEMBERS : Tok} {cc Pt : Addr} {ocode : Value} {odcode : Option Addr} {vcode : Array Value} {slcode : Array (Option Value)} {xnNoPart xqNoPart : Str} {gNoPart gccNoPart gcdNoPart xNNoPart : Addr} {xbmNoPart xbsNoPart xsubNoPart : List Value} {xsnNoPart : List Str} {xabNoPart : Bool} {xcolNoPart : Option Bool} {ganNoPart godNoPart hodNoPart jodNoPart xddNoPart : Option Addr} {xaNoPart xbNoPart xcNoPart xdNoPart xeNoPart : Option Value} {gctNoPart gdcNoPart gkVNoPart gocNoPart gpmNoPart hocNoPart jocNoPart : Value} {gslNoPart hslNoPart jslNoPart : Array (Option Value)} {hvsNoPart : Array Value} {hflNoPart : Str} {htfNoPart : Tok}
    (a_GroupError : PySem.W.nsIn K mainGlobals "GroupError" = some (some (.ref cGroupError)))
    (a_BadGroup : PySem.W.nsIn K mainGlobals "BadGroup" = some (some (.ref cBadGroup)))
    (a_NoPart : PySem.W.nsIn K mainGlobals "NoPart" = some (some (.ref cNoPart)))
    (a_Group : PySem.W.nsIn K mainGlobals "Group" = some (some (.ref cGroup)))
    (z_ValueError : PySem.W.nsIn K mainGlobals "ValueError" = some none)
    (z_abs : PySem.W.nsIn K mainGlobals "abs" = some none)
    (z_all : PySem.W.nsIn K mainGlobals "all" = some none)
    (z_bool : PySem.W.nsIn K mainGlobals "bool" = some none)
    (z_enumerate : PySem.W.nsIn K mainGlobals "enumerate" = some none)
    (z_int : PySem.W.nsIn K mainGlobals "int" = some none)
    (z_isinstance : PySem.W.nsIn K mainGlobals "isinstance" = some none)
    (z_len : PySem.W.nsIn K mainGlobals "len" = some none)
    (z_list : PySem.W.nsIn K mainGlobals "list" = some none)
    (z_range : PySem.W.nsIn K mainGlobals "range" = some none)
    (z_repr : PySem.W.nsIn K mainGlobals "repr" = some none)
    (z_sorted : PySem.W.nsIn K mainGlobals "sorted" = some none)
    (z_tuple : PySem.W.nsIn K mainGlobals "tuple" = some none)
    (z_zip : PySem.W.nsIn K mainGlobals "zip" = some none)
    (g_MOST_MEMBERS : PySem.W.nsIn K mainGlobals "MOST_MEMBERS" = some (some (.int 32 tMOST_MEMBERS)))
    (pg_Group : PySem.W.plainGet K cGroup Str.empty = true)
    (hd_Group : PySem.W.hasDictIn K cGroup = true)
    (po_Group : PySem.W.plainOver K cGroup = true)
    (sa_Group : PySem.W.findIn K (.ref cGroup) "__setattr__" = some (some (.builtin "object.__setattr__")))
    (mk_Group : PySem.W.makesIn K cGroup = true)
    (kc_Group : PySem.W.keepIn K (.ref cGroup) = true)
    (na_Group_backs : PySem.W.findIn K (.ref cGroup) "backs" = some none)
    (na_Group_many : PySem.W.findIn K (.ref cGroup) "many" = some none)
    (na_Group_table : PySem.W.findIn K (.ref cGroup) "table" = some none)
    (a_is_integer : PySem.W.nsIn K mainGlobals "is_integer" = some (some (.ref fis_integer)))
    (l_is_integer : K.lookup fis_integer = some ⟨ocis_integer, odis_integer, .func (PySem.W.fnOf "is_integer" "is_integer" (defArgs s_is_integer) (defBody s_is_integer) (defScope s_is_integer) .none kVis_integer dcis_integer pmis_integer anis_integer cdis_integer ctis_integer), slis_integer⟩)
    (c_is_integer : PySem.W.codeIn K cdis_integer "is_integer" = true)
    (k_is_integer : PySem.W.keepIn K (.ref fis_integer) = true)
    (a_is_tuple : PySem.W.nsIn K mainGlobals "is_tuple" = some (some (.ref fis_tuple)))
    (l_is_tuple : K.lookup fis_tuple = some ⟨ocis_tuple, odis_tuple, .func (PySem.W.fnOf "is_tuple" "is_tuple" (defArgs s_is_tuple) (defBody s_is_tuple) (defScope s_is_tuple) .none kVis_tuple dcis_tuple pmis_tuple anis_tuple cdis_tuple ctis_tuple), slis_tuple⟩)
    (c_is_tuple : PySem.W.codeIn K cdis_tuple "is_tuple" = true)
    (k_is_tuple : PySem.W.keepIn K (.ref fis_tuple) = true)
    (a_goes_together : PySem.W.nsIn K mainGlobals "goes_together" = some (some (.ref fgoes_together)))
    (l_goes_together : K.lookup fgoes_together = some ⟨ocgoes_together, odgoes_together, .func (PySem.W.fnOf "goes_together" "goes_together" (defArgs s_goes_together) (defBody s_goes_together) (defScope s_goes_together) .none kVgoes_together dcgoes_together pmgoes_together angoes_together cdgoes_together ctgoes_together), slgoes_together⟩)
    (c_goes_together : PySem.W.codeIn K cdgoes_together "goes_together" = true)
    (k_goes_together : PySem.W.keepIn K (.ref fgoes_together) = true)
    (a_about : PySem.W.nsIn K mainGlobals "about" = some (some (.ref fabout)))
    (l_about : K.lookup fabout = some ⟨ocabout, odabout, .func (PySem.W.fnOf "about" "about" (defArgs s_about) (defBody s_about) (defScope s_about) .none kVabout dcabout pmabout anabout cdabout ctabout), slabout⟩)
    (c_about : PySem.W.codeIn K cdabout "about" = true)
    (k_about : PySem.W.keepIn K (.ref fabout) = true)
    (a_closed_by : PySem.W.nsIn K mainGlobals "closed_by" = some (some (.ref fclosed_by)))
    (l_closed_by : K.lookup fclosed_by = some ⟨occlosed_by, odclosed_by, .func (PySem.W.fnOf "closed_by" "closed_by" (defArgs s_closed_by) (defBody s_closed_by) (defScope s_closed_by) .none kVclosed_by dcclosed_by pmclosed_by anclosed_by cdclosed_by ctclosed_by), slclosed_by⟩)
    (c_closed_by : PySem.W.codeIn K cdclosed_by "closed_by" = true)
    (k_closed_by : PySem.W.keepIn K (.ref fclosed_by) = true)
    (a_law_hand : PySem.W.nsIn K mainGlobals "_law_hand" = some (some (.ref flaw_hand)))
    (l_law_hand : K.lookup flaw_hand = some ⟨oclaw_hand, odlaw_hand, .func (PySem.W.fnOf "_law_hand" "_law_hand" (defArgs s_law_hand) (defBody s_law_hand) (defScope s_law_hand) .none kVlaw_hand dclaw_hand pmlaw_hand anlaw_hand cdlaw_hand ctlaw_hand), sllaw_hand⟩)
    (c_law_hand : PySem.W.codeIn K cdlaw_hand "_law_hand" = true)
    (k_law_hand : PySem.W.keepIn K (.ref flaw_hand) = true)
    (a_law_draw : PySem.W.nsIn K mainGlobals "_law_draw" = some (some (.ref flaw_draw)))
    (l_law_draw : K.lookup flaw_draw = some ⟨oclaw_draw, odlaw_draw, .func (PySem.W.fnOf "_law_draw" "_law_draw" (defArgs s_law_draw) (defBody s_law_draw) (defScope s_law_draw) .none kVlaw_draw dclaw_draw pmlaw_draw anlaw_draw cdlaw_draw ctlaw_draw), sllaw_draw⟩)
    (c_law_draw : PySem.W.codeIn K cdlaw_draw "_law_draw" = true)
    (k_law_draw : PySem.W.keepIn K (.ref flaw_draw) = true)
    (a_law_ring : PySem.W.nsIn K mainGlobals "_law_ring" = some (some (.ref flaw_ring)))
    (l_law_ring : K.lookup flaw_ring = some ⟨oclaw_ring, odlaw_ring, .func (PySem.W.fnOf "_law_ring" "_law_ring" (defArgs s_law_ring) (defBody s_law_ring) (defScope s_law_ring) .none kVlaw_ring dclaw_ring pmlaw_ring anlaw_ring cdlaw_ring ctlaw_ring), sllaw_ring⟩)
    (c_law_ring : PySem.W.codeIn K cdlaw_ring "_law_ring" = true)
    (k_law_ring : PySem.W.keepIn K (.ref flaw_ring) = true)
    (a_law_flips : PySem.W.nsIn K mainGlobals "_law_flips" = some (some (.ref flaw_flips)))
    (l_law_flips : K.lookup flaw_flips = some ⟨oclaw_flips, odlaw_flips, .func (PySem.W.fnOf "_law_flips" "_law_flips" (defArgs s_law_flips) (defBody s_law_flips) (defScope s_law_flips) .none kVlaw_flips dclaw_flips pmlaw_flips anlaw_flips cdlaw_flips ctlaw_flips), sllaw_flips⟩)
    (c_law_flips : PySem.W.codeIn K cdlaw_flips "_law_flips" = true)
    (k_law_flips : PySem.W.keepIn K (.ref flaw_flips) = true)
    (a_law_pairs : PySem.W.nsIn K mainGlobals "_law_pairs" = some (some (.ref flaw_pairs)))
    (l_law_pairs : K.lookup flaw_pairs = some ⟨oclaw_pairs, odlaw_pairs, .func (PySem.W.fnOf "_law_pairs" "_law_pairs" (defArgs s_law_pairs) (defBody s_law_pairs) (defScope s_law_pairs) .none kVlaw_pairs dclaw_pairs pmlaw_pairs anlaw_pairs cdlaw_pairs ctlaw_pairs), sllaw_pairs⟩)
    (c_law_pairs : PySem.W.codeIn K cdlaw_pairs "_law_pairs" = true)
    (k_law_pairs : PySem.W.keepIn K (.ref flaw_pairs) = true)
    (a_law_called : PySem.W.nsIn K mainGlobals "_law_called" = some (some (.ref flaw_called)))
    (l_law_called : K.lookup flaw_called = some ⟨oclaw_called, odlaw_called, .func (PySem.W.fnOf "_law_called" "_law_called" (defArgs s_law_called) (defBody s_law_called) (defScope s_law_called) .none kVlaw_called dclaw_called pmlaw_called anlaw_called cdlaw_called ctlaw_called), sllaw_called⟩)
    (c_law_called : PySem.W.codeIn K cdlaw_called "_law_called" = true)
    (k_law_called : PySem.W.keepIn K (.ref flaw_called) = true)
    (a_law_closed : PySem.W.nsIn K mainGlobals "_law_closed" = some (some (.ref flaw_closed)))
    (l_law_closed : K.lookup flaw_closed = some ⟨oclaw_closed, odlaw_closed, .func (PySem.W.fnOf "_law_closed" "_law_closed" (defArgs s_law_closed) (defBody s_law_closed) (defScope s_law_closed) .none kVlaw_closed dclaw_closed pmlaw_closed anlaw_closed cdlaw_closed ctlaw_closed), sllaw_closed⟩)
    (c_law_closed : PySem.W.codeIn K cdlaw_closed "_law_closed" = true)
    (k_law_closed : PySem.W.keepIn K (.ref flaw_closed) = true)
    (a_law_led : PySem.W.nsIn K mainGlobals "_law_led" = some (some (.ref flaw_led)))
    (l_law_led : K.lookup flaw_led = some ⟨oclaw_led, odlaw_led, .func (PySem.W.fnOf "_law_led" "_law_led" (defArgs s_law_led) (defBody s_law_led) (defScope s_law_led) .none kVlaw_led dclaw_led pmlaw_led anlaw_led cdlaw_led ctlaw_led), sllaw_led⟩)
    (c_law_led : PySem.W.codeIn K cdlaw_led "_law_led" = true)
    (k_law_led : PySem.W.keepIn K (.ref flaw_led) = true)
    (a_is_within : PySem.W.nsIn K mainGlobals "is_within" = some (some (.ref fis_within)))
    (l_is_within : K.lookup fis_within = some ⟨ocis_within, odis_within, .func (PySem.W.fnOf "is_within" "is_within" (defArgs s_is_within) (defBody s_is_within) (defScope s_is_within) .none kVis_within dcis_within pmis_within anis_within cdis_within ctis_within), slis_within⟩)
    (c_is_within : PySem.W.codeIn K cdis_within "is_within" = true)
    (k_is_within : PySem.W.keepIn K (.ref fis_within) = true)
    (a_led_lot : PySem.W.nsIn K mainGlobals "led_lot" = some (some (.ref fled_lot)))
    (l_led_lot : K.lookup fled_lot = some ⟨ocled_lot, odled_lot, .func (PySem.W.fnOf "led_lot" "led_lot" (defArgs s_led_lot) (defBody s_led_lot) (defScope s_led_lot) .none kVled_lot dcled_lot pmled_lot anled_lot cdled_lot ctled_lot), slled_lot⟩)
    (c_led_lot : PySem.W.codeIn K cdled_lot "led_lot" = true)
    (k_led_lot : PySem.W.keepIn K (.ref fled_lot) = true)
    (a_law_any : PySem.W.nsIn K mainGlobals "_law_any" = some (some (.ref flaw_any)))
    (l_law_any : K.lookup flaw_any = some ⟨oclaw_any, odlaw_any, .func (PySem.W.fnOf "_law_any" "_law_any" (defArgs s_law_any) (defBody s_law_any) (defScope s_law_any) .none kVlaw_any dclaw_any pmlaw_any anlaw_any cdlaw_any ctlaw_any), sllaw_any⟩)
    (c_law_any : PySem.W.codeIn K cdlaw_any "_law_any" = true)
    (k_law_any : PySem.W.keepIn K (.ref flaw_any) = true)
    (a_law_names : PySem.W.nsIn K mainGlobals "_law_names" = some (some (.ref flaw_names)))
    (l_law_names : K.lookup flaw_names = some ⟨oclaw_names, odlaw_names, .func (PySem.W.fnOf "_law_names" "_law_names" (defArgs s_law_names) (defBody s_law_names) (defScope s_law_names) .none kVlaw_names dclaw_names pmlaw_names anlaw_names cdlaw_names ctlaw_names), sllaw_names⟩)
    (c_law_names : PySem.W.codeIn K cdlaw_names "_law_names" = true)
    (k_law_names : PySem.W.keepIn K (.ref flaw_names) = true)
    (a_law_part_led : PySem.W.nsIn K mainGlobals "_law_part_led" = some (some (.ref flaw_part_led)))
    (l_law_part_led : K.lookup flaw_part_led = some ⟨oclaw_part_led, odlaw_part_led, .func (PySem.W.fnOf "_law_part_led" "_law_part_led" (defArgs s_law_part_led) (defBody s_law_part_led) (defScope s_law_part_led) .none kVlaw_part_led dclaw_part_led pmlaw_part_led anlaw_part_led cdlaw_part_led ctlaw_part_led), sllaw_part_led⟩)
    (c_law_part_led : PySem.W.codeIn K cdlaw_part_led "_law_part_led" = true)
    (k_law_part_led : PySem.W.keepIn K (.ref flaw_part_led) = true)
    (a_law_lists : PySem.W.nsIn K mainGlobals "_law_lists" = some (some (.ref flaw_lists)))
    (l_law_lists : K.lookup flaw_lists = some ⟨oclaw_lists, odlaw_lists, .func (PySem.W.fnOf "_law_lists" "_law_lists" (defArgs s_law_lists) (defBody s_law_lists) (defScope s_law_lists) .none kVlaw_lists dclaw_lists pmlaw_lists anlaw_lists cdlaw_lists ctlaw_lists), sllaw_lists⟩)
    (c_law_lists : PySem.W.codeIn K cdlaw_lists "_law_lists" = true)
    (k_law_lists : PySem.W.keepIn K (.ref flaw_lists) = true)
    (a_Group__init__ : PySem.W.findIn K (.ref cGroup) "__init__" = some (some (.ref fGroup__init__)))
    (i_Group__init__ : PySem.W.isFn K (.ref fGroup__init__) = true)
    (l_Group__init__ : K.lookup fGroup__init__ = some ⟨ocGroup__init__, odGroup__init__, .func (PySem.W.fnOf "__init__" "Group.__init__" (defArgs s_Group__init__) (defBody s_Group__init__) (defScope s_Group__init__) .none kVGroup__init__ dcGroup__init__ pmGroup__init__ anGroup__init__ cdGroup__init__ ctGroup__init__), slGroup__init__⟩)
    (c_Group__init__ : PySem.W.codeIn K cdGroup__init__ "Group.__init__" = true)
    (k_Group__init__ : PySem.W.keepIn K (.ref fGroup__init__) = true)
    (a_is_lot : PySem.W.nsIn K mainGlobals "is_lot" = some (some (.ref fis_lot)))
    (l_is_lot : K.lookup fis_lot = some ⟨ocis_lot, odis_lot, .func (PySem.W.fnOf "is_lot" "is_lot" (defArgs s_is_lot) (defBody s_is_lot) (defScope s_is_lot) .none kVis_lot dcis_lot pmis_lot anis_lot cdis_lot ctis_lot), slis_lot⟩)
    (c_is_lot : PySem.W.codeIn K cdis_lot "is_lot" = true)
    (k_is_lot : PySem.W.keepIn K (.ref fis_lot) = true)
    (a_keepers_of : PySem.W.nsIn K mainGlobals "keepers_of" = some (some (.ref fkeepers_of)))
    (l_keepers_of : K.lookup fkeepers_of = some ⟨ockeepers_of, odkeepers_of, .func (PySem.W.fnOf "keepers_of" "keepers_of" (defArgs s_keepers_of) (defBody s_keepers_of) (defScope s_keepers_of) .none kVkeepers_of dckeepers_of pmkeepers_of ankeepers_of cdkeepers_of ctkeepers_of), slkeepers_of⟩)
    (c_keepers_of : PySem.W.codeIn K cdkeepers_of "keepers_of" = true)
    (k_keepers_of : PySem.W.keepIn K (.ref fkeepers_of) = true)
    (a_law_table : PySem.W.nsIn K mainGlobals "_law_table" = some (some (.ref flaw_table)))
    (l_law_table : K.lookup flaw_table = some ⟨oclaw_table, odlaw_table, .func (PySem.W.fnOf "_law_table" "_law_table" (defArgs s_law_table) (defBody s_law_table) (defScope s_law_table) .none kVlaw_table dclaw_table pmlaw_table anlaw_table cdlaw_table ctlaw_table), sllaw_table⟩)
    (c_law_table : PySem.W.codeIn K cdlaw_table "_law_table" = true)
    (k_law_table : PySem.W.keepIn K (.ref flaw_table) = true)
    (a_is_part : PySem.W.nsIn K mainGlobals "is_part" = some (some (.ref fis_part)))
    (l_is_part : K.lookup fis_part = some ⟨ocis_part, odis_part, .func (PySem.W.fnOf "is_part" "is_part" (defArgs s_is_part) (defBody s_is_part) (defScope s_is_part) .none kVis_part dcis_part pmis_part anis_part cdis_part ctis_part), slis_part⟩)
    (c_is_part : PySem.W.codeIn K cdis_part "is_part" = true)
    (k_is_part : PySem.W.keepIn K (.ref fis_part) = true)
    (a_check_part : PySem.W.nsIn K mainGlobals "check_part" = some (some (.ref fcheck_part)))
    (l_check_part : K.lookup fcheck_part = some ⟨occheck_part, odcheck_part, .func (PySem.W.fnOf "check_part" "check_part" (defArgs s_check_part) (defBody s_check_part) (defScope s_check_part) .none kVcheck_part dccheck_part pmcheck_part ancheck_part cdcheck_part ctcheck_part), slcheck_part⟩)
    (c_check_part : PySem.W.codeIn K cdcheck_part "check_part" = true)
    (k_check_part : PySem.W.keepIn K (.ref fcheck_part) = true)
    (a_led_together : PySem.W.nsIn K mainGlobals "led_together" = some (some (.ref fled_together)))
    (l_led_together : K.lookup fled_together = some ⟨ocled_together, odled_together, .func (PySem.W.fnOf "led_together" "led_together" (defArgs s_led_together) (defBody s_led_together) (defScope s_led_together) .none kVled_together dcled_together pmled_together anled_together cdled_together ctled_together), slled_together⟩)
    (c_led_together : PySem.W.codeIn K cdled_together "led_together" = true)
    (k_led_together : PySem.W.keepIn K (.ref fled_together) = true)
    (a_led_within : PySem.W.nsIn K mainGlobals "led_within" = some (some (.ref fled_within)))
    (l_led_within : K.lookup fled_within = some ⟨ocled_within, odled_within, .func (PySem.W.fnOf "led_within" "led_within" (defArgs s_led_within) (defBody s_led_within) (defScope s_led_within) .none kVled_within dcled_within pmled_within anled_within cdled_within ctled_within), slled_within⟩)
    (c_led_within : PySem.W.codeIn K cdled_within "led_within" = true)
    (k_led_within : PySem.W.keepIn K (.ref fled_within) = true)
    (a_moves_of : PySem.W.nsIn K mainGlobals "moves_of" = some (some (.ref fmoves_of)))
    (l_moves_of : K.lookup fmoves_of = some ⟨ocmoves_of, odmoves_of, .func (PySem.W.fnOf "moves_of" "moves_of" (defArgs s_moves_of) (defBody s_moves_of) (defScope s_moves_of) .none kVmoves_of dcmoves_of pmmoves_of anmoves_of cdmoves_of ctmoves_of), slmoves_of⟩)
    (c_moves_of : PySem.W.codeIn K cdmoves_of "moves_of" = true)
    (k_moves_of : PySem.W.keepIn K (.ref fmoves_of) = true)
    (a_keeps_leading : PySem.W.nsIn K mainGlobals "keeps_leading" = some (some (.ref fkeeps_leading)))
    (l_keeps_leading : K.lookup fkeeps_leading = some ⟨ockeeps_leading, odkeeps_leading, .func (PySem.W.fnOf "keeps_leading" "keeps_leading" (defArgs s_keeps_leading) (defBody s_keeps_leading) (defScope s_keeps_leading) .none kVkeeps_leading dckeeps_leading pmkeeps_leading ankeeps_leading cdkeeps_leading ctkeeps_leading), slkeeps_leading⟩)
    (c_keeps_leading : PySem.W.codeIn K cdkeeps_leading "keeps_leading" = true)
    (k_keeps_leading : PySem.W.keepIn K (.ref fkeeps_leading) = true)
    (a_is_kept_leading : PySem.W.nsIn K mainGlobals "is_kept_leading" = some (some (.ref fis_kept_leading)))
    (l_is_kept_leading : K.lookup fis_kept_leading = some ⟨ocis_kept_leading, odis_kept_leading, .func (PySem.W.fnOf "is_kept_leading" "is_kept_leading" (defArgs s_is_kept_leading) (defBody s_is_kept_leading) (defScope s_is_kept_leading) .none kVis_kept_leading dcis_kept_leading pmis_kept_leading anis_kept_leading cdis_kept_leading ctis_kept_leading), slis_kept_leading⟩)
    (c_is_kept_leading : PySem.W.codeIn K cdis_kept_leading "is_kept_leading" = true)
    (k_is_kept_leading : PySem.W.keepIn K (.ref fis_kept_leading) = true)
    (a_differences : PySem.W.nsIn K mainGlobals "differences" = some (some (.ref fdifferences)))
    (l_differences : K.lookup fdifferences = some ⟨ocdifferences, oddifferences, .func (PySem.W.fnOf "differences" "differences" (defArgs s_differences) (defBody s_differences) (defScope s_differences) .none kVdifferences dcdifferences pmdifferences andifferences cddifferences ctdifferences), sldifferences⟩)
    (c_differences : PySem.W.codeIn K cddifferences "differences" = true)
    (k_differences : PySem.W.keepIn K (.ref fdifferences) = true)
    (a_law_is_refused : PySem.W.nsIn K mainGlobals "_law_is_refused" = some (some (.ref flaw_is_refused)))
    (l_law_is_refused : K.lookup flaw_is_refused = some ⟨oclaw_is_refused, odlaw_is_refused, .func (PySem.W.fnOf "_law_is_refused" "_law_is_refused" (defArgs s_law_is_refused) (defBody s_law_is_refused) (defScope s_law_is_refused) .none kVlaw_is_refused dclaw_is_refused pmlaw_is_refused anlaw_is_refused cdlaw_is_refused ctlaw_is_refused), sllaw_is_refused⟩)
    (c_law_is_refused : PySem.W.codeIn K cdlaw_is_refused "_law_is_refused" = true)
    (k_law_is_refused : PySem.W.keepIn K (.ref flaw_is_refused) = true)
    (a_law : PySem.W.nsIn K mainGlobals "law" = some (some (.ref flaw)))
    (l_law : K.lookup flaw = some ⟨oclaw, odlaw, .func (PySem.W.fnOf "law" "law" (defArgs s_law) (defBody s_law) (defScope s_law) .none kVlaw dclaw pmlaw anlaw (.ref cc) ctlaw), sllaw⟩)
    (c_law : PySem.W.codeIn K (.ref cc) "law" = true)
    (l_code : K.lookup cc = some ⟨ocode, odcode, .fields vcode, slcode⟩)
    (v_code : vcode[11]? = some (.ref Pt))
    (h_code : PySem.W.codeHdIn K cc Pt = true)
    (n_tab : K.lookup Pt = none)
    (xl_NoPart : K.lookup cNoPart = some (excClassObj xnNoPart xqNoPart cNoPart xNNoPart xbsNoPart xbmNoPart true xsnNoPart xsubNoPart xabNoPart xcolNoPart xddNoPart xaNoPart xbNoPart xcNoPart xdNoPart xeNoPart "ValueError.__new__"))
    (xm_NoPart : PySem.HandSPX.refsVE xbmNoPart = true)
    (xs_NoPart : PySem.W.findIn K (.ref cNoPart) "__setattr__" = some (some (.builtin "object.__setattr__")))
    (xe_NoPart : PySem.W.subIn K (.ref cNoPart) (.type "BaseException") = some true)
    (xt_NoPart : PySem.W.typeIn K (.ref cNoPart) = some (.type "type"))
    (xk_NoPart : PySem.W.keepIn K (.ref cNoPart) = true)
    (ia_NoPart : PySem.W.findIn K (.ref cNoPart) "__init__" = some (some (.ref gNoPart)))
    (it_NoPart : PySem.W.typeIn K (.ref gNoPart) = some (.type "function"))
    (il_NoPart : K.lookup gNoPart = some ⟨gocNoPart, godNoPart, .func (PySem.W.ksFn "__init__" "NoPart.__init__" (defArgs (inClass (top 3) 0)) (defBody (inClass (top 3) 0)) (defScope (inClass (top 3) 0)) .none gkVNoPart gdcNoPart gpmNoPart ganNoPart (.ref gcdNoPart) gctNoPart gccNoPart), gslNoPart⟩)
    (ic_NoPart : PySem.W.codeIn K (.ref gcdNoPart) "NoPart.__init__" = true)
    (io_NoPart : K.lookup gcdNoPart = some ⟨hocNoPart, hodNoPart, .fields hvsNoPart, hslNoPart⟩)
    (iv_NoPart : hvsNoPart[2]? = some (.str hflNoPart htfNoPart))
    (if_NoPart : ((PySem.Challenge.pw_tablegroups_k77_whole_what_leads_togethe.main.file : Str) == hflNoPart) = true)
    (ik_NoPart : K.lookup gccNoPart = some ⟨jocNoPart, jodNoPart, .cell (some (.ref cNoPart)), jslNoPart⟩)
    (is_NoPart : PySem.W.ks_superIn K cNoPart cNoPart "__init__" = some (some (.builtin "ValueError.__init__")))
    (iw_NoPart : PySem.W.subIn K (.ref cNoPart) (.type "ValueError") = some true)
    (iy_NoPart : PySem.W.mroIn K cNoPart (.ref cNoPart) = some true)
    (xst : PySem.W.nsIn K cStatics "thirdparty.any" = some none)
    (zsuper : PySem.W.nsIn K mainGlobals "super" = some none)
    (re1 : PySem.W.subIn K (.ref cGroupError) (.type "BaseException") = some true)
    (re2 : PySem.W.hasDictIn K cGroupError = true)
    (re3 : PySem.W.typeIn K (.ref cGroupError) = some (.type "type"))
    (re4 : PySem.W.subIn K (.ref cNoPart) (.ref cGroupError) = some true)
    (rg : PySem.W.findIn K (.ref cNoPart) "__getattribute__" = some (some (.builtin "BaseException.__getattribute__")))
    (rk : PySem.W.findIn K (.ref cNoPart) "__getattr__" = some none)
    (rd : PySem.W.hasDictIn K cNoPart = true)
    (ra : PySem.W.findIn K (.ref cNoPart) "__class__" = some (some (.builtin "object.__class__")))
    (rn : PySem.W.specialIn K (.builtin "object.__class__") "__get__" = some (some (.builtin "getset_descriptor.__get__")))
    (rt : PySem.W.takesIn K (.builtin "object.__class__") = some true)
    (rm : PySem.W.mroIn K cNoPart (.type "object") = some true)
    (rk1 : PySem.W.kitOne K (.ref cNoPart) (.ref cNoPart) = some true)
    (rk2 : PySem.W.kitOne K (.ref cNoPart) (.type "ValueError") = some true)
    (mir : ∀ (C : Cs) (Pt : Addr) (ns : List Int), ns.length ≤ 63 → ∃ h', runB (m_law C Pt) 24 [.p (.fz (ns.map .int))] [.tab Pt lamQ] = .ok (.p (.bl true)) h') :
    LawG PySem.Challenge.pw_tablegroups_k77_whole_what_leads_togethe w K 63 mg fa h := by
  have e := hfa.symm.trans (PySem.W.mg_of X G a_law)
  cases e
  let C : Cs := ⟨cGroupError, cBadGroup, cNoPart, cGroup⟩
  have T : Txt K mg C := ⟨PySem.W.mg_none_of X G z_ValueError, PySem.W.mg_none_of X G z_abs, PySem.W.mg_none_of X G z_all, PySem.W.mg_none_of X G z_bool, PySem.W.mg_none_of X G z_enumerate, PySem.W.mg_none_of X G z_int, PySem.W.mg_none_of X G z_isinstance, PySem.W.mg_none_of X G z_len, PySem.W.mg_none_of X G z_list, PySem.W.mg_none_of X G z_range, PySem.W.mg_none_of X G z_repr, PySem.W.mg_none_of X G z_sorted, PySem.W.mg_none_of X G z_tuple, PySem.W.mg_none_of X G z_zip, ⟨_, PySem.W.mg_of X G g_MOST_MEMBERS⟩, PySem.W.mg_of X G a_GroupError, PySem.W.mg_of X G a_BadGroup, PySem.W.mg_of X G a_NoPart, PySem.W.mg_of X G a_Group, ⟨pg_Group, hd_Group, po_Group, sa_Group⟩, na_Group_backs, na_Group_many, na_Group_table⟩
  have X_NoPart : ExcK PySem.Challenge.pw_tablegroups_k77_whole_what_leads_togethe K mg "NoPart" C.NoPart := ⟨PySem.W.mg_of X G a_NoPart, ⟨⟨_, _, _, _, _, _, _, _, _, _, _, _, _, _, _, xl_NoPart, xm_NoPart⟩, xs_NoPart, xe_NoPart, xt_NoPart, xk_NoPart⟩, gNoPart, "self", _,
    ⟨ia_NoPart, it_NoPart, ⟨_, _, _, _, _, _, _, _, _, _, _, _, _, _, il_NoPart, ic_NoPart, ⟨_, _, _, _, _, _, io_NoPart, iv_NoPart, if_NoPart⟩, ⟨_, _, _, ik_NoPart⟩, ⟨_, _, _, _, _, _, _, rfl, fun _ => ⟨_, rfl⟩⟩, ⟨_, rfl, rfl⟩, rfl, rfl, rfl, rfl, by decide +kernel, rfl, rfl, fun _ => rfl⟩, is_NoPart, xst, iw_NoPart, iy_NoPart, PySem.W.mg_none_of X G zsuper, by kernel_rfl⟩⟩
  refine ⟨cc, Pt, own cc Pt _ _ _ _ _ _ l_law rfl rfl l_code v_code, n_tab, PySem.W.codeHd_of_K X h_code, ?_⟩
  intro base H s₁ a ns kb nb TB e0 hP hS aP hl
  have D_is_integer := fun_mk (st := s_is_integer) l_is_integer c_is_integer k_is_integer
  have G_is_integer : Fnc PySem.Challenge.pw_tablegroups_k77_whole_what_leads_togethe w K mg base 1 "is_integer" 1 (F_is_integer C) := ⟨_, _, _, ok_is_integer T D_is_integer, PySem.W.mg_of X G a_is_integer, k_is_integer, (D_is_integer.binds (ps := ["thing"]) fun _ _ _ _ _ _ us hl => match us, hl with | [_], _ => rfl)⟩
  have D_is_tuple := fun_mk (st := s_is_tuple) l_is_tuple c_is_tuple k_is_tuple
  have G_is_tuple : Fnc PySem.Challenge.pw_tablegroups_k77_whole_what_leads_togethe w K mg base 1 "is_tuple" 3 (F_is_tuple C) := ⟨_, _, _, ok_is_tuple T D_is_tuple, PySem.W.mg_of X G a_is_tuple, k_is_tuple, (D_is_tuple.binds (ps := ["thing", "least", "most"]) fun _ _ _ _ _ _ us hl => match us, hl with | [_, _, _], _ => rfl)⟩
  have D_goes_together := fun_mk (st := s_goes_together) l_goes_together c_goes_together k_goes_together
  have G_goes_together : Fnc PySem.Challenge.pw_tablegroups_k77_whole_what_leads_togethe w K mg base 1 "goes_together" 1 (F_goes_together C) := ⟨_, _, _, ok_goes_together T D_goes_together, PySem.W.mg_of X G a_goes_together, k_goes_together, (D_goes_together.binds (ps := ["table"]) fun _ _ _ _ _ _ us hl => match us, hl with | [_], _ => rfl)⟩
  have D_about := fun_mk (st := s_about) l_about c_about k_about
  have G_about : Fnc PySem.Challenge.pw_tablegroups_k77_whole_what_leads_togethe w K mg base 1 "about" 3 (F_about C) := ⟨_, _, _, ok_about T D_about, PySem.W.mg_of X G a_about, k_about, (D_about.binds (ps := ["group", "one", "other"]) fun _ _ _ _ _ _ us hl => match us, hl with | [_, _, _], _ => rfl)⟩
  have D_closed_by := fun_mk (st := s_closed_by) l_closed_by c_closed_by k_closed_by
  have G_closed_by : Fnc PySem.Challenge.pw_tablegroups_k77_whole_what_leads_togethe w K mg base 1 "closed_by" 2 (F_closed_by C) := ⟨_, _, _, ok_closed_by T D_closed_by, PySem.W.mg_of X G a_closed_by, k_closed_by, (D_closed_by.binds (ps := ["group", "some"]) fun _ _ _ _ _ _ us hl => match us, hl with | [_, _], _ => rfl)⟩
  have D_law_hand := fun_mk (st := s_law_hand) l_law_hand c_law_hand k_law_hand
  have G_law_hand : Fnc PySem.Challenge.pw_tablegroups_k77_whole_what_leads_togethe w K mg base 1 "_law_hand" 1 (F_law_hand C) := ⟨_, _, _, ok_law_hand T D_law_hand, PySem.W.mg_of X G a_law_hand, k_law_hand, (D_law_hand.binds (ps := ["script"]) fun _ _ _ _ _ _ us hl => match us, hl with | [_], _ => rfl)⟩
  have D_law_draw := fun_mk (st := s_law_draw) l_law_draw c_law_draw k_law_draw
  have G_law_draw : Fnc PySem.Challenge.pw_tablegroups_k77_whole_what_leads_togethe w K mg base 1 "_law_draw" 2 (F_law_draw C) := ⟨_, _, _, ok_law_draw T D_law_draw, PySem.W.mg_of X G a_law_draw, k_law_draw, (D_law_draw.binds (ps := ["hand", "many"]) fun _ _ _ _ _ _ us hl => match us, hl with | [_, _], _ => rfl)⟩
  have D_law_ring := fun_mk (st := s_law_ring) l_law_ring c_law_ring k_law_ring
  have G_law_ring : Fnc PySem.Challenge.pw_tablegroups_k77_whole_what_leads_togethe w K mg base 1 "_law_ring" 1 (F_law_ring C) := ⟨_, _, _, ok_law_ring T D_law_ring, PySem.W.mg_of X G a_law_ring, k_law_ring, (D_law_ring.binds (ps := ["many"]) fun _ _ _ _ _ _ us hl => match us, hl with | [_], _ => rfl)⟩
  have D_law_flips := fun_mk (st := s_law_flips) l_law_flips c_law_flips k_law_flips
  have G_law_flips : Fnc PySem.Challenge.pw_tablegroups_k77_whole_what_leads_togethe w K mg base 1 "_law_flips" 2 (F_law_flips C) := ⟨_, _, _, ok_law_flips T D_law_flips, PySem.W.mg_of X G a_law_flips, k_law_flips, (D_law_flips.binds (ps := ["many", "half"]) fun _ _ _ _ _ _ us hl => match us, hl with | [_, _], _ => rfl)⟩
  have D_law_pairs := fun_mk (st := s_law_pairs) l_law_pairs c_law_pairs k_law_pairs
  have G_law_pairs : Fnc PySem.Challenge.pw_tablegroups_k77_whole_what_leads_togethe w K mg base 1 "_law_pairs" 2 (F_law_pairs C) := ⟨_, _, _, ok_law_pairs T D_law_pairs, PySem.W.mg_of X G a_law_pairs, k_law_pairs, (D_law_pairs.binds (ps := ["one", "other"]) fun _ _ _ _ _ _ us hl => match us, hl with | [_, _], _ => rfl)⟩
  have D_law_called := fun_mk (st := s_law_called) l_law_called c_law_called k_law_called
  have G_law_called : Fnc PySem.Challenge.pw_tablegroups_k77_whole_what_leads_togethe w K mg base 1 "_law_called" 2 (F_law_called C) := ⟨_, _, _, ok_law_called T D_law_called, PySem.W.mg_of X G a_law_called, k_law_called, (D_law_called.binds (ps := ["table_here", "names_here"]) fun _ _ _ _ _ _ us hl => match us, hl with | [_, _], _ => rfl)⟩
  have D_law_closed := fun_mk (st := s_law_closed) l_law_closed c_law_closed k_law_closed
  have G_law_closed : Fnc PySem.Challenge.pw_tablegroups_k77_whole_what_leads_togethe w K mg base 1 "_law_closed" 2 (F_law_closed C) := ⟨_, _, _, ok_law_closed T D_law_closed, PySem.W.mg_of X G a_law_closed, k_law_closed, (D_law_closed.binds (ps := ["rows", "some"]) fun _ _ _ _ _ _ us hl => match us, hl with | [_, _], _ => rfl)⟩
  have D_law_led := fun_mk (st := s_law_led) l_law_led c_law_led k_law_led
  have G_law_led : Fnc PySem.Challenge.pw_tablegroups_k77_whole_what_leads_togethe w K mg base 1 "_law_led" 3 (F_law_led C) := ⟨_, _, _, ok_law_led T D_law_led, PySem.W.mg_of X G a_law_led, k_law_led, (D_law_led.binds (ps := ["rows", "one", "by"]) fun _ _ _ _ _ _ us hl => match us, hl with | [_, _, _], _ => rfl)⟩
  have D_is_within := fun_mk (st := s_is_within) l_is_within c_is_within k_is_within
  have G_is_within : Fnc PySem.Challenge.pw_tablegroups_k77_whole_what_leads_togethe w K mg base 2 "is_within" 3 (F_is_within C) := ⟨_, _, _, ok_is_within T D_is_within G_is_integer, PySem.W.mg_of X G a_is_within, k_is_within, (D_is_within.binds (ps := ["thing", "least", "most"]) fun _ _ _ _ _ _ us hl => match us, hl with | [_, _, _], _ => rfl)⟩
  have D_led_lot := fun_mk (st := s_led_lot) l_led_lot c_led_lot k_led_lot
  have G_led_lot : Fnc PySem.Challenge.pw_tablegroups_k77_whole_what_leads_togethe w K mg base 2 "led_lot" 3 (F_led_lot C) := ⟨_, _, _, ok_led_lot T D_led_lot G_about, PySem.W.mg_of X G a_led_lot, k_led_lot, (D_led_lot.binds (ps := ["group", "lot", "one"]) fun _ _ _ _ _ _ us hl => match us, hl with | [_, _, _], _ => rfl)⟩
  have D_law_any := fun_mk (st := s_law_any) l_law_any c_law_any k_law_any
  have G_law_any : Fnc PySem.Challenge.pw_tablegroups_k77_whole_what_leads_togethe w K mg base 2 "_law_any" 2 (F_law_any C) := ⟨_, _, _, ok_law_any T D_law_any G_law_draw, PySem.W.mg_of X G a_law_any, k_law_any, (D_law_any.binds (ps := ["hand", "some"]) fun _ _ _ _ _ _ us hl => match us, hl with | [_, _], _ => rfl)⟩
  have D_law_names := fun_mk (st := s_law_names) l_law_names c_law_names k_law_names
  have G_law_names : Fnc PySem.Challenge.pw_tablegroups_k77_whole_what_leads_togethe w K mg base 2 "_law_names" 2 (F_law_names C) := ⟨_, _, _, ok_law_names T D_law_names G_law_draw, PySem.W.mg_of X G a_law_names, k_law_names, (D_law_names.binds (ps := ["hand", "many"]) fun _ _ _ _ _ _ us hl => match us, hl with | [_, _], _ => rfl)⟩
  have D_law_part_led := fun_mk (st := s_law_part_led) l_law_part_led c_law_part_led k_law_part_led
  have G_law_part_led : Fnc PySem.Challenge.pw_tablegroups_k77_whole_what_leads_togethe w K mg base 2 "_law_part_led" 3 (F_law_part_led C) := ⟨_, _, _, ok_law_part_led T D_law_part_led G_law_led, PySem.W.mg_of X G a_law_part_led, k_law_part_led, (D_law_part_led.binds (ps := ["rows", "part", "by"]) fun _ _ _ _ _ _ us hl => match us, hl with | [_, _, _], _ => rfl)⟩
  have D_law_lists := fun_mk (st := s_law_lists) l_law_lists c_law_lists k_law_lists
  have G_law_lists : Fnc PySem.Challenge.pw_tablegroups_k77_whole_what_leads_togethe w K mg base 2 "_law_lists" 3 (F_law_lists C) := ⟨_, _, _, ok_law_lists T D_law_lists G_law_led, PySem.W.mg_of X G a_law_lists, k_law_lists, (D_law_lists.binds (ps := ["rows", "part", "leaders"]) fun _ _ _ _ _ _ us hl => match us, hl with | [_, _, _], _ => rfl)⟩
  have D_Group__init__ := fun_mk (st := s_Group__init__) l_Group__init__ c_Group__init__ k_Group__init__
  have G_Group__init__ : Mkc PySem.Challenge.pw_tablegroups_k77_whole_what_leads_togethe w K mg base 3 "Group" C.Group 2 (F_Group__init__ C) := ⟨_, _, _, ⟨mk_Group, a_Group__init__, i_Group__init__, kc_Group⟩, ok_Group__init__ T D_Group__init__ G_goes_together G_is_tuple G_is_within, PySem.W.mg_of X G a_Group, (D_Group__init__.binds (ps := ["self", "table"]) fun _ _ _ _ _ _ us hl => match us, hl with | [_, _], _ => rfl)⟩
  have D_is_lot := fun_mk (st := s_is_lot) l_is_lot c_is_lot k_is_lot
  have G_is_lot : Fnc PySem.Challenge.pw_tablegroups_k77_whole_what_leads_togethe w K mg base 3 "is_lot" 2 (F_is_lot C) := ⟨_, _, _, ok_is_lot T D_is_lot G_is_tuple G_is_within, PySem.W.mg_of X G a_is_lot, k_is_lot, (D_is_lot.binds (ps := ["group", "thing"]) fun _ _ _ _ _ _ us hl => match us, hl with | [_, _], _ => rfl)⟩
  have D_keepers_of := fun_mk (st := s_keepers_of) l_keepers_of c_keepers_of k_keepers_of
  have G_keepers_of : Fnc PySem.Challenge.pw_tablegroups_k77_whole_what_leads_togethe w K mg base 3 "keepers_of" 2 (F_keepers_of C) := ⟨_, _, _, ok_keepers_of T D_keepers_of G_led_lot, PySem.W.mg_of X G a_keepers_of, k_keepers_of, (D_keepers_of.binds (ps := ["group", "lot"]) fun _ _ _ _ _ _ us hl => match us, hl with | [_, _], _ => rfl)⟩
  have D_law_table := fun_mk (st := s_law_table) l_law_table c_law_table k_law_table
  have G_law_table : Fnc PySem.Challenge.pw_tablegroups_k77_whole_what_leads_togethe w K mg base 3 "_law_table" 1 (F_law_table C) := ⟨_, _, _, ok_law_table T D_law_table G_law_any G_law_called G_law_draw G_law_flips G_law_names G_law_pairs G_law_ring, PySem.W.mg_of X G a_law_table, k_law_table, (D_law_table.binds (ps := ["hand"]) fun _ _ _ _ _ _ us hl => match us, hl with | [_], _ => rfl)⟩
  have D_is_part := fun_mk (st := s_is_part) l_is_part c_is_part k_is_part
  have G_is_part : Fnc PySem.Challenge.pw_tablegroups_k77_whole_what_leads_togethe w K mg base 4 "is_part" 2 (F_is_part C) := ⟨_, _, _, ok_is_part T D_is_part G_closed_by G_is_lot, PySem.W.mg_of X G a_is_part, k_is_part, (D_is_part.binds (ps := ["group", "thing"]) fun _ _ _ _ _ _ us hl => match us, hl with | [_, _], _ => rfl)⟩
  have D_check_part := fun_mk (st := s_check_part) l_check_part c_check_part k_check_part
  have G_check_part : Fnc PySem.Challenge.pw_tablegroups_k77_whole_what_leads_togethe w K mg base 5 "check_part" 2 (F_check_part C) := ⟨_, _, _, ok_check_part T D_check_part G_is_part X_NoPart, PySem.W.mg_of X G a_check_part, k_check_part, (D_check_part.binds (ps := ["group", "thing"]) fun _ _ _ _ _ _ us hl => match us, hl with | [_, _], _ => rfl)⟩
  have D_led_together := fun_mk (st := s_led_together) l_led_together c_led_together k_led_together
  have G_led_together : Fnc PySem.Challenge.pw_tablegroups_k77_whole_what_leads_togethe w K mg base 6 "led_together" 2 (F_led_together C) := ⟨_, _, _, ok_led_together T D_led_together G_about G_check_part, PySem.W.mg_of X G a_led_together, k_led_together, (D_led_together.binds (ps := ["group", "part"]) fun _ _ _ _ _ _ us hl => match us, hl with | [_, _], _ => rfl)⟩
  have D_led_within := fun_mk (st := s_led_within) l_led_within c_led_within k_led_within
  have G_led_within : Fnc PySem.Challenge.pw_tablegroups_k77_whole_what_leads_togethe w K mg base 6 "led_within" 2 (F_led_within C) := ⟨_, _, _, ok_led_within T D_led_within G_about G_check_part, PySem.W.mg_of X G a_led_within, k_led_within, (D_led_within.binds (ps := ["group", "part"]) fun _ _ _ _ _ _ us hl => match us, hl with | [_, _], _ => rfl)⟩
  have D_moves_of := fun_mk (st := s_moves_of) l_moves_of c_moves_of k_moves_of
  have G_moves_of : Fnc PySem.Challenge.pw_tablegroups_k77_whole_what_leads_togethe w K mg base 6 "moves_of" 2 (F_moves_of C) := ⟨_, _, _, ok_moves_of T D_moves_of G_check_part G_led_lot, PySem.W.mg_of X G a_moves_of, k_moves_of, (D_moves_of.binds (ps := ["group", "part"]) fun _ _ _ _ _ _ us hl => match us, hl with | [_, _], _ => rfl)⟩
  have D_keeps_leading := fun_mk (st := s_keeps_leading) l_keeps_leading c_keeps_leading k_keeps_leading
  have G_keeps_leading : Fnc PySem.Challenge.pw_tablegroups_k77_whole_what_leads_togethe w K mg base 7 "keeps_leading" 2 (F_keeps_leading C) := ⟨_, _, _, ok_keeps_leading T D_keeps_leading G_led_together G_led_within, PySem.W.mg_of X G a_keeps_leading, k_keeps_leading, (D_keeps_leading.binds (ps := ["group", "part"]) fun _ _ _ _ _ _ us hl => match us, hl with | [_, _], _ => rfl)⟩
  have D_is_kept_leading := fun_mk (st := s_is_kept_leading) l_is_kept_leading c_is_kept_leading k_is_kept_leading
  have G_is_kept_leading : Fnc PySem.Challenge.pw_tablegroups_k77_whole_what_leads_togethe w K mg base 7 "is_kept_leading" 2 (F_is_kept_leading C) := ⟨_, _, _, ok_is_kept_leading T D_is_kept_leading G_about G_check_part G_keepers_of G_led_together, PySem.W.mg_of X G a_is_kept_leading, k_is_kept_leading, (D_is_kept_leading.binds (ps := ["group", "part"]) fun _ _ _ _ _ _ us hl => match us, hl with | [_, _], _ => rfl)⟩
  have D_differences := fun_mk (st := s_differences) l_differences c_differences k_differences
  have G_differences : Fnc PySem.Challenge.pw_tablegroups_k77_whole_what_leads_togethe w K mg base 7 "differences" 2 (F_differences C) := ⟨_, _, _, ok_differences T D_differences G_check_part G_closed_by G_led_together, PySem.W.mg_of X G a_differences, k_differences, (D_differences.binds (ps := ["group", "part"]) fun _ _ _ _ _ _ us hl => match us, hl with | [_, _], _ => rfl)⟩
  have RF : RefF K mg "_law_is_refused" "call" s_law_is_refused := ⟨_, _, _, _, _, _, _, _, _, _, PySem.W.mg_of X G a_law_is_refused, k_law_is_refused, l_law_is_refused, c_law_is_refused, (fun_mk (st := s_law_is_refused) l_law_is_refused c_law_is_refused k_law_is_refused).binds (ps := ["call"]) fun _ _ _ _ _ _ us hl => match us, hl with | [_], _ => rfl⟩
  have RC : LamY.RefC K C.GroupError C.NoPart := ⟨PySem.W.exm_ref re1 re2 re3 re4, ⟨rg, rk, xe_NoPart, rd, ra, rn, rt, rm⟩, rk1, rk2⟩
  exact law_run (n := 63) (k := 9) (N := ["script", "hand", "turn", "rows", "group", "many", "part", "every", "together_so", "within_so", "told_lists", "keepers_here", "some", "lot", "one", "due", "by", "bad", "said", "member", "a", "pair", "other", "row"]) (q := lamQ) l_law c_law sc_law (fun _ _ _ _ _ _ us hl => match us, hl with | [_], _ => rfl) ⟨rfl, by decide, by decide⟩ (fun hr => body_law T G_law_any G_law_closed G_law_draw G_law_hand G_law_lists G_law_part_led G_law_table G_differences G_is_kept_leading G_keeps_leading G_led_together G_led_within G_moves_of G_Group__init__ RF RC TB hr) e0 hP hS aP (mir C Pt ns hl)
end K77
open PySem PySem.W PyProof.Rows in
theorem PySem.Challenge.cw_tablegroups_k77_whole_what_leads_togethe_holds : PySem.Challenge.rw_tablegroups_k77_whole_what_leads_togethe.Holds := by
  w_on; o_law; k_head; (case hw => w_witness2)
  k_fill
  refine EV.walkG (l := PySem.Challenge.rw_tablegroups_k77_whole_what_leads_togethe) (n := 63) rfl (by decide) rfl (by first | rfl | decide +kernel) (fun w h Y => PySem.W.km_in_of Y) ?F
  case F =>
    intro w mg fa h Y KX G hmg own
    refine' K77.top_law KX G hmg own ?a_GroupError ?a_BadGroup ?a_NoPart ?a_Group ?z_ValueError ?z_abs ?z_all ?z_bool ?z_enumerate ?z_int ?z_isinstance ?z_len ?z_list ?z_range ?z_repr ?z_sorted ?z_tuple ?z_zip ?g_MOST_MEMBERS ?pg_Group ?hd_Group ?po_Group ?sa_Group ?mk_Group ?kc_Group ?na_Group_backs ?na_Group_many ?na_Group_table ?a_is_integer ?l_is_integer ?c_is_integer ?k_is_integer ?a_is_tuple ?l_is_tuple ?c_is_tuple ?k_is_tuple ?a_goes_together ?l_goes_together ?c_goes_together ?k_goes_together ?a_about ?l_about ?c_about ?k_about ?a_closed_by ?l_closed_by ?c_closed_by ?k_closed_by ?a_law_hand ?l_law_hand ?c_law_hand ?k_law_hand ?a_law_draw ?l_law_draw ?c_law_draw ?k_law_draw ?a_law_ring ?l_law_ring ?c_law_ring ?k_law_ring ?a_law_flips ?l_law_flips ?c_law_flips ?k_law_flips ?a_law_pairs ?l_law_pairs ?c_law_pairs ?k_law_pairs ?a_law_called ?l_law_called ?c_law_called ?k_law_called ?a_law_closed ?l_law_closed ?c_law_closed ?k_law_closed ?a_law_led ?l_law_led ?c_law_led ?k_law_led ?a_is_within ?l_is_within ?c_is_within ?k_is_within ?a_led_lot ?l_led_lot ?c_led_lot ?k_led_lot ?a_law_any ?l_law_any ?c_law_any ?k_law_any ?a_law_names ?l_law_names ?c_law_names ?k_law_names ?a_law_part_led ?l_law_part_led ?c_law_part_led ?k_law_part_led ?a_law_lists ?l_law_lists ?c_law_lists ?k_law_lists ?a_Group__init__ ?i_Group__init__ ?l_Group__init__ ?c_Group__init__ ?k_Group__init__ ?a_is_lot ?l_is_lot ?c_is_lot ?k_is_lot ?a_keepers_of ?l_keepers_of ?c_keepers_of ?k_keepers_of ?a_law_table ?l_law_table ?c_law_table ?k_law_table ?a_is_part ?l_is_part ?c_is_part ?k_is_part ?a_check_part ?l_check_part ?c_check_part ?k_check_part ?a_led_together ?l_led_together ?c_led_together ?k_led_together ?a_led_within ?l_led_within ?c_led_within ?k_led_within ?a_moves_of ?l_moves_of ?c_moves_of ?k_moves_of ?a_keeps_leading ?l_keeps_leading ?c_keeps_leading ?k_keeps_leading ?a_is_kept_leading ?l_is_kept_leading ?c_is_kept_leading ?k_is_kept_leading ?a_differences ?l_differences ?c_differences ?k_differences ?a_law_is_refused ?l_law_is_refused ?c_law_is_refused ?k_law_is_refused ?a_law ?l_law ?c_law ?l_code ?v_code ?h_code ?n_tab ?xl_NoPart ?xm_NoPart ?xs_NoPart ?xe_NoPart ?xt_NoPart ?xk_NoPart ?ia_NoPart ?it_NoPart ?il_NoPart ?ic_NoPart ?io_NoPart ?iv_NoPart ?if_NoPart ?ik_NoPart ?is_NoPart ?iw_NoPart ?iy_NoPart ?xst ?zsuper ?re1 ?re2 ?re3 ?re4 ?rg ?rk ?rd ?ra ?rn ?rt ?rm ?rk1 ?rk2 ?mir
    (case a_GroupError => (k_is))
    (case a_BadGroup => (k_is))
    (case a_NoPart => (k_is))
    (case a_Group => (k_is))
    (case z_ValueError => (k_is))
    (case z_abs => (k_is))
    (case z_all => (k_is))
    (case z_bool => (k_is))
    (case z_enumerate => (k_is))
    (case z_int => (k_is))
    (case z_isinstance => (k_is))
    (case z_len => (k_is))
    (case z_list => (k_is))
    (case z_range => (k_is))
    (case z_repr => (k_is))
    (case z_sorted => (k_is))
    (case z_tuple => (k_is))
    (case z_zip => (k_is))
    (case g_MOST_MEMBERS => (k_is))
    (case pg_Group => (k_is))
    (case hd_Group => (k_is))
    (case po_Group => (k_is))
    (case sa_Group => (k_is))
    (case mk_Group => (k_is))
    (case kc_Group => (k_is))
    (case na_Group_backs => (k_is))
    (case na_Group_many => (k_is))
    (case na_Group_table => (k_is))
    (case a_is_integer => (k_is))
    (case l_is_integer => (k_is))
    (case c_is_integer => (k_is))
    (case k_is_integer => (k_is))
    (case a_is_tuple => (k_is))
    (case l_is_tuple => (k_is))
    (case c_is_tuple => (k_is))
    (case k_is_tuple => (k_is))
    (case a_goes_together => (k_is))
    (case l_goes_together => (k_is))
    (case c_goes_together => (k_is))
    (case k_goes_together => (k_is))
    (case a_about => (k_is))
    (case l_about => (k_is))
    (case c_about => (k_is))
    (case k_about => (k_is))
    (case a_closed_by => (k_is))
    (case l_closed_by => (k_is))
    (case c_closed_by => (k_is))
    (case k_closed_by => (k_is))
    (case a_law_hand => (k_is))
    (case l_law_hand => (k_is))
    (case c_law_hand => (k_is))
    (case k_law_hand => (k_is))
    (case a_law_draw => (k_is))
    (case l_law_draw => (k_is))
    (case c_law_draw => (k_is))
    (case k_law_draw => (k_is))
    (case a_law_ring => (k_is))
    (case l_law_ring => (k_is))
    (case c_law_ring => (k_is))
    (case k_law_ring => (k_is))
    (case a_law_flips => (k_is))
    (case l_law_flips => (k_is))
    (case c_law_flips => (k_is))
    (case k_law_flips => (k_is))
    (case a_law_pairs => (k_is))
    (case l_law_pairs => (k_is))
    (case c_law_pairs => (k_is))
    (case k_law_pairs => (k_is))
    (case a_law_called => (k_is))
    (case l_law_called => (k_is))
    (case c_law_called => (k_is))
    (case k_law_called => (k_is))
    (case a_law_closed => (k_is))
    (case l_law_closed => (k_is))
    (case c_law_closed => (k_is))
    (case k_law_closed => (k_is))
    (case a_law_led => (k_is))
    (case l_law_led => (k_is))
    (case c_law_led => (k_is))
    (case k_law_led => (k_is))
    (case a_is_within => (k_is))
    (case l_is_within => (k_is))
    (case c_is_within => (k_is))
    (case k_is_within => (k_is))
    (case a_led_lot => (k_is))
    (case l_led_lot => (k_is))
    (case c_led_lot => (k_is))
    (case k_led_lot => (k_is))
    (case a_law_any => (k_is))
    (case l_law_any => (k_is))
    (case c_law_any => (k_is))
    (case k_law_any => (k_is))
    (case a_law_names => (k_is))
    (case l_law_names => (k_is))
    (case c_law_names => (k_is))
    (case k_law_names => (k_is))
    (case a_law_part_led => (k_is))
    (case l_law_part_led => (k_is))
    (case c_law_part_led => (k_is))
    (case k_law_part_led => (k_is))
    (case a_law_lists => (k_is))
    (case l_law_lists => (k_is))
    (case c_law_lists => (k_is))
    (case k_law_lists => (k_is))
    (case a_Group__init__ => (k_is))
    (case i_Group__init__ => (k_is))
    (case l_Group__init__ => (k_is))
    (case c_Group__init__ => (k_is))
    (case k_Group__init__ => (k_is))
    (case a_is_lot => (k_is))
    (case l_is_lot => (k_is))
    (case c_is_lot => (k_is))
    (case k_is_lot => (k_is))
    (case a_keepers_of => (k_is))
    (case l_keepers_of => (k_is))
    (case c_keepers_of => (k_is))
    (case k_keepers_of => (k_is))
    (case a_law_table => (k_is))
    (case l_law_table => (k_is))
    (case c_law_table => (k_is))
    (case k_law_table => (k_is))
    (case a_is_part => (k_is))
    (case l_is_part => (k_is))
    (case c_is_part => (k_is))
    (case k_is_part => (k_is))
    (case a_check_part => (k_is))
    (case l_check_part => (k_is))
    (case c_check_part => (k_is))
    (case k_check_part => (k_is))
    (case a_led_together => (k_is))
    (case l_led_together => (k_is))
    (case c_led_together => (k_is))
    (case k_led_together => (k_is))
    (case a_led_within => (k_is))
    (case l_led_within => (k_is))
    (case c_led_within => (k_is))
    (case k_led_within => (k_is))
    (case a_moves_of => (k_is))
    (case l_moves_of => (k_is))
    (case c_moves_of => (k_is))
    (case k_moves_of => (k_is))
    (case a_keeps_leading => (k_is))
    (case l_keeps_leading => (k_is))
    (case c_keeps_leading => (k_is))
    (case k_keeps_leading => (k_is))
    (case a_is_kept_leading => (k_is))
    (case l_is_kept_leading => (k_is))
    (case c_is_kept_leading => (k_is))
    (case k_is_kept_leading => (k_is))
    (case a_differences => (k_is))
    (case l_differences => (k_is))
    (case c_differences => (k_is))
    (case k_differences => (k_is))
    (case a_law_is_refused => (k_is))
    (case l_law_is_refused => (k_is))
    (case c_law_is_refused => (k_is))
    (case k_law_is_refused => (k_is))
    (case a_law => (k_is))
    (case l_law => (k_is))
    (case c_law => (k_is))
    (case l_code => (k_is))
    (case v_code => (first | rfl | exact rfl | decide +kernel))
    (case h_code => (first | k_is | kernel_rfl | decide +kernel))
    (case n_tab => (first | kernel_rfl | rfl | decide +kernel | k_is))
    (case xl_NoPart => (k_is))
    (case xm_NoPart => (first | rfl | decide +kernel))
    (case xs_NoPart => (k_is))
    (case xe_NoPart => (k_is))
    (case xt_NoPart => (k_is))
    (case xk_NoPart => (k_is))
    (case ia_NoPart => (k_is))
    (case it_NoPart => (k_is))
    (case il_NoPart => (k_is))
    (case ic_NoPart => (k_is))
    (case io_NoPart => (k_is))
    (case iv_NoPart => (first | rfl | decide +kernel))
    (case if_NoPart => (first | rfl | kernel_rfl | decide +kernel))
    (case ik_NoPart => (k_is))
    (case is_NoPart => (first | ks_is | k_is | kernel_rfl))
    (case iw_NoPart => (k_is))
    (case iy_NoPart => (first | k_is | kernel_rfl))
    (case xst => (k_is))
    (case zsuper => (k_is))
    (case re1 => (k_is))
    (case re2 => (k_is))
    (case re3 => (k_is))
    (case re4 => (first | k_is | kernel_rfl))
    (case rg => (k_is))
    (case rk => (k_is))
    (case rd => (k_is))
    (case ra => (k_is))
    (case rn => (k_is))
    (case rt => (first | k_is | rfl | kernel_rfl))
    (case rm => (first | k_is | kernel_rfl))
    (case rk1 => (first | k_is | kernel_rfl))
    (case rk2 => (first | k_is | kernel_rfl))
    (case mir => exact K77.mir_law)
